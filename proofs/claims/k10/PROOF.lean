import PyProof.Rows.All
import Wide.All
import OpenK.AllK
import Wide.FinOn
import HandS.ForMost
import HandS.ForExc
import HandS.CallSlots
import HandS.WideBits
import HandS.SortInts
import HandS.IsInst
import HandS.Style
import HandS.Flow
import HandS.Deep
import HandS.TupAny
import HandS.Gcd
import HandS.Zip
import HandS.Rev
import HandS.Defaults
import HandS.ExcInit
import HandS.ClsMeth
import HandS.TryOnly
import HandS.ExcOwn
import HandS.Head0
import HandS.Head1
import HandS.Head2
import HandS.HeadEnd
import HandS.HeadHook1
import HandS.HeadHook2
import HandS.Head3
import HandS.Head4
import HandS.HeadHook3
import HandS.HeadHook4
import HandS.ExcField
import HandS.MakeKw
import HandS.OwnEq
import HandS.Property
import PyProof.Rows.NestShow
import PyProof.P3In
import HandS.IterVal
import KE.KOwnIter
import HandS.ExcIs
import KE.KExcIs
import KE.GoesMore
import KE.KOpsOwn
import HandS.SortKw
import KE.DataMinMax
import HandS.Strs
import HandS.More
import KE.KRevSl
import HandS.SetFor
import PySem.Challenge.RW_usualdays_k10_whole_kept_in_all_orders
set_option linter.all false
set_option Elab.async false
set_option maxRecDepth 100000
set_option maxHeartbeats 4000000
/-! Plain data over the hand layer: values as trees, names as slots, an abstract heap whose part P never changes. -/
namespace Ue
open PySem L2

/-- plain data -/
inductive D where
  | non | bl (b : Bool) | int (i : Int) | str (s : Str)
  | tup (xs : List D) | lst (xs : List D)
  | obj (c : Nat) (fs : List D)
  | scr (ns : List Int)

/-- what a slot holds: data that stays; a list of its own that may be changed; an instance that is being made; a caught error -/
inductive EV where
  | v (d : D) | own (xs : List D) | new (c : Nat) (fs : List D) | ex (c : Nat) (fs : List D)
def EV.isOwn : EV → Bool
  | .own _ => true | .new _ _ => true | _ => false
abbrev Env := List (Option EV)

/-- classes by number: where they stand, their fields in order -/
structure Tab where
  K : PySem.W.Frag
  clsA : Nat → Addr
  clsF : Nat → List Str
  excA : Nat → Addr
  excF : Nat → List Str
  /-- in an except suite: the caught object, its dict, its class -/
  cur : Option (Addr × Option Addr × Value) := none

section
variable (T : Tab) (P : Hp)
mutual
def Rep : D → V → Prop
  | .non, x => x = .non
  | .bl b, x => x = .bl b
  | .int i, x => x = .int i
  | .str s, x => x = .str s
  | .tup ds, x => ∃ a vs, x = .ref a ∧ SqT T.K P a vs ∧ Reps ds vs
  | .lst ds, x => ∃ a vs, x = .ref a ∧ Rd P a (.lst vs) ∧ Reps ds vs
  | .scr ns, x => ∃ a, x = .ref a ∧ SqL T.K P a (ns.map V.int)
  | .obj c ds, x => ∃ a dx vs, x = .ref a ∧ P a = some (.ins (T.clsA c) dx ((T.clsF c).zip vs)) ∧ vs.length = (T.clsF c).length ∧ Reps ds vs
def Reps : List D → List V → Prop
  | [], vs => vs = []
  | d :: ds, vs => ∃ v r, vs = v :: r ∧ Rep d v ∧ Reps ds r
end
end

def PSub (P H : Hp) : Prop := ∀ b o, P b = some o → H b = some o
theorem PSub.refl (P : Hp) : PSub P P := fun _ _ h => h
theorem PSub.trans {P H J : Hp} (h : PSub P H) (k : PSub H J) : PSub P J := fun b o e => k b o (h b o e)

section
variable {T : Tab} {P P' H : Hp}
theorem Rd.sub {a : Addr} {u : HO} (s : PSub P P') (h : Rd P a u) : Rd P' a u := by
  rcases h with h | ⟨o, h⟩
  · exact .inl (s _ _ h)
  · exact .inr ⟨o, s _ _ h⟩
theorem sqL_sub {K : PySem.W.Frag} {a : Addr} {xs : List V} (s : PSub P P') (h : SqL K P a xs) : SqL K P' a xs := by
  rcases h with h | h
  · exact .inl (Rd.sub s h)
  · exact .inr h
theorem sqT_sub {K : PySem.W.Frag} {a : Addr} {xs : List V} (s : PSub P P') (h : SqT K P a xs) : SqT K P' a xs := by
  rcases h with h | h
  · exact .inl (Rd.sub s h)
  · exact .inr h
mutual
theorem Rep.sub (s : PSub P P') : ∀ (d : D) (v : V), Rep T P d v → Rep T P' d v
  | .non, _, h => h
  | .bl _, _, h => h
  | .int _, _, h => h
  | .str _, _, h => h
  | .tup ds, _, h => by
    rw [Rep] at h ⊢
    obtain ⟨a, vs, e, h1, h2⟩ := h
    exact ⟨a, vs, e, sqT_sub s h1, Reps.sub s ds vs h2⟩
  | .lst ds, _, h => by
    rw [Rep] at h ⊢
    obtain ⟨a, vs, e, h1, h2⟩ := h
    exact ⟨a, vs, e, Rd.sub s h1, Reps.sub s ds vs h2⟩
  | .scr ns, _, h => by
    rw [Rep] at h ⊢
    obtain ⟨a, e, h1⟩ := h
    exact ⟨a, e, sqL_sub s h1⟩
  | .obj c ds, _, h => by
    rw [Rep] at h ⊢
    obtain ⟨a, dx, vs, e, h1, hl, h2⟩ := h
    exact ⟨a, dx, vs, e, s _ _ h1, hl, Reps.sub s ds vs h2⟩
theorem Reps.sub (s : PSub P P') : ∀ (ds : List D) (vs : List V), Reps T P ds vs → Reps T P' ds vs
  | [], _, h => h
  | d :: ds, _, h => by
    rw [Reps] at h ⊢
    obtain ⟨v, r, e, h1, h2⟩ := h
    exact ⟨v, r, e, Rep.sub s d v h1, Reps.sub s ds r h2⟩
end
theorem Reps.nil : Reps T P [] [] := by rw [Reps]
theorem Reps.cons {d : D} {ds : List D} {v : V} {vs : List V} (h : Rep T P d v) (k : Reps T P ds vs) : Reps T P (d :: ds) (v :: vs) := by
  rw [Reps]; exact ⟨v, vs, rfl, h, k⟩
theorem Reps.length : ∀ {ds : List D} {vs : List V}, Reps T P ds vs → vs.length = ds.length
  | [], _, h => by rw [Reps] at h; subst h; rfl
  | _ :: _, _, h => by
    rw [Reps] at h
    obtain ⟨v, r, rfl, _, h2⟩ := h
    simp [Reps.length h2]
theorem Reps.get : ∀ {ds : List D} {vs : List V} {i : Nat} {d : D}, Reps T P ds vs → ds[i]? = some d → ∃ v, vs[i]? = some v ∧ Rep T P d v
  | [], _, _, _, _, e => by simp at e
  | _ :: _, _, 0, _, h, e => by
    rw [Reps] at h
    obtain ⟨v, r, rfl, h1, _⟩ := h
    simp at e; subst e
    exact ⟨v, rfl, h1⟩
  | _ :: _, _, i + 1, _, h, e => by
    rw [Reps] at h
    obtain ⟨v, r, rfl, _, h2⟩ := h
    have e' := e
    simp only [List.getElem?_cons_succ] at e' ⊢
    exact Reps.get h2 e'
theorem Reps.getV : ∀ {ds : List D} {vs : List V} {i : Nat} {v : V}, Reps T P ds vs → vs[i]? = some v → ∃ d, ds[i]? = some d ∧ Rep T P d v := by
  intro ds vs i v h e
  have hl := h.length
  have hi : i < ds.length := by
    have : i < vs.length := by
      rcases Nat.lt_or_ge i vs.length with h | h
      · exact h
      · rw [List.getElem?_eq_none h] at e; cases e
    omega
  obtain ⟨v', e', r⟩ := h.get (List.getElem?_eq_getElem hi)
  rw [e] at e'; cases e'
  exact ⟨_, List.getElem?_eq_getElem hi, r⟩
theorem Reps.append : ∀ {ds es : List D} {vs ws : List V}, Reps T P ds vs → Reps T P es ws → Reps T P (ds ++ es) (vs ++ ws)
  | [], _, _, _, h, k => by rw [Reps] at h; subst h; exact k
  | _ :: _, _, _, _, h, k => by
    rw [Reps] at h
    obtain ⟨v, r, rfl, h1, h2⟩ := h
    exact Reps.cons h1 (Reps.append h2 k)
theorem Reps.take : ∀ {ds : List D} {vs : List V} (n : Nat), Reps T P ds vs → Reps T P (ds.take n) (vs.take n)
  | _, _, 0, _ => by simp; exact Reps.nil
  | [], _, n + 1, h => by rw [Reps] at h; subst h; simp; exact Reps.nil
  | _ :: _, _, n + 1, h => by
    rw [Reps] at h
    obtain ⟨v, r, rfl, h1, h2⟩ := h
    exact Reps.cons h1 (Reps.take n h2)
theorem Reps.drop : ∀ {ds : List D} {vs : List V} (n : Nat), Reps T P ds vs → Reps T P (ds.drop n) (vs.drop n)
  | _, _, 0, h => by simpa using h
  | [], _, n + 1, h => by rw [Reps] at h; subst h; simp; exact Reps.nil
  | _ :: _, _, n + 1, h => by
    rw [Reps] at h
    obtain ⟨v, r, rfl, h1, h2⟩ := h
    exact Reps.drop n h2
theorem Reps.set : ∀ {ds : List D} {vs : List V} {d : D} {v : V} (i : Nat), Reps T P ds vs → Rep T P d v → Reps T P (ds.set i d) (vs.set i v)
  | [], _, _, _, i, h, _ => by rw [Reps] at h; subst h; simp; exact Reps.nil
  | _ :: _, _, _, _, 0, h, k => by
    rw [Reps] at h
    obtain ⟨v, r, rfl, h1, h2⟩ := h
    exact Reps.cons k h2
  | _ :: _, _, _, _, i + 1, h, k => by
    rw [Reps] at h
    obtain ⟨v, r, rfl, h1, h2⟩ := h
    exact Reps.cons h1 (Reps.set i h2 k)
theorem Reps.reverse : ∀ {ds : List D} {vs : List V}, Reps T P ds vs → Reps T P ds.reverse vs.reverse
  | [], _, h => by rw [Reps] at h; subst h; exact Reps.nil
  | _ :: _, _, h => by
    rw [Reps] at h
    obtain ⟨v, r, rfl, h1, h2⟩ := h
    rw [List.reverse_cons, List.reverse_cons]
    exact Reps.append (Reps.reverse h2) (Reps.cons h1 Reps.nil)
theorem Reps.ints : ∀ (ns : List Int) {vs : List V}, Reps T P (ns.map D.int) vs → vs = ns.map V.int
  | [], _, h => by rw [List.map_nil, Reps] at h; exact h
  | n :: ns, _, h => by
    rw [List.map_cons, Reps] at h
    obtain ⟨v, r, rfl, h1, h2⟩ := h
    rw [Rep] at h1
    rw [Reps.ints ns h2, h1, List.map_cons]
theorem Reps.ofInts : ∀ (ns : List Int), Reps T P (ns.map D.int) (ns.map V.int)
  | [] => Reps.nil
  | n :: ns => Reps.cons (by rw [Rep]) (Reps.ofInts ns)
theorem Reps.bls : ∀ (ns : List Bool) {vs : List V}, Reps T P (ns.map D.bl) vs → vs = ns.map V.bl
  | [], _, h => by rw [List.map_nil, Reps] at h; exact h
  | n :: ns, _, h => by
    rw [List.map_cons, Reps] at h
    obtain ⟨v, r, rfl, h1, h2⟩ := h
    rw [Rep] at h1
    rw [Reps.bls ns h2, h1, List.map_cons]
end

/-- an error as it flies: its class, its own dict -/
def ExRep (T : Tab) (P : Hp) (c : Nat) (fs : List D) (cls : Value) (dd : Option Addr) : Prop :=
  cls = .ref (T.excA c) ∧ ((fs = [] ∧ dd = none) ∨ ∃ dx xfs vs, dd = some dx ∧ P dx = some (.xd xfs) ∧ (∀ (j : Nat) (f : Str) (v : V), (T.excF c)[j]? = some f → vs[j]? = some v → xfs.lookup f = some v) ∧ Reps T P fs vs)

/-! ### the state behind a step -/
section
variable (T : Tab) (P H : Hp)
def EnvRep : EV → V → Prop
  | .v d, x => Rep T P d x
  | .own ds, x => ∃ a vs, x = .ref a ∧ H a = some (.lst vs) ∧ P a = none ∧ Reps T P ds vs
  | .new c fs, x => ∃ a dx vs, x = .ref a ∧ H a = some (.ins (T.clsA c) dx ((T.clsF c).zip vs)) ∧ P a = none ∧ vs.length ≤ (T.clsF c).length ∧ Reps T P fs vs
  | .ex c fs, x => ∀ a d cls, T.cur = some (a, d, cls) → x = .ref a ∧ ExRep T P c fs cls d
end
def Own (env : Env) (σ : St) (b : Addr) : Prop := ∃ (i : Nat) (e : EV), env[i]? = some (some e) ∧ EV.isOwn e = true ∧ σ[i]? = some (some (V.ref b))
structure Rel (T : Tab) (env : Env) (σ : St) (P H : Hp) : Prop where
  sub : PSub P H
  ent : ∀ (i : Nat) (e : EV), env[i]? = some (some e) → ∃ v, σ[i]? = some (some v) ∧ EnvRep T P H e v
  dis : ∀ (i j : Nat) (e f : EV) (a : Addr), i ≠ j → env[i]? = some (some e) → env[j]? = some (some f) → e.isOwn = true → f.isOwn = true → σ[i]? = some (some (V.ref a)) → σ[j]? = some (some (V.ref a)) → False
  len : env.length = σ.length
structure Fr (env : Env) (σ : St) (P H : Hp) (env' : Env) (σ' : St) (P' H' : Hp) : Prop where
  keep : ∀ b o, H b = some o → ¬ Own env σ b → H' b = some o
  own : ∀ b, H b ≠ none → ¬ Own env σ b → ¬ Own env' σ' b
  mono : PSub P P'
  new : ∀ b, P' b ≠ none → P b ≠ none ∨ H b = none ∨ Own env σ b
  there : ∀ b, H b ≠ none → H' b ≠ none
theorem Fr.refl (env : Env) (σ : St) (P H : Hp) : Fr env σ P H env σ P H :=
  ⟨fun _ _ h _ => h, fun _ _ h => h, PSub.refl _, fun _ h => .inl h, fun _ h => h⟩
theorem Fr.trans {env env' env'' : Env} {σ σ' σ'' : St} {P H P' H' P'' H'' : Hp} (f : Fr env σ P H env' σ' P' H') (g : Fr env' σ' P' H' env'' σ'' P'' H'') : Fr env σ P H env'' σ'' P'' H'' where
  keep := fun b o h n => g.keep b o (f.keep b o h n) (f.own b (by rw [h]; exact fun z => nomatch z) n)
  own := fun b h n => g.own b (f.there b h) (f.own b h n)
  mono := f.mono.trans g.mono
  new := fun b h => by
    rcases g.new b h with h1 | h1 | h1
    · exact f.new b h1
    · exact .inr (.inl (Classical.byContradiction fun z => f.there b z h1))
    · rcases Classical.em (Own env σ b) with o | o
      · exact .inr (.inr o)
      · exact .inr (.inl (Classical.byContradiction fun z => f.own b z o h1))
  there := fun b h => g.there b (f.there b h)

/-- how a step ends -/
inductive R (α : Type) where
  | ok (a : α) (e : Env) | exc (c : Nat) (fs : List D) (e : Env) | stk
def R.bind {α β : Type} (r : R α) (f : α → Env → R β) : R β :=
  match r with
  | .ok a e => f a e
  | .exc c fs e => .exc c fs e
  | .stk => .stk
abbrev M := Env → R D

section
variable (T : Tab) (W : WX) (σ : St)
def After {α : Type} (env : Env) (P H : Hp) (r : R α) (Q : α → Env → Hp → Hp → Prop) : Prop :=
  match r with
  | .ok a env' => ∀ P' H', Rel T env' σ P' H' → Fr env σ P H env' σ P' H' → Q a env' P' H'
  | .exc c fs env' => ∀ P' H' cls dd, Rel T env' σ P' H' → Fr env σ P H env' σ P' H' → ExRep T P' c fs cls dd → W cls dd σ H'
  | .stk => False
end
section
variable {T : Tab} {W : WX} {σ : St} {α β : Type} {env : Env} {P H : Hp}
theorem After.bind {r : R α} {f : α → Env → R β} {Q : β → Env → Hp → Hp → Prop} (h : After T W σ env P H (r.bind f) Q) :
    After T W σ env P H r (fun a env1 P1 H1 => After T W σ env1 P1 H1 (f a env1) Q) := by
  cases r with
  | ok a env1 =>
    intro P1 H1 R1 F1
    have h' : After T W σ env P H (f a env1) Q := h
    show After T W σ env1 P1 H1 (f a env1) Q
    cases e : f a env1 with
    | ok b env2 => rw [e] at h'; intro P2 H2 R2 F2; exact h' P2 H2 R2 (F1.trans F2)
    | exc c fs env2 => rw [e] at h'; intro P2 H2 cls dd R2 F2 x; exact h' P2 H2 cls dd R2 (F1.trans F2) x
    | stk => rw [e] at h'; exact h'
  | exc c fs env1 => exact h
  | stk => exact h
theorem After.mono {r : R α} {Q Q' : α → Env → Hp → Hp → Prop} (h : After T W σ env P H r Q) (k : ∀ a env' P' H', Rel T env' σ P' H' → Fr env σ P H env' σ P' H' → Q a env' P' H' → Q' a env' P' H') : After T W σ env P H r Q' := by
  cases r with
  | ok a env1 => exact fun P1 H1 R1 F1 => k _ _ _ _ R1 F1 (h P1 H1 R1 F1)
  | exc c fs env1 => exact h
  | stk => exact h
theorem After.here {a : α} {env' : Env} {Q : α → Env → Hp → Hp → Prop} (h : After T W σ env P H (.ok a env') Q) {P' H' : Hp} (R1 : Rel T env' σ P' H') (F1 : Fr env σ P H env' σ P' H') : Q a env' P' H' := h P' H' R1 F1
end

/-- how a value is held: it stays; a new list that nobody else has; the own list of a slot -/
inductive Kd where
  | pure | fresh | own (i : Nat)
def KRep (T : Tab) (k : Kd) (env : Env) (σ : St) (P H : Hp) (d : D) (x : V) : Prop :=
  match k with
  | .pure => Rep T P d x
  | .fresh => ∃ a vs ds, x = .ref a ∧ H a = some (.lst vs) ∧ P a = none ∧ ¬ Own env σ a ∧ Reps T P ds vs ∧ d = .lst ds
  | .own i => ∃ ds, env[i]? = some (some (.own ds)) ∧ d = .lst ds ∧ σ[i]? = some (some x)
/-- a new list was not there ahead of the step -/
def NewV (k : Kd) (H : Hp) (x : V) : Prop :=
  match k with
  | .fresh => ∃ a, x = .ref a ∧ H a = none
  | _ => True
/-- an expression's reading -/
def rdE (T : Tab) (W : WX) (k : Kd) (m : M) : TE := fun σ H Q => ∃ env P, Rel T env σ P H ∧ After T W σ env P H (m env) (fun d env' P' H' => ∀ x, KRep T k env' σ P' H' d x → NewV k H x → Q x H')
def DE (T : Tab) (W : WX) (X : Cx) (e : Expr) (k : Kd) (m : M) : Prop := PE X e (rdE T W k m)
theorem pe_imp {X : Cx} {e : Expr} {t t' : TE} (h : PE X e t) (k : ∀ σ H Q, t' σ H Q → t σ H Q) : PE X e t' := ⟨fun pins s σ H Q I q => h.run pins s σ H Q I (k σ H Q q)⟩
theorem pt_imp {X : Cx} {e : Expr} {t t' : TT} (h : PT X e t) (k : ∀ σ H Q, t' σ H Q → t σ H Q) : PT X e t' := ⟨fun pins s σ H Q I q => h.run pins s σ H Q I (k σ H Q q)⟩
theorem pw_imp {X : Cx} {e : Expr} {t t' : TT} (h : PW X e t) (k : ∀ σ H Q, t' σ H Q → t σ H Q) : PW X e t' := ⟨fun whole pins s σ H Q I q => h.run whole pins s σ H Q I (k σ H Q q)⟩
theorem pa_imp {X : Cx} {e : List Expr} {t t' : TA} (h : PA X e t) (k : ∀ σ H Q, t' σ H Q → t σ H Q) : PA X e t' := ⟨fun pos pins s σ H Q I q => h.run pos pins s σ H Q I (k σ H Q q)⟩
theorem ps_imp {X : Cx} {e : Stmt} {t t' : TS} (h : PS X e t) (k : ∀ D σ H, t' D σ H → t D σ H) : PS X e t' := ⟨fun pins s σ H D I q => h.run pins s σ H D I (k D σ H q)⟩
theorem pss_imp {X : Cx} {e : List Stmt} {t t' : TS} (h : PSs X e t) (k : ∀ D σ H, t' D σ H → t D σ H) : PSs X e t' := ⟨fun pins s σ H D I q => h.run pins s σ H D I (k D σ H q)⟩
/-- a test's -/
abbrev MT := Env → R Bool
def rdT (T : Tab) (W : WX) (m : MT) : TT := fun σ H Q => ∃ env P, Rel T env σ P H ∧ After T W σ env P H (m env) (fun b _ _ H' => Q b H')
def DT (T : Tab) (W : WX) (X : Cx) (e : Expr) (m : MT) : Prop := PT X e (rdT T W m)
end Ue

set_option linter.all false
set_option Elab.async false
set_option maxRecDepth 100000
set_option maxHeartbeats 4000000
namespace Ue
open PySem L2

/-! ### new things -/
section
variable {T : Tab} {W : WX} {env env' : Env} {σ : St} {P H P' H' : Hp} {p : Addr} {o : HO}
theorem Rel.ownAt (R : Rel T env σ P H) {b : Addr} (h : Own env σ b) : ∃ o, H b = some o ∧ P b = none := by
  obtain ⟨i, e, h1, h2, h3⟩ := h
  obtain ⟨v, hv, r⟩ := R.ent i e h1
  rw [h3] at hv; cases hv
  cases e with
  | v d => cases h2
  | ex c fs => cases h2
  | own ds => obtain ⟨a, vs, q, q1, q2, _⟩ := r; cases q; exact ⟨_, q1, q2⟩
  | new c fs => obtain ⟨a, dx, vs, q, q1, q2, _⟩ := r; cases q; exact ⟨_, q1, q2⟩
theorem Rel.notOwn (R : Rel T env σ P H) {b : Addr} (h : H b = none) : ¬ Own env σ b := fun z => by
  obtain ⟨o, q, _⟩ := R.ownAt z
  rw [h] at q; cases q
theorem Rel.pNone (R : Rel T env σ P H) {b : Addr} (h : H b = none) : P b = none := by
  cases e : P b with
  | none => rfl
  | some o => have := R.sub b o e; rw [h] at this; cases this
theorem psub_upd {P : Hp} (h : P p = none) : PSub P (upd P p o) := fun b u e => by
  rw [upd_ne (ne_of_none e h)]; exact e
theorem ExRep.sub {c : Nat} {fs : List D} {cls : Value} {dd : Option Addr} (hs : PSub P P') (h : ExRep T P c fs cls dd) : ExRep T P' c fs cls dd := by
  obtain ⟨q1, q2⟩ := h
  refine ⟨q1, ?_⟩
  rcases q2 with q2 | ⟨dx, xfs, vs, w1, w2, w3, w4⟩
  · exact .inl q2
  · exact .inr ⟨dx, xfs, vs, w1, hs _ _ w2, w3, Reps.sub hs _ _ w4⟩
theorem EnvRep.grow {e : EV} {x : V} (h : EnvRep T P H e x) (hs : PSub P P') (hk : ∀ b o, H b = some o → P b = none → e.isOwn = true → x = .ref b → H' b = some o ∧ P' b = none) : EnvRep T P' H' e x := by
  cases e with
  | v d => exact Rep.sub hs d x h
  | ex c fs =>
    intro a d cls hc
    obtain ⟨q1, q2⟩ := h a d cls hc
    exact ⟨q1, q2.sub hs⟩
  | own ds =>
    obtain ⟨a, vs, rfl, q1, q2, q3⟩ := h
    obtain ⟨k1, k2⟩ := hk a _ q1 q2 rfl rfl
    exact ⟨a, vs, rfl, k1, k2, Reps.sub hs _ _ q3⟩
  | new c fs =>
    obtain ⟨a, dx, vs, rfl, q1, q2, q4, q3⟩ := h
    obtain ⟨k1, k2⟩ := hk a _ q1 q2 rfl rfl
    exact ⟨a, dx, vs, rfl, k1, k2, q4, Reps.sub hs _ _ q3⟩
/-- a new thing that stays -/
theorem Rel.newP (R : Rel T env σ P H) (hp : H p = none) : Rel T env σ (upd P p o) (upd H p o) ∧ Fr env σ P H env σ (upd P p o) (upd H p o) := by
  have pp := R.pNone hp
  have no := R.notOwn hp
  refine ⟨⟨fun b u e => ?_, fun i e h => ?_, R.dis, R.len⟩, ⟨fun b u e _ => ?_, fun b _ n => n, psub_upd pp, fun b h => ?_, fun b h => ?_⟩⟩
  · by_cases hb : b = p
    · subst hb; rw [upd_same] at e ⊢; exact e
    · rw [upd_ne hb] at e ⊢; exact R.sub b u e
  · obtain ⟨v, hv, r⟩ := R.ent i e h
    refine ⟨v, hv, r.grow (psub_upd pp) fun b u h1 h2 _ _ => ?_⟩
    have hb : b ≠ p := ne_of_none h1 hp
    rw [upd_ne hb, upd_ne hb]; exact ⟨h1, h2⟩
  · rw [upd_ne (ne_of_none e hp)]; exact e
  · by_cases hb : b = p
    · subst hb; exact .inr (.inl hp)
    · rw [upd_ne hb] at h; exact .inl h
  · by_cases hb : b = p
    · subst hb; rw [upd_same]; exact fun z => nomatch z
    · rw [upd_ne hb]; exact h
/-- a new thing that may still change -/
theorem Rel.newF (R : Rel T env σ P H) (hp : H p = none) : Rel T env σ P (upd H p o) ∧ Fr env σ P H env σ P (upd H p o) ∧ ¬ Own env σ p ∧ P p = none := by
  have pp := R.pNone hp
  have no := R.notOwn hp
  refine ⟨⟨fun b u e => ?_, fun i e h => ?_, R.dis, R.len⟩, ⟨fun b u e _ => ?_, fun b _ n => n, PSub.refl _, fun b h => .inl h, fun b h => ?_⟩, no, pp⟩
  · rw [upd_ne (ne_of_none e pp)]; exact R.sub b u e
  · obtain ⟨v, hv, r⟩ := R.ent i e h
    refine ⟨v, hv, r.grow (PSub.refl _) fun b u h1 h2 _ _ => ?_⟩
    have hb : b ≠ p := ne_of_none h1 hp
    rw [upd_ne hb]; exact ⟨h1, h2⟩
  · rw [upd_ne (ne_of_none e hp)]; exact e
  · by_cases hb : b = p
    · subst hb; rw [upd_same]; exact fun z => nomatch z
    · rw [upd_ne hb]; exact h
/-- a new list of nobody's comes to stay -/
theorem Rel.freeze {a : Addr} {vs : List V} (R : Rel T env σ P H) (ha : H a = some (.lst vs)) (hp : P a = none) (no : ¬ Own env σ a) : Rel T env σ (upd P a (.lst vs)) H := by
  refine ⟨fun b u e => ?_, fun i e h => ?_, R.dis, R.len⟩
  · by_cases hb : b = a
    · subst hb; rw [upd_same] at e; cases e; exact ha
    · rw [upd_ne hb] at e; exact R.sub b u e
  · obtain ⟨v, hv, r⟩ := R.ent i e h
    refine ⟨v, hv, r.grow (psub_upd hp) fun b u h1 h2 h3 h4 => ⟨h1, ?_⟩⟩
    have hb : b ≠ a := by rintro rfl; exact no ⟨i, e, h, h3, by rw [hv, h4]⟩
    rw [upd_ne hb]; exact h2
end

/-! ### what may be read -/
def Rdb (T : Tab) (P H : Hp) (d : D) (x : V) : Prop := Rep T P d x ∨ ∃ a vs ds, x = .ref a ∧ H a = some (.lst vs) ∧ Reps T P ds vs ∧ d = .lst ds
def Rdbs (T : Tab) (P H : Hp) : List D → List V → Prop := Paired (Rdb T P H)
section
variable {T : Tab} {W : WX} {env env' : Env} {σ : St} {P H P' H' : Hp} {x : V}
theorem KRep.rdb {k : Kd} {d : D} (R : Rel T env σ P H) (h : KRep T k env σ P H d x) : Rdb T P H d x := by
  cases k with
  | pure => exact .inl h
  | fresh => obtain ⟨a, vs, ds, e, h1, _, _, h2, h3⟩ := h; exact .inr ⟨a, vs, ds, e, h1, h2, h3⟩
  | own i =>
    obtain ⟨ds, e, h3, hx⟩ := h
    obtain ⟨v, hv, r⟩ := R.ent i _ e
    rw [hx] at hv; cases hv
    obtain ⟨a, vs, q, q1, q2, q3⟩ := r
    exact .inr ⟨a, vs, ds, q, q1, q3, h3⟩
theorem Rdb.nonE (h : Rdb T P H .non x) : x = .non := by
  rcases h with h | ⟨_, _, _, _, _, _, h⟩
  · rwa [Rep] at h
  · cases h
theorem Rdb.blE {b : Bool} (h : Rdb T P H (.bl b) x) : x = .bl b := by
  rcases h with h | ⟨_, _, _, _, _, _, h⟩
  · rwa [Rep] at h
  · cases h
theorem Rdb.intE {i : Int} (h : Rdb T P H (.int i) x) : x = .int i := by
  rcases h with h | ⟨_, _, _, _, _, _, h⟩
  · rwa [Rep] at h
  · cases h
theorem Rdb.strE {s : Str} (h : Rdb T P H (.str s) x) : x = .str s := by
  rcases h with h | ⟨_, _, _, _, _, _, h⟩
  · rwa [Rep] at h
  · cases h
theorem Rdb.tupE {ds : List D} (R : PSub P H) (h : Rdb T P H (.tup ds) x) : ∃ a vs, x = .ref a ∧ SqT T.K H a vs ∧ Reps T P ds vs := by
  rcases h with h | ⟨_, _, _, _, _, _, h⟩
  · rw [Rep] at h
    obtain ⟨a, vs, e, h1, h2⟩ := h
    exact ⟨a, vs, e, sqT_sub R h1, h2⟩
  · cases h
theorem Rdb.lstE {ds : List D} (R : PSub P H) (h : Rdb T P H (.lst ds) x) : ∃ a vs, x = .ref a ∧ Rd H a (.lst vs) ∧ Reps T P ds vs := by
  rcases h with h | ⟨a, vs, es, e, h1, h2, h3⟩
  · rw [Rep] at h
    obtain ⟨a, vs, e, h1, h2⟩ := h
    exact ⟨a, vs, e, Rd.sub R h1, h2⟩
  · cases h3; exact ⟨a, vs, e, .inl h1, h2⟩
theorem Rdb.scrE {ns : List Int} (R : PSub P H) (h : Rdb T P H (.scr ns) x) : ∃ a, x = .ref a ∧ SqL T.K H a (ns.map V.int) := by
  rcases h with h | ⟨_, _, _, _, _, _, h⟩
  · rw [Rep] at h
    obtain ⟨a, e, h1⟩ := h
    exact ⟨a, e, sqL_sub R h1⟩
  · cases h
theorem Rdb.objE {c : Nat} {ds : List D} (R : PSub P H) (h : Rdb T P H (.obj c ds) x) : ∃ a dx vs, x = .ref a ∧ H a = some (.ins (T.clsA c) dx ((T.clsF c).zip vs)) ∧ vs.length = (T.clsF c).length ∧ Reps T P ds vs := by
  rcases h with h | ⟨_, _, _, _, _, _, h⟩
  · rw [Rep] at h
    obtain ⟨a, dx, vs, e, h1, hl, h2⟩ := h
    exact ⟨a, dx, vs, e, R _ _ h1, hl, h2⟩
  · cases h
theorem Rdb.seqE {ds : List D} {d : D} (R : PSub P H) (hd : d = .lst ds ∨ d = .tup ds) (h : Rdb T P H d x) : ∃ a vs, x = .ref a ∧ (SqL T.K H a vs ∨ SqT T.K H a vs) ∧ Reps T P ds vs := by
  rcases hd with rfl | rfl
  · obtain ⟨a, vs, e, h1, h2⟩ := h.lstE R; exact ⟨a, vs, e, .inl (.inl h1), h2⟩
  · obtain ⟨a, vs, e, h1, h2⟩ := h.tupE R; exact ⟨a, vs, e, .inr h1, h2⟩
theorem rep_int {i : Int} : Rep T P (.int i) (.int i) := by rw [Rep]
theorem rep_bl {i : Bool} : Rep T P (.bl i) (.bl i) := by rw [Rep]
theorem rep_non : Rep T P .non .non := by rw [Rep]
theorem rep_str {i : Str} : Rep T P (.str i) (.str i) := by rw [Rep]
theorem rep_tup {a : Addr} {vs : List V} {ds : List D} (h : P a = some (.tup vs)) (k : Reps T P ds vs) : Rep T P (.tup ds) (.ref a) := by rw [Rep]; exact ⟨a, vs, rfl, .of h, k⟩
theorem rep_lst {a : Addr} {vs : List V} {ds : List D} (h : P a = some (.lst vs)) (k : Reps T P ds vs) : Rep T P (.lst ds) (.ref a) := by rw [Rep]; exact ⟨a, vs, rfl, .inl h, k⟩
/-- a value made ahead still holds behind a step -/
def Steady (k : Kd) {α : Type} (m : Env → R α) : Prop :=
  match k with
  | .own i => ∀ env d env', m env = .ok d env' → env'[i]? = env[i]?
  | _ => True
theorem KRep.carry {k : Kd} {d : D} (h : KRep T k env σ P H d x) (f : Fr env σ P H env' σ P' H') (hs : ∀ i, k = .own i → env'[i]? = env[i]?) : KRep T k env' σ P' H' d x := by
  cases k with
  | pure => exact Rep.sub f.mono d x h
  | fresh =>
    obtain ⟨a, vs, ds, e, h1, h2, h3, h4, h5⟩ := h
    have ha : H a ≠ none := by rw [h1]; exact fun z => nomatch z
    refine ⟨a, vs, ds, e, f.keep a _ h1 h3, ?_, f.own a ha h3, Reps.sub f.mono _ _ h4, h5⟩
    refine Classical.byContradiction fun z => ?_
    rcases f.new a z with q | q | q
    · exact q h2
    · exact ha q
    · exact h3 q
  | own i =>
    obtain ⟨ds, e, h3, hx⟩ := h
    exact ⟨ds, by rw [hs i rfl]; exact e, h3, hx⟩
theorem Steady.use {k : Kd} {α : Type} {m : Env → R α} (h : Steady k m) {e e' : Env} {d : α} (hm : m e = .ok d e') : ∀ i, k = .own i → e'[i]? = e[i]? := fun i hk => by
  subst hk; exact h e d e' hm
end

theorem NewV.back {k : Kd} {env env' : Env} {σ σ' : St} {P P' H H' : Hp} {x : V} (f : Fr env σ P H env' σ' P' H') (h : NewV k H' x) : NewV k H x := by
  cases k with
  | fresh => obtain ⟨a, e, h⟩ := h; exact ⟨a, e, Classical.byContradiction fun z => f.there a z h⟩
  | _ => trivial
/-- behind a step whose end is known -/
theorem After.at {T : Tab} {W : WX} {σ : St} {α : Type} {env : Env} {P H : Hp} {r : R α} {Q Q' : α → Env → Hp → Hp → Prop} (h : After T W σ env P H r Q)
    (k : ∀ a env' P' H', r = .ok a env' → Rel T env' σ P' H' → Fr env σ P H env' σ P' H' → Q a env' P' H' → Q' a env' P' H') : After T W σ env P H r Q' := by
  cases r with
  | ok a env1 => exact fun P1 H1 R1 F1 => k _ _ _ _ rfl R1 F1 (h P1 H1 R1 F1)
  | exc c fs env1 => exact h
  | stk => exact h

def liftO (o : Option D) (e : Env) : R D := match o with | some d => .ok d e | none => .stk
def op2M (g : D → D → Option D) (ma mb : M) : M := fun env => (ma env).bind fun x e1 => (mb e1).bind fun y e2 => liftO (g x y) e2
def op1M (g : D → Option D) (ma : M) : M := fun env => (ma env).bind fun x e1 => liftO (g x) e1
def liftB (o : Option Bool) (e : Env) : R Bool := match o with | some d => .ok d e | none => .stk
def cmpM (g : D → D → Option Bool) (ma mb : M) : MT := fun env => (ma env).bind fun x e1 => (mb e1).bind fun y e2 => liftB (g x y) e2
def bV (m : MT) : M := fun env => (m env).bind fun b e => .ok (.bl b) e

theorem bV_cmp (g : D → D → Option Bool) (ma mb : M) (env : Env) : bV (cmpM g ma mb) env = (ma env).bind fun x e1 => (mb e1).bind fun y e2 => (liftB (g x y) e2).bind fun b e => .ok (.bl b) e := by
  unfold bV cmpM
  cases ma env with
  | ok d e1 =>
    show ((mb e1).bind fun y e2 => liftB (g d y) e2).bind _ = (mb e1).bind _
    cases mb e1 <;> rfl
  | _ => rfl
/-- what an operator gives -/
def OpD (T : Tab) (r : R2) (k : Kd) (g : D → D → Option D) : Prop :=
  ∀ (env : Env) (σ : St) (P H : Hp) (dx dy : D) (x y : V) (d : D) (Q : VK), Rel T env σ P H → Rdb T P H dx x → Rdb T P H dy y → g dx dy = some d →
    (∀ v P' H', Rel T env σ P' H' → Fr env σ P H env σ P' H' → KRep T k env σ P' H' d v → NewV k H v → Q v H') → r x y H Q
def UnD (T : Tab) (r : V → Hp → VK → Prop) (k : Kd) (g : D → Option D) : Prop :=
  ∀ (env : Env) (σ : St) (P H : Hp) (dx : D) (x : V) (d : D) (Q : VK), Rel T env σ P H → Rdb T P H dx x → g dx = some d →
    (∀ v P' H', Rel T env σ P' H' → Fr env σ P H env σ P' H' → KRep T k env σ P' H' d v → NewV k H v → Q v H') → r x H Q
def CmpD (T : Tab) (r : R2) (g : D → D → Option Bool) : Prop :=
  ∀ (P H : Hp) (dx dy : D) (x y : V) (b : Bool) (Q : VK), PSub P H → Rdb T P H dx x → Rdb T P H dy y → g dx dy = some b → Q (.bl b) H → r x y H Q
section
variable {T : Tab} {W : WX} {X : Cx} {a b : Expr} {ka kb k : Kd} {ma mb : M} {pos : Pos}
theorem rd_op2 {r : R2} {g : D → D → Option D} (hD : OpD T r k g) (hs : Steady ka mb) {σ : St} {H : Hp} {Q : VK} (h : rdE T W k (op2M g ma mb) σ H Q) : tOp r (rdE T W ka ma) (rdE T W kb mb) σ H Q := by
  obtain ⟨env, P, R, h⟩ := h
  refine ⟨env, P, R, After.at h.bind fun d1 env1 P1 H1 _ R1 F1 h1 x kx nx => ?_⟩
  refine ⟨env1, P1, R1, After.at h1.bind fun d2 env2 P2 H2 e2 R2 F2 h2 y ky ny => ?_⟩
  have kx' := kx.carry F2 (hs.use e2)
  cases e : g d1 d2 with
  | none => rw [e] at h2; exact False.elim h2
  | some d =>
    rw [e] at h2
    exact hD env2 σ P2 H2 d1 d2 x y d Q R2 (kx'.rdb R2) (ky.rdb R2) e fun v P' H' R' F' kv nv => h2 P' H' R' F' v kv (nv.back (F1.trans F2))
theorem de_op2 {op : Operator} {r : R2} {g : D → D → Option D} (ho : OpR X (binaryOp op) r) (hD : OpD T r k g) (ha : DE T W X a ka ma) (hb : DE T W X b kb mb) (hs : Steady ka mb := by trivial) :
    DE T W X (.BinOp a op b pos) k (op2M g ma mb) := pe_imp (pe_op ho ha hb) fun _ _ _ h => rd_op2 hD hs h
theorem rd_cmp {r : R2} {g : D → D → Option Bool} (hD : CmpD T r g) (hs : Steady ka mb) {σ : St} {H : Hp} {Q : Bool → Hp → Prop} (h : rdT T W (cmpM g ma mb) σ H Q) : tOp r (rdE T W ka ma) (rdE T W kb mb) σ H (fun x H' => ∃ k, x = .bl k ∧ Q k H') := by
  obtain ⟨env, P, R, h⟩ := h
  refine ⟨env, P, R, After.at h.bind fun d1 env1 P1 H1 _ R1 F1 h1 x kx nx => ?_⟩
  refine ⟨env1, P1, R1, After.at h1.bind fun d2 env2 P2 H2 e2 R2 F2 h2 y ky ny => ?_⟩
  have kx' := kx.carry F2 (hs.use e2)
  cases e : g d1 d2 with
  | none => rw [e] at h2; exact False.elim h2
  | some d =>
    rw [e] at h2
    exact hD P2 H2 d1 d2 x y d _ R2.sub (kx'.rdb R2) (ky.rdb R2) e ⟨d, rfl, h2.here R2 (Fr.refl _ _ _ _)⟩
theorem dt_cmp {op : CmpOp} {r : R2} {g : D → D → Option Bool} (ho : OpR X (compareOp op) r) (hD : CmpD T r g) (ha : DE T W X a ka ma) (hb : DE T W X b kb mb) (hm : behindInMarks op b = false := by rfl) (hs : Steady ka mb := by trivial) :
    DT T W X (.Compare a [op] [b] pos) (cmpM g ma mb) := pt_imp (pt_cmpR ho ha hb hm) fun _ _ _ h => rd_cmp hD hs h
/-- a test as a value: from the reading of the test -/
theorem rd_bV {m : MT} {t : TE} {σ : St} {H : Hp} {Q : VK} (h : rdE T W .pure (bV m) σ H Q) (k : ∀ Q' : Bool → Hp → Prop, rdT T W m σ H Q' → t σ H (fun x H' => ∃ k, x = .bl k ∧ Q' k H')) (mono : ∀ Q Q' : VK, (∀ x H, Q x H → Q' x H) → t σ H Q → t σ H Q') : t σ H Q := by
  obtain ⟨env, P, R, h⟩ := h
  refine mono _ _ ?_ (k (fun b H' => Q (.bl b) H') ⟨env, P, R, After.mono h.bind fun b env1 P1 H1 R1 F1 h1 => h1.here R1 (Fr.refl _ _ _ _) _ (show Rep T P1 (.bl b) (.bl b) from rep_bl) trivial⟩)
  rintro x H' ⟨c, rfl, q⟩
  exact q
theorem de_cmp {op : CmpOp} {r : R2} {g : D → D → Option Bool} (ho : OpR X (compareOp op) r) (hD : CmpD T r g) (ha : DE T W X a ka ma) (hb : DE T W X b kb mb) (hm : behindInMarks op b = false := by rfl) (hs : Steady ka mb := by trivial) :
    DE T W X (.Compare a [op] [b] pos) .pure (bV (cmpM g ma mb)) := by
  refine pe_imp (pe_cmpR ho ha hb hm) fun σ H Q h => ?_
  obtain ⟨env, P, RR, h⟩ := h
  rw [bV_cmp] at h
  refine ⟨env, P, RR, After.at h.bind fun d1 env1 P1 H1 _ R1 F1 h1 x kx nx => ?_⟩
  refine ⟨env1, P1, R1, After.at h1.bind fun d2 env2 P2 H2 e2 R2 F2 h2 y ky ny => ?_⟩
  have kx' := kx.carry F2 (hs.use e2)
  cases e : g d1 d2 with
  | none => rw [e] at h2; exact False.elim h2
  | some d =>
    rw [e] at h2
    exact hD P2 H2 d1 d2 x y d _ R2.sub (kx'.rdb R2) (ky.rdb R2) e (h2 P2 H2 R2 (Fr.refl _ _ _ _) _ (show Rep T P2 (.bl d) (.bl d) from rep_bl) trivial)
theorem de_un {op : UnaryOp} {r : V → Hp → VK → Prop} {g : D → Option D} (ho : UnR X (unaryOp op) r) (hD : UnD T r k g) (ha : DE T W X a ka ma) : DE T W X (.UnaryOp op a pos) k (op1M g ma) := by
  refine pe_imp (pe_un ho ha) fun σ H Q h => ?_
  obtain ⟨env, P, R, h⟩ := h
  refine ⟨env, P, R, After.at h.bind fun d1 env1 P1 H1 _ R1 F1 h1 x kx nx => ?_⟩
  cases e : g d1 with
  | none => rw [e] at h1; exact False.elim h1
  | some d =>
    rw [e] at h1
    exact hD env1 σ P1 H1 d1 x d Q R1 (kx.rdb R1) e fun v P' H' R' F' kv nv => h1 P' H' R' F' v kv (nv.back F1)
end

/-! ### names, constants -/
def varM (i : Nat) : M := fun env => match env[i]? with | some (some (.v d)) => .ok d env | _ => .stk
def ovarM (i : Nat) : M := fun env => match env[i]? with | some (some (.own ds)) => .ok (.lst ds) env | _ => .stk
def cM (d : D) : M := fun env => .ok d env
section
variable {T : Tab} {W : WX} {X : Cx} {pos : Pos}
theorem de_var {i : Nat} {x : Str} (h : PE X (.Name x pos) (tVar i)) : DE T W X (.Name x pos) .pure (varM i) := by
  refine pe_imp h fun σ H Q h => ?_
  obtain ⟨env, P, R, h⟩ := h
  unfold varM at h
  cases e : env[i]? with
  | none => rw [e] at h; exact False.elim h
  | some o =>
    cases o with
    | none => rw [e] at h; exact False.elim h
    | some v =>
      cases v with
      | v d =>
        rw [e] at h
        obtain ⟨u, hu, r⟩ := R.ent i _ e
        exact ⟨u, hu, h.here R (Fr.refl _ _ _ _) u r trivial⟩
      | own ds => rw [e] at h; exact False.elim h
      | new c fs => rw [e] at h; exact False.elim h
      | ex c fs => rw [e] at h; exact False.elim h
theorem de_ovar {i : Nat} {x : Str} (h : PE X (.Name x pos) (tVar i)) : DE T W X (.Name x pos) (.own i) (ovarM i) := by
  refine pe_imp h fun σ H Q h => ?_
  obtain ⟨env, P, R, h⟩ := h
  unfold ovarM at h
  cases e : env[i]? with
  | none => rw [e] at h; exact False.elim h
  | some o =>
    cases o with
    | none => rw [e] at h; exact False.elim h
    | some v =>
      cases v with
      | own ds =>
        rw [e] at h
        obtain ⟨u, hu, r⟩ := R.ent i _ e
        exact ⟨u, hu, h.here R (Fr.refl _ _ _ _) u ⟨ds, e, rfl, hu⟩ trivial⟩
      | v d => rw [e] at h; exact False.elim h
      | new c fs => rw [e] at h; exact False.elim h
      | ex c fs => rw [e] at h; exact False.elim h
theorem de_c {e : Expr} {v : V} {d : D} (h : PE X e (tC v)) (hd : ∀ P, Rep T P d v) : DE T W X e .pure (cM d) := by
  refine pe_imp h fun σ H Q h => ?_
  obtain ⟨env, P, R, h⟩ := h
  exact h.here R (Fr.refl _ _ _ _) v (hd P) trivial
theorem de_int {i : Int} {j : Nat} : DE T W X (.Constant (.int i) j pos) .pure (cM (.int i)) := de_c pe_int fun _ => rep_int
theorem de_bl {i : Bool} {j : Nat} : DE T W X (.Constant (.bool i) j pos) .pure (cM (.bl i)) := de_c pe_bl fun _ => rep_bl
theorem de_non {j : Nat} : DE T W X (.Constant .none j pos) .pure (cM .non) := de_c pe_non fun _ => rep_non
theorem de_str {i : Str} {j : Nat} : DE T W X (.Constant (.str i) j pos) .pure (cM (.str i)) := de_c pe_str fun _ => rep_str
/-- a new list comes to stay -/
theorem rd_frz {m : M} {σ : St} {H : Hp} {Q : VK} (h : rdE T W .pure m σ H Q) : rdE T W .fresh m σ H Q := by
  obtain ⟨env, P, R, h⟩ := h
  refine ⟨env, P, R, ?_⟩
  cases e : m env with
  | ok d env1 =>
    rw [e] at h
    intro P1 H1 R1 F1 x kx nx
    obtain ⟨a, vs, ds, rfl, h1, h2, h3, h4, rfl⟩ := kx
    obtain ⟨a', e', ha⟩ := nx
    cases e'
    refine h (upd P1 a (.lst vs)) H1 (R1.freeze h1 h2 h3) ?_ _ (rep_lst upd_same (Reps.sub (psub_upd h2) _ _ h4)) trivial
    refine ⟨F1.keep, F1.own, F1.mono.trans (psub_upd h2), fun b hb => ?_, F1.there⟩
    by_cases q : b = a
    · subst q; exact .inr (.inl ha)
    · rw [upd_ne q] at hb; exact F1.new b hb
  | exc c fs env1 => rw [e] at h; exact h
  | stk => rw [e] at h; exact h
theorem de_frz {e : Expr} {m : M} (h : DE T W X e .fresh m) : DE T W X e .pure m := pe_imp h fun _ _ _ h => rd_frz h
/-- the own list of a slot comes to stay -/
def frzM (i : Nat) : M := fun env => match env[i]? with | some (some (.own ds)) => .ok (.lst ds) (env.set i (some (.v (.lst ds)))) | _ => .stk
theorem set_get {α : Type} {l : List α} {i : Nat} {a b : α} (h : l[i]? = some b) : (l.set i a)[i]? = some a := by
  have hi : i < l.length := by
    rcases Nat.lt_or_ge i l.length with q | q
    · exact q
    · rw [List.getElem?_eq_none q] at h; cases h
  simp [hi]
theorem Own.of_set {env : Env} {σ : St} {i : Nat} {d : D} {b : Addr} (h : Own (env.set i (some (.v d))) σ b) : Own env σ b ∧ ∃ j e, j ≠ i ∧ env[j]? = some (some e) ∧ EV.isOwn e = true ∧ σ[j]? = some (some (V.ref b)) := by
  obtain ⟨j, e, h1, h2, h3⟩ := h
  by_cases q : j = i
  · subst q
    by_cases hi : j < env.length
    · rw [List.getElem?_set_self hi] at h1; cases h1; cases h2
    · rw [List.getElem?_eq_none (by simpa using hi)] at h1; cases h1
  · rw [List.getElem?_set_ne (fun z => q z.symm)] at h1
    exact ⟨⟨j, e, h1, h2, h3⟩, j, e, q, h1, h2, h3⟩
theorem Rel.freezeO {env : Env} {σ : St} {P H : Hp} {i : Nat} {ds : List D} (R : Rel T env σ P H) (e : env[i]? = some (some (.own ds))) :
    ∃ a vs P', σ[i]? = some (some (V.ref a)) ∧ P' a = some (.lst vs) ∧ Reps T P' ds vs ∧ Rel T (env.set i (some (.v (.lst ds)))) σ P' H ∧ Fr env σ P H (env.set i (some (.v (.lst ds)))) σ P' H := by
  obtain ⟨u, hu, r⟩ := R.ent i _ e
  obtain ⟨a, vs, rfl, h1, h2, h3⟩ := r
  have own_a : Own env σ a := ⟨i, _, e, rfl, hu⟩
  have h3' := Reps.sub (psub_upd (o := .lst vs) h2) _ _ h3
  refine ⟨a, vs, upd P a (.lst vs), hu, upd_same, h3', ⟨fun b o q => ?_, fun j f q => ?_, fun j l f g c n q1 q2 o1 o2 s1 s2 => ?_, by rw [List.length_set]; exact R.len⟩, fun b o q _ => q, fun b _ n z => n z.of_set.1, psub_upd h2, fun b hb => ?_, fun b h => h⟩
  · by_cases hb : b = a
    · subst hb; rw [upd_same] at q; cases q; exact h1
    · rw [upd_ne hb] at q; exact R.sub b o q
  · by_cases hj : j = i
    · subst hj
      rw [set_get e] at q; cases q
      exact ⟨_, hu, rep_lst upd_same h3'⟩
    · rw [List.getElem?_set_ne (fun z => hj z.symm)] at q
      obtain ⟨v, hv, r⟩ := R.ent j f q
      refine ⟨v, hv, r.grow (psub_upd h2) fun b o k1 k2 k3 k4 => ⟨k1, ?_⟩⟩
      have hb : b ≠ a := by
        rintro rfl
        subst k4
        exact R.dis j i f _ b hj q e k3 rfl hv hu
      rw [upd_ne hb]; exact k2
  · have w : ∀ l (f : EV), (env.set i (some (.v (.lst ds))))[l]? = some (some f) → f.isOwn = true → env[l]? = some (some f) := fun l f q o => by
      by_cases hl : l = i
      · subst hl; rw [set_get e] at q; cases q; cases o
      · rwa [List.getElem?_set_ne (fun z => hl z.symm)] at q
    exact R.dis j l f g c n (w j f q1 o1) (w l g q2 o2) o1 o2 s1 s2
  · by_cases q : b = a
    · subst q; exact .inr (.inr own_a)
    · rw [upd_ne q] at hb; exact .inl hb
theorem de_ofrz {i : Nat} {x : Str} (h : PE X (.Name x pos) (tVar i)) : DE T W X (.Name x pos) .pure (frzM i) := by
  refine pe_imp h fun σ H Q h => ?_
  obtain ⟨env, P, R, h⟩ := h
  unfold frzM at h
  cases e : env[i]? with
  | none => rw [e] at h; exact False.elim h
  | some o =>
    cases o with
    | none => rw [e] at h; exact False.elim h
    | some v =>
      cases v with
      | own ds =>
        rw [e] at h
        obtain ⟨a, vs, P', hu, hp, hr, R', F'⟩ := R.freezeO e
        exact ⟨_, hu, h.here R' F' _ (rep_lst hp hr) trivial⟩
      | v d => rw [e] at h; exact False.elim h
      | new c fs => rw [e] at h; exact False.elim h
      | ex c fs => rw [e] at h; exact False.elim h
end
end Ue

set_option linter.all false
set_option Elab.async false
set_option maxRecDepth 100000
set_option maxHeartbeats 4000000
namespace Ue
open PySem L2

/-! ### tests -/
def truth : D → Option Bool
  | .non => some false
  | .bl b => some b
  | .int i => some (i != 0)
  | .str s => if s.length ≤ sizeLine then some ((s.length : Int) != 0) else none
  | .lst ds => some (!ds.isEmpty)
  | .tup ds => some (!ds.isEmpty)
  | .obj _ _ => none
  | .scr ns => some (!ns.isEmpty)
def trM (m : M) : MT := fun env => (m env).bind fun d e => liftB (truth d) e
def andT (a b : MT) : MT := fun env => (a env).bind fun x e => if x then b e else .ok false e
def orT (a b : MT) : MT := fun env => (a env).bind fun x e => if x then .ok true e else b e
def notT (a : MT) : MT := fun env => (a env).bind fun x e => .ok (!x) e
def ifM {α : Type} (t : MT) (a b : Env → R α) : Env → R α := fun env => (t env).bind fun x e => if x then a e else b e
/-- a value that must be a truth value -/
def asB (m : M) : MT := fun env => (m env).bind fun d e => match d with | .bl b => .ok b e | _ => .stk
section
variable {T : Tab} {W : WX} {X : Cx} {a b c e : Expr} {rest : List Expr} {ka kb k : Kd} {m ma mb : M} {ta tb tc : MT} {pos : Pos} {env env' : Env} {σ : St} {P H P' H' : Hp} {x : V}
theorem truV {d : D} {t : Bool} (hK : X.K = T.K) (R1 : PSub P H) (h : Rdb T P H d x) (ht : truth d = some t) : TruV X.K x H t := by
  rw [hK]
  cases d with
  | non => rw [h.nonE]; cases ht; rfl
  | bl b => rw [h.blE]; cases ht; rfl
  | int i => rw [h.intE]; cases ht; rfl
  | str s =>
    rw [h.strE]
    have ht : (if s.length ≤ sizeLine then some ((s.length : Int) != 0) else none) = some t := ht
    by_cases hl : s.length ≤ sizeLine
    · rw [if_pos hl] at ht; cases ht; exact ⟨hl, rfl⟩
    · rw [if_neg hl] at ht; cases ht
  | lst ds =>
    obtain ⟨a, vs, rfl, h1, h2⟩ := h.lstE R1
    cases ht
    refine .inl ⟨vs, .inl h1, ?_⟩
    have := h2.length
    cases ds <;> cases vs <;> simp at this ⊢
  | tup ds =>
    obtain ⟨a, vs, rfl, h1, h2⟩ := h.tupE R1
    cases ht
    refine .inr (.inl ⟨vs, h1, ?_⟩)
    have := h2.length
    cases ds <;> cases vs <;> simp at this ⊢
  | obj _ _ => cases ht
  | scr ns =>
    obtain ⟨a, rfl, h1⟩ := h.scrE R1
    cases ht
    exact .inl ⟨_, h1, by cases ns <;> rfl⟩
theorem dt_tr (hK : X.K = T.K) (ha : DE T W X a k m) (he : ∀ whole, isTrue a X.env whole = (do let v ← whole; standAt a.pos; holding [v] (truthy v))) : DT T W X a (trM m) := by
  refine pt_imp (pt_truth ha he) fun σ H Q h => ?_
  obtain ⟨env, P, RR, h⟩ := h
  refine ⟨env, P, RR, After.mono h.bind fun d env1 P1 H1 R1 F1 h1 x kx nx => ?_⟩
  cases e : truth d with
  | none => rw [e] at h1; exact False.elim h1
  | some t =>
    rw [e] at h1
    exact ⟨t, truV hK R1.sub (kx.rdb R1) e, h1.here R1 (Fr.refl _ _ _ _)⟩
def DW (T : Tab) (W : WX) (X : Cx) (e : Expr) (m : MT) : Prop := PW X e (rdT T W m)
theorem dw_and1 (h : DT T W X a ta) : DW T W X (.BoolOp .And [a] pos) ta := pw_and1 h
theorem dw_or1 (h : DT T W X a ta) : DW T W X (.BoolOp .Or [a] pos) ta := pw_or1 h
theorem dw_and (h : DT T W X a ta) (h' : DW T W X (.BoolOp .And (b :: rest) pos) tb) : DW T W X (.BoolOp .And (a :: b :: rest) pos) (andT ta tb) := by
  refine pw_imp (pw_and h h') fun σ H Q h => ?_
  obtain ⟨env, P, RR, h⟩ := h
  refine ⟨env, P, RR, After.mono h.bind fun d env1 P1 H1 R1 F1 h1 => ?_⟩
  cases d with
  | true => exact iteT ⟨env1, P1, R1, h1⟩
  | false => exact iteF (h1.here R1 (Fr.refl _ _ _ _))
theorem dw_or (h : DT T W X a ta) (h' : DW T W X (.BoolOp .Or (b :: rest) pos) tb) : DW T W X (.BoolOp .Or (a :: b :: rest) pos) (orT ta tb) := by
  refine pw_imp (pw_or h h') fun σ H Q h => ?_
  obtain ⟨env, P, RR, h⟩ := h
  refine ⟨env, P, RR, After.mono h.bind fun d env1 P1 H1 R1 F1 h1 => ?_⟩
  cases d with
  | true => exact iteT (h1.here R1 (Fr.refl _ _ _ _))
  | false => exact iteF ⟨env1, P1, R1, h1⟩
theorem dt_w (h : DW T W X a ta) : DT T W X a ta := PW.pt h
theorem dt_not (h : DT T W X a ta) : DT T W X (.UnaryOp .Not a pos) (notT ta) := by
  refine pt_imp (pt_not h) fun σ H Q h => ?_
  obtain ⟨env, P, RR, h⟩ := h
  exact ⟨env, P, RR, After.mono h.bind fun d env1 P1 H1 R1 F1 h1 => h1.here R1 (Fr.refl _ _ _ _)⟩
theorem de_ifExp (hc : DT T W X c tc) (ha : DE T W X a k ma) (hb : DE T W X b k mb) : DE T W X (.IfExp c a b pos) k (ifM tc ma mb) := by
  refine pe_imp (pe_ifExp hc ha hb) fun σ H Q h => ?_
  obtain ⟨env, P, RR, h⟩ := h
  refine ⟨env, P, RR, After.mono h.bind fun d env1 P1 H1 R1 F1 h1 => ?_⟩
  have nb : ∀ {m : M}, After T W σ env1 P1 H1 (m env1) (fun d env' P' H' => ∀ x, KRep T k env' σ P' H' d x → NewV k H x → Q x H') → rdE T W k m σ H1 Q :=
    fun z => ⟨env1, P1, R1, After.mono z fun _ _ _ _ _ _ q x kx nx => q x kx (nx.back F1)⟩
  cases d with
  | true => exact iteT (nb h1)
  | false => exact iteF (nb h1)
/-! as values: all but the last must be truth values -/
def andV (ma mb : M) : M := fun env => (ma env).bind fun d e => match d with | .bl true => mb e | .bl false => .ok (.bl false) e | _ => .stk
def orV (ma mb : M) : M := fun env => (ma env).bind fun d e => match d with | .bl true => .ok (.bl true) e | .bl false => mb e | _ => .stk
def notV (ma : M) : M := fun env => (ma env).bind fun d e => match d with | .bl b => .ok (.bl (!b)) e | _ => .stk
theorem Rdb.bool {d : D} {c : Bool} (h : Rdb T P H d (.bl c)) : d = .bl c := by
  cases d with
  | bl b => have := h.blE; cases this; rfl
  | non => have := h.nonE; cases this
  | int i => have := h.intE; cases this
  | str i => have := h.strE; cases this
  | tup ds =>
    rcases h with h | ⟨_, _, _, h, _⟩
    · rw [Rep] at h; obtain ⟨a, vs, h, _⟩ := h; cases h
    · cases h
  | lst ds =>
    rcases h with h | ⟨_, _, _, h, _⟩
    · rw [Rep] at h; obtain ⟨a, vs, h, _⟩ := h; cases h
    · cases h
  | obj c ds =>
    rcases h with h | ⟨_, _, _, h, _⟩
    · rw [Rep] at h; obtain ⟨a, dx, vs, h, _⟩ := h; cases h
    · cases h
  | scr ns =>
    rcases h with h | ⟨_, _, _, h, _⟩
    · rw [Rep] at h; obtain ⟨a, h, _⟩ := h; cases h
    · cases h
theorem de_and (h : DE T W X a ka ma) (h' : DE T W X (.BoolOp .And (b :: rest) pos) .pure mb) : DE T W X (.BoolOp .And (a :: b :: rest) pos) .pure (andV ma mb) := by
  refine pe_imp (pe_and h h') fun σ H Q h => ?_
  obtain ⟨env, P, RR, h⟩ := h
  refine ⟨env, P, RR, After.mono h.bind fun d env1 P1 H1 R1 F1 h1 x kx nx => ?_⟩
  cases d with
  | bl c =>
    refine ⟨c, (kx.rdb R1).blE, ?_⟩
    cases c with
    | true => exact iteT ⟨env1, P1, R1, After.mono h1 fun _ _ _ _ _ _ q x kx nx => q x kx trivial⟩
    | false => exact iteF (h1.here R1 (Fr.refl _ _ _ _) _ (show Rep T P1 _ _ from rep_bl) trivial)
  | _ => exact False.elim h1
theorem de_or (h : DE T W X a ka ma) (h' : DE T W X (.BoolOp .Or (b :: rest) pos) .pure mb) : DE T W X (.BoolOp .Or (a :: b :: rest) pos) .pure (orV ma mb) := by
  refine pe_imp (pe_or h h') fun σ H Q h => ?_
  obtain ⟨env, P, RR, h⟩ := h
  refine ⟨env, P, RR, After.mono h.bind fun d env1 P1 H1 R1 F1 h1 x kx nx => ?_⟩
  cases d with
  | bl c =>
    refine ⟨c, (kx.rdb R1).blE, ?_⟩
    cases c with
    | false => exact iteF ⟨env1, P1, R1, After.mono h1 fun _ _ _ _ _ _ q x kx nx => q x kx trivial⟩
    | true => exact iteT (h1.here R1 (Fr.refl _ _ _ _) _ (show Rep T P1 _ _ from rep_bl) trivial)
  | _ => exact False.elim h1
theorem de_one {op : BoolOp} (h : DE T W X a k m) : DE T W X (.BoolOp op [a] pos) k m := pe_one h
theorem de_notV (h : DE T W X a ka ma) : DE T W X (.UnaryOp .Not a pos) .pure (notV ma) := by
  refine pe_imp (pe_not h) fun σ H Q h => ?_
  obtain ⟨env, P, RR, h⟩ := h
  refine ⟨env, P, RR, After.mono h.bind fun d env1 P1 H1 R1 F1 h1 x kx nx => ?_⟩
  cases d with
  | bl c => exact ⟨c, (kx.rdb R1).blE, h1.here R1 (Fr.refl _ _ _ _) _ (show Rep T P1 _ _ from rep_bl) trivial⟩
  | _ => exact False.elim h1
end

/-! ### lists of arguments -/
def argsM : List M → Env → R (List D)
  | [], env => .ok [] env
  | m :: ms, env => (m env).bind fun d e1 => (argsM ms e1).bind fun ds e2 => .ok (d :: ds) e2
inductive KReps (T : Tab) (env : Env) (σ : St) (P H : Hp) : List Kd → List D → List V → Prop where
  | nil : KReps T env σ P H [] [] []
  | cons {k : Kd} {ks : List Kd} {d : D} {ds : List D} {x : V} {xs : List V} : KRep T k env σ P H d x → KReps T env σ P H ks ds xs → KReps T env σ P H (k :: ks) (d :: ds) (x :: xs)
def rdA (T : Tab) (W : WX) (ks : List Kd) (ms : List M) : TA := fun σ H Q => ∃ env P, Rel T env σ P H ∧ After T W σ env P H (argsM ms env) (fun ds env' P' H' => ∀ xs, KReps T env' σ P' H' ks ds xs → Q xs H')
def DA (T : Tab) (W : WX) (X : Cx) (es : List Expr) (ks : List Kd) (ms : List M) : Prop := PA X es (rdA T W ks ms)
section
variable {T : Tab} {W : WX} {X : Cx} {a b c e : Expr} {es : List Expr} {k : Kd} {ks : List Kd} {m : M} {ms : List M} {pos : Pos} {env env' : Env} {σ : St} {P H P' H' : Hp} {x : V}
theorem da_nil : DA T W X [] [] [] := by
  refine pa_imp pa_nil fun σ H Q h => ?_
  obtain ⟨env, P, RR, h⟩ := h
  exact h.here RR (Fr.refl _ _ _ _) _ .nil
theorem da_cons (h : DE T W X e k m) (h' : DA T W X es ks ms) (hs : Steady k (argsM ms) := by trivial) (hst : starEach (e :: es) X.env = (false, eval e X.env) :: starEach es X.env := by rfl) : DA T W X (e :: es) (k :: ks) (m :: ms) := by
  refine pa_imp (pa_cons h h' hst) fun σ H Q h => ?_
  obtain ⟨env, P, RR, h⟩ := h
  refine ⟨env, P, RR, After.at h.bind fun d env1 P1 H1 _ R1 F1 h1 x kx nx => ?_⟩
  refine ⟨env1, P1, R1, After.at h1.bind fun ds env2 P2 H2 e2 R2 F2 h2 xs kxs => ?_⟩
  exact h2.here R2 (Fr.refl _ _ _ _) _ (.cons (kx.carry F2 (hs.use e2)) kxs)
theorem KReps.rdbs (R1 : Rel T env σ P H) : ∀ {ks : List Kd} {ds : List D} {xs : List V}, KReps T env σ P H ks ds xs → Rdbs T P H ds xs
  | _, _, _, .nil => .nil
  | _, _, _, .cons h t => .cons (h.rdb R1) (KReps.rdbs R1 t)
theorem KReps.pures : ∀ {ks : List Kd} {ds : List D} {xs : List V}, KReps T env σ P H ks ds xs → (∀ k ∈ ks, k = .pure) → Reps T P ds xs
  | _, _, _, .nil, _ => Reps.nil
  | _, _, _, .cons h t, hp => by
    have e := hp _ List.mem_cons_self
    subst e
    exact Reps.cons h (t.pures fun k hk => hp k (List.mem_cons_of_mem _ hk))
theorem pures_nil : ∀ k ∈ ([] : List Kd), k = .pure := fun _ h => nomatch h
theorem pures_cons {ks : List Kd} (h : ∀ k ∈ ks, k = .pure) : ∀ k ∈ (Kd.pure :: ks), k = .pure := fun k hk => by
  rcases List.mem_cons.mp hk with e | e
  · exact e
  · exact h k e
/-- a call of a built-in -/
def CallD (T : Tab) (r : List V → Hp → VK → Prop) (k : Kd) (g : List D → Option D) : Prop :=
  ∀ (env : Env) (σ : St) (P H : Hp) (ds : List D) (xs : List V) (d : D) (Q : VK), Rel T env σ P H → Rdbs T P H ds xs → g ds = some d →
    (∀ v P' H', Rel T env σ P' H' → Fr env σ P H env σ P' H' → KRep T k env σ P' H' d v → NewV k H v → Q v H') → r xs H Q
def callM (g : List D → Option D) (ms : List M) : M := fun env => (argsM ms env).bind fun ds e => liftO (g ds) e
theorem rd_call {r : List V → Hp → VK → Prop} {g : List D → Option D} (hD : CallD T r k g) {σ : St} {H : Hp} {Q : VK} (h : rdE T W k (callM g ms) σ H Q) : tCB r (rdA T W ks ms) σ H Q := by
  obtain ⟨env, P, RR, h⟩ := h
  refine ⟨env, P, RR, After.at h.bind fun ds env1 P1 H1 _ R1 F1 h1 xs kxs => ?_⟩
  cases e : g ds with
  | none => rw [e] at h1; exact False.elim h1
  | some d =>
    rw [e] at h1
    exact hD env1 σ P1 H1 ds xs d Q R1 (kxs.rdbs R1) e fun v P' H' R' F' kv nv => h1 P' H' R' F' v kv (nv.back F1)
theorem de_callB {x : Str} {id : String} {p : Pos} {r : List V → Hp → VK → Prop} {g : List D → Option D} (hc : CallR X (.builtin id) r) (hD : CallD T r k g) (hg : Gl X x) (hm : X.mg x = none) (hv : bootBuiltins x = some (.builtin id)) (ha : DA T W X (e :: es) ks ms)
    (hn : x ≠ "__name__" := by decide) (hdb : (x == ("__debug__" : Str)) = false := by decide) (he : starEach (e :: es) X.env = (false, eval e X.env) :: starEach es X.env := by rfl) (hpl : (backTo pos (starEach es X.env)).any (·.1) = false := by rfl) : DE T W X (.Call (.Name x p) (e :: es) [] pos) k (callM g ms) :=
  pe_imp (pe_callB hc hg hm hv ha hn hdb he hpl) fun _ _ _ h => rd_call hD h
theorem de_callTy {x : Str} {id : String} {p : Pos} {r : List V → Hp → VK → Prop} {g : List D → Option D} (hc : CallR X (.type id) r) (hD : CallD T r k g) (hg : Gl X x) (hm : X.mg x = none) (hv : bootBuiltins x = some (.type id)) (ha : DA T W X (e :: es) ks ms)
    (hn : x ≠ "__name__" := by decide) (hdb : (x == ("__debug__" : Str)) = false := by decide) (he : starEach (e :: es) X.env = (false, eval e X.env) :: starEach es X.env := by rfl) (hpl : (backTo pos (starEach es X.env)).any (·.1) = false := by rfl) : DE T W X (.Call (.Name x p) (e :: es) [] pos) k (callM g ms) :=
  pe_imp (pe_callTy hc hg hm hv ha hn hdb he hpl) fun _ _ _ h => rd_call hD h
/-- displays: the items stay -/
def tupM (ms : List M) : M := fun env => (argsM ms env).bind fun ds e => if ds.length ≤ sizeLine then .ok (.tup ds) e else .stk
def lstM (ms : List M) : M := fun env => (argsM ms env).bind fun ds e => if ds.length ≤ sizeLine then .ok (.lst ds) e else .stk
theorem de_tup {x1 : Nat} (h : DA T W X es ks ms) (hp : ∀ k ∈ ks, k = Kd.pure) : DE T W X (.Tuple es x1 pos) .pure (tupM ms) := by
  refine pe_imp (pe_tup h) fun σ H Q h => ?_
  obtain ⟨env, P, RR, h⟩ := h
  refine ⟨env, P, RR, After.at h.bind fun ds env1 P1 H1 _ R1 F1 h1 xs kxs => ?_⟩
  have rs := kxs.pures hp
  by_cases hl : ds.length ≤ sizeLine
  · rw [if_pos hl] at h1
    refine ⟨by rw [rs.length]; exact hl, fun p hp => ?_⟩
    obtain ⟨R2, F2⟩ := R1.newP (o := .tup xs) hp
    exact h1 _ _ R2 F2 _ (rep_tup upd_same (Reps.sub F2.mono _ _ rs)) trivial
  · rw [if_neg hl] at h1; exact False.elim h1
theorem de_lst (h : DA T W X es ks ms) (hp : ∀ k ∈ ks, k = Kd.pure) : DE T W X (.List es pos) .fresh (lstM ms) := by
  refine pe_imp (pe_lst h) fun σ H Q h => ?_
  obtain ⟨env, P, RR, h⟩ := h
  refine ⟨env, P, RR, After.at h.bind fun ds env1 P1 H1 _ R1 F1 h1 xs kxs => ?_⟩
  have rs := kxs.pures hp
  by_cases hl : ds.length ≤ sizeLine
  · rw [if_pos hl] at h1
    refine ⟨by rw [rs.length]; exact hl, fun p hp => ?_⟩
    obtain ⟨R2, F2, no, pn⟩ := R1.newF (o := .lst xs) hp
    exact h1 _ _ R2 F2 _ ⟨p, xs, ds, rfl, upd_same, pn, no, rs, rfl⟩ (NewV.back (k := .fresh) F1 ⟨p, rfl, hp⟩)
  · rw [if_neg hl] at h1; exact False.elim h1
end
end Ue

set_option linter.all false
set_option Elab.async false
set_option maxRecDepth 100000
set_option maxHeartbeats 4000000
namespace Ue
open PySem L2

/-! ### plain data for == -/
mutual
def toPy : D → Option PyData
  | .non => some .none
  | .bl b => some (.bool b)
  | .int i => some (.int i)
  | .str s => some (.str s)
  | .tup ds => (toPys ds).map .tuple
  | .lst ds => (toPys ds).map .list
  | .obj _ _ => none
  | .scr _ => none
def toPys : List D → Option (List PyData)
  | [] => some []
  | d :: ds => match toPy d, toPys ds with
    | some p, some ps => some (p :: ps)
    | _, _ => none
end
section
variable {T : Tab} {P H : Hp}
mutual
theorem dp_of (R1 : PSub P H) : ∀ (d : D) (x : V) (p : PyData), Rep T P d x → toPy d = some p → Dp T.K H x p
  | .non, x, p, h, e => by rw [Rep] at h; cases e; subst h; exact .non
  | .bl b, x, p, h, e => by rw [Rep] at h; cases e; subst h; exact .bl b
  | .int i, x, p, h, e => by rw [Rep] at h; cases e; subst h; exact .int i
  | .str s, x, p, h, e => by rw [Rep] at h; cases e; subst h; exact .str s
  | .tup ds, x, p, h, e => by
    rw [Rep] at h
    obtain ⟨a, vs, rfl, h1, h2⟩ := h
    rw [toPy] at e
    cases q : toPys ds with
    | none => rw [q] at e; cases e
    | some ps => rw [q] at e; cases e; exact .tup (sqT_sub R1 h1) (dps_of R1 ds vs ps h2 q)
  | .lst ds, x, p, h, e => by
    rw [Rep] at h
    obtain ⟨a, vs, rfl, h1, h2⟩ := h
    rw [toPy] at e
    cases q : toPys ds with
    | none => rw [q] at e; cases e
    | some ps => rw [q] at e; cases e; exact .lst (.inl (Rd.sub R1 h1)) (dps_of R1 ds vs ps h2 q)
  | .obj c ds, x, p, h, e => by rw [toPy] at e; cases e
  | .scr ns, x, p, h, e => by rw [toPy] at e; cases e
theorem dps_of (R1 : PSub P H) : ∀ (ds : List D) (xs : List V) (ps : List PyData), Reps T P ds xs → toPys ds = some ps → DpAll T.K H xs ps
  | [], xs, ps, h, e => by rw [Reps] at h; rw [toPys] at e; cases e; subst h; exact .nil
  | d :: ds, xs, ps, h, e => by
    rw [Reps] at h
    obtain ⟨v, r, rfl, h1, h2⟩ := h
    rw [toPys] at e
    cases q1 : toPy d with
    | none => rw [q1] at e; cases e
    | some p =>
      cases q2 : toPys ds with
      | none => rw [q1, q2] at e; cases e
      | some qs => rw [q1, q2] at e; cases e; exact .cons (dp_of R1 d v p h1 q1) (dps_of R1 ds r qs h2 q2)
end
theorem Rdb.dp {d : D} {x : V} {p : PyData} (R1 : PSub P H) (h : Rdb T P H d x) (e : toPy d = some p) : Dp T.K H x p := by
  rcases h with h | ⟨a, vs, ds, rfl, h1, h2, rfl⟩
  · exact dp_of R1 d x p h e
  · rw [toPy] at e
    cases q : toPys ds with
    | none => rw [q] at e; cases e
    | some ps => rw [q] at e; cases e; exact .lst (.of h1) (dps_of R1 ds vs ps h2 q)
end
def eqD (a b : D) : Option Bool := match toPy a, toPy b with
  | some p, some q => if SeqAt.shaped p = true ∧ SeqAt.shaped q = true then some (PyData.eqv p q) else none
  | _, _ => none
def neD (a b : D) : Option Bool := (eqD a b).map (!·)
def inD (a b : D) : Option Bool := match toPy a, toPy b with
  | some p, some (.list qs) => if SeqAt.shaped p = true ∧ SeqAt.shaped (.list qs) = true then some (qs.any fun z => PyData.eqv z p) else none
  | _, _ => none
def notInD (a b : D) : Option Bool := (inD a b).map (!·)
section
variable {T : Tab}
theorem eqD_some {a b : D} {t : Bool} (h : eqD a b = some t) : ∃ p q, toPy a = some p ∧ toPy b = some q ∧ SeqAt.shaped p = true ∧ SeqAt.shaped q = true ∧ t = PyData.eqv p q := by
  unfold eqD at h
  cases ea : toPy a with
  | none => rw [ea] at h; cases h
  | some p =>
    cases eb : toPy b with
    | none => rw [ea, eb] at h; cases h
    | some q =>
      rw [ea, eb] at h
      have h : (if SeqAt.shaped p = true ∧ SeqAt.shaped q = true then some (PyData.eqv p q) else none) = some t := h
      by_cases c : SeqAt.shaped p = true ∧ SeqAt.shaped q = true
      · rw [if_pos c] at h; cases h; exact ⟨p, q, rfl, rfl, c.1, c.2, rfl⟩
      · rw [if_neg c] at h; cases h
theorem cd_eqD : CmpD T (rEqD T.K) eqD := fun P H dx dy x y b Q R1 hx hy e q => by
  obtain ⟨p, r, e1, e2, s1, s2, rfl⟩ := eqD_some e
  exact ⟨p, r, hx.dp R1 e1, hy.dp R1 e2, s1, s2, q⟩
theorem cd_neD : CmpD T (rNeD T.K) neD := fun P H dx dy x y b Q R1 hx hy e q => by
  unfold neD at e
  cases c : eqD dx dy with
  | none => rw [c] at e; cases e
  | some t =>
    rw [c] at e
    obtain ⟨p, r, e1, e2, s1, s2, rfl⟩ := eqD_some c
    cases e
    exact ⟨p, r, hx.dp R1 e1, hy.dp R1 e2, s1, s2, q⟩
theorem inD_some {a b : D} {t : Bool} (h : inD a b = some t) : ∃ p qs, toPy a = some p ∧ toPy b = some (.list qs) ∧ SeqAt.shaped p = true ∧ SeqAt.shaped (.list qs) = true ∧ t = qs.any fun z => PyData.eqv z p := by
  unfold inD at h
  cases ea : toPy a with
  | none => rw [ea] at h; cases h
  | some p =>
    cases eb : toPy b with
    | none => rw [ea, eb] at h; cases h
    | some q =>
      rw [ea, eb] at h
      cases q with
      | list qs =>
        have h : (if SeqAt.shaped p = true ∧ SeqAt.shaped (.list qs) = true then some (qs.any fun z => PyData.eqv z p) else none) = some t := h
        by_cases c : SeqAt.shaped p = true ∧ SeqAt.shaped (.list qs) = true
        · rw [if_pos c] at h; cases h; exact ⟨p, qs, rfl, rfl, c.1, c.2, rfl⟩
        · rw [if_neg c] at h; cases h
      | _ => cases h
theorem cd_inD : CmpD T (rInD T.K) inD := fun P H dx dy x y b Q R1 hx hy e q => by
  obtain ⟨p, r, e1, e2, s1, s2, rfl⟩ := inD_some e
  exact ⟨p, r, hx.dp R1 e1, hy.dp R1 e2, s1, s2, q⟩
theorem cd_notInD : CmpD T (rNotInD T.K) notInD := fun P H dx dy x y b Q R1 hx hy e q => by
  unfold notInD at e
  cases c : inD dx dy with
  | none => rw [c] at e; cases e
  | some t =>
    rw [c] at e
    obtain ⟨p, r, e1, e2, s1, s2, rfl⟩ := inD_some c
    cases e
    exact ⟨p, r, hx.dp R1 e1, hy.dp R1 e2, s1, s2, q⟩
end

/-! ### ints -/
def i2 (f : Int → Int → D) (a b : D) : Option D := match a, b with | .int i, .int j => some (f i j) | _, _ => none
def i2c (c : Int → Int → Bool) (f : Int → Int → D) (a b : D) : Option D := match a, b with | .int i, .int j => if c i j then some (f i j) else none | _, _ => none
def c2 (f : Int → Int → Bool) (a b : D) : Option Bool := match a, b with | .int i, .int j => some (f i j) | _, _ => none
section
variable {T : Tab}
theorem od_i2 {f : Int → Int → Int} : OpD T (rI0 fun i j => .int (f i j)) .pure (i2 fun i j => .int (f i j)) := fun env σ P H dx dy x y d Q R1 hx hy e k => by
  cases dx with
  | int i =>
    cases dy with
    | int j => cases e; exact ⟨i, j, hx.intE, hy.intE, k _ P H R1 (Fr.refl _ _ _ _) (show Rep T P _ _ from rep_int) trivial⟩
    | _ => cases e
  | _ => cases e
theorem od_i2c {c : Int → Int → Bool} {C : Int → Int → Prop} {f : Int → Int → Int} (hc : ∀ i j, c i j = true → C i j) : OpD T (rI C fun i j => .int (f i j)) .pure (i2c c fun i j => .int (f i j)) := fun env σ P H dx dy x y d Q R1 hx hy e k => by
  cases dx with
  | int i =>
    cases dy with
    | int j =>
      have e : (if c i j then some (D.int (f i j)) else none) = some d := e
      by_cases z : c i j = true
      · rw [if_pos z] at e; cases e
        exact ⟨i, j, hx.intE, hy.intE, hc i j z, k _ P H R1 (Fr.refl _ _ _ _) (show Rep T P _ _ from rep_int) trivial⟩
      · rw [if_neg z] at e; cases e
    | _ => cases e
  | _ => cases e
theorem cd_c2 {f : Int → Int → Bool} : CmpD T (rI0 fun i j => .bl (f i j)) (c2 f) := fun P H dx dy x y b Q R1 hx hy e q => by
  cases dx with
  | int i =>
    cases dy with
    | int j => cases e; exact ⟨i, j, hx.intE, hy.intE, q⟩
    | _ => cases e
  | _ => cases e
/-- == of scalars -/
def eqS (a b : D) : Option Bool := match a, b with
  | .int i, .int j => some (decide (i = j))
  | .str i, .str j => some (decide (i = j))
  | .bl i, .bl j => some (decide (i = j))
  | .non, .non => some true
  | .non, .int _ => some false | .int _, .non => some false | .non, .bl _ => some false | .bl _, .non => some false | .non, .str _ => some false | .str _, .non => some false
  | .int _, .str _ => some false | .str _, .int _ => some false | .bl _, .str _ => some false | .str _, .bl _ => some false
  | _, _ => none
def neS (a b : D) : Option Bool := (eqS a b).map (!·)
theorem eqS_some {P H : Hp} {dx dy : D} {x y : V} {b : Bool} (hx : Rdb T P H dx x) (hy : Rdb T P H dy y) (e : eqS dx dy = some b) : scal x y = true ∧ decide (x = y) = b := by
  cases dx <;> cases dy <;> (try cases e) <;> (first | rw [hx.intE] | rw [hx.strE] | rw [hx.blE] | rw [hx.nonE]) <;> (first | rw [hy.intE] | rw [hy.strE] | rw [hy.blE] | rw [hy.nonE]) <;> refine ⟨rfl, ?_⟩ <;> simp
theorem cd_eqS : CmpD T rEq eqS := fun P H dx dy x y b Q R1 hx hy e q => by
  obtain ⟨h1, h2⟩ := eqS_some hx hy e
  exact ⟨h1, by rw [h2]; exact q⟩
theorem cd_neS : CmpD T rNe neS := fun P H dx dy x y b Q R1 hx hy e q => by
  unfold neS at e
  cases c : eqS dx dy with
  | none => rw [c] at e; cases e
  | some t =>
    rw [c] at e; cases e
    obtain ⟨h1, h2⟩ := eqS_some hx hy c
    exact ⟨h1, by rw [h2]; exact q⟩
def isN (a b : D) : Option Bool := match b with
  | .non => (match a with | .non => some true | .bl _ => some false | .int _ => some false | .str _ => some false | .tup _ => some false | .lst _ => some false | .obj _ _ => some false | .scr _ => some false)
  | _ => none
def notN (a b : D) : Option Bool := (isN a b).map (!·)
theorem Rdb.ref {P H : Hp} {d : D} {x : V} (h : Rdb T P H d x) (hd : (∃ ds, d = .tup ds) ∨ (∃ ds, d = .lst ds) ∨ (∃ ns, d = .scr ns) ∨ ∃ c ds, d = .obj c ds) : ∃ a, x = .ref a := by
  rcases h with h | ⟨a, _, _, h, _⟩
  · rcases hd with ⟨ds, rfl⟩ | ⟨ds, rfl⟩ | ⟨ns, rfl⟩ | ⟨c, ds, rfl⟩
    · rw [Rep] at h; obtain ⟨a, vs, h, _⟩ := h; exact ⟨a, h⟩
    · rw [Rep] at h; obtain ⟨a, vs, h, _⟩ := h; exact ⟨a, h⟩
    · rw [Rep] at h; obtain ⟨a, h, _⟩ := h; exact ⟨a, h⟩
    · rw [Rep] at h; obtain ⟨a, dx, vs, h, _⟩ := h; exact ⟨a, h⟩
  · exact ⟨a, h⟩
theorem isN_some {P H : Hp} {dx dy : D} {x y : V} {b : Bool} (hx : Rdb T P H dx x) (hy : Rdb T P H dy y) (e : isN dx dy = some b) : y = .non ∧ decide (x = .non) = b := by
  cases dy with
  | non =>
    refine ⟨hy.nonE, ?_⟩
    cases dx with
    | non => rw [hx.nonE]; cases e; rfl
    | bl i => rw [hx.blE]; cases e; rfl
    | int i => rw [hx.intE]; cases e; rfl
    | str i => rw [hx.strE]; cases e; rfl
    | tup ds => obtain ⟨a, rfl⟩ := hx.ref (.inl ⟨_, rfl⟩); cases e; rfl
    | lst ds => obtain ⟨a, rfl⟩ := hx.ref (.inr (.inl ⟨_, rfl⟩)); cases e; rfl
    | scr ns => obtain ⟨a, rfl⟩ := hx.ref (.inr (.inr (.inl ⟨_, rfl⟩))); cases e; rfl
    | obj c ds => obtain ⟨a, rfl⟩ := hx.ref (.inr (.inr (.inr ⟨_, _, rfl⟩))); cases e; rfl
  | _ => cases e
theorem cd_isN : CmpD T (fun x y H Q => y = .non ∧ Q (.bl (decide (x = .non))) H) isN := fun P H dx dy x y b Q R1 hx hy e q => by
  obtain ⟨h1, h2⟩ := isN_some hx hy e
  exact ⟨h1, by rw [h2]; exact q⟩
theorem cd_notN : CmpD T (fun x y H Q => y = .non ∧ Q (.bl (!decide (x = .non))) H) notN := fun P H dx dy x y b Q R1 hx hy e q => by
  unfold notN at e
  cases c : isN dx dy with
  | none => rw [c] at e; cases e
  | some t =>
    rw [c] at e; cases e
    obtain ⟨h1, h2⟩ := isN_some hx hy c
    exact ⟨h1, by rw [h2]; exact q⟩
def isB (a b : D) : Option Bool := match a, b with | .bl i, .bl j => some (decide (i = j)) | _, _ => none
def notB (a b : D) : Option Bool := (isB a b).map (!·)
theorem cd_isB : CmpD T rIsB isB := fun P H dx dy x y b Q R1 hx hy e q => by
  cases dx with
  | bl i =>
    cases dy with
    | bl j => cases e; exact ⟨i, j, hx.blE, hy.blE, q⟩
    | _ => cases e
  | _ => cases e
theorem cd_notB : CmpD T rNotB notB := fun P H dx dy x y b Q R1 hx hy e q => by
  cases dx with
  | bl i =>
    cases dy with
    | bl j => cases e; exact ⟨i, j, hx.blE, hy.blE, q⟩
    | _ => cases e
  | _ => cases e
/-! unary -/
def u1 (f : Int → D) (a : D) : Option D := match a with | .int i => some (f i) | _ => none
theorem ud_u1 {f : Int → Int} : UnD T (rU fun i => .int (f i)) .pure (u1 fun i => .int (f i)) := fun env σ P H dx x d Q R1 hx e k => by
  cases dx with
  | int i => cases e; exact ⟨i, hx.intE, k _ P H R1 (Fr.refl _ _ _ _) (show Rep T P _ _ from rep_int) trivial⟩
  | _ => cases e
end
/-! ### the bounds -/
def small64 (i : Int) : Bool := decide (i.natAbs < 18446744073709551616)
def mulOk (i j : Int) : Bool := small64 i || small64 j || decide (i.natAbs.log2 + j.natAbs.log2 < 100000000)
def powOk (i j : Int) : Bool := decide (0 ≤ j) && decide (j ≤ 1000000) && small64 i
theorem mulOk_ok {i j : Int} (h : mulOk i j = true) : IntMulOk i j := by
  unfold mulOk small64 at h
  rcases Bool.or_eq_true_iff.mp h with h | h
  · have hm : CMul i j := by
      rcases Bool.or_eq_true_iff.mp h with h | h
      · have := of_decide_eq_true h; exact .inl (by omega)
      · have := of_decide_eq_true h; exact .inr (by omega)
    exact hm.ok
  · have b : ∀ x : Int, Builtin.Int.intBits x ≤ x.natAbs.log2 + 1 := fun x => by
      unfold Builtin.Int.intBits
      split <;> omega
    have h1 := b i
    have h2 := b j
    have h3 := of_decide_eq_true h
    refine CMulX.ok ?_
    unfold CMulX
    omega
def divOk (i j : Int) : Bool := decide (j ≠ 0) && (small64 j || !Builtin.divisionGoesByPylong i j)
theorem log2_64 {n : Nat} (h : n < 18446744073709551616) : n.log2 < 9000 := by
  by_cases h0 : n = 0
  · rw [h0]; decide +kernel
  · rw [Nat.log2_lt h0]; exact Nat.lt_of_lt_of_le h (by rw [show (18446744073709551616 : Nat) = 2 ^ 64 by decide]; exact Nat.pow_le_pow_right (by decide) (by decide))
theorem divOk_ok {i j : Int} (h : divOk i j = true) : j ≠ 0 ∧ Builtin.divisionGoesByPylong i j = false := by
  unfold divOk at h
  obtain ⟨h1, h2⟩ := Bool.and_eq_true_iff.mp h
  refine ⟨of_decide_eq_true h1, ?_⟩
  rcases Bool.or_eq_true_iff.mp h2 with q | q
  · exact PyProof.noPylong_of_log2 (log2_64 (of_decide_eq_true q))
  · simpa using q
section
variable {X : Cx} {T : Tab}
theorem op_mulA : OpR X (binaryOp .Mult) (rI (fun i j => mulOk i j = true) fun i j => .int (i * j)) := opI fun _ _ _ _ _ _ _ hc q => PyProof.Rows.mul_int q (mulOk_ok hc)
theorem op_fdivA : OpR X (binaryOp .FloorDiv) (rI (fun i j => divOk i j = true) fun i j => .int (i.fdiv j)) := opI fun i j _ _ _ _ _ hc q => by
  obtain ⟨h1, h2⟩ := divOk_ok hc
  exact PyProof.Rows.floordiv_int h1 q (.inl h2)
/-! the operators of ints, each with its plain function -/
abbrev addI := i2 fun i j => .int (i + j)
abbrev subI := i2 fun i j => .int (i - j)
abbrev mulI := i2c mulOk fun i j => .int (i * j)
abbrev fdivI := i2c divOk fun i j => .int (i.fdiv j)
abbrev modI := i2c (fun _ j => decide (j ≠ 0)) fun i j => .int (i.fmod j)
abbrev powI := i2c powOk fun i j => .int (i ^ j.toNat)
def shlOk (i j : Int) : Bool := decide (0 ≤ j) && decide ((Builtin.Int.intBits i : Int) + j ≤ 2 ^ 27)
abbrev shlI := i2c shlOk fun i j => .int (i * 2 ^ j.toNat)
abbrev shrI := i2c (fun _ j => decide (0 ≤ j)) fun i j => .int (i / 2 ^ j.toNat)
abbrev andI := i2 fun i j => .int (Builtin.bitAnd i j)
abbrev orI := i2 fun i j => .int (Builtin.bitOr i j)
abbrev xorI := i2 fun i j => .int (Builtin.bitXor i j)
theorem od_add : OpD T (rI0 fun i j => .int (i + j)) .pure addI := od_i2
theorem od_sub : OpD T (rI0 fun i j => .int (i - j)) .pure subI := od_i2
theorem od_mul : OpD T (rI (fun i j => mulOk i j = true) fun i j => .int (i * j)) .pure mulI := od_i2c fun _ _ h => h
theorem od_fdiv : OpD T (rI (fun i j => divOk i j = true) fun i j => .int (i.fdiv j)) .pure fdivI := od_i2c fun _ _ h => h
theorem od_mod : OpD T (rI (fun _ j => j ≠ 0) fun i j => .int (i.fmod j)) .pure modI := od_i2c fun _ _ h => of_decide_eq_true h
theorem od_pow : OpD T (rI CPow fun i j => .int (i ^ j.toNat)) .pure powI := od_i2c fun i j h => by
  unfold powOk small64 at h
  obtain ⟨h1, h2⟩ := Bool.and_eq_true_iff.mp h
  obtain ⟨h3, h4⟩ := Bool.and_eq_true_iff.mp h1
  exact ⟨of_decide_eq_true h3, of_decide_eq_true h4, by simpa using of_decide_eq_true h2⟩
theorem od_shl : OpD T (rI CShl fun i j => .int (i * 2 ^ j.toNat)) .pure shlI := od_i2c fun i j h => by
  unfold shlOk at h
  obtain ⟨h1, h2⟩ := Bool.and_eq_true_iff.mp h
  exact ⟨of_decide_eq_true h1, of_decide_eq_true h2⟩
theorem od_shr : OpD T (rI (fun _ j => 0 ≤ j) fun i j => .int (i / 2 ^ j.toNat)) .pure shrI := od_i2c fun _ _ h => of_decide_eq_true h
theorem od_and : OpD T (rI0 fun i j => .int (Builtin.bitAnd i j)) .pure andI := od_i2
theorem od_or : OpD T (rI0 fun i j => .int (Builtin.bitOr i j)) .pure orI := od_i2
theorem od_xor : OpD T (rI0 fun i j => .int (Builtin.bitXor i j)) .pure xorI := od_i2
abbrev negI := u1 fun i => .int (-i)
abbrev invI := u1 fun i => .int (Builtin.bitNot i)
theorem ud_neg : UnD T (rU fun i => .int (-i)) .pure negI := ud_u1
theorem ud_inv : UnD T (rU fun i => .int (Builtin.bitNot i)) .pure invI := ud_u1
abbrev ltI := c2 fun i j => decide (i < j)
abbrev leI := c2 fun i j => decide (i ≤ j)
abbrev gtI := c2 fun i j => decide (j < i)
abbrev geI := c2 fun i j => decide (j ≤ i)
/-! texts, tuples, lists by + and * -/
def addS (a b : D) : Option D := match a, b with | .str i, .str j => if i.length + j.length ≤ sizeLine then some (.str (i ++ j)) else none | _, _ => none
theorem od_addS : OpD T (fun x y H Q => ∃ i j, x = .str i ∧ y = .str j ∧ i.length + j.length ≤ sizeLine ∧ Q (.str (i ++ j)) H) .pure addS := fun env σ P H dx dy x y d Q R1 hx hy e k => by
  cases dx with
  | str i =>
    cases dy with
    | str j =>
      have e : (if i.length + j.length ≤ sizeLine then some (D.str (i ++ j)) else none) = some d := e
      by_cases z : i.length + j.length ≤ sizeLine
      · rw [if_pos z] at e; cases e
        exact ⟨i, j, hx.strE, hy.strE, z, k _ P H R1 (Fr.refl _ _ _ _) (show Rep T P _ _ from rep_str) trivial⟩
      · rw [if_neg z] at e; cases e
    | _ => cases e
  | _ => cases e
def catT (a b : D) : Option D := match a, b with | .tup i, .tup j => if i.length + j.length ≤ sizeLine then some (.tup (i ++ j)) else none | _, _ => none
theorem od_catT : OpD T (rCatA T.K) .pure catT := fun env σ P H dx dy x y d Q R1 hx hy e k => by
  cases dx with
  | tup i =>
    cases dy with
    | tup j =>
      have e : (if i.length + j.length ≤ sizeLine then some (D.tup (i ++ j)) else none) = some d := e
      by_cases z : i.length + j.length ≤ sizeLine
      · rw [if_pos z] at e; cases e
        have repx : Rep T P (.tup i) x := hx.elim id fun ⟨_, _, _, _, _, _, q⟩ => nomatch q
        have repy : Rep T P (.tup j) y := hy.elim id fun ⟨_, _, _, _, _, _, q⟩ => nomatch q
        obtain ⟨a, vs, rfl, h1, h2⟩ := hx.tupE R1.sub
        obtain ⟨b, ws, rfl, h3, h4⟩ := hy.tupE R1.sub
        refine ⟨a, b, vs, ws, rfl, rfl, h1, h3, by rw [h2.length, h4.length]; exact z, fun q => ?_, fun q1 q2 => ?_, fun q1 q2 p hp => ?_⟩
        · have : i = [] := by have := h2.length; rw [q] at this; exact List.eq_nil_of_length_eq_zero this.symm
          subst this
          exact k _ P H R1 (Fr.refl _ _ _ _) repy trivial
        · have : j = [] := by have := h4.length; rw [q2] at this; exact List.eq_nil_of_length_eq_zero this.symm
          subst this
          rw [List.append_nil] at k
          exact k _ P H R1 (Fr.refl _ _ _ _) repx trivial
        · obtain ⟨R2, F2⟩ := R1.newP (o := .tup (vs ++ ws)) hp
          exact k _ _ _ R2 F2 (rep_tup upd_same (Reps.sub F2.mono _ _ (h2.append h4))) trivial
      · rw [if_neg z] at e; cases e
    | _ => cases e
  | _ => cases e
end
end Ue

set_option linter.all false
set_option Elab.async false
set_option maxRecDepth 100000
set_option maxHeartbeats 4000000
namespace Ue
open PySem L2
/-! ### lists by + and * -/
section
variable {X : Cx} {T : Tab}
def rCatL : R2 := fun x y H Q => ∃ (l b : Addr) (xs zs : List V), x = .ref l ∧ y = .ref b ∧ (Rd H l (.lst xs) ∧ Rd H b (.lst zs)) ∧ (xs.length + zs.length ≤ sizeLine ∧ ∀ p, H p = none → Q (.ref p) (upd H p (.lst (xs ++ zs))))
theorem op_catL : OpR X (binaryOp .Add) rCatL := fun pins s σ H x y v u Q I rx ry h => by
  obtain ⟨l, b, xs, zs, ex, ey, ⟨h1, h2⟩, hz, q⟩ := h
  subst ex ey
  obtain ⟨_, us, n1, r1, p1⟩ := h1.ok I.hok
  obtain ⟨_, ws, n2, r2, p2⟩ := h2.ok I.hok
  have l1 := r1.length
  have l2 := r2.length
  have v1 : v = .ref l := rx
  have v2 : u = .ref b := ry
  subst v1 v2
  refine P.add_list p1 p2 ?_ (by simp only [List.size_toArray]; omega)
  have w : us.toArray ++ ws.toArray = (us ++ ws).toArray := by simp only [List.append_toArray]
  rw [w]
  exact ⟨.ref _, _, I.lnew (t' := s.toks) (r1.append r2) (by simp only [List.length_append]; omega), rfl, q _ I.fresh⟩
def catL (a b : D) : Option D := match a, b with | .lst i, .lst j => if i.length + j.length ≤ sizeLine then some (.lst (i ++ j)) else none | _, _ => none
theorem od_catL : OpD T rCatL .fresh catL := fun env σ P H dx dy x y d Q R1 hx hy e k => by
  cases dx with
  | lst i =>
    cases dy with
    | lst j =>
      have e : (if i.length + j.length ≤ sizeLine then some (D.lst (i ++ j)) else none) = some d := e
      by_cases z : i.length + j.length ≤ sizeLine
      · rw [if_pos z] at e; cases e
        obtain ⟨a, vs, rfl, h1, h2⟩ := hx.lstE R1.sub
        obtain ⟨b, ws, rfl, h3, h4⟩ := hy.lstE R1.sub
        refine ⟨a, b, vs, ws, rfl, rfl, ⟨h1, h3⟩, by rw [h2.length, h4.length]; exact z, fun p hp => ?_⟩
        obtain ⟨R2, F2, no, pn⟩ := R1.newF (o := .lst (vs ++ ws)) hp
        exact k _ _ _ R2 F2 ⟨p, _, _, rfl, upd_same, pn, no, h2.append h4, rfl⟩ ⟨p, rfl, hp⟩
      · rw [if_neg z] at e; cases e
    | _ => cases e
  | _ => cases e
/-- a list (not the script, none of the top's) times an int -/
def Trk (T : Tab) (P H : Hp) (d : D) (x : V) : Prop := ∃ a vs ds, x = .ref a ∧ H a = some (.lst vs) ∧ Reps T P ds vs ∧ d = .lst ds
def repL (a b : D) : Option D := match a, b with | .lst i, .int k => if -(2 ^ 63) ≤ k ∧ k < 2 ^ 63 ∧ i.length * k.toNat ≤ sizeLine then some (.lst (List.replicate k.toNat i).flatten) else none | _, _ => none
theorem Reps.replicate {P : Hp} {ds : List D} {vs : List V} (h : Reps T P ds vs) : ∀ n, Reps T P (List.replicate n ds).flatten (List.replicate n vs).flatten
  | 0 => Reps.nil
  | n + 1 => by
    rw [List.replicate_succ, List.replicate_succ, List.flatten_cons, List.flatten_cons]
    exact h.append (Reps.replicate h n)
theorem de_repL {W : WX} {a b : Expr} {ma mb : M} {kb : Kd} {pos : Pos} (ha : DE T W X a .fresh ma) (hb : DE T W X b kb mb) : DE T W X (.BinOp a .Mult b pos) .fresh (op2M repL ma mb) := by
  refine pe_imp (pe_op op_rep ha hb) fun σ H Q h => ?_
  obtain ⟨env, P, RR, h⟩ := h
  refine ⟨env, P, RR, After.at h.bind fun d1 env1 P1 H1 _ R1 F1 h1 x kx nx => ?_⟩
  refine ⟨env1, P1, R1, After.at h1.bind fun d2 env2 P2 H2 e2 R2 F2 h2 y ky ny => ?_⟩
  have kx' := kx.carry F2 (fun i q => nomatch q)
  obtain ⟨p, vs, ds, rfl, t1, t2, t3, t4, rfl⟩ := kx'
  cases d2 with
  | int k =>
    have h2 : After T W σ env2 P2 H2 (liftO (if -(2 ^ 63) ≤ k ∧ k < 2 ^ 63 ∧ ds.length * k.toNat ≤ sizeLine then some (D.lst (List.replicate k.toNat ds).flatten) else none) env2) _ := h2
    by_cases z : -(2 ^ 63) ≤ k ∧ k < 2 ^ 63 ∧ ds.length * k.toNat ≤ sizeLine
    · rw [if_pos z] at h2
      refine ⟨p, k, vs, rfl, (ky.rdb R2).intE, t1, z.1, z.2.1, by rw [t4.length]; exact z.2.2, fun q hq => ?_⟩
      obtain ⟨R3, F3, no, pn⟩ := R2.newF (o := .lst (List.replicate k.toNat vs).flatten) hq
      exact h2 _ _ R3 F3 _ ⟨q, _, _, rfl, upd_same, pn, no, t4.replicate _, rfl⟩ (NewV.back (k := .fresh) (F1.trans F2) ⟨q, rfl, hq⟩)
    · rw [if_neg z] at h2; exact False.elim h2
  | _ => exact False.elim h2
end
/-! ### calls of built-ins -/
section
variable {T : Tab}
def lenD : List D → Option D
  | [.lst ds] => some (.int ds.length)
  | [.tup ds] => some (.int ds.length)
  | [.scr ns] => some (.int ns.length)
  | [.str s] => if s.length ≤ sizeLine then some (.int s.length) else none
  | _ => none
theorem Rdbs.one {P H : Hp} {d : D} {xs : List V} (h : Rdbs T P H [d] xs) : ∃ x, xs = [x] ∧ Rdb T P H d x := by
  cases h with
  | cons h t => cases t; exact ⟨_, rfl, h⟩
theorem Rdbs.two {P H : Hp} {d e : D} {xs : List V} (h : Rdbs T P H [d, e] xs) : ∃ x y, xs = [x, y] ∧ Rdb T P H d x ∧ Rdb T P H e y := by
  cases h with
  | cons h t =>
    cases t with
    | cons h2 t => cases t; exact ⟨_, _, rfl, h, h2⟩
theorem Rdbs.len {P H : Hp} : ∀ {ds : List D} {xs : List V}, Rdbs T P H ds xs → xs.length = ds.length
  | _, _, .nil => rfl
  | _, _, .cons _ t => by simp [Rdbs.len t]
theorem cd_len : CallD T (fun xs H Q => ∃ x n, xs = [x] ∧ LenV T.K x H n ∧ Q (.int n) H) .pure lenD := fun env σ P H ds xs d Q R1 hx e k => by
  have kk : ∀ n : Int, d = .int n → Q (.int n) H := fun n h => k _ P H R1 (Fr.refl _ _ _ _) (by subst h; exact (show Rep T P _ _ from rep_int)) trivial
  match ds, hx, e with
  | [.lst es], hx, e =>
    obtain ⟨x, rfl, h0⟩ := hx.one
    obtain ⟨a, vs, rfl, h1, h2⟩ := h0.lstE R1.sub
    exact ⟨_, vs.length, rfl, .inl ⟨vs, .inl h1, rfl⟩, kk _ (by cases e; rw [h2.length])⟩
  | [.tup es], hx, e =>
    obtain ⟨x, rfl, h0⟩ := hx.one
    obtain ⟨a, vs, rfl, h1, h2⟩ := h0.tupE R1.sub
    exact ⟨_, vs.length, rfl, .inr ⟨vs, h1, rfl⟩, kk _ (by cases e; rw [h2.length])⟩
  | [.scr ns], hx, e =>
    obtain ⟨x, rfl, h0⟩ := hx.one
    obtain ⟨a, rfl, h1⟩ := h0.scrE R1.sub
    exact ⟨_, ns.length, rfl, .inl ⟨_, h1, by simp⟩, kk _ (by cases e; rfl)⟩
  | [.str z], hx, e =>
    obtain ⟨x, rfl, h0⟩ := hx.one
    have e : (if z.length ≤ sizeLine then some (D.int z.length) else none) = some d := e
    by_cases c : z.length ≤ sizeLine
    · rw [if_pos c] at e; cases e
      exact ⟨V.str z, z.length, by rw [h0.strE], ⟨c, rfl⟩, kk _ rfl⟩
    · rw [if_neg c] at e; cases e
def absD : List D → Option D | [.int i] => some (.int (if i < 0 then -i else i)) | _ => none
theorem cd_abs : CallD T (fun xs H Q => ∃ i, xs = [.int i] ∧ Q (.int (if i < 0 then -i else i)) H) .pure absD := fun env σ P H ds xs d Q R1 hx e k => by
  match ds, hx, e with
  | [.int i], hx, e =>
    obtain ⟨x, rfl, h0⟩ := hx.one
    cases e
    exact ⟨i, by rw [h0.intE], k _ P H R1 (Fr.refl _ _ _ _) (show Rep T P _ _ from rep_int) trivial⟩
def intD : List D → Option D | [.int i] => some (.int i) | [.bl b] => some (.int (if b then 1 else 0)) | _ => none
theorem cd_int : CallD T (fun xs H Q => (∃ i, xs = [.int i] ∧ Q (.int i) H) ∨ ∃ k, xs = [.bl k] ∧ Q (.int (if k then 1 else 0)) H) .pure intD := fun env σ P H ds xs d Q R1 hx e k => by
  match ds, hx, e with
  | [.int i], hx, e =>
    obtain ⟨x, rfl, h0⟩ := hx.one
    cases e
    exact .inl ⟨i, by rw [h0.intE], k _ P H R1 (Fr.refl _ _ _ _) (show Rep T P _ _ from rep_int) trivial⟩
  | [.bl b], hx, e =>
    obtain ⟨x, rfl, h0⟩ := hx.one
    cases e
    exact .inr ⟨b, by rw [h0.blE], k _ P H R1 (Fr.refl _ _ _ _) (show Rep T P _ _ from rep_int) trivial⟩
def ii (f : Int → Int → Int) : List D → Option D | [.int i, .int j] => some (.int (f i j)) | _ => none
theorem cd_ii {f : Int → Int → Int} : CallD T (fun xs H Q => ∃ i j, xs = [.int i, .int j] ∧ Q (.int (f i j)) H) .pure (ii f) := fun env σ P H ds xs d Q R1 hx e k => by
  match ds, hx, e with
  | [.int i, .int j], hx, e =>
    obtain ⟨x, y, rfl, h0, hy⟩ := hx.two
    cases e
    exact ⟨i, j, by rw [h0.intE, hy.intE], k _ P H R1 (Fr.refl _ _ _ _) (show Rep T P _ _ from rep_int) trivial⟩
abbrev max2D := ii fun i j => if j > i then j else i
abbrev min2D := ii fun i j => if j < i then j else i
def gcdI (a b : Int) : Int := ((Nat.gcd a.natAbs b.natAbs : Nat) : Int)
def dInts : List D → Option (List Int)
  | [] => some []
  | .int i :: ds => (dInts ds).map (i :: ·)
  | _ => none
theorem dInts_ok : ∀ {ds : List D} {ns : List Int}, dInts ds = some ns → ds = ns.map D.int
  | [], _, h => by cases h; rfl
  | d :: ds, ns, h => by
    cases d with
    | int i =>
      have h : (dInts ds).map (i :: ·) = some ns := h
      cases e : dInts ds with
      | none => rw [e] at h; cases h
      | some ms => rw [e] at h; cases h; rw [dInts_ok e]; rfl
    | _ => cases h
theorem ints_of : ∀ ns : List Int, dInts (ns.map D.int) = some ns
  | [] => rfl
  | n :: ns => by show (dInts (ns.map D.int)).map (n :: ·) = _; rw [ints_of ns]; rfl
def dBls : List D → Option (List Bool)
  | [] => some []
  | .bl i :: ds => (dBls ds).map (i :: ·)
  | _ => none
theorem bls_ok : ∀ {ds : List D} {ns : List Bool}, dBls ds = some ns → ds = ns.map D.bl
  | [], _, h => by cases h; rfl
  | d :: ds, ns, h => by
    cases d with
    | bl i =>
      have h : (dBls ds).map (i :: ·) = some ns := h
      cases e : dBls ds with
      | none => rw [e] at h; cases h
      | some ms => rw [e] at h; cases h; rw [bls_ok e]; rfl
    | _ => cases h
theorem bls_of : ∀ ns : List Bool, dBls (ns.map D.bl) = some ns
  | [] => rfl
  | n :: ns => by show (dBls (ns.map D.bl)).map (n :: ·) = _; rw [bls_of ns]; rfl
def sumD : List D → Option D | [.lst ds] => (dInts ds).map fun ns => .int ns.sum | _ => none
theorem Rdb.intsE {P H : Hp} {ds : List D} {ns : List Int} {x : V} (R1 : PSub P H) (h : Rdb T P H (.lst ds) x) (e : dInts ds = some ns) : ∃ a, x = .ref a ∧ SqL T.K H a (ns.map V.int) := by
  obtain ⟨a, vs, rfl, h1, h2⟩ := h.lstE R1
  rw [dInts_ok e] at h2
  rw [Reps.ints ns h2] at h1
  exact ⟨a, rfl, .inl h1⟩
theorem Rdb.blsE {P H : Hp} {ds : List D} {ns : List Bool} {x : V} (R1 : PSub P H) (h : Rdb T P H (.lst ds) x) (e : dBls ds = some ns) : ∃ a, x = .ref a ∧ SqL T.K H a (ns.map V.bl) := by
  obtain ⟨a, vs, rfl, h1, h2⟩ := h.lstE R1
  rw [bls_ok e] at h2
  rw [Reps.bls ns h2] at h1
  exact ⟨a, rfl, .inl h1⟩
theorem cd_sum : CallD T (rSum T.K) .pure sumD := fun env σ P H ds xs d Q R1 hx e k => by
  match ds, hx, e with
  | [.lst es], hx, e =>
    obtain ⟨x, rfl, h0⟩ := hx.one
    have e : (dInts es).map (fun ns => D.int ns.sum) = some d := e
    cases q : dInts es with
    | none => rw [q] at e; cases e
    | some ns =>
      rw [q] at e; cases e
      obtain ⟨a, rfl, h⟩ := h0.intsE R1.sub q
      exact ⟨a, ns, rfl, h, k _ P H R1 (Fr.refl _ _ _ _) (show Rep T P _ _ from rep_int) trivial⟩
def anyD : List D → Option D | [.lst ds] => (dBls ds).map fun ns => .bl (ns.any id) | _ => none
def allD : List D → Option D | [.lst ds] => (dBls ds).map fun ns => .bl (ns.all id) | _ => none
theorem cd_any : CallD T (rAny T.K) .pure anyD := fun env σ P H ds xs d Q R1 hx e k => by
  match ds, hx, e with
  | [.lst es], hx, e =>
    obtain ⟨x, rfl, h0⟩ := hx.one
    have e : (dBls es).map (fun ns => D.bl (ns.any id)) = some d := e
    cases q : dBls es with
    | none => rw [q] at e; cases e
    | some ns =>
      rw [q] at e; cases e
      obtain ⟨a, rfl, h⟩ := h0.blsE R1.sub q
      exact ⟨a, ns, rfl, h, k _ P H R1 (Fr.refl _ _ _ _) (show Rep T P _ _ from rep_bl) trivial⟩
theorem cd_all : CallD T (rAll T.K) .pure allD := fun env σ P H ds xs d Q R1 hx e k => by
  match ds, hx, e with
  | [.lst es], hx, e =>
    obtain ⟨x, rfl, h0⟩ := hx.one
    have e : (dBls es).map (fun ns => D.bl (ns.all id)) = some d := e
    cases q : dBls es with
    | none => rw [q] at e; cases e
    | some ns =>
      rw [q] at e; cases e
      obtain ⟨a, rfl, h⟩ := h0.blsE R1.sub q
      exact ⟨a, ns, rfl, h, k _ P H R1 (Fr.refl _ _ _ _) (show Rep T P _ _ from rep_bl) trivial⟩
/-- max(xs), min(xs) of a list of dInts -/
def maxOf : List Int → Int | [] => 0 | x :: xs => xs.foldl (fun a b => if b > a then b else a) x
def minOf : List Int → Int | [] => 0 | x :: xs => xs.foldl (fun a b => if b < a then b else a) x
theorem maxOf_ge : ∀ (xs : List Int) (x : Int), x ≤ xs.foldl (fun a b => if b > a then b else a) x ∧ (∀ y ∈ xs, y ≤ xs.foldl (fun a b => if b > a then b else a) x) ∧ (xs.foldl (fun a b => if b > a then b else a) x = x ∨ xs.foldl (fun a b => if b > a then b else a) x ∈ xs)
  | [], x => ⟨Int.le_refl _, fun _ h => (nomatch h), .inl rfl⟩
  | y :: ys, x => by
    obtain ⟨h1, h2, h3⟩ := maxOf_ge ys (if y > x then y else x)
    rw [List.foldl_cons]
    have hx : x ≤ (if y > x then y else x) := by split <;> omega
    have hy : y ≤ (if y > x then y else x) := by split <;> omega
    refine ⟨Int.le_trans hx h1, fun z hz => ?_, ?_⟩
    · rcases List.mem_cons.mp hz with rfl | hz
      · exact Int.le_trans hy h1
      · exact h2 z hz
    · rcases h3 with h3 | h3
      · rw [h3]
        by_cases c : y > x
        · rw [if_pos c]; exact .inr List.mem_cons_self
        · rw [if_neg c]; exact .inl rfl
      · exact .inr (List.mem_cons_of_mem _ h3)
theorem minOf_le : ∀ (xs : List Int) (x : Int), xs.foldl (fun a b => if b < a then b else a) x ≤ x ∧ (∀ y ∈ xs, xs.foldl (fun a b => if b < a then b else a) x ≤ y) ∧ (xs.foldl (fun a b => if b < a then b else a) x = x ∨ xs.foldl (fun a b => if b < a then b else a) x ∈ xs)
  | [], x => ⟨Int.le_refl _, fun _ h => (nomatch h), .inl rfl⟩
  | y :: ys, x => by
    obtain ⟨h1, h2, h3⟩ := minOf_le ys (if y < x then y else x)
    rw [List.foldl_cons]
    have hx : (if y < x then y else x) ≤ x := by split <;> omega
    have hy : (if y < x then y else x) ≤ y := by split <;> omega
    refine ⟨Int.le_trans h1 hx, fun z hz => ?_, ?_⟩
    · rcases List.mem_cons.mp hz with rfl | hz
      · exact Int.le_trans h1 hy
      · exact h2 z hz
    · rcases h3 with h3 | h3
      · rw [h3]
        by_cases c : y < x
        · rw [if_pos c]; exact .inr List.mem_cons_self
        · rw [if_neg c]; exact .inl rfl
      · exact .inr (List.mem_cons_of_mem _ h3)
def maxLD : List D → Option D | [.lst ds] => (match dInts ds with | some (n :: ns) => some (.int (maxOf (n :: ns))) | _ => none) | _ => none
def minLD : List D → Option D | [.lst ds] => (match dInts ds with | some (n :: ns) => some (.int (minOf (n :: ns))) | _ => none) | _ => none
theorem cd_maxL : CallD T (rMax T.K) .pure maxLD := fun env σ P H ds xs d Q R1 hx e k => by
  match ds, hx, e with
  | [.lst es], hx, e =>
    obtain ⟨x, rfl, h0⟩ := hx.one
    have e : (match dInts es with | some (n :: ns) => some (D.int (maxOf (n :: ns))) | _ => none) = some d := e
    cases q : dInts es with
    | none => rw [q] at e; cases e
    | some ns =>
      rw [q] at e
      obtain ⟨a, rfl, h⟩ := h0.intsE R1.sub q
      cases ns with
      | nil => cases e
      | cons n ns =>
        cases e
        refine ⟨a, _, rfl, h, Nat.succ_pos _, fun m hm hle => ?_⟩
        obtain ⟨h1, h2, h3⟩ := maxOf_ge ns n
        have em : m = maxOf (n :: ns) := by
          have m1 : m ≤ maxOf (n :: ns) := by
            rcases List.mem_cons.mp hm with rfl | hm
            · exact h1
            · exact h2 m hm
          have m2 : maxOf (n :: ns) ≤ m := by
            rcases h3 with h3 | h3
            · rw [show maxOf (n :: ns) = n from h3]; exact hle n List.mem_cons_self
            · exact hle _ (List.mem_cons_of_mem _ h3)
          omega
        rw [em]
        exact k _ P H R1 (Fr.refl _ _ _ _) (show Rep T P _ _ from rep_int) trivial
theorem cd_minL : CallD T (rMin T.K) .pure minLD := fun env σ P H ds xs d Q R1 hx e k => by
  match ds, hx, e with
  | [.lst es], hx, e =>
    obtain ⟨x, rfl, h0⟩ := hx.one
    have e : (match dInts es with | some (n :: ns) => some (D.int (minOf (n :: ns))) | _ => none) = some d := e
    cases q : dInts es with
    | none => rw [q] at e; cases e
    | some ns =>
      rw [q] at e
      obtain ⟨a, rfl, h⟩ := h0.intsE R1.sub q
      cases ns with
      | nil => cases e
      | cons n ns =>
        cases e
        refine ⟨a, _, rfl, h, Nat.succ_pos _, fun m hm hle => ?_⟩
        obtain ⟨h1, h2, h3⟩ := minOf_le ns n
        have em : m = minOf (n :: ns) := by
          have m1 : minOf (n :: ns) ≤ m := by
            rcases List.mem_cons.mp hm with rfl | hm
            · exact h1
            · exact h2 m hm
          have m2 : m ≤ minOf (n :: ns) := by
            rcases h3 with h3 | h3
            · rw [show minOf (n :: ns) = n from h3]; exact hle n List.mem_cons_self
            · exact hle _ (List.mem_cons_of_mem _ h3)
          omega
        rw [em]
        exact k _ P H R1 (Fr.refl _ _ _ _) (show Rep T P _ _ from rep_int) trivial
/-- list(x), tuple(x) -/
def listD : List D → Option D | [.lst ds] => some (.lst ds) | [.tup ds] => some (.lst ds) | _ => none
def tupleD : List D → Option D | [.lst ds] => some (.tup ds) | [.tup ds] => some (.tup ds) | _ => none
theorem cd_list : CallD T (fun xs H Q => ∃ p ys, xs = [.ref p] ∧ (SqL T.K H p ys ∨ SqT T.K H p ys) ∧ ∀ l, H l = none → Q (.ref l) (upd H l (.lst ys))) .fresh listD := fun env σ P H ds xs d Q R1 hx e k => by
  have w : ∀ (es : List D) (x : V) (d0 : D), Rdb T P H d0 x → (d0 = .lst es ∨ d0 = .tup es) → d = .lst es → ∃ p ys, [x] = [V.ref p] ∧ (SqL T.K H p ys ∨ SqT T.K H p ys) ∧ ∀ l, H l = none → Q (.ref l) (upd H l (.lst ys)) := fun es x d0 h hd hd2 => by
    obtain ⟨a, vs, rfl, h1, h2⟩ := h.seqE R1.sub hd
    refine ⟨a, vs, rfl, h1, fun l hl => ?_⟩
    subst hd2
    obtain ⟨R2, F2, no, pn⟩ := R1.newF (o := .lst vs) hl
    exact k _ _ _ R2 F2 ⟨l, _, _, rfl, upd_same, pn, no, h2, rfl⟩ ⟨l, rfl, hl⟩
  match ds, hx, e with
  | [.lst es], hx, e => obtain ⟨x, rfl, h0⟩ := hx.one; cases e; exact w es x _ h0 (.inl rfl) rfl
  | [.tup es], hx, e => obtain ⟨x, rfl, h0⟩ := hx.one; cases e; exact w es x _ h0 (.inr rfl) rfl
theorem cd_tuple : CallD T (fun xs H Q => ∃ p ys, xs = [.ref p] ∧ ((SqL T.K H p ys ∧ ∀ l, H l = none → Q (.ref l) (upd H l (.tup ys))) ∨ (SqT T.K H p ys ∧ Q (.ref p) H))) .pure tupleD := fun env σ P H ds xs d Q R1 hx e k => by
  match ds, hx, e with
  | [.lst es], hx, e =>
    obtain ⟨x, rfl, h0⟩ := hx.one
    cases e
    obtain ⟨a, vs, rfl, h1, h2⟩ := h0.lstE R1.sub
    refine ⟨a, vs, rfl, .inl ⟨.inl h1, fun l hl => ?_⟩⟩
    obtain ⟨R2, F2⟩ := R1.newP (o := .tup vs) hl
    exact k _ _ _ R2 F2 (rep_tup upd_same (Reps.sub F2.mono _ _ h2)) trivial
  | [.tup es], hx, e =>
    obtain ⟨x, rfl, h0⟩ := hx.one
    cases e
    have repx : Rep T P (.tup es) x := h0.elim id fun ⟨_, _, _, _, _, _, q⟩ => nomatch q
    obtain ⟨a, vs, rfl, h1, h2⟩ := h0.tupE R1.sub
    exact ⟨a, vs, rfl, .inr ⟨h1, k _ P H R1 (Fr.refl _ _ _ _) repx trivial⟩⟩
/-- sorted(xs) of dInts -/
def insI (x : Int) : List Int → List Int | [] => [x] | y :: ys => if x ≤ y then x :: y :: ys else y :: insI x ys
def sortI : List Int → List Int | [] => [] | x :: xs => insI x (sortI xs)
theorem insI_perm (x : Int) : ∀ ys, (insI x ys).Perm (x :: ys)
  | [] => .refl _
  | y :: ys => by
    unfold insI
    by_cases h : x ≤ y
    · rw [if_pos h]
    · rw [if_neg h]; exact ((insI_perm x ys).cons y).trans (List.Perm.swap x y ys)
theorem sortI_perm : ∀ xs, (sortI xs).Perm xs
  | [] => .refl _
  | x :: xs => (insI_perm x _).trans ((sortI_perm xs).cons x)
theorem insI_sorted (x : Int) : ∀ ys, ys.Pairwise (· ≤ ·) → (insI x ys).Pairwise (· ≤ ·)
  | [], _ => by simp [insI]
  | y :: ys, h => by
    obtain ⟨h1, h2⟩ := List.pairwise_cons.mp h
    unfold insI
    by_cases c : x ≤ y
    · rw [if_pos c]
      refine List.pairwise_cons.mpr ⟨fun z hz => ?_, h⟩
      rcases List.mem_cons.mp hz with rfl | hz
      · exact c
      · exact Int.le_trans c (h1 z hz)
    · rw [if_neg c]
      refine List.pairwise_cons.mpr ⟨fun z hz => ?_, insI_sorted x ys h2⟩
      rcases List.mem_cons.mp ((insI_perm x ys).mem_iff.mp hz) with rfl | hz
      · omega
      · exact h1 z hz
theorem sortI_sorted : ∀ xs, (sortI xs).Pairwise (· ≤ ·)
  | [] => .nil
  | x :: xs => insI_sorted x _ (sortI_sorted xs)
theorem sorted_uniq : ∀ {xs ys : List Int}, xs.Perm ys → xs.Pairwise (· ≤ ·) → ys.Pairwise (· ≤ ·) → xs = ys := fun h h1 h2 => List.Perm.eq_of_pairwise (fun _ _ _ _ a b => Int.le_antisymm a b) h1 h2 h
def sortedD : List D → Option D | [.lst ds] => (dInts ds).map fun ns => .lst ((sortI ns).map D.int) | _ => none
theorem cd_sorted : CallD T (rSortedI T.K) .fresh sortedD := fun env σ P H ds xs d Q R1 hx e k => by
  match ds, hx, e with
  | [.lst es], hx, e =>
    obtain ⟨x, rfl, h0⟩ := hx.one
    have e : (dInts es).map (fun ns => D.lst ((sortI ns).map D.int)) = some d := e
    cases q : dInts es with
    | none => rw [q] at e; cases e
    | some ns =>
      rw [q] at e; cases e
      obtain ⟨a, rfl, h⟩ := h0.intsE R1.sub q
      refine ⟨a, ns, rfl, h, fun ns' p hp hs hf => ?_⟩
      have : ns' = sortI ns := sorted_uniq (hp.trans (sortI_perm ns).symm) hs (sortI_sorted ns)
      subst this
      obtain ⟨R2, F2, no, pn⟩ := R1.newF (o := .lst ((sortI ns).map V.int)) hf
      exact k _ _ _ R2 F2 ⟨p, _, _, rfl, upd_same, pn, no, Reps.ofInts _, rfl⟩ ⟨p, rfl, hf⟩
end
end Ue

set_option linter.all false
set_option Elab.async false
set_option maxRecDepth 100000
set_option maxHeartbeats 4000000
namespace Ue
open PySem L2

/-- how a statement ends -/
inductive SR where
  | nx (e : Env) | brk (e : Env) | cnt (e : Env) | ret (d : D) (e : Env) | exc (c : Nat) (fs : List D) (e : Env) | stk
abbrev MS := Env → SR
def R.toS {α : Type} (r : R α) (f : α → Env → SR) : SR :=
  match r with
  | .ok a e => f a e
  | .exc c fs e => .exc c fs e
  | .stk => .stk
/-- a list that was not there, or was a slot's own, ahead of the statement -/
def NewW (k : Kd) (env : Env) (σ : L2.St) (H : Hp) (x : V) : Prop :=
  match k with
  | .fresh => ∃ a, x = .ref a ∧ (H a = none ∨ Own env σ a)
  | _ => True
theorem NewV.w {k : Kd} {env : Env} {σ : L2.St} {H : Hp} {x : V} (h : NewV k H x) : NewW k env σ H x := by
  cases k with
  | fresh => obtain ⟨a, e, h⟩ := h; exact ⟨a, e, .inl h⟩
  | _ => trivial
theorem NewW.back {k : Kd} {env env' : Env} {σ σ' : L2.St} {P P' H H' : Hp} {x : V} (f : Fr env σ P H env' σ' P' H') (h : NewW k env' σ' H' x) : NewW k env σ H x := by
  cases k with
  | fresh =>
    obtain ⟨a, e, h⟩ := h
    refine ⟨a, e, ?_⟩
    rcases h with h | h
    · exact .inl (Classical.byContradiction fun z => f.there a z h)
    · rcases Classical.em (H a = none) with z | z
      · exact .inl z
      · exact .inr (Classical.byContradiction fun n => f.own a z n h)
  | _ => trivial
def FrP (pins : List Nat) (σ σ' : L2.St) : Prop := ∀ i ∈ pins, σ'[i]? = σ[i]?
section
variable (T : Tab) (W : WX) (kr : Kd) (pins : List Nat)
def AfterS (env : Env) (σ : L2.St) (P H : Hp) (r : SR) (D : Ends) : Prop :=
  match r with
  | .nx env' => ∀ σ' P' H', Rel T env' σ' P' H' → Fr env σ P H env' σ' P' H' → FrP pins σ σ' → D.nx σ' H'
  | .brk env' => ∀ σ' P' H', Rel T env' σ' P' H' → Fr env σ P H env' σ' P' H' → FrP pins σ σ' → D.bk σ' H'
  | .cnt env' => ∀ σ' P' H', Rel T env' σ' P' H' → Fr env σ P H env' σ' P' H' → FrP pins σ σ' → D.ct σ' H'
  | .ret d env' => ∀ σ' P' H' x, Rel T env' σ' P' H' → Fr env σ P H env' σ' P' H' → FrP pins σ σ' → KRep T kr env' σ' P' H' d x → NewW kr env σ H x → D.rt x H'
  | .exc c fs env' => ∀ σ' P' H' cls dd, Rel T env' σ' P' H' → Fr env σ P H env' σ' P' H' → FrP pins σ σ' → ExRep T P' c fs cls dd → W cls dd σ' H'
  | .stk => False
def rdS (m : MS) : TS := fun D σ H => ∃ env P, Rel T env σ P H ∧ AfterS T W kr pins env σ P H (m env) D
def DS (X : Cx) (st : Stmt) (m : MS) : Prop := PS X st (rdS T W kr pins m)
def DSs (X : Cx) (st : List Stmt) (m : MS) : Prop := PSs X st (rdS T W kr pins m)
end
section
variable {T : Tab} {W : WX} {kr : Kd} {pins : List Nat} {env env' : Env} {σ σ' : L2.St} {P H P' H' : Hp} {X : Cx} {pos : Pos}
theorem FrP.refl : FrP pins σ σ := fun _ _ => rfl
theorem FrP.trans {σ'' : L2.St} (h : FrP pins σ σ') (k : FrP pins σ' σ'') : FrP pins σ σ'' := fun i hi => (k i hi).trans (h i hi)
theorem AfterS.ofR {α : Type} {r : R α} {f : α → Env → SR} {D : Ends} (h : AfterS T W kr pins env σ P H (r.toS f) D) : After T W σ env P H r (fun a env1 P1 H1 => AfterS T W kr pins env1 σ P1 H1 (f a env1) D) := by
  cases r with
  | ok a env1 =>
    intro P1 H1 R1 F1
    have h : AfterS T W kr pins env σ P H (f a env1) D := h
    show AfterS T W kr pins env1 σ P1 H1 (f a env1) D
    cases e : f a env1 with
    | nx e2 => rw [e] at h; intro σ2 P2 H2 R2 F2 p2; exact h σ2 P2 H2 R2 (F1.trans F2) p2
    | brk e2 => rw [e] at h; intro σ2 P2 H2 R2 F2 p2; exact h σ2 P2 H2 R2 (F1.trans F2) p2
    | cnt e2 => rw [e] at h; intro σ2 P2 H2 R2 F2 p2; exact h σ2 P2 H2 R2 (F1.trans F2) p2
    | ret d e2 => rw [e] at h; intro σ2 P2 H2 x R2 F2 p2 k n; exact h σ2 P2 H2 x R2 (F1.trans F2) p2 k (n.back F1)
    | exc c fs e2 => rw [e] at h; intro σ2 P2 H2 cls dd R2 F2 p2 k; exact h σ2 P2 H2 cls dd R2 (F1.trans F2) p2 k
    | stk => rw [e] at h; exact h
  | exc c fs env1 => exact fun P1 H1 cls dd R1 F1 x => h σ P1 H1 cls dd R1 F1 FrP.refl x
  | stk => exact h
/-- a step ahead -/
theorem AfterS.step {r : SR} {D : Ends} (h : AfterS T W kr pins env σ P H r D) (F1 : Fr env σ P H env' σ' P' H') (p1 : FrP pins σ σ') : AfterS T W kr pins env' σ' P' H' r D := by
  cases r with
  | nx e2 => intro σ2 P2 H2 R2 F2 p2; exact h σ2 P2 H2 R2 (F1.trans F2) (p1.trans p2)
  | brk e2 => intro σ2 P2 H2 R2 F2 p2; exact h σ2 P2 H2 R2 (F1.trans F2) (p1.trans p2)
  | cnt e2 => intro σ2 P2 H2 R2 F2 p2; exact h σ2 P2 H2 R2 (F1.trans F2) (p1.trans p2)
  | ret d e2 => intro σ2 P2 H2 x R2 F2 p2 k n; exact h σ2 P2 H2 x R2 (F1.trans F2) (p1.trans p2) k (n.back F1)
  | exc c fs e2 => intro σ2 P2 H2 cls dd R2 F2 p2 k; exact h σ2 P2 H2 cls dd R2 (F1.trans F2) (p1.trans p2) k
  | stk => exact h
def seqM (a b : MS) : MS := fun env => match a env with | .nx e => b e | r => r
theorem AfterS.seq {a b : MS} {D : Ends} (h : AfterS T W kr pins env σ P H (seqM a b env) D) : AfterS T W kr pins env σ P H (a env) { D with nx := rdS T W kr pins b D } := by
  unfold seqM at h
  cases e : a env with
  | nx e2 => rw [e] at h; intro σ2 P2 H2 R2 F2 p2; exact ⟨e2, P2, R2, AfterS.step h F2 p2⟩
  | brk e2 => rw [e] at h; exact h
  | cnt e2 => rw [e] at h; exact h
  | ret d e2 => rw [e] at h; exact h
  | exc c fs e2 => rw [e] at h; exact h
  | stk => rw [e] at h; exact h
def nilM : MS := fun env => .nx env
theorem dss_nil : DSs T W kr pins X [] nilM := pss_imp pss_nil fun D σ H h => by
  obtain ⟨env, P, RR, h⟩ := h
  exact h σ P H RR (Fr.refl _ _ _ _) FrP.refl
theorem dss_cons {st : Stmt} {rest : List Stmt} {a b : MS} (h1 : DS T W kr pins X st a) (h2 : DSs T W kr pins X rest b) : DSs T W kr pins X (st :: rest) (seqM a b) := pss_imp (pss_cons h1 h2) fun D σ H h => by
  obtain ⟨env, P, RR, h⟩ := h
  exact ⟨env, P, RR, h.seq⟩
theorem dss_one {st : Stmt} {a : MS} (h1 : DS T W kr pins X st a) : DSs T W kr pins X [st] a := pss_one h1
/-! ### plain statements -/
theorem ds_pass : DS T W kr pins X (.Pass pos) nilM := ps_imp ps_pass fun D σ H h => by
  obtain ⟨env, P, RR, h⟩ := h
  exact h σ P H RR (Fr.refl _ _ _ _) FrP.refl
def brkM : MS := fun env => .brk env
def cntM : MS := fun env => .cnt env
theorem ds_break : DS T W kr pins X (.Break pos) brkM := ps_imp ps_break fun D σ H h => by
  obtain ⟨env, P, RR, h⟩ := h
  exact h σ P H RR (Fr.refl _ _ _ _) FrP.refl
theorem ds_continue : DS T W kr pins X (.Continue pos) cntM := ps_imp ps_continue fun D σ H h => by
  obtain ⟨env, P, RR, h⟩ := h
  exact h σ P H RR (Fr.refl _ _ _ _) FrP.refl
def retM (m : M) : MS := fun env => (m env).toS fun d e => .ret d e
theorem ds_ret {e : Expr} {m : M} (h : DE T W X e kr m) : DS T W kr pins X (.Return (some e) pos) (retM m) := ps_imp (ps_ret h) fun D σ H h => by
  obtain ⟨env, P, RR, h⟩ := h
  refine ⟨env, P, RR, ?_⟩
  unfold retM at h
  cases e1 : m env with
  | ok d env1 => rw [e1] at h; exact fun P1 H1 R1 F1 x kx nx => h σ P1 H1 x R1 F1 FrP.refl kx nx.w
  | exc c fs env1 => rw [e1] at h; exact fun P1 H1 cls dd R1 F1 q => h σ P1 H1 cls dd R1 F1 FrP.refl q
  | stk => rw [e1] at h; exact h
/-- the own list of a slot is handed back -/
def retOM (i : Nat) : MS := fun env => match env[i]? with | some (some (.own ds)) => .ret (.lst ds) (env.set i none) | _ => .stk
theorem Rel.take {i : Nat} {ds : List D} (RR : Rel T env σ P H) (e : env[i]? = some (some (.own ds))) : ∃ a vs, σ[i]? = some (some (V.ref a)) ∧ H a = some (.lst vs) ∧ P a = none ∧ Reps T P ds vs ∧ Own env σ a ∧ ¬ Own (env.set i none) σ a ∧ Rel T (env.set i none) σ P H ∧ Fr env σ P H (env.set i none) σ P H := by
  obtain ⟨u, hu, r⟩ := RR.ent i _ e
  obtain ⟨a, vs, rfl, h1, h2, h3⟩ := r
  have key : ∀ (j : Nat) (f : EV), (env.set i none)[j]? = some (some f) → j ≠ i ∧ env[j]? = some (some f) := fun j f h => by
    by_cases q : j = i
    · subst q; rw [set_get e] at h; cases h
    · rw [List.getElem?_set_ne (fun z => q z.symm)] at h; exact ⟨q, h⟩
  have sub : ∀ b, Own (env.set i none) σ b → Own env σ b := fun b ⟨j, f, q1, q2, q3⟩ => ⟨j, f, (key j f q1).2, q2, q3⟩
  refine ⟨a, vs, hu, h1, h2, h3, ⟨i, _, e, rfl, hu⟩, fun ⟨j, f, q1, q2, q3⟩ => ?_, ⟨RR.sub, fun j f h => RR.ent j f (key j f h).2, fun j l f g b n q1 q2 => RR.dis j l f g b n (key j f q1).2 (key l g q2).2, by rw [List.length_set]; exact RR.len⟩, fun b o h _ => h, fun b _ n z => n (sub b z), PSub.refl _, fun b h => .inl h, fun b h => h⟩
  obtain ⟨n, q⟩ := key j f q1
  exact RR.dis j i f _ a n q e q2 rfl q3 hu
theorem ds_retO {i : Nat} {x : Str} {p : Pos} (h : PE X (.Name x p) (tVar i)) : DS T W .fresh pins X (.Return (some (.Name x p)) pos) (retOM i) := ps_imp (ps_ret h) fun D σ H h => by
  obtain ⟨env, P, RR, h⟩ := h
  unfold retOM at h
  cases e : env[i]? with
  | none => rw [e] at h; exact False.elim h
  | some o =>
    cases o with
    | none => rw [e] at h; exact False.elim h
    | some v =>
      cases v with
      | own ds =>
        rw [e] at h
        obtain ⟨a, vs, hu, h1, h2, h3, o1, o2, R2, F2⟩ := RR.take e
        exact ⟨_, hu, h σ P H _ R2 F2 FrP.refl ⟨a, vs, ds, rfl, h1, h2, o2, h3, rfl⟩ ⟨a, rfl, .inr o1⟩⟩
      | _ => rw [e] at h; exact False.elim h
def retNM : MS := fun env => .ret .non env
theorem ds_retN : DS T W .pure pins X (.Return none pos) retNM := ps_imp ps_retN fun D σ H h => by
  obtain ⟨env, P, RR, h⟩ := h
  exact h σ P H .non RR (Fr.refl _ _ _ _) FrP.refl (show Rep T P .non .non from rep_non) trivial
def exprM (m : M) : MS := fun env => (m env).toS fun _ e => .nx e
theorem ds_expr {e : Expr} {m : M} {k : Kd} (h : DE T W X e k m) (hs : swapsWith e none pos.line X.env = pure false := by rfl) : DS T W kr pins X (.Expr e pos) (exprM m) := ps_imp (ps_expr h hs) fun D σ H h => by
  obtain ⟨env, P, RR, h⟩ := h
  exact ⟨env, P, RR, After.mono h.ofR fun d env1 P1 H1 R1 F1 h1 x kx nx => h1 σ P1 H1 R1 (Fr.refl _ _ _ _) FrP.refl⟩
theorem ds_doc {x : Str} {j : Nat} {pos' : Pos} : DS T W kr pins X (.Expr (.Constant (.str x) j pos) pos') nilM := ps_imp ps_doc fun D σ H h => by
  obtain ⟨env, P, RR, h⟩ := h
  exact h σ P H RR (Fr.refl _ _ _ _) FrP.refl
/-! ### a slot is set -/
theorem Rel.setV {i : Nat} {d : D} {x : V} (RR : Rel T env σ P H) (hx : Rep T P d x) : Rel T (env.set i (some (.v d))) (σ.set i (some x)) P H ∧ Fr env σ P H (env.set i (some (.v d))) (σ.set i (some x)) P H := by
  have key : ∀ (j : Nat) (e : EV), (env.set i (some (.v d)))[j]? = some (some e) → (j = i ∧ e = .v d ∧ (σ.set i (some x))[j]? = some (some x)) ∨ (j ≠ i ∧ env[j]? = some (some e) ∧ (σ.set i (some x))[j]? = σ[j]?) := fun j e h => by
    by_cases q : j = i
    · subst q
      by_cases hj : j < env.length
      · rw [List.getElem?_set_self hj] at h
        cases h
        exact .inl ⟨rfl, rfl, List.getElem?_set_self (by rw [← RR.len]; exact hj)⟩
      · rw [List.getElem?_eq_none (by simpa using hj)] at h; cases h
    · rw [List.getElem?_set_ne (fun z => q z.symm)] at h
      exact .inr ⟨q, h, List.getElem?_set_ne (fun z => q z.symm)⟩
  refine ⟨⟨RR.sub, fun j e h => ?_, fun j l e f a n h1 h2 o1 o2 s1 s2 => ?_, by rw [List.length_set, List.length_set]; exact RR.len⟩, fun b o h _ => h, fun b hb n z => ?_, PSub.refl _, fun b h => .inl h, fun b h => h⟩
  · rcases key j e h with ⟨rfl, rfl, q⟩ | ⟨_, q1, q2⟩
    · exact ⟨x, q, hx⟩
    · rw [q2]; exact RR.ent j e q1
  · rcases key j e h1 with ⟨_, rfl, _⟩ | ⟨_, q1, q2⟩
    · cases o1
    · rcases key l f h2 with ⟨_, rfl, _⟩ | ⟨_, q3, q4⟩
      · cases o2
      · rw [q2] at s1; rw [q4] at s2
        exact RR.dis j l e f a n q1 q3 o1 o2 s1 s2
  · obtain ⟨j, e, h1, h2, h3⟩ := z
    rcases key j e h1 with ⟨_, rfl, _⟩ | ⟨_, q1, q2⟩
    · cases h2
    · rw [q2] at h3; exact n ⟨j, e, q1, h2, h3⟩
theorem FrP.set {i : Nat} {v : Option V} (hi : i ∉ pins) : FrP pins σ (σ.set i v) := fun j hj => List.getElem?_set_ne (fun z => hi (by rw [z]; exact hj))
def setM (i : Nat) (m : M) : MS := fun env => (m env).toS fun d e => .nx (e.set i (some (.v d)))
theorem rd_set {i : Nat} {m : M} {D : Ends} (hi : i ∉ pins) (h : rdS T W kr pins (setM i m) D σ H) : tAsg (rdE T W .pure m) (gName i) D σ H := by
  obtain ⟨env, P, RR, h⟩ := h
  refine ⟨env, P, RR, After.mono h.ofR fun d env1 P1 H1 R1 F1 h1 x kx nx => ?_⟩
  obtain ⟨R2, F2⟩ := R1.setV (i := i) (d := d) (x := x) kx
  exact h1 _ P1 H1 R2 F2 (FrP.set hi)
theorem ds_set {i : Nat} {x : Str} {e : Expr} {m : M} {pos' : Pos} (h : DE T W X e .pure m) (hN : X.N.Nodup) (hi : X.N[i]? = some x) (hx : Loc X.env.scope x) (hp : i ∉ pins := by decide) (hs : swapsWith e (some (.Name x pos')) pos.line X.env = pure false := by rfl)
    (hf : X.fn x = true ∨ X.env.scope.names.lookup x = some .local := by first | exact .inl rfl | exact .inr rfl | assumption) : DS T W kr pins X (.Assign [.Name x pos'] e pos) (setM i m) :=
  ps_imp (ps_set hN hi hx h hs hf) fun _ _ _ h => rd_set hp h
/-- a new list becomes a slot's own -/
theorem Rel.setO {i : Nat} {ds : List D} {a : Addr} {vs : List V} (RR : Rel T env σ P H) (h1 : H a = some (.lst vs)) (h2 : P a = none) (h3 : ¬ Own env σ a) (h4 : Reps T P ds vs) : Rel T (env.set i (some (.own ds))) (σ.set i (some (.ref a))) P H := by
  have key : ∀ (j : Nat) (e : EV), (env.set i (some (.own ds)))[j]? = some (some e) → (j = i ∧ e = .own ds ∧ (σ.set i (some (.ref a)))[j]? = some (some (.ref a))) ∨ (j ≠ i ∧ env[j]? = some (some e) ∧ (σ.set i (some (.ref a)))[j]? = σ[j]?) := fun j e h => by
    by_cases q : j = i
    · subst q
      by_cases hj : j < env.length
      · rw [List.getElem?_set_self hj] at h
        cases h
        exact .inl ⟨rfl, rfl, List.getElem?_set_self (by rw [← RR.len]; exact hj)⟩
      · rw [List.getElem?_eq_none (by simpa using hj)] at h; cases h
    · rw [List.getElem?_set_ne (fun z => q z.symm)] at h
      exact .inr ⟨q, h, List.getElem?_set_ne (fun z => q z.symm)⟩
  refine ⟨RR.sub, fun j e h => ?_, fun j l e f b n g1 g2 o1 o2 s1 s2 => ?_, by rw [List.length_set, List.length_set]; exact RR.len⟩
  · rcases key j e h with ⟨rfl, rfl, q⟩ | ⟨_, q1, q2⟩
    · exact ⟨_, q, a, vs, rfl, h1, h2, h4⟩
    · rw [q2]; exact RR.ent j e q1
  · rcases key j e g1 with ⟨e1, rfl, q0⟩ | ⟨_, q1, q2⟩
    · rcases key l f g2 with ⟨e2, rfl, _⟩ | ⟨_, q3, q4⟩
      · exact n (e1.trans e2.symm)
      · rw [q0] at s1; cases s1
        rw [q4] at s2
        exact h3 ⟨l, f, q3, o2, s2⟩
    · rcases key l f g2 with ⟨_, rfl, q0⟩ | ⟨_, q3, q4⟩
      · rw [q0] at s2; cases s2
        rw [q2] at s1
        exact h3 ⟨j, e, q1, o1, s1⟩
      · rw [q2] at s1; rw [q4] at s2
        exact RR.dis j l e f b n q1 q3 o1 o2 s1 s2
theorem Own.of_setO {i : Nat} {ds : List D} {a b : Addr} (h : Own (env.set i (some (.own ds))) (σ.set i (some (.ref a))) b) : b = a ∨ Own env σ b := by
  obtain ⟨j, e, h1, h2, h3⟩ := h
  by_cases q : j = i
  · subst q
    by_cases hj : j < σ.length
    · rw [List.getElem?_set_self hj] at h3; cases h3; exact .inl rfl
    · rw [List.getElem?_eq_none (by simpa using hj)] at h3; cases h3
  · rw [List.getElem?_set_ne (fun z => q z.symm)] at h1 h3
    exact .inr ⟨j, e, h1, h2, h3⟩
def setOM (i : Nat) (m : M) : MS := fun env => (m env).toS fun d e => match d with | .lst ds => .nx (e.set i (some (.own ds))) | _ => .stk
theorem rd_setO {i : Nat} {m : M} {D : Ends} (hi : i ∉ pins) (h : rdS T W kr pins (setOM i m) D σ H) : tAsg (rdE T W .fresh m) (gName i) D σ H := by
  obtain ⟨env, P, RR, h⟩ := h
  refine ⟨env, P, RR, ?_⟩
  unfold setOM at h
  cases e1 : m env with
  | ok d env1 =>
    rw [e1] at h
    intro P1 H1 R1 F1 x kx nx
    obtain ⟨a, vs, ds, rfl, h1, h2, h3, h4, rfl⟩ := kx
    obtain ⟨a', e', ha⟩ := nx
    cases e'
    refine h _ P1 H1 (R1.setO h1 h2 h3 h4) ⟨F1.keep, fun b hb n z => ?_, F1.mono, F1.new, F1.there⟩ (FrP.set hi)
    rcases z.of_setO with rfl | z
    · exact hb ha
    · exact F1.own b hb n z
  | exc c fs env1 => rw [e1] at h; exact fun P1 H1 cls dd R1 F1 q => h σ P1 H1 cls dd R1 F1 FrP.refl q
  | stk => rw [e1] at h; exact h
theorem ds_setO {i : Nat} {x : Str} {e : Expr} {m : M} {pos' : Pos} (h : DE T W X e .fresh m) (hN : X.N.Nodup) (hi : X.N[i]? = some x) (hx : Loc X.env.scope x) (hp : i ∉ pins := by decide) (hs : swapsWith e (some (.Name x pos')) pos.line X.env = pure false := by rfl)
    (hf : X.fn x = true ∨ X.env.scope.names.lookup x = some .local := by first | exact .inl rfl | exact .inr rfl | assumption) : DS T W kr pins X (.Assign [.Name x pos'] e pos) (setOM i m) :=
  ps_imp (ps_set hN hi hx h hs hf) fun _ _ _ h => rd_setO hp h
/-! ### if, while -/
def iffM (t : MT) (a b : MS) : MS := fun env => (t env).toS fun c e => if c then a e else b e
theorem ds_if {c : Expr} {a b : List Stmt} {t : MT} {ma mb : MS} (hc : DT T W X c t) (ha : DSs T W kr pins X a ma) (hb : DSs T W kr pins X b mb) : DS T W kr pins X (.If c a b pos) (iffM t ma mb) := ps_imp (ps_if hc ha hb) fun D σ H h => by
  obtain ⟨env, P, RR, h⟩ := h
  refine ⟨env, P, RR, After.mono h.ofR fun d env1 P1 H1 R1 F1 h1 => ?_⟩
  cases d with
  | true => exact iteT ⟨env1, P1, R1, h1⟩
  | false => exact iteF ⟨env1, P1, R1, h1⟩
def loopS (r : SR) (k : MS) : SR := match r with | .nx e => k e | .cnt e => k e | .brk e => .nx e | r => r
def whileM (t : MT) (b : MS) : Nat → MS
  | 0 => fun _ => .stk
  | n + 1 => fun env => (t env).toS fun c e => if c then loopS (b e) (whileM t b n) else .nx e
theorem AfterS.loop {r : SR} {k : MS} {D : Ends} (h : AfterS T W kr pins env σ P H (loopS r k) D) :
    AfterS T W kr pins env σ P H r { D with nx := fun σ' H' => ∃ e P', Rel T e σ' P' H' ∧ PSub P P' ∧ AfterS T W kr pins e σ' P' H' (k e) D, ct := fun σ' H' => ∃ e P', Rel T e σ' P' H' ∧ PSub P P' ∧ AfterS T W kr pins e σ' P' H' (k e) D, bk := D.nx } := by
  cases r with
  | nx e => intro σ2 P2 H2 R2 F2 p2; exact ⟨e, P2, R2, F2.mono, AfterS.step h F2 p2⟩
  | cnt e => intro σ2 P2 H2 R2 F2 p2; exact ⟨e, P2, R2, F2.mono, AfterS.step h F2 p2⟩
  | brk e => exact h
  | ret d e => exact h
  | exc c fs e => exact h
  | stk => exact h
theorem AfterS.imp {r : SR} {D D' : Ends} (h : AfterS T W kr pins env σ P H r D) (k1 : ∀ σ H, D.nx σ H → D'.nx σ H) (k2 : ∀ σ H, D.bk σ H → D'.bk σ H) (k3 : ∀ σ H, D.ct σ H → D'.ct σ H) (k4 : ∀ x H, D.rt x H → D'.rt x H) : AfterS T W kr pins env σ P H r D' := by
  cases r with
  | nx e => exact fun σ2 P2 H2 R2 F2 p2 => k1 _ _ (h σ2 P2 H2 R2 F2 p2)
  | brk e => exact fun σ2 P2 H2 R2 F2 p2 => k2 _ _ (h σ2 P2 H2 R2 F2 p2)
  | cnt e => exact fun σ2 P2 H2 R2 F2 p2 => k3 _ _ (h σ2 P2 H2 R2 F2 p2)
  | ret d e => exact fun σ2 P2 H2 x R2 F2 p2 q n => k4 _ _ (h σ2 P2 H2 x R2 F2 p2 q n)
  | exc c fs e => exact h
  | stk => exact h
theorem ds_while {c : Expr} {b : List Stmt} {t : MT} {mb : MS} (N : Nat) (hp : PassesOwn (model X.prog X.w) X.A X.env X.xe) (hc : DT T W X c t) (hb : DSs T W kr pins X b mb) : DS T W kr pins X (.While c b [] pos) (whileM t mb N) := ps_imp (ps_while hp hc hb) fun D σ H h => by
  obtain ⟨env, P, RR, h⟩ := h
  refine ⟨fun m σ H => ∃ e P, Rel T e σ P H ∧ AfterS T W kr pins e σ P H (whileM t mb m e) D, ⟨N, env, P, RR, h⟩, fun m σ H hW => ?_⟩
  obtain ⟨env, P, RR, h⟩ := hW
  cases m with
  | zero => exact False.elim h
  | succ m =>
    refine ⟨env, P, RR, After.mono h.ofR fun d env1 P1 H1 R1 F1 h1 => ?_⟩
    cases d with
    | true =>
      refine iteT ⟨fun σ' H' => ∃ e P', Rel T e σ' P' H' ∧ PSub P1 P' ∧ AfterS T W kr pins e σ' P' H' (whileM t mb m e) D, fun σ' H' q => ⟨m, Nat.lt_succ_self m, ?_⟩, env1, P1, R1, AfterS.loop h1⟩
      obtain ⟨e, P', q1, _, q2⟩ := q
      exact ⟨e, P', q1, q2⟩
    | false => exact iteF (h1 σ P1 H1 R1 (Fr.refl _ _ _ _) FrP.refl)
end
end Ue

set_option linter.all false
set_option Elab.async false
set_option maxRecDepth 100000
set_option maxHeartbeats 4000000
namespace Ue
open PySem L2

/-! ### what is walked -/
def Grow1 (P H P' H' : Hp) : Prop := (P' = P ∧ H' = H) ∨ ∃ p o, H p = none ∧ P' = upd P p o ∧ H' = upd H p o
def Yl (T : Tab) (J : It) (P0 : Hp) (ds : List D) : Prop := ∀ P H, PSub P0 P → PSub P H →
  (∀ i d, ds[i]? = some d → J.go i H ∧ ∀ x H', J.yld i H x H' → ∃ P', Rep T P' d x ∧ Grow1 P H P' H') ∧ (∀ i, ds.length ≤ i → J.stop i H)
abbrev MI := Env → R (List D)
def rdI (T : Tab) (W : WX) (m : MI) : TI := fun σ H Q => ∃ env P, Rel T env σ P H ∧ After T W σ env P H (m env) (fun ds env' P' H' => ∀ J, Yl T J P' ds → Q J H')
def DI (T : Tab) (W : WX) (X : Cx) (tg iter : Expr) (m : MI) : Prop := PI X tg iter (rdI T W m)
theorem pi_imp {X : Cx} {tg e : Expr} {t t' : TI} (h : PI X tg e t) (k : ∀ σ H Q, t' σ H Q → t σ H Q) : PI X tg e t' := ⟨fun pins s σ H Q I q => h.run pins s σ H Q I (k σ H Q q)⟩
section
variable {T : Tab} {W : WX} {kr : Kd} {pins : List Nat} {env env' : Env} {σ σ' : L2.St} {P H P' H' : Hp} {X : Cx} {pos : Pos} {tg e : Expr}
theorem Rel.grow1 (RR : Rel T env σ P H) (g : Grow1 P H P' H') : Rel T env σ P' H' ∧ Fr env σ P H env σ P' H' := by
  rcases g with ⟨rfl, rfl⟩ | ⟨p, o, hp, rfl, rfl⟩
  · exact ⟨RR, Fr.refl _ _ _ _⟩
  · exact RR.newP hp
def asL (m : M) : MI := fun env => (m env).bind fun d e => match d with | .lst ds => .ok ds e | _ => .stk
def asT (m : M) : MI := fun env => (m env).bind fun d e => match d with | .tup ds => .ok ds e | _ => .stk
theorem yl_list {a : Addr} {vs : List V} {ds : List D} {K : PySem.W.Frag} (hK : K = T.K) (h : Rd P a (.lst vs)) (r : Reps T P ds vs) (inj : True) : Yl T (Itl K a) P ds := fun P1 H1 s1 s2 => by
  have q : SqL K H1 a vs := .inl (Rd.sub s2 (Rd.sub s1 h))
  refine ⟨fun i d hd => ?_, fun i hi => ⟨vs, q, by rw [r.length]; exact hi⟩⟩
  obtain ⟨v, hv, rv⟩ := r.get hd
  refine ⟨⟨vs, v, q, hv⟩, fun x H' y => ?_⟩
  obtain ⟨rfl, y⟩ := y
  have := y vs q
  rw [hv] at this; cases this
  exact ⟨P1, Rep.sub s1 _ _ rv, .inl ⟨rfl, rfl⟩⟩
theorem yl_tup {a : Addr} {vs : List V} {ds : List D} {K : PySem.W.Frag} (hK : K = T.K) (h : SqT T.K P a vs) (r : Reps T P ds vs) : Yl T (Itt K a) P ds := fun P1 H1 s1 s2 => by
  subst hK
  have q : SqT T.K H1 a vs := sqT_sub s2 (sqT_sub s1 h)
  refine ⟨fun i d hd => ?_, fun i hi => ⟨vs, q, by rw [r.length]; exact hi⟩⟩
  obtain ⟨v, hv, rv⟩ := r.get hd
  refine ⟨⟨vs, v, q, hv⟩, fun x H' y => ?_⟩
  obtain ⟨rfl, y⟩ := y
  have := y vs q
  rw [hv] at this; cases this
  exact ⟨P1, Rep.sub s1 _ _ rv, .inl ⟨rfl, rfl⟩⟩
theorem di_list {m : M} (hK : X.K = T.K) (h : DE T W X e .pure m) : DI T W X tg e (asL m) := pi_imp (pi_list h) fun σ H Q h => by
  obtain ⟨env, P, RR, h⟩ := h
  refine ⟨env, P, RR, After.mono h.bind fun d env1 P1 H1 R1 F1 h1 x kx nx => ?_⟩
  cases d with
  | lst ds =>
    have kx : Rep T P1 (.lst ds) x := kx
    rw [Rep] at kx
    obtain ⟨a, vs, rfl, q1, q2⟩ := kx
    exact ⟨a, rfl, ⟨vs, .inl (Rd.sub R1.sub q1)⟩, h1.here R1 (Fr.refl _ _ _ _) _ (yl_list hK q1 q2 trivial)⟩
  | _ => exact False.elim h1
theorem di_tup {m : M} (hK : X.K = T.K) (h : DE T W X e .pure m) : DI T W X tg e (asT m) := pi_imp (pi_tup h) fun σ H Q h => by
  obtain ⟨env, P, RR, h⟩ := h
  refine ⟨env, P, RR, After.mono h.bind fun d env1 P1 H1 R1 F1 h1 x kx nx => ?_⟩
  cases d with
  | tup ds =>
    have kx : Rep T P1 (.tup ds) x := kx
    rw [Rep] at kx
    obtain ⟨a, vs, rfl, q1, q2⟩ := kx
    refine ⟨a, rfl, ⟨vs, ?_⟩, h1.here R1 (Fr.refl _ _ _ _) _ (yl_tup hK q1 q2)⟩
    rw [hK]; exact sqT_sub R1.sub q1
  | _ => exact False.elim h1
/-- lo, lo + 1, .. -/
def rngL (lo : Int) (n : Nat) : List D := (List.range n).map fun (i : Nat) => D.int (lo + (i : Int))
theorem yl_range (lo : Int) (n : Nat) : Yl T (Itr lo n) P (rngL lo n) := fun P1 H1 s1 s2 => by
  refine ⟨fun i d hd => ?_, fun i hi => (by simpa [rngL] using hi : n ≤ i)⟩
  have hi : i < n := by
    rcases Nat.lt_or_ge i n with q | q
    · exact q
    · rw [List.getElem?_eq_none (by simpa [rngL] using q)] at hd; cases hd
  have hd' : d = .int (lo + i) := by
    have : (rngL lo n)[i]? = some (.int (lo + i)) := by simp [rngL, hi]
    rw [this] at hd; cases hd; rfl
  subst hd'
  refine ⟨hi, fun x H' y => ?_⟩
  obtain ⟨rfl, rfl⟩ := y
  exact ⟨P1, rep_int, .inl ⟨rfl, rfl⟩⟩
def rng1M (m : M) : MI := fun env => (m env).bind fun d e => match d with | .int j => if -(2 ^ 62) ≤ j ∧ j < 2 ^ 62 then .ok (rngL 0 j.toNat) e else .stk | _ => .stk
def rng2M (ma mb : M) : MI := fun env => (ma env).bind fun d e1 => (mb e1).bind fun d' e => match d, d' with | .int i, .int j => if -(2 ^ 62) ≤ i ∧ i < 2 ^ 62 ∧ -(2 ^ 62) ≤ j ∧ j < 2 ^ 62 then .ok (rngL i (j - i).toNat) e else .stk | _, _ => .stk
theorem di_range1 {k : Kd} {a : Expr} {p : Pos} {m : M} (hg : Gl X "range") (hm : X.mg "range" = none) (h : DE T W X a k m) (hs : starEach [a] X.env = [(false, eval a X.env)] := by rfl) : DI T W X tg (.Call (.Name "range" p) [a] [] pos) (rng1M m) := pi_imp (pi_range1 hg hm (da_cons (ks := []) (ms := []) h da_nil (by cases k <;> first | trivial | (intro env d env' h; cases h; rfl)) hs) hs) fun σ H Q h => by
  obtain ⟨env, P, RR, h⟩ := h
  refine ⟨env, P, RR, ?_⟩
  have e0 : argsM [m] env = (m env).bind fun d e1 => .ok [d] e1 := by
    show ((m env).bind fun d e1 => (argsM [] e1).bind fun ds e2 => .ok (d :: ds) e2) = _
    rfl
  rw [e0]
  unfold rng1M at h
  cases e1 : m env with
  | ok d env1 =>
    rw [e1] at h
    intro P1 H1 R1 F1 xs kxs
    obtain ⟨x, rfl, hx⟩ := (kxs.rdbs R1).one
    cases d with
    | int j =>
      have h : After T W σ env P H (if -(2 ^ 62) ≤ j ∧ j < 2 ^ 62 then R.ok (rngL 0 j.toNat) env1 else R.stk) _ := h
      by_cases z : -(2 ^ 62) ≤ j ∧ j < 2 ^ 62
      · rw [if_pos z] at h
        exact ⟨j, by rw [hx.intE], z.1, z.2, h P1 H1 R1 F1 _ (yl_range 0 j.toNat)⟩
      · rw [if_neg z] at h; exact False.elim h
    | _ => exact False.elim h
  | exc c fs env1 => rw [e1] at h; exact h
  | stk => rw [e1] at h; exact h
theorem di_range2 {k k' : Kd} {a b : Expr} {p : Pos} {m m' : M} (hg : Gl X "range") (hm : X.mg "range" = none) (h : DE T W X a k m) (h' : DE T W X b .pure m') (hk : Steady k (argsM [m']) := by trivial) (hs : starEach [a, b] X.env = [(false, eval a X.env), (false, eval b X.env)] := by rfl) (hs2 : starEach [b] X.env = (false, eval b X.env) :: starEach [] X.env := by rfl) :
    DI T W X tg (.Call (.Name "range" p) [a, b] [] pos) (rng2M m m') := pi_imp (pi_range2 hg hm (da_cons h (da_cons (ks := []) (ms := []) h' da_nil trivial hs2) hk (hs.trans (by rw [hs2]; rfl))) hs (hs2.trans rfl)) fun σ H Q h => by
  obtain ⟨env, P, RR, h⟩ := h
  refine ⟨env, P, RR, ?_⟩
  have e0 : argsM [m, m'] env = (m env).bind fun d e1 => (m' e1).bind fun d' e2 => .ok [d, d'] e2 := by
    show ((m env).bind fun d e1 => ((m' e1).bind fun d' e2 => (argsM [] e2).bind fun ds e3 => .ok (d' :: ds) e3).bind fun ds e2 => .ok (d :: ds) e2) = _
    cases m env with
    | ok d e1 =>
      show ((m' e1).bind fun d' e2 => .ok [d'] e2).bind (fun ds e2 => .ok (d :: ds) e2) = (m' e1).bind fun d' e2 => .ok [d, d'] e2
      cases m' e1 <;> rfl
    | _ => rfl
  rw [e0]
  unfold rng2M at h
  cases e1 : m env with
  | ok d env1 =>
    rw [e1] at h
    show After T W σ env P H ((m' env1).bind fun d' e2 => .ok [d, d'] e2) _
    have h : After T W σ env P H ((m' env1).bind fun d' e => match d, d' with | .int i, .int j => if -(2 ^ 62) ≤ i ∧ i < 2 ^ 62 ∧ -(2 ^ 62) ≤ j ∧ j < 2 ^ 62 then .ok (rngL i (j - i).toNat) e else .stk | _, _ => .stk) _ := h
    cases e2 : m' env1 with
    | ok d' env2 =>
      rw [e2] at h
      intro P1 H1 R1 F1 xs kxs
      obtain ⟨x, y, rfl, hx, hy⟩ := (kxs.rdbs R1).two
      cases d with
      | int i =>
        cases d' with
        | int j =>
          have h : After T W σ env P H (if -(2 ^ 62) ≤ i ∧ i < 2 ^ 62 ∧ -(2 ^ 62) ≤ j ∧ j < 2 ^ 62 then R.ok (rngL i (j - i).toNat) env2 else R.stk) _ := h
          by_cases z : -(2 ^ 62) ≤ i ∧ i < 2 ^ 62 ∧ -(2 ^ 62) ≤ j ∧ j < 2 ^ 62
          · rw [if_pos z] at h
            exact ⟨i, j, by rw [hx.intE, hy.intE], z, h P1 H1 R1 F1 _ (yl_range i _)⟩
          · rw [if_neg z] at h; exact False.elim h
        | _ => exact False.elim h
      | _ => exact False.elim h
    | exc c fs env2 => rw [e2] at h; exact h
    | stk => rw [e2] at h; exact h
  | exc c fs env1 => rw [e1] at h; exact h
  | stk => rw [e1] at h; exact h
/-- enumerate(xs), xs a list -/
def enumL (ds : List D) : List D := (List.range ds.length).map fun (i : Nat) => D.tup [.int (i : Int), ds.getD i .non]
theorem enumL_get {ds : List D} {i : Nat} {d : D} (h : (enumL ds)[i]? = some d) : ∃ e, ds[i]? = some e ∧ d = .tup [.int i, e] := by
  have hi : i < ds.length := by
    rcases Nat.lt_or_ge i ds.length with q | q
    · exact q
    · rw [List.getElem?_eq_none (by simpa [enumL] using q)] at h; cases h
  refine ⟨ds[i], List.getElem?_eq_getElem hi, ?_⟩
  have e : (enumL ds)[i]? = some (.tup [.int i, ds.getD i .non]) := by simp [enumL, hi]
  rw [e] at h
  have h := Option.some.inj h
  rw [← h, List.getD_eq_getElem?_getD, List.getElem?_eq_getElem hi]; rfl
def enumM (m : M) : MI := fun env => (m env).bind fun d e => match d with | .lst ds => .ok (enumL ds) e | _ => .stk
theorem di_enum {e : Expr} {p tpos : Pos} {elts : List Expr} {kk : Nat} {m : M} (hK : X.K = T.K) (hg : Gl X "enumerate") (hm : X.mg "enumerate" = none) (h : DE T W X e .pure m) (hs : starEach [e] X.env = [(false, eval e X.env)] := by rfl) :
    DI T W X (.Tuple elts kk tpos) (.Call (.Name "enumerate" p) [e] [] pos) (enumM m) := pi_imp (pi_enum hg hm (da_cons (ks := []) (ms := []) h da_nil trivial hs) hs) fun σ H Q h => by
  obtain ⟨env, P, RR, h⟩ := h
  refine ⟨env, P, RR, ?_⟩
  have e0 : argsM [m] env = (m env).bind fun d e1 => .ok [d] e1 := rfl
  rw [e0]
  unfold enumM at h
  cases e1 : m env with
  | ok d env1 =>
    rw [e1] at h
    intro P1 H1 R1 F1 xs kxs
    have rs := kxs.pures (pures_cons pures_nil)
    cases d with
    | lst ds =>
      rw [Reps] at rs
      obtain ⟨x, r, rfl, h2, h3⟩ := rs
      rw [Reps] at h3; subst h3
      rw [Rep] at h2
      obtain ⟨a, vs, rfl, q1, q2⟩ := h2
      refine ⟨a, vs, rfl, .inl (Rd.sub R1.sub q1), h P1 H1 R1 F1 _ fun P2 H2 s1 s2 => ?_⟩
      have q : SqL X.K H2 a vs := .inl (Rd.sub s2 (Rd.sub s1 q1))
      refine ⟨fun i d hd => ?_, fun i hi => ⟨vs, q, by rw [q2.length]; simpa [enumL] using hi⟩⟩
      obtain ⟨e, he, rfl⟩ := enumL_get hd
      obtain ⟨v, hv, rv⟩ := q2.get he
      refine ⟨⟨vs, v, q, hv⟩, fun x H' y => ?_⟩
      obtain ⟨t, z, rfl, ht, rfl, y⟩ := y
      have := y vs q
      rw [hv] at this; cases this
      have hp : P2 t = none := by
        cases c : P2 t with
        | none => rfl
        | some o => have := s2 t o c; rw [ht] at this; cases this
      exact ⟨upd P2 t _, rep_tup upd_same (Reps.cons rep_int (Reps.cons (Rep.sub (psub_upd hp) _ _ (Rep.sub s1 _ _ rv)) Reps.nil)), .inr ⟨t, _, ht, rfl, rfl⟩⟩
    | _ => exact False.elim h
  | exc c fs env1 => rw [e1] at h; exact h
  | stk => rw [e1] at h; exact h
/-! ### targets -/
abbrev TGM := D → Env → Option Env
def Out (sl : List Nat) (σ σ' : L2.St) : Prop := σ'.length = σ.length ∧ ∀ i, i ∉ sl → σ'[i]? = σ[i]?
def rdG (T : Tab) (sl : List Nat) (g : TGM) : TG := fun v σ H Q => ∃ env P d, Rel T env σ P H ∧ Rep T P d v ∧ ∃ env', g d env = some env' ∧ ∀ σ', Rel T env' σ' P H → Fr env σ P H env' σ' P H → Out sl σ σ' → Q σ' H
def DG (T : Tab) (sl : List Nat) (X : Cx) (tg : Expr) (g : TGM) : Prop := PG X tg (rdG T sl g)
theorem pg_imp {t t' : TG} (h : PG X tg t) (k : ∀ v σ H Q, t' v σ H Q → t v σ H Q) : PG X tg t' := ⟨fun pins s σ H v u Q I r q => h.run pins s σ H v u Q I r (k v σ H Q q)⟩
theorem pgs_imp {tgs : List Expr} {t t' : TGs} (h : PGs X tgs t) (k : ∀ v σ H Q, t' v σ H Q → t v σ H Q) : PGs X tgs t' := ⟨fun pins s σ H v u Q I r q => h.run pins s σ H v u Q I r (k v σ H Q q)⟩
def tgN (i : Nat) : TGM := fun d env => some (env.set i (some (.v d)))
theorem dg_name {i : Nat} {x : Str} (hN : X.N.Nodup) (hi : X.N[i]? = some x) (hx : Loc X.env.scope x) (hf : X.fn x = true ∨ X.env.scope.names.lookup x = some .local := by first | exact .inl rfl | exact .inr rfl | assumption) : DG T [i] X (.Name x pos) (tgN i) :=
  pg_imp (pg_name hN hi hx hf) fun v σ H Q h => by
    obtain ⟨env, P, d, RR, rx, env', e, k⟩ := h
    cases e
    obtain ⟨R2, F2⟩ := RR.setV (i := i) rx
    exact k _ R2 F2 ⟨by rw [List.length_set], fun j hj => List.getElem?_set_ne (fun z => hj (by simp [z]))⟩
def tgL : List TGM → List D → Env → Option Env
  | [], [], env => some env
  | g :: gs, d :: ds, env => (g d env).bind (tgL gs ds)
  | _, _, _ => none
def rdGs (T : Tab) (sl : List Nat) (g : List D → Env → Option Env) : TGs := fun vs σ H Q => ∃ env P ds, Rel T env σ P H ∧ Reps T P ds vs ∧ ∃ env', g ds env = some env' ∧ ∀ σ', Rel T env' σ' P H → Fr env σ P H env' σ' P H → Out sl σ σ' → Q σ' H
def DGs (T : Tab) (sl : List Nat) (X : Cx) (tgs : List Expr) (g : List D → Env → Option Env) : Prop := PGs X tgs (rdGs T sl g)
theorem dgs_nil : DGs T [] X [] (tgL []) := pgs_imp pgs_nil fun vs σ H Q h => by
  obtain ⟨env, P, ds, RR, rx, env', e, k⟩ := h
  cases ds with
  | nil => rw [Reps] at rx; cases e; exact ⟨rx, k σ RR (Fr.refl _ _ _ _) ⟨rfl, fun _ _ => rfl⟩⟩
  | cons d ds => cases e
theorem dgs_cons {sl sl' : List Nat} {a : Expr} {as : List Expr} {g : TGM} {gs : List TGM} (h : DG T sl X a g) (h' : DGs T sl' X as (tgL gs)) (hs : (assignEach (a :: as) X.env).map (·.2) = assign a X.env :: (assignEach as X.env).map (·.2) := by rfl) : DGs T (sl ++ sl') X (a :: as) (tgL (g :: gs)) :=
  pgs_imp (pgs_cons h h' hs) fun vs σ H Q hh => by
    obtain ⟨env, P, ds, RR, rx, env', e, k⟩ := hh
    cases ds with
    | nil => cases e
    | cons d ds =>
      rw [Reps] at rx
      obtain ⟨v, r, rfl, h1, h2⟩ := rx
      have e : (g d env).bind (tgL gs ds) = some env' := e
      cases c : g d env with
      | none => rw [c] at e; cases e
      | some env1 =>
        rw [c] at e
        refine ⟨v, r, rfl, env, P, d, RR, h1, env1, c, fun σ1 R1 F1 p1 => ⟨env1, P, ds, R1, h2, env', e, fun σ2 R2 F2 p2 => k σ2 R2 (F1.trans F2) ⟨p2.1.trans p1.1, fun i hi => ?_⟩⟩⟩
        rw [p2.2 i (fun z => hi (List.mem_append_right _ z)), p1.2 i (fun z => hi (List.mem_append_left _ z))]
def tgT (gs : List TGM) : TGM := fun d env => match d with | .tup ds => tgL gs ds env | _ => none
theorem tgL_len : ∀ {gs : List TGM} {ds : List D} {env env' : Env}, tgL gs ds env = some env' → ds.length = gs.length
  | [], [], _, _, _ => rfl
  | [], _ :: _, _, _, h => by cases h
  | _ :: _, [], _, _, h => by cases h
  | g :: gs, d :: ds, env, env', h => by
    have h : (g d env).bind (tgL gs ds) = some env' := h
    cases c : g d env with
    | none => rw [c] at h; cases h
    | some e1 => rw [c] at h; simp [tgL_len (show tgL gs ds e1 = some env' from h)]
theorem dg_tup {sl : List Nat} {es : List Expr} {kk n : Nat} {gs : List TGM} (hK : X.K = T.K) (hc : X.calm = true) (h : DGs T sl X es (tgL gs)) (hl : gs.length = n := by rfl) (hn : (assignEach es X.env).length = n := by rfl) (hst : (assignEach es X.env).findIdx? (·.1) = none := by rfl) : DG T sl X (.Tuple es kk pos) (tgT gs) :=
  pg_imp (pg_tup hc h hn hst) fun x σ H Q hh => by
    obtain ⟨env, P, d, RR, rx, env', e, k⟩ := hh
    cases d with
    | tup ds =>
      rw [Rep] at rx
      obtain ⟨a, vs, rfl, h1, h2⟩ := rx
      exact ⟨a, vs, rfl, by rw [hK]; exact sqT_sub RR.sub h1, by rw [h2.length, tgL_len e, hl], env, P, ds, RR, h2, env', e, k⟩
    | _ => cases e
theorem Out.frP {sl : List Nat} (h : Out sl σ σ') (hd : ∀ i ∈ pins, i ∉ sl) : FrP pins σ σ' := fun i hi => h.2 i (hd i hi)
/-- target = value -/
def asgM (g : TGM) (m : M) : MS := fun env => (m env).toS fun d e => match g d e with | some e' => .nx e' | none => .stk
theorem ds_asg {sl : List Nat} {g : TGM} {m : M} (h : DE T W X e .pure m) (hg : DG T sl X tg g) (hd : ∀ i ∈ pins, i ∉ sl := by decide) (hs : swapsWithSole [tg] e pos.line X.env = pure false := by rfl) (hw : swappedStores [tg] e X.env = pure none := by rfl)
    (h1 : (assignEach [tg] X.env).map (·.2) = [assign tg X.env] := by rfl) : DS T W kr pins X (.Assign [tg] e pos) (asgM g m) := by
  refine ps_imp (ps_asg h hg hs hw h1) fun D σ H h => ?_
  obtain ⟨env, P, RR, h⟩ := h
  refine ⟨env, P, RR, After.mono h.ofR fun d env1 P1 H1 R1 F1 h1 x kx nx => ?_⟩
  cases c : g d env1 with
  | none => rw [c] at h1; exact False.elim h1
  | some env2 =>
    rw [c] at h1
    exact ⟨env1, P1, d, R1, kx, env2, c, fun σ' R2 F2 p2 => h1 σ' P1 H1 R2 F2 (p2.frP hd)⟩
/-! ### for -/
def forM (g : TGM) (b : MS) : List D → MS
  | [] => fun env => .nx env
  | d :: ds => fun env => match g d env with | some e => loopS (b e) (forM g b ds) | none => .stk
def forS (mi : MI) (g : TGM) (b : MS) : MS := fun env => (mi env).toS fun ds e => forM g b ds e
theorem ds_for {sl : List Nat} {b : List Stmt} {mi : MI} {g : TGM} {mb : MS} (hp : PassesOwn (model X.prog X.w) X.A X.env X.xe) (hc : X.calm = true) (hi : DI T W X tg e mi) (hg : DG T sl X tg g) (hb : DSs T W kr pins X b mb) (hd : ∀ i ∈ pins, i ∉ sl := by decide)
    (hs : ∀ x, foldedSetIterable e X.env x = pure x := by intro _; rfl) : DS T W kr pins X (.For tg e b [] pos) (forS mi g mb) := by
  refine ps_imp (ps_for hp hc hi hg hb hs) fun D σ H h => ?_
  obtain ⟨env, P, RR, h⟩ := h
  refine ⟨env, P, RR, After.mono h.ofR fun ds env1 P1 H1 R1 F1 h1 J hJ => ?_⟩
  refine ⟨fun i m σ H => m = ds.length - i ∧ ∃ e P, Rel T e σ P H ∧ PSub P1 P ∧ AfterS T W kr pins e σ P H (forM g mb (ds.drop i) e) D, ⟨ds.length, by simp, env1, P1, R1, PSub.refl _, h1⟩, fun i m σ H hW => ?_⟩
  obtain ⟨rfl, e, P2, R2, s2, h2⟩ := hW
  obtain ⟨j1, j2⟩ := hJ P2 H s2 R2.sub
  cases c : ds[i]? with
  | none =>
    have hi : ds.length ≤ i := List.getElem?_eq_none_iff.mp c
    rw [List.drop_eq_nil_of_le hi] at h2
    exact .inl ⟨j2 i hi, h2 σ P2 H R2 (Fr.refl _ _ _ _) FrP.refl⟩
  | some d =>
    have hi : i < ds.length := by
      rcases Nat.lt_or_ge i ds.length with q | q
      · exact q
      · rw [List.getElem?_eq_none q] at c; cases c
    have ed : ds.drop i = d :: ds.drop (i + 1) := by
      rw [List.drop_eq_getElem_cons hi]
      rw [List.getElem?_eq_getElem hi] at c
      rw [Option.some.inj c]
    rw [ed] at h2
    obtain ⟨j3, j4⟩ := j1 i d c
    refine .inr ⟨j3, fun σ' H' => ∃ e P, Rel T e σ' P H' ∧ PSub P1 P ∧ AfterS T W kr pins e σ' P H' (forM g mb (ds.drop (i + 1)) e) D, fun σ' H' q => ⟨ds.length - (i + 1), by omega, rfl, q⟩, fun x H' y => ?_⟩
    obtain ⟨P3, r3, g3⟩ := j4 x H' y
    obtain ⟨R3, F3⟩ := R2.grow1 g3
    have h2 : AfterS T W kr pins e σ P2 H (match g d e with | some e' => loopS (mb e') (forM g mb (ds.drop (i + 1))) | none => .stk) D := h2
    cases c2 : g d e with
    | none => rw [c2] at h2; exact False.elim h2
    | some e4 =>
      rw [c2] at h2
      refine ⟨e, P3, d, R3, r3, e4, c2, fun σ4 R4 F4 p4 => ?_⟩
      have h4 := AfterS.step h2 (F3.trans F4) (p4.frP hd)
      have s4 : PSub P1 P3 := s2.trans F3.mono
      exact ⟨e4, P3, R4, AfterS.imp (AfterS.loop h4) (fun σ H ⟨e, P', a, b, c⟩ => ⟨e, P', a, s4.trans b, c⟩) (fun _ _ q => q) (fun σ H ⟨e, P', a, b, c⟩ => ⟨e, P', a, s4.trans b, c⟩) (fun _ _ q => q)⟩
end
end Ue

set_option linter.all false
set_option Elab.async false
set_option maxRecDepth 100000
set_option maxHeartbeats 4000000
namespace Ue
open PySem L2
/-! ### items and slices -/
theorem Reps.atI {T : Tab} {P : Hp} {ds : List D} {vs : List V} {i : Int} {d : D} (h : Reps T P ds vs) (e : atI ds i = some d) : ∃ v, L2.atI vs i = some v ∧ Rep T P d v := by
  unfold L2.atI at e ⊢
  rw [h.length]
  cases q : ixN ds.length i with
  | none => rw [q] at e; cases e
  | some j => rw [q] at e; exact h.get e
def ixD (a b : D) : Option D := match a, b with
  | .lst ds, .int i => L2.atI ds i
  | .tup ds, .int i => L2.atI ds i
  | .scr ns, .int i => (L2.atI ns i).map D.int
  | .str s, .int i => if s.length ≤ sizeLine then (L2.atI s.cps.toList i).map fun c => .str ⟨#[c]⟩ else none
  | _, _ => none
theorem od_ix {T : Tab} : OpD T (rIx T.K) .pure ixD := fun env σ P H dx dy x y d Q R1 hx hy e k => by
  cases dy with
  | int i =>
    cases dx with
    | lst ds =>
      obtain ⟨a, vs, rfl, h1, h2⟩ := hx.lstE R1.sub
      obtain ⟨v, hv, rv⟩ := h2.atI (show L2.atI ds i = some d from e)
      exact .inl ⟨a, vs, i, v, rfl, hy.intE, .inl h1, hv, k _ P H R1 (Fr.refl _ _ _ _) rv trivial⟩
    | scr ns =>
      obtain ⟨a, rfl, h1⟩ := hx.scrE R1.sub
      have e : (L2.atI ns i).map D.int = some d := e
      cases q : L2.atI ns i with
      | none => rw [q] at e; cases e
      | some n =>
        rw [q] at e; cases e
        refine .inl ⟨a, _, i, .int n, rfl, hy.intE, h1, ?_, k _ P H R1 (Fr.refl _ _ _ _) (show Rep T P _ _ from rep_int) trivial⟩
        unfold L2.atI at q ⊢
        rw [List.length_map]
        cases q2 : ixN ns.length i with
        | none => rw [q2] at q; cases q
        | some j =>
          rw [q2] at q
          have q : ns[j]? = some n := q
          show (ns.map V.int)[j]? = _
          rw [List.getElem?_map, q]; rfl
    | tup ds =>
      obtain ⟨a, vs, rfl, h1, h2⟩ := hx.tupE R1.sub
      obtain ⟨v, hv, rv⟩ := h2.atI (show L2.atI ds i = some d from e)
      exact .inr (.inl ⟨a, vs, i, v, rfl, hy.intE, h1, hv, k _ P H R1 (Fr.refl _ _ _ _) rv trivial⟩)
    | str s =>
      have e : (if s.length ≤ sizeLine then (L2.atI s.cps.toList i).map fun c => D.str ⟨#[c]⟩ else none) = some d := e
      by_cases z : s.length ≤ sizeLine
      · rw [if_pos z] at e
        cases q : L2.atI s.cps.toList i with
        | none => rw [q] at e; cases e
        | some c =>
          rw [q] at e; cases e
          exact .inr (.inr ⟨s, i, c, hx.strE, hy.intE, z, q, k _ P H R1 (Fr.refl _ _ _ _) (show Rep T P _ _ from rep_str) trivial⟩)
      · rw [if_neg z] at e; cases e
    | _ => cases e
  | _ => cases dx <;> cases e
section
variable {T : Tab} {W : WX} {kr : Kd} {pins : List Nat} {env env' : Env} {σ σ' : L2.St} {P H P' H' : Hp} {X : Cx} {pos : Pos} {tg e a b : Expr} {k ka kb : Kd} {m ma mb : M}
theorem de_ix (hK : X.K = T.K) (ha : DE T W X a ka ma) (hb : DE T W X b kb mb) (hs : PlainIx b) (hst : Steady ka mb := by trivial) : DE T W X (.Subscript a b pos) .pure (op2M ixD ma mb) :=
  pe_imp (pe_ix (r := rIx T.K) (by rw [← hK]; exact ix_seq) ha hb hs) fun _ _ _ h => rd_op2 od_ix hst h
/-- a part of a slice -/
def optM : Option M → Env → R (Option Int)
  | none, e => .ok none e
  | some m, e => (m e).bind fun d e1 => match d with | .int i => .ok (some i) e1 | _ => .stk
def rdO (T : Tab) (W : WX) (m : Option M) : TO := fun σ H Q => ∃ env P, Rel T env σ P H ∧ After T W σ env P H (optM m env) (fun o _ _ H' => Q o H')
def DO (T : Tab) (W : WX) (X : Cx) (e : Option Expr) (m : Option M) : Prop := PO X e (rdO T W m)
theorem po_imp {o : Option Expr} {t t' : TO} (h : PO X o t) (k : ∀ σ H Q, t' σ H Q → t σ H Q) : PO X o t' := ⟨fun pins s σ H Q I q => h.run pins s σ H Q I (k σ H Q q)⟩
theorem do_none : DO T W X none none := po_imp po_none fun σ H Q h => by
  obtain ⟨env, P, RR, h⟩ := h
  exact h.here RR (Fr.refl _ _ _ _)
theorem do_some (h : DE T W X e k m) : DO T W X (some e) (some m) := po_imp (po_some h) fun σ H Q h => by
  obtain ⟨env, P, RR, h⟩ := h
  refine ⟨env, P, RR, After.mono h.bind fun d env1 P1 H1 R1 F1 h1 x kx nx => ?_⟩
  cases d with
  | int i => exact ⟨i, (kx.rdb R1).intE, h1.here R1 (Fr.refl _ _ _ _)⟩
  | _ => exact False.elim h1
def cutD (ds : List D) (lo hi : Option Int) : List D := (ds.drop (HT.sIx ds.length 0 lo)).take (HT.sIx ds.length ds.length hi - HT.sIx ds.length 0 lo)
theorem Reps.cut {ds : List D} {vs : List V} (h : Reps T P ds vs) (lo hi : Option Int) : Reps T P (cutD ds lo hi) (cutV vs lo hi) := by
  unfold cutD cutV
  rw [h.length]
  exact (h.drop _).take _
def slLM (m : M) (lo hi : Option M) : M := fun env => (m env).bind fun d e => (optM lo e).bind fun l e => (optM hi e).bind fun u e => match d with | .lst ds => .ok (.lst (cutD ds l u)) e | .scr ns => .ok (.lst (cutD (ns.map D.int) l u)) e | _ => .stk
def slTM (m : M) (lo hi : Option M) : M := fun env => (m env).bind fun d e => (optM lo e).bind fun l e => (optM hi e).bind fun u e => match d with | .tup ds => .ok (.tup (cutD ds l u)) e | _ => .stk
theorem de_slL {lo hi : Option Expr} {ml mh : Option M} {p2 : Pos} (hK : X.K = T.K) (he : DE T W X e k m) (hl : DO T W X lo ml) (hh : DO T W X hi mh) (s1 : Steady k (optM ml) := by trivial) (s2 : Steady k (optM mh) := by trivial) :
    DE T W X (.Subscript e (.Slice lo hi none p2) pos) .fresh (slLM m ml mh) := by
  refine pe_imp (pe_slice (r := rSlL T.K) (by rw [← hK]; exact sl_list) he hl hh) fun σ H Q h => ?_
  obtain ⟨env, P, RR, h⟩ := h
  refine ⟨env, P, RR, After.at h.bind fun d env1 P1 H1 _ R1 F1 h1 x kx nx => ?_⟩
  refine ⟨env1, P1, R1, After.at h1.bind fun l env2 P2 H2 e2 R2 F2 h2 => ?_⟩
  refine ⟨env2, P2, R2, After.at h2.bind fun u env3 P3 H3 e3 R3 F3 h3 => ?_⟩
  have kx' := (kx.carry F2 (s1.use e2)).carry F3 (s2.use e3)
  cases d with
  | lst ds =>
    obtain ⟨a, vs, rfl, q1, q2⟩ := (kx'.rdb R3).lstE R3.sub
    refine ⟨a, vs, rfl, .inl q1, fun p hp => ?_⟩
    obtain ⟨R4, F4, no, pn⟩ := R3.newF (o := .lst (cutV vs l u)) hp
    exact h3 _ _ R4 F4 _ ⟨p, _, _, rfl, upd_same, pn, no, q2.cut l u, rfl⟩ (NewV.back (k := .fresh) (F1.trans (F2.trans F3)) ⟨p, rfl, hp⟩)
  | scr ns =>
    obtain ⟨a, rfl, q1⟩ := (kx'.rdb R3).scrE R3.sub
    refine ⟨a, _, rfl, q1, fun p hp => ?_⟩
    obtain ⟨R4, F4, no, pn⟩ := R3.newF (o := .lst (cutV (ns.map V.int) l u)) hp
    exact h3 _ _ R4 F4 _ ⟨p, _, _, rfl, upd_same, pn, no, (Reps.ofInts ns).cut l u, rfl⟩ (NewV.back (k := .fresh) (F1.trans (F2.trans F3)) ⟨p, rfl, hp⟩)
  | _ => exact False.elim h3
theorem de_slT {lo hi : Option Expr} {ml mh : Option M} {p2 : Pos} (hK : X.K = T.K) (he : DE T W X e .pure m) (hl : DO T W X lo ml) (hh : DO T W X hi mh) :
    DE T W X (.Subscript e (.Slice lo hi none p2) pos) .pure (slTM m ml mh) := by
  refine pe_imp (pe_slice (r := rSlA T.K) (by rw [← hK]; exact sl_tupA) he hl hh) fun σ H Q h => ?_
  obtain ⟨env, P, RR, h⟩ := h
  refine ⟨env, P, RR, After.at h.bind fun d env1 P1 H1 _ R1 F1 h1 x kx nx => ?_⟩
  refine ⟨env1, P1, R1, After.at h1.bind fun l env2 P2 H2 e2 R2 F2 h2 => ?_⟩
  refine ⟨env2, P2, R2, After.at h2.bind fun u env3 P3 H3 e3 R3 F3 h3 => ?_⟩
  have kx' : Rep T P3 d x := Rep.sub (F2.trans F3).mono d x kx
  cases d with
  | tup ds =>
    have kx2 := kx'
    rw [Rep] at kx'
    obtain ⟨a, vs, rfl, q1, q2⟩ := kx'
    refine ⟨a, vs, rfl, sqT_sub R3.sub q1, fun z => ?_, fun z p hp => ?_⟩
    · have e : cutD ds l u = ds := by
        unfold cutD
        have hl := q2.length
        rw [hl] at z
        rw [z.1, z.2]; simp
      have h3 : After T W σ env3 P3 H3 (R.ok (D.tup (cutD ds l u)) env3) _ := h3
      rw [e] at h3
      exact h3 _ _ R3 (Fr.refl _ _ _ _) _ kx2 trivial
    · obtain ⟨R4, F4⟩ := R3.newP (o := .tup (cutV vs l u)) hp
      exact h3 _ _ R4 F4 _ (rep_tup upd_same (Reps.sub F4.mono _ _ (q2.cut l u))) trivial
  | _ => exact False.elim h3
/-! ### what leaves the own lists alone -/
theorem steady_c {d : D} : Steady k (cM d) := by
  cases k with
  | own i => intro env d' env' h; cases h; rfl
  | _ => trivial
theorem steady_var {j : Nat} : Steady k (varM j) := by
  cases k with
  | own i =>
    intro env d' env' h
    unfold varM at h
    cases q : env[j]? with
    | none => rw [q] at h; cases h
    | some o =>
      rw [q] at h
      cases o with
      | none => cases h
      | some v => cases v <;> cases h <;> rfl
  | _ => trivial
theorem steady_ovar {j : Nat} : Steady k (ovarM j) := by
  cases k with
  | own i =>
    intro env d' env' h
    unfold ovarM at h
    cases q : env[j]? with
    | none => rw [q] at h; cases h
    | some o =>
      rw [q] at h
      cases o with
      | none => cases h
      | some v => cases v <;> cases h <;> rfl
  | _ => trivial
theorem Steady.bind {α β : Type} {r : Env → R α} {f : α → Env → R β} (h : Steady k r) (h2 : ∀ a, Steady k (f a)) : Steady k (fun env => (r env).bind f) := by
  cases k with
  | own i =>
    intro env b env' e
    have e : (r env).bind f = .ok b env' := e
    cases q : r env with
    | ok a e1 => rw [q] at e; exact (h2 a e1 b env' e).trans (h env a e1 q)
    | exc c fs e1 => rw [q] at e; cases e
    | stk => rw [q] at e; cases e
  | _ => trivial
theorem steady_lift {o : Option D} : Steady k (liftO o) := by
  cases k with
  | own i => intro env b env' e; cases o <;> cases e; rfl
  | _ => trivial
theorem steady_liftB {o : Option Bool} : Steady k (liftB o) := by
  cases k with
  | own i => intro env b env' e; cases o <;> cases e; rfl
  | _ => trivial
theorem steady_op2 {g : D → D → Option D} (h : Steady k ma) (h2 : Steady k mb) : Steady k (op2M g ma mb) := h.bind fun _ => h2.bind fun _ => steady_lift
theorem steady_op1 {g : D → Option D} (h : Steady k ma) : Steady k (op1M g ma) := h.bind fun _ => steady_lift
theorem steady_cmp {g : D → D → Option Bool} (h : Steady k ma) (h2 : Steady k mb) : Steady k (cmpM g ma mb) := h.bind fun _ => h2.bind fun _ => steady_liftB
theorem steady_args : ∀ {ms : List M}, (∀ m ∈ ms, Steady k m) → Steady k (argsM ms)
  | [], _ => by
    cases k with
    | own i => intro env b env' e; cases e; rfl
    | _ => trivial
  | m :: ms, h => Steady.bind (h m List.mem_cons_self) fun d => Steady.bind (steady_args fun m hm => h m (List.mem_cons_of_mem _ hm)) fun ds => by
    cases k with
    | own i => intro env b env' e; cases e; rfl
    | _ => trivial
theorem steady_call {g : List D → Option D} {ms : List M} (h : ∀ m ∈ ms, Steady k m) : Steady k (callM g ms) := (steady_args h).bind fun _ => steady_lift
theorem steady_nil : ∀ m ∈ ([] : List M), Steady k m := fun _ h => nomatch h
theorem steady_cons {ms : List M} (h : Steady k m) (h2 : ∀ m ∈ ms, Steady k m) : ∀ x ∈ (m :: ms), Steady k x := fun x hx => by
  rcases List.mem_cons.mp hx with rfl | hx
  · exact h
  · exact h2 x hx
/-! ### own lists change -/
theorem Rel.updO {i : Nat} {ds ds' : List D} {a : Addr} {vs' : List V} (RR : Rel T env σ P H) (e : env[i]? = some (some (.own ds))) (hs : σ[i]? = some (some (V.ref a))) (r : Reps T P ds' vs') :
    Rel T (env.set i (some (.own ds'))) σ P (upd H a (.lst vs')) ∧ Fr env σ P H (env.set i (some (.own ds'))) σ P (upd H a (.lst vs')) := by
  have own_a : Own env σ a := ⟨i, _, e, rfl, hs⟩
  obtain ⟨o, ho, pa⟩ := RR.ownAt own_a
  have key : ∀ (j : Nat) (f : EV), (env.set i (some (.own ds')))[j]? = some (some f) → (j = i ∧ f = .own ds') ∨ (j ≠ i ∧ env[j]? = some (some f)) := fun j f h => by
    by_cases q : j = i
    · subst q; rw [set_get e] at h; cases h; exact .inl ⟨rfl, rfl⟩
    · rw [List.getElem?_set_ne (fun z => q z.symm)] at h; exact .inr ⟨q, h⟩
  have back : ∀ (j : Nat) (f : EV), (env.set i (some (.own ds')))[j]? = some (some f) → f.isOwn = true → ∃ g, env[j]? = some (some g) ∧ g.isOwn = true := fun j f h o => by
    rcases key j f h with ⟨rfl, rfl⟩ | ⟨_, q⟩
    · exact ⟨_, e, rfl⟩
    · exact ⟨f, q, o⟩
  refine ⟨⟨fun b u h => ?_, fun j f h => ?_, fun j l f g b n h1 h2 o1 o2 s1 s2 => ?_, by rw [List.length_set]; exact RR.len⟩, fun b u h n => ?_, fun b _ n z => ?_, PSub.refl _, fun b h => .inl h, fun b h => ?_⟩
  · rw [upd_ne (ne_of_none h pa)]; exact RR.sub b u h
  · rcases key j f h with ⟨rfl, rfl⟩ | ⟨q, h⟩
    · exact ⟨_, hs, a, vs', rfl, upd_same, pa, r⟩
    · obtain ⟨v, hv, rv⟩ := RR.ent j f h
      refine ⟨v, hv, rv.grow (PSub.refl _) fun b u h1 h2 h3 h4 => ⟨?_, h2⟩⟩
      have hb : b ≠ a := by
        rintro rfl
        subst h4
        exact RR.dis j i f _ b q h e h3 rfl hv hs
      rw [upd_ne hb]; exact h1
  · obtain ⟨f', h1', o1'⟩ := back j f h1 o1
    obtain ⟨g', h2', o2'⟩ := back l g h2 o2
    exact RR.dis j l f' g' b n h1' h2' o1' o2' s1 s2
  · rw [upd_ne (fun z => n (by rw [z]; exact own_a))]; exact h
  · obtain ⟨j, f, h1, h2, h3⟩ := z
    obtain ⟨g, h4, h5⟩ := back j f h1 h2
    exact n ⟨j, g, h4, h5, h3⟩
  · by_cases hb : b = a
    · subst hb; rw [upd_same]; exact fun z => nomatch z
    · rw [upd_ne hb]; exact h
/-- a method of an own list: what it gives, what stands then -/
def MtD (T : Tab) (r : V → List V → Hp → VK → Prop) (g : List D → List D → Option (D × List D)) : Prop :=
  ∀ (P H : Hp) (a : Addr) (vs : List V) (ds es : List D) (xs : List V) (d : D) (ds' : List D) (Q : VK), H a = some (.lst vs) → Reps T P ds vs → Reps T P es xs → g ds es = some (d, ds') →
    (∀ x vs', Rep T P d x → Reps T P ds' vs' → Q x (upd H a (.lst vs'))) → r (.ref a) xs H Q
def mtM (i : Nat) (g : List D → List D → Option (D × List D)) (ms : List M) : M := fun env => match env[i]? with
  | some (some (.own _)) => (argsM ms env).bind fun es e => match e[i]? with
    | some (some (.own ds)) => (match g ds es with | some (d, ds') => .ok d (e.set i (some (.own ds'))) | none => .stk)
    | _ => .stk
  | _ => .stk
theorem rd_mt {i : Nat} {r : V → List V → Hp → VK → Prop} {g : List D → List D → Option (D × List D)} {ms : List M} {ks : List Kd} (hD : MtD T r g) (hp : ∀ k ∈ ks, k = Kd.pure) {Q : VK} (h : rdE T W .pure (mtM i g ms) σ H Q) :
    tBM T.K "list" r (tVar i) (rdA T W ks ms) σ H Q := by
  obtain ⟨env, P, RR, h⟩ := h
  unfold mtM at h
  cases e0 : env[i]? with
  | none => rw [e0] at h; exact False.elim h
  | some o =>
    cases o with
    | none => rw [e0] at h; exact False.elim h
    | some v =>
      cases v with
      | own d0 =>
        rw [e0] at h
        obtain ⟨u, hu, r0⟩ := RR.ent i _ e0
        obtain ⟨a, vs0, rfl, q0, p0, _⟩ := r0
        refine ⟨_, hu, .inl ⟨rfl, vs0, .of q0⟩, env, P, RR, After.at h.bind fun es env1 P1 H1 _ R1 F1 h1 xs kxs => ?_⟩
        cases e1 : env1[i]? with
        | none => rw [e1] at h1; exact False.elim h1
        | some o =>
          cases o with
          | none => rw [e1] at h1; exact False.elim h1
          | some v =>
            cases v with
            | own ds =>
              rw [e1] at h1
              obtain ⟨u, hu2, r1⟩ := R1.ent i _ e1
              rw [hu] at hu2; cases hu2
              obtain ⟨a', vs, ea, q1, p1, w1⟩ := r1
              cases ea
              cases e2 : g ds es with
              | none => simp only [e2] at h1; exact False.elim h1
              | some p =>
                obtain ⟨d, ds'⟩ := p
                simp only [e2] at h1
                refine hD P1 H1 a vs ds es xs d ds' Q q1 w1 (kxs.pures hp) e2 fun x vs' rx rvs => ?_
                obtain ⟨R2, F2⟩ := R1.updO (vs' := vs') e1 hu rvs
                exact h1 _ _ R2 F2 x rx trivial
            | _ => rw [e1] at h1; exact False.elim h1
      | _ => rw [e0] at h; exact False.elim h
theorem de_mt {i : Nat} {x name : Str} {id : String} {r : V → List V → Hp → VK → Prop} {g : List D → List D → Option (D × List D)} {ms : List M} {ks : List Kd} {es : List Expr} {p apos cpos : Pos} (hK : X.K = T.K) (pa : PlainAttrs "list") (slot : Slot "list" name id)
    (hty : typeOf (.builtin id) = pure (.type "method_descriptor")) (hm : MtR X id r) (hD : MtD T r g) (hv : PE X (.Name x p) (tVar i)) (ha : DA T W X (e :: es) ks ms) (hp : ∀ k ∈ ks, k = Kd.pure)
    (hfew : ((backTo cpos (starEach (e :: es) X.env)).all (fun x => !x.1) && (backToKw cpos (keywordEach [] X.env)).all (fun x => x.1.isSome)
      && decide ((e :: es).length + ([] : List Keyword).length + (if ([] : List Keyword).isEmpty then 0 else 1) < 30)) = true := by rfl)
    (hline : (apos.endLine == cpos.line) = true := by rfl) (hs : starEach (e :: es) X.env = (false, eval e X.env) :: starEach es X.env := by rfl) (hplain : (backTo cpos (starEach es X.env)).any (·.1) = false := by rfl) :
    DE T W X (.Call (.Attribute (.Name x p) name apos) (e :: es) [] cpos) .pure (mtM i g ms) :=
  pe_imp (pe_bm pa slot hty hm hv ha (by rfl) hfew hline hs hplain) fun σ H Q h => by rw [hK]; exact rd_mt hD hp h
def appG (ds es : List D) : Option (D × List D) := match es with | [d] => if ds.length < sizeLine then some (.non, ds ++ [d]) else none | _ => none
theorem md_append : MtD T rAppend appG := fun P H a vs ds es xs d ds' Q h1 h2 h3 e k => by
  match es, h3, e with
  | [d0], h3, e =>
    rw [Reps] at h3
    obtain ⟨v, r, rfl, h4, h5⟩ := h3
    rw [Reps] at h5; subst h5
    have e : (if ds.length < sizeLine then some (D.non, ds ++ [d0]) else none) = some (d, ds') := e
    by_cases z : ds.length < sizeLine
    · rw [if_pos z] at e; cases e
      exact ⟨a, vs, v, rfl, rfl, h1, by rw [h2.length]; exact z, k _ _ rep_non (h2.append (Reps.cons h4 Reps.nil))⟩
    · rw [if_neg z] at e; cases e
def popAtI (ds : List D) (i : Int) : Option (D × List D) := if -(2 ^ 63) ≤ i ∧ i < 2 ^ 63 then (ixN ds.length i).bind fun j => (ds[j]?).map fun d => (d, ds.eraseIdx j) else none
def popAtG (ds es : List D) : Option (D × List D) := match es with
  | [.int i] => popAtI ds i
  | _ => none
theorem Reps.erase {ds : List D} {vs : List V} (h : Reps T P ds vs) (j : Nat) : Reps T P (ds.eraseIdx j) (vs.eraseIdx j) := by
  rw [List.eraseIdx_eq_take_drop_succ, List.eraseIdx_eq_take_drop_succ]
  exact (h.take j).append (h.drop (j + 1))
theorem popAtI_some {ds ds' : List D} {i : Int} {d : D} (h : popAtI ds i = some (d, ds')) : (-(2 ^ 63) ≤ i ∧ i < 2 ^ 63) ∧ ∃ j, ixN ds.length i = some j ∧ ds[j]? = some d ∧ ds' = ds.eraseIdx j := by
  unfold popAtI at h
  by_cases z : -(2 ^ 63) ≤ i ∧ i < 2 ^ 63
  · rw [if_pos z] at h
    refine ⟨z, ?_⟩
    cases q : ixN ds.length i with
    | none => rw [q] at h; cases h
    | some j =>
      rw [q] at h
      have h : (ds[j]?).map (fun d => (d, ds.eraseIdx j)) = some (d, ds') := h
      cases q2 : ds[j]? with
      | none => rw [q2] at h; cases h
      | some d0 => rw [q2] at h; cases h; exact ⟨j, rfl, q2, rfl⟩
  · rw [if_neg z] at h; cases h
theorem md_popAt : MtD T rPopAt popAtG := fun P H a vs ds es xs d ds' Q h1 h2 h3 e k => by
  cases es with
  | nil => cases e
  | cons d0 es =>
    cases es with
    | cons _ _ => cases d0 <;> cases e
    | nil =>
      cases d0 with
      | int i =>
        rw [Reps] at h3
        obtain ⟨v, r, rfl, h4, h5⟩ := h3
        rw [Reps] at h5; subst h5
        rw [Rep] at h4; subst h4
        obtain ⟨z, j, q, q2, rfl⟩ := popAtI_some (show popAtI ds i = some (d, ds') from e)
        obtain ⟨v, hv, rv⟩ := h2.get q2
        exact ⟨a, vs, i, j, v, rfl, rfl, h1, z.1, z.2, by rw [h2.length]; exact (ixN_seq q).1, hv, k _ _ rv (h2.erase j)⟩
      | _ => cases e
/-- xs[i] = e of an own list -/
def setI2 (i : Nat) (d n : D) (e : Env) : SR := match e[i]?, n with
  | some (some (.own ds)), .int j => (match ixN ds.length j with | some q => .nx (e.set i (some (.own (ds.set q d)))) | none => .stk)
  | _, _ => .stk
def setIM (i : Nat) (m mi : M) : MS := fun env => (m env).toS fun d e => match e[i]? with
  | some (some (.own _)) => (mi e).toS fun n e => setI2 i d n e
  | _ => .stk
theorem ds_setI {i : Nat} {x : Str} {ie : Expr} {mi : M} {p tpos : Pos} {ki : Kd} (hv : PE X (.Name x p) (tVar i)) (he : DE T W X e .pure m) (hi : DE T W X ie ki mi)
    (hs : swapsWithSole [.Subscript (.Name x p) ie tpos] e pos.line X.env = pure false := by rfl) (hw : swappedStores [.Subscript (.Name x p) ie tpos] e X.env = pure none := by rfl)
    (h1 : (assignEach [.Subscript (.Name x p) ie tpos] X.env).map (·.2) = [assign (.Subscript (.Name x p) ie tpos) X.env] := by rfl)
    (ha : ∀ v, assign (.Subscript (.Name x p) ie tpos) X.env v = (do let ov ← holding [v] (eval (.Name x p) X.env); let iv ← holding [v, ov] (eval ie X.env); standAt tpos; holding [v, ov, iv] (setItem ov iv v); release [v, ov, iv] []) := by intro _; rfl) :
    DS T W kr pins X (.Assign [.Subscript (.Name x p) ie tpos] e pos) (setIM i m mi) := by
  refine ps_imp (ps_asg he (pg_sub hv hi set_list ha) hs hw h1) fun D σ H h => ?_
  obtain ⟨env, P, RR, h⟩ := h
  refine ⟨env, P, RR, After.mono h.ofR fun d env1 P1 H1 R1 F1 h1 y ky ny => ?_⟩
  cases e0 : env1[i]? with
  | none => rw [e0] at h1; exact False.elim h1
  | some o =>
    cases o with
    | none => rw [e0] at h1; exact False.elim h1
    | some v =>
      cases v with
      | own d0 =>
        rw [e0] at h1
        obtain ⟨u, hu, r0⟩ := R1.ent i _ e0
        obtain ⟨a, vs0, rfl, _, _, _⟩ := r0
        refine ⟨_, hu, env1, P1, R1, After.mono h1.ofR fun n env2 P2 H2 R2 F2 h2 z kz nz => ?_⟩
        have ky' : Rep T P2 d y := Rep.sub F2.mono d y ky
        unfold setI2 at h2
        cases e2 : env2[i]? with
        | none => rw [e2] at h2; exact False.elim h2
        | some o =>
          cases o with
          | none => rw [e2] at h2; exact False.elim h2
          | some v =>
            cases v with
            | own ds =>
              rw [e2] at h2
              cases n with
              | int j =>
                simp only at h2
                obtain ⟨u, hu2, r1⟩ := R2.ent i _ e2
                rw [hu] at hu2; cases hu2
                obtain ⟨a', vs, ea, q1, p1, w1⟩ := r1
                cases ea
                cases e3 : ixN ds.length j with
                | none => rw [e3] at h2; exact False.elim h2
                | some q =>
                  rw [e3] at h2
                  refine ⟨a, vs, j, q, rfl, (kz.rdb R2).intE, q1, by rw [w1.length]; exact e3, ?_⟩
                  obtain ⟨R3, F3⟩ := R2.updO (vs' := vs.set q y) e2 hu (w1.set q ky')
                  exact h2 σ P2 _ R3 F3 FrP.refl
              | _ => exact False.elim h2
            | _ => rw [e2] at h2; exact False.elim h2
      | _ => rw [e0] at h1; exact False.elim h1
/-! ### x += e -/
def augM (i : Nat) (g : D → D → Option D) (m : M) : MS := fun env => match env[i]? with
  | some (some (.v d0)) => (m env).toS fun d e => (match g d0 d with | some r => .nx (e.set i (some (.v r))) | none => .stk)
  | _ => .stk
theorem ds_aug {i : Nat} {x : Str} {op : Operator} {r : R2} {g : D → D → Option D} {pos' : Pos} (hN : X.N.Nodup) (hi : X.N[i]? = some x) (hx : Loc X.env.scope x) (he : DE T W X e k m) (ho : PIp X op r) (hD : OpD T r .pure g) (hp : i ∉ pins := by decide)
    (hf : X.fn x = true ∨ X.env.scope.names.lookup x = some .local := by first | exact .inl rfl | exact .inr rfl | assumption) : DS T W kr pins X (.AugAssign (.Name x pos') op e pos) (augM i g m) := by
  refine ps_imp (ps_aug hN hi hx he ho hf) fun D σ H h => ?_
  obtain ⟨env, P, RR, h⟩ := h
  unfold augM at h
  cases e0 : env[i]? with
  | none => rw [e0] at h; exact False.elim h
  | some o =>
    cases o with
    | none => rw [e0] at h; exact False.elim h
    | some v =>
      cases v with
      | v d0 =>
        rw [e0] at h
        obtain ⟨u, hu, r0⟩ := RR.ent i _ e0
        refine ⟨u, hu, env, P, RR, After.mono (AfterS.ofR h) fun d env1 P1 H1 R1 F1 h1 y ky ny => ?_⟩
        cases e1 : g d0 d with
        | none => rw [e1] at h1; exact False.elim h1
        | some d2 =>
          rw [e1] at h1
          refine hD env1 σ P1 H1 d0 d u y d2 _ R1 (.inl (Rep.sub F1.mono _ _ r0)) (ky.rdb R1) e1 fun z P' H' R' F' kz nz => ?_
          obtain ⟨R2, F2⟩ := R'.setV (i := i) (d := d2) (x := z) kz
          exact h1 _ P' H' R2 (F'.trans F2) (FrP.set hp)
      | _ => rw [e0] at h; exact False.elim h
/-! ### a, b = e1, e2 -/
def parM (i j : Nat) (ma mb : M) : MS := fun env => (ma env).toS fun d1 e1 => (mb e1).toS fun d2 e2 => .nx ((e2.set i (some (.v d1))).set j (some (.v d2)))
theorem ds_par {i j : Nat} {x y : Str} {px py pt : Pos} {kt k2 : Nat} {pt2 : Pos} (hc : X.calm = true) (hN : X.N.Nodup) (hi : X.N[i]? = some x) (hj : X.N[j]? = some y) (hij : i ≠ j)
    (hx : X.env.scope.names.lookup x = some .local) (hy : X.env.scope.names.lookup y = some .local) (ha : DE T W X a .pure ma) (hb : DE T W X b .pure mb) (hpi : i ∉ pins := by decide) (hpj : j ∉ pins := by decide)
    (hw : swappedStores [.Tuple [.Name x px, .Name y py] kt pt] (.Tuple [a, b] k2 pt2) X.env = pure (some [x, y]) := by rfl)
    (hs : swapsWithSole [.Tuple [.Name x px, .Name y py] kt pt] (.Tuple [a, b] k2 pt2) pos.line X.env = pure false := by rfl)
    (h1 : starEach [a, b] X.env = (false, eval a X.env) :: starEach [b] X.env := by rfl) (h2 : starEach [b] X.env = (false, eval b X.env) :: starEach [] X.env := by rfl) :
    DS T W kr pins X (.Assign [.Tuple [.Name x px, .Name y py] kt pt] (.Tuple [a, b] k2 pt2) pos) (parM i j ma mb) := by
  refine ps_imp (ps_par hc hN hi hj hij hx hy (da_cons ha (da_cons hb da_nil trivial h2) trivial h1) hw hs) fun D σ H h => ?_
  obtain ⟨env, P, RR, h⟩ := h
  refine ⟨env, P, RR, ?_⟩
  have e0 : argsM [ma, mb] env = (ma env).bind fun d e1 => (mb e1).bind fun d' e2 => .ok [d, d'] e2 := by
    show ((ma env).bind fun d e1 => ((mb e1).bind fun d' e2 => (argsM [] e2).bind fun ds e3 => .ok (d' :: ds) e3).bind fun ds e2 => .ok (d :: ds) e2) = _
    cases ma env with
    | ok d e1 =>
      show ((mb e1).bind fun d' e2 => .ok [d'] e2).bind (fun ds e2 => .ok (d :: ds) e2) = (mb e1).bind fun d' e2 => .ok [d, d'] e2
      cases mb e1 <;> rfl
    | _ => rfl
  rw [e0]
  have h3 : After T W σ env P H ((ma env).bind fun d e1 => (mb e1).bind fun d' e2 => R.ok [d, d'] e2) (fun ds env' P' H' => ∃ d1 d2, ds = [d1, d2] ∧ AfterS T W kr pins env' σ P' H' (.nx ((env'.set i (some (.v d1))).set j (some (.v d2)))) D) := by
    have h4 := h.ofR
    cases q1 : ma env with
    | ok d1 env1 =>
      unfold parM at h
      rw [q1] at h
      show After T W σ env P H ((mb env1).bind fun d' e2 => R.ok [d1, d'] e2) _
      have h : AfterS T W kr pins env σ P H ((mb env1).toS fun d2 e2 => .nx ((e2.set i (some (.v d1))).set j (some (.v d2)))) D := h
      have h5 := h.ofR
      cases q2 : mb env1 with
      | ok d2 env2 => rw [q2] at h5; exact fun P2 H2 R2 F2 => ⟨d1, d2, rfl, h5 P2 H2 R2 F2⟩
      | exc c fs env2 => rw [q2] at h5; exact h5
      | stk => rw [q2] at h5; exact h5
    | exc c fs env1 => rw [q1] at h4; exact h4
    | stk => rw [q1] at h4; exact h4
  refine After.mono h3 fun ds env1 P1 H1 R1 F1 hq xs kxs => ?_
  obtain ⟨d1, d2, rfl, h6⟩ := hq
  have rs := kxs.pures (pures_cons (pures_cons pures_nil))
  rw [Reps] at rs
  obtain ⟨v, r, rfl, r1, rs⟩ := rs
  rw [Reps] at rs
  obtain ⟨w, r, rfl, r2, rs⟩ := rs
  rw [Reps] at rs; subst rs
  refine ⟨v, w, rfl, ?_⟩
  obtain ⟨R2, F2⟩ := R1.setV (i := i) r1
  obtain ⟨R3, F3⟩ := R2.setV (i := j) r2
  exact h6 _ P1 H1 R3 (F2.trans F3) ((FrP.set hpi).trans (FrP.set hpj))
end
end Ue

set_option linter.all false
set_option Elab.async false
set_option maxRecDepth 100000
set_option maxHeartbeats 4000000
namespace Ue
open PySem L2
/-! ### comprehensions -/
def wipeE : Env → List Nat → Env
  | env, [] => env
  | env, v :: vs => (wipeE env vs).set v none
theorem wipeE_length (env : Env) : ∀ vs, (wipeE env vs).length = env.length
  | [] => rfl
  | v :: vs => by unfold wipeE; rw [List.length_set, wipeE_length env vs]
theorem wipeE_get {env : Env} {i : Nat} {e : EV} : ∀ {vs : List Nat}, (wipeE env vs)[i]? = some (some e) → env[i]? = some (some e) ∧ i ∉ vs
  | [], h => ⟨h, by simp⟩
  | v :: vs, h => by
    unfold wipeE at h
    by_cases q : v = i
    · subst q
      by_cases hv : v < (wipeE env vs).length
      · rw [List.getElem?_set_self hv] at h; cases h
      · rw [List.getElem?_eq_none (by simpa using hv)] at h; cases h
    · rw [List.getElem?_set_ne q] at h
      obtain ⟨h1, h2⟩ := wipeE_get h
      exact ⟨h1, by simp only [List.mem_cons, not_or]; exact ⟨fun z => q z.symm, h2⟩⟩
theorem wipeE_out {env : Env} {i : Nat} : ∀ {vs : List Nat}, i ∉ vs → (wipeE env vs)[i]? = env[i]?
  | [], _ => rfl
  | v :: vs, h => by
    unfold wipeE
    simp only [List.mem_cons, not_or] at h
    rw [List.getElem?_set_ne (fun z => h.1 z.symm), wipeE_out h.2]
theorem wipe_in {σ : L2.St} {i : Nat} : ∀ {vs : List Nat}, i ∈ vs → (wipe σ vs)[i]? = if i < σ.length then some none else none
  | [], h => by cases h
  | v :: vs, h => by
    unfold wipe
    by_cases q : v = i
    · subst q
      by_cases hv : v < σ.length
      · rw [List.getElem?_set_self (by rw [wipe_length]; exact hv), if_pos hv]
      · rw [List.getElem?_eq_none (by simpa [wipe_length] using hv), if_neg hv]
    · rw [List.getElem?_set_ne q]
      rcases List.mem_cons.mp h with e | e
      · exact absurd e.symm q
      · exact wipe_in e
theorem wipe_same {σ σ' : L2.St} {vs sl : List Nat} (h : Out sl σ σ') (hs : ∀ i ∈ sl, i ∈ vs) : wipe σ' vs = wipe σ vs := by
  refine List.ext_getElem? fun i => ?_
  by_cases hi : i ∈ vs
  · rw [wipe_in hi, wipe_in hi, h.1]
  · rw [wipe_out hi, wipe_out hi]
    exact h.2 i fun z => hi (hs i z)
/-- the outer slots again, behind a turn -/
def restE (env env' : Env) (vs : List Nat) : Env := (List.range env.length).map fun i => if i ∈ vs then (env[i]?).getD none else (env'[i]?).getD none
/-- the block's names hold no own list -/
def vsOk (env : Env) (vs : List Nat) : Bool := vs.all fun i => match env[i]? with | some (some e) => !e.isOwn | _ => true
def compL (vs : List Nat) (g : TGM) (tt : MT) (te : M) : List D → Env → R (List D)
  | [], e => .ok [] e
  | d :: ds, e => if vsOk e vs then
      (match g d (wipeE e vs) with
       | none => .stk
       | some e1 => match tt e1 with
         | .ok true e2 => (match te e2 with
           | .ok y e3 => (compL vs g tt te ds (restE e e3 vs)).bind fun ys e' => .ok (y :: ys) e'
           | _ => .stk)
         | .ok false e2 => compL vs g tt te ds (restE e e2 vs)
         | _ => .stk)
    else .stk
def compM (vs : List Nat) (mi : MI) (g : TGM) (tt : MT) (te : M) : M := fun env => (mi env).bind fun ds e => if ds.length ≤ sizeLine then (compL vs g tt te ds e).bind fun ys e' => .ok (.lst ys) e' else .stk
def yesT : MT := fun env => .ok true env
section
variable {T : Tab} {W : WX} {kr : Kd} {pins : List Nat} {env env' : Env} {σ σ' : L2.St} {P H P' H' : Hp} {X : Cx} {pos : Pos} {tg e a b : Expr} {k ka kb : Kd} {m ma mb : M} {vs : List Nat}
theorem wipe_get {i : Nat} {x : V} (h : σ[i]? = some (some x)) (hi : i ∉ vs) : (wipe σ vs)[i]? = some (some x) := by rw [wipe_out hi]; exact h
theorem Rel.wiped (RR : Rel T env σ P H) (hv : vsOk env vs = true) : Rel T (wipeE env vs) (wipe σ vs) P H ∧ (∀ b, Own (wipeE env vs) (wipe σ vs) b ↔ Own env σ b) := by
  have nown : ∀ i e, env[i]? = some (some e) → e.isOwn = true → i ∉ vs := fun i e h o z => by
    have := List.all_eq_true.mp hv i z
    rw [h] at this
    simp [o] at this
  have w1 : ∀ b, Own (wipeE env vs) (wipe σ vs) b → Own env σ b := fun b ⟨i, e, h1, h2, h3⟩ => by
    obtain ⟨g1, g2⟩ := wipeE_get h1
    exact ⟨i, e, g1, h2, (wipe_some h3).1⟩
  have w2 : ∀ b, Own env σ b → Own (wipeE env vs) (wipe σ vs) b := fun b ⟨i, e, h1, h2, h3⟩ => by
    have ni := nown i e h1 h2
    exact ⟨i, e, by rw [wipeE_out ni]; exact h1, h2, wipe_get h3 ni⟩
  refine ⟨⟨RR.sub, fun i e h => ?_, fun i j e f a n h1 h2 o1 o2 s1 s2 => ?_, by rw [wipeE_length, wipe_length]; exact RR.len⟩, fun b => ⟨w1 b, w2 b⟩⟩
  · obtain ⟨g1, g2⟩ := wipeE_get h
    obtain ⟨v, hv, r⟩ := RR.ent i e g1
    exact ⟨v, wipe_get hv g2, r⟩
  · exact RR.dis i j e f a n (wipeE_get h1).1 (wipeE_get h2).1 o1 o2 (wipe_some s1).1 (wipe_some s2).1
theorem restE_get {env env' : Env} {i : Nat} {e : EV} (hl : env'.length = env.length) (h : (restE env env' vs)[i]? = some (some e)) : (i ∈ vs ∧ env[i]? = some (some e)) ∨ (i ∉ vs ∧ env'[i]? = some (some e)) := by
  have hi : i < env.length := by
    rcases Nat.lt_or_ge i env.length with q | q
    · exact q
    · rw [List.getElem?_eq_none (by simpa [restE] using q)] at h; cases h
  have e1 : (restE env env' vs)[i]? = some (if i ∈ vs then (env[i]?).getD none else (env'[i]?).getD none) := by simp [restE, hi]
  rw [e1] at h
  have h := Option.some.inj h
  by_cases z : i ∈ vs
  · rw [if_pos z] at h
    rw [List.getElem?_eq_getElem hi] at h ⊢
    exact .inl ⟨z, congrArg some h⟩
  · rw [if_neg z] at h
    have hi' : i < env'.length := by omega
    rw [List.getElem?_eq_getElem hi'] at h ⊢
    exact .inr ⟨z, congrArg some h⟩
/-- behind a turn: the outer names again -/
theorem Rel.rest {env2 : Env} {σ2 : L2.St} {P2 H2 : Hp} (RR : Rel T env σ P H) (hv : vsOk env vs = true) (R2 : Rel T env2 σ2 P2 H2) (F2 : Fr (wipeE env vs) (wipe σ vs) P H env2 σ2 P2 H2) (hw : wipe σ2 vs = wipe σ vs) :
    Rel T (restE env env2 vs) σ P2 H2 ∧ Fr env σ P H (restE env env2 vs) σ P2 H2 := by
  obtain ⟨R1, o1⟩ := RR.wiped hv
  have hl2 : env2.length = env.length := by
    have h1 := congrArg List.length hw
    rw [wipe_length, wipe_length] at h1
    rw [R2.len, RR.len, h1]
  have hσ : ∀ i, i ∉ vs → σ2[i]? = σ[i]? := fun i hi => by
    have q : (wipe σ2 vs)[i]? = (wipe σ vs)[i]? := by rw [hw]
    rwa [wipe_out hi, wipe_out hi] at q
  have nown : ∀ i e, env[i]? = some (some e) → i ∈ vs → e.isOwn = false := fun i e h z => by
    have := List.all_eq_true.mp hv i z
    rw [h] at this
    simpa using this
  have ob : ∀ b, Own (restE env env2 vs) σ b → Own env2 σ2 b := fun b ⟨i, e, h1, h2, h3⟩ => by
    rcases restE_get hl2 h1 with ⟨z, q⟩ | ⟨z, q⟩
    · rw [nown i e q z] at h2; cases h2
    · exact ⟨i, e, q, h2, by rw [hσ i z]; exact h3⟩
  refine ⟨⟨R2.sub, fun i e h => ?_, fun i j e f a n h1 h2 o1 o2 s1 s2 => ?_, by simp only [restE, List.length_map, List.length_range]; exact RR.len⟩, fun b u h n => ?_, fun b h n z => ?_, F2.mono, fun b h => ?_, F2.there⟩
  · rcases restE_get hl2 h with ⟨z, q⟩ | ⟨z, q⟩
    · obtain ⟨v, hv, r⟩ := RR.ent i e q
      refine ⟨v, hv, r.grow F2.mono fun b u _ _ o _ => ?_⟩
      rw [nown i e q z] at o; cases o
    · obtain ⟨v, hv, r⟩ := R2.ent i e q
      exact ⟨v, by rw [← hσ i z]; exact hv, r⟩
  · rcases restE_get hl2 h1 with ⟨z, q⟩ | ⟨z, q⟩
    · rw [nown i e q z] at o1; cases o1
    · rcases restE_get hl2 h2 with ⟨z', q'⟩ | ⟨z', q'⟩
      · rw [nown j f q' z'] at o2; cases o2
      · exact R2.dis i j e f a n q q' o1 o2 (by rw [hσ i z]; exact s1) (by rw [hσ j z']; exact s2)
  · exact F2.keep b u h fun z => n ((o1 b).mp z)
  · exact F2.own b h (fun z => n ((o1 b).mp z)) (ob b z)
  · rcases F2.new b h with q | q | q
    · exact .inl q
    · exact .inr (.inl q)
    · exact .inr (.inr ((o1 b).mp q))
theorem Rel.poke {L : Addr} {o : HO} (RR : Rel T env σ P H) (hp : P L = none) (no : ¬ Own env σ L) : Rel T env σ P (upd H L o) := by
  refine ⟨fun b u h => ?_, fun i e h => ?_, RR.dis, RR.len⟩
  · rw [upd_ne (ne_of_none h hp)]; exact RR.sub b u h
  · obtain ⟨v, hv, r⟩ := RR.ent i e h
    refine ⟨v, hv, r.grow (PSub.refl _) fun b u h1 h2 h3 h4 => ⟨?_, h2⟩⟩
    have hb : b ≠ L := by rintro rfl; exact no ⟨i, e, h, h3, by rw [hv, h4]⟩
    rw [upd_ne hb]; exact h1
theorem Fr.poke {L : Addr} {o : HO} (F : Fr env σ P H env' σ' P' H') (hL : H L = none) : Fr env σ P H env' σ' P' (upd H' L o) := by
  refine ⟨fun b u h n => ?_, F.own, F.mono, F.new, fun b h => ?_⟩
  · rw [upd_ne (ne_of_none h hL)]; exact F.keep b u h n
  · by_cases hb : b = L
    · subst hb; rw [upd_same]; exact fun z => nomatch z
    · rw [upd_ne hb]; exact F.there b h
/-- the invariant of a comprehension: so many taken, the list so far at L -/
def LcInv (T : Tab) (W : WX) (vs : List Nat) (g : TGM) (tt : MT) (te : M) (σ : L2.St) (ds : List D) (env1 : Env) (P1 H1 : Hp) (L : Addr) (Qf : D → Env → Hp → Hp → Prop) (i : Nat) (H : Hp) : Prop :=
  ∃ (e : Env) (P2 : Hp) (vs2 : List V) (ys : List D), Rel T e σ P2 H ∧ Fr env1 σ P1 H1 e σ P2 H ∧ ¬ Own e σ L ∧ P2 L = none ∧ H L = some (.lst vs2) ∧ Reps T P2 ys vs2 ∧ ys.length ≤ i ∧
    After T W σ env1 P1 H1 ((compL vs g tt te (ds.drop i) e).bind fun zs e' => .ok (.lst (ys ++ zs)) e') Qf
theorem rd_lc {mi : MI} {g : TGM} {tt : MT} {te : M} {sl : List Nat} (hsl : ∀ i ∈ sl, i ∈ vs) {Q : VK} (h : rdE T W .fresh (compM vs mi g tt te) σ H Q) :
    tLc (rdI T W mi) (rdG T sl g) (rdT T (fun _ _ _ _ => False) tt) (rdE T (fun _ _ _ _ => False) .pure te) vs σ H Q := by
  obtain ⟨env, P, RR, h⟩ := h
  refine ⟨env, P, RR, After.mono h.bind fun ds env1 P1 H1 R1 F1 h1 J hJ => ?_⟩
  intro L hL
  by_cases hz : ¬ ds.length ≤ sizeLine
  · rw [if_neg hz] at h1; exact False.elim h1
  have hz : ds.length ≤ sizeLine := Classical.not_not.mp hz
  rw [if_pos hz] at h1
  have hLH : H L = none := Classical.byContradiction fun z => F1.there L z hL
  refine ⟨fun i m H2 => m = ds.length - i ∧ LcInv T W vs g tt te σ ds env1 P1 H1 L (fun d env' P' H' => ∀ x, KRep T .fresh env' σ P' H' d x → NewV .fresh H x → Q x H') i H2, ?_, ?_⟩
  · obtain ⟨R2, F2, no, pn⟩ := R1.newF (o := .lst []) hL
    exact ⟨ds.length, by simp, env1, P1, [], [], R2, F2, no, pn, upd_same, Reps.nil, Nat.zero_le _, h1⟩
  · rintro i m H3 ⟨rfl, e, P3, vs3, ys, R3, F3, nownL, pL, hD, rys, hy, h3⟩
    obtain ⟨j1, j2⟩ := hJ P3 H3 F3.mono R3.sub
    cases c : ds[i]? with
    | none =>
      have hi : ds.length ≤ i := List.getElem?_eq_none_iff.mp c
      rw [List.drop_eq_nil_of_le hi] at h3
      refine .inl ⟨j2 i hi, ?_⟩
      have h3 : After T W σ env1 P1 H1 (R.ok (D.lst (ys ++ [])) e) _ := h3
      rw [List.append_nil] at h3
      exact h3 P3 H3 R3 F3 _ ⟨L, vs3, ys, rfl, hD, pL, nownL, rys, rfl⟩ ⟨L, rfl, hLH⟩
    | some d =>
      have hi : i < ds.length := by
        rcases Nat.lt_or_ge i ds.length with q | q
        · exact q
        · rw [List.getElem?_eq_none q] at c; cases c
      have ed : ds.drop i = d :: ds.drop (i + 1) := by
        rw [List.drop_eq_getElem_cons hi]
        rw [List.getElem?_eq_getElem hi] at c
        rw [Option.some.inj c]
      rw [ed] at h3
      unfold compL at h3
      by_cases hv : ¬ vsOk e vs = true
      · rw [if_neg hv] at h3; exact False.elim h3
      have hv : vsOk e vs = true := Classical.not_not.mp hv
      rw [if_pos hv] at h3
      obtain ⟨j3, j4⟩ := j1 i d c
      refine .inr ⟨j3, LcInv T W vs g tt te σ ds env1 P1 H1 L (fun d env' P' H' => ∀ x, KRep T .fresh env' σ P' H' d x → NewV .fresh H x → Q x H') (i + 1), fun H' q => ⟨ds.length - (i + 1), by omega, rfl, q⟩, fun x H' y => ?_⟩
      obtain ⟨P4, r4, g4⟩ := j4 x H' y
      obtain ⟨R4, F4⟩ := R3.grow1 g4
      obtain ⟨R5, o5⟩ := R4.wiped hv
      cases c2 : g d (wipeE e vs) with
      | none => rw [c2] at h3; exact False.elim h3
      | some e6 =>
        rw [c2] at h3
        refine ⟨wipeE e vs, P4, d, R5, r4, e6, c2, fun σ6 R6 F6 p6 => ?_⟩
        have hw0 : wipe σ6 vs = wipe (wipe σ vs) vs := wipe_same p6 hsl
        have hww : wipe (wipe σ vs) vs = wipe σ vs := by
          refine List.ext_getElem? fun j => ?_
          by_cases hj : j ∈ vs
          · rw [wipe_in hj, wipe_in hj, wipe_length]
          · rw [wipe_out hj]
        have hw : wipe σ6 vs = wipe σ vs := hw0.trans hww
        refine ⟨hw, e6, P4, R6, ?_⟩
        cases c3 : tt e6 with
        | exc _ _ _ => simp only [c3] at h3; exact False.elim h3
        | stk => simp only [c3] at h3; exact False.elim h3
        | ok b e7 =>
          intro P7 H7 R7 F7
          cases b with
          | false =>
            simp only [c3] at h3
            refine iteF ?_
            obtain ⟨R8, F8⟩ := R4.rest hv R7 (F6.trans F7) hw
            have FF := F4.trans F8
            have hD8 : H7 L = some (.lst vs3) := FF.keep L _ hD nownL
            have n8 : ¬ Own (restE e e7 vs) σ L := FF.own L (by rw [hD]; exact fun z => nomatch z) nownL
            have p8 : P7 L = none := by
              refine Classical.byContradiction fun z => ?_
              rcases FF.new L z with q | q | q
              · exact q pL
              · rw [hD] at q; cases q
              · exact nownL q
            exact ⟨restE e e7 vs, P7, vs3, ys, R8, F3.trans FF, n8, p8, hD8, Reps.sub FF.mono _ _ rys, Nat.le_succ_of_le hy, h3⟩
          | true =>
            simp only [c3] at h3
            refine iteT ⟨e7, P7, R7, ?_⟩
            cases c4 : te e7 with
            | exc _ _ _ => simp only [c4] at h3; exact False.elim h3
            | stk => simp only [c4] at h3; exact False.elim h3
            | ok z e8 =>
              simp only [c4] at h3
              intro P9 H9 R9 F9 v kv nv
              have kv : Rep T P9 z v := kv
              obtain ⟨R8, F8⟩ := R4.rest hv R9 (F6.trans (F7.trans F9)) hw
              have FF := F4.trans F8
              have hD8 : H9 L = some (.lst vs3) := FF.keep L _ hD nownL
              have n8 : ¬ Own (restE e e8 vs) σ L := FF.own L (by rw [hD]; exact fun z => nomatch z) nownL
              have p8 : P9 L = none := by
                refine Classical.byContradiction fun z => ?_
                rcases FF.new L z with q | q | q
                · exact q pL
                · rw [hD] at q; cases q
                · exact nownL q
              have rys9 := Reps.sub FF.mono _ _ rys
              refine ⟨vs3, hD8, by rw [rys.length]; omega, restE e e8 vs, P9, vs3 ++ [v], ys ++ [z], R8.poke p8 n8, (F3.trans FF).poke hL, n8, p8, upd_same, rys9.append (Reps.cons kv Reps.nil), by simp; omega, ?_⟩
              have ea : ((compL vs g tt te (List.drop (i + 1) ds) (restE e e8 vs)).bind fun ys_1 e' => (R.ok (z :: ys_1) e' : Ue.R (List D))).bind (fun zs e' => (R.ok (D.lst (ys ++ zs)) e' : Ue.R D)) = (compL vs g tt te (List.drop (i + 1) ds) (restE e e8 vs)).bind fun zs e' => R.ok (D.lst (ys ++ [z] ++ zs)) e' := by
                cases compL vs g tt te (List.drop (i + 1) ds) (restE e e8 vs) with
                | ok zs e' => show R.ok (D.lst (ys ++ (z :: zs))) e' = R.ok (D.lst (ys ++ [z] ++ zs)) e'; rw [List.append_assoc]; rfl
                | _ => rfl
              rw [ea] at h3
              exact h3
/-- [elt for tg in iter if t] -/
def DTs (T : Tab) (W : WX) (X : Cx) (ifs : List Expr) (m : MT) : Prop := PTs X ifs (rdT T W m)
theorem dts_nil : DTs T W X [] yesT := ⟨fun pins s σ H Q I h => pts_nil.run pins s σ H Q I (by
  obtain ⟨env, P, RR, h⟩ := h
  exact h.here RR (Fr.refl _ _ _ _))⟩
theorem dts_one {c : Expr} {t : MT} (h : DT T W X c t) : DTs T W X [c] t := pts_one h
abbrev W0 : WX := fun _ _ _ _ => False
theorem de_lc {elt iter : Expr} {ifs : List Expr} {scope : Scope} {own : List (Str × Nat)} {mi : MI} {g : TGM} {tt : MT} {te : M} {sl : List Nat} (hc : X.calm = true) (hN : X.N.Nodup) (hi : DI T W X tg iter mi) (ok : BlkOk X.N X.env.scope scope own)
    (hg : ∀ (s : Shared) (H : Hp) (C : Addr) (cl : List (Str × Addr)) (fp : List Addr), DG T sl (X.blk s H scope (compEnvC scope cl C X.env) fp) tg g)
    (ht : ∀ (s : Shared) (H : Hp) (C : Addr) (cl : List (Str × Addr)) (fp : List Addr), DTs T W0 (X.blk s H scope (compEnvC scope cl C X.env) fp) ifs tt)
    (he : ∀ (s : Shared) (H : Hp) (C : Addr) (cl : List (Str × Addr)) (fp : List Addr), DE T W0 (X.blk s H scope (compEnvC scope cl C X.env) fp) elt .pure te)
    (hsl : ∀ i ∈ sl, i ∈ own.map (·.2) := by decide) (hs : ∀ x, foldedSetIterable iter X.env x = pure x := by intro _; rfl) : DE T W X (.ListComp elt [⟨tg, iter, ifs, 0⟩] scope pos) .fresh (compM (own.map (·.2)) mi g tt te) :=
  pe_imp (pe_lc hc hN hi ok hg ht he hs) fun _ _ _ h => rd_lc hsl h
section
variable {i : Nat} {y : Str} {py spos : Pos} {elt iter : Expr} {ifs : List Expr} {scope : Scope} {own : List (Str × Nat)} {mi : MI} {g : TGM} {tt : MT} {te : M} {sl : List Nat}
theorem ds_setLcO (hc : X.calm = true) (hN : X.N.Nodup) (hy : X.N[i]? = some y) (hyl : X.env.scope.names.lookup y = some .local)
    (hsw : swapsWith (.ListComp elt [⟨tg, iter, ifs, 0⟩] scope pos) (some (.Name y py)) spos.line X.env = pure true) (hi : DI T W X tg iter mi) (ok : BlkOk X.N X.env.scope scope own)
    (hg : ∀ (s : Shared) (H : Hp) (C : Addr) (cl : List (Str × Addr)) (fp : List Addr), DG T sl (X.blk s H scope (compEnvC scope cl C X.env) fp) tg g)
    (ht : ∀ (s : Shared) (H : Hp) (C : Addr) (cl : List (Str × Addr)) (fp : List Addr), DTs T W0 (X.blk s H scope (compEnvC scope cl C X.env) fp) ifs tt)
    (he : ∀ (s : Shared) (H : Hp) (C : Addr) (cl : List (Str × Addr)) (fp : List Addr), DE T W0 (X.blk s H scope (compEnvC scope cl C X.env) fp) elt .pure te)
    (hp : i ∉ pins := by decide) (hsl : ∀ i ∈ sl, i ∈ own.map (·.2) := by decide) (hs : ∀ x, foldedSetIterable iter X.env x = pure x := by intro _; rfl) :
    DS T W kr pins X (.Assign [.Name y py] (.ListComp elt [⟨tg, iter, ifs, 0⟩] scope pos) spos) (setOM i (compM (own.map (·.2)) mi g tt te)) :=
  ps_imp (ps_setLc hc hN hy hyl hsw hi ok hg ht he hs) fun D σ H h => rd_lc hsl (rd_setO hp h)
/-- .. that stays -/
theorem ds_setLc (hc : X.calm = true) (hN : X.N.Nodup) (hy : X.N[i]? = some y) (hyl : X.env.scope.names.lookup y = some .local)
    (hsw : swapsWith (.ListComp elt [⟨tg, iter, ifs, 0⟩] scope pos) (some (.Name y py)) spos.line X.env = pure true) (hi : DI T W X tg iter mi) (ok : BlkOk X.N X.env.scope scope own)
    (hg : ∀ (s : Shared) (H : Hp) (C : Addr) (cl : List (Str × Addr)) (fp : List Addr), DG T sl (X.blk s H scope (compEnvC scope cl C X.env) fp) tg g)
    (ht : ∀ (s : Shared) (H : Hp) (C : Addr) (cl : List (Str × Addr)) (fp : List Addr), DTs T W0 (X.blk s H scope (compEnvC scope cl C X.env) fp) ifs tt)
    (he : ∀ (s : Shared) (H : Hp) (C : Addr) (cl : List (Str × Addr)) (fp : List Addr), DE T W0 (X.blk s H scope (compEnvC scope cl C X.env) fp) elt .pure te)
    (hp : i ∉ pins := by decide) (hsl : ∀ i ∈ sl, i ∈ own.map (·.2) := by decide) (hs : ∀ x, foldedSetIterable iter X.env x = pure x := by intro _; rfl) :
    DS T W kr pins X (.Assign [.Name y py] (.ListComp elt [⟨tg, iter, ifs, 0⟩] scope pos) spos) (setM i (compM (own.map (·.2)) mi g tt te)) :=
  ps_imp (ps_setLc hc hN hy hyl hsw hi ok hg ht he hs) fun D σ H h => rd_lc hsl (rd_frz (rd_set hp h))
end
end
/-! ### without a caught error -/
def Tab.nb (T : Tab) : Tab := { T with cur := none }
mutual
theorem rep_nb {T : Tab} {P : Hp} : ∀ (d : D) (v : V), Rep T.nb P d v = Rep T P d v
  | .non, v => by rw [Rep, Rep]
  | .bl _, v => by rw [Rep, Rep]
  | .int _, v => by rw [Rep, Rep]
  | .str _, v => by rw [Rep, Rep]
  | .scr _, v => by rw [Rep, Rep]; rfl
  | .tup ds, v => by rw [Rep, Rep]; simp only [reps_nb ds]; rfl
  | .lst ds, v => by rw [Rep, Rep]; simp only [reps_nb ds]
  | .obj c ds, v => by rw [Rep, Rep]; simp only [reps_nb ds]; rfl
theorem reps_nb {T : Tab} {P : Hp} : ∀ (ds : List D) (vs : List V), Reps T.nb P ds vs = Reps T P ds vs
  | [], vs => by rw [Reps, Reps]
  | d :: ds, vs => by rw [Reps, Reps]; simp only [rep_nb d, reps_nb ds]
end
theorem Rel.nb {T : Tab} {env : Env} {σ : L2.St} {P H : Hp} (h : Rel T env σ P H) : Rel T.nb env σ P H := by
  refine ⟨h.sub, fun i e q => ?_, h.dis, h.len⟩
  obtain ⟨v, hv, r⟩ := h.ent i e q
  refine ⟨v, hv, ?_⟩
  cases e with
  | v d => exact (rep_nb d v).mpr r
  | own ds =>
    obtain ⟨a, vs, q1, q2, q3, q4⟩ := r
    exact ⟨a, vs, q1, q2, q3, (reps_nb _ _).mpr q4⟩
  | new c fs =>
    obtain ⟨a, d, vs, q1, q2, q3, q4, q5⟩ := r
    exact ⟨a, d, vs, q1, q2, q3, q4, (reps_nb _ _).mpr q5⟩
  | ex c fs => exact fun a d cls hc => nomatch hc
theorem EnvRep.bn {T : Tab} {P H : Hp} {e : EV} {x : V} (h : EnvRep T.nb P H e x) (ho : ∀ c fs, e ≠ .ex c fs) : EnvRep T P H e x := by
  cases e with
  | v d => exact (rep_nb d x).mp h
  | own ds =>
    obtain ⟨a, vs, q1, q2, q3, q4⟩ := h
    exact ⟨a, vs, q1, q2, q3, (reps_nb _ _).mp q4⟩
  | new c fs =>
    obtain ⟨a, d, vs, q1, q2, q3, q4, q5⟩ := h
    exact ⟨a, d, vs, q1, q2, q3, q4, (reps_nb _ _).mp q5⟩
  | ex c fs => exact absurd rfl (ho c fs)
theorem KRep.bn {T : Tab} {k : Kd} {env : Env} {σ : L2.St} {P H : Hp} {d : D} {x : V} (h : KRep T.nb k env σ P H d x) : KRep T k env σ P H d x := by
  cases k with
  | pure => exact (rep_nb d x).mp h
  | fresh => obtain ⟨a, vs, ds, q1, q2, q3, q4, q5, q6⟩ := h; exact ⟨a, vs, ds, q1, q2, q3, q4, (reps_nb _ _).mp q5, q6⟩
  | own i => exact h
theorem ExRep.bn {T : Tab} {P : Hp} {c : Nat} {fs : List D} {cls : Value} {dd : Option Addr} (h : ExRep T.nb P c fs cls dd) : ExRep T P c fs cls dd := by
  obtain ⟨q1, q2⟩ := h
  refine ⟨q1, ?_⟩
  rcases q2 with q2 | ⟨dx, xfs, vs, w1, w2, w3, w4⟩
  · exact .inl q2
  · exact .inr ⟨dx, xfs, vs, w1, w2, w3, (reps_nb _ _).mp w4⟩
end Ue

set_option linter.all false
set_option Elab.async false
set_option maxRecDepth 100000
set_option maxHeartbeats 4000000
namespace Ue
open PySem PySem.Spec PyProof.Rows L2
/-! ### defs -/
inductive CRes where
  | ok (d : D) (as : List EV) | exc (c : Nat) (fs : List D) (as : List EV) | stk
abbrev FM := List EV → CRes
def spF (T : Tab) (kr : Kd) (n : Nat) (F : FM) : Sp := fun vs H Q E => ∃ (as : List EV) (P : Hp), Rel T.nb (as.map some) (vs.map some) P H ∧ vs.length = n ∧
  match F as with
  | .ok d as' => ∀ P' H' x, Rel T.nb (as'.map some) (vs.map some) P' H' → Fr (as.map some) (vs.map some) P H (as'.map some) (vs.map some) P' H' → KRep T.nb kr (as'.map some) (vs.map some) P' H' d x → NewV kr H x → Q x H'
  | .exc c fs as' => ∀ P' H' cls dd, Rel T.nb (as'.map some) (vs.map some) P' H' → Fr (as.map some) (vs.map some) P H (as'.map some) (vs.map some) P' H' → ExRep T.nb P' c fs cls dd → E cls dd H'
  | .stk => False
/-- the parameters behind the body: the own lists as they stand then -/
def finA (pins : List Nat) : Nat → List EV → Env → Option (List EV)
  | _, [], _ => some []
  | i, .own _ :: as, e => (if i ∈ pins then (match e[i]? with | some (some (.own ds)) => (finA pins (i + 1) as e).map (.own ds :: ·) | _ => none) else none)
  | i, .new _ _ :: as, e => (if i ∈ pins then (match e[i]? with | some (some (.new c fs)) => (finA pins (i + 1) as e).map (.new c fs :: ·) | _ => none) else none)
  | i, .v d :: as, e => (finA pins (i + 1) as e).map (.v d :: ·)
  | i, .ex c fs :: as, e => (finA pins (i + 1) as e).map (.ex c fs :: ·)
def envOf (n : Nat) (as : List EV) : Env := as.map some ++ List.replicate (n - as.length) none
def kdOf (fr : Bool) : Kd := if fr then .fresh else .pure
def endF (fr : Bool) (pins : List Nat) (as : List EV) (r : SR) : CRes :=
  match r with
  | .nx e => if fr then .stk else (match finA pins 0 as e with | some as' => .ok .non as' | none => .stk)
  | .ret d e => (match finA pins 0 as e with | some as' => .ok d as' | none => .stk)
  | .exc c fs e => (match finA pins 0 as e with | some as' => .exc c fs as' | none => .stk)
  | _ => .stk
def runF (fr : Bool) (n : Nat) (pins : List Nat) (body : MS) : FM := fun as => endF fr pins as (body (envOf n as))
section
variable {T : Tab} {pins : List Nat} {env env' : Env} {σ σ' : L2.St} {P H P' H' : Hp} {as as' : List EV} {vs : List V} {N : List Str}
theorem start_get {i : Nat} {x : V} (h : (L2.start N vs)[i]? = some (some x)) : (vs.map some)[i]? = some (some x) := by
  unfold L2.start at h
  by_cases hi : i < vs.length
  · rw [List.getElem?_append_left (by simpa using hi)] at h; exact h
  · rw [List.getElem?_append_right (by simpa using hi), List.getElem?_replicate] at h
    split at h <;> cases h
theorem start_lt {i : Nat} (hi : i < vs.length) : (L2.start N vs)[i]? = (vs.map some)[i]? := by
  unfold L2.start; rw [List.getElem?_append_left (by simpa using hi)]
theorem envOf_get {n i : Nat} {e : EV} (h : (envOf n as)[i]? = some (some e)) : (as.map some)[i]? = some (some e) ∧ i < as.length := by
  unfold envOf at h
  by_cases hi : i < as.length
  · rw [List.getElem?_append_left (by simpa using hi)] at h; exact ⟨h, hi⟩
  · rw [List.getElem?_append_right (by simpa using hi), List.getElem?_replicate] at h
    split at h <;> cases h
theorem envOf_lt {n i : Nat} (hi : i < as.length) : (envOf n as)[i]? = (as.map some)[i]? := by
  unfold envOf; rw [List.getElem?_append_left (by simpa using hi)]
theorem Rel.pad (R1 : Rel T (as.map some) (vs.map some) P H) (hn : as.length ≤ N.length) : Rel T (envOf N.length as) (L2.start N vs) P H ∧ ∀ b, Own (envOf N.length as) (L2.start N vs) b ↔ Own (as.map some) (vs.map some) b := by
  have hl : as.length = vs.length := by simpa using R1.len
  refine ⟨⟨R1.sub, fun i e h => ?_, fun i j e f a n h1 h2 o1 o2 s1 s2 => ?_, ?_⟩, fun b => ⟨fun ⟨i, e, h1, h2, h3⟩ => ⟨i, e, (envOf_get h1).1, h2, start_get h3⟩, fun ⟨i, e, h1, h2, h3⟩ => ?_⟩⟩
  · obtain ⟨h1, h2⟩ := envOf_get h
    obtain ⟨v, hv, r⟩ := R1.ent i e h1
    exact ⟨v, by rw [start_lt (by omega)]; exact hv, r⟩
  · exact R1.dis i j e f a n (envOf_get h1).1 (envOf_get h2).1 o1 o2 (start_get s1) (start_get s2)
  · unfold envOf L2.start; simp [hl]
  · have hi : i < as.length := by
      rcases Nat.lt_or_ge i as.length with q | q
      · exact q
      · rw [List.getElem?_eq_none (by simpa using q)] at h1; cases h1
    exact ⟨i, e, by rw [envOf_lt hi]; exact h1, h2, by rw [start_lt (by omega)]; exact h3⟩
theorem finA_cons {f : EV} {as as' : List EV} {j : Nat} {e : Env} (h : finA pins j (f :: as) e = some as') : ∃ g as2, as' = g :: as2 ∧ finA pins (j + 1) as e = some as2 ∧
    ((g = f ∧ f.isOwn = false) ∨ (f.isOwn = true ∧ g.isOwn = true ∧ j ∈ pins ∧ e[j]? = some (some g))) := by
  have pl : ∀ g : EV, g = f → f.isOwn = false → (finA pins (j + 1) as e).map (g :: ·) = some as' → ∃ g as2, as' = g :: as2 ∧ finA pins (j + 1) as e = some as2 ∧ ((g = f ∧ f.isOwn = false) ∨ (f.isOwn = true ∧ g.isOwn = true ∧ j ∈ pins ∧ e[j]? = some (some g))) := fun g hg ho h => by
    cases q : finA pins (j + 1) as e with
    | none => rw [q] at h; cases h
    | some as2 => rw [q] at h; cases h; exact ⟨g, as2, rfl, rfl, .inl ⟨hg, ho⟩⟩
  have ow : ∀ g : EV, f.isOwn = true → g.isOwn = true → j ∈ pins → e[j]? = some (some g) → (finA pins (j + 1) as e).map (g :: ·) = some as' → ∃ g as2, as' = g :: as2 ∧ finA pins (j + 1) as e = some as2 ∧ ((g = f ∧ f.isOwn = false) ∨ (f.isOwn = true ∧ g.isOwn = true ∧ j ∈ pins ∧ e[j]? = some (some g))) := fun g hf hg hp he h => by
    cases q : finA pins (j + 1) as e with
    | none => rw [q] at h; cases h
    | some as2 => rw [q] at h; cases h; exact ⟨g, as2, rfl, rfl, .inr ⟨hf, hg, hp, he⟩⟩
  cases f with
  | v d => exact pl _ rfl rfl h
  | ex c fs => exact pl _ rfl rfl h
  | own d0 =>
    unfold finA at h
    by_cases hp : j ∈ pins
    · rw [if_pos hp] at h
      cases q : e[j]? with
      | none => rw [q] at h; cases h
      | some o =>
        cases o with
        | none => rw [q] at h; cases h
        | some v =>
          cases v with
          | own ds => rw [q] at h; exact q ▸ ow (.own ds) rfl rfl hp q h
          | _ => rw [q] at h; cases h
    · rw [if_neg hp] at h; cases h
  | new c0 d0 =>
    unfold finA at h
    by_cases hp : j ∈ pins
    · rw [if_pos hp] at h
      cases q : e[j]? with
      | none => rw [q] at h; cases h
      | some o =>
        cases o with
        | none => rw [q] at h; cases h
        | some v =>
          cases v with
          | new c ds => rw [q] at h; exact q ▸ ow (.new c ds) rfl rfl hp q h
          | _ => rw [q] at h; cases h
    · rw [if_neg hp] at h; cases h
theorem finA_get : ∀ {as as' : List EV} {j : Nat} {e : Env}, finA pins j as e = some as' → as'.length = as.length ∧ ∀ i f, as'[i]? = some f → (f.isOwn = false ∧ as[i]? = some f) ∨ (f.isOwn = true ∧ ∃ f0, f0.isOwn = true ∧ as[i]? = some f0 ∧ j + i ∈ pins ∧ e[j + i]? = some (some f))
  | [], as', j, e, h => by cases h; exact ⟨rfl, fun i f h => by simp at h⟩
  | f0 :: as, as', j, e, h => by
    obtain ⟨g, as2, rfl, h2, hg⟩ := finA_cons h
    obtain ⟨l, k⟩ := finA_get h2
    refine ⟨by simp [l], fun i f hf => ?_⟩
    cases i with
    | zero =>
      simp at hf; subst hf
      rcases hg with ⟨rfl, ho⟩ | ⟨h3, h4, h5, h6⟩
      · exact .inl ⟨ho, rfl⟩
      · exact .inr ⟨h4, f0, h3, rfl, h5, h6⟩
    | succ i =>
      simp only [List.getElem?_cons_succ] at hf ⊢
      have := k i f hf
      rwa [show j + 1 + i = j + (i + 1) by omega] at this
/-- behind the body: the caller's view -/
theorem Rel.out (R1 : Rel T (as.map some) (vs.map some) P H) (hn : as.length ≤ N.length) (hf : finA pins 0 as env' = some as') (R2 : Rel T env' σ' P' H') (F2 : Fr (envOf N.length as) (L2.start N vs) P H env' σ' P' H') (hp : FrP pins (L2.start N vs) σ') :
    Rel T (as'.map some) (vs.map some) P' H' ∧ Fr (as.map some) (vs.map some) P H (as'.map some) (vs.map some) P' H' ∧ ∀ b, Own (as'.map some) (vs.map some) b → Own env' σ' b := by
  obtain ⟨hl, hk⟩ := finA_get hf
  have hlv : as.length = vs.length := by simpa using R1.len
  obtain ⟨_, o1⟩ := R1.pad hn
  have get : ∀ i e, (as'.map some)[i]? = some (some e) → as'[i]? = some e := fun i e h => by
    rw [List.getElem?_map] at h
    cases q : as'[i]? with
    | none => rw [q] at h; cases h
    | some f => rw [q] at h; cases h; rfl
  have σeq : ∀ i, i ∈ pins → i < vs.length → σ'[i]? = (vs.map some)[i]? := fun i hi hv => by rw [hp i hi, start_lt hv]
  have lt : ∀ i e, as'[i]? = some e → i < vs.length := fun i e h => by
    rcases Nat.lt_or_ge i as'.length with q | q
    · omega
    · rw [List.getElem?_eq_none q] at h; cases h
  have ow : ∀ b, Own (as'.map some) (vs.map some) b → Own env' σ' b ∧ Own (as.map some) (vs.map some) b := fun b ⟨i, e, h1, h2, h3⟩ => by
    have h1 := get i e h1
    rcases hk i e h1 with ⟨o, _⟩ | ⟨o, f0, o0, q1, q2, q3⟩
    · rw [h2] at o; cases o
    · rw [Nat.zero_add] at q2 q3
      exact ⟨⟨i, _, q3, h2, by rw [σeq i q2 (lt i _ h1)]; exact h3⟩, i, f0, by rw [List.getElem?_map, q1]; rfl, o0, h3⟩
  refine ⟨⟨R2.sub, fun i e h => ?_, fun i j e f a n h1 h2 o1 o2 s1 s2 => ?_, by simp [hl, hlv]⟩, ⟨fun b u h n => ?_, fun b h n z => ?_, F2.mono, fun b h => ?_, F2.there⟩, fun b z => (ow b z).1⟩
  · have h := get i e h
    have hi := lt i e h
    rcases hk i e h with ⟨o, q⟩ | ⟨o, f0, o0, q1, q2, q3⟩
    · obtain ⟨v, hv, r⟩ := R1.ent i e (by rw [List.getElem?_map, q]; rfl)
      cases e with
      | v d => exact ⟨v, hv, Rep.sub F2.mono _ _ r⟩
      | ex c fs =>
        refine ⟨v, hv, fun a d cls hc => ?_⟩
        obtain ⟨q1, q2⟩ := r a d cls hc
        exact ⟨q1, q2.sub F2.mono⟩
      | own ds => cases o
      | new c fs => cases o
    · rw [Nat.zero_add] at q2 q3
      obtain ⟨v, hv, r⟩ := R2.ent i _ q3
      exact ⟨v, by rw [← σeq i q2 hi]; exact hv, r⟩
  · have h1 := get i e h1
    have h2 := get j f h2
    rcases hk i e h1 with ⟨o, _⟩ | ⟨o, f0, o0, q1, q2, q3⟩
    · rw [o1] at o; cases o
    · rcases hk j f h2 with ⟨o, _⟩ | ⟨o', f0', o0', w1, w2, w3⟩
      · rw [o2] at o; cases o
      · rw [Nat.zero_add] at q2 q3 w2 w3
        exact R2.dis i j _ _ a n q3 w3 o1 o2 (by rw [σeq i q2 (lt i _ h1)]; exact s1) (by rw [σeq j w2 (lt j _ h2)]; exact s2)
  · exact F2.keep b u h fun z => n ((o1 b).mp z)
  · exact F2.own b h (fun q => n ((o1 b).mp q)) (ow b z).1
  · rcases F2.new b h with q | q | q
    · exact .inl q
    · exact .inr (.inl q)
    · exact .inr (.inr ((o1 b).mp q))
/-! ### a def's promise where no repr is under way -/
structure FnG (P : Program) (w : World) (K : PySem.W.Frag) (mg : Str → Option Value) (base : Heap) (Z : CXT) (k : Nat) (f : Addr) (fd : FuncData) (ps : List Str) (sp : Sp) : Prop where
  len : ∀ vs H Q E, sp vs H Q E → vs.length = ps.length
  go : ∀ (B : Around) (o : List PySem.Env) (t : Shared) (H : Hp) (ar : Args) (us : List Value) (vs : List V) (Q : VK) (E : XK), B.guards = some [] → Room k B → Env0 P w K mg base B o t H → BindsTo t fd ar (ps.zip us) → Vals vs us → sp vs H Q E →
    codeAny (model P w) B (.call (.ref f) ar) (CR Z o P w H t Q E) t
section
variable {P : Program} {w : World} {K : PySem.W.Frag} {mg : Str → Option Value} {base : Heap} {Z : CXT} {j k : Nat} {f : Addr} {fd : FuncData} {ps N : List Str} {sp : Sp}
theorem FnG.mono (F : FnG P w K mg base Z j f fd ps sp) (h : j ≤ k) : FnG P w K mg base Z k f fd ps sp := ⟨F.len, fun B o t H ar us vs Q E g r => F.go B o t H ar us vs Q E g (r.mono h)⟩
theorem FnG.of (F : FnOk P w K mg base Z k f fd ps sp) : FnG P w K mg base Z k f fd ps sp := ⟨F.len, fun B o t H ar us vs Q E _ => F.run B o t H ar us vs Q E⟩
theorem deeper_guards {A : Around} {e : PySem.Env} : (A.deeper e).guards = A.guards := by first | rfl | simp [Around.deeper]
theorem make_guards {A : Around} {C : Addr} {us : List Value} {kw : List (Str × Value)} : (A.under (.builtin "type.__call__" ⟨.ref C :: us, kw⟩)).guards = A.guards := by
  first | rfl | simp [Around.under, Code.guards, Code.isGuard, guardIds, pushGuards]
theorem funG {x qual : Str} {params : Arguments} {body : List Stmt} {scope : Scope} {dvs : List V} {kws : List (Str × V)} (F : FunD K x qual params body scope dvs kws f fd) (S : FnScope N ps scope) (len : ∀ vs H Q E, sp vs H Q E → vs.length = ps.length)
    (hb : ∀ (cdv : Value) (B : Around) (o : List PySem.Env) (t : Shared) (H : Hp) (vs : List V) (Q : VK) (E : XK), B.guards = some [] → Room k (B.deeper (PyProof.Rows.envOfC qual scope t.heap.objs.size f cdv)) → sp vs H Q E →
      ∃ u, PSs (cxOf Z P w K mg base N qual scope f cdv B o t H E) body u ∧ u { nx := fun _ J => Q .non J, rt := Q } (L2.start N vs) H) : FnG P w K mg base Z (k + 1) f fd ps sp := by
  obtain ⟨oc, od, dV, kV, doc, pm, an, cdv, ct, osl, rfl, at_, code, _, _⟩ := F.ex
  refine ⟨len, fun B o t H ar us vs Q E g room e0 bnd rel hsp => ?_⟩
  have lenV := len vs H Q E hsp
  have up : ∀ b u, base.get? b = some u → t.heap.get? b = some u := fun b u e => (e0.bs b u e).1
  have there := (e0.mod.kin.keeps up) _ _ at_
  have par : ∀ q ∈ ps.zip us, scope.names.lookup q.1 = some .local ∨ (scope.names.lookup q.1 = some .cell ∧ ((cellsFrom (t.heap.objs.size + 1) scope.names []).lookup q.1).isSome = true) := fun q hq =>
    (S.par q.1 (List.of_mem_zip (a := q.1) (b := q.2) hq).1).imp_right fun z => ⟨z, PySem.W.cellsFrom_some _ _ _ (.inl z)⟩
  refine codeAny_call_function room.depth there rfl S.co S.gen rfl (PySem.W.codeRec_of (e0.mod.kin.keeps up) code) (bnd _ _ _ _ ?_)
  refine wpAny_newFunctionEnv_cells S.kind par fun ev hev t1 x => ?_
  subst hev
  refine ⟨(e0.mod.nolimit.keeps up).keeps x.toInCall.keep, codeAny_func ?_⟩
  obtain ⟨u, hu, q⟩ := hb cdv B o t H vs Q E g (room.deeper _) hsp
  have fin : ∀ {σ' : L2.St} {J : Hp} {v : V} {z : Value} {t' : Shared}, Inv (cxOf Z P w K mg base N qual scope f cdv B o t H E) [] σ' J t' → RelV v z → Q v J → CE o P w H t Q z t' := fun {σ' J v z t'} I rv qv => ⟨v, J, I.os, I.bare, I.base, I.hok, rv, qv⟩
  refine wpAny_mono (hu.run [] t1 (L2.start N vs) H _ (inv_start S room.hd e0 lenV rel x) q) (fun fl t' hs => ?_) fun _ _ hs => hs
  match fl, hs with
  | .ret z, ⟨v, σ', J, I, rv, qv⟩ => exact fin I rv qv
  | .next, ⟨σ', J, I, qv⟩ => exact fin (v := V.non) (z := Value.none) I rfl qv
  | .brk, ⟨_, _, _, qv⟩ => exact False.elim qv
  | .cont, ⟨_, _, _, qv⟩ => exact False.elim qv
end
section
variable {X : Cx} {Z : CXT} {k : Nat} {f : Addr} {fd : FuncData} {ps : List Str} {sp : Sp} {dvs : List V} {ds : List Value} {x : Str} {p pos : Pos} {e : Expr} {es : List Expr} {t : TA} {pins : List (Addr × Obj)} {σ : L2.St} {H : Hp} {s : Shared} {Q : VK}
/-- the callee's code, its end and its errors in the caller's words -/
theorem FnG.code {ar : Args} {us : List Value} {vs : List V} {E : XK} (F : FnG X.prog X.w X.K X.mg X.base Z k f fd ps sp) (gd : X.A.guards = some []) (hr : Room k X.A) (hx : PassesAt Z X σ E) (I : Inv X pins σ H s) (hb : BindsTo s fd ar (ps.zip us)) (r : Vals vs us) (h : sp vs H Q E) :
    codeAny (model X.prog X.w) X.A (.call (.ref f) ar) (fun r t => match r with | .ok (.ret u) => EP X pins σ Q u t | .ok _ => False | .error er => X.xe er t) s := by
  refine codeAny_mono (F.go X.A X.stack s H ar us vs Q E gd hr I.env0 hb r h) fun res t hq => ?_
  match res, hq with
  | .error er, hq => exact hx pins H s er t I hq
  | .ok (.ret u), hq => exact I.after hq
  | .ok .next, hq => exact hq
  | .ok .brk, hq => exact hq
  | .ok .cont, hq => exact hq
theorem runG {us : List Value} {vs : List V} {E : L2.St → XK} (F : FnG X.prog X.w X.K X.mg X.base Z k f fd ps sp) (gd : X.A.guards = some []) (hr : Room k X.A) (hb : Binds X.K fd ps ds) (hd : Vals dvs ds) (hx : PassesAt Z X σ (E σ)) (I : Inv X pins σ H s) (r : Vals vs us) (h : sp (vs ++ dvs) H Q (E σ)) :
    wpAny (model X.prog X.w) X.A (call (.ref f) us) (EP X pins σ Q) X.xe s := by
  have rr : Vals (vs ++ dvs) (us ++ ds) := r.append hd
  exact wpAny_call (F.code gd hr hx I (hb s us I.kIn (rr.length.symm.trans (F.len _ _ _ _ h))) rr h)
theorem pe_callG {E : L2.St → XK} (F : FnG X.prog X.w X.K X.mg X.base Z k f fd ps sp) (gd : X.A.guards = some []) (hr : Room k X.A) (hg : Gl X x) (hm : X.mg x = some (.ref f)) (hk : PySem.W.keepIn X.K (.ref f) = true) (hb : Binds X.K fd ps ds) (hd : Vals dvs ds) (hx : ∀ σ, PassesAt Z X σ (E σ))
    (ha : PA X (e :: es) t) (hdb : (x == ("__debug__" : Str)) = false) (he : starEach (e :: es) X.env = (false, eval e X.env) :: starEach es X.env) (hpl : (backTo pos (starEach es X.env)).any (·.1) = false) :
    PE X (.Call (.Name x p) (e :: es) [] pos) (tCallSD sp dvs E t) := ⟨fun pins s σ H Q I h =>
  wpAny_Call_Name_kw (ld_glob I hg hm (PySem.W.callWith_K (h₀ := X.base) I.ok.mod.kin hk (thn (ha.run pos pins s σ H _ I h) fun us s1 ⟨vs, H1, I1, r, q⟩ => ⟨I1.kIn, runG F gd hr hb hd (hx σ) I1 r q⟩) he hpl) hdb)⟩
end
/-- a def keeps its promise, by its body -/
theorem fn_ok {prog : Program} {w : World} {K : PySem.W.Frag} {mg : Str → Option Value} {base : Heap} {x qual : Str} {params : Arguments} {body : List Stmt} {scope : Scope} {dvs : List V} {kws : List (Str × V)} {f : Addr} {fd : FuncData} {ps : List Str} {k : Nat} {fr : Bool} {m : MS}
    (F : FunD K x qual params body scope dvs kws f fd) (S : FnScope N ps scope) (hps : ps.length ≤ N.length) (hT : T.nb = T)
    (hb : ∀ (cdv : Value) (A : Around) (outer : List PySem.Env) (s : Shared) (H : Hp) (E : XK), A.guards = some [] → Room k (A.deeper (PyProof.Rows.envOfC qual scope s.heap.objs.size f cdv)) →
      DSs T (fun cls d _ H => E cls d H) (kdOf fr) pins (cxOf (CX prog w) prog w K mg base N qual scope f cdv A outer s H E) body m) : FnG prog w K mg base (CX prog w) (k + 1) f fd ps (spF T (kdOf fr) ps.length (runF fr N.length pins m)) := by
  refine funG F S (fun vs H Q E h => ?_) fun cdv A outer s H vs Q E hgd hr h => ?_
  · obtain ⟨as, P, _, hl, _⟩ := h
    exact hl
  · obtain ⟨as, P, R1, hl, h⟩ := h
    rw [hT] at R1 h
    have hla : as.length = vs.length := by simpa using R1.len
    have hn : as.length ≤ N.length := by omega
    refine ⟨_, hb cdv A outer s H E hgd hr, envOf N.length as, P, (R1.pad hn).1, ?_⟩
    unfold runF endF at h
    cases e1 : m (envOf N.length as) with
    | nx e2 =>
      rw [e1] at h
      cases fr with
      | true => exact False.elim h
      | false =>
      intro σ' P' H' R2 F2 p2
      cases e3 : finA pins 0 as e2 with
      | none => (simp only [e3] at h) <;> exact False.elim h
      | some as' =>
        simp only [e3] at h
        obtain ⟨R3, F3, o3⟩ := R1.out hn e3 R2 F2 p2
        exact h P' H' .non R3 F3 (show Rep T P' .non .non from rep_non) trivial
    | ret d e2 =>
      rw [e1] at h
      intro σ' P' H' x R2 F2 p2 kx nx
      cases e3 : finA pins 0 as e2 with
      | none => (simp only [e3] at h) <;> exact False.elim h
      | some as' =>
        simp only [e3] at h
        obtain ⟨R3, F3, o3⟩ := R1.out hn e3 R2 F2 p2
        cases fr with
        | false => exact h P' H' x R3 F3 kx trivial
        | true =>
          obtain ⟨a, ws, ds, q1, q2, q3, q4, q5, q6⟩ := kx
          refine h P' H' x R3 F3 ⟨a, ws, ds, q1, q2, q3, fun z => q4 (o3 a z), q5, q6⟩ ⟨a, q1, ?_⟩
          obtain ⟨a', ea, ha⟩ := nx
          rw [q1] at ea; cases ea
          rcases ha with ha | ha
          · exact ha
          · obtain ⟨_, o1⟩ := R1.pad hn
            obtain ⟨j, f, z1, z2, z3⟩ := (o1 a).mp ha
            obtain ⟨hl2, hk2⟩ := finA_get e3
            have hj : j < as'.length := by
              rcases Nat.lt_or_ge j as.length with q | q
              · omega
              · rw [List.getElem?_eq_none (by simpa using q)] at z1; cases z1
            exfalso
            have hj2 := List.getElem?_eq_getElem hj
            rcases hk2 j _ hj2 with ⟨w1, w2⟩ | ⟨w1, f0, w0, w2, w3, w4⟩
            · rw [List.getElem?_map, w2] at z1; cases z1; rw [w1] at z2; cases z2
            · refine q4 (o3 a ⟨j, _, ?_, w1, z3⟩)
              rw [List.getElem?_map, hj2]; rfl
    | exc c fs e2 =>
      rw [e1] at h
      intro σ' P' H' cls dd R2 F2 p2 x
      cases e3 : finA pins 0 as e2 with
      | none => (simp only [e3] at h) <;> exact False.elim h
      | some as' =>
        simp only [e3] at h
        obtain ⟨R3, F3, o3⟩ := R1.out hn e3 R2 F2 p2
        exact h P' H' cls dd R3 F3 x
    | brk e2 => rw [e1] at h; exact False.elim h
    | cnt e2 => rw [e1] at h; exact False.elim h
    | stk => rw [e1] at h; exact False.elim h
end
end Ue

set_option linter.all false
set_option Elab.async false
set_option maxRecDepth 100000
set_option maxHeartbeats 4000000
namespace Ue
open PySem L2
/-! ### calls of the text's own defs -/
/-- an argument: a value, or the own list of a slot -/
inductive Ag where
  | p (m : M) | o (i : Nat)
inductive AD where
  | d (x : D) | s (i : Nat)
def argG : List Ag → Env → R (List AD)
  | [], e => .ok [] e
  | .p m :: as, e => (m e).bind fun d e1 => (argG as e1).bind fun ds e2 => .ok (.d d :: ds) e2
  | .o i :: as, e => match e[i]? with
    | some (some (.own _)) => (argG as e).bind fun ds e2 => .ok (.s i :: ds) e2
    | _ => .stk
def resA : List AD → Env → Option (List EV)
  | [], _ => some []
  | .d x :: as, e => (resA as e).map (.v x :: ·)
  | .s i :: as, e => match e[i]? with
    | some (some (.own ds)) => (resA as e).map (.own ds :: ·)
    | _ => none
/-- where the own list stands among the arguments; at most one -/
def ownIx : Nat → List AD → Option (Nat × Nat)
  | _, [] => none
  | j, .d _ :: as => ownIx (j + 1) as
  | j, .s i :: _ => some (j, i)
def fewO : List AD → Bool
  | [] => true
  | .d _ :: as => fewO as
  | .s _ :: as => as.all fun a => match a with | .d _ => true | .s _ => false
def unEx : EV → Option EV
  | .ex _ _ => none
  | a => some a
def putA (ss : List AD) (as : List EV) (e : Env) : Env := match ownIx 0 ss with
  | none => e
  | some (j, i) => match as[j]? with
    | some a => e.set i (unEx a)
    | none => e
def fnM (F : FM) (ags : List Ag) (dfl : List D) : M := fun env => (argG ags env).bind fun ss e => match resA ss e with
  | none => .stk
  | some as => if fewO ss then (match F (as ++ dfl.map EV.v) with
    | .ok d as' => .ok d (putA ss as' e)
    | .exc c fs as' => .exc c fs (putA ss as' e)
    | .stk => .stk) else .stk
inductive SReps (T : Tab) (σ : L2.St) (P : Hp) : List AD → List V → Prop where
  | nil : SReps T σ P [] []
  | d {x : D} {v : V} {as : List AD} {vs : List V} : Rep T P x v → SReps T σ P as vs → SReps T σ P (.d x :: as) (v :: vs)
  | s {i : Nat} {v : V} {as : List AD} {vs : List V} : σ[i]? = some (some v) → SReps T σ P as vs → SReps T σ P (.s i :: as) (v :: vs)
theorem SReps.sub {T : Tab} {σ : L2.St} {P P' : Hp} (hs : PSub P P') : ∀ {as : List AD} {vs : List V}, SReps T σ P as vs → SReps T σ P' as vs
  | _, _, .nil => .nil
  | _, _, .d h t => .d (Rep.sub hs _ _ h) (t.sub hs)
  | _, _, .s h t => .s h (t.sub hs)
def rdP (T : Tab) (W : WX) (ags : List Ag) : TA := fun σ H Q => ∃ env P, Rel T env σ P H ∧ After T W σ env P H (argG ags env) (fun ss env' P' H' => ∀ xs, SReps T σ P' ss xs → Q xs H')
def GA (T : Tab) (W : WX) (X : Cx) (es : List Expr) (ags : List Ag) : Prop := PA X es (rdP T W ags)
section
variable {T : Tab} {W : WX} {kr : Kd} {pins : List Nat} {env env' : Env} {σ σ' : L2.St} {P H P' H' : Hp} {X : Cx} {pos : Pos} {e : Expr} {es : List Expr} {m : M} {ags : List Ag}
theorem ga_nil : GA T W X [] [] := pa_imp pa_nil fun σ H Q h => by
  obtain ⟨env, P, RR, h⟩ := h
  exact h.here RR (Fr.refl _ _ _ _) _ .nil
theorem ga_p (h : DE T W X e .pure m) (h' : GA T W X es ags) (hst : starEach (e :: es) X.env = (false, eval e X.env) :: starEach es X.env := by rfl) : GA T W X (e :: es) (.p m :: ags) := pa_imp (pa_cons h h' hst) fun σ H Q h => by
  obtain ⟨env, P, RR, h⟩ := h
  refine ⟨env, P, RR, After.mono h.bind fun d env1 P1 H1 R1 F1 h1 x kx nx => ?_⟩
  refine ⟨env1, P1, R1, After.mono h1.bind fun ss env2 P2 H2 R2 F2 h2 xs kxs => ?_⟩
  exact h2.here R2 (Fr.refl _ _ _ _) _ (.d (Rep.sub F2.mono _ _ kx) kxs)
theorem ga_o {i : Nat} {x : Str} {p : Pos} (h : PE X (.Name x p) (tVar i)) (h' : GA T W X es ags) (hst : starEach ((.Name x p) :: es) X.env = (false, eval (.Name x p) X.env) :: starEach es X.env := by rfl) : GA T W X ((.Name x p) :: es) (.o i :: ags) := pa_imp (pa_cons h h' hst) fun σ H Q h => by
  obtain ⟨env, P, RR, h⟩ := h
  unfold argG at h
  cases e0 : env[i]? with
  | none => rw [e0] at h; exact False.elim h
  | some o =>
    cases o with
    | none => rw [e0] at h; exact False.elim h
    | some v =>
      cases v with
      | own ds =>
        rw [e0] at h
        obtain ⟨u, hu, _⟩ := RR.ent i _ e0
        refine ⟨u, hu, env, P, RR, After.mono h.bind fun ss env2 P2 H2 R2 F2 h2 xs kxs => ?_⟩
        exact h2.here R2 (Fr.refl _ _ _ _) _ (.s hu kxs)
      | _ => rw [e0] at h; exact False.elim h
/-- the arguments as the def sees them -/
theorem resA_get : ∀ {ss : List AD} {as : List EV} {xs : List V} {j : Nat} {f : EV}, resA ss env = some as → SReps T σ P ss xs → as[j]? = some f →
    (∃ d v, f = .v d ∧ xs[j]? = some v ∧ Rep T P d v) ∨ (∃ i ds v, f = .own ds ∧ ss[j]? = some (.s i) ∧ env[i]? = some (some (.own ds)) ∧ xs[j]? = some v ∧ σ[i]? = some (some v))
  | [], as, _, j, f, h, _, hf => by cases h; simp at hf
  | .d x :: ss, as, _, j, f, h, .d hr hs, hf => by
    have h : (resA ss env).map (EV.v x :: ·) = some as := h
    cases q : resA ss env with
    | none => rw [q] at h; cases h
    | some as2 =>
      rw [q] at h; cases h
      cases j with
      | zero => simp at hf; subst hf; exact .inl ⟨x, _, rfl, rfl, hr⟩
      | succ j =>
        simp only [List.getElem?_cons_succ] at hf ⊢
        exact resA_get q hs hf
  | .s i :: ss, as, _, j, f, h, .s hi hs, hf => by
    unfold resA at h
    cases e0 : env[i]? with
    | none => rw [e0] at h; cases h
    | some o =>
      cases o with
      | none => rw [e0] at h; cases h
      | some v =>
        cases v with
        | own ds =>
          rw [e0] at h
          have h : (resA ss env).map (EV.own ds :: ·) = some as := h
          cases q : resA ss env with
          | none => rw [q] at h; cases h
          | some as2 =>
            rw [q] at h; cases h
            cases j with
            | zero => simp at hf; subst hf; exact .inr ⟨i, ds, _, rfl, rfl, e0, rfl, hi⟩
            | succ j =>
              simp only [List.getElem?_cons_succ] at hf ⊢
              exact resA_get q hs hf
        | _ => rw [e0] at h; cases h
theorem resA_len : ∀ {ss : List AD} {as : List EV}, resA ss env = some as → as.length = ss.length
  | [], as, h => by cases h; rfl
  | .d x :: ss, as, h => by
    have h : (resA ss env).map (EV.v x :: ·) = some as := h
    cases q : resA ss env with
    | none => rw [q] at h; cases h
    | some as2 => rw [q] at h; cases h; simp [resA_len q]
  | .s i :: ss, as, h => by
    unfold resA at h
    cases e0 : env[i]? with
    | none => rw [e0] at h; cases h
    | some o =>
      cases o with
      | none => rw [e0] at h; cases h
      | some v =>
        cases v with
        | own ds =>
          rw [e0] at h
          have h : (resA ss env).map (EV.own ds :: ·) = some as := h
          cases q : resA ss env with
          | none => rw [q] at h; cases h
          | some as2 => rw [q] at h; cases h; simp [resA_len q]
        | _ => rw [e0] at h; cases h
theorem SReps.len : ∀ {ss : List AD} {xs : List V}, SReps T σ P ss xs → xs.length = ss.length
  | _, _, .nil => rfl
  | _, _, .d _ t => by simp [t.len]
  | _, _, .s _ t => by simp [t.len]
theorem all_d : ∀ {as : List AD} {j i : Nat}, (as.all fun a => match a with | .d _ => true | .s _ => false) = true → as[j]? = some (.s i) → False
  | [], j, i, _, h => by simp at h
  | a :: as, 0, i, h, h2 => by simp at h2; subst h2; simp at h
  | a :: as, j + 1, i, h, h2 => by
    simp only [List.getElem?_cons_succ] at h2
    rw [List.all_cons, Bool.and_eq_true] at h
    exact all_d h.2 h2
theorem few_one : ∀ {ss : List AD} {k j i : Nat}, fewO ss = true → ss[j]? = some (.s i) → ownIx k ss = some (k + j, i) ∧ ∀ j' i', ss[j']? = some (.s i') → j' = j
  | [], k, j, i, _, h => by simp at h
  | .d x :: ss, k, 0, i, _, h => by simp at h
  | .d x :: ss, k, j + 1, i, h, h2 => by
    simp only [List.getElem?_cons_succ] at h2
    obtain ⟨a, b⟩ := few_one (k := k + 1) (show fewO ss = true from h) h2
    refine ⟨by show ownIx (k + 1) ss = _; rw [a]; congr 2; omega, fun j' i' h3 => ?_⟩
    cases j' with
    | zero => simp at h3
    | succ j' => simp only [List.getElem?_cons_succ] at h3; rw [b j' i' h3]
  | .s i0 :: ss, k, 0, i, h, h2 => by
    simp at h2; subst h2
    refine ⟨rfl, fun j' i' h3 => ?_⟩
    cases j' with
    | zero => rfl
    | succ j' => simp only [List.getElem?_cons_succ] at h3; exact (all_d (show _ = true from h) h3).elim
  | .s i0 :: ss, k, j + 1, i, h, h2 => by
    simp only [List.getElem?_cons_succ] at h2
    exact (all_d (show _ = true from h) h2).elim
theorem own_none : ∀ {ss : List AD} {k : Nat}, ownIx k ss = none → ∀ (j i : Nat), ss[j]? ≠ some (AD.s i)
  | [], k, _, j, i => by simp
  | .d x :: ss, k, h, j, i => by
    cases j with
    | zero => simp
    | succ j => simp only [List.getElem?_cons_succ]; exact own_none (show ownIx (k + 1) ss = none from h) j i
  | .s i0 :: ss, k, h, j, i => by cases h
/-- what the def is handed -/
theorem Rel.call {ss : List AD} {as : List EV} {xs dvs : List V} {dfl : List D} (RR : Rel T env σ P H) (hr : resA ss env = some as) (hf : fewO ss = true) (hs : SReps T σ P ss xs) (hd : Reps T P dfl dvs) :
    Rel T ((as ++ dfl.map EV.v).map some) ((xs ++ dvs).map some) P H ∧ ∀ b, Own ((as ++ dfl.map EV.v).map some) ((xs ++ dvs).map some) b → ∃ (j i : Nat) (ds : List D), ss[j]? = some (AD.s i) ∧ as[j]? = some (EV.own ds) ∧ env[i]? = some (some (EV.own ds)) ∧ σ[i]? = some (some (V.ref b)) := by
  have la := resA_len hr
  have lx := hs.len
  have get : ∀ (j : Nat) (f : EV), ((as ++ dfl.map EV.v).map some)[j]? = some (some f) → (as[j]? = some f ∧ j < as.length) ∨ (∃ d, f = .v d ∧ dfl[j - as.length]? = some d ∧ as.length ≤ j) := fun j f h => by
    rw [List.getElem?_map] at h
    cases q : (as ++ dfl.map EV.v)[j]? with
    | none => rw [q] at h; cases h
    | some g =>
      rw [q] at h; cases h
      by_cases hj : j < as.length
      · rw [List.getElem?_append_left hj] at q; exact .inl ⟨q, hj⟩
      · rw [List.getElem?_append_right (by omega), List.getElem?_map] at q
        cases q2 : dfl[j - as.length]? with
        | none => rw [q2] at q; cases q
        | some d => rw [q2] at q; cases q; exact .inr ⟨d, rfl, rfl, by omega⟩
  have getx : ∀ (j : Nat) (v : V), xs[j]? = some v → ((xs ++ dvs).map some)[j]? = some (some v) := fun j v h => by
    have hj : j < xs.length := by
      rcases Nat.lt_or_ge j xs.length with q | q
      · exact q
      · rw [List.getElem?_eq_none q] at h; cases h
    rw [List.getElem?_map, List.getElem?_append_left hj, h]; rfl
  have ow : ∀ (j : Nat) (f : EV) (b : Addr), ((as ++ dfl.map EV.v).map some)[j]? = some (some f) → f.isOwn = true → ((xs ++ dvs).map some)[j]? = some (some (V.ref b)) → ∃ (i : Nat) (ds : List D), ss[j]? = some (.s i) ∧ as[j]? = some (.own ds) ∧ env[i]? = some (some (.own ds)) ∧ σ[i]? = some (some (V.ref b)) := fun j f b h o s => by
    rcases get j f h with ⟨q, hj⟩ | ⟨d, rfl, _⟩
    · rcases resA_get hr hs q with ⟨d, v, rfl, _⟩ | ⟨i, ds, v, rfl, q1, q2, q3, q4⟩
      · cases o
      · rw [getx j v q3] at s
        cases s
        exact ⟨i, ds, q1, q, q2, q4⟩
    · cases o
  refine ⟨⟨RR.sub, fun j f h => ?_, fun j l f g b n h1 h2 o1 o2 s1 s2 => ?_, ?_⟩, fun b ⟨j, f, h1, h2, h3⟩ => ?_⟩
  · rcases get j f h with ⟨q, hj⟩ | ⟨d, rfl, q, hj⟩
    · rcases resA_get hr hs q with ⟨d, v, rfl, q1, q2⟩ | ⟨i, ds, v, rfl, q1, q2, q3, q4⟩
      · exact ⟨v, getx j v q1, q2⟩
      · obtain ⟨u, hu, r⟩ := RR.ent i _ q2
        rw [q4] at hu; cases hu
        exact ⟨v, getx j v q3, r⟩
    · obtain ⟨v, hv, r⟩ := hd.get q
      refine ⟨v, ?_, r⟩
      rw [List.getElem?_map, List.getElem?_append_right (by omega), show j - xs.length = j - as.length by omega, hv]; rfl
  · obtain ⟨i1, ds1, a1, _, _, _⟩ := ow j f b h1 o1 s1
    obtain ⟨i2, ds2, a2, _, _, _⟩ := ow l g b h2 o2 s2
    exact n ((few_one (k := 0) hf a2).2 j i1 a1)
  · simp [la, lx, hd.length]
  · obtain ⟨i, ds, a⟩ := ow j f b h1 h2 h3
    exact ⟨j, i, ds, a⟩
/-- behind the call -/
theorem Rel.back {ss : List AD} {as as' : List EV} {xs dvs : List V} {dfl : List D} (RR : Rel T env σ P H) (hr : resA ss env = some as) (hf : fewO ss = true) (hs : SReps T σ P ss xs) (hd : Reps T P dfl dvs)
    (R2 : Rel T.nb (as'.map some) ((xs ++ dvs).map some) P' H') (F2 : Fr ((as ++ dfl.map EV.v).map some) ((xs ++ dvs).map some) P H (as'.map some) ((xs ++ dvs).map some) P' H') :
    Rel T (putA ss as' env) σ P' H' ∧ Fr env σ P H (putA ss as' env) σ P' H' ∧ ∀ b, Own (putA ss as' env) σ b → Own env σ b := by
  obtain ⟨R1, o1⟩ := RR.call hr hf hs hd
  have la := resA_len hr
  have lx := hs.len
  have l2 : as'.length = (xs ++ dvs).length := by simpa using R2.len
  have getx : ∀ (j : Nat) (v : V), xs[j]? = some v → ((xs ++ dvs).map some)[j]? = some (some v) := fun j v h => by
    have hj : j < xs.length := by
      rcases Nat.lt_or_ge j xs.length with q | q
      · exact q
      · rw [List.getElem?_eq_none q] at h; cases h
    rw [List.getElem?_map, List.getElem?_append_left hj, h]; rfl
  -- the slots: the one that was handed, all others
  have key : ∀ (l : Nat) (f : EV), (putA ss as' env)[l]? = some (some f) → (∃ (j : Nat) (ds : List D) (v : V), ss[j]? = some (AD.s l) ∧ as'[j]? = some f ∧ env[l]? = some (some (.own ds)) ∧ xs[j]? = some v ∧ σ[l]? = some (some v) ∧ ∀ c fs, f ≠ .ex c fs) ∨ (env[l]? = some (some f) ∧ ∀ (j : Nat), ss[j]? ≠ some (AD.s l)) := fun l f h => by
    unfold putA at h
    cases q : ownIx 0 ss with
    | none => rw [q] at h; exact .inr ⟨h, fun j => own_none q j l⟩
    | some p =>
      obtain ⟨j, i⟩ := p
      rw [q] at h
      have hj : ss[j]? = some (.s i) := by
        have : ∀ (ss : List AD) (k j i : Nat), ownIx k ss = some (j, i) → k ≤ j ∧ ss[j - k]? = some (.s i) := by
          intro ss
          induction ss with
          | nil => intro k j i h; cases h
          | cons a ss ih =>
            intro k j i h
            cases a with
            | d x =>
              obtain ⟨h1, h2⟩ := ih (k + 1) j i h
              refine ⟨by omega, ?_⟩
              rw [show j - k = (j - (k + 1)) + 1 by omega, List.getElem?_cons_succ]; exact h2
            | s i0 => cases h; simp
        have := (this ss 0 j i q).2
        simpa using this
      have hja : j < as.length := by
        rcases Nat.lt_or_ge j ss.length with z | z
        · omega
        · rw [List.getElem?_eq_none z] at hj; cases hj
      have hj' : j < as'.length := by rw [l2, List.length_append]; omega
      simp only [List.getElem?_eq_getElem hj'] at h
      by_cases z : l = i
      · subst z
        rcases resA_get hr hs (List.getElem?_eq_getElem hja) with ⟨d, v, e0, q1, q2⟩ | ⟨i2, ds, v, e0, q1, q2, q3, q4⟩
        · exfalso
          have : ∀ (ss : List AD) (as : List EV) (j : Nat) (i : Nat) (d : D), resA ss env = some as → ss[j]? = some (.s i) → as[j]? = some (.v d) → False := by
            intro ss
            induction ss with
            | nil => intro as j i d _ h; simp at h
            | cons a ss ih =>
              intro as j i d h1 h2 h3
              cases a with
              | d x =>
                have h1 : (resA ss env).map (EV.v x :: ·) = some as := h1
                cases c : resA ss env with
                | none => rw [c] at h1; cases h1
                | some as2 =>
                  rw [c] at h1; cases h1
                  cases j with
                  | zero => simp at h2
                  | succ j => simp only [List.getElem?_cons_succ] at h2 h3; exact ih as2 j i d c h2 h3
              | s i0 =>
                unfold resA at h1
                cases e0 : env[i0]? with
                | none => rw [e0] at h1; cases h1
                | some o =>
                  cases o with
                  | none => rw [e0] at h1; cases h1
                  | some v =>
                    cases v with
                    | own ds =>
                      rw [e0] at h1
                      have h1 : (resA ss env).map (EV.own ds :: ·) = some as := h1
                      cases c : resA ss env with
                      | none => rw [c] at h1; cases h1
                      | some as2 =>
                        rw [c] at h1; cases h1
                        cases j with
                        | zero => simp at h3
                        | succ j => simp only [List.getElem?_cons_succ] at h2 h3; exact ih as2 j i d c h2 h3
                    | _ => rw [e0] at h1; cases h1
          exact this ss as j l d hr hj (by rw [List.getElem?_eq_getElem hja, e0])
        · rw [hj] at q1; cases q1
          have hil : l < env.length := by
            rcases Nat.lt_or_ge l env.length with z | z
            · exact z
            · rw [List.getElem?_eq_none z] at q2; cases q2
          rw [List.getElem?_set_self hil] at h
          have h := Option.some.inj h
          have hu : some as'[j] = some f ∧ ∀ c fs, f ≠ .ex c fs := by
            cases ea : as'[j] with
            | ex c fs => rw [ea] at h; cases h
            | v d => rw [ea] at h; cases h; exact ⟨rfl, fun _ _ z => nomatch z⟩
            | own d => rw [ea] at h; cases h; exact ⟨rfl, fun _ _ z => nomatch z⟩
            | new c d => rw [ea] at h; cases h; exact ⟨rfl, fun _ _ z => nomatch z⟩
          exact .inl ⟨j, ds, v, hj, by rw [List.getElem?_eq_getElem hj']; exact hu.1, q2, q3, q4, hu.2⟩
      · rw [List.getElem?_set_ne (fun w => z w.symm)] at h
        refine .inr ⟨h, fun j' h' => ?_⟩
        have h3 := (few_one (k := 0) hf hj).2 j' l h'
        subst h3
        rw [hj] at h'; cases h'; exact z rfl
  have low : (putA ss as' env).length = env.length := by
    unfold putA
    split
    · rfl
    · split
      · rw [List.length_set]
      · rfl
  have ownA : ∀ b, Own ((as ++ dfl.map EV.v).map some) ((xs ++ dvs).map some) b → Own env σ b := fun b h => by
    obtain ⟨j, i, ds, _, _, h1, h2⟩ := o1 b h
    exact ⟨i, _, h1, rfl, h2⟩
  have ow : ∀ b, Own (putA ss as' env) σ b → Own env σ b := fun b ⟨l, f, h1, h2, h3⟩ => by
    rcases key l f h1 with ⟨j, ds, v, a1, a2, a3, a4, a5, a6⟩ | ⟨a1, _⟩
    · exact ⟨l, _, a3, rfl, h3⟩
    · exact ⟨l, f, a1, h2, h3⟩
  refine ⟨⟨R2.sub, fun l f h => ?_, fun l1 l2 f g b n h1 h2 o1' o2' s1 s2 => ?_, by rw [low]; exact RR.len⟩, ⟨fun b u h n => F2.keep b u h fun z => n (ownA b z), fun b h n z => n (ow b z), F2.mono, fun b h => ?_, F2.there⟩, ow⟩
  · rcases key l f h with ⟨j, ds, v, a1, a2, a3, a4, a5, a6⟩ | ⟨a1, a2⟩
    · obtain ⟨u, hu, r⟩ := R2.ent j f (by rw [List.getElem?_map, a2]; rfl)
      rw [getx j v a4] at hu
      have hu := Option.some.inj (Option.some.inj hu)
      subst hu
      exact ⟨v, a5, r.bn a6⟩
    · obtain ⟨v, hv, r⟩ := RR.ent l f a1
      refine ⟨v, hv, r.grow F2.mono fun b u h1 h2 h3 h4 => ?_⟩
      subst h4
      have nb : ¬ Own ((as ++ dfl.map EV.v).map some) ((xs ++ dvs).map some) b := fun z => by
        obtain ⟨j, i, ds, c1, _, c2, c3⟩ := o1 b z
        by_cases w : l = i
        · subst w; exact a2 j c1
        · exact RR.dis l i f _ b w a1 c2 h3 rfl hv c3
      refine ⟨F2.keep b u h1 nb, Classical.byContradiction fun z => ?_⟩
      rcases F2.new b z with q | q | q
      · exact q h2
      · rw [h1] at q; cases q
      · exact nb q
  · have w : ∀ (l : Nat) (f : EV), (putA ss as' env)[l]? = some (some f) → f.isOwn = true → ∃ (g : EV), env[l]? = some (some g) ∧ g.isOwn = true := fun l f h o => by
      rcases key l f h with ⟨j, ds, v, a1, a2, a3, a4, a5, a6⟩ | ⟨a1, _⟩
      · exact ⟨_, a3, rfl⟩
      · exact ⟨f, a1, o⟩
    obtain ⟨f', h1', o1''⟩ := w l1 f h1 o1'
    obtain ⟨g', h2', o2''⟩ := w l2 g h2 o2'
    exact RR.dis l1 l2 f' g' b n h1' h2' o1'' o2'' s1 s2
  · rcases F2.new b h with q | q | q
    · exact .inl q
    · exact .inr (.inl q)
    · exact .inr (.inr (ownA b q))
end
end Ue

set_option linter.all false
set_option Elab.async false
set_option maxRecDepth 100000
set_option maxHeartbeats 4000000
namespace Ue
open PySem L2
section
variable {T : Tab} {W : WX} {kr : Kd} {pins : List Nat} {env env' : Env} {σ σ' : L2.St} {P H P' H' : Hp} {X : Cx} {pos : Pos} {e : Expr} {es : List Expr} {m : M} {ags : List Ag}
/-! ### f(e, ..) -/
theorem rd_fn {F : FM} {n : Nat} {dfl : List D} {dvs : List V} {Q : VK} (hkr : kr = .pure ∨ kr = .fresh) (hdr : ∀ P, Reps T P dfl dvs) (hn : ags.length + dfl.length = n) (h : rdE T W kr (fnM F ags dfl) σ H Q) :
    tCallSD (spF T kr n F) dvs (fun σ cls d H => W cls d σ H) (rdP T W ags) σ H Q := by
  obtain ⟨env, P, RR, h⟩ := h
  refine ⟨env, P, RR, After.at h.bind fun ss env1 P1 H1 es1 R1 F1 h1 xs kxs => ?_⟩
  cases e1 : resA ss env1 with
  | none => simp only [e1] at h1; exact False.elim h1
  | some as =>
    simp only [e1] at h1
    by_cases hf : ¬ fewO ss = true
    · rw [if_neg hf] at h1; exact False.elim h1
    have hf : fewO ss = true := Classical.not_not.mp hf
    rw [if_pos hf] at h1
    obtain ⟨R2, o2⟩ := R1.call e1 hf kxs (hdr P1)
    have hlen : ∀ (ags : List Ag) (env env1 : Env) (ss : List AD), argG ags env = .ok ss env1 → ss.length = ags.length := by
      intro ags
      induction ags with
      | nil => intro env env1 ss h; cases h; rfl
      | cons a ags ih =>
        intro env env1 ss h
        cases a with
        | p m =>
          have h : (m env).bind (fun d e1 => (argG ags e1).bind fun ds e2 => R.ok (AD.d d :: ds) e2) = .ok ss env1 := h
          cases c : m env with
          | ok d e1 =>
            rw [c] at h
            have h : (argG ags e1).bind (fun ds e2 => R.ok (AD.d d :: ds) e2) = .ok ss env1 := h
            cases c2 : argG ags e1 with
            | ok ds e2 => rw [c2] at h; cases h; simp [ih _ _ _ c2]
            | exc _ _ _ => rw [c2] at h; cases h
            | stk => rw [c2] at h; cases h
          | exc _ _ _ => rw [c] at h; cases h
          | stk => rw [c] at h; cases h
        | o i =>
          unfold argG at h
          cases e0 : env[i]? with
          | none => rw [e0] at h; cases h
          | some o =>
            cases o with
            | none => rw [e0] at h; cases h
            | some v =>
              cases v with
              | own ds =>
                rw [e0] at h
                have h : (argG ags env).bind (fun ds e2 => R.ok (AD.s i :: ds) e2) = .ok ss env1 := h
                cases c2 : argG ags env with
                | ok ds e2 => rw [c2] at h; cases h; simp [ih _ _ _ c2]
                | exc _ _ _ => rw [c2] at h; cases h
                | stk => rw [c2] at h; cases h
              | _ => rw [e0] at h; cases h
    refine ⟨as ++ dfl.map EV.v, P1, R2.nb, ?_, ?_⟩
    · rw [List.length_append, kxs.len, (hdr P1).length, hlen ags env env1 ss es1]; exact hn
    · cases e2 : F (as ++ dfl.map EV.v) with
      | ok d as' =>
        simp only [e2] at h1
        intro P2 H2 x R3 F3 kx nx
        obtain ⟨R4, F4, o4⟩ := R1.back e1 hf kxs (hdr P1) R3 F3
        refine h1 P2 H2 R4 F4 x ?_ (nx.back F1)
        rcases hkr with rfl | rfl
        · exact kx.bn
        · obtain ⟨a, ws, ds, q1, q2, q3, q4, q5, q6⟩ := kx.bn
          refine ⟨a, ws, ds, q1, q2, q3, fun z => ?_, q5, q6⟩
          obtain ⟨a', ea, ha⟩ := nx
          rw [q1] at ea; cases ea
          obtain ⟨o, ho, _⟩ := R1.ownAt (o4 a z)
          rw [ha] at ho; cases ho
      | exc c fs as' =>
        simp only [e2] at h1
        intro P2 H2 cls dd R3 F3 x
        obtain ⟨R4, F4, o4⟩ := R1.back e1 hf kxs (hdr P1) R3 F3
        exact h1 P2 H2 cls dd R4 F4 x.bn
      | stk => simp only [e2] at h1; exact False.elim h1
theorem de_call {F : FM} {n k : Nat} {f : Addr} {fd : FuncData} {ps : List Str} {dfl : List D} {dvs : List V} {ds : List Value} {x : Str} {p : Pos} (G : FnG X.prog X.w X.K X.mg X.base (L2.CX X.prog X.w) k f fd ps (spF T kr n F)) (hkr : kr = .pure ∨ kr = .fresh) (gd : X.A.guards = some []) (hr : Room k X.A) (hg : Gl X x) (hm : X.mg x = some (.ref f))
    (hk : PySem.W.keepIn X.K (.ref f) = true) (hb : Binds X.K fd ps ds) (hd : Vals dvs ds) (hdr : ∀ P, Reps T P dfl dvs) (tk : Takes X W) (ha : GA T W X (e :: es) ags) (hn : ags.length + dfl.length = n := by rfl)
    (hdb : (x == ("__debug__" : Str)) = false := by decide) (he : starEach (e :: es) X.env = (false, eval e X.env) :: starEach es X.env := by rfl) (hpl : (backTo pos (starEach es X.env)).any (·.1) = false := by rfl) :
    DE T W X (.Call (.Name x p) (e :: es) [] pos) kr (fnM F ags dfl) :=
  pe_imp (pe_callG (E := fun σ cls d H => W cls d σ H) G gd hr hg hm hk hb hd (fun σ => passAt tk σ) ha hdb he hpl) fun _ _ _ h => rd_fn hkr hdr hn h
/-! ### errors made and raised -/
/-- what the written part says of an error's class -/
structure ExcC (X : Cx) (C : Addr) : Prop where
  ox : OexC X.K C
/-- D.__init__(self, '..') where D has ValueError's -/
theorem pe_dinit {D : Addr} {x : Str} {ta : TA} {p1 p2 : Pos} {pl : Sem Bool} (hg : Gl X x) (hm : X.mg x = some (.ref D)) (r : ClX.CRead X.K D (.type "type")) (vV : PySem.W.findCls X.K (.ref D) (.type "type") "__init__" = some (.val (.builtin "ValueError.__init__"))) (ha : PA X (e :: es) ta)
    (hdb : (x == ("__debug__" : Str)) = false := by decide)
    (hc : eval (.Call (.Attribute (.Name x p1) "__init__" p2) (e :: es) [] pos) X.env = (do
      let ov ← eval (.Name x p1) X.env
      standAt p2.atName
      let (f, first) ← holding [ov] (getMethod ov "__init__" pl)
      callWith pos f first (backTo pos (starEach (e :: es) X.env)) (backToKw pos (keywordEach [] X.env))) := by rfl)
    (he : starEach (e :: es) X.env = (false, eval e X.env) :: starEach es X.env := by rfl) (hpl : (backTo pos (starEach es X.env)).any (·.1) = false := by rfl) :
    PE X (.Call (.Attribute (.Name x p1) "__init__" p2) (e :: es) [] pos) (tVeI X.K ta) := ⟨fun pins s σ H Q I h => by
  refine PySem.W.methodCall_KW (ld_glob I hg hm ?_ hdb) hc
  refine PySem.W.method_cls I.kIn r.ga (PySem.W.cls_value I.kIn r.rd vV (by decide +kernel) ?_)
  refine PyProof.Rows.callWith_method1 (thn (ha.run pos pins _ σ H _ (I.tok _) h) fun us s1 hh => ?_) he hpl
  obtain ⟨vs, H1, I1, r1, a, C, ws, ev, hl, TT, ea, q⟩ := hh
  subst ev
  cases r1 with
  | @cons _ u0 _ ur ra rr =>
    have e0 : u0 = Value.ref a := ra
    subst e0
    have l1 : ur.length ≤ sizeLine := by
      have l2 := Paired.length rr
      have l3 : (1000 : Nat) ≤ sizeLine := by rw [sizeLine_eq]; decide
      omega
    exact oinit_ok TT I1 ea l1 fun s2 I2 => ⟨.non, H1, I2, rfl, q⟩⟩
end
/-! ### the __init__ of an error: D.__init__(self, '..'), then its fields -/
def spX0 (C : Addr) : Sp := fun vs H Q _ => ∃ a, vs = [.ref a] ∧ H a = some (exo a C none) ∧ Q .non H
def spX1 (C : Addr) (g : Str) : Sp := fun vs H Q _ => ∃ a x, vs = [.ref a, x] ∧ H a = some (exo a C none) ∧ ∀ dx, H dx = none → dx ≠ a → Q .non (upd (upd H dx (exd dx [(g, x)])) a (exo a C (some dx)))
def spX2 (C : Addr) (g1 g2 : Str) : Sp := fun vs H Q _ => ∃ a x y, vs = [.ref a, x, y] ∧ H a = some (exo a C none) ∧ ∀ dx, H dx = none → dx ≠ a → Q .non (upd (upd (upd H dx (exd dx [(g1, x)])) a (exo a C (some dx))) dx (exd dx [(g2, y), (g1, x)]))
section
variable {P : Program} {w : World} {K : PySem.W.Frag} {mg : Str → Option Value} {base : Heap} {nm qual x msg g g1 g2 : Str} {params : Arguments} {scope : Scope} {f D C : Addr} {fd : FuncData} {p1 p2 p3 p4 p5 p6 p7 p8 p9 p10 p11 p12 p13 p14 : Pos} {j : Nat}
/-- how the first row's call goes -/
def InitCall (e : Expr) (es : List Expr) (x : Str) (p1 p2 pos : Pos) : Prop := ∀ env : PySem.Env, ∃ pl : Sem Bool, eval (.Call (.Attribute (.Name x p1) "__init__" p2) (e :: es) [] pos) env = (do
      let ov ← eval (.Name x p1) env
      standAt p2.atName
      let (f, first) ← holding [ov] (getMethod ov "__init__" pl)
      callWith pos f first (backTo pos (starEach (e :: es) env)) (backToKw pos (keywordEach [] env)))
theorem vis_pe {X : Cx} {i : Nat} {y : Str} {pos : Pos} (hN : X.N[i]? = some y) (hv : Vis X.env.scope y) (hd : (y == ("__debug__" : Str)) = false) (hcd : (y == ("__classdict__" : Str)) = false) : PE X (.Name y pos) (tVar i) := pe_var hN hv hd hcd
/-- the facts of an error's class and its base D -/
structure XF (K : PySem.W.Frag) (mg : Str → Option Value) (x : Str) (D C : Addr) : Prop where
  gx : mg x = some (.ref D)
  rd : ClX.CRead K D (.type "type")
  vV : PySem.W.findCls K (.ref D) (.type "type") "__init__" = some (.val (.builtin "ValueError.__init__"))
  ox : OexC K C
def okName (y : Str) : Bool := !(y == ("__debug__" : Str)) && !(y == ("__classdict__" : Str))
theorem okName_ok {y : Str} (h : okName y = true) : (y == ("__debug__" : Str)) = false ∧ (y == ("__classdict__" : Str)) = false := by
  unfold okName at h
  simpa using h
theorem xinit0 (F : FunD K nm qual params [.Expr (.Call (.Attribute (.Name x p1) "__init__" p2) [.Name "self" p3, .Constant (.str msg) j p4] [] p5) p6] scope [] [] f fd) (S : FnScope ["self"] ["self"] scope) (hx : okName x = true)
    (hgx : scope.names.lookup x = some .globalImplicit) (vs : Vis scope "self") (ic : InitCall (.Name "self" p3) [.Constant (.str msg) j p4] x p1 p2 p5) (Z : XF K mg x D C) : FnOk P w K mg base (L2.CX P w) 1 f fd ["self"] (spX0 C) := by
  refine F.ok S (fun vs H Q E h => ?_) fun cdv A outer s H vs Q E hr h => ?_
  · obtain ⟨a, rfl, _⟩ := h; rfl
  · obtain ⟨a, rfl, ha, k⟩ := h
    obtain ⟨pl, hc⟩ := ic (PyProof.Rows.envOfC qual scope s.heap.objs.size f cdv)
    refine ⟨_, pss_one (ps_expr (pe_dinit hgx Z.gx Z.rd Z.vV (pa_cons (vis_pe (i := 0) rfl vs (by decide) (by decide)) (pa_cons pe_str pa_nil)) (okName_ok hx).1 hc)), ?_⟩
    exact ⟨_, rfl, a, C, [.str msg], rfl, by simp, Z.ox, ha, k⟩
theorem xinit1 (F : FunD K nm qual params [.Expr (.Call (.Attribute (.Name x p1) "__init__" p2) [.Name "self" p3, .Constant (.str msg) j p4] [] p5) p6, .Assign [.Attribute (.Name "self" p7) g p8] (.Name g p9) p10] scope [] [] f fd) (S : FnScope ["self", g] ["self", g] scope) (hx : okName x = true)
    (hgx : scope.names.lookup x = some .globalImplicit) (vs : Vis scope "self") (vg : Vis scope g) (hg : okName g = true) (ic : InitCall (.Name "self" p3) [.Constant (.str msg) j p4] x p1 p2 p5) (Z : XF K mg x D C) (hno : PySem.W.findIn K (.ref C) g = some none) :
    FnOk P w K mg base (L2.CX P w) 1 f fd ["self", g] (spX1 C g) := by
  refine F.ok S (fun vs H Q E h => ?_) fun cdv A outer s H vs Q E hr h => ?_
  · obtain ⟨a, y, rfl, _⟩ := h; rfl
  · obtain ⟨a, y, rfl, ha, k⟩ := h
    obtain ⟨pl, hc⟩ := ic (PyProof.Rows.envOfC qual scope s.heap.objs.size f cdv)
    refine ⟨_, pss_cons (ps_expr (pe_dinit hgx Z.gx Z.rd Z.vV (pa_cons (vis_pe (i := 0) rfl vs (by decide) (by decide)) (pa_cons pe_str pa_nil)) (okName_ok hx).1 hc))
      (pss_one (ps_ost (vis_pe (i := 0) rfl vs (by decide) (by decide)) (vis_pe (i := 1) rfl vg (okName_ok hg).1 (okName_ok hg).2))), ?_⟩
    refine ⟨_, rfl, a, C, [.str msg], rfl, by simp, Z.ox, ha, ?_⟩
    refine ⟨_, rfl, _, rfl, a, C, rfl, Z.ox, hno, .inl ⟨ha, fun dx h1 h2 => k dx h1 h2⟩⟩
theorem xinit2 (F : FunD K nm qual params [.Expr (.Call (.Attribute (.Name x p1) "__init__" p2) [.Name "self" p3, .Constant (.str msg) j p4] [] p5) p6, .Assign [.Attribute (.Name "self" p7) g1 p8] (.Name g1 p9) p10, .Assign [.Attribute (.Name "self" p11) g2 p12] (.Name g2 p13) p14] scope [] [] f fd)
    (S : FnScope ["self", g1, g2] ["self", g1, g2] scope) (hx : okName x = true) (hgx : scope.names.lookup x = some .globalImplicit) (vs : Vis scope "self") (vg1 : Vis scope g1) (hg1 : okName g1 = true) (vg2 : Vis scope g2) (hg2 : okName g2 = true)
    (ic : InitCall (.Name "self" p3) [.Constant (.str msg) j p4] x p1 p2 p5) (Z : XF K mg x D C) (hno1 : PySem.W.findIn K (.ref C) g1 = some none) (hno2 : PySem.W.findIn K (.ref C) g2 = some none) :
    FnOk P w K mg base (L2.CX P w) 1 f fd ["self", g1, g2] (spX2 C g1 g2) := by
  refine F.ok S (fun vs H Q E h => ?_) fun cdv A outer s H vs Q E hr h => ?_
  · obtain ⟨a, y, z, rfl, _⟩ := h; rfl
  · obtain ⟨a, y, z, rfl, ha, k⟩ := h
    obtain ⟨pl, hc⟩ := ic (PyProof.Rows.envOfC qual scope s.heap.objs.size f cdv)
    refine ⟨_, pss_cons (ps_expr (pe_dinit hgx Z.gx Z.rd Z.vV (pa_cons (vis_pe (i := 0) rfl vs (by decide) (by decide)) (pa_cons pe_str pa_nil)) (okName_ok hx).1 hc))
      (pss_cons (ps_ost (vis_pe (i := 0) rfl vs (by decide) (by decide)) (vis_pe (i := 1) rfl vg1 (okName_ok hg1).1 (okName_ok hg1).2))
      (pss_one (ps_ost (vis_pe (i := 0) rfl vs (by decide) (by decide)) (vis_pe (i := 2) rfl vg2 (okName_ok hg2).1 (okName_ok hg2).2)))), ?_⟩
    refine ⟨_, rfl, a, C, [.str msg], rfl, by simp, Z.ox, ha, ?_⟩
    refine ⟨_, rfl, _, rfl, a, C, rfl, Z.ox, hno1, .inl ⟨ha, fun dx h1 h2 => ?_⟩⟩
    refine ⟨_, rfl, _, rfl, a, C, rfl, Z.ox, hno2, .inr ⟨dx, [(g1, y)], upd_same, ?_, by simp, k dx h1 h2⟩⟩
    rw [upd_ne h2, upd_same]
end
end Ue

set_option linter.all false
set_option Elab.async false
set_option maxRecDepth 100000
set_option maxHeartbeats 4000000
namespace Ue
open PySem PySem.Spec L2
section
variable {X : Cx} {pins : List (Addr × Obj)} {σ : L2.St} {H1 H2 : Hp} {Q : XK}
/-- an error without fields has been made: it flies, without a dict -/
theorem flyN {hp hp2 h2 : Heap} {g1 g2 : Array GenState} {d1 d2 : Drawn} {t1 t2 : Nat} {os1 os2 : OsState} {a C : Addr} (TT : Raises X (.ref C)) (I1 : L2.Inv X pins σ H1 ⟨hp, g1, d1, t1, os1⟩) (ha : hp.objs.size ≤ a)
    (k : ∀ b o, hp.get? b = some o → hp2.get? b = some o) (un : Un (frs X.stack) [] (upd H1 a (exo a C none)) H2 hp2 h2) (hok : HOk X.prog X.w H2 h2) (ho : os2 = os1) (hb : PyProof.Rows.AllBare g2) (ea : H2 a = some (exo a C none))
    (q : Q (.ref C) none (del H2 a)) : MkP X pins σ Q (.ref a) ⟨h2, g2, d2, t2, os2⟩ := by
  have n1 : H1 a = none := I1.hok.fresh ha
  have old : ∀ {b : Addr} {o : Obj}, hp.get? b = some o → b ≠ a := fun {b o} z => Nat.ne_of_lt (Nat.lt_of_lt_of_le (Heap.lt_size z) ha)
  have un1 : ∀ {b : Addr}, b ≠ a → H1 b = none → (upd H1 a (exo a C none)) b = none := fun {b} hb hn => (upd_ne hb).trans hn
  obtain ⟨t0, ob⟩ := exo_at hok ea
  obtain ⟨G, gin, gout⟩ := restrict h2 (fun b => !decide (b = a))
  have gk : ∀ {b : Addr}, b ≠ a → G.get? b = h2.get? b := fun {b} hb => gin b (by simp [hb])
  have gn : G.get? a = none := gout a (by simp)
  have back : ∀ {b : Addr} {o : HO}, H1 b = some o → (upd H1 a (exo a C none)) b = some o ∧ b ≠ a := fun {b o} z => ⟨(upd_ne (ne_of_none z n1)).trans z, ne_of_none z n1⟩
  have noend : (a : Addr) ∉ ([] : List Addr) := fun z => nomatch z
  have U : Un (frs X.stack) [] H1 (del H2 a) hp G := by
    constructor
    · intro b o z n hf hx
      exact (gk (old z)).trans (un.keep b o (k b o z) (un1 (old z) n) hf hx)
    · intro b o z n hf hx
      obtain ⟨sl, e⟩ := un.slot b o (k b o z) (un1 (old z) n) hf hx
      exact ⟨sl, (gk (old z)).trans e⟩
    · intro b o z n hx
      exact (del_ne (old z)).trans (un.free b o (k b o z) (un1 (old z) n) hx)
    · intro b o z hx
      obtain ⟨o', e⟩ := un.there b o (k b o z) hx
      exact ⟨o', (gk (old z)).trans e⟩
    · intro b xs z
      obtain ⟨z1, z2⟩ := back z
      exact (del_ne z2).trans (un.tups b xs z1)
    · intro b o u z
      obtain ⟨z1, z2⟩ := back z
      exact (del_ne z2).trans (un.frzs b o u z1)
    · intro b ps z
      obtain ⟨z1, z2⟩ := back z
      obtain ⟨m, e⟩ := un.tbls b ps z1
      exact ⟨m, (del_ne z2).trans e⟩
  have hok3 : HOk X.prog X.w (del H2 a) G := fun b o z => by
    have hba : b ≠ a := fun e => by subst e; rw [del_same] at z; cases z
    rw [del_ne hba] at z
    have noa : ∀ {c : Addr}, H2 c = some (.own b) → c ≠ a := fun {c} hc => at_ne ea hc exo_own
    refine (hok b o z).stay (fun c v hc y => ?_) (fun c hc => (del_ne (noa hc)).trans hc) fun c xs hc => (del_ne (at_ne ea hc exo_tup)).trans hc
    rcases hc with hc | hc
    · subst hc; exact (gk hba).trans y
    · exact (gk (noa hc)).trans y
  have J : L2.Inv X pins σ (del H2 a) ⟨G, g2, d2, t2, os2⟩ := I1.call' (ch := []) ho U hok3 hb (fun b z => nomatch z)
  refine ⟨a, _, _, ⟨G, g2, d2, t2, os2⟩, _, .ref C, none, rfl, J, fun b o z => ?_, gn, ob, ⟨rfl, rfl⟩, rfl, rfl, del_same, rfl, hb, TT, q⟩
  have hba : b ≠ a := fun e => by subst e; rw [gn] at z; cases z
  exact (gk hba).symm.trans z
/-- C(), an error without fields -/
def tMk0 (C : Addr) (sp : Sp) : L2.St → Hp → XK → Prop := fun σ H Q => ∀ a, H a = none → sp [.ref a] (upd H a (exo a C none)) (fun v H2 => v = .non ∧ H2 a = some (exo a C none) ∧ Q (.ref C) none (del H2 a)) (fun _ _ _ => False)
theorem pmk0 {CX : CXT} {x : Str} {p pos : Pos} {C fI : Addr} {k : Nat} {fd : FuncData} {sp : Sp} (TT : OexC X.K C) (iC : PySem.W.findIn X.K (.ref C) "__init__" = some (some (.ref fI))) (tI : PySem.W.typeIn X.K (.ref fI) = some (.type "function"))
    (F1 : FnOk X.prog X.w X.K X.mg X.base CX k fI fd ["self"] sp) (hr : Room (k + 1) X.A) (hb : Binds X.K fd ["self"] []) (hx : Passes CX X (fun _ _ _ => False)) (hg : Gl X x) (hm : X.mg x = some (.ref C)) (hdb : (x == ("__debug__" : Str)) = false := by decide) :
    PMk X (.Call (.Name x p) [] [] pos) (tMk0 C sp) := fun pins s σ H Q I h => by
  obtain ⟨nm, q, N, bs, bm, sn, sub, ab, col, dd, k0, k1, k2, k3, k5, hC, hbm⟩ := TT.cls
  refine wpAny_Call_Name_kw (ld_glob I hg hm ?_ hdb)
  refine PySem.W.callWith_K0 I.kIn TT.kC ?_
  obtain ⟨hp, g, dr, tk, os⟩ := s
  have hsz : hp.objs.size ≤ hp.objs.size + 1 := Nat.le_succ _
  have hq := h (hp.objs.size + 1) (I.hok.fresh hsz)
  have kk : ∀ b o, hp.get? b = some o → ((hp.push (PySem.W.kdv_tup [])).push (PySem.HandSPX.excO C hp.objs.size)).get? b = some o := fun b o e => Heap.get?_push_of_some _ (Heap.get?_push_of_some _ e)
  have hget : ((hp.push (PySem.W.kdv_tup [])).push (PySem.HandSPX.excO C hp.objs.size)).get? (hp.objs.size + 1) = some (PySem.HandSPX.excO C hp.objs.size) := by heap_get
  have I2 := I.laid (t' := tk) (a := hp.objs.size + 1) (o := exo (hp.objs.size + 1) C none) (h' := (hp.push (PySem.W.kdv_tup [])).push (PySem.HandSPX.excO C hp.objs.size)) kk hsz (exo_ok hget)
  have r2 : Vals [V.ref (hp.objs.size + 1)] [Value.ref (hp.objs.size + 1)] := .cons rfl .nil
  have room := hr.make C [] []
  refine wpAny_call (PySem.HandSPX.call_own PySem.F.excBase_ValueError (fun Y => PySem.HandSPX.refsVE_contains Y bm hbm) (I.kIn _ _ hC) (PySem.W.looks_findIn I.kIn iC) (fun self => PySem.W.bind_fn I.kIn self tI) (by simp) (codeAny_mono
    (F1.run _ X.stack _ _ ⟨[Value.ref (hp.objs.size + 1)], []⟩ [Value.ref (hp.objs.size + 1)] _ _ (fun _ _ _ => False) room (I2.env0.make C [] []) (hb _ [Value.ref (hp.objs.size + 1)] I2.kIn rfl) r2 hq) fun r s' hq' => ?_))
  cases r with
  | error er => exact hx pins σ _ _ er s' I2 hq'
  | ok fl =>
    cases fl with
    | ret u =>
      obtain ⟨v, H2, os2, bare2, un2, hok2, rv, ev, ea, q2⟩ := hq'
      subst ev
      obtain ⟨h2, g2, d2, t2, os'⟩ := s'
      exact ⟨rv, flyN (raises_own TT.exC TT.tyC) I hsz kk un2 hok2 os2 bare2 ea q2⟩
    | next => exact False.elim hq'
    | brk => exact False.elim hq'
    | cont => exact False.elim hq'
end
/-! ### raise -/
def raiseM (c : Nat) (ms : List M) : MS := fun env => (argsM ms env).toS fun ds e => .exc c ds e
section
variable {T : Tab} {W : WX} {kr : Kd} {pins : List Nat} {env env' : Env} {σ σ' : L2.St} {P H P' H' : Hp} {X : Cx} {pos : Pos} {e e1 e2 : Expr} {es : List Expr} {m m1 m2 : M}
theorem del_upd {a : Addr} {o : HO} (h : H a = none) : del (upd H a o) a = H := by
  funext b
  by_cases hb : b = a
  · subst hb; rw [del_same, h]
  · rw [del_ne hb, upd_ne hb]
theorem noPasses (hx : ∀ (pins : List (Addr × Obj)) (σ : L2.St) (H : Hp) (s : Shared) (e : Value) (s' : Shared), True) : Passes (L2.CX X.prog X.w) X (fun _ _ _ => False) := fun pins σ H s e s' I h => by
  obtain ⟨a, B, H', cls, d, _, _, _, _, _, _, _, q⟩ := h
  exact q.elim
theorem ds_raise0 {c : Nat} {x : Str} {p cpos : Pos} {fI : Addr} {k : Nat} {fd : FuncData} (hc : X.calm = true) (tk : Takes X W) (TT : OexC X.K (T.excA c)) (iC : PySem.W.findIn X.K (.ref (T.excA c)) "__init__" = some (some (.ref fI))) (tI : PySem.W.typeIn X.K (.ref fI) = some (.type "function"))
    (F1 : FnOk X.prog X.w X.K X.mg X.base (L2.CX X.prog X.w) k fI fd ["self"] (spX0 (T.excA c))) (hr : Room (k + 1) X.A) (hb : Binds X.K fd ["self"] []) (hg : Gl X x) (hm : X.mg x = some (.ref (T.excA c))) (hdb : (x == ("__debug__" : Str)) = false := by decide) :
    DS T W kr pins X (.Raise (some (.Call (.Name x p) [] [] cpos)) none pos) (raiseM c []) := by
  refine ps_imp (ps_raise hc tk (pmk0 TT iC tI F1 hr hb (noPasses fun _ _ _ _ _ _ => True.intro) hg hm hdb)) fun D σ H h => ?_
  obtain ⟨env, P, RR, h⟩ := h
  intro a ha
  refine ⟨a, rfl, upd_same, rfl, upd_same, ?_⟩
  rw [del_upd ha]
  exact h σ P H _ _ RR (Fr.refl _ _ _ _) FrP.refl ⟨rfl, .inl ⟨rfl, rfl⟩⟩
theorem put_xd {a dx : Addr} {o o' o2 : HO} (ha : H a = none) (hd : H dx = none) (hne : dx ≠ a) : upd (del (upd (upd (upd H a o) dx o') a o2) a) dx (.xd ([] : List (Str × V))) = upd H dx (.xd []) := by
  funext b
  by_cases hb : b = dx
  · subst hb; rw [upd_same, upd_same]
  · rw [upd_ne hb, upd_ne hb]
    by_cases hba : b = a
    · subst hba; rw [del_same, ha]
    · rw [del_ne hba, upd_ne hba, upd_ne hb, upd_ne hba]
theorem put_xd' {a dx : Addr} {o u : HO} {J : Hp} (ha : H a = none) (hd : H dx = none) (hne : dx ≠ a) (hj : ∀ b, b ≠ a → b ≠ dx → J b = H b) : upd (del J a) dx o = upd H dx o := by
  funext b
  by_cases hb : b = dx
  · subst hb; rw [upd_same, upd_same]
  · rw [upd_ne hb, upd_ne hb]
    by_cases hba : b = a
    · subst hba; rw [del_same, ha]
    · rw [del_ne hba, hj b hba hb]
theorem ds_raise1 {c : Nat} {x g : Str} {p cpos : Pos} {fI : Addr} {k : Nat} {fd : FuncData} (hc : X.calm = true) (tk : Takes X W) (TT : OexC X.K (T.excA c)) (iC : PySem.W.findIn X.K (.ref (T.excA c)) "__init__" = some (some (.ref fI))) (tI : PySem.W.typeIn X.K (.ref fI) = some (.type "function"))
    (F1 : FnOk X.prog X.w X.K X.mg X.base (L2.CX X.prog X.w) k fI fd ["self", g] (spX1 (T.excA c) g)) (hr : Room (k + 1) X.A) (hb : Binds X.K fd ["self", g] []) (hg : Gl X x) (hm : X.mg x = some (.ref (T.excA c))) (hF : T.excF c = [g]) (he : DE T W X e .pure m) (hdb : (x == ("__debug__" : Str)) = false := by decide)
    (hst : starEach [e] X.env = (false, eval e X.env) :: starEach [] X.env := by rfl) (hpl : (backTo cpos (starEach [] X.env)).any (·.1) = false := by rfl) :
    DS T W kr pins X (.Raise (some (.Call (.Name x p) [e] [] cpos)) none pos) (raiseM c [m]) := by
  refine ps_imp (ps_raise hc tk (pmk_oex TT iC tI F1 hr hb .nil (noPasses fun _ _ _ _ _ _ => True.intro) hg hm (da_cons he da_nil trivial hst) hdb hst hpl)) fun D σ H h => ?_
  obtain ⟨env, P, RR, h⟩ := h
  refine ⟨env, P, RR, After.mono h.ofR fun ds env1 P1 H1 R1 F1' h1 xs kxs => ?_⟩
  have rs := kxs.pures (pures_cons pures_nil)
  cases ds with
  | nil => rw [Reps] at rs; subst rs; cases kxs
  | cons d0 ds =>
    have rs' := rs
    rw [Reps] at rs
    obtain ⟨v, r, rfl, r1, rs⟩ := rs
    have hl := kxs.rdbs R1
    cases kxs with
    | cons kx kt =>
      cases kt
      refine ⟨by simp, fun a ha => ⟨a, v, by simp, upd_same, fun dx hdx hne => ?_⟩⟩
      have hdx1 : H1 dx = none := by rw [upd_ne hne] at hdx; exact hdx
      refine ⟨rfl, dx, [(g, v)], upd_same, by rw [upd_ne hne, upd_same], hdx1, ?_⟩
      rw [put_xd' (H := H1) (u := .own 0) ha hdx1 hne (fun b h1 h2 => by rw [upd_ne h1, upd_ne h2, upd_ne h1])]
      obtain ⟨R2, F2⟩ := R1.newP (o := .xd [(g, v)]) hdx1
      refine h1 σ _ _ _ _ R2 F2 FrP.refl ⟨rfl, .inr ⟨dx, [(g, v)], [v], rfl, upd_same, fun j f w hj hw => ?_, Reps.sub F2.mono _ _ rs'⟩⟩
      rw [hF] at hj
      cases j with
      | zero => simp at hj hw; subst hj; subst hw; simp
      | succ j => simp at hj
theorem ds_raise2 {c : Nat} {x g1 g2 : Str} {p cpos : Pos} {fI : Addr} {k : Nat} {fd : FuncData} (hc : X.calm = true) (tk : Takes X W) (TT : OexC X.K (T.excA c)) (iC : PySem.W.findIn X.K (.ref (T.excA c)) "__init__" = some (some (.ref fI))) (tI : PySem.W.typeIn X.K (.ref fI) = some (.type "function"))
    (F1 : FnOk X.prog X.w X.K X.mg X.base (L2.CX X.prog X.w) k fI fd ["self", g1, g2] (spX2 (T.excA c) g1 g2)) (hr : Room (k + 1) X.A) (hb : Binds X.K fd ["self", g1, g2] []) (hg : Gl X x) (hm : X.mg x = some (.ref (T.excA c))) (hF : T.excF c = [g1, g2]) (hne12 : (g1 == g2) = false)
    (he1 : DE T W X e1 .pure m1) (he2 : DE T W X e2 .pure m2) (hdb : (x == ("__debug__" : Str)) = false := by decide)
    (hst : starEach [e1, e2] X.env = (false, eval e1 X.env) :: starEach [e2] X.env := by rfl) (hst2 : starEach [e2] X.env = (false, eval e2 X.env) :: starEach [] X.env := by rfl) (hpl : (backTo cpos (starEach [e2] X.env)).any (·.1) = false := by rfl) :
    DS T W kr pins X (.Raise (some (.Call (.Name x p) [e1, e2] [] cpos)) none pos) (raiseM c [m1, m2]) := by
  refine ps_imp (ps_raise hc tk (pmk_oex TT iC tI F1 hr hb .nil (noPasses fun _ _ _ _ _ _ => True.intro) hg hm (da_cons he1 (da_cons he2 da_nil trivial hst2) trivial hst) hdb hst hpl)) fun D σ H h => ?_
  obtain ⟨env, P, RR, h⟩ := h
  refine ⟨env, P, RR, After.mono h.ofR fun ds env1 P1 H1 R1 F1' h1 xs kxs => ?_⟩
  have rs := kxs.pures (pures_cons (pures_cons pures_nil))
  have rs' := rs
  cases kxs with
  | @cons _ _ d1 ds' v _ kx kt =>
    cases kt with
    | @cons _ _ d2 ds'' w _ ky kt =>
      cases kt
      refine ⟨by simp, fun a ha => ⟨a, v, w, by simp, upd_same, fun dx hdx hne => ?_⟩⟩
      have hdx1 : H1 dx = none := by rw [upd_ne hne] at hdx; exact hdx
      refine ⟨rfl, dx, [(g2, w), (g1, v)], by rw [upd_ne (fun z => hne z.symm), upd_same], upd_same, hdx1, ?_⟩
      rw [put_xd' (H := H1) (u := .own 0) ha hdx1 hne (fun b h1 h2 => by rw [upd_ne h2, upd_ne h1, upd_ne h2, upd_ne h1])]
      obtain ⟨R2, F2⟩ := R1.newP (o := .xd [(g2, w), (g1, v)]) hdx1
      refine h1 σ _ _ _ _ R2 F2 FrP.refl ⟨rfl, .inr ⟨dx, [(g2, w), (g1, v)], [v, w], rfl, upd_same, fun j f u hj hw => ?_, Reps.sub F2.mono _ _ rs'⟩⟩
      rw [hF] at hj
      match j, hj, hw with
      | 0, hj, hw => simp at hj hw; subst hj; subst hw; simp [List.lookup, hne12]
      | 1, hj, hw => simp at hj hw; subst hj; subst hw; simp
      | j + 2, hj, hw => simp at hj
end
end Ue

set_option linter.all false
set_option Elab.async false
set_option maxRecDepth 100000
set_option maxHeartbeats 4000000
namespace Ue
open PySem PySem.Spec L2
/-! ### try: .. except X: .. -/
def tryM (body : MS) (caught : Nat → Option Bool) (suite : MS) : MS := fun env => match body env with
  | .exc c fs e => (match caught c with | some true => (match suite e with | .exc _ _ _ => .stk | r => r) | some false => .exc c fs e | none => .stk)
  | r => r
section
variable {T : Tab} {W : WX} {kr : Kd} {pins : List Nat} {env env' : Env} {σ σ' : L2.St} {P H P' H' : Hp} {X : Cx} {pos : Pos}
theorem ds_try {x : Str} {cv : Value} {body suite : List Stmt} {b₀ : Stmt} {np pos' : Pos} {mb ms : MS} {caught : Nat → Option Bool} (hs : X.stack = X.env :: X.outer) (hf : X.env.frame = some X.env.locals) (hc : Names X x cv) (tk : Takes X W)
    (hx : ∀ c b, caught c = some b → PySem.W.exmOne X.K (.ref (T.excA c)) cv = some b)
    (hb : ∀ (W' : WX) (pn : List (Addr × Obj)) (xe : Value → Shared → Prop), Takes (X.tr pn xe) W' → PassesOwn (model X.prog X.w) X.A X.env xe → DSs T W' kr pins (X.tr pn xe) body mb)
    (hsu : ∀ (a : Addr) (oe : Obj) (cls : Value) (d : Option Addr) (pn : List (Addr × Obj)), Zc cls d oe → (∃ vs, oe.data = .fields vs) → DSs T W0 kr pins (X.suite a ((a, oe) :: pn)) (b₀ :: suite) ms) :
    DS T W kr pins X (.Try body [.ExceptHandler (some (.Name x np)) none (b₀ :: suite) pos'] [] [] pos) (tryM mb caught ms) := by
  refine ps_imp (ps_try_only hs hf hc tk (fun W' pn xe t p => hb W' pn xe t p) (fun a oe cls d pn h1 h2 => hsu a oe cls d pn h1 h2)) fun D σ H h => ?_
  obtain ⟨env, P, RR, h⟩ := h
  refine ⟨env, P, RR, ?_⟩
  unfold tryM at h
  cases e : mb env with
  | exc c fs e1 =>
    simp only [e] at h
    intro σ1 P1 H1 cls dd R1 F1 p1 x1
    obtain ⟨rfl, x2⟩ := x1
    cases q : caught c with
    | none => simp only [q] at h; exact False.elim h
    | some b =>
      simp only [q] at h
      refine ⟨b, hx c b q, fun hb a ha => ?_, fun hb => ?_⟩
      · subst hb
        refine ⟨e1, P1, R1, ?_⟩
        have h := AfterS.step h F1 p1
        cases e2 : ms e1 with
        | exc _ _ _ => simp only [e2] at h; exact False.elim h
        | nx e3 => simp only [e2] at h; exact h
        | brk e3 => simp only [e2] at h; exact h
        | cnt e3 => simp only [e2] at h; exact h
        | ret d e3 => simp only [e2] at h; exact h
        | stk => simp only [e2] at h; exact h
      · subst hb
        exact h σ1 P1 H1 _ dd R1 F1 p1 ⟨rfl, x2⟩
  | nx e3 => rw [e] at h; exact h
  | brk e3 => rw [e] at h; exact h
  | cnt e3 => rw [e] at h; exact h
  | ret d e3 => rw [e] at h; exact h
  | stk => rw [e] at h; exact h
end
end Ue

set_option linter.all false
set_option Elab.async false
set_option maxRecDepth 100000
set_option maxHeartbeats 4000000
namespace Ue
open PySem PySem.Spec L2
section
variable {T : Tab} {W : WX} {kr : Kd} {pins : List Nat} {env env' : Env} {σ σ' : L2.St} {P H P' H' : Hp} {X : Cx} {pos : Pos} {e a b c : Expr} {ka kb kc : Kd} {m ma mb mc : M}
/-! ### a < b < c -/
def chainM (g g' : D → D → Option Bool) (ma mb mc : M) : MT := fun env => (ma env).bind fun x e1 => (mb e1).bind fun y e2 => match g x y with
  | some true => (mc e2).bind fun z e3 => liftB (g' y z) e3
  | some false => .ok false e2
  | none => .stk
theorem rd_chain {r r' : R2} {g g' : D → D → Option Bool} (hD : CmpD T r g) (hD' : CmpD T r' g') {Q : Bool → Hp → Prop} (h : rdT T W (chainM g g' ma mb mc) σ H Q) :
    tChain r r' (rdE T W .pure ma) (rdE T W .pure mb) (rdE T W .pure mc) σ H (fun x H' => ∃ k, x = .bl k ∧ Q k H') := by
  obtain ⟨env, P, RR, h⟩ := h
  refine ⟨env, P, RR, After.mono h.bind fun d1 env1 P1 H1 R1 F1 h1 x kx nx => ?_⟩
  refine ⟨env1, P1, R1, After.mono h1.bind fun d2 env2 P2 H2 R2 F2 h2 y ky ny => ?_⟩
  have kx2 : Rep T P2 d1 x := Rep.sub F2.mono _ _ kx
  have ky2 : Rep T P2 d2 y := ky
  cases e : g d1 d2 with
  | none => simp only [e] at h2; exact False.elim h2
  | some b =>
    refine hD P2 H2 d1 d2 x y b _ R2.sub (.inl kx2) (.inl ky2) e ?_
    refine ⟨b, rfl, ?_⟩
    cases b with
    | false =>
      simp only [e] at h2
      exact iteF ⟨false, rfl, h2.here R2 (Fr.refl _ _ _ _)⟩
    | true =>
      simp only [e] at h2
      refine iteT ⟨env2, P2, R2, After.mono h2.bind fun d3 env3 P3 H3 R3 F3 h3 z kz nz => ?_⟩
      have ky3 : Rep T P3 d2 y := Rep.sub F3.mono _ _ ky2
      have kz3 : Rep T P3 d3 z := kz
      cases e2 : g' d2 d3 with
      | none => rw [e2] at h3; exact False.elim h3
      | some b =>
        rw [e2] at h3
        exact hD' P3 H3 d2 d3 y z b _ R3.sub (.inl ky3) (.inl kz3) e2 ⟨b, rfl, h3.here R3 (Fr.refl _ _ _ _)⟩
theorem dt_chain {op op' : CmpOp} {r r' : R2} {g g' : D → D → Option Bool} (ho : OpR X (compareOp op) r) (hD : CmpD T r g) (ho' : OpR X (compareOp op') r') (hD' : CmpD T r' g') (ha : DE T W X a .pure ma) (hb : DE T W X b .pure mb) (hc : DE T W X c .pure mc) (hm : lastMarks [op, op'] [b, c] = false := by rfl) :
    DT T W X (.Compare a [op, op'] [b, c] pos) (chainM g g' ma mb mc) := pt_imp (pt_chain ho ho' ha hb hc hm) fun _ _ _ h => rd_chain hD hD' h
/-- a test's reading as a value's -/
theorem rd_asV {m : MT} {t : TE} {Q : VK} (k : ∀ (Q' : Bool → Hp → Prop), rdT T W m σ H Q' → t σ H (fun x H' => ∃ b, x = .bl b ∧ Q' b H')) (mono : ∀ (Q Q' : VK), (∀ x H, Q x H → Q' x H) → t σ H Q → t σ H Q') (h : rdE T W .pure (bV m) σ H Q) : t σ H Q := by
  obtain ⟨env, P, RR, h⟩ := h
  refine mono _ _ ?_ (k (fun b H' => Q (.bl b) H') ⟨env, P, RR, After.mono h.bind fun b env1 P1 H1 R1 F1 h1 => h1.here R1 (Fr.refl _ _ _ _) _ (show Rep T P1 (.bl b) (.bl b) from rep_bl) trivial⟩)
  rintro x H' ⟨c, rfl, q⟩
  exact q
theorem rdE_mono {k : Kd} {m : M} {Q Q' : VK} (h : ∀ x H, Q x H → Q' x H) (q : rdE T W k m σ H Q) : rdE T W k m σ H Q' := by
  obtain ⟨env, P, RR, q⟩ := q
  exact ⟨env, P, RR, After.mono q fun d e P' H' _ _ z x kx nx => h _ _ (z x kx nx)⟩
theorem de_chain {op op' : CmpOp} {r r' : R2} {g g' : D → D → Option Bool} (ho : OpR X (compareOp op) r) (hD : CmpD T r g) (ho' : OpR X (compareOp op') r') (hD' : CmpD T r' g') (mr : ∀ x y H Q Q', (∀ v H, Q v H → Q' v H) → r x y H Q → r x y H Q') (mr' : ∀ x y H Q Q', (∀ v H, Q v H → Q' v H) → r' x y H Q → r' x y H Q')
    (ha : DE T W X a .pure ma) (hb : DE T W X b .pure mb) (hc : DE T W X c .pure mc) (hm : lastMarks [op, op'] [b, c] = false := by rfl) :
    DE T W X (.Compare a [op, op'] [b, c] pos) .pure (bV (chainM g g' ma mb mc)) := pe_imp (pe_chain ho ho' ha hb hc hm) fun σ H Q h => by
  refine rd_asV (fun Q' q => rd_chain hD hD' q) (fun Q Q' k q => ?_) h
  refine rdE_mono (fun x H1 q => rdE_mono (fun y H2 q => mr _ _ _ _ _ (fun v H3 q => ?_) q) q) q
  obtain ⟨b, e, q⟩ := q
  refine ⟨b, e, ?_⟩
  cases b with
  | true => exact iteT (rdE_mono (fun z H4 q => mr' _ _ _ _ _ k q) q)
  | false => exact iteF (k _ _ q)
theorem mono_rI0 {f : Int → Int → V} : ∀ x y H Q Q', (∀ v H, Q v H → Q' v H) → rI0 f x y H Q → rI0 f x y H Q' := fun x y H Q Q' k ⟨i, j, h1, h2, q⟩ => ⟨i, j, h1, h2, k _ _ q⟩
/-! ### isinstance with a built-in class -/
def tyN : D → Option String
  | .non => some "NoneType" | .bl _ => some "bool" | .int _ => some "int" | .str _ => some "str" | .tup _ => some "tuple" | .lst _ => some "list" | .scr _ => some "list" | .obj _ _ => none
def isiTy (n : String) (d : D) : Option Bool := (tyN d).bind fun s => kitB s n
theorem tyx_of {d : D} {x : V} {s : String} (R1 : PSub P H) (h : Rdb T P H d x) (e : tyN d = some s) : TyX T.K H x (.type s) := by
  cases d with
  | non => cases e; rw [h.nonE]; exact .base .non
  | bl b => cases e; rw [h.blE]; exact .base (.bl b)
  | int i => cases e; rw [h.intE]; exact .base (.int i)
  | str i => cases e; rw [h.strE]; exact .base (.str i)
  | tup ds =>
    cases e
    obtain ⟨a, vs, rfl, q, _⟩ := h.tupE R1
    rcases q with (q | ⟨o, q⟩) | ⟨o, its, n, q1, q2, _⟩
    · exact .base (.tup q)
    · exact .fTuple q
    · exact .kTuple q1 q2
  | lst ds =>
    cases e
    obtain ⟨a, vs, rfl, q, _⟩ := h.lstE R1
    rcases q with q | ⟨o, q⟩
    · exact .base (.lst q)
    · exact .base (.frz q)
  | scr ns =>
    cases e
    obtain ⟨a, rfl, q⟩ := h.scrE R1
    rcases q with (q | ⟨o, q⟩) | ⟨o, its, n, q1, q2, _⟩
    · exact .base (.lst q)
    · exact .base (.frz q)
    · exact .kList q1 q2
  | obj c fs => cases e
def isiM (n : String) (ma : M) : M := fun env => (ma env).bind fun d e => match isiTy n d with | some b => .ok (.bl b) e | none => .stk
theorem rd_isi {n : String} {Q : VK} (hK : X.K = T.K) (h : rdE T W .pure (isiM n ma) σ H Q) : tCB (rIsi X.K) (tCons (rdE T W ka ma) (tCons (tC (.ty n)) tNil)) σ H Q := by
  obtain ⟨env, P, RR, h⟩ := h
  refine ⟨env, P, RR, After.mono h.bind fun d env1 P1 H1 R1 F1 h1 x kx nx => ?_⟩
  cases e : isiTy n d with
  | none => simp only [e] at h1; exact False.elim h1
  | some b =>
    simp only [e] at h1
    unfold isiTy at e
    cases e2 : tyN d with
    | none => rw [e2] at e; cases e
    | some s =>
      rw [e2] at e
      rw [hK]
      exact ⟨x, .ty n, .type s, .type n, b, rfl, .ty n, tyx_of R1.sub (kx.rdb R1) e2, kit_ty e, h1.here R1 (Fr.refl _ _ _ _) _ (show Rep T P1 (.bl b) (.bl b) from rep_bl) trivial⟩
theorem de_isi {n : String} {x : Str} {p p2 : Pos} (hK : X.K = T.K) (hg : Gl X "isinstance") (hm : X.mg "isinstance" = none) (hg2 : Gl X x) (hm2 : X.mg x = none) (hv : bootBuiltins x = some (.type n)) (ha : DE T W X a ka ma) (hn : x ≠ "__name__" := by decide) (hdb : (x == ("__debug__" : Str)) = false := by decide)
    (he : starEach [a, .Name x p2] X.env = (false, eval a X.env) :: starEach [.Name x p2] X.env := by rfl) (hpl : (backTo pos (starEach [.Name x p2] X.env)).any (·.1) = false := by rfl) :
    DE T W X (.Call (.Name "isinstance" p) [a, .Name x p2] [] pos) .pure (isiM n ma) :=
  pe_imp (pe_callB call_isi hg hm (by decide +kernel) (pa_cons ha (pa_cons (pe_bltn (v := .ty n) hg2 hm2 hv rfl hn hdb) pa_nil) he) (by decide) (by decide) he hpl) fun _ _ _ h => rd_isi hK h
theorem tk0 : Takes X W0 := fun u s' h => by
  obtain ⟨a, B, sI, pins, σ, H, cls, d, h⟩ := h
  obtain ⟨_, _, _, _, _, _, _, _, q⟩ := h
  exact q.elim
/-! ### math.gcd -/
theorem cd_gcd : CallD T rGcd .pure (ii gcdI) := fun env σ P H ds xs d Q R1 hx e k => by
  match ds, hx, e with
  | [.int i, .int j], hx, e =>
    obtain ⟨x, y, rfl, hx, hy⟩ := hx.two
    cases e
    exact ⟨i, j, by rw [hx.intE, hy.intE], k _ P H R1 (Fr.refl _ _ _ _) (show Rep T P _ _ from rep_int) trivial⟩
theorem de_callF {x : Str} {id : String} {p : Pos} {es : List Expr} {ks : List Kd} {ms : List M} {k : Kd} {r : List V → Hp → VK → Prop} {g : List D → Option D} (hc : CallR X (.builtin id) r) (hD : CallD T r k g) (hg : Gl X x) (hm : X.mg x = some (.builtin id)) (ha : DA T W X (e :: es) ks ms)
    (hdb : (x == ("__debug__" : Str)) = false := by decide) (he : starEach (e :: es) X.env = (false, eval e X.env) :: starEach es X.env := by rfl) (hpl : (backTo pos (starEach es X.env)).any (·.1) = false := by rfl) : DE T W X (.Call (.Name x p) (e :: es) [] pos) k (callM g ms) :=
  pe_imp (pe_callBfun hc hg hm ha hdb he hpl) fun _ _ _ h => rd_call hD h
end
/-! ### the end: the law's def at the script -/
theorem law_sp {T : Tab} {F : FM} {n : Nat} (hF : ∀ ns : List Int, ns.length ≤ n → ∃ as, F [.v (.scr ns)] = .ok (.bl true) as) : ∀ (H : Hp) (a : Addr) (ns : List Int), ns.length ≤ n → Only H → SqL T.K H a (ns.map V.int) → spF T .pure 1 F [.ref a] H (fun v _ => v = .bl true) fun _ _ _ => False := fun H a ns hl hO hS => by
  obtain ⟨as, e⟩ := hF ns hl
  refine ⟨[.v (.scr ns)], H, ⟨PSub.refl _, fun i e h => ?_, fun i j e f b n h1 h2 o1 o2 => ?_, rfl⟩, rfl, ?_⟩
  · cases i with
    | zero => cases h; exact ⟨_, rfl, by show Rep T.nb H _ _; rw [Rep]; exact ⟨a, rfl, hS⟩⟩
    | succ i => simp at h
  · cases i with
    | zero => cases h1; cases o1
    | succ i => simp at h1
  · rw [e]
    intro P' H' x R2 F2 kx nx
    have kx : Rep T.nb P' (.bl true) x := kx
    rw [Rep] at kx
    exact kx
end Ue
namespace Ue
open PySem PySem.Spec L2
section
variable {T : Tab} {W : WX} {env env' : Env} {σ σ' : L2.St} {P H P' H' : Hp} {X : Cx} {pos : Pos} {tg e a b c : Expr} {m : M}
/-! ### a list or a tuple is walked -/
def asSeq (m : M) : MI := fun env => (m env).bind fun d e => match d with | .lst ds => .ok ds e | .tup ds => .ok ds e | .scr ns => .ok (ns.map D.int) e | _ => .stk
theorem pi_or {w1 w2 : TI} (h1 : PI X tg e w1) (h2 : PI X tg e w2) : PI X tg e (fun σ H Q => w1 σ H Q ∨ w2 σ H Q) := ⟨fun pins s σ H Q I h => h.elim (h1.run pins s σ H Q I) (h2.run pins s σ H Q I)⟩
theorem yl_scr {a : Addr} {ns : List Int} (h : SqL T.K P a (ns.map V.int)) : Yl T (Itl T.K a) P (ns.map D.int) := fun P1 H1 s1 s2 => by
  have q : SqL T.K H1 a (ns.map V.int) := sqL_sub s2 (sqL_sub s1 h)
  refine ⟨fun i d hd => ?_, fun i hi => ⟨_, q, by simpa using hi⟩⟩
  rw [List.getElem?_map] at hd
  cases e : ns[i]? with
  | none => rw [e] at hd; cases hd
  | some n =>
    rw [e] at hd; cases hd
    have hv : (ns.map V.int)[i]? = some (.int n) := by rw [List.getElem?_map, e]; rfl
    refine ⟨⟨_, _, q, hv⟩, fun x H' y => ?_⟩
    obtain ⟨rfl, y⟩ := y
    have := y _ q
    rw [hv] at this; cases this
    exact ⟨P1, rep_int, .inl ⟨rfl, rfl⟩⟩
theorem di_seq (hK : X.K = T.K) (h : DE T W X e .pure m) : DI T W X tg e (asSeq m) := pi_imp (pi_or (pi_list h) (pi_tup h)) fun σ H Q h => by
  obtain ⟨env, P, RR, h⟩ := h
  rw [hK]
  have hb := h.bind
  cases e1 : m env with
  | stk => rw [e1] at hb; exact hb.elim
  | exc c fs e2 =>
    refine .inl ⟨env, P, RR, ?_⟩
    rw [e1] at hb ⊢
    exact hb
  | ok d env1 =>
    cases d with
    | lst ds =>
      refine .inl ⟨env, P, RR, After.at hb fun d' env2 P1 H1 e2 R1 F1 h1 x kx nx => ?_⟩
      rw [e1] at e2; cases e2
      have kx : Rep T P1 (.lst ds) x := kx
      rw [Rep] at kx
      obtain ⟨a, vs, rfl, q1, q2⟩ := kx
      exact ⟨a, rfl, ⟨vs, .inl (Rd.sub R1.sub q1)⟩, h1.here R1 (Fr.refl _ _ _ _) _ (yl_list rfl q1 q2 trivial)⟩
    | scr ns =>
      refine .inl ⟨env, P, RR, After.at hb fun d' env2 P1 H1 e2 R1 F1 h1 x kx nx => ?_⟩
      rw [e1] at e2; cases e2
      have kx : Rep T P1 (.scr ns) x := kx
      rw [Rep] at kx
      obtain ⟨a, rfl, q1⟩ := kx
      exact ⟨a, rfl, ⟨_, sqL_sub R1.sub q1⟩, h1.here R1 (Fr.refl _ _ _ _) _ (yl_scr q1)⟩
    | tup ds =>
      refine .inr ⟨env, P, RR, After.at hb fun d' env2 P1 H1 e2 R1 F1 h1 x kx nx => ?_⟩
      rw [e1] at e2; cases e2
      have kx : Rep T P1 (.tup ds) x := kx
      rw [Rep] at kx
      obtain ⟨a, vs, rfl, q1, q2⟩ := kx
      exact ⟨a, rfl, ⟨vs, sqT_sub R1.sub q1⟩, h1.here R1 (Fr.refl _ _ _ _) _ (yl_tup rfl q1 q2)⟩
    | _ =>
      refine .inl ⟨env, P, RR, After.at hb fun d' env2 P1 H1 e2 R1 F1 h1 x kx nx => ?_⟩
      rw [e1] at e2; cases e2
      exact False.elim h1
theorem hu65 {k : Nat} {A : Around} (hr : Room k A) : A.units + 65 < cLine := by
  have := hr.un
  omega
theorem steady_optN {i : Nat} : Steady (.own i) (optM none) := fun env d env' h => by cases h; rfl
theorem steady_opt {i : Nat} (h : Steady (.own i) m) : Steady (.own i) (optM (some m)) := fun env d env' e => by
  have e : (m env).bind (fun d e1 => match d with | .int i => R.ok (some i) e1 | _ => R.stk) = .ok d env' := e
  cases q : m env with
  | ok d0 e1 =>
    rw [q] at e
    cases d0 with
    | int j =>
      have e : R.ok (some j) e1 = R.ok d env' := e
      cases e; exact h env _ _ q
    | _ => cases e
  | exc c fs e1 => rw [q] at e; cases e
  | stk => rw [q] at e; cases e
end
end Ue

set_option linter.all false
set_option Elab.async false
set_option maxRecDepth 100000
set_option maxHeartbeats 4000000
namespace Ue
open PySem PySem.Spec L2
/-! ### what the written part says of error classes, told by a Bool -/
def oexB (K : PySem.W.Frag) (C : Addr) : Bool := (match K.lookup C with
  | some ⟨.type "type", _, .cls cd, sl⟩ => (match cd.mro, sl.toList with
    | .ref C' :: bm, [_, _, _, _, some (.builtin n), _] => C' == C && n == "ValueError.__new__" && !cd.hasDel && cd.hasDict && PySem.HandSPX.refsVE bm
    | _, _ => false)
  | _ => false) && (decide (PySem.W.findIn K (.ref C) "__setattr__" = some (some (.builtin "object.__setattr__"))) && (decide (PySem.W.subIn K (.ref C) (.type "BaseException") = some true) && (decide (PySem.W.typeIn K (.ref C) = some (.type "type")) && PySem.W.keepIn K (.ref C))))
theorem oexB_ok {K : PySem.W.Frag} {C : Addr} (h : oexB K C = true) : OexC K C := by
  obtain ⟨q, h⟩ := He.ba h
  obtain ⟨h2, h⟩ := He.ba h
  obtain ⟨h3, h⟩ := He.ba h
  obtain ⟨h4, h5⟩ := He.ba h
  refine ⟨?_, of_decide_eq_true h2, of_decide_eq_true h3, of_decide_eq_true h4, h5⟩
  split at q
  · rename_i dd cd sl ho
    split at q
    · rename_i C' bm k0 k1 k2 k3 n k5 hm hs
      simp only [Bool.and_eq_true, beq_iff_eq, Bool.not_eq_true'] at q
      obtain ⟨⟨⟨⟨e1, e2⟩, hdel⟩, hdc⟩, ht⟩ := q
      subst e1 e2
      obtain ⟨nm, bs, mro, ns, qn, hd, sn, sub, ab, col, del⟩ := cd
      dsimp only at hm hdel hdc
      subst hm hdel hdc
      have hsl : sl = #[k0, k1, k2, k3, some (.builtin "ValueError.__new__"), k5] := by
        obtain ⟨l⟩ := sl
        simp only at hs
        rw [hs]
      subst hsl
      exact ⟨nm, qn, ns, bs, bm, sn, sub, ab, col, dd, k0, k1, k2, k3, k5, ho, ht⟩
    · exact absurd q (by decide)
  · exact absurd q (by decide)
/-- the base D of the errors: without an __init__ of its own -/
def xdB (K : PySem.W.Frag) (D : Addr) : Bool := PySem.W.readsIn K D (.type "type") && (decide (PySem.W.specialIn K (.ref D) "__getattribute__" = some (some (.builtin "type.__getattribute__"))) && (match PySem.W.findCls K (.ref D) (.type "type") "__init__" with
  | some (.val (.builtin n)) => decide (n = "ValueError.__init__")
  | _ => false))
theorem xdB_ok {K : PySem.W.Frag} {D : Addr} (h : xdB K D = true) : ClX.CRead K D (.type "type") ∧ PySem.W.findCls K (.ref D) (.type "type") "__init__" = some (.val (.builtin "ValueError.__init__")) := by
  obtain ⟨h1, h⟩ := He.ba h
  obtain ⟨h2, h3⟩ := He.ba h
  refine ⟨⟨h1, of_decide_eq_true h2⟩, ?_⟩
  split at h3
  · rename_i n e
    rw [e, of_decide_eq_true h3]
  · cases h3
/-- an error's class with its own __init__ -/
def xcB (K : PySem.W.Frag) (C : Addr) (fs : List Str) : Bool := oexB K C && (decide (PySem.W.findIn K (.ref C) "__init__" = some (some (.ref (He.ma K C "__init__")))) && (decide (PySem.W.typeIn K (.ref (He.ma K C "__init__")) = some (.type "function")) && fs.all fun f => decide (PySem.W.findIn K (.ref C) f = some none)))
structure XcF (K : PySem.W.Frag) (C : Addr) (fs : List Str) : Prop where
  o : OexC K C
  i : PySem.W.findIn K (.ref C) "__init__" = some (some (.ref (He.ma K C "__init__")))
  t : PySem.W.typeIn K (.ref (He.ma K C "__init__")) = some (.type "function")
  n : ∀ f ∈ fs, PySem.W.findIn K (.ref C) f = some none
theorem xcB_ok {K : PySem.W.Frag} {C : Addr} {fs : List Str} (h : xcB K C fs = true) : XcF K C fs := by
  obtain ⟨h1, h⟩ := He.ba h
  obtain ⟨h2, h⟩ := He.ba h
  obtain ⟨h3, h4⟩ := He.ba h
  exact ⟨oexB_ok h1, of_decide_eq_true h2, of_decide_eq_true h3, fun f hf => of_decide_eq_true (List.all_eq_true.mp h4 f hf)⟩
/-- which error a handler of the class at A takes, by number -/
def exmB (K : PySem.W.Frag) (A : Addr) (t : List (Addr × Bool)) : Bool := t.all fun q => decide (PySem.W.exmOne K (.ref q.1) (.ref A) = some q.2)
theorem exmB_ok {K : PySem.W.Frag} {A : Addr} {t : List (Addr × Bool)} (h : exmB K A t = true) {C : Addr} {b : Bool} (i : Nat) (e : t[i]? = some (C, b)) : PySem.W.exmOne K (.ref C) (.ref A) = some b := of_decide_eq_true (List.all_eq_true.mp h _ (List.mem_of_getElem? e))
/-- a name of the top that stands for a function of the built-in world -/
def bltB (K : PySem.W.Frag) (x : Str) (id : String) : Bool := decide (PySem.W.nsIn K mainGlobals x = some (some (.builtin id)))
theorem bltB_ok {K : PySem.W.Frag} {x : Str} {id : String} {h : Heap} {mg : Str → Option Value} (X : K.In h) (G : h.Ns mainGlobals mg) (e : bltB K x id = true) : mg x = some (.builtin id) := PySem.W.mg_of X G (of_decide_eq_true e)
def cBody : Stmt → List Stmt
  | .ClassDef _ _ _ b .. => b
  | _ => []
def allB (l : List Bool) : Bool := l.all id
theorem allB_ok {l : List Bool} (h : allB l = true) (i : Nat) {b : Bool} (e : l[i]? = some b) : b = true := List.all_eq_true.mp h b (List.mem_of_getElem? e)
end Ue
namespace Ue
open PySem PySem.Spec PyProof.Rows L2
/-! ### the law's call where no repr is under way: a heap that knows the script alone -/
def sole (a : Addr) (u : HO) : Hp := fun b => if b = a then some u else none
theorem sole_at {a : Addr} {u : HO} : sole a u a = some u := if_pos rfl
theorem sole_some {a b : Addr} {u v : HO} (h : sole a u b = some v) : b = a ∧ v = u := by
  unfold sole at h
  by_cases e : b = a
  · rw [if_pos e] at h; cases h; exact ⟨e, rfl⟩
  · rw [if_neg e] at h; cases h
/-- the heap in which the script is seen, whether K holds it or not -/
theorem script_heap {P : Program} {w : World} {K : PySem.W.Frag} {h : Heap} {a : Addr} {vs : List Value} {ns : List Int} (KX : K.In h) (ha : h.get? a = some { cls := .type "list", data := .seq vs.toArray }) (hi : IntsAre vs ns) (hl : ns.length ≤ sizeLine) :
    ∃ H : Hp, Only H ∧ SqL K H a (ns.map V.int) ∧ HOk P w H h ∧ ∀ b u, H b = some u → b = a ∧ K.lookup a = none := by
  have rv := vals_ints hi
  have len := hi.length
  cases hk : K.lookup a with
  | some o =>
    obtain rfl : o = _ := Option.some.inj ((KX a o hk).symm.trans ha)
    exact ⟨fun _ => none, fun _ => .inl rfl, .inr ⟨_, vs.toArray, _, hk, rfl, rfl, rfl, by rw [List.size_toArray, len]; exact hl, by simpa using rv⟩, fun b u (z : (none : Option HO) = some u) => (nomatch z), fun b u (z : (none : Option HO) = some u) => nomatch z⟩
  | none =>
    refine ⟨sole a (.frz { cls := .type "list", data := .seq vs.toArray } (.lst (ns.map V.int))), fun b => ?_, .inl (.inr ⟨_, sole_at⟩), fun b u z => ?_, fun b u z => ⟨(sole_some z).1, rfl⟩⟩
    · cases q : sole a (.frz { cls := .type "list", data := .seq vs.toArray } (.lst (ns.map V.int))) b with
      | none => exact .inl rfl
      | some u => obtain ⟨_, rfl⟩ := sole_some q; exact .inr ⟨_, _, rfl⟩
    · obtain ⟨rfl, rfl⟩ := sole_some z
      exact ⟨ha, by rw [List.length_map]; exact hl, vs, _, rv, ha⟩
theorem law_callG {P : Program} {w : World} {K : PySem.W.Frag} {mg mb : Str → Option Value} {Z : CXT} {k : Nat} {fa a : Addr} {fd : FuncData} {x : Str} {sp : Sp} {t : Shared} {vs : List Value} {ns : List Int}
    (KX : K.In t.heap) (hm : t.heap.Ns mainGlobals mg) (hb : t.heap.Ns builtinsNs mb) (hbb : ∀ x : Str, x ≠ "__name__" → mb x = bootBuiltins x) (hlim : t.heap.NoLimit) (hgen : t.gens = #[])
    (ha : t.heap.get? a = some { cls := .type "list", data := .seq vs.toArray }) (hi : IntsAre vs ns) (hl : ns.length ≤ sizeLine) (room : Room k callerA)
    (F : ∀ base : Heap, K.In base → base.Ns mainGlobals mg → FnG P w K mg base Z k fa fd [x] sp) (bind : ∀ (s : Shared) (u : Value), BindsTo s fd ⟨[u], []⟩ [(x, u)])
    (hsp : ∀ H : Hp, Only H → SqL K H a (ns.map V.int) → sp [.ref a] H (fun v _ => v = .bl true) fun _ _ _ => False)
    (noE : ∀ H e t', Z [] H t (fun _ _ _ => False) e t' → False) :
    codeAny (model P w) callerA (.call (.ref fa) ⟨[.ref a], []⟩) (fun r t' => r = .ok (.ret (.bool true)) ∧ OldK t.heap t'.heap ∧ t'.os = t.os ∧ AllBare t'.gens) t := by
  obtain ⟨H, only, seen, hok, hA⟩ := script_heap (P := P) (w := w) KX ha hi hl
  have low : ∀ {b : Addr} {o : Obj}, t.heap.get? b = some o → H b = none → (hidT t.heap H).get? b = some o := fun e n => hidT_get e n
  have noH : ∀ {b : Addr}, b ≠ a → H b = none := fun {b} n => by
    cases q : H b with
    | none => rfl
    | some u => exact absurd (hA b u q).1 n
  have ns' : ∀ {b : Addr} {m : Str → Option Value}, t.heap.Ns b m → (hidT t.heap H).Ns b m := fun {b m} ⟨o, es, ep, e, d, r⟩ => ⟨o, es, ep, low e (noH fun z => by
    subst z
    rw [ha] at e
    cases e
    cases (show Data.seq vs.toArray _ = Data.dict es ep from d)), d, r⟩
  have inB : K.In (hidT t.heap H) := fun b o e => low (KX b o e) (by
    cases q : H b with
    | none => rfl
    | some u =>
      obtain ⟨rfl, z⟩ := hA b u q
      rw [z] at e; cases e)
  obtain ⟨mc, l1, l2⟩ := hlim
  have e0 : Env0 P w K mg (hidT t.heap H) callerA [] t H := ⟨rfl, ⟨inB, ns' hm, ⟨mb, ns' hb, hbb⟩, ⟨mc, ns' l1, l2⟩⟩, fun b o e => of_hidT e, Nat.le_of_eq (hidT_size _ _), trivial, fun b z => (List.not_mem_nil (show b ∈ ([] : List Addr) from z)).elim, hok, .of_eq hgen⟩
  refine codeAny_mono ((F _ inB (ns' hm)).go callerA [] t H ⟨[.ref a], []⟩ [.ref a] [.ref a] _ _ rfl room e0 (bind t (.ref a)) (.cons rfl .nil) (hsp H only seen)) fun res t' hq => ?_
  match res, hq with
  | .error er, hq => exact (noE H er t' hq).elim
  | .ok .next, hq => exact False.elim hq
  | .ok .brk, hq => exact False.elim hq
  | .ok .cont, hq => exact False.elim hq
  | .ok (.ret u), ⟨v, J, os, bare, un, hok', rv, qv⟩ =>
    have qv : v = .bl true := qv
    subst qv
    obtain rfl : u = Value.bool true := rv
    refine ⟨rfl, OldK.of_keep fun b o e => ?_, os, bare⟩
    rcases only b with z | ⟨ob, xs, z⟩
    · exact un.keep b o e z (List.not_mem_nil (a := b)) (List.not_mem_nil (a := b))
    · obtain ⟨e1, _⟩ := hok b _ z
      obtain ⟨e2, _⟩ := hok' b _ (un.frzs b ob _ z)
      rw [e] at e1; cases e1
      exact e2
end Ue
namespace Ue
open PySem PySem.Spec PyProof.Rows L2
theorem walk_ofU {lw : PySem.W.OpenLaw} {mx lv : Nat} {pq : Program} {ls : List Str} {XQ : (Str → Option Value) → Heap → Prop} {YQ : World → Heap → Prop} {dr : DefRec} {x : Str}
    (h1 : lw.most = some mx) (h2 : mx ≤ sizeLine) (h3 : dr.params.defaults = []) (h4 : Room lv callerA)
    (Z : ∀ (w : World) (mg : Str → Option Value) (f0 : Addr) (hp : Heap), YQ w hp → hp.Ns mainGlobals mg → mg dr.name = some (.ref f0) →
      ∃ (T : Tab) (fd : FuncData) (F : FM), T.K.In hp ∧ (∀ (s : Shared) (u : Value), BindsTo s fd ⟨[u], []⟩ [(x, u)]) ∧ (∀ ns : List Int, ns.length ≤ mx → ∃ as, F [.v (.scr ns)] = .ok (.bl true) as) ∧
        ∀ base : Heap, T.K.In base → base.Ns mainGlobals mg → FnG lw.prog w T.K mg base (L2.CX lw.prog w) lv f0 fd [x] (spF T .pure 1 F)) :
    PySem.W.WalkO pq ls XQ YQ lw.row.toRowW dr [] (fun f vs => PySem.call f vs) := by
  refine Att.attach_call h1 h3 ?_
  intro w sA sB mg mb f0 _ _ _ _ a vs ns GG YY _ _ _ hmg hobj hints hlen hg
  obtain ⟨T, fd, F, KX, hb, hF, hok⟩ := Z w mg f0 _ YY GG.T.g hmg
  refine law_callG KX GG.T.g GG.T.b GG.T.builtins GG.T.nolimit hg hobj hints (Nat.le_trans hlen h2) h4 hok hb ?_ ?_
  · exact fun H hO hS => law_sp hF H a ns hlen hO hS
  · rintro H e s' ⟨_, _, _, _, _, _, _, _, _, _, _, _, z⟩
    exact z
end Ue
namespace Ue
open PySem PySem.Spec PyProof.Rows L2
/-! ### the Hook: the facts by names, one Bool more, the statics in sight -/
structure SaysU (fa : List He.Fa) (fn : List He.DefD) (ex : PySem.W.Frag → Bool) (K : PySem.W.Frag) : Prop where
  d : He.SaysD fa fn K
  more : ex K = true
abbrev AlU : Type := He.AlD × Bool
def frU (n : Nat) (g : Addr → Option Obj) : PySem.W.Frag := He.frG g (cStatics :: He.asD g n)
def obsK (fa : List He.Fa) (fn : List He.DefD) (ex : PySem.W.Frag → Bool) (K : PySem.W.Frag) : AlU := (He.obsD fa fn K, ex K)
def obsU (n : Nat) (fa : List He.Fa) (fn : List He.DefD) (ex : PySem.W.Frag → Bool) (g : Addr → Option Obj) : AlU := obsK fa fn ex (frU n g)
def hookU (n : Nat) (fa : List He.Fa) (fn : List He.DefD) (ex : PySem.W.Frag → Bool) : PySem.W.Hook where
  α := AlU
  obs := fun s => obsU n fa fn ex s.heap.get?
  val := fun _ => (He.valD fn, true)
  says := fun _ hp => ∃ K : PySem.W.Frag, K.In hp ∧ SaysU fa fn ex K
  of := fun _ _ e => ⟨_, He.frG_in, congrArg (fun z : AlU => z.1) e, congrArg (fun z : AlU => z.2) e⟩
  keeps := fun _ _ _ ⟨K, q1, q2⟩ k => ⟨K, PySem.W.Frag.In.keeps q1 k, q2⟩
theorem obsU_eq {n : Nat} {fa : List He.Fa} {fn : List He.DefD} {ex : PySem.W.Frag → Bool} {g : Addr → Option Obj} {s : Shared} (q : ∀ a, g a = s.heap.get? a) : obsU n fa fn ex g = (hookU n fa fn ex).obs s := by
  have e : g = s.heap.get? := funext q
  subst e; rfl
end Ue

set_option linter.all false
set_option Elab.async false
set_option maxRecDepth 100000
set_option maxHeartbeats 4000000
/-! computing with the combinators -/
namespace Ue
open PySem
section
variable {α β : Type} {a : α} {e env : Env} {c : Nat} {fs : List D} {d x y : D} {i j : Nat} {m ma mb mc : M} {t ta tb : MT} {b : Bool}
def SR.th (r : SR) (k : MS) : SR := match r with | .nx e => k e | r => r
@[simp] theorem th_nx {k : MS} : (SR.nx e).th k = k e := (rfl)
@[simp] theorem th_ret {k : MS} : (SR.ret d e).th k = .ret d e := (rfl)
@[simp] theorem th_exc {k : MS} : (SR.exc c fs e).th k = .exc c fs e := (rfl)
@[simp] theorem th_brk {k : MS} : (SR.brk e).th k = .brk e := (rfl)
@[simp] theorem th_cnt {k : MS} : (SR.cnt e).th k = .cnt e := (rfl)
@[simp] theorem seqM_s (s1 s2 : MS) : seqM s1 s2 env = (s1 env).th s2 := by unfold seqM SR.th; cases s1 env <;> rfl
@[simp] theorem bind_ok {f : α → Env → R β} : (R.ok a e).bind f = f a e := (rfl)
@[simp] theorem bind_exc {f : α → Env → R β} : (R.exc c fs e : R α).bind f = .exc c fs e := (rfl)
@[simp] theorem toS_ok {f : α → Env → SR} : (R.ok a e).toS f = f a e := (rfl)
@[simp] theorem toS_exc {f : α → Env → SR} : (R.exc c fs e : R α).toS f = .exc c fs e := (rfl)
@[simp] theorem liftO_s : liftO (some d) e = .ok d e := (rfl)
@[simp] theorem liftB_s : liftB (some b) e = .ok b e := (rfl)
@[simp] theorem op2M_s {g : D → D → Option D} : op2M g ma mb env = (ma env).bind fun x e1 => (mb e1).bind fun y e2 => liftO (g x y) e2 := (rfl)
@[simp] theorem op1M_s {g : D → Option D} : op1M g ma env = (ma env).bind fun x e1 => liftO (g x) e1 := (rfl)
@[simp] theorem cmpM_s {g : D → D → Option Bool} : cmpM g ma mb env = (ma env).bind fun x e1 => (mb e1).bind fun y e2 => liftB (g x y) e2 := (rfl)
@[simp] theorem bV_s : bV t env = (t env).bind fun b e => .ok (.bl b) e := (rfl)
@[simp] theorem cM_s : cM d env = .ok d env := (rfl)
@[simp] theorem varM_s : varM i env = match env[i]? with | some (some (.v d)) => .ok d env | _ => .stk := (rfl)
@[simp] theorem ovarM_s : ovarM i env = match env[i]? with | some (some (.own ds)) => .ok (.lst ds) env | _ => .stk := (rfl)
@[simp] theorem frzM_s : frzM i env = match env[i]? with | some (some (.own ds)) => .ok (.lst ds) (env.set i (some (.v (.lst ds)))) | _ => .stk := (rfl)
@[simp] theorem trM_s : trM m env = (m env).bind fun d e => liftB (truth d) e := (rfl)
@[simp] theorem andT_s : andT ta tb env = (ta env).bind fun x e => if x then tb e else .ok false e := (rfl)
@[simp] theorem orT_s : orT ta tb env = (ta env).bind fun x e => if x then .ok true e else tb e := (rfl)
@[simp] theorem notT_s : notT ta env = (ta env).bind fun x e => .ok (!x) e := (rfl)
@[simp] theorem ifM_s {p q : Env → R α} : ifM t p q env = (t env).bind fun x e => if x then p e else q e := (rfl)
@[simp] theorem andV_s : andV ma mb env = (ma env).bind fun d e => match d with | .bl true => mb e | .bl false => .ok (.bl false) e | _ => .stk := (rfl)
@[simp] theorem orV_s : orV ma mb env = (ma env).bind fun d e => match d with | .bl true => .ok (.bl true) e | .bl false => mb e | _ => .stk := (rfl)
@[simp] theorem notV_s : notV ma env = (ma env).bind fun d e => match d with | .bl b => .ok (.bl (!b)) e | _ => .stk := (rfl)
@[simp] theorem argsM_n : argsM [] env = .ok [] env := (rfl)
@[simp] theorem argsM_c {ms : List M} : argsM (m :: ms) env = (m env).bind fun d e1 => (argsM ms e1).bind fun ds e2 => .ok (d :: ds) e2 := (rfl)
@[simp] theorem callM_s {g : List D → Option D} {ms : List M} : callM g ms env = (argsM ms env).bind fun ds e => liftO (g ds) e := (rfl)
@[simp] theorem tupM_s {ms : List M} : tupM ms env = (argsM ms env).bind fun ds e => if ds.length ≤ sizeLine then .ok (.tup ds) e else .stk := (rfl)
@[simp] theorem lstM_s {ms : List M} : lstM ms env = (argsM ms env).bind fun ds e => if ds.length ≤ sizeLine then .ok (.lst ds) e else .stk := (rfl)
@[simp] theorem chainM_s {g g' : D → D → Option Bool} : chainM g g' ma mb mc env = (ma env).bind fun x e1 => (mb e1).bind fun y e2 => match g x y with
  | some true => (mc e2).bind fun z e3 => liftB (g' y z) e3
  | some false => .ok false e2
  | none => .stk := (rfl)
@[simp] theorem isiM_s {n : String} : isiM n ma env = (ma env).bind fun d e => match isiTy n d with | some b => .ok (.bl b) e | none => .stk := (rfl)
@[simp] theorem nilM_s : nilM env = .nx env := (rfl)
@[simp] theorem brkM_s : brkM env = .brk env := (rfl)
@[simp] theorem cntM_s : cntM env = .cnt env := (rfl)
@[simp] theorem retM_s : retM m env = (m env).toS fun d e => .ret d e := (rfl)
@[simp] theorem retNM_s : retNM env = .ret .non env := (rfl)
@[simp] theorem retOM_s : retOM i env = match env[i]? with | some (some (.own ds)) => .ret (.lst ds) (env.set i none) | _ => .stk := (rfl)
@[simp] theorem exprM_s : exprM m env = (m env).toS fun _ e => .nx e := (rfl)
@[simp] theorem setM_s : setM i m env = (m env).toS fun d e => .nx (e.set i (some (.v d))) := (rfl)
@[simp] theorem setOM_s : setOM i m env = (m env).toS fun d e => match d with | .lst ds => .nx (e.set i (some (.own ds))) | _ => .stk := (rfl)
@[simp] theorem iffM_s {p q : MS} : iffM t p q env = (t env).toS fun c e => if c then p e else q e := (rfl)
@[simp] theorem raiseM_s {n : Nat} {ms : List M} : raiseM n ms env = (argsM ms env).toS fun ds e => .exc n ds e := (rfl)
@[simp] theorem asL_s : asL m env = (m env).bind fun d e => match d with | .lst ds => .ok ds e | _ => .stk := (rfl)
@[simp] theorem asT_s : asT m env = (m env).bind fun d e => match d with | .tup ds => .ok ds e | _ => .stk := (rfl)
@[simp] theorem asSeq_s : asSeq m env = (m env).bind fun d e => match d with | .lst ds => .ok ds e | .tup ds => .ok ds e | .scr ns => .ok (ns.map D.int) e | _ => .stk := (rfl)
@[simp] theorem rng1M_s : rng1M m env = (m env).bind fun d e => match d with | .int j => if -(2 ^ 62) ≤ j ∧ j < 2 ^ 62 then .ok (rngL 0 j.toNat) e else .stk | _ => .stk := (rfl)
@[simp] theorem rng2M_s : rng2M ma mb env = (ma env).bind fun d e1 => (mb e1).bind fun d' e => match d, d' with | .int i, .int j => if -(2 ^ 62) ≤ i ∧ i < 2 ^ 62 ∧ -(2 ^ 62) ≤ j ∧ j < 2 ^ 62 then .ok (rngL i (j - i).toNat) e else .stk | _, _ => .stk := (rfl)
@[simp] theorem enumM_s : enumM m env = (m env).bind fun d e => match d with | .lst ds => .ok (enumL ds) e | _ => .stk := (rfl)
@[simp] theorem tgN_s : tgN i d env = some (env.set i (some (.v d))) := (rfl)
@[simp] theorem tgT_s {gs : List TGM} {ds : List D} : tgT gs (.tup ds) env = tgL gs ds env := (rfl)
@[simp] theorem tgL_n : tgL [] [] env = some env := (rfl)
@[simp] theorem tgL_c {g : TGM} {gs : List TGM} {ds : List D} : tgL (g :: gs) (d :: ds) env = (g d env).bind (tgL gs ds) := (rfl)
@[simp] theorem asgM_s {g : TGM} : asgM g m env = (m env).toS fun d e => match g d e with | some e' => .nx e' | none => .stk := (rfl)
@[simp] theorem forM_n {g : TGM} {s : MS} : forM g s [] env = .nx env := (rfl)
theorem forM_c {g : TGM} {s : MS} {ds : List D} : forM g s (d :: ds) env = match g d env with | some e => loopS (s e) (forM g s ds) | none => .stk := (rfl)
theorem whileM_s {n : Nat} {s : MS} : whileM t s (n + 1) env = (t env).toS fun c e => if c then loopS (s e) (whileM t s n) else .nx e := rfl
@[simp] theorem forS_s {mi : MI} {g : TGM} {s : MS} : forS mi g s env = (mi env).toS fun ds e => forM g s ds e := (rfl)
@[simp] theorem loopS_nx {k : MS} : loopS (.nx e) k = k e := (rfl)
@[simp] theorem loopS_cnt {k : MS} : loopS (.cnt e) k = k e := (rfl)
@[simp] theorem loopS_brk {k : MS} : loopS (.brk e) k = .nx e := (rfl)
@[simp] theorem loopS_ret {k : MS} : loopS (.ret d e) k = .ret d e := (rfl)
@[simp] theorem loopS_exc {k : MS} : loopS (.exc c fs e) k = .exc c fs e := (rfl)
@[simp] theorem optM_n : optM none env = .ok none env := (rfl)
@[simp] theorem optM_c : optM (some m) env = (m env).bind fun d e1 => match d with | .int i => .ok (some i) e1 | _ => .stk := (rfl)
@[simp] theorem slLM_s {lo hi : Option M} : slLM m lo hi env = (m env).bind fun d e => (optM lo e).bind fun l e => (optM hi e).bind fun u e => match d with | .lst ds => .ok (.lst (cutD ds l u)) e | .scr ns => .ok (.lst (cutD (ns.map D.int) l u)) e | _ => .stk := (rfl)
@[simp] theorem slTM_s {lo hi : Option M} : slTM m lo hi env = (m env).bind fun d e => (optM lo e).bind fun l e => (optM hi e).bind fun u e => match d with | .tup ds => .ok (.tup (cutD ds l u)) e | _ => .stk := (rfl)
@[simp] theorem mtM_s {g : List D → List D → Option (D × List D)} {ms : List M} : mtM i g ms env = match env[i]? with
  | some (some (.own _)) => (argsM ms env).bind fun es e => match e[i]? with
    | some (some (.own ds)) => (match g ds es with | some (d, ds') => .ok d (e.set i (some (.own ds'))) | none => .stk)
    | _ => .stk
  | _ => .stk := (rfl)
@[simp] theorem setIM_s : setIM i m ma env = (m env).toS fun d e => match e[i]? with
  | some (some (.own _)) => (ma e).toS fun n e => setI2 i d n e
  | _ => .stk := (rfl)
@[simp] theorem setI2_s {n : Int} : setI2 i d (.int n) env = match env[i]? with
  | some (some (.own ds)) => (match L2.ixN ds.length n with | some q => .nx (env.set i (some (.own (ds.set q d)))) | none => .stk)
  | _ => .stk := by unfold setI2; cases h : env[i]? with
  | none => rfl
  | some o => cases o with
    | none => rfl
    | some v => cases v <;> rfl
@[simp] theorem augM_s {g : D → D → Option D} : augM i g m env = match env[i]? with
  | some (some (.v d0)) => (m env).toS fun d e => (match g d0 d with | some r => .nx (e.set i (some (.v r))) | none => .stk)
  | _ => .stk := (rfl)
@[simp] theorem parM_s : parM i j ma mb env = (ma env).toS fun d1 e1 => (mb e1).toS fun d2 e2 => .nx ((e2.set i (some (.v d1))).set j (some (.v d2))) := (rfl)
@[simp] theorem compM_s {vs : List Nat} {mi : MI} {g : TGM} {tt : MT} {te : M} : compM vs mi g tt te env = (mi env).bind fun ds e => if ds.length ≤ sizeLine then (compL vs g tt te ds e).bind fun ys e' => .ok (.lst ys) e' else .stk := (rfl)
@[simp] theorem yesT_s : yesT env = .ok true env := (rfl)
/-! the functions -/
variable {p q : Int}
@[simp] theorem i2_s {f : Int → Int → D} : i2 f (.int p) (.int q) = some (f p q) := (rfl)
@[simp] theorem i2c_s {g : Int → Int → Bool} {f : Int → Int → D} : i2c g f (.int p) (.int q) = if g p q then some (f p q) else none := (rfl)
@[simp] theorem c2_s {f : Int → Int → Bool} : c2 f (.int p) (.int q) = some (f p q) := (rfl)
@[simp] theorem u1_s {f : Int → D} : u1 f (.int p) = some (f p) := (rfl)
@[simp] theorem ii_s {f : Int → Int → Int} : ii f [.int p, .int q] = some (.int (f p q)) := (rfl)
@[simp] theorem eqS_ii : eqS (.int p) (.int q) = some (decide (p = q)) := (rfl)
@[simp] theorem eqS_bb {u v : Bool} : eqS (.bl u) (.bl v) = some (decide (u = v)) := (rfl)
@[simp] theorem eqS_ss {u v : Str} : eqS (.str u) (.str v) = some (decide (u = v)) := (rfl)
@[simp] theorem neS_s : neS x y = (eqS x y).map (!·) := (rfl)
@[simp] theorem isB_s {u v : Bool} : isB (.bl u) (.bl v) = some (decide (u = v)) := (rfl)
@[simp] theorem notB_s : notB x y = (isB x y).map (!·) := (rfl)
@[simp] theorem notN_s : notN x y = (isN x y).map (!·) := (rfl)
@[simp] theorem neD_s : neD x y = (eqD x y).map (!·) := (rfl)
@[simp] theorem notInD_s : notInD x y = (inD x y).map (!·) := (rfl)
@[simp] theorem absD_s : absD [.int p] = some (.int (if p < 0 then -p else p)) := (rfl)
@[simp] theorem intD_s : intD [.int p] = some (.int p) := (rfl)
@[simp] theorem lenD_l {ds : List D} : lenD [.lst ds] = some (.int ds.length) := (rfl)
@[simp] theorem lenD_t {ds : List D} : lenD [.tup ds] = some (.int ds.length) := (rfl)
@[simp] theorem lenD_s {ns : List Int} : lenD [.scr ns] = some (.int ns.length) := (rfl)
@[simp] theorem listD_l {ds : List D} : listD [.lst ds] = some (.lst ds) := (rfl)
@[simp] theorem listD_t {ds : List D} : listD [.tup ds] = some (.lst ds) := (rfl)
@[simp] theorem tupleD_l {ds : List D} : tupleD [.lst ds] = some (.tup ds) := (rfl)
@[simp] theorem tupleD_t {ds : List D} : tupleD [.tup ds] = some (.tup ds) := (rfl)
@[simp] theorem ixD_l {ds : List D} : ixD (.lst ds) (.int p) = L2.atI ds p := (rfl)
@[simp] theorem ixD_t {ds : List D} : ixD (.tup ds) (.int p) = L2.atI ds p := (rfl)
@[simp] theorem ixD_s {ns : List Int} : ixD (.scr ns) (.int p) = (L2.atI ns p).map D.int := (rfl)
@[simp] theorem truth_i : truth (.int p) = some (p != 0) := (rfl)
@[simp] theorem truth_b {u : Bool} : truth (.bl u) = some u := (rfl)
@[simp] theorem truth_n : truth .non = some false := (rfl)
/-! defs -/
@[simp] theorem runF_s {fr : Bool} {n : Nat} {pins : List Nat} {s : MS} {as : List EV} : runF fr n pins s as = endF fr pins as (s (as.map some ++ List.replicate (n - as.length) none)) := (rfl)
@[simp] theorem endF_ret {fr : Bool} {pins : List Nat} {as : List EV} : endF fr pins as (.ret d e) = match finA pins 0 as e with | some as' => .ok d as' | none => .stk := (rfl)
@[simp] theorem endF_nx {pins : List Nat} {as : List EV} : endF false pins as (.nx e) = match finA pins 0 as e with | some as' => .ok .non as' | none => .stk := (rfl)
@[simp] theorem endF_exc {fr : Bool} {pins : List Nat} {as : List EV} : endF fr pins as (.exc c fs e) = match finA pins 0 as e with | some as' => .exc c fs as' | none => .stk := (rfl)
@[simp] theorem finA_n {pins : List Nat} : finA pins i [] e = some [] := (rfl)
@[simp] theorem finA_v {pins : List Nat} {as : List EV} : finA pins i (.v d :: as) e = (finA pins (i + 1) as e).map (.v d :: ·) := (rfl)
@[simp] theorem finA_o {pins : List Nat} {as : List EV} {ds : List D} : finA pins i (.own ds :: as) e = if i ∈ pins then (match e[i]? with | some (some (.own ds)) => (finA pins (i + 1) as e).map (.own ds :: ·) | _ => none) else none := (rfl)
@[simp] theorem argG_n : argG [] env = .ok [] env := (rfl)
@[simp] theorem argG_p {as : List Ag} : argG (.p m :: as) env = (m env).bind fun d e1 => (argG as e1).bind fun ds e2 => .ok (.d d :: ds) e2 := (rfl)
@[simp] theorem argG_o {as : List Ag} : argG (.o i :: as) env = match env[i]? with
  | some (some (.own _)) => (argG as env).bind fun ds e2 => .ok (.s i :: ds) e2
  | _ => .stk := (rfl)
@[simp] theorem resA_n : resA [] e = some [] := (rfl)
@[simp] theorem resA_d {as : List AD} : resA (.d x :: as) e = (resA as e).map (.v x :: ·) := (rfl)
@[simp] theorem resA_s {as : List AD} : resA (.s i :: as) e = match e[i]? with
  | some (some (.own ds)) => (resA as e).map (.own ds :: ·)
  | _ => none := (rfl)
@[simp] theorem fewO_n : fewO [] = true := (rfl)
@[simp] theorem fewO_d {as : List AD} : fewO (.d x :: as) = fewO as := (rfl)
@[simp] theorem fewO_s {as : List AD} : fewO (.s i :: as) = as.all fun a => match a with | .d _ => true | .s _ => false := (rfl)
@[simp] theorem ownIx_n : ownIx j [] = none := (rfl)
@[simp] theorem ownIx_d {as : List AD} : ownIx j (.d x :: as) = ownIx (j + 1) as := (rfl)
@[simp] theorem ownIx_s {as : List AD} : ownIx j (.s i :: as) = some (j, i) := (rfl)
@[simp] theorem putA_s {ss : List AD} {as : List EV} : putA ss as e = match ownIx 0 ss with
  | none => e
  | some (j, i) => match as[j]? with
    | some a => e.set i (unEx a)
    | none => e := (rfl)
@[simp] theorem unEx_o {ds : List D} : unEx (.own ds) = some (.own ds) := rfl
@[simp] theorem unEx_v : unEx (.v d) = some (.v d) := rfl
@[simp] theorem unEx_n {ds : List D} : unEx (.new c ds) = some (.new c ds) := rfl
def CRes.go (r : CRes) (ss : List AD) (e : Env) : R D := match r with
  | .ok d as' => .ok d (putA ss as' e)
  | .exc c fs as' => .exc c fs (putA ss as' e)
  | .stk => .stk
@[simp] theorem go_ok {ss : List AD} {as : List EV} : (CRes.ok d as).go ss e = .ok d (putA ss as e) := (rfl)
@[simp] theorem go_exc {ss : List AD} {as : List EV} : (CRes.exc c fs as).go ss e = .exc c fs (putA ss as e) := (rfl)
@[simp] theorem fnM_s {F : FM} {ags : List Ag} {dfl : List D} : fnM F ags dfl env = (argG ags env).bind fun ss e => match resA ss e with
  | none => .stk
  | some as => if fewO ss then (F (as ++ dfl.map EV.v)).go ss e else .stk := rfl
def SR.ca (r : SR) (cg : Nat → Option Bool) (s : MS) : SR := match r with
  | .exc c fs e => (match cg c with | some true => (match s e with | .exc _ _ _ => .stk | r => r) | some false => .exc c fs e | none => .stk)
  | r => r
@[simp] theorem tryM_s {s1 s2 : MS} {cg : Nat → Option Bool} : tryM s1 cg s2 env = (s1 env).ca cg s2 := (rfl)
@[simp] theorem ca_nx {s2 : MS} {cg : Nat → Option Bool} : (SR.nx e).ca cg s2 = .nx e := (rfl)
@[simp] theorem ca_ret {s2 : MS} {cg : Nat → Option Bool} : (SR.ret d e).ca cg s2 = .ret d e := (rfl)
@[simp] theorem ca_exc {s2 : MS} {cg : Nat → Option Bool} : (SR.exc c fs e).ca cg s2 = (match cg c with | some true => (match s2 e with | .exc _ _ _ => .stk | r => r) | some false => .exc c fs e | none => .stk) := (rfl)
end
/-! ### the bounds -/
theorem small_ok {i : Int} (h : i.natAbs < 18446744073709551616) : small64 i = true := decide_eq_true h
theorem mulOk_r {i j : Int} (h : j.natAbs < 18446744073709551616) : mulOk i j = true := by unfold mulOk; rw [small_ok h, Bool.or_true, Bool.true_or]
theorem mulOk_l {i j : Int} (h : i.natAbs < 18446744073709551616) : mulOk i j = true := by unfold mulOk; rw [small_ok h, Bool.true_or, Bool.true_or]
theorem log2_lt_of {n k : Nat} (hk : 0 < k) (h : n < 2 ^ k) : n.log2 < k := by
  by_cases h0 : n = 0
  · subst h0; simpa using hk
  · exact (Nat.log2_lt h0).mpr h
/-- numbers below 2^900 -/
def Mid (i : Int) : Prop := i.natAbs < 2 ^ 900
theorem mulOk_mid {i j : Int} (hi : Mid i) (hj : Mid j) : mulOk i j = true := by
  have h1 := log2_lt_of (by decide) hi
  have h2 := log2_lt_of (by decide) hj
  unfold mulOk
  have : decide (i.natAbs.log2 + j.natAbs.log2 < 100000000) = true := decide_eq_true (by omega)
  rw [this, Bool.or_true]
theorem divOk_mid {i j : Int} (h0 : j ≠ 0) (hj : Mid j) : divOk i j = true := by
  have h2 := log2_lt_of (by decide) hj
  unfold divOk Builtin.divisionGoesByPylong
  have h3 : (j == 0) = false := by simpa using h0
  simp only [h3, Bool.false_eq_true, if_false, h0, ne_eq, not_false_eq_true, decide_true, Bool.true_and]
  have h4 : decide (j.natAbs.log2 / 30 + 1 > 300) = false := decide_eq_false (by omega)
  simp [h4]
end Ue

set_option linter.all false
set_option Elab.async false
set_option maxRecDepth 100000
set_option maxHeartbeats 4000000
/-! plain lemmas for every law -/
namespace Ue
open PySem
/-! ### equality and membership of data -/
theorem toPys_ints : ∀ ns : List Int, toPys (ns.map D.int) = some (ns.map PyData.int)
  | [] => by simp [toPys]
  | n :: ns => by simp [toPys, toPy, toPys_ints ns]
theorem lay_ints : ∀ ns : List Int, PyData.canLayAll0 (ns.map PyData.int) = true
  | [] => by simp [PyData.canLayAll0]
  | n :: ns => by simp [PyData.canLayAll0, PyData.canLay0, lay_ints ns]
theorem depth_ints : ∀ ns : List Int, PyData.depthAll (ns.map PyData.int) = 0
  | [] => by simp [PyData.depthAll]
  | n :: ns => by simp [PyData.depthAll, PyData.depth, depth_ints ns]
theorem shaped_ints (ns : List Int) : SeqAt.shaped (.list (ns.map PyData.int)) = true := by
  unfold SeqAt.shaped; simp [PyData.canLay0, PyData.depth, lay_ints, depth_ints]
theorem shaped_intsT (ns : List Int) : SeqAt.shaped (.tuple (ns.map PyData.int)) = true := by
  unfold SeqAt.shaped; simp [PyData.canLay0, PyData.depth, lay_ints, depth_ints]
theorem shaped_int (n : Int) : SeqAt.shaped (.int n) = true := by
  unfold SeqAt.shaped; simp [PyData.canLay0, PyData.depth]
theorem eqv_ints : ∀ a b : List Int, PyData.eqvAll (a.map PyData.int) (b.map PyData.int) = decide (a = b)
  | [], [] => by simp [PyData.eqvAll]
  | [], _ :: _ => by simp [PyData.eqvAll]
  | _ :: _, [] => by simp [PyData.eqvAll]
  | x :: xs, y :: ys => by
    simp only [List.map_cons, PyData.eqvAll, PyData.eqv, eqv_ints xs ys, List.cons.injEq, Bool.decide_and]
    congr 1
theorem eqD_lst {a b : List Int} : eqD (.lst (a.map D.int)) (.lst (b.map D.int)) = some (decide (a = b)) := by
  simp [eqD, toPy, toPys_ints, shaped_ints, PyData.eqv, eqv_ints]
theorem eqD_tup {a b : List Int} : eqD (.tup (a.map D.int)) (.tup (b.map D.int)) = some (decide (a = b)) := by
  simp [eqD, toPy, toPys_ints, shaped_intsT, PyData.eqv, eqv_ints]
theorem any_ints : ∀ (a : List Int) (n : Int), (a.map PyData.int).any (fun z => PyData.eqv z (.int n)) = decide (n ∈ a)
  | [], n => by simp
  | x :: xs, n => by
    simp only [List.map_cons, List.any_cons, any_ints xs n, List.mem_cons, PyData.eqv, Bool.decide_or]
    by_cases h : n = x
    · subst h; simp
    · have : (x == n) = false := by simpa using fun z => h z.symm
      simp [h, this]
theorem inD_ints {a : List Int} {n : Int} : inD (.int n) (.lst (a.map D.int)) = some (decide (n ∈ a)) := by
  have e : toPy (.lst (a.map D.int)) = some (.list (a.map PyData.int)) := by simp [toPy, toPys_ints]
  unfold inD
  rw [show toPy (.int n) = some (.int n) by simp [toPy], e]
  simp only [shaped_int, shaped_ints, and_self, if_true, any_ints]
theorem dInts_map : ∀ ns : List Int, dInts (ns.map D.int) = some ns
  | [] => rfl
  | n :: ns => by show (dInts (ns.map D.int)).map (n :: ·) = _; rw [dInts_map ns]; rfl
theorem sumD_ints {ns : List Int} : sumD [.lst (ns.map D.int)] = some (.int ns.sum) := by
  show (dInts (ns.map D.int)).map (fun ns => D.int ns.sum) = _; rw [dInts_map]; rfl
theorem atI_nat {α : Type} {xs : List α} {i : Nat} {a : α} (h : xs[i]? = some a) : L2.atI xs (i : Int) = some a := by
  have hi : i < xs.length := by
    rcases Nat.lt_or_ge i xs.length with q | q
    · exact q
    · rw [List.getElem?_eq_none q] at h; cases h
  unfold L2.atI L2.ixN
  rw [if_pos (by omega), if_pos (by omega)]
  simpa using h
/-! ### loops -/
theorem forM_inv {g : TGM} {s : MS} (I : Env → Prop) : ∀ (ds : List D) (env : Env), (∀ d ∈ ds, ∀ e, I e → ∃ e1 e2, g d e = some e1 ∧ (s e1 = .nx e2 ∨ s e1 = .cnt e2) ∧ I e2) → I env → ∃ e2, forM g s ds env = .nx e2 ∧ I e2
  | [], env, _, h => ⟨env, rfl, h⟩
  | d :: ds, env, k, h => by
    obtain ⟨e1, e2, q1, q2, q3⟩ := k d (by simp) env h
    obtain ⟨e3, q4, q5⟩ := forM_inv I ds e2 (fun d hd => k d (by simp [hd])) q3
    refine ⟨e3, ?_, q5⟩
    rw [forM_c, q1]
    rcases q2 with q2 | q2 <;> simp [q2, q4]
/-- .. the i-th state told by i -/
theorem forM_idx {g : TGM} {s : MS} (I : Nat → Env → Prop) : ∀ (ds : List D) (k : Nat) (env : Env), (∀ i d, ds[i]? = some d → ∀ e, I (k + i) e → ∃ e1 e2, g d e = some e1 ∧ (s e1 = .nx e2 ∨ s e1 = .cnt e2) ∧ I (k + i + 1) e2) → I k env → ∃ e2, forM g s ds env = .nx e2 ∧ I (k + ds.length) e2
  | [], k, env, _, h => ⟨env, rfl, h⟩
  | d :: ds, k, env, q, h => by
    obtain ⟨e1, e2, q1, q2, q3⟩ := q 0 d rfl env h
    obtain ⟨e3, q4, q5⟩ := forM_idx I ds (k + 1) e2 (fun i d hd e he => by
      obtain ⟨e1, e2, z1, z2, z3⟩ := q (i + 1) d hd e (by rwa [show k + (i + 1) = k + 1 + i by omega])
      exact ⟨e1, e2, z1, z2, by rwa [show k + (i + 1) + 1 = k + 1 + i + 1 by omega] at z3⟩) q3
    refine ⟨e3, ?_, by rwa [show k + (d :: ds).length = k + 1 + ds.length by simp; omega]⟩
    rw [forM_c, q1]
    rcases q2 with q2 | q2 <;> simp [q2, q4]
/-- a comprehension whose turns are known -/
theorem compL_run {vs : List Nat} {g : TGM} {tt : MT} {te : M} (I : Env → Prop) (R : D → Option D → Prop) : ∀ (ds : List D) (env : Env),
    (∀ d ∈ ds, ∀ e, I e → vsOk e vs = true ∧ ∃ e1 e2, g d (wipeE e vs) = some e1 ∧ ((tt e1 = .ok false e2 ∧ I (restE e e2 vs) ∧ R d none) ∨ (tt e1 = .ok true e2 ∧ ∃ y e3, te e2 = .ok y e3 ∧ I (restE e e3 vs) ∧ R d (some y)))) → I env →
    ∃ (os : List (Option D)) (e' : Env), compL vs g tt te ds env = .ok (os.filterMap id) e' ∧ I e' ∧ os.length = ds.length ∧ ∀ (i : Nat) (d : D) (o : Option D), ds[i]? = some d → os[i]? = some o → R d o
  | [], env, _, h => ⟨[], env, rfl, h, rfl, by simp⟩
  | d :: ds, env, k, h => by
    obtain ⟨hv, e1, e2, q1, q2⟩ := k d (by simp) env h
    rcases q2 with ⟨q2, q3, q4⟩ | ⟨q2, y, e3, q3, q4, q5⟩
    · obtain ⟨os, e', w1, w2, w3, w4⟩ := compL_run I R ds _ (fun d hd => k d (by simp [hd])) q3
      refine ⟨none :: os, e', ?_, w2, by simp [w3], fun i d' o hd ho => ?_⟩
      · unfold compL; simp [hv, q1, q2, w1]
      · cases i with
        | zero => cases hd; cases ho; exact q4
        | succ i => exact w4 i d' o hd ho
    · obtain ⟨os, e', w1, w2, w3, w4⟩ := compL_run I R ds _ (fun d hd => k d (by simp [hd])) q4
      refine ⟨some y :: os, e', ?_, w2, by simp [w3], fun i d' o hd ho => ?_⟩
      · unfold compL; simp [hv, q1, q2, q3, w1]
      · cases i with
        | zero => cases hd; cases ho; exact q5
        | succ i => exact w4 i d' o hd ho
/-- .. some of the walked are kept -/
theorem compL_sub {vs : List Nat} {g : TGM} {tt : MT} {te : M} (I : Env → Prop) (f : D → D) : ∀ (ds : List D) (env : Env),
    (∀ d ∈ ds, ∀ e, I e → vsOk e vs = true ∧ ∃ e1 e2, g d (wipeE e vs) = some e1 ∧ ((tt e1 = .ok false e2 ∧ I (restE e e2 vs)) ∨ (tt e1 = .ok true e2 ∧ ∃ e3, te e2 = .ok (f d) e3 ∧ I (restE e e3 vs)))) → I env →
    ∃ (zs : List D) (e' : Env), compL vs g tt te ds env = .ok (zs.map f) e' ∧ I e' ∧ zs.Sublist ds
  | [], env, _, h => ⟨[], env, rfl, h, List.Sublist.slnil⟩
  | d :: ds, env, k, h => by
    obtain ⟨hv, e1, e2, q1, q2⟩ := k d (by simp) env h
    rcases q2 with ⟨q2, q3⟩ | ⟨q2, e3, q3, q4⟩
    · obtain ⟨os, e', w1, w2, w3⟩ := compL_sub I f ds _ (fun d hd => k d (by simp [hd])) q3
      exact ⟨os, e', by unfold compL; simp [hv, q1, q2, w1], w2, w3.cons _⟩
    · obtain ⟨os, e', w1, w2, w3⟩ := compL_sub I f ds _ (fun d hd => k d (by simp [hd])) q4
      exact ⟨d :: os, e', by unfold compL; simp [hv, q1, q2, q3, w1], w2, w3.cons_cons _⟩
/-- .. by a test that is known, from a state that stays -/
theorem compL_det {vs : List Nat} {g : TGM} {tt : MT} {te : M} {env : Env} (p : D → Bool) (f : D → D) (hv : vsOk env vs = true) : ∀ (ds : List D),
    (∀ d ∈ ds, ∃ e1 e2, g d (wipeE env vs) = some e1 ∧ tt e1 = .ok (p d) e2 ∧ (p d = false → restE env e2 vs = env) ∧ (p d = true → ∃ e3, te e2 = .ok (f d) e3 ∧ restE env e3 vs = env)) →
    compL vs g tt te ds env = .ok ((ds.filter p).map f) env
  | [], _ => rfl
  | d :: ds, k => by
    obtain ⟨e1, e2, q1, q2, q3, q4⟩ := k d (by simp)
    have ih := compL_det p f hv ds fun d hd => k d (by simp [hd])
    cases hp : p d with
    | false => unfold compL; rw [hp] at q2; simp [hv, q1, q2, q3 hp, ih, hp]
    | true =>
      obtain ⟨e3, q5, q6⟩ := q4 hp
      unfold compL; rw [hp] at q2; simp [hv, q1, q2, q5, q6, ih, hp]
/-! ### bits -/
theorem bitAnd_nat (a b : Nat) : Builtin.bitAnd (a : Int) (b : Int) = ((a &&& b : Nat) : Int) := by
  unfold Builtin.bitAnd; simp
theorem bitOr_nat (a b : Nat) : Builtin.bitOr (a : Int) (b : Int) = ((a ||| b : Nat) : Int) := by
  unfold Builtin.bitOr Builtin.bitAnd Builtin.bitNot
  have h1 : decide (0 ≤ -(a : Int) - 1) = false := decide_eq_false (by omega)
  have h2 : decide (0 ≤ -(b : Int) - 1) = false := decide_eq_false (by omega)
  have e1 : (-(-(a : Int) - 1) - 1).toNat = a := by omega
  have e2 : (-(-(b : Int) - 1) - 1).toNat = b := by omega
  simp only [h1, h2, e1, e2, Builtin.bitNot]
  omega
theorem bitAndNot_nat (a b : Nat) : Builtin.bitAnd (a : Int) (Builtin.bitNot (b : Int)) = (a : Int) - ((a &&& b : Nat) : Int) := by
  unfold Builtin.bitAnd Builtin.bitNot
  have h1 : decide (0 ≤ (a : Int)) = true := decide_eq_true (by omega)
  have h2 : decide (0 ≤ -(b : Int) - 1) = false := decide_eq_false (by omega)
  have e2 : (-(-(b : Int) - 1) - 1).toNat = b := by omega
  simp only [h1, h2, e2]
  rfl
theorem or_two_pow {x d : Nat} (h : x.testBit d = false) : x + 2 ^ d = x ||| 2 ^ d := by
  apply Nat.eq_of_testBit_eq
  intro i
  have hx : x = 2 ^ (d + 1) * (x / 2 ^ (d + 1)) + x % 2 ^ (d + 1) := (Nat.div_add_mod _ _).symm
  have hr : x % 2 ^ (d + 1) < 2 ^ d := by
    rw [Nat.testBit_eq_decide_div_mod_eq] at h
    have h := of_decide_eq_false h
    have : x % 2 ^ (d + 1) = x % 2 ^ d + 2 ^ d * (x / 2 ^ d % 2) := by rw [Nat.pow_succ, Nat.mod_mul]
    have h3 : x / 2 ^ d % 2 = 0 := by omega
    rw [this, h3, Nat.mul_zero, Nat.add_zero]
    exact Nat.mod_lt _ (Nat.two_pow_pos d)
  have h2 : x % 2 ^ (d + 1) + 2 ^ d < 2 ^ (d + 1) := by
    have hp : 2 ^ (d + 1) = 2 ^ d * 2 := Nat.pow_succ ..
    omega
  have e1 : x + 2 ^ d = 2 ^ (d + 1) * (x / 2 ^ (d + 1)) + (2 ^ d * 1 + x % 2 ^ (d + 1)) := by omega
  have h2' : 2 ^ d * 1 + x % 2 ^ (d + 1) < 2 ^ (d + 1) := by omega
  have hr' : x % 2 ^ (d + 1) < 2 ^ (d + 1) := by omega
  rw [e1, Nat.two_pow_add_eq_or_of_lt h2', Nat.two_pow_add_eq_or_of_lt hr]
  conv => rhs; rw [hx, Nat.two_pow_add_eq_or_of_lt hr']
  simp only [Nat.testBit_or, Nat.mul_one]
  cases (2 ^ (d + 1) * (x / 2 ^ (d + 1))).testBit i <;> cases (2 ^ d).testBit i <;> cases (x % 2 ^ (d + 1)).testBit i <;> rfl
/-- a set of days, as a number -/
def maskN (l : List Nat) : Nat := l.foldl (fun t d => t ||| 2 ^ d) 0
theorem maskF (l : List Nat) (t i : Nat) : (l.foldl (fun t d => t ||| 2 ^ d) t).testBit i = (t.testBit i || decide (i ∈ l)) := by
  induction l generalizing t with
  | nil => simp
  | cons d l ih =>
    rw [List.foldl_cons, ih, Nat.testBit_or, Nat.testBit_two_pow]
    by_cases h : d = i
    · subst h; simp
    · have : i ≠ d := fun z => h z.symm
      simp [h, this]
theorem mask_bit (l : List Nat) (i : Nat) : (maskN l).testBit i = decide (i ∈ l) := by
  unfold maskN; rw [maskF]; simp
theorem mask_eq {a b : List Nat} (h : ∀ i, i ∈ a ↔ i ∈ b) : maskN a = maskN b := by
  apply Nat.eq_of_testBit_eq
  intro i
  rw [mask_bit, mask_bit]
  simp [h i]
theorem sum_mask : ∀ (l : List Nat) (t : Nat), (∀ d ∈ l, t.testBit d = false) → l.Nodup → t + (l.map (2 ^ ·)).sum = l.foldl (fun t d => t ||| 2 ^ d) t
  | [], t, _, _ => by simp
  | d :: l, t, h, hn => by
    rw [List.nodup_cons] at hn
    rw [List.foldl_cons, List.map_cons, List.sum_cons, ← Nat.add_assoc, or_two_pow (h d (by simp)), sum_mask l _ (fun e he => ?_) hn.2]
    rw [Nat.testBit_or, h e (by simp [he]), Nat.testBit_two_pow]
    have : d ≠ e := fun z => hn.1 (z ▸ he)
    simp [this]
theorem mask_sum {l : List Nat} (hn : l.Nodup) : (l.map (2 ^ ·)).sum = maskN l := by
  have := sum_mask l 0 (by simp) hn
  rw [Nat.zero_add] at this
  exact this
theorem mask_lt {l : List Nat} {n : Nat} (h : ∀ d ∈ l, d < n) : maskN l < 2 ^ n := by
  apply Nat.lt_pow_two_of_testBit
  intro i hi
  rw [mask_bit]
  exact decide_eq_false fun z => by have := h i z; omega
theorem sub_mask {a b : Nat} : (a - (a &&& b) = 0) ↔ ∀ i, a.testBit i = true → b.testBit i = true := by
  have hle : a &&& b ≤ a := Nat.and_le_left
  constructor
  · intro h i hi
    have e : a &&& b = a := by omega
    have : (a &&& b).testBit i = true := by rw [e]; exact hi
    rw [Nat.testBit_and] at this
    exact (Bool.and_eq_true_iff.mp this).2
  · intro h
    have : a &&& b = a := by
      apply Nat.eq_of_testBit_eq
      intro i
      rw [Nat.testBit_and]
      cases q : a.testBit i with
      | true => simp [h i q]
      | false => simp
    omega
theorem nodup_sub {a b : List Nat} (h : a.Sublist b) (hb : b.Nodup) : a.Nodup := h.nodup hb
/-- a part of a sorted list is told by its members -/
theorem sub_filter : ∀ {a b : List Nat}, a.Sublist b → b.Nodup → a = b.filter (fun i => decide (i ∈ a))
  | _, _, .slnil, _ => rfl
  | a, _ :: b, .cons x h, hb => by
    rw [List.nodup_cons] at hb
    have hx : ¬ x ∈ a := fun z => hb.1 (h.subset z)
    rw [List.filter_cons_of_neg (by simpa using hx)]
    exact sub_filter h hb.2
  | x :: a, _ :: b, .cons_cons _ h, hb => by
    rw [List.nodup_cons] at hb
    rw [List.filter_cons_of_pos (by simp)]
    congr 1
    conv => lhs; rw [sub_filter h hb.2]
    apply List.filter_congr
    intro i hi
    have : i ≠ x := fun z => hb.1 (z ▸ hi)
    simp [this]
/-! ### kinds -/
theorem kit_NoneType_int : L2.kitB "NoneType" "int" = some false := by decide +kernel
theorem kit_bool_int : L2.kitB "bool" "int" = some true := by decide +kernel
theorem kit_int_int : L2.kitB "int" "int" = some true := by decide +kernel
theorem kit_str_int : L2.kitB "str" "int" = some false := by decide +kernel
theorem kit_tuple_int : L2.kitB "tuple" "int" = some false := by decide +kernel
theorem kit_list_int : L2.kitB "list" "int" = some false := by decide +kernel
@[simp] theorem isi_NoneType_int  : isiTy "int" .non = some false := kit_NoneType_int
@[simp] theorem isi_bool_int {b : Bool} : isiTy "int" (.bl b) = some true := kit_bool_int
@[simp] theorem isi_int_int {i : Int} : isiTy "int" (.int i) = some true := kit_int_int
@[simp] theorem isi_str_int {s : Str} : isiTy "int" (.str s) = some false := kit_str_int
@[simp] theorem isi_tuple_int {ds : List D} : isiTy "int" (.tup ds) = some false := kit_tuple_int
@[simp] theorem isi_list_int {ds : List D} : isiTy "int" (.lst ds) = some false := kit_list_int
@[simp] theorem isi_list_scr_int {ns : List Int} : isiTy "int" (.scr ns) = some false := kit_list_int
theorem kit_NoneType_bool : L2.kitB "NoneType" "bool" = some false := by decide +kernel
theorem kit_bool_bool : L2.kitB "bool" "bool" = some true := by decide +kernel
theorem kit_int_bool : L2.kitB "int" "bool" = some false := by decide +kernel
theorem kit_str_bool : L2.kitB "str" "bool" = some false := by decide +kernel
theorem kit_tuple_bool : L2.kitB "tuple" "bool" = some false := by decide +kernel
theorem kit_list_bool : L2.kitB "list" "bool" = some false := by decide +kernel
@[simp] theorem isi_NoneType_bool  : isiTy "bool" .non = some false := kit_NoneType_bool
@[simp] theorem isi_bool_bool {b : Bool} : isiTy "bool" (.bl b) = some true := kit_bool_bool
@[simp] theorem isi_int_bool {i : Int} : isiTy "bool" (.int i) = some false := kit_int_bool
@[simp] theorem isi_str_bool {s : Str} : isiTy "bool" (.str s) = some false := kit_str_bool
@[simp] theorem isi_tuple_bool {ds : List D} : isiTy "bool" (.tup ds) = some false := kit_tuple_bool
@[simp] theorem isi_list_bool {ds : List D} : isiTy "bool" (.lst ds) = some false := kit_list_bool
@[simp] theorem isi_list_scr_bool {ns : List Int} : isiTy "bool" (.scr ns) = some false := kit_list_bool
theorem kit_NoneType_str : L2.kitB "NoneType" "str" = some false := by decide +kernel
theorem kit_bool_str : L2.kitB "bool" "str" = some false := by decide +kernel
theorem kit_int_str : L2.kitB "int" "str" = some false := by decide +kernel
theorem kit_str_str : L2.kitB "str" "str" = some true := by decide +kernel
theorem kit_tuple_str : L2.kitB "tuple" "str" = some false := by decide +kernel
theorem kit_list_str : L2.kitB "list" "str" = some false := by decide +kernel
@[simp] theorem isi_NoneType_str  : isiTy "str" .non = some false := kit_NoneType_str
@[simp] theorem isi_bool_str {b : Bool} : isiTy "str" (.bl b) = some false := kit_bool_str
@[simp] theorem isi_int_str {i : Int} : isiTy "str" (.int i) = some false := kit_int_str
@[simp] theorem isi_str_str {s : Str} : isiTy "str" (.str s) = some true := kit_str_str
@[simp] theorem isi_tuple_str {ds : List D} : isiTy "str" (.tup ds) = some false := kit_tuple_str
@[simp] theorem isi_list_str {ds : List D} : isiTy "str" (.lst ds) = some false := kit_list_str
@[simp] theorem isi_list_scr_str {ns : List Int} : isiTy "str" (.scr ns) = some false := kit_list_str
theorem kit_NoneType_tuple : L2.kitB "NoneType" "tuple" = some false := by decide +kernel
theorem kit_bool_tuple : L2.kitB "bool" "tuple" = some false := by decide +kernel
theorem kit_int_tuple : L2.kitB "int" "tuple" = some false := by decide +kernel
theorem kit_str_tuple : L2.kitB "str" "tuple" = some false := by decide +kernel
theorem kit_tuple_tuple : L2.kitB "tuple" "tuple" = some true := by decide +kernel
theorem kit_list_tuple : L2.kitB "list" "tuple" = some false := by decide +kernel
@[simp] theorem isi_NoneType_tuple  : isiTy "tuple" .non = some false := kit_NoneType_tuple
@[simp] theorem isi_bool_tuple {b : Bool} : isiTy "tuple" (.bl b) = some false := kit_bool_tuple
@[simp] theorem isi_int_tuple {i : Int} : isiTy "tuple" (.int i) = some false := kit_int_tuple
@[simp] theorem isi_str_tuple {s : Str} : isiTy "tuple" (.str s) = some false := kit_str_tuple
@[simp] theorem isi_tuple_tuple {ds : List D} : isiTy "tuple" (.tup ds) = some true := kit_tuple_tuple
@[simp] theorem isi_list_tuple {ds : List D} : isiTy "tuple" (.lst ds) = some false := kit_list_tuple
@[simp] theorem isi_list_scr_tuple {ns : List Int} : isiTy "tuple" (.scr ns) = some false := kit_list_tuple
theorem kit_NoneType_list : L2.kitB "NoneType" "list" = some false := by decide +kernel
theorem kit_bool_list : L2.kitB "bool" "list" = some false := by decide +kernel
theorem kit_int_list : L2.kitB "int" "list" = some false := by decide +kernel
theorem kit_str_list : L2.kitB "str" "list" = some false := by decide +kernel
theorem kit_tuple_list : L2.kitB "tuple" "list" = some false := by decide +kernel
theorem kit_list_list : L2.kitB "list" "list" = some true := by decide +kernel
@[simp] theorem isi_NoneType_list  : isiTy "list" .non = some false := kit_NoneType_list
@[simp] theorem isi_bool_list {b : Bool} : isiTy "list" (.bl b) = some false := kit_bool_list
@[simp] theorem isi_int_list {i : Int} : isiTy "list" (.int i) = some false := kit_int_list
@[simp] theorem isi_str_list {s : Str} : isiTy "list" (.str s) = some false := kit_str_list
@[simp] theorem isi_tuple_list {ds : List D} : isiTy "list" (.tup ds) = some false := kit_tuple_list
@[simp] theorem isi_list_list {ds : List D} : isiTy "list" (.lst ds) = some true := kit_list_list
@[simp] theorem isi_list_scr_list {ns : List Int} : isiTy "list" (.scr ns) = some true := kit_list_list
/-! ### comprehensions, turn by turn -/
def R.turn (r : R Bool) (te : M) (k : Option D → Env → R (List D)) : R (List D) := match r with
  | .ok true e2 => (match te e2 with
    | .ok y e3 => k (some y) e3
    | _ => .stk)
  | .ok false e2 => k none e2
  | _ => .stk
def turnE (r : R D) (k : Option D → Env → R (List D)) : R (List D) := match r with
  | .ok y e3 => k (some y) e3
  | _ => .stk
section
variable {vs : List Nat} {g : TGM} {tt : MT} {te : M} {d : D} {ds : List D} {e e1 e2 e3 e' : Env} {k : Option D → Env → R (List D)}
@[simp] theorem compL_n : compL vs g tt te [] e = .ok [] e := rfl
@[simp] theorem turn_t : (R.ok true e2).turn te k = turnE (te e2) k := rfl
@[simp] theorem turn_f : (R.ok false e2).turn te k = k none e2 := rfl
@[simp] theorem turnE_ok {y : D} : turnE (.ok y e3) k = k (some y) e3 := rfl
def putO (o : Option D) (r : R (List D)) : R (List D) := match o with | none => r | some y => r.bind fun ys e' => .ok (y :: ys) e'
@[simp] theorem putO_n {r : R (List D)} : putO none r = r := rfl
@[simp] theorem putO_s {y : D} {r : R (List D)} : putO (some y) r = r.bind fun ys e' => .ok (y :: ys) e' := rfl
theorem compL_c : compL vs g tt te (d :: ds) e = if vsOk e vs then (match g d (wipeE e vs) with | none => .stk | some e1 => (tt e1).turn te fun o e2 => putO o (compL vs g tt te ds (restE e e2 vs))) else .stk := by
  show (if vsOk e vs then _ else _) = _
  by_cases h : vsOk e vs = true
  · rw [if_pos h, if_pos h]
    cases g d (wipeE e vs) with
    | none => rfl
    | some e1 =>
      simp only
      cases tt e1 with
      | ok b e2 =>
        cases b with
        | true => cases h2 : te e2 <;> simp [turnE, h2]
        | false => rfl
      | exc _ _ _ => rfl
      | stk => rfl
  · rw [if_neg h, if_neg h]
theorem rest_one {i : Nat} (hl : e'.length = e.length) : restE e e' [i] = e'.set i ((e[i]?).getD none) := by
  apply List.ext_getElem?
  intro j
  unfold restE
  rw [List.getElem?_map, List.getElem?_set]
  by_cases hj : j < e.length
  · rw [List.getElem?_range hj]
    by_cases h : i = j
    · subst h; simp [hl, hj]
    · have h' : ¬ j = i := fun z => h z.symm
      simp [h, h']
      rw [List.getElem?_eq_getElem (by omega)]; rfl
  · rw [List.getElem?_eq_none (by simpa using hj), List.getElem?_eq_none (show e'.length ≤ j by omega)]
    simp
    by_cases h : i = j
    · subst h; simp; omega
    · simp [h]
@[simp] theorem wipe_n : wipeE e [] = e := rfl
@[simp] theorem wipe_c {i : Nat} : wipeE e (i :: vs) = (wipeE e vs).set i none := rfl
@[simp] theorem vsOk_n : vsOk e [] = true := rfl
@[simp] theorem vsOk_c {i : Nat} : vsOk e (i :: vs) = ((match e[i]? with | some (some x) => !x.isOwn | _ => true) && vsOk e vs) := rfl
end
theorem z_le {n : Nat} (h : n ≤ 1000) : n ≤ sizeLine := Nat.le_trans h (by rw [show sizeLine = _ from sizeLine_eq]; decide)
theorem repL_s {i : List D} {k : Int} : repL (.lst i) (.int k) = if -(2 ^ 63) ≤ k ∧ k < 2 ^ 63 ∧ i.length * k.toNat ≤ sizeLine then some (.lst (List.replicate k.toNat i).flatten) else none := rfl
end Ue

set_option linter.all false
set_option Elab.async false
set_option maxRecDepth 100000
set_option maxHeartbeats 4000000
/-! instances: methods, making, fields -/
namespace Ue
open PySem PySem.Spec L2
section
variable {X : Cx} {C : Addr} {k : Nat} {f : Addr} {fd : FuncData} {ps : List Str} {sp : Sp} {dvs : List V} {ds : List Value} {E : L2.St → XK} {x m : Str} {p pos apos : Pos} {e o : Expr} {es : List Expr} {ta : TE} {t : TA} {CX : CXT}
/-! ### the rules, with what is raised wished for at the caller's slots -/
def tMethS (C : Addr) (m : Str) (sp : Sp) (dvs : List V) (E : L2.St → XK) (ta : TE) (t : TA) : TE := fun σ H Q => ta σ H fun x H1 => ∃ a dx fs, x = .ref a ∧ H1 a = some (.ins C dx fs) ∧ fs.lookup m = none ∧ t σ H1 fun vs H2 => sp (x :: (vs ++ dvs)) H2 Q (E σ)
def tMakeS (C : Addr) (sp : Sp) (dvs : List V) (E : L2.St → XK) (t : TA) : TE := fun σ H Q => t σ H fun vs H1 => ∀ x dx, H1 x = none → H1 dx = none → dx ≠ x →
  sp (.ref x :: (vs ++ dvs)) (upd (upd H1 dx (.own x)) x (.ins C dx [])) (fun v H2 => v = .non ∧ Q (.ref x) H2) (E σ)
theorem pe_methS1 {pl : Sem Bool} (he : PE X o ta) (c : Cls X.K C) (hm : Meth X.K C m f) (F : FnG X.prog X.w X.K X.mg X.base CX k f fd ps sp) (gd : X.A.guards = some []) (hr : Room k X.A) (hb : Binds X.K fd ps ds) (hd : Vals dvs ds) (hx : ∀ σ, PassesAt CX X σ (E σ)) (ha : PA X (e :: es) t)
    (hs : starEach (e :: es) X.env = (false, eval e X.env) :: starEach es X.env) (hp : (backTo pos (starEach es X.env)).any (·.1) = false)
    (ht : eval (.Call (.Attribute o m apos) (e :: es) [] pos) X.env = (do
      let ov ← eval o X.env
      standAt apos.atName
      let (g, first) ← holding [ov] (getMethod ov m pl)
      callWith pos g first (backTo pos (starEach (e :: es) X.env)) (backToKw pos (keywordEach [] X.env)))) :
    PE X (.Call (.Attribute o m apos) (e :: es) [] pos) (tMethS C m sp dvs E ta t) := ⟨fun pins s σ H Q I h => by
  refine PySem.W.methodCall_KW (pl := pl) (thn (he.run pins s σ H _ I h) ?_) ht
  rintro u s1 ⟨x, H1, I1, rx, a, dx, fs, ex, ea, l, q⟩
  subst ex
  have hu : u = Value.ref a := rx
  subst hu
  refine getmeth_ok I1 ea c hm l (PySem.W.callWith_K (first := [.ref a]) (h₀ := X.base) I.ok.mod.kin hm.kp (thn (ha.run pos pins s1 σ H1 _ I1 q) ?_) hs hp)
  rintro us s2 ⟨vs, H2, I2, r, q2⟩
  exact ⟨I2.kIn, runG (us := .ref a :: us) (vs := .ref a :: vs) F gd hr hb hd (hx σ) I2 (.cons rfl r) q2⟩⟩
theorem pe_methS0 {pl : Sem Bool} (he : PE X o ta) (c : Cls X.K C) (hm : Meth X.K C m f) (F : FnG X.prog X.w X.K X.mg X.base CX k f fd ps sp) (gd : X.A.guards = some []) (hr : Room k X.A) (hb : Binds X.K fd ps ds) (hd : Vals dvs ds) (hx : ∀ σ, PassesAt CX X σ (E σ))
    (ht : eval (.Call (.Attribute o m apos) [] [] pos) X.env = (do
      let ov ← eval o X.env
      standAt apos.atName
      let (g, first) ← holding [ov] (getMethod ov m pl)
      callWith pos g first (backTo pos (starEach [] X.env)) (backToKw pos (keywordEach [] X.env)))) :
    PE X (.Call (.Attribute o m apos) [] [] pos) (tMethS C m sp dvs E ta tNil) := ⟨fun pins s σ H Q I h => by
  refine PySem.W.methodCall_KW (pl := pl) (thn (he.run pins s σ H _ I h) ?_) ht
  rintro u s1 ⟨x, H1, I1, rx, a, dx, fs, ex, ea, l, q⟩
  subst ex
  have hu : u = Value.ref a := rx
  subst hu
  exact getmeth_ok I1 ea c hm l (PySem.W.callWith_K0 (first := [.ref a]) I1.kIn hm.kp (runG (us := [.ref a]) (vs := [.ref a]) F gd hr hb hd (hx σ) I1 (.cons rfl .nil) q))⟩
theorem pe_callS0 (F : FnG X.prog X.w X.K X.mg X.base CX k f fd ps sp) (gd : X.A.guards = some []) (hr : Room k X.A) (hg : Gl X x) (hm : X.mg x = some (.ref f)) (hk : PySem.W.keepIn X.K (.ref f) = true) (hb : Binds X.K fd ps ds) (hd : Vals dvs ds) (hx : ∀ σ, PassesAt CX X σ (E σ))
    (hdb : (x == ("__debug__" : Str)) = false) : PE X (.Call (.Name x p) [] [] pos) (tCallSD sp dvs E tNil) := ⟨fun pins s σ H Q I h => by
  refine wpAny_Call_Name_kw (ld_glob I hg hm ?_ hdb)
  exact PySem.W.callWith_K0 I.kIn hk (runG (us := []) F gd hr hb hd (hx σ) I .nil h)⟩
theorem run_makeS {pins : List (Addr × Obj)} {σ : L2.St} {H : Hp} {s : Shared} {Q : VK} {us : List Value} {vs : List V} (M : Mk X.K C f) (F : FnG X.prog X.w X.K X.mg X.base CX k f fd ps sp) (gd : X.A.guards = some []) (hr : Room (k + 1) X.A) (hb : Binds X.K fd ps ds) (hd : Vals dvs ds)
    (hx : ∀ σ, PassesAt CX X σ (E σ)) (I : Inv X pins σ H s) (r : Vals vs us)
    (h : ∀ x dx, H x = none → H dx = none → dx ≠ x → sp (.ref x :: (vs ++ dvs)) (upd (upd H dx (.own x)) x (.ins C dx [])) (fun v H2 => v = .non ∧ Q (.ref x) H2) (E σ)) :
    wpAny (model X.prog X.w) X.A (call (.ref C) us) (EP X pins σ Q) X.xe s := by
  have hq := h (s.heap.objs.size + 1) s.heap.objs.size (I.hok.fresh (Nat.le_succ _)) (I.hok.fresh (Nat.le_refl _)) (Nat.ne_of_lt (Nat.lt_succ_self _))
  have J := Inv.made (C := C) I
  have rr : Vals (V.ref (s.heap.objs.size + 1) :: (vs ++ dvs)) (Value.ref (s.heap.objs.size + 1) :: (us ++ ds)) := .cons rfl (r.append hd)
  have hl : (Value.ref (s.heap.objs.size + 1) :: us ++ ds).length = ps.length := (rr.length.symm.trans (F.len _ _ _ _ hq))
  refine wpAny_call (make_map (f := f) I.kIn M.makes M.init (beq_iff_eq.mp M.fn) (codeAny_mono (F.go _ X.stack _ _ ⟨Value.ref (s.heap.objs.size + 1) :: us, []⟩ (Value.ref (s.heap.objs.size + 1) :: (us ++ ds)) _ _ (E σ) (make_guards.trans gd) (hr.make C us []) (J.env0.make C us []) (hb _ (Value.ref (s.heap.objs.size + 1) :: us) J.kIn hl) rr hq) ?_))
  intro r s' hq'
  cases r with
  | error e => exact hx σ pins _ _ e s' J hq'
  | ok fl =>
    cases fl with
    | ret u =>
      obtain ⟨v, H', J3, rv, ev, q3⟩ := J.after hq'
      subst ev
      exact ⟨rv, V.ref (s.heap.objs.size + 1), H', J3, rfl, q3⟩
    | next => exact False.elim hq'
    | brk => exact False.elim hq'
    | cont => exact False.elim hq'
theorem pe_makeS (M : Mk X.K C f) (F : FnG X.prog X.w X.K X.mg X.base CX k f fd ps sp) (gd : X.A.guards = some []) (hr : Room (k + 1) X.A) (hg : Gl X x) (hm : X.mg x = some (.ref C)) (hb : Binds X.K fd ps ds) (hd : Vals dvs ds) (hx : ∀ σ, PassesAt CX X σ (E σ))
    (ha : PA X (e :: es) t) (hdb : (x == ("__debug__" : Str)) = false) (he : starEach (e :: es) X.env = (false, eval e X.env) :: starEach es X.env) (hp : (backTo pos (starEach es X.env)).any (·.1) = false) :
    PE X (.Call (.Name x p) (e :: es) [] pos) (tMakeS C sp dvs E t) := ⟨fun pins s σ H Q I h => by
  refine wpAny_Call_Name_kw (ld_glob I hg hm (PySem.W.callWith_K (h₀ := X.base) I.ok.mod.kin M.kp (thn (ha.run pos pins s σ H _ (I) h) ?_) he hp) hdb)
  rintro us s1 ⟨vs, H1, I1, r, q⟩
  exact ⟨I1.kIn, run_makeS M F gd hr hb hd hx I1 r q⟩⟩
end
end Ue

namespace Ue
open PySem PySem.Spec L2
/-! ### the combinators -/
def callS (F : FM) (dfl : List D) (ss : List AD) (e : Env) : R D := match resA ss e with
  | none => .stk
  | some as => if fewO ss then (F (as ++ dfl.map EV.v)).go ss e else .stk
theorem argG_len : ∀ {ags : List Ag} {env env1 : Env} {ss : List AD}, argG ags env = .ok ss env1 → ss.length = ags.length
  | [], env, env1, ss, h => by cases h; rfl
  | .p m :: as, env, env1, ss, h => by
    have h : (m env).bind (fun d e1 => (argG as e1).bind fun ds e2 => R.ok (AD.d d :: ds) e2) = .ok ss env1 := h
    cases c : m env with
    | ok d e1 =>
      rw [c] at h
      have h : (argG as e1).bind (fun ds e2 => R.ok (AD.d d :: ds) e2) = .ok ss env1 := h
      cases c2 : argG as e1 with
      | ok ds e2 => rw [c2] at h; cases h; simp [argG_len c2]
      | exc _ _ _ => rw [c2] at h; cases h
      | stk => rw [c2] at h; cases h
    | exc _ _ _ => rw [c] at h; cases h
    | stk => rw [c] at h; cases h
  | .o i :: as, env, env1, ss, h => by
    unfold argG at h
    cases e0 : env[i]? with
    | none => rw [e0] at h; cases h
    | some o =>
      cases o with
      | none => rw [e0] at h; cases h
      | some v =>
        cases v with
        | own ds =>
          rw [e0] at h
          have h : (argG as env).bind (fun ds e2 => R.ok (AD.s i :: ds) e2) = .ok ss env1 := h
          cases c2 : argG as env with
          | ok ds e2 => rw [c2] at h; cases h; simp [argG_len c2]
          | exc _ _ _ => rw [c2] at h; cases h
          | stk => rw [c2] at h; cases h
        | _ => rw [e0] at h; cases h
section
variable {T : Tab} {W : WX} {kr : Kd} {env : Env} {σ : L2.St} {P H H0 : Hp} {X : Cx} {F : FM} {n : Nat} {dfl : List D} {dvs : List V} {xs : List V} {ss : List AD} {Q : VK}
theorem callS_sp (hkr : kr = .pure ∨ kr = .fresh) (hdr : ∀ P, Reps T P dfl dvs) (hn : ss.length + dfl.length = n) (R1 : Rel T env σ P H) (kxs : SReps T σ P ss xs) (nb : ∀ x, NewV kr H x → NewV kr H0 x)
    (h1 : After T W σ env P H (callS F dfl ss env) (fun d env' P' H' => ∀ x, KRep T kr env' σ P' H' d x → NewV kr H0 x → Q x H')) : spF T kr n F (xs ++ dvs) H Q (fun cls dd H' => W cls dd σ H') := by
  unfold callS at h1
  cases e1 : resA ss env with
  | none => rw [e1] at h1; exact False.elim h1
  | some as =>
    rw [e1] at h1
    simp only at h1
    by_cases hf : fewO ss = true
    · rw [if_pos hf] at h1
      obtain ⟨R2, o2⟩ := R1.call e1 hf kxs (hdr P)
      refine ⟨as ++ dfl.map EV.v, P, R2.nb, ?_, ?_⟩
      · rw [List.length_append, kxs.len, (hdr P).length]; exact hn
      · cases e2 : F (as ++ dfl.map EV.v) with
        | ok d as' =>
          rw [e2] at h1
          intro P2 H2 x R3 F3 kx nx
          obtain ⟨R4, F4, o4⟩ := R1.back e1 hf kxs (hdr P) R3 F3
          refine h1 P2 H2 R4 F4 x ?_ (nb x nx)
          rcases hkr with rfl | rfl
          · exact kx.bn
          · obtain ⟨a, ws, ds, q1, q2, q3, q4, q5, q6⟩ := kx.bn
            refine ⟨a, ws, ds, q1, q2, q3, fun z => ?_, q5, q6⟩
            obtain ⟨a', ea, ha⟩ := nx
            rw [q1] at ea; cases ea
            obtain ⟨o, ho, _⟩ := R1.ownAt (o4 a z)
            rw [ha] at ho; cases ho
        | exc c fs as' =>
          rw [e2] at h1
          intro P2 H2 cls dd R3 F3 x
          obtain ⟨R4, F4, o4⟩ := R1.back e1 hf kxs (hdr P) R3 F3
          exact h1 P2 H2 cls dd R4 F4 x.bn
        | stk => rw [e2] at h1; exact False.elim h1
    · rw [if_neg hf] at h1; exact False.elim h1
/-- o.m(..), o of the class c -/
def methM (c : Nat) (F : FM) (mo : M) (ags : List Ag) (dfl : List D) : M := fun env => (mo env).bind fun d e1 => match d with
  | .obj c' fs => if c' = c then (argG ags e1).bind fun ss e => callS F dfl (.d (.obj c' fs) :: ss) e else .stk
  | _ => .stk
theorem zip_none {m : Str} : ∀ {ns : List Str} {vs : List V}, ns.contains m = false → (ns.zip vs).lookup m = none
  | [], vs, _ => by simp
  | _ :: _, [], _ => by simp
  | n :: ns, v :: vs, h => by
    rw [List.contains_cons] at h
    obtain ⟨h1, h2⟩ := Bool.or_eq_false_iff.mp h
    rw [List.zip_cons_cons, List.lookup_cons, h1]
    exact zip_none h2
theorem rd_meth {c : Nat} {m : Str} {mo : M} {ags : List Ag} (hkr : kr = .pure ∨ kr = .fresh) (hdr : ∀ P, Reps T P dfl dvs) (hn : ags.length + 1 + dfl.length = n) (hm : (T.clsF c).contains m = false) (h : rdE T W kr (methM c F mo ags dfl) σ H Q) :
    tMethS (T.clsA c) m (spF T kr n F) dvs (fun σ cls d H => W cls d σ H) (rdE T W .pure mo) (rdP T W ags) σ H Q := by
  obtain ⟨env, P, RR, h⟩ := h
  refine ⟨env, P, RR, After.mono h.bind fun d env1 P1 H1 R1 F1 h1 x kx nx => ?_⟩
  cases d with
  | obj c' fs =>
    simp only at h1
    by_cases hc : c' = c
    · subst hc
      rw [if_pos rfl] at h1
      have kx : Rep T P1 (.obj c' fs) x := kx
      have kx' := kx
      rw [Rep] at kx
      obtain ⟨a, dx, vs, rfl, q1, q2, q3⟩ := kx
      refine ⟨a, dx, _, rfl, R1.sub _ _ q1, zip_none hm, env1, P1, R1, After.at h1.bind fun ss env2 P2 H2 es R2 F2 h2 xs kxs => ?_⟩
      have k2 : SReps T σ P2 (.d (.obj c' fs) :: ss) (.ref a :: xs) := .d (Rep.sub F2.mono _ _ kx') kxs
      exact callS_sp (xs := .ref a :: xs) hkr hdr (by rw [List.length_cons, argG_len es]; omega) R2 k2 (fun x nx => (nx.back F2).back F1) h2
    · rw [if_neg hc] at h1; exact False.elim h1
  | _ => exact False.elim h1
end
end Ue
namespace Ue
open PySem PySem.Spec L2
/-! ### making an instance -/
def makeS (c nf : Nat) (F : FM) (dfl : List D) (ss : List AD) (e : Env) : R D := match resA ss e with
  | none => .stk
  | some as => if fewO ss then (match F (.new c [] :: (as ++ dfl.map EV.v)) with
    | .ok .non (.new c' fs :: as') => if c' = c ∧ fs.length = nf then .ok (.obj c fs) (putA ss as' e) else .stk
    | .exc k fs (.new _ _ :: as') => .exc k fs (putA ss as' e)
    | _ => .stk) else .stk
def mkM (c nf : Nat) (F : FM) (ags : List Ag) (dfl : List D) : M := fun env => (argG ags env).bind fun ss e => makeS c nf F dfl ss e
section
variable {T : Tab} {as as' : List EV} {vs : List V} {P H P' H' P2 : Hp} {x dx : Addr} {c c' : Nat} {fs : List D}
theorem own_cons {f : EV} {v : V} {b : Addr} (h : Own ((f :: as).map some) ((v :: vs).map some) b) : (f.isOwn = true ∧ v = .ref b) ∨ Own (as.map some) (vs.map some) b := by
  obtain ⟨i, e, h1, h2, h3⟩ := h
  cases i with
  | zero => simp at h1 h3; subst h1; exact .inl ⟨h2, h3⟩
  | succ i => exact .inr ⟨i, e, by simpa using h1, h2, by simpa using h3⟩
theorem own_tail {f : EV} {v : V} {b : Addr} (h : Own (as.map some) (vs.map some) b) : Own ((f :: as).map some) ((v :: vs).map some) b := by
  obtain ⟨i, e, h1, h2, h3⟩ := h
  exact ⟨i + 1, e, by simpa using h1, h2, by simpa using h3⟩
theorem Rel.made (R2 : Rel T (as.map some) (vs.map some) P H) (hx : H x = none) (hd : H dx = none) (ne : dx ≠ x) :
    Rel T ((EV.new c [] :: as).map some) ((V.ref x :: vs).map some) P (upd (upd H dx (.own x)) x (.ins (T.clsA c) dx [])) := by
  have up : ∀ b o, H b = some o → (upd (upd H dx (.own x)) x (.ins (T.clsA c) dx [])) b = some o := fun b o h => by
    rw [upd_ne (fun z => by subst z; rw [hx] at h; cases h), upd_ne (fun z => by subst z; rw [hd] at h; cases h)]; exact h
  have px : P x = none := by
    cases q : P x with
    | none => rfl
    | some o => have := R2.sub _ _ q; rw [hx] at this; cases this
  refine ⟨fun b o h => up b o (R2.sub b o h), fun i e h => ?_, fun i j e f a n h1 h2 o1 o2 s1 s2 => ?_, by simpa using R2.len⟩
  · cases i with
    | zero =>
      simp at h; subst h
      exact ⟨.ref x, rfl, x, dx, [], rfl, by rw [upd_same, List.zip_nil_right], px, Nat.zero_le _, Reps.nil⟩
    | succ i =>
      obtain ⟨v, hv, r⟩ := R2.ent i e (by simpa using h)
      refine ⟨v, by simpa using hv, ?_⟩
      cases e with
      | v d => exact r
      | own ds => obtain ⟨a, ws, q1, q2, q3, q4⟩ := r; exact ⟨a, ws, q1, up _ _ q2, q3, q4⟩
      | new c fs => obtain ⟨a, d, ws, q1, q2, q3⟩ := r; exact ⟨a, d, ws, q1, up _ _ q2, q3⟩
      | ex c fs => trivial
  · have at_ : ∀ (i : Nat) (e : EV), (as.map some)[i]? = some (some e) → e.isOwn = true → (vs.map some)[i]? = some (some (V.ref a)) → H a ≠ none := fun i e h o s z => by
      obtain ⟨v, hv, r⟩ := R2.ent i e h
      rw [hv] at s; cases s
      cases e with
      | own ds => obtain ⟨a', ws, q1, q2, _⟩ := r; cases q1; rw [z] at q2; cases q2
      | new c fs => obtain ⟨a', d, ws, q1, q2, _⟩ := r; cases q1; rw [z] at q2; cases q2
      | v d => cases o
      | ex c fs => cases o
    cases i with
    | zero =>
      cases j with
      | zero => exact n rfl
      | succ j =>
        simp at s1; subst s1
        exact at_ j f (by simpa using h2) o2 (by simpa using s2) hx
    | succ i =>
      cases j with
      | zero =>
        simp at s2; subst s2
        exact at_ i e (by simpa using h1) o1 (by simpa using s1) hx
      | succ j => exact R2.dis i j e f a (fun z => n (by rw [z])) (by simpa using h1) (by simpa using h2) o1 o2 (by simpa using s1) (by simpa using s2)
theorem Rel.unmade (hx : H x = none) (hd : H dx = none) (ne : dx ≠ x) (R3 : Rel T ((EV.new c' fs :: as').map some) ((V.ref x :: vs).map some) P' H')
    (F3 : Fr ((EV.new c [] :: as).map some) ((V.ref x :: vs).map some) P (upd (upd H dx (.own x)) x (.ins (T.clsA c) dx [])) ((EV.new c' fs :: as').map some) ((V.ref x :: vs).map some) P' H')
    (hP : P2 = P' ∨ ∃ u, P2 = upd P' x u ∧ H' x = some u) : Rel T (as'.map some) (vs.map some) P2 H' ∧ Fr (as.map some) (vs.map some) P H (as'.map some) (vs.map some) P2 H' ∧ PSub P' P2 := by
  obtain ⟨v0, hv0, a0, d0, ws0, e0, q0, p0, _⟩ := R3.ent 0 (.new c' fs) rfl
  simp at hv0; subst hv0
  cases e0
  have nx : ∀ b, b ≠ x → P2 b = P' b := fun b h => by
    rcases hP with rfl | ⟨u, rfl, _⟩
    · rfl
    · exact upd_ne h
  have mono : PSub P' P2 := fun b o h => by rw [nx b (fun z => by subst z; rw [p0] at h; cases h)]; exact h
  have up : ∀ b o, H b = some o → (upd (upd H dx (.own x)) x (.ins (T.clsA c) dx [])) b = some o := fun b o h => by
    rw [upd_ne (fun z => by subst z; rw [hx] at h; cases h), upd_ne (fun z => by subst z; rw [hd] at h; cases h)]; exact h
  have upn : ∀ b, H b ≠ none → (upd (upd H dx (.own x)) x (.ins (T.clsA c) dx [])) b ≠ none := fun b h => by
    cases q : H b with
    | none => exact absurd q h
    | some o => rw [up b o q]; exact fun z => nomatch z
  have onew : ∀ b, H b ≠ none → ¬ Own (as.map some) (vs.map some) b → ¬ Own ((EV.new c [] :: as).map some) ((V.ref x :: vs).map some) b := fun b h n z => by
    rcases own_cons z with ⟨_, e⟩ | z
    · cases e; exact h hx
    · exact n z
  refine ⟨⟨fun b o h => ?_, fun i e h => ?_, fun i j e f a n h1 h2 o1 o2 s1 s2 => R3.dis (i + 1) (j + 1) e f a (fun z => n (by omega)) (by simpa using h1) (by simpa using h2) o1 o2 (by simpa using s1) (by simpa using s2), by simpa using R3.len⟩,
    ⟨fun b o h n => F3.keep b o (up b o h) (onew b (by rw [h]; exact fun z => nomatch z) n), fun b h n z => F3.own b (upn b h) (onew b h n) (own_tail z), F3.mono.trans mono, fun b h => ?_, fun b h => F3.there b (upn b h)⟩, mono⟩
  · rcases hP with rfl | ⟨u, rfl, hu⟩
    · exact R3.sub b o h
    · by_cases hb : b = x
      · subst hb; rw [upd_same] at h; cases h; exact hu
      · rw [upd_ne hb] at h; exact R3.sub b o h
  · obtain ⟨v, hv, r⟩ := R3.ent (i + 1) e (by simpa using h)
    refine ⟨v, by simpa using hv, ?_⟩
    have no : ∀ a, v = .ref a → e.isOwn = true → P' a = none → P2 a = none := fun a hva o hn => by
      rw [nx a (fun z => ?_)]; · exact hn
      subst z; subst hva
      exact R3.dis 0 (i + 1) (.new c' fs) e a (by omega) rfl (by simpa using h) rfl o rfl hv
    cases e with
    | v d => exact Rep.sub mono _ _ r
    | own ds => obtain ⟨a, ws, q1, q2, q3, q4⟩ := r; exact ⟨a, ws, q1, q2, no a q1 rfl q3, Reps.sub mono _ _ q4⟩
    | new c fs => obtain ⟨a, d, ws, q1, q2, q3, q4, q5⟩ := r; exact ⟨a, d, ws, q1, q2, no a q1 rfl q3, q4, Reps.sub mono _ _ q5⟩
    | ex c fs =>
      intro a d cls hc
      obtain ⟨q1, q2⟩ := r a d cls hc
      exact ⟨q1, q2.sub mono⟩
  · by_cases hb : b = x
    · subst hb; exact .inr (.inl hx)
    · rw [nx b hb] at h
      rcases F3.new b h with q | q | q
      · exact .inl q
      · refine .inr (.inl (Classical.byContradiction fun z => upn b z q))
      · rcases own_cons q with ⟨_, e⟩ | q
        · cases e; exact absurd rfl hb
        · exact .inr (.inr q)
end
end Ue
namespace Ue
open PySem PySem.Spec L2
section
variable {T : Tab} {W : WX} {kr : Kd} {env : Env} {σ : L2.St} {P H H0 : Hp} {X : Cx} {F : FM} {n nf c : Nat} {dfl : List D} {dvs : List V} {xs : List V} {ss : List AD} {Q : VK}
theorem makeS_sp (hnf : nf = (T.clsF c).length) (hdr : ∀ P, Reps T P dfl dvs) (hn : ss.length + 1 + dfl.length = n) (R1 : Rel T env σ P H) (kxs : SReps T σ P ss xs)
    (h1 : After T W σ env P H (makeS c nf F dfl ss env) (fun d env' P' H' => ∀ x, KRep T .pure env' σ P' H' d x → NewV .pure H0 x → Q x H')) :
    ∀ x dx, H x = none → H dx = none → dx ≠ x → spF T .pure n F (.ref x :: (xs ++ dvs)) (upd (upd H dx (.own x)) x (.ins (T.clsA c) dx [])) (fun v H2 => v = .non ∧ Q (.ref x) H2) (fun cls dd H' => W cls dd σ H') := by
  intro x dx hx hd ne
  unfold makeS at h1
  cases e1 : resA ss env with
  | none => rw [e1] at h1; exact False.elim h1
  | some as =>
    rw [e1] at h1
    simp only at h1
    by_cases hf : fewO ss = true
    · rw [if_pos hf] at h1
      obtain ⟨R2, o2⟩ := R1.call e1 hf kxs (hdr P)
      refine ⟨.new c [] :: (as ++ dfl.map EV.v), P, R2.nb.made hx hd ne, ?_, ?_⟩
      · rw [List.length_cons, List.length_append, kxs.len, (hdr P).length]; omega
      · cases e2 : F (.new c [] :: (as ++ dfl.map EV.v)) with
        | ok d as1 =>
          rw [e2] at h1
          intro P2 H2 y R3 F3 kx nx
          cases d with
          | non =>
            have ky : Rep T.nb P2 .non y := kx
            rw [Rep] at ky
            cases as1 with
            | nil => exact False.elim h1
            | cons f as' =>
              cases f with
              | new c' fs =>
                simp only at h1
                by_cases hc : c' = c ∧ fs.length = nf
                · rw [if_pos hc] at h1
                  obtain ⟨rfl, hlen⟩ := hc
                  obtain ⟨v0, hv0, a0, d0, ws0, e0, q0, p0, l0, r0⟩ := R3.ent 0 (.new c' fs) rfl
                  simp at hv0; subst hv0
                  cases e0
                  obtain ⟨R4, F4, mono⟩ := Rel.unmade (T := T.nb) hx hd ne R3 F3 (P2 := upd P2 x (.ins (T.clsA c') d0 ((T.clsF c').zip ws0))) (.inr ⟨_, rfl, q0⟩)
                  obtain ⟨R5, F5, o5⟩ := R1.back e1 hf kxs (hdr P) R4 F4
                  refine ⟨ky, h1 _ H2 R5 F5 (.ref x) ?_ trivial⟩
                  show Rep T _ (.obj c' fs) (.ref x)
                  rw [Rep]
                  exact ⟨x, d0, ws0, rfl, upd_same, by rw [r0.length, hlen, hnf], (reps_nb _ _).mp (Reps.sub mono _ _ r0)⟩
                · rw [if_neg hc] at h1; exact False.elim h1
              | _ => exact False.elim h1
          | _ => exact False.elim h1
        | exc k gs as1 =>
          rw [e2] at h1
          intro P2 H2 cls dd R3 F3 y
          cases as1 with
          | nil => exact False.elim h1
          | cons f as' =>
            cases f with
            | new c' fs =>
              obtain ⟨R4, F4, mono⟩ := Rel.unmade (T := T.nb) hx hd ne R3 F3 (P2 := P2) (.inl rfl)
              obtain ⟨R5, F5, o5⟩ := R1.back e1 hf kxs (hdr P) R4 F4
              exact h1 P2 H2 cls dd R5 F5 y.bn
            | _ => exact False.elim h1
        | stk => rw [e2] at h1; exact False.elim h1
    · rw [if_neg hf] at h1; exact False.elim h1
theorem rd_mk {ags : List Ag} (hnf : nf = (T.clsF c).length) (hdr : ∀ P, Reps T P dfl dvs) (hn : ags.length + 1 + dfl.length = n) (h : rdE T W .pure (mkM c nf F ags dfl) σ H Q) :
    tMakeS (T.clsA c) (spF T .pure n F) dvs (fun σ cls d H => W cls d σ H) (rdP T W ags) σ H Q := by
  obtain ⟨env, P, RR, h⟩ := h
  refine ⟨env, P, RR, After.at h.bind fun ss env1 P1 H1 es R1 F1 h1 xs kxs => ?_⟩
  exact makeS_sp hnf hdr (by rw [argG_len es]; exact hn) R1 kxs h1
variable {k : Nat} {f : Addr} {fd : FuncData} {ps : List Str} {ds : List Value} {x m : Str} {p pos apos : Pos} {e o : Expr} {es : List Expr} {mo : M} {ags : List Ag}
theorem de_make (M1 : Mk X.K (T.clsA c) f) (G : FnG X.prog X.w X.K X.mg X.base (L2.CX X.prog X.w) k f fd ps (spF T .pure n F)) (gd : X.A.guards = some []) (hr : Room (k + 1) X.A) (hg : Gl X x) (hm : X.mg x = some (.ref (T.clsA c)))
    (hb : Binds X.K fd ps ds) (hd : Vals dvs ds) (hdr : ∀ P, Reps T P dfl dvs) (tk : Takes X W) (ha : GA T W X (e :: es) ags) (hnf : nf = (T.clsF c).length := by rfl) (hn : ags.length + 1 + dfl.length = n := by rfl)
    (hdb : (x == ("__debug__" : Str)) = false := by decide) (he : starEach (e :: es) X.env = (false, eval e X.env) :: starEach es X.env := by rfl) (hp : (backTo pos (starEach es X.env)).any (·.1) = false := by rfl) :
    DE T W X (.Call (.Name x p) (e :: es) [] pos) .pure (mkM c nf F ags dfl) :=
  pe_imp (pe_makeS (E := fun σ cls d H => W cls d σ H) M1 G gd hr hg hm hb hd (fun σ => passAt tk σ) ha hdb he hp) fun _ _ _ h => rd_mk hnf hdr hn h
theorem de_meth {pl : Sem Bool} (hkr : kr = .pure ∨ kr = .fresh) (he : DE T W X o .pure mo) (cl : Cls X.K (T.clsA c)) (hm : Meth X.K (T.clsA c) m f) (hmf : (T.clsF c).contains m = false) (G : FnG X.prog X.w X.K X.mg X.base (L2.CX X.prog X.w) k f fd ps (spF T kr n F)) (gd : X.A.guards = some []) (hr : Room k X.A)
    (hb : Binds X.K fd ps ds) (hd : Vals dvs ds) (hdr : ∀ P, Reps T P dfl dvs) (tk : Takes X W) (ha : GA T W X (e :: es) ags) (hn : ags.length + 1 + dfl.length = n := by rfl)
    (hs : starEach (e :: es) X.env = (false, eval e X.env) :: starEach es X.env := by rfl) (hp : (backTo pos (starEach es X.env)).any (·.1) = false := by rfl)
    (ht : eval (.Call (.Attribute o m apos) (e :: es) [] pos) X.env = (do
      let ov ← eval o X.env
      standAt apos.atName
      let (g, first) ← holding [ov] (getMethod ov m pl)
      callWith pos g first (backTo pos (starEach (e :: es) X.env)) (backToKw pos (keywordEach [] X.env))) := by rfl) :
    DE T W X (.Call (.Attribute o m apos) (e :: es) [] pos) kr (methM c F mo ags dfl) :=
  pe_imp (pe_methS1 (E := fun σ cls d H => W cls d σ H) he cl hm G gd hr hb hd (fun σ => passAt tk σ) ha hs hp ht) fun _ _ _ h => rd_meth hkr hdr hn hmf h
theorem rdP_nil {Q : List V → Hp → Prop} (h : rdP T W [] σ H Q) : tNil σ H Q := by
  obtain ⟨env, P, RR, h⟩ := h
  exact h.here RR (Fr.refl _ _ _ _) [] .nil
theorem tMethS_imp {C : Addr} {m : Str} {sp : Sp} {E : L2.St → XK} {ta : TE} {t t' : TA} (k : ∀ σ H Q, t σ H Q → t' σ H Q) (mono : ∀ Q Q' : VK, (∀ x H, Q x H → Q' x H) → ta σ H Q → ta σ H Q') (h : tMethS C m sp dvs E ta t σ H Q) : tMethS C m sp dvs E ta t' σ H Q :=
  mono _ _ (fun x H1 ⟨a, dx, fs, q1, q2, q3, q4⟩ => ⟨a, dx, fs, q1, q2, q3, k _ _ _ q4⟩) h
theorem de_meth0 {pl : Sem Bool} (hkr : kr = .pure ∨ kr = .fresh) (he : DE T W X o .pure mo) (cl : Cls X.K (T.clsA c)) (hm : Meth X.K (T.clsA c) m f) (hmf : (T.clsF c).contains m = false) (G : FnG X.prog X.w X.K X.mg X.base (L2.CX X.prog X.w) k f fd ps (spF T kr n F)) (gd : X.A.guards = some []) (hr : Room k X.A)
    (hb : Binds X.K fd ps ds) (hd : Vals dvs ds) (hdr : ∀ P, Reps T P dfl dvs) (tk : Takes X W) (hn : 1 + dfl.length = n := by rfl)
    (ht : eval (.Call (.Attribute o m apos) [] [] pos) X.env = (do
      let ov ← eval o X.env
      standAt apos.atName
      let (g, first) ← holding [ov] (getMethod ov m pl)
      callWith pos g first (backTo pos (starEach [] X.env)) (backToKw pos (keywordEach [] X.env))) := by rfl) :
    DE T W X (.Call (.Attribute o m apos) [] [] pos) kr (methM c F mo [] dfl) :=
  pe_imp (pe_methS0 (E := fun σ cls d H => W cls d σ H) he cl hm G gd hr hb hd (fun σ => passAt tk σ) ht) fun _ _ _ h => tMethS_imp (fun _ _ _ => rdP_nil) (fun _ _ k => rdE_mono k) (rd_meth (ags := []) hkr hdr (by rw [← hn]; rfl) hmf h)
theorem de_call0 (hkr : kr = .pure ∨ kr = .fresh) (G : FnG X.prog X.w X.K X.mg X.base (L2.CX X.prog X.w) k f fd ps (spF T kr n F)) (gd : X.A.guards = some []) (hr : Room k X.A) (hg : Gl X x) (hm : X.mg x = some (.ref f)) (hk : PySem.W.keepIn X.K (.ref f) = true)
    (hb : Binds X.K fd ps ds) (hd : Vals dvs ds) (hdr : ∀ P, Reps T P dfl dvs) (tk : Takes X W) (hn : dfl.length = n := by rfl) (hdb : (x == ("__debug__" : Str)) = false := by decide) :
    DE T W X (.Call (.Name x p) [] [] pos) kr (fnM F [] dfl) :=
  pe_imp (pe_callS0 (E := fun σ cls d H => W cls d σ H) G gd hr hg hm hk hb hd (fun σ => passAt tk σ) hdb) fun σ H Q h => by
    have := rd_fn (n := n) (dvs := dvs) (ags := []) hkr hdr (by rw [← hn]; simp) h
    exact rdP_nil this
end
end Ue

set_option linter.all false
set_option Elab.async false
set_option maxRecDepth 100000
set_option maxHeartbeats 4000000
/-! fields -/
namespace Ue
open PySem PySem.Spec L2
section
variable {T : Tab} {W : WX} {kr : Kd} {pins : List Nat} {env env' : Env} {σ σ' : L2.St} {P H P' H' : Hp} {X : Cx} {pos pos' : Pos} {o e : Expr} {m : M}
theorem zip_look {f : Str} {v : V} : ∀ {ns : List Str} {vs : List V} {j : Nat}, ns[j]? = some f → (ns.take j).contains f = false → vs[j]? = some v → (ns.zip vs).lookup f = some v
  | [], _, _, h, _, _ => by simp at h
  | _ :: _, [], _, _, _, h => by simp at h
  | n :: ns, w :: vs, 0, h1, _, h3 => by simp at h1 h3; subst h1 h3; simp
  | n :: ns, w :: vs, j + 1, h1, h2, h3 => by
    rw [List.take_succ_cons, List.contains_cons] at h2
    obtain ⟨h4, h5⟩ := Bool.or_eq_false_iff.mp h2
    rw [List.zip_cons_cons, List.lookup_cons, h4]
    exact zip_look (by simpa using h1) h5 (by simpa using h3)
theorem zip_put {f : Str} {y : V} : ∀ {ns : List Str} {vs : List V}, ns[vs.length]? = some f → (ns.take vs.length).contains f = false → putF f y (ns.zip vs) = ns.zip (vs ++ [y])
  | [], vs, h, _ => by simp at h
  | n :: ns, [], h, _ => by simp at h; subst h; simp [putF]
  | n :: ns, w :: vs, h1, h2 => by
    rw [List.length_cons, List.take_succ_cons, List.contains_cons] at h2
    obtain ⟨h4, h5⟩ := Bool.or_eq_false_iff.mp h2
    have hne : n ≠ f := fun z => by subst z; simp at h4
    rw [List.zip_cons_cons, putF, if_neg hne, zip_put (by simpa using h1) h5]
    rfl
/-! ### o.f -/
def attrM (c j : Nat) (m : M) : M := fun env => (m env).bind fun d e => match d with
  | .obj c' fs => if c' = c then (match fs[j]? with | some x => .ok x e | none => .stk) else .stk
  | _ => .stk
theorem rd_attr {c j : Nat} {f : Str} {Q : VK} (cl : Cls T.K (T.clsA c)) (na : NoAttr T.K (T.clsA c) f) (hj : (T.clsF c)[j]? = some f) (hn : ((T.clsF c).take j).contains f = false) (h : rdE T W .pure (attrM c j m) σ H Q) : tFld T.K (rdE T W .pure m) f σ H Q := by
  obtain ⟨env, P, RR, h⟩ := h
  refine ⟨env, P, RR, After.mono h.bind fun d env1 P1 H1 R1 F1 h1 x kx nx => ?_⟩
  cases d with
  | obj c' fs =>
    simp only at h1
    by_cases hc : c' = c
    · subst hc
      rw [if_pos rfl] at h1
      have kx : Rep T P1 (.obj c' fs) x := kx
      rw [Rep] at kx
      obtain ⟨a, dx, vs, rfl, q1, q2, q3⟩ := kx
      cases e1 : fs[j]? with
      | none => rw [e1] at h1; exact False.elim h1
      | some y =>
        rw [e1] at h1
        obtain ⟨v, hv, rv⟩ := q3.get e1
        exact ⟨a, _, dx, _, v, rfl, R1.sub _ _ q1, cl, na, zip_look hj hn hv, h1.here R1 (Fr.refl _ _ _ _) v rv trivial⟩
    · rw [if_neg hc] at h1; exact False.elim h1
  | _ => exact False.elim h1
theorem de_attr {c j : Nat} {f : Str} (hK : X.K = T.K) (h : DE T W X o .pure m) (cl : Cls T.K (T.clsA c)) (na : NoAttr T.K (T.clsA c) f) (hj : (T.clsF c)[j]? = some f := by rfl) (hn : ((T.clsF c).take j).contains f = false := by decide +kernel)
    (hb : attributeBase o f X.env (eval o X.env) = eval o X.env := by rfl) : DE T W X (.Attribute o f pos) .pure (attrM c j m) :=
  pe_imp (pe_fld h hb) fun _ _ _ h => by rw [hK]; exact rd_attr cl na hj hn h
/-! ### self.f, while self is made -/
def natM (c i j : Nat) : M := fun env => match env[i]? with
  | some (some (.new c' fs)) => if c' = c then (match fs[j]? with | some x => .ok x env | none => .stk) else .stk
  | _ => .stk
theorem de_nat {c i j : Nat} {f : Str} (hK : X.K = T.K) (h : PE X o (tVar i)) (cl : Cls T.K (T.clsA c)) (na : NoAttr T.K (T.clsA c) f) (hj : (T.clsF c)[j]? = some f := by rfl) (hn : ((T.clsF c).take j).contains f = false := by decide +kernel)
    (hb : attributeBase o f X.env (eval o X.env) = eval o X.env := by rfl) : DE T W X (.Attribute o f pos) .pure (natM c i j) := by
  refine pe_imp (pe_fld h hb) fun σ H Q h => ?_
  rw [hK]
  obtain ⟨env, P, RR, h⟩ := h
  unfold natM at h
  cases e0 : env[i]? with
  | none => rw [e0] at h; exact False.elim h
  | some o =>
    cases o with
    | none => rw [e0] at h; exact False.elim h
    | some v =>
      cases v with
      | new c' fs =>
        rw [e0] at h
        simp only at h
        by_cases hc : c' = c
        · subst hc
          rw [if_pos rfl] at h
          obtain ⟨u, hu, a, dx, vs, rfl, q1, q2, q3, q4⟩ := RR.ent i _ e0
          cases e1 : fs[j]? with
          | none => rw [e1] at h; exact False.elim h
          | some y =>
            rw [e1] at h
            obtain ⟨v, hv, rv⟩ := q4.get e1
            exact ⟨_, hu, a, _, dx, _, v, rfl, q1, cl, na, zip_look hj hn hv, h.here RR (Fr.refl _ _ _ _) v rv trivial⟩
        · rw [if_neg hc] at h; exact False.elim h
      | _ => rw [e0] at h; exact False.elim h
theorem Rel.updW {i : Nat} {g g' : EV} {a : Addr} {u : HO} (RR : Rel T env σ P H) (e : env[i]? = some (some g)) (og : g.isOwn = true) (og' : g'.isOwn = true) (hs : σ[i]? = some (some (V.ref a))) (r : EnvRep T P (upd H a u) g' (.ref a)) :
    Rel T (env.set i (some g')) σ P (upd H a u) ∧ Fr env σ P H (env.set i (some g')) σ P (upd H a u) := by
  have own_a : Own env σ a := ⟨i, _, e, og, hs⟩
  obtain ⟨o, ho, pa⟩ := RR.ownAt own_a
  have key : ∀ (j : Nat) (f : EV), (env.set i (some g'))[j]? = some (some f) → (j = i ∧ f = g') ∨ (j ≠ i ∧ env[j]? = some (some f)) := fun j f h => by
    by_cases q : j = i
    · subst q; rw [set_get e] at h; cases h; exact .inl ⟨rfl, rfl⟩
    · rw [List.getElem?_set_ne (fun z => q z.symm)] at h; exact .inr ⟨q, h⟩
  have back : ∀ (j : Nat) (f : EV), (env.set i (some g'))[j]? = some (some f) → f.isOwn = true → ∃ k, env[j]? = some (some k) ∧ k.isOwn = true := fun j f h o => by
    rcases key j f h with ⟨rfl, rfl⟩ | ⟨_, q⟩
    · exact ⟨_, e, og⟩
    · exact ⟨f, q, o⟩
  refine ⟨⟨fun b u h => ?_, fun j f h => ?_, fun j l f k b n h1 h2 o1 o2 s1 s2 => ?_, by rw [List.length_set]; exact RR.len⟩, fun b u h n => ?_, fun b _ n z => ?_, PSub.refl _, fun b h => .inl h, fun b h => ?_⟩
  · rw [upd_ne (ne_of_none h pa)]; exact RR.sub b u h
  · rcases key j f h with ⟨rfl, rfl⟩ | ⟨q, h⟩
    · exact ⟨_, hs, r⟩
    · obtain ⟨v, hv, rv⟩ := RR.ent j f h
      refine ⟨v, hv, rv.grow (PSub.refl _) fun b u h1 h2 h3 h4 => ⟨?_, h2⟩⟩
      have hb : b ≠ a := by
        rintro rfl
        subst h4
        exact RR.dis j i f _ b q h e h3 og hv hs
      rw [upd_ne hb]; exact h1
  · obtain ⟨f', h1', o1'⟩ := back j f h1 o1
    obtain ⟨k', h2', o2'⟩ := back l k h2 o2
    exact RR.dis j l f' k' b n h1' h2' o1' o2' s1 s2
  · rw [upd_ne (fun z => n (by rw [z]; exact own_a))]; exact h
  · obtain ⟨j, f, h1, h2, h3⟩ := z
    obtain ⟨k, h4, h5⟩ := back j f h1 h2
    exact n ⟨j, k, h4, h5, h3⟩
  · by_cases hb : b = a
    · subst hb; rw [upd_same]; exact fun z => nomatch z
    · rw [upd_ne hb]; exact h
/-! ### self.f = e, while self is made -/
def stfM (c i j : Nat) (m : M) : MS := fun env => (m env).toS fun d e => match e[i]? with
  | some (some (.new c' fs)) => if c' = c ∧ fs.length = j then .nx (e.set i (some (.new c' (fs ++ [d])))) else .stk
  | _ => .stk
theorem ds_stf {c i j : Nat} {f : Str} (hK : X.K = T.K) (ho : PE X o (tVar i)) (hv : DE T W X e .pure m) (cl : Cls T.K (T.clsA c)) (na : NoAttr T.K (T.clsA c) f) (hj : (T.clsF c)[j]? = some f := by rfl) (hn : ((T.clsF c).take j).contains f = false := by decide +kernel) (h9 : j < 900 := by decide)
    (hs : swapsWith e (some (.Attribute o f pos')) pos.line X.env = pure false := by rfl) : DS T W kr pins X (.Assign [.Attribute o f pos'] e pos) (stfM c i j m) := by
  refine ps_imp (ps_fld ho hv hs) fun D σ H h => ?_
  rw [hK]
  obtain ⟨env, P, RR, h⟩ := h
  refine ⟨env, P, RR, After.mono h.ofR fun d env1 P1 H1 R1 F1 h1 y ky nx => ?_⟩
  cases e0 : env1[i]? with
  | none => simp only [e0] at h1; exact False.elim h1
  | some o =>
    cases o with
    | none => simp only [e0] at h1; exact False.elim h1
    | some v =>
      cases v with
      | new c' fs =>
        simp only [e0] at h1
        by_cases hc : c' = c ∧ fs.length = j
        · obtain ⟨rfl, hl⟩ := hc
          rw [if_pos ⟨rfl, hl⟩] at h1
          obtain ⟨u, hu, a, dx, vs, rfl, q1, q2, q3, q4⟩ := R1.ent i _ e0
          have hvl : vs.length = j := by rw [q4.length, hl]
          have hp : putF f y ((T.clsF c').zip vs) = (T.clsF c').zip (vs ++ [y]) := zip_put (by rw [hvl]; exact hj) (by rw [hvl]; exact hn)
          have hjl : j < (T.clsF c').length := by
            rcases Nat.lt_or_ge j (T.clsF c').length with q | q
            · exact q
            · rw [List.getElem?_eq_none q] at hj; cases hj
          refine ⟨_, hu, a, _, dx, _, rfl, q1, cl, na, ?_, ?_⟩
          · rw [List.length_zip]; omega
          · rw [hp]
            obtain ⟨R2, F2⟩ := R1.updW (u := .ins (T.clsA c') dx ((T.clsF c').zip (vs ++ [y]))) (g' := .new c' (fs ++ [d])) e0 rfl rfl hu ⟨a, dx, vs ++ [y], rfl, upd_same, q2, by simp; omega, q4.append (Reps.cons ky Reps.nil)⟩
            exact h1 σ _ _ R2 F2 FrP.refl
        · rw [if_neg hc] at h1; exact False.elim h1
      | _ => simp only [e0] at h1; exact False.elim h1
end
end Ue

set_option linter.all false
set_option Elab.async false
set_option maxRecDepth 100000
set_option maxHeartbeats 4000000
/-! except X as e -/
namespace Ue
open PySem PySem.Spec L2
def noEx (e : Env) : Bool := e.all fun o => match o with | some (.ex _ _) => false | _ => true
def dropE (i : Nat) (r : SR) : SR := match r with
  | .nx e => .nx (e.set i none)
  | .brk e => .brk (e.set i none)
  | .cnt e => .cnt (e.set i none)
  | .ret d e => .ret d (e.set i none)
  | _ => .stk
def tryAsM (body : MS) (caught : Nat → Option Bool) (i : Nat) (suite : MS) : MS := fun env => match body env with
  | .exc c fs e => (match caught c with | some true => if noEx e ∧ i < e.length then dropE i (suite (e.set i (some (.ex c fs)))) else .stk | some false => .exc c fs e | none => .stk)
  | r => r
section
variable {T T' : Tab} {W : WX} {kr : Kd} {pins : List Nat} {env env' : Env} {σ σ' : L2.St} {P H P' H' : Hp} {X : Cx} {pos : Pos} {i : Nat}
theorem Rel.drop (RR : Rel T env σ P H) (hl : σ'.length = σ.length) (hs : ∀ j, j ≠ i → σ'[j]? = σ[j]?) : Rel T (env.set i none) σ' P H ∧ Fr env σ P H (env.set i none) σ' P H := by
  have key : ∀ (j : Nat) (e : EV), (env.set i none)[j]? = some (some e) → j ≠ i ∧ env[j]? = some (some e) := fun j e h => by
    by_cases q : j = i
    · subst q
      by_cases hj : j < env.length
      · rw [List.getElem?_set_self hj] at h; cases h
      · rw [List.getElem?_eq_none (by simpa using hj)] at h; cases h
    · rw [List.getElem?_set_ne (fun z => q z.symm)] at h; exact ⟨q, h⟩
  refine ⟨⟨RR.sub, fun j e h => ?_, fun j l e f a n h1 h2 o1 o2 s1 s2 => ?_, by rw [List.length_set, hl]; exact RR.len⟩, fun b o h _ => h, fun b hb n z => ?_, PSub.refl _, fun b h => .inl h, fun b h => h⟩
  · obtain ⟨q1, q2⟩ := key j e h
    rw [hs j q1]; exact RR.ent j e q2
  · obtain ⟨q1, q2⟩ := key j e h1
    obtain ⟨q3, q4⟩ := key l f h2
    rw [hs j q1] at s1; rw [hs l q3] at s2
    exact RR.dis j l e f a n q2 q4 o1 o2 s1 s2
  · obtain ⟨j, e, h1, h2, h3⟩ := z
    obtain ⟨q1, q2⟩ := key j e h1
    rw [hs j q1] at h3
    exact n ⟨j, e, q2, h2, h3⟩
theorem Rel.putEx {c : Nat} {fs : List D} {a : Addr} (RR : Rel T env σ P H) (hn : noEx env = true) (hT : T'.nb = T.nb) (hi : i < env.length) (r : EnvRep T' P H (.ex c fs) (.ref a)) :
    Rel T' (env.set i (some (.ex c fs))) (σ.set i (some (.ref a))) P H ∧ Fr env σ P H (env.set i (some (.ex c fs))) (σ.set i (some (.ref a))) P H := by
  have ne : ∀ (j : Nat) (e : EV), env[j]? = some (some e) → ∀ c fs, e ≠ .ex c fs := fun j e h c fs z => by
    subst z
    have := List.all_eq_true.mp hn _ (List.mem_of_getElem? h)
    cases this
  have key : ∀ (j : Nat) (e : EV), (env.set i (some (.ex c fs)))[j]? = some (some e) → (j = i ∧ e = .ex c fs ∧ (σ.set i (some (.ref a)))[j]? = some (some (.ref a))) ∨ (j ≠ i ∧ env[j]? = some (some e) ∧ (σ.set i (some (.ref a)))[j]? = σ[j]?) := fun j e h => by
    by_cases q : j = i
    · subst q
      rw [List.getElem?_set_self hi] at h
      cases h
      exact .inl ⟨rfl, rfl, List.getElem?_set_self (by rw [← RR.len]; exact hi)⟩
    · rw [List.getElem?_set_ne (fun z => q z.symm)] at h
      exact .inr ⟨q, h, List.getElem?_set_ne (fun z => q z.symm)⟩
  refine ⟨⟨RR.sub, fun j e h => ?_, fun j l e f b n h1 h2 o1 o2 s1 s2 => ?_, by rw [List.length_set, List.length_set]; exact RR.len⟩, fun b o h _ => h, fun b hb n z => ?_, PSub.refl _, fun b h => .inl h, fun b h => h⟩
  · rcases key j e h with ⟨rfl, rfl, q⟩ | ⟨_, q1, q2⟩
    · exact ⟨_, q, r⟩
    · rw [q2]
      obtain ⟨v, hv, rv⟩ := RR.nb.ent j e q1
      rw [← hT] at rv
      exact ⟨v, hv, rv.bn (ne j e q1)⟩
  · rcases key j e h1 with ⟨_, rfl, _⟩ | ⟨_, q1, q2⟩
    · cases o1
    · rcases key l f h2 with ⟨_, rfl, _⟩ | ⟨_, q3, q4⟩
      · cases o2
      · rw [q2] at s1; rw [q4] at s2
        exact RR.dis j l e f b n q1 q3 o1 o2 s1 s2
  · obtain ⟨j, e, h1, h2, h3⟩ := z
    rcases key j e h1 with ⟨_, rfl, _⟩ | ⟨_, q1, q2⟩
    · cases h2
    · rw [q2] at h3; exact n ⟨j, e, q1, h2, h3⟩
theorem ExRep.toB {c : Nat} {fs : List D} {cls : Value} {dd : Option Addr} (h : ExRep T P c fs cls dd) : ExRep T.nb P c fs cls dd := by
  obtain ⟨q1, q2⟩ := h
  refine ⟨q1, ?_⟩
  rcases q2 with q2 | ⟨dx, xfs, vs, w1, w2, w3, w4⟩
  · exact .inl q2
  · exact .inr ⟨dx, xfs, vs, w1, w2, w3, (reps_nb _ _).mpr w4⟩
theorem ds_try_as {x n : Str} {cv : Value} {body suite : List Stmt} {b₀ : Stmt} {np pos' : Pos} {mb ms : MS} {caught : Nat → Option Bool} (hT : T.nb = T) (hkr : kr = .pure ∨ kr = .fresh) (hs : X.stack = X.env :: X.outer) (hf : X.env.frame = some X.env.locals) (hN : X.N.Nodup)
    (hi : X.N[i]? = some n) (hln : X.env.kindOf n = some .local) (hc : Names X x cv) (tk : Takes X W) (hpi : i ∉ pins)
    (hx : ∀ c b, caught c = some b → PySem.W.exmOne X.K (.ref (T.excA c)) cv = some b)
    (hb : ∀ (W' : WX) (pn : List (Addr × Obj)) (xe : Value → Shared → Prop), Takes (X.tr pn xe) W' → PassesOwn (model X.prog X.w) X.A X.env xe → DSs T W' kr pins (X.tr pn xe) body mb)
    (hsu : ∀ (a : Addr) (oe : Obj) (cls : Value) (d : Option Addr) (pn : List (Addr × Obj)), Zc cls d oe → (∃ vs, oe.data = .fields vs) → DSs { T with cur := some (a, d, cls) } W0 kr pins (X.suite a ((a, oe) :: pn)) (b₀ :: suite) ms) :
    DS T W kr pins X (.Try body [.ExceptHandler (some (.Name x np)) (some n) (b₀ :: suite) pos'] [] [] pos) (tryAsM mb caught i ms) := by
  refine ps_imp (ps_try_as hs hf hN hi hln hc tk (fun W' pn xe t p => hb W' pn xe t p) (fun a oe cls d pn h1 h2 => hsu a oe cls d pn h1 h2)) fun D σ H h => ?_
  obtain ⟨env, P, RR, h⟩ := h
  refine ⟨env, P, RR, ?_⟩
  unfold tryAsM at h
  cases e : mb env with
  | exc c fs e1 =>
    simp only [e] at h
    intro σ1 P1 H1 cls dd R1 F1 p1 x1
    have x0 := x1
    obtain ⟨rfl, x2⟩ := x1
    cases q : caught c with
    | none => simp only [q] at h; exact False.elim h
    | some b =>
      simp only [q] at h
      refine ⟨b, hx c b q, fun hb a ha => ?_, fun hb => ?_⟩
      · subst hb
        simp only at h
        by_cases g : noEx e1 = true ∧ i < e1.length
        · rw [if_pos g] at h
          obtain ⟨R2, F2⟩ := R1.putEx (T' := { T with cur := some (a, dd, .ref (T.excA c)) }) (c := c) (fs := fs) (a := a) g.1 rfl g.2 (fun a' d' cls' hc => by cases hc; exact ⟨rfl, ExRep.bn (T := { T with cur := some (a, dd, .ref (T.excA c)) }) x0.toB⟩)
          refine ⟨_, P1, R2, ?_⟩
          have h := AfterS.step h F1 p1
          have back : ∀ {e3 : Env} {σ' : L2.St} {P' H' : Hp}, Rel { T with cur := some (a, dd, .ref (T.excA c)) } e3 σ' P' H' → Rel T e3 σ' P' H' := fun {e3 σ' P' H'} r => by
            have r2 : Rel T.nb e3 σ' P' H' := r.nb
            rw [hT] at r2; exact r2
          have sne : ∀ (σ' : L2.St) (j : Nat), j ≠ i → (σ'.set i none)[j]? = σ'[j]? := fun σ' j hj => List.getElem?_set_ne (fun z => hj z.symm)
          cases e2 : ms (e1.set i (some (.ex c fs))) with
          | nx e3 =>
            rw [e2] at h
            intro σ' P' H' R3 F3 p3
            obtain ⟨R4, F4⟩ := (back R3).drop (i := i) (σ' := σ'.set i none) List.length_set (sne σ')
            exact h _ P' H' R4 ((F2.trans F3).trans F4) (((FrP.set hpi).trans p3).trans (FrP.set hpi))
          | brk e3 =>
            rw [e2] at h
            intro σ' P' H' R3 F3 p3
            obtain ⟨R4, F4⟩ := (back R3).drop (i := i) (σ' := σ'.set i none) List.length_set (sne σ')
            exact h _ P' H' R4 ((F2.trans F3).trans F4) (((FrP.set hpi).trans p3).trans (FrP.set hpi))
          | cnt e3 =>
            rw [e2] at h
            intro σ' P' H' R3 F3 p3
            obtain ⟨R4, F4⟩ := (back R3).drop (i := i) (σ' := σ'.set i none) List.length_set (sne σ')
            exact h _ P' H' R4 ((F2.trans F3).trans F4) (((FrP.set hpi).trans p3).trans (FrP.set hpi))
          | ret d e3 =>
            rw [e2] at h
            intro σ' P' H' y R3 F3 p3 ky ny
            obtain ⟨R4, F4⟩ := (back R3).drop (i := i) (σ' := σ') rfl (fun _ _ => rfl)
            refine h σ' P' H' y R4 ((F2.trans F3).trans F4) ((FrP.set hpi).trans p3) ?_ ?_
            · rcases hkr with rfl | rfl
              · have k2 : Rep { T with cur := some (a, dd, .ref (T.excA c)) } P' d y := ky
                have k3 := (rep_nb d y).mpr k2
                exact (rep_nb (T := T) d y).mp k3
              · obtain ⟨b, ws, ds, q1, q2, q3, q4, q5, q6⟩ := ky
                have k3 := (reps_nb ds ws).mpr q5
                exact ⟨b, ws, ds, q1, q2, q3, F4.own b (by rw [q2]; exact fun z => nomatch z) q4, (reps_nb (T := T) ds ws).mp k3, q6⟩
            · rcases hkr with rfl | rfl
              · trivial
              · obtain ⟨b, eb, hb⟩ := ny
                refine ⟨b, eb, ?_⟩
                rcases hb with hb | hb
                · exact .inl hb
                · by_cases z : H1 b = none
                  · exact .inl z
                  · exact .inr (Classical.byContradiction fun w => F2.own b z w hb)
          | exc _ _ _ => rw [e2] at h; exact False.elim h
          | stk => rw [e2] at h; exact False.elim h
        · rw [if_neg g] at h; exact False.elim h
      · subst hb
        exact h σ1 P1 H1 _ dd R1 F1 p1 ⟨rfl, x2⟩
  | nx e3 => rw [e] at h; exact h
  | brk e3 => rw [e] at h; exact h
  | cnt e3 => rw [e] at h; exact h
  | ret d e3 => rw [e] at h; exact h
  | stk => rw [e] at h; exact h
/-! ### e.f of the caught error -/
def exfM (c i j : Nat) : M := fun env => match env[i]? with
  | some (some (.ex c' fs)) => if c' = c then (match fs[j]? with | some x => .ok x env | none => .stk) else .stk
  | _ => .stk
theorem de_exf {c j : Nat} {f : Str} {a : Addr} {oe : Obj} {cls : Value} {d : Option Addr} {pn : List (Addr × Obj)} {e : Expr} (hT : T.cur = some (a, d, cls)) (hz : Zc cls d oe) (hf : ∃ vs, oe.data = .fields vs) (C : XfC X.K (T.excA c))
    (hno : PySem.W.findIn X.K (.ref (T.excA c)) f = some none) (hj : (T.excF c)[j]? = some f) (h : PE (X.suite a ((a, oe) :: pn)) e (tVar i)) (hb : attributeBase e f X.env (eval e X.env) = eval e X.env := by rfl) :
    DE T W (X.suite a ((a, oe) :: pn)) (.Attribute e f pos) .pure (exfM c i j) := by
  refine pe_imp (pe_xf C hno hz hf h hb) fun σ H Q h => ?_
  obtain ⟨env, P, RR, h⟩ := h
  unfold exfM at h
  cases e0 : env[i]? with
  | none => rw [e0] at h; exact False.elim h
  | some o =>
    cases o with
    | none => rw [e0] at h; exact False.elim h
    | some v =>
      cases v with
      | ex c' fs =>
        rw [e0] at h
        simp only at h
        by_cases hc : c' = c
        · subst hc
          rw [if_pos rfl] at h
          obtain ⟨u, hu, r⟩ := RR.ent i _ e0
          obtain ⟨r1, r2, r3⟩ := r a d cls hT
          subst r1
          cases e1 : fs[j]? with
          | none => rw [e1] at h; exact False.elim h
          | some y =>
            rw [e1] at h
            rcases r3 with r3 | ⟨dx, xfs, vs, w1, w2, w3, w4⟩
            · obtain ⟨rfl, _⟩ := r3; simp at e1
            · obtain ⟨v, hv, rv⟩ := w4.get e1
              exact ⟨_, hu, rfl, r2, dx, xfs, v, w1, RR.sub _ _ w2, w3 j f v hj hv, h.here RR (Fr.refl _ _ _ _) v rv trivial⟩
        · rw [if_neg hc] at h; exact False.elim h
      | _ => rw [e0] at h; exact False.elim h
end
end Ue

set_option linter.all false
set_option Elab.async false
set_option maxRecDepth 100000
set_option maxHeartbeats 4000000
/-! makings with keywords in the parameters' order -/
namespace Ue
open PySem PySem.Spec L2
section
variable {X : Cx} {C : Addr} {k n : Nat} {f : Addr} {fd : FuncData} {ps ks : List Str} {sp : Sp} {E : L2.St → XK} {x : Str} {p pos : Pos} {e : Expr} {es : List Expr} {kws : List Keyword} {t tk : TA} {CX : CXT} {g : List Value → List Value → List Value} {gV : List V → List V → List V}
def tMakeKS (C : Addr) (n m : Nat) (sp : Sp) (gV : List V → List V → List V) (E : L2.St → XK) (t tk : TA) : TE := fun σ H Q => t σ H fun vs H1 => tk σ H1 fun zs H2 => vs.length = n ∧ zs.length = m ∧
  ∀ x dx, H2 x = none → H2 dx = none → dx ≠ x → sp (gV (.ref x :: vs) zs) (upd (upd H2 dx (.own x)) x (.ins C dx [])) (fun v H3 => v = .non ∧ Q (.ref x) H3) (E σ)
theorem pe_makeKS (M : Mk X.K C f) (F : FnG X.prog X.w X.K X.mg X.base CX k f fd ps sp) (gd : X.A.guards = some []) (hr : Room (k + 1) X.A) (hg : Gl X x) (hm : X.mg x = some (.ref C)) (hb : KBn X.K fd ps (n + 1) ks g gV) (hx : ∀ σ, PassesAt CX X σ (E σ))
    (ha : PA X (e :: es) t) (hkw : PK X kws tk) (hall : (backToKw pos (keywordEach kws X.env)).all (·.1.isSome) = true) (hks : (backToKw pos (keywordEach kws X.env)).filterMap (·.1) = ks)
    (hdb : (x == ("__debug__" : Str)) = false) (he : starEach (e :: es) X.env = (false, eval e X.env) :: starEach es X.env)
    (hp : ((backTo pos (starEach (e :: es) X.env)).any (·.1) || (backToKw pos (keywordEach kws X.env)).any (·.1.isNone)) = false) :
    PE X (.Call (.Name x p) (e :: es) kws pos) (tMakeKS C n ks.length sp gV E t tk) := ⟨fun pins s σ H Q I h => by
  refine wpAny_Call_Name_kw (ld_glob I hg hm (PySem.W.callWith_KW (h₀ := X.base) I.ok.mod.kin M.kp hall (thn (ha.run pos pins s σ H _ I h) ?_) hp he) hdb)
  rintro us s1 ⟨vs, H1, I1, r, q⟩
  refine thn (hkw.run pos pins s1 σ H1 _ I1 q) ?_
  rintro ws s2 ⟨zs, H2, I2, rz, l1, l2, q2⟩
  refine ⟨I2.kIn, ?_⟩
  rw [hks]
  have hq := q2 (s2.heap.objs.size + 1) s2.heap.objs.size (I2.hok.fresh (Nat.le_succ _)) (I2.hok.fresh (Nat.le_refl _)) (Nat.ne_of_lt (Nat.lt_succ_self _))
  have J := Inv.made (C := C) I2
  have r1 : Vals (V.ref (s2.heap.objs.size + 1) :: vs) (Value.ref (s2.heap.objs.size + 1) :: us) := .cons rfl r
  have rr := hb.rel r1 rz
  have e1 : (Value.ref (s2.heap.objs.size + 1) :: us).length = n + 1 := r1.length.symm.trans (congrArg Nat.succ l1)
  have e2 : ws.length = ks.length := rz.length.symm.trans l2
  refine wpAny_call (make_map (f := f) I2.kIn M.makes M.init (beq_iff_eq.mp M.fn) (codeAny_mono (F.go _ X.stack _ _ ⟨Value.ref (s2.heap.objs.size + 1) :: us, ks.zip ws⟩ (g (Value.ref (s2.heap.objs.size + 1) :: us) ws) _ _ (E σ) (make_guards.trans gd) (hr.make C us (ks.zip ws)) (J.env0.make C us (ks.zip ws)) (hb.to _ (Value.ref (s2.heap.objs.size + 1) :: us) ws J.kIn e1 e2) rr hq) ?_))
  intro r s' hq'
  cases r with
  | error e => exact hx σ pins _ _ e s' J hq'
  | ok fl =>
    cases fl with
    | ret u =>
      obtain ⟨v, H', J3, rv, ev, q3⟩ := J.after hq'
      subst ev
      exact ⟨rv, V.ref (s2.heap.objs.size + 1), H', J3, rfl, q3⟩
    | next => exact False.elim hq'
    | brk => exact False.elim hq'
    | cont => exact False.elim hq'⟩
end
section
variable {T : Tab} {W : WX} {env : Env} {σ : L2.St} {P H H0 : Hp} {X : Cx} {e : Expr} {kws : List Keyword} {m : M} {ags kgs : List Ag} {nm : Option Str} {kpos : Pos}
def GK (T : Tab) (W : WX) (X : Cx) (kws : List Keyword) (kgs : List Ag) : Prop := PK X kws (rdP T W kgs)
theorem pk_imp {t t' : TA} (h : PK X kws t) (k : ∀ σ H Q, t' σ H Q → t σ H Q) : PK X kws t' := ⟨fun pos pins s σ H Q I q => h.run pos pins s σ H Q I (k σ H Q q)⟩
theorem gk_nil : GK T W X [] [] := pk_imp pk_nil fun σ H Q h => rdP_nil h
theorem gk_p (h : DE T W X e .pure m) (h' : GK T W X kws kgs) : GK T W X (⟨nm, e, kpos⟩ :: kws) (.p m :: kgs) := pk_imp (pk_cons h h') fun σ H Q h => by
  obtain ⟨env, P, RR, h⟩ := h
  refine ⟨env, P, RR, After.mono h.bind fun d env1 P1 H1 R1 F1 h1 x kx nx => ?_⟩
  refine ⟨env1, P1, R1, After.mono h1.bind fun ss env2 P2 H2 R2 F2 h2 xs kxs => ?_⟩
  exact h2.here R2 (Fr.refl _ _ _ _) _ (.d (Rep.sub F2.mono _ _ kx) kxs)
end
def mkKM (c nf : Nat) (F : FM) (ags kgs : List Ag) (dfl : List D) : M := fun env => (argG ags env).bind fun ss e => (argG kgs e).bind fun zs e2 => makeS c nf F dfl (ss ++ zs) e2
theorem SReps.append {T : Tab} {σ : L2.St} {P : Hp} : ∀ {as bs : List AD} {vs ws : List V}, SReps T σ P as vs → SReps T σ P bs ws → SReps T σ P (as ++ bs) (vs ++ ws)
  | _, _, _, _, .nil, k => k
  | _, _, _, _, .d h t, k => .d h (t.append k)
  | _, _, _, _, .s h t, k => .s h (t.append k)
section
variable {T : Tab} {W : WX} {env : Env} {σ : L2.St} {P H : Hp} {X : Cx} {F : FM} {n nf c : Nat} {dfl : List D} {dvs : List V} {Q : VK} {ags kgs : List Ag}
theorem rd_mkK (hnf : nf = (T.clsF c).length) (hdr : ∀ P, Reps T P dfl dvs) (hn : ags.length + kgs.length + 1 + dfl.length = n) (h : rdE T W .pure (mkKM c nf F ags kgs dfl) σ H Q) :
    tMakeKS (T.clsA c) ags.length kgs.length (spF T .pure n F) (fun vs zs => vs ++ (zs ++ dvs)) (fun σ cls d H => W cls d σ H) (rdP T W ags) (rdP T W kgs) σ H Q := by
  obtain ⟨env, P, RR, h⟩ := h
  refine ⟨env, P, RR, After.at h.bind fun ss env1 P1 H1 es R1 F1 h1 xs kxs => ?_⟩
  refine ⟨env1, P1, R1, After.at h1.bind fun zs env2 P2 H2 es2 R2 F2 h2 ys kys => ?_⟩
  refine ⟨by rw [kxs.len, argG_len es], by rw [kys.len, argG_len es2], ?_⟩
  have := makeS_sp (xs := xs ++ ys) (dvs := dvs) (n := n) hnf hdr (by rw [List.length_append, argG_len es, argG_len es2]; exact hn) R2 ((kxs.sub F2.mono).append kys) h2
  intro x dx hx hd ne
  have z := this x dx hx hd ne
  rw [List.append_assoc] at z
  exact z
end
section
variable {T : Tab} {W : WX} {X : Cx} {F : FM} {k n nf c : Nat} {dfl : List D} {dvs : List V} {ags kgs : List Ag} {f : Addr} {fd : FuncData} {ps ks : List Str} {x : Str} {p pos : Pos} {e : Expr} {es : List Expr} {kws : List Keyword} {g : List Value → List Value → List Value}
theorem de_makeK (M1 : Mk X.K (T.clsA c) f) (G : FnG X.prog X.w X.K X.mg X.base (L2.CX X.prog X.w) k f fd ps (spF T .pure n F)) (gd : X.A.guards = some []) (hr : Room (k + 1) X.A) (hg : Gl X x) (hm : X.mg x = some (.ref (T.clsA c)))
    (hb : KBn X.K fd ps (ags.length + 1) ks g (fun vs zs => vs ++ (zs ++ dvs))) (hdr : ∀ P, Reps T P dfl dvs) (tk : Takes X W) (ha : GA T W X (e :: es) ags) (hkw : GK T W X kws kgs) (hkl : ks.length = kgs.length := by rfl) (hnf : nf = (T.clsF c).length := by rfl) (hn : ags.length + kgs.length + 1 + dfl.length = n := by rfl)
    (hall : (backToKw pos (keywordEach kws X.env)).all (·.1.isSome) = true := by rfl) (hks : (backToKw pos (keywordEach kws X.env)).filterMap (·.1) = ks := by rfl) (hdb : (x == ("__debug__" : Str)) = false := by decide)
    (he : starEach (e :: es) X.env = (false, eval e X.env) :: starEach es X.env := by rfl) (hp : ((backTo pos (starEach (e :: es) X.env)).any (·.1) || (backToKw pos (keywordEach kws X.env)).any (·.1.isNone)) = false := by rfl) :
    DE T W X (.Call (.Name x p) (e :: es) kws pos) .pure (mkKM c nf F ags kgs dfl) :=
  pe_imp (pe_makeKS (E := fun σ cls d H => W cls d σ H) M1 G gd hr hg hm hb (fun σ => passAt tk σ) ha hkw hall hks hdb he hp) fun _ _ _ h => by
    rw [hkl]
    exact rd_mkK hnf hdr hn h
end
end Ue

set_option linter.all false
set_option Elab.async false
set_option maxRecDepth 100000
set_option maxHeartbeats 4000000
/-! classes: what the written part says; class methods, static methods -/
namespace Ue
open PySem PySem.Spec L2
/-! ### defs that stand anywhere -/
abbrev FnA : Type := He.FnW
def seenAt (K : PySem.W.Frag) (a : Addr) : FnA := (K.lookup a).bind fun o => match o.data with
  | .func z => some (z.name, z.qualname, z.params, z.body, z.scope, z.globals, z.closure, z.builtins)
  | _ => none
structure DefG where
  ad : PySem.W.Frag → Addr
  d : He.DefD
def dfunB (K : PySem.W.Frag) (d : He.DefD) : Obj → Bool
  | ⟨_, _, .func z, _⟩ => PySem.W.codeIn K z.code d.qual && (He.dflB K z.defaults (d.dvs K) && He.kwdB K z.kwdefaults (d.kws K))
  | _ => false
def DefG.okB (K : PySem.W.Frag) (g : DefG) : Bool := PySem.W.keepIn K (.ref (g.ad K)) && (K.lookup (g.ad K)).any (dfunB K g.d)
theorem DefG.funD {K : PySem.W.Frag} {g : DefG} (e : seenAt K (g.ad K) = g.d.val) (c : g.okB K = true) : ∃ fd, FunD K g.d.name g.d.qual g.d.params g.d.body g.d.scope (g.d.dvs K) (g.d.kws K) (g.ad K) fd := by
  obtain ⟨kp, c2⟩ := He.ba c
  unfold seenAt at e
  cases q : K.lookup (g.ad K) with
  | none => rw [q] at c2; cases c2
  | some o =>
    obtain ⟨oc, od, dt, osl⟩ := o
    rw [q] at c2 e
    cases dt with
    | func z =>
      obtain ⟨a1, a2, a3, a4, a5, a6, a7, dV, kV, doc, pm, an, cdv, ct, a8⟩ := z
      have e2 : (some (a1, a2, a3, a4, a5, a6, a7, a8) : FnA) = some (g.d.name, g.d.qual, g.d.params, .stmts g.d.body, g.d.scope, mainGlobals, [], builtinsNs) := e
      have e3 := Option.some.inj e2
      simp only [Prod.mk.injEq] at e3
      obtain ⟨rfl, rfl, rfl, rfl, rfl, rfl, rfl, rfl⟩ := e3
      obtain ⟨k1, k2⟩ := He.ba (show (PySem.W.codeIn K cdv g.d.qual && (He.dflB K dV (g.d.dvs K) && He.kwdB K kV (g.d.kws K))) = true from c2)
      obtain ⟨k3, k4⟩ := He.ba k2
      exact ⟨_, ⟨oc, od, dV, kV, doc, pm, an, cdv, ct, osl, rfl, q, k1, He.dflB_ok k3, He.kwdB_ok k4⟩, kp⟩
    | _ => cases c2
/-- a record of the class (a classmethod, ..) and its def -/
def recP (K : PySem.W.Frag) (C : Addr) (m : Str) : Addr := He.ma K C m
def recF (kind : String) (K : PySem.W.Frag) (C : Addr) (m : Str) : Addr := match PySem.W.recIn K (He.ma K C m) kind with
  | some (.ref g :: _) => g
  | _ => 0
def metB (kind : String) (K : PySem.W.Frag) (C : Addr) (m : Str) : Bool := PySem.W.readsIn K C (.type "type") && (decide (PySem.W.specialIn K (.ref C) "__getattribute__" = some (some (.builtin "type.__getattribute__"))) &&
  ((match PySem.W.findCls K (.ref C) (.type "type") m with
    | some (.get (.builtin n) (.ref p) .none (.ref D)) => decide (n = kind ++ ".__get__") && (decide (p = He.ma K C m) && decide (D = C))
    | _ => false) && ((match PySem.W.recIn K (He.ma K C m) kind with
    | some (.ref g :: _) => decide (g = recF kind K C m)
    | _ => false) && PySem.W.fnIn K (recF kind K C m))))
structure MetF (kind : String) (K : PySem.W.Frag) (C : Addr) (m : Str) : Prop where
  r : ClX.CRead K C (.type "type")
  at_ : PySem.W.findCls K (.ref C) (.type "type") m = some (.get (.builtin (kind ++ ".__get__")) (.ref (He.ma K C m)) .none (.ref C))
  rc : ∃ rest, PySem.W.recIn K (He.ma K C m) kind = some (.ref (recF kind K C m) :: rest)
  fi : PySem.W.fnIn K (recF kind K C m) = true
theorem metB_ok {kind : String} {K : PySem.W.Frag} {C : Addr} {m : Str} (h : metB kind K C m = true) : MetF kind K C m := by
  obtain ⟨h1, h⟩ := He.ba h
  obtain ⟨h2, h⟩ := He.ba h
  obtain ⟨h3, h⟩ := He.ba h
  obtain ⟨h4, h5⟩ := He.ba h
  refine ⟨⟨h1, of_decide_eq_true h2⟩, ?_, ?_, h5⟩
  · split at h3
    · rename_i n p D e
      obtain ⟨q1, q⟩ := He.ba h3
      obtain ⟨q2, q3⟩ := He.ba q
      rw [e, of_decide_eq_true q1, of_decide_eq_true q2, of_decide_eq_true q3]
    · cases h3
  · split at h4
    · rename_i g rest e
      exact ⟨rest, by rw [e, of_decide_eq_true h4]⟩
    · cases h4
theorem MetF.cm {K : PySem.W.Frag} {C : Addr} {m : Str} (h : MetF "classmethod" K C m) : ClX.CMet K C (.type "type") m (He.ma K C m) (recF "classmethod" K C m) := ⟨h.at_, h.rc, h.fi⟩
/-! ### an own class as an instance's -/
def insB (K : PySem.W.Frag) (C : Addr) : Bool := decide (PySem.W.findIn K (.ref C) "__class__" = some (some (.builtin "object.__class__"))) && (decide (PySem.W.specialIn K (.builtin "object.__class__") "__get__" = some (some (.builtin "getset_descriptor.__get__"))) &&
  (decide (PySem.W.takesIn K (.builtin "object.__class__") = some true) && decide (PySem.W.mroIn K C (.type "object") = some true)))
structure InsF (K : PySem.W.Frag) (C : Addr) : Prop where
  cl : Cls K C
  a : PySem.W.findIn K (.ref C) "__class__" = some (some (.builtin "object.__class__"))
  n : PySem.W.specialIn K (.builtin "object.__class__") "__get__" = some (some (.builtin "getset_descriptor.__get__"))
  t : PySem.W.takesIn K (.builtin "object.__class__") = some true
  m : PySem.W.mroIn K C (.type "object") = some true
theorem insB_ok {K : PySem.W.Frag} {C : Addr} (cl : Cls K C) (h : insB K C = true) : InsF K C := by
  obtain ⟨h1, h⟩ := He.ba h
  obtain ⟨h2, h⟩ := He.ba h
  obtain ⟨h3, h4⟩ := He.ba h
  exact ⟨cl, of_decide_eq_true h1, of_decide_eq_true h2, of_decide_eq_true h3, of_decide_eq_true h4⟩
/-- which own classes are looked at: the number's address -/
def TyD (T : Tab) (ok : Nat → Bool) : D → Option Value
  | .obj c _ => if ok c then some (.ref (T.clsA c)) else none
  | d => (tyN d).map Value.type
theorem tyD_of {T : Tab} {P H : Hp} {ok : Nat → Bool} {d : D} {x : V} {t : Value} (hc : ∀ c, ok c = true → InsF T.K (T.clsA c)) (R1 : PSub P H) (h : Rdb T P H d x) (e : TyD T ok d = some t) : TyX T.K H x t := by
  cases d with
  | obj c fs =>
    have e : (if ok c then some (Value.ref (T.clsA c)) else none) = some t := e
    split at e
    · rename_i q
      cases e
      obtain ⟨a, dx, vs, rfl, h1, _⟩ := h.objE R1
      have f := hc c q
      exact .base (.ins h1 f.cl f.a f.n f.t f.m)
    · cases e
  | non => cases e; exact tyx_of R1 h rfl
  | bl b => cases e; exact tyx_of R1 h rfl
  | int i => cases e; exact tyx_of R1 h rfl
  | str s => cases e; exact tyx_of R1 h rfl
  | tup ds => cases e; exact tyx_of R1 h rfl
  | lst ds => cases e; exact tyx_of R1 h rfl
  | scr ns => cases e; exact tyx_of R1 h rfl
/-- isinstance with one class: a table's answers: by the built-in type's name; by the own class's number -/
def isC (tys : List (String × Bool)) (cls : List (Nat × Bool)) : D → Option Bool
  | .obj c _ => cls.lookup c
  | d => (tyN d).bind fun n => tys.lookup n
def isTabB (K : PySem.W.Frag) (cA : Nat → Addr) (ans : Value → Option Bool) (tys : List (String × Bool)) (cls : List (Nat × Bool)) : Bool := (tys.all fun q => decide (ans (.type q.1) = some q.2)) && (cls.all fun q => decide (ans (.ref (cA q.1)) = some q.2) && insB K (cA q.1))
structure IsTab (K : PySem.W.Frag) (cA : Nat → Addr) (ans : Value → Option Bool) (tys : List (String × Bool)) (cls : List (Nat × Bool)) : Prop where
  t : ∀ n b, tys.lookup n = some b → ans (.type n) = some b
  c : ∀ n b, cls.lookup n = some b → ans (.ref (cA n)) = some b ∧ insB K (cA n) = true
theorem lookup_memG {α β : Type} [BEq α] [LawfulBEq α] {a : α} {b : β} : ∀ {l : List (α × β)}, l.lookup a = some b → (a, b) ∈ l
  | [], h => by cases h
  | (x, y) :: r, h => by
    rw [List.lookup_cons] at h
    cases q : (a == x) with
    | true => rw [q] at h; cases h; rw [beq_iff_eq.mp q]; exact List.mem_cons_self
    | false => rw [q] at h; exact List.mem_cons_of_mem _ (lookup_memG h)
theorem isTab_ok {K : PySem.W.Frag} {cA : Nat → Addr} {ans : Value → Option Bool} {tys : List (String × Bool)} {cls : List (Nat × Bool)} (h : isTabB K cA ans tys cls = true) : IsTab K cA ans tys cls := by
  obtain ⟨h1, h2⟩ := He.ba h
  refine ⟨fun n b e => of_decide_eq_true (List.all_eq_true.mp h1 _ (lookup_memG e)), fun n b e => ?_⟩
  obtain ⟨q1, q2⟩ := He.ba (List.all_eq_true.mp h2 _ (lookup_memG e))
  exact ⟨of_decide_eq_true q1, q2⟩
/-- notFirst: == asks the left side's class first -/
def nfB (K : PySem.W.Frag) (C : Addr) (tys : List String) (cs : List Addr) : Bool := (tys.all fun n => PySem.W.notFirst K C (.type n)) && cs.all fun D => PySem.W.notFirst K C (.ref D)
/-! ### the Hook with such defs -/
structure SaysV (fa : List He.Fa) (fn : List He.DefD) (gs : List DefG) (ex : PySem.W.Frag → Bool) (K : PySem.W.Frag) : Prop where
  d : He.SaysD fa fn K
  g : gs.map (fun g => seenAt K (g.ad K)) = gs.map fun g => g.d.val
  more : ex K = true
abbrev AlV : Type := He.AlD × List FnA × Bool
def obsKV (fa : List He.Fa) (fn : List He.DefD) (gs : List DefG) (ex : PySem.W.Frag → Bool) (K : PySem.W.Frag) : AlV := (He.obsD fa fn K, gs.map (fun g => seenAt K (g.ad K)), ex K)
def obsV (n : Nat) (fa : List He.Fa) (fn : List He.DefD) (gs : List DefG) (ex : PySem.W.Frag → Bool) (g : Addr → Option Obj) : AlV := obsKV fa fn gs ex (frU n g)
def valV (fn : List He.DefD) (gs : List DefG) : AlV := (He.valD fn, gs.map (fun g => g.d.val), true)
theorem saysV_of {fa : List He.Fa} {fn : List He.DefD} {gs : List DefG} {ex : PySem.W.Frag → Bool} {K : PySem.W.Frag} (e : obsKV fa fn gs ex K = valV fn gs) : SaysV fa fn gs ex K := by
  unfold obsKV valV at e
  obtain ⟨e1, e2⟩ := Prod.mk.inj e
  obtain ⟨e3, e4⟩ := Prod.mk.inj e2
  exact ⟨e1, e3, e4⟩
def hookV (n : Nat) (fa : List He.Fa) (fn : List He.DefD) (gs : List DefG) (ex : PySem.W.Frag → Bool) : PySem.W.Hook where
  α := AlV
  obs := fun s => obsV n fa fn gs ex s.heap.get?
  val := fun _ => valV fn gs
  says := fun _ hp => ∃ K : PySem.W.Frag, K.In hp ∧ SaysV fa fn gs ex K
  of := fun _ _ e => ⟨_, He.frG_in, saysV_of e⟩
  keeps := fun _ _ _ ⟨K, q1, q2⟩ k => ⟨K, PySem.W.Frag.In.keeps q1 k, q2⟩
theorem obsV_eq {n : Nat} {fa : List He.Fa} {fn : List He.DefD} {gs : List DefG} {ex : PySem.W.Frag → Bool} {g : Addr → Option Obj} {s : Shared} (q : ∀ a, g a = s.heap.get? a) : obsV n fa fn gs ex g = (hookV n fa fn gs ex).obs s := by
  have e : g = s.heap.get? := funext q
  subst e; rfl
theorem SaysV.def_ {fa : List He.Fa} {fn : List He.DefD} {gs : List DefG} {ex : PySem.W.Frag → Bool} {K : PySem.W.Frag} (c : SaysV fa fn gs ex K) (i : Nat) {g : DefG} (h : gs[i]? = some g) (hk : g.okB K = true) :
    ∃ fd, FunD K g.d.name g.d.qual g.d.params g.d.body g.d.scope (g.d.dvs K) (g.d.kws K) (g.ad K) fd := by
  refine DefG.funD ?_ hk
  have e := congrArg (fun l : List FnA => l[i]?) c.g
  simp only [List.getElem?_map, h, Option.map_some] at e
  exact Option.some.inj e
end Ue

set_option linter.all false
set_option Elab.async false
set_option maxRecDepth 100000
set_option maxHeartbeats 4000000
/-! class methods, static methods, own == -/
namespace Ue
open PySem PySem.Spec L2
section
variable {X : Cx} {Z : CXT} {k n : Nat} {C g f : Addr} {fd : FuncData} {ps ks : List Str} {sp : Sp} {dvs : List V} {ds : List Value} {E : L2.St → XK} {x m : Str} {xp pos apos : Pos} {e : Expr} {es : List Expr} {kws : List Keyword} {t tk : TA} {gg : List Value → List Value → List Value} {gV : List V → List V → List V}
/-! ### C.m(..), m a classmethod -/
def tCMS (C : Addr) (sp : Sp) (dvs : List V) (E : L2.St → XK) (t : TA) : TE := fun σ H Q => t σ H fun vs H1 => sp (.ref C :: (vs ++ dvs)) H1 Q (E σ)
def tCMK (C : Addr) (n m : Nat) (sp : Sp) (gV : List V → List V → List V) (E : L2.St → XK) (t tk : TA) : TE := fun σ H Q => t σ H fun vs H1 => tk σ H1 fun zs H2 => vs.length = n ∧ zs.length = m ∧ sp (gV (.ref C :: vs) zs) H2 Q (E σ)
theorem run_cmG {pins : List (Addr × Obj)} {σ : L2.St} {H : Hp} {s : Shared} {Q : VK} {q : Addr} {ar : Args} {us : List Value} {vs : List V} {E : XK} (F : FnG X.prog X.w X.K X.mg X.base Z k g fd ps sp) (gd : X.A.guards = some []) (hr : Room k X.A) (hx : PassesAt Z X σ E)
    (I : Inv X ((q, PySem.W.methodObj (.ref g) (.ref C)) :: pins) σ H s) (hb : BindsTo s fd ⟨.ref C :: ar.pos, ar.kw⟩ (ps.zip us)) (r : Vals vs us) (h : sp vs H Q E) : wpAny (model X.prog X.w) X.A (call (.ref q) ar.pos ar.kw) (EP X pins σ Q) X.xe s := by
  have z : wpAny (model X.prog X.w) X.A (call (.ref q) ar.pos ar.kw) (EP X ((q, PySem.W.methodObj (.ref g) (.ref C)) :: pins) σ Q) X.xe s := wpAny_call (PySem.W.method_call (ClX.pin_at I) (F.code gd hr hx I hb r h))
  exact thn z fun _ _ y => ClX.unpinE y
theorem pe_cmG {pl : Sem Bool} (hg : Gl X x) (hm : X.mg x = some (.ref C)) (M : MetF "classmethod" X.K C m) (F : FnG X.prog X.w X.K X.mg X.base Z k (recF "classmethod" X.K C m) fd ps sp) (gd : X.A.guards = some []) (hr : Room k X.A) (hb : Binds X.K fd ps ds) (hd : Vals dvs ds) (hx : ∀ σ, PassesAt Z X σ (E σ)) (ha : PA X (e :: es) t)
    (hdb : (x == ("__debug__" : Str)) = false) (hst : starEach (e :: es) X.env = (false, eval e X.env) :: starEach es X.env) (hpl : (backTo pos (starEach es X.env)).any (·.1) = false)
    (ht : eval (.Call (.Attribute (.Name x xp) m apos) (e :: es) [] pos) X.env = (do
      let ov ← eval (.Name x xp) X.env
      standAt apos.atName
      let (f, first) ← holding [ov] (getMethod ov m pl)
      callWith pos f first (backTo pos (starEach (e :: es) X.env)) (backToKw pos (keywordEach [] X.env)))) :
    PE X (.Call (.Attribute (.Name x xp) m apos) (e :: es) [] pos) (tCMS C sp dvs E t) := ⟨fun pins s σ H Q I h => by
  refine PySem.W.methodCall_KW (pl := pl) (thn ((pe_glob (v := .ref C) hg hm rfl hdb).run pins s σ H (fun y H1 => y = .ref C ∧ H1 = H) I ⟨rfl, rfl⟩) ?_) ht
  rintro u s1 ⟨y, H1, I1, ry, rfl, rfl⟩
  obtain rfl : u = Value.ref C := ry
  refine ClX.getmethcm_ok I1 M.r M.cm fun s2 I2 => ?_
  refine ClX.callwith_cm I2 (ClX.base_none I1 (Nat.le_refl _)) M.fi (thn (ha.run pos _ s2 σ H1 _ I2 h) ?_) hst hpl
  rintro us s3 ⟨vs, H2, I3, rv, q2⟩
  have rr : Vals (.ref C :: (vs ++ dvs)) (Value.ref C :: (us ++ ds)) := .cons rfl (rv.append hd)
  exact ⟨⟨ClX.pin_at I3, I3.kIn⟩, run_cmG (ar := ⟨us, []⟩) F gd hr (hx σ) I3 (hb s3 (.ref C :: us) I3.kIn (rr.length.symm.trans (F.len _ _ _ _ q2))) rr q2⟩⟩
theorem pe_cmKG {pl : Sem Bool} (hg : Gl X x) (hm : X.mg x = some (.ref C)) (M : MetF "classmethod" X.K C m) (F : FnG X.prog X.w X.K X.mg X.base Z k (recF "classmethod" X.K C m) fd ps sp) (gd : X.A.guards = some []) (hr : Room k X.A) (hb : KBn X.K fd ps (n + 1) ks gg gV) (hx : ∀ σ, PassesAt Z X σ (E σ)) (ha : PA X (e :: es) t) (hkw : PK X kws tk)
    (hall : (backToKw pos (keywordEach kws X.env)).all (·.1.isSome) = true) (hks : (backToKw pos (keywordEach kws X.env)).filterMap (·.1) = ks) (hdb : (x == ("__debug__" : Str)) = false) (he : starEach (e :: es) X.env = (false, eval e X.env) :: starEach es X.env)
    (hp : ((backTo pos (starEach (e :: es) X.env)).any (·.1) || (backToKw pos (keywordEach kws X.env)).any (·.1.isNone)) = false)
    (ht : eval (.Call (.Attribute (.Name x xp) m apos) (e :: es) kws pos) X.env = (do
      let ov ← eval (.Name x xp) X.env
      standAt apos.atName
      let (f, first) ← holding [ov] (getMethod ov m pl)
      callWith pos f first (backTo pos (starEach (e :: es) X.env)) (backToKw pos (keywordEach kws X.env)))) :
    PE X (.Call (.Attribute (.Name x xp) m apos) (e :: es) kws pos) (tCMK C n ks.length sp gV E t tk) := ⟨fun pins s σ H Q I h => by
  refine PySem.W.methodCall_KW (pl := pl) (thn ((pe_glob (v := .ref C) hg hm rfl hdb).run pins s σ H (fun y H1 => y = .ref C ∧ H1 = H) I ⟨rfl, rfl⟩) ?_) ht
  rintro u s1 ⟨y, H1, I1, ry, rfl, rfl⟩
  obtain rfl : u = Value.ref C := ry
  refine ClX.getmethcm_ok I1 M.r M.cm fun s2 I2 => ?_
  refine PySem.W.callWith_of (P := PySem.W.MethP X.K s1.heap.objs.size (recF "classmethod" X.K C m) (.ref C)) hp (PySem.W.keeps_M M.fi) (PyProof.Rows.evalArgs_kw2 hall (thn (ha.run pos _ s2 σ H1 _ I2 h) ?_) he)
  rintro us s3 ⟨vs, H2, I3, rv, q2⟩
  refine thn (hkw.run pos _ s3 σ H2 _ I3 q2) ?_
  rintro ws s4 ⟨zs, H3, I4, rz, l1, l2, q3⟩
  have r1 : Vals (.ref C :: vs) (Value.ref C :: us) := .cons rfl rv
  rw [hks]
  exact ⟨⟨ClX.pin_at I4, I4.kIn⟩, run_cmG (ar := ⟨us, ks.zip ws⟩) F gd hr (hx σ) I4 (hb.to s4 (.ref C :: us) ws I4.kIn (r1.length.symm.trans (congrArg Nat.succ l1)) (rz.length.symm.trans l2)) (hb.rel r1 rz) q3⟩⟩
/-! ### C.m(..), m a staticmethod -/
theorem getsm_ok {pins : List (Addr × Obj)} {σ : L2.St} {H : Hp} {s : Shared} {A : Around} {E : Value → Shared → Prop} {pl : Sem Bool} {Q : Value × List Value → Shared → Prop} (I : Inv X pins σ H s) (M : MetF "staticmethod" X.K C m) (h : ∀ s', Inv X pins σ H s' → Q (.ref (recF "staticmethod" X.K C m), []) s') :
    wpAny (model X.prog X.w) A (getMethod (.ref C) m pl) Q E s := by
  obtain ⟨rest, hp⟩ := M.rc
  refine PySem.W.method_cls I.kIn M.r.ga (PySem.W.cls_bind I.kIn M.r.rd M.at_ (wpAny_call (PySem.W.sm_get (s := { s with toks := s.toks + 1 }) I.kIn hp (PySem.W.handed_on rfl ?_))))
  exact h _ (I.tok _)
theorem pe_smG {pl : Sem Bool} (hg : Gl X x) (hm : X.mg x = some (.ref C)) (M : MetF "staticmethod" X.K C m) (F : FnG X.prog X.w X.K X.mg X.base Z k (recF "staticmethod" X.K C m) fd ps sp) (hk : PySem.W.keepIn X.K (.ref (recF "staticmethod" X.K C m)) = true) (gd : X.A.guards = some []) (hr : Room k X.A) (hb : Binds X.K fd ps ds) (hd : Vals dvs ds) (hx : ∀ σ, PassesAt Z X σ (E σ)) (ha : PA X (e :: es) t)
    (hdb : (x == ("__debug__" : Str)) = false) (hst : starEach (e :: es) X.env = (false, eval e X.env) :: starEach es X.env) (hpl : (backTo pos (starEach es X.env)).any (·.1) = false)
    (ht : eval (.Call (.Attribute (.Name x xp) m apos) (e :: es) [] pos) X.env = (do
      let ov ← eval (.Name x xp) X.env
      standAt apos.atName
      let (f, first) ← holding [ov] (getMethod ov m pl)
      callWith pos f first (backTo pos (starEach (e :: es) X.env)) (backToKw pos (keywordEach [] X.env)))) :
    PE X (.Call (.Attribute (.Name x xp) m apos) (e :: es) [] pos) (tCallSD sp dvs E t) := ⟨fun pins s σ H Q I h => by
  refine PySem.W.methodCall_KW (pl := pl) (thn ((pe_glob (v := .ref C) hg hm rfl hdb).run pins s σ H (fun y H1 => y = .ref C ∧ H1 = H) I ⟨rfl, rfl⟩) ?_) ht
  rintro u s1 ⟨y, H1, I1, ry, rfl, rfl⟩
  obtain rfl : u = Value.ref C := ry
  refine getsm_ok I1 M fun s2 I2 => ?_
  refine PySem.W.callWith_K (first := []) (h₀ := X.base) I.ok.mod.kin hk (thn (ha.run pos pins s2 σ H1 _ I2 h) ?_) hst hpl
  rintro us s3 ⟨vs, H2, I3, rv, q2⟩
  exact ⟨I3.kIn, runG F gd hr hb hd (hx σ) I3 rv q2⟩⟩
/-! ### == by an own __eq__ -/
def rEqOwn (K : PySem.W.Frag) (C : Addr) (sp : Sp) : R2 := fun x y H Q => ∃ a dx fs t, x = .ref a ∧ H a = some (.ins C dx fs) ∧ TyX K H y t ∧ PySem.W.notFirst K C t = true ∧ sp [x, y] H (fun v J => ∃ b, v = .bl b ∧ Q (.bl b) J) (fun _ _ _ => False)
theorem op_eqOwn (M : Meth X.K C "__eq__" f) (F : FnG X.prog X.w X.K X.mg X.base (L2.CX X.prog X.w) k f fd ps sp) (gd : X.A.guards = some []) (hr : Room k X.A) (hb : Binds X.K fd ps []) : OpR X (compareOp .Eq) (rEqOwn X.K C sp) := by
  intro pins s σ H x y v u Q I rx ry hq
  obtain ⟨a, dx, fs, t, rfl, ha, ty, nf, hsp⟩ := hq
  cases rx
  obtain ⟨P, K1, p, _⟩ := kit_of I ry ty
  obtain ⟨mA, O, _⟩ := ins_get I.hok ha
  obtain ⟨od, J, _⟩ := O.look
  obtain ⟨mm, hF⟩ := I.fr
  refine PySem.W.cmp_K (op := .Eq) (tb := t) hr.units0 hF I.ok.mod.kin J (K1.ty _ _ I.kIn p) nf M.at_ M.fn ?_
  have rr : Vals [V.ref a, y] [Value.ref a, u] := .cons rfl (.cons ry .nil)
  have bt : BindsTo s fd ⟨[.ref a, u], []⟩ (ps.zip [.ref a, u]) := hb s [.ref a, u] I.kIn (rr.length.symm.trans (F.len _ _ _ _ hsp))
  have z := wpAny_call (F.code gd hr (fun pins H s e s' I h => noPasses (fun _ _ _ _ _ _ => trivial) pins σ H s e s' I h) I bt rr hsp)
  refine thn z ?_
  rintro w s1 ⟨v1, H1, I1, r1, b, rfl, q⟩
  obtain rfl : w = Value.bool b := r1
  exact ⟨.bl b, H1, I1, rfl, q⟩
end
end Ue

set_option linter.all false
set_option Elab.async false
set_option maxRecDepth 100000
set_option maxHeartbeats 4000000
/-! repr, in over tuples, parallel assignments, isinstance with any class, class methods, own ==: the combinators -/
namespace Ue
open PySem PySem.Spec PyProof.Rows L2
/-! ### repr -/
def rRepr (K : PySem.W.Frag) : List V → Hp → VK → Prop := fun xs H Q => ∃ x p, xs = [x] ∧ Dp K H x p ∧ p.showable = true ∧ p.hasDict = false ∧ p.depth ≤ 60 ∧ p.shown.length ≤ sizeLine ∧ Q (.str p.shown) H
theorem call_reprG {X : Cx} (gd : X.A.guards = some []) (hu : X.A.units + 64 < cLine) : CallR X (.builtin "repr") (rRepr X.K) := by
  intro pins s σ H xs us Q I r h
  obtain ⟨x, p, rfl, dp, h1, h2, h3, h4, q⟩ := h
  cases r with
  | cons r1 r2 =>
    cases r2
    obtain ⟨as, rd⟩ := Dp.reads I p x _ dp r1
    cases rd with
    | none => exact PySem.P.repr_of_none ⟨.str _, H, I.tok _, ⟨_, rfl⟩, by simpa only [PyData.shown] using q⟩
    | bool b => exact PySem.P.repr_of_bool ⟨.str _, H, I.tok _, ⟨_, rfl⟩, by simpa only [PyData.shown] using q⟩
    | int i t => exact PySem.P.repr_of_int (of_decide_eq_true (by simpa only [PyData.showable] using h1)) ⟨.str _, H, I.tok _, ⟨_, rfl⟩, by simpa only [PyData.shown] using q⟩
    | str y t => exact PySem.P.repr_of_str ⟨.str _, H, I.tok _, ⟨_, rfl⟩, by simpa only [PyData.shown] using q⟩ (by simpa only [PyData.shown] using h4)
    | list a b c d => exact repr_of_reads' (.list a b c d) h1 (PyData.noDict_hsm h2) gd (by omega) (fun _ _ e => e) (fun h' u tk hk => ⟨.str _, H, I.kept (t' := tk) hk, ⟨_, rfl⟩, q⟩) h4
    | tuple a b c d => exact repr_of_reads' (.tuple a b c d) h1 (PyData.noDict_hsm h2) gd (by omega) (fun _ _ e => e) (fun h' u tk hk => ⟨.str _, H, I.kept (t' := tk) hk, ⟨_, rfl⟩, q⟩) h4
    | dict _ _ _ _ _ => cases h2
def reprOk (p : PyData) : Bool := p.showable && (!p.hasDict && (decide (p.depth ≤ 60) && decide (p.shown.length ≤ sizeLine)))
def reprD : List D → Option D | [d] => (toPy d).bind fun p => if reprOk p then some (.str p.shown) else none | _ => none
theorem cd_repr {T : Tab} : CallD T (rRepr T.K) .pure reprD := fun env σ P H ds xs d Q R1 hx e k => by
  match ds, hx, e with
  | [d0], hx, e =>
    obtain ⟨x, rfl, h0⟩ := hx.one
    have e : ((toPy d0).bind fun p => if reprOk p then some (D.str p.shown) else none) = some d := e
    cases e1 : toPy d0 with
    | none => rw [e1] at e; cases e
    | some p =>
      rw [e1] at e
      have e : (if reprOk p then some (D.str p.shown) else none) = some d := e
      by_cases hp : reprOk p = true
      · rw [if_pos hp] at e
        cases e
        obtain ⟨q1, q⟩ := He.ba hp
        obtain ⟨q2, q⟩ := He.ba q
        obtain ⟨q3, q4⟩ := He.ba q
        exact ⟨x, p, rfl, h0.dp R1.sub e1, q1, by simpa using q2, of_decide_eq_true q3, of_decide_eq_true q4, k _ P H R1 (Fr.refl _ _ _ _) (show Rep T P _ _ from rep_str) trivial⟩
      · rw [if_neg hp] at e; cases e
/-! ### in over a list or a tuple of data -/
def rInA (K : PySem.W.Frag) : R2 := fun x y H Q => ∃ d ds, Dp K H x d ∧ (Dp K H y (.list ds) ∨ Dp K H y (.tuple ds)) ∧ SeqAt.shaped d = true ∧ SeqAt.shaped (.list ds) = true ∧ Q (.bl (ds.any fun z => PyData.eqv z d)) H
def rNotInA (K : PySem.W.Frag) : R2 := fun x y H Q => ∃ d ds, Dp K H x d ∧ (Dp K H y (.list ds) ∨ Dp K H y (.tuple ds)) ∧ SeqAt.shaped d = true ∧ SeqAt.shaped (.list ds) = true ∧ Q (.bl (!ds.any fun z => PyData.eqv z d)) H
theorem op_inA {X : Cx} (hu : X.A.units + 65 < cLine) : OpR X (compareOp .In) (rInA X.K) := by
  intro pins s σ H x y v u Q I rx ry h
  obtain ⟨d, ds, hd, he, sd, se, q⟩ := h
  obtain ⟨as, r1⟩ := Dp.reads I d x v hd rx
  rcases he with he | he
  · obtain ⟨bs, r2⟩ := Dp.reads I (.list ds) y u he ry
    exact SeqAt.in_list_reads r2 r1 (SeqAt.canLay_of_shaped se) (SeqAt.canLay_of_shaped sd) (room_in_shaped sd hu) ⟨.bl _, H, I, rfl, q⟩
  · obtain ⟨bs, r2⟩ := Dp.reads I (.tuple ds) y u he ry
    exact SeqAt.in_tuple_reads r2 r1 (SeqAt.canLay_of_shaped se) (SeqAt.canLay_of_shaped sd) (room_in_shaped sd hu) ⟨.bl _, H, I, rfl, q⟩
theorem op_notInA {X : Cx} (hu : X.A.units + 65 < cLine) : OpR X (compareOp .NotIn) (rNotInA X.K) := by
  intro pins s σ H x y v u Q I rx ry h
  obtain ⟨d, ds, hd, he, sd, se, q⟩ := h
  obtain ⟨as, r1⟩ := Dp.reads I d x v hd rx
  rcases he with he | he
  · obtain ⟨bs, r2⟩ := Dp.reads I (.list ds) y u he ry
    exact SeqAt.notIn_list_reads r2 r1 (SeqAt.canLay_of_shaped se) (SeqAt.canLay_of_shaped sd) (room_in_shaped sd hu) ⟨.bl _, H, I, rfl, q⟩
  · obtain ⟨bs, r2⟩ := Dp.reads I (.tuple ds) y u he ry
    exact SeqAt.notIn_tuple_reads r2 r1 (SeqAt.canLay_of_shaped se) (SeqAt.canLay_of_shaped sd) (room_in_shaped sd hu) ⟨.bl _, H, I, rfl, q⟩
def inA (a b : D) : Option Bool := match toPy a, b with
  | some p, .lst es => (toPys es).bind fun qs => if SeqAt.shaped p = true ∧ SeqAt.shaped (.list qs) = true then some (qs.any fun z => PyData.eqv z p) else none
  | some p, .tup es => (toPys es).bind fun qs => if SeqAt.shaped p = true ∧ SeqAt.shaped (.list qs) = true then some (qs.any fun z => PyData.eqv z p) else none
  | _, _ => none
def notInA (a b : D) : Option Bool := (inA a b).map (!·)
theorem inA_some {a b : D} {t : Bool} (h : inA a b = some t) : ∃ p es qs, toPy a = some p ∧ ((b = .lst es ∧ toPy b = some (.list qs)) ∨ (b = .tup es ∧ toPy b = some (.tuple qs))) ∧ SeqAt.shaped p = true ∧ SeqAt.shaped (.list qs) = true ∧ t = qs.any fun z => PyData.eqv z p := by
  unfold inA at h
  cases ea : toPy a with
  | none => rw [ea] at h; cases h
  | some p =>
    rw [ea] at h
    have key : ∀ (es : List D), ((toPys es).bind fun qs => if SeqAt.shaped p = true ∧ SeqAt.shaped (.list qs) = true then some (qs.any fun z => PyData.eqv z p) else none) = some t → ∃ qs, toPys es = some qs ∧ SeqAt.shaped p = true ∧ SeqAt.shaped (.list qs) = true ∧ t = qs.any fun z => PyData.eqv z p := fun es h => by
      cases eq : toPys es with
      | none => rw [eq] at h; cases h
      | some qs =>
        rw [eq] at h
        have h : (if SeqAt.shaped p = true ∧ SeqAt.shaped (.list qs) = true then some (qs.any fun z => PyData.eqv z p) else none) = some t := h
        by_cases c : SeqAt.shaped p = true ∧ SeqAt.shaped (.list qs) = true
        · rw [if_pos c] at h; cases h; exact ⟨qs, rfl, c.1, c.2, rfl⟩
        · rw [if_neg c] at h; cases h
    cases b with
    | lst es => obtain ⟨qs, h1, h2, h3, h4⟩ := key es h; exact ⟨p, es, qs, rfl, .inl ⟨rfl, by rw [toPy, h1]; rfl⟩, h2, h3, h4⟩
    | tup es => obtain ⟨qs, h1, h2, h3, h4⟩ := key es h; exact ⟨p, es, qs, rfl, .inr ⟨rfl, by rw [toPy, h1]; rfl⟩, h2, h3, h4⟩
    | _ => cases h
theorem cd_inA {T : Tab} : CmpD T (rInA T.K) inA := fun P H dx dy x y b Q R1 hx hy e q => by
  obtain ⟨p, es, qs, h1, h2, h3, h4, rfl⟩ := inA_some e
  refine ⟨p, qs, hx.dp R1 h1, ?_, h3, h4, q⟩
  rcases h2 with ⟨_, h2⟩ | ⟨_, h2⟩
  · exact .inl (hy.dp R1 h2)
  · exact .inr (hy.dp R1 h2)
theorem cd_notInA {T : Tab} : CmpD T (rNotInA T.K) notInA := fun P H dx dy x y b Q R1 hx hy e q => by
  unfold notInA at e
  cases c : inA dx dy with
  | none => rw [c] at e; cases e
  | some t =>
    rw [c] at e; cases e
    obtain ⟨p, es, qs, h1, h2, h3, h4, rfl⟩ := inA_some c
    refine ⟨p, qs, hx.dp R1 h1, ?_, h3, h4, q⟩
    rcases h2 with ⟨_, h2⟩ | ⟨_, h2⟩
    · exact .inl (hy.dp R1 h2)
    · exact .inr (hy.dp R1 h2)
end Ue
namespace Ue
open PySem PySem.Spec L2
/-! ### a, b = e1, e2 and a, b, c = e1, e2, e3, values and new lists -/
def putK (o : Bool) (i : Nat) (d : D) (e : Env) : Option Env := if o then (match d with | .lst ds => some (e.set i (some (.own ds))) | _ => none) else some (e.set i (some (.v d)))
section
variable {T : Tab} {W : WX} {kr : Kd} {pins : List Nat} {env env' : Env} {σ σ' : L2.St} {P H P' H' : Hp} {X : Cx} {pos : Pos} {a b c : Expr} {ma mb mc : M} {o o1 o2 o3 : Bool} {i j l : Nat} {d : D} {x : V}
theorem Rel.putK (RR : Rel T env σ P H) (k : KRep T (kdOf o) env σ P H d x) (e : putK o i d env = some env') : Rel T env' (σ.set i (some x)) P H ∧ ∀ b, Own env' (σ.set i (some x)) b → Own env σ b ∨ (o = true ∧ x = .ref b) := by
  cases o with
  | false =>
    cases e
    refine ⟨(RR.setV (i := i) (show Rep T P d x from k)).1, fun b z => .inl ?_⟩
    obtain ⟨j, f, h1, h2, h3⟩ := z
    by_cases q : j = i
    · subst q
      by_cases hj : j < env.length
      · rw [List.getElem?_set_self hj] at h1; cases h1; cases h2
      · rw [List.getElem?_eq_none (by simpa using hj)] at h1; cases h1
    · rw [List.getElem?_set_ne (fun z => q z.symm)] at h1 h3
      exact ⟨j, f, h1, h2, h3⟩
  | true =>
    obtain ⟨p, vs, ds, rfl, h1, h2, h3, h4, rfl⟩ := k
    cases e
    exact ⟨RR.setO h1 h2 h3 h4, fun b z => (z.of_setO).elim (fun z => .inr ⟨rfl, by rw [z]⟩) .inl⟩
theorem KRep.put {o' : Bool} {d' : D} {y : V} (k : KRep T (kdOf o') env σ P H d' y) (h : ∀ b, Own env' σ' b → Own env σ b ∨ (o = true ∧ x = .ref b)) (n : o = true → o' = true → x ≠ y) : KRep T (kdOf o') env' σ' P H d' y := by
  cases o' with
  | false => exact k
  | true =>
    obtain ⟨p, vs, ds, rfl, h1, h2, h3, h4, rfl⟩ := k
    refine ⟨p, vs, ds, rfl, h1, h2, fun z => ?_, h4, rfl⟩
    rcases h p z with z | ⟨ho, e⟩
    · exact h3 z
    · exact n ho rfl e
theorem kdOf_not {o : Bool} : ∀ i, kdOf o ≠ .own i := fun i h => by cases o <;> cases h
def parKM (o1 o2 : Bool) (i j : Nat) (ma mb : M) : MS := fun env => (ma env).toS fun d1 e1 => (mb e1).toS fun d2 e2 => match putK o1 i d1 e2 with
  | some e3 => (match putK o2 j d2 e3 with | some e4 => .nx e4 | none => .stk)
  | none => .stk
theorem fresh_ne {k1 : Bool} {y : V} (hx : KRep T (kdOf o) env σ P H d x) (ny : NewV (kdOf k1) H y) (ho : o = true) (hk : k1 = true) : x ≠ y := by
  subst ho hk
  obtain ⟨p, vs, ds, rfl, h1, _⟩ := hx
  obtain ⟨q, rfl, hq⟩ := ny
  intro z; cases z
  rw [h1] at hq; cases hq
theorem ds_parK {x y : Str} {px py pt : Pos} {kt k2 : Nat} {pt2 : Pos} (hc : X.calm = true) (hN : X.N.Nodup) (hi : X.N[i]? = some x) (hj : X.N[j]? = some y) (hij : i ≠ j)
    (hx : X.env.scope.names.lookup x = some .local) (hy : X.env.scope.names.lookup y = some .local) (ha : DE T W X a (kdOf o1) ma) (hb : DE T W X b (kdOf o2) mb) (hpi : i ∉ pins := by decide) (hpj : j ∉ pins := by decide)
    (hw : swappedStores [.Tuple [.Name x px, .Name y py] kt pt] (.Tuple [a, b] k2 pt2) X.env = pure (some [x, y]) := by rfl)
    (hs : swapsWithSole [.Tuple [.Name x px, .Name y py] kt pt] (.Tuple [a, b] k2 pt2) pos.line X.env = pure false := by rfl)
    (h1 : starEach [a, b] X.env = (false, eval a X.env) :: starEach [b] X.env := by rfl) (h2 : starEach [b] X.env = (false, eval b X.env) :: starEach [] X.env := by rfl) :
    DS T W kr pins X (.Assign [.Tuple [.Name x px, .Name y py] kt pt] (.Tuple [a, b] k2 pt2) pos) (parKM o1 o2 i j ma mb) := by
  refine ps_imp (ps_par hc hN hi hj hij hx hy (pa_cons ha (pa_cons hb pa_nil h2) h1) hw hs) fun D σ H h => ?_
  obtain ⟨env, P, RR, h⟩ := h
  refine ⟨env, P, RR, ?_⟩
  unfold parKM at h
  cases e1 : ma env with
  | stk => rw [e1] at h; exact h
  | exc c fs env1 => rw [e1] at h; exact fun P1 H1 cls dd R1 F1 q => h σ P1 H1 cls dd R1 F1 FrP.refl q
  | ok d1 env1 =>
    rw [e1] at h
    intro P1 H1 R1 F1 x kx nx
    refine ⟨env1, P1, R1, ?_⟩
    have h : AfterS T W kr pins env σ P H ((mb env1).toS fun d2 e2 => match Ue.putK o1 i d1 e2 with
      | some e3 => (match Ue.putK o2 j d2 e3 with | some e4 => .nx e4 | none => .stk)
      | none => .stk) D := h
    cases e2 : mb env1 with
    | stk => rw [e2] at h; exact h
    | exc c fs env2 => rw [e2] at h; exact fun P2 H2 cls dd R2 F2 q => h σ P2 H2 cls dd R2 (F1.trans F2) FrP.refl q
    | ok d2 env2 =>
      rw [e2] at h
      intro P2 H2 R2 F2 y ky ny
      have h : AfterS T W kr pins env σ P H (match Ue.putK o1 i d1 env2 with
        | some e3 => (match Ue.putK o2 j d2 e3 with | some e4 => .nx e4 | none => .stk)
        | none => .stk) D := h
      have hne : o1 = true → o2 = true → x ≠ y := fresh_ne kx ny
      have kx2 := kx.carry F2 (fun i z => absurd z (kdOf_not i))
      have F := F1.trans F2
      cases q1 : Ue.putK o1 i d1 env2 with
      | none => rw [q1] at h; exact h.elim
      | some e3 =>
        rw [q1] at h
        obtain ⟨R3, w3⟩ := R2.putK kx2 q1
        have ky3 : KRep T (kdOf o2) e3 (σ.set i (some x)) P2 H2 d2 y := ky.put w3 hne
        have h : AfterS T W kr pins env σ P H (match Ue.putK o2 j d2 e3 with | some e4 => .nx e4 | none => .stk) D := h
        cases q2 : Ue.putK o2 j d2 e3 with
        | none => rw [q2] at h; exact h.elim
        | some e4 =>
          rw [q2] at h
          obtain ⟨R4, w4⟩ := R3.putK ky3 q2
          refine ⟨x, y, rfl, h _ P2 H2 R4 ⟨F.keep, fun b hbb n z => ?_, F.mono, F.new, F.there⟩ ((FrP.set hpi).trans (FrP.set hpj))⟩
          rcases w4 b z with z | ⟨ho, ey⟩
          · rcases w3 b z with z | ⟨ho, ex⟩
            · exact F.own b hbb n z
            · subst ho; obtain ⟨p, ep, hp⟩ := nx; rw [ex] at ep; cases ep; exact hbb hp
          · subst ho; obtain ⟨p, ep, hp⟩ := ny; rw [ey] at ep; cases ep; exact F1.there b hbb hp
def parK3 (o1 o2 o3 : Bool) (i j l : Nat) (ma mb mc : M) : MS := fun env => (ma env).toS fun d1 e1 => (mb e1).toS fun d2 e2 => (mc e2).toS fun d3 e3 => match putK o1 i d1 e3 with
  | some e4 => (match putK o2 j d2 e4 with
    | some e5 => (match putK o3 l d3 e5 with | some e6 => .nx e6 | none => .stk)
    | none => .stk)
  | none => .stk
theorem ds_parK3 {x y z : Str} {px py pz pt : Pos} {kt k2 : Nat} {pt2 : Pos} (hc : X.calm = true) (hN : X.N.Nodup) (hi : X.N[i]? = some x) (hj : X.N[j]? = some y) (hl : X.N[l]? = some z) (hij : i ≠ j) (hil : i ≠ l) (hjl : j ≠ l)
    (hx : X.env.scope.names.lookup x = some .local) (hy : X.env.scope.names.lookup y = some .local) (hz : X.env.scope.names.lookup z = some .local) (ha : DE T W X a (kdOf o1) ma) (hb : DE T W X b (kdOf o2) mb) (hcc : DE T W X c (kdOf o3) mc) (hpi : i ∉ pins := by decide) (hpj : j ∉ pins := by decide) (hpl : l ∉ pins := by decide)
    (hw : swappedStores [.Tuple [.Name x px, .Name y py, .Name z pz] kt pt] (.Tuple [a, b, c] k2 pt2) X.env = pure (some [x, y, z]) := by rfl)
    (hs : swapsWithSole [.Tuple [.Name x px, .Name y py, .Name z pz] kt pt] (.Tuple [a, b, c] k2 pt2) pos.line X.env = pure false := by rfl)
    (h1 : starEach [a, b, c] X.env = (false, eval a X.env) :: starEach [b, c] X.env := by rfl) (h2 : starEach [b, c] X.env = (false, eval b X.env) :: starEach [c] X.env := by rfl) (h3 : starEach [c] X.env = (false, eval c X.env) :: starEach [] X.env := by rfl) :
    DS T W kr pins X (.Assign [.Tuple [.Name x px, .Name y py, .Name z pz] kt pt] (.Tuple [a, b, c] k2 pt2) pos) (parK3 o1 o2 o3 i j l ma mb mc) := by
  refine ps_imp (ps_par3 hc hN hi hj hl hij hil hjl hx hy hz (pa_cons ha (pa_cons hb (pa_cons hcc pa_nil h3) h2) h1) hw hs) fun D σ H h => ?_
  obtain ⟨env, P, RR, h⟩ := h
  refine ⟨env, P, RR, ?_⟩
  unfold parK3 at h
  cases e1 : ma env with
  | stk => rw [e1] at h; exact h
  | exc c fs env1 => rw [e1] at h; exact fun P1 H1 cls dd R1 F1 q => h σ P1 H1 cls dd R1 F1 FrP.refl q
  | ok d1 env1 =>
    rw [e1] at h
    intro P1 H1 R1 F1 x kx nx
    refine ⟨env1, P1, R1, ?_⟩
    simp only [R.toS] at h
    cases e2 : mb env1 with
    | stk => rw [e2] at h; exact h
    | exc c fs env2 => rw [e2] at h; exact fun P2 H2 cls dd R2 F2 q => h σ P2 H2 cls dd R2 (F1.trans F2) FrP.refl q
    | ok d2 env2 =>
      rw [e2] at h
      simp only at h
      intro P2 H2 R2 F2 y ky ny
      refine ⟨env2, P2, R2, ?_⟩
      cases e3 : mc env2 with
      | stk => rw [e3] at h; exact h
      | exc c fs env3 => rw [e3] at h; exact fun P3 H3 cls dd R3 F3 q => h σ P3 H3 cls dd R3 ((F1.trans F2).trans F3) FrP.refl q
      | ok d3 env3 =>
        rw [e3] at h
        simp only at h
        intro P3 H3 R3 F3 z kz nz
        have n12 : o1 = true → o2 = true → x ≠ y := fresh_ne kx ny
        have kx2 := kx.carry F2 (fun i z => absurd z (kdOf_not i))
        have n13 : o1 = true → o3 = true → x ≠ z := fresh_ne kx2 nz
        have n23 : o2 = true → o3 = true → y ≠ z := fresh_ne ky nz
        have kx3 := kx2.carry F3 (fun i z => absurd z (kdOf_not i))
        have ky3 := ky.carry F3 (fun i z => absurd z (kdOf_not i))
        have F := (F1.trans F2).trans F3
        cases q1 : Ue.putK o1 i d1 env3 with
        | none => simp only [q1] at h; exact h.elim
        | some e4 =>
          simp only [q1] at h
          obtain ⟨R4, w4⟩ := R3.putK kx3 q1
          have ky4 : KRep T (kdOf o2) e4 (σ.set i (some x)) P3 H3 d2 y := ky3.put w4 n12
          have kz4 : KRep T (kdOf o3) e4 (σ.set i (some x)) P3 H3 d3 z := kz.put w4 n13
          cases q2 : Ue.putK o2 j d2 e4 with
          | none => simp only [q2] at h; exact h.elim
          | some e5 =>
            simp only [q2] at h
            obtain ⟨R5, w5⟩ := R4.putK ky4 q2
            have kz5 : KRep T (kdOf o3) e5 ((σ.set i (some x)).set j (some y)) P3 H3 d3 z := kz4.put w5 n23
            cases q3 : Ue.putK o3 l d3 e5 with
            | none => simp only [q3] at h; exact h.elim
            | some e6 =>
              simp only [q3] at h
              obtain ⟨R6, w6⟩ := R5.putK kz5 q3
              refine ⟨x, y, z, rfl, h _ P3 H3 R6 ⟨F.keep, fun b hbb n q => ?_, F.mono, F.new, F.there⟩ (((FrP.set hpi).trans (FrP.set hpj)).trans (FrP.set hpl))⟩
              rcases w6 b q with q | ⟨ho, ez⟩
              · rcases w5 b q with q | ⟨ho, ey⟩
                · rcases w4 b q with q | ⟨ho, ex⟩
                  · exact F.own b hbb n q
                  · subst ho; obtain ⟨p, ep, hp⟩ := nx; rw [ex] at ep; cases ep; exact hbb hp
                · subst ho; obtain ⟨p, ep, hp⟩ := ny; rw [ey] at ep; cases ep; exact F1.there b hbb hp
              · subst ho; obtain ⟨p, ep, hp⟩ := nz; rw [ez] at ep; cases ep; exact (F1.trans F2).there b hbb hp
end
end Ue

set_option linter.all false
set_option Elab.async false
set_option maxRecDepth 100000
set_option maxHeartbeats 4000000
/-! class methods, static methods, own ==, isinstance with any class, names of the module: combinators -/
namespace Ue
open PySem PySem.Spec L2
/-! ### a hidden first argument -/
section
variable {T : Tab} {as as' : List EV} {vs : List V} {v : V} {P H P' H' : Hp} {c c' : Nat} {fs fs' : List D}
theorem Rel.hide (h : Rel T.nb (as.map some) (vs.map some) P H) : Rel T.nb ((EV.ex c fs :: as).map some) ((v :: vs).map some) P H := by
  refine ⟨h.sub, fun i e q => ?_, fun i j e f a n h1 h2 o1 o2 s1 s2 => ?_, by simpa using h.len⟩
  · cases i with
    | zero => simp at q; subst q; exact ⟨v, rfl, fun a d cls z => nomatch z⟩
    | succ i => simpa using h.ent i e (by simpa using q)
  · cases i with
    | zero => simp at h1; subst h1; cases o1
    | succ i =>
      cases j with
      | zero => simp at h2; subst h2; cases o2
      | succ j => exact h.dis i j e f a (fun z => n (by rw [z])) (by simpa using h1) (by simpa using h2) o1 o2 (by simpa using s1) (by simpa using s2)
theorem Rel.tl {f : EV} (h : Rel T ((f :: as).map some) ((v :: vs).map some) P H) : Rel T (as.map some) (vs.map some) P H :=
  ⟨h.sub, fun i e q => by simpa using h.ent (i + 1) e (by simpa using q), fun i j e f a n h1 h2 o1 o2 s1 s2 => h.dis (i + 1) (j + 1) e f a (fun z => n (by omega)) (by simpa using h1) (by simpa using h2) o1 o2 (by simpa using s1) (by simpa using s2), by simpa using h.len⟩
theorem Fr.tl {f f' : EV} (hf : f.isOwn = false) (hf' : f'.isOwn = false) (F : Fr ((f :: as).map some) ((v :: vs).map some) P H ((f' :: as').map some) ((v :: vs).map some) P' H') : Fr (as.map some) (vs.map some) P H (as'.map some) (vs.map some) P' H' := by
  have on : ∀ {g : EV} {bs : List EV} {b : Addr}, g.isOwn = false → Own ((g :: bs).map some) ((v :: vs).map some) b → Own (bs.map some) (vs.map some) b := fun {g bs b} hg z => by
    rcases own_cons z with ⟨h, _⟩ | z
    · rw [hg] at h; cases h
    · exact z
  exact ⟨fun b o h n => F.keep b o h fun z => n (on hf z), fun b h n z => F.own b h (fun z => n (on hf z)) (own_tail z), F.mono, fun b h => (F.new b h).imp_right fun q => q.imp_right (on hf), F.there⟩
end
def CRes.go1 (r : CRes) (ss : List AD) (e : Env) : R D := match r with
  | .ok d (.ex _ _ :: as') => .ok d (putA ss as' e)
  | .exc c fs (.ex _ _ :: as') => .exc c fs (putA ss as' e)
  | _ => .stk
def cmS (F : FM) (dfl : List D) (ss : List AD) (e : Env) : R D := match resA ss e with
  | none => .stk
  | some as => if fewO ss then (F (.ex 0 [] :: (as ++ dfl.map EV.v))).go1 ss e else .stk
section
variable {T : Tab} {W : WX} {kr : Kd} {env : Env} {σ : L2.St} {P H H0 : Hp} {X : Cx} {F : FM} {n : Nat} {dfl : List D} {dvs : List V} {xs : List V} {ss : List AD} {Q : VK} {v0 : V}
theorem cmS_sp (hdr : ∀ P, Reps T P dfl dvs) (hn : ss.length + 1 + dfl.length = n) (R1 : Rel T env σ P H) (kxs : SReps T σ P ss xs)
    (h1 : After T W σ env P H (cmS F dfl ss env) (fun d env' P' H' => ∀ x, KRep T .pure env' σ P' H' d x → NewV .pure H0 x → Q x H')) : spF T .pure n F (v0 :: (xs ++ dvs)) H Q (fun cls dd H' => W cls dd σ H') := by
  unfold cmS at h1
  cases e1 : resA ss env with
  | none => rw [e1] at h1; exact False.elim h1
  | some as =>
    rw [e1] at h1
    simp only at h1
    by_cases hf : fewO ss = true
    · rw [if_pos hf] at h1
      obtain ⟨R2, o2⟩ := R1.call e1 hf kxs (hdr P)
      refine ⟨.ex 0 [] :: (as ++ dfl.map EV.v), P, R2.nb.hide, ?_, ?_⟩
      · rw [List.length_cons, List.length_append, kxs.len, (hdr P).length]; omega
      · cases e2 : F (.ex 0 [] :: (as ++ dfl.map EV.v)) with
        | ok d as1 =>
          rw [e2] at h1
          intro P2 H2 x R3 F3 kx nx
          cases as1 with
          | nil => exact False.elim h1
          | cons f as' =>
            cases f with
            | ex c' fs =>
              obtain ⟨R4, F4, o4⟩ := R1.back e1 hf kxs (hdr P) R3.tl (F3.tl rfl rfl)
              exact h1 P2 H2 R4 F4 x ((kx : KRep T.nb .pure _ _ _ _ _ _).bn) trivial
            | _ => exact False.elim h1
        | exc c fs as1 =>
          rw [e2] at h1
          intro P2 H2 cls dd R3 F3 x
          cases as1 with
          | nil => exact False.elim h1
          | cons f as' =>
            cases f with
            | ex c' fs' =>
              obtain ⟨R4, F4, o4⟩ := R1.back e1 hf kxs (hdr P) R3.tl (F3.tl rfl rfl)
              exact h1 P2 H2 cls dd R4 F4 x.bn
            | _ => exact False.elim h1
        | stk => rw [e2] at h1; exact False.elim h1
    · rw [if_neg hf] at h1; exact False.elim h1
end
/-- C.m(..), C.m(.., k = ..), m a classmethod -/
def cmM (F : FM) (ags : List Ag) (dfl : List D) : M := fun env => (argG ags env).bind fun ss e => cmS F dfl ss e
def cmKM (F : FM) (ags kgs : List Ag) (dfl : List D) : M := fun env => (argG ags env).bind fun ss e => (argG kgs e).bind fun zs e2 => cmS F dfl (ss ++ zs) e2
section
variable {T : Tab} {W : WX} {kr : Kd} {env : Env} {σ : L2.St} {P H H0 : Hp} {X : Cx} {F : FM} {k n : Nat} {dfl : List D} {dvs : List V} {ds : List Value} {xs : List V} {ss : List AD} {Q : VK} {ags kgs : List Ag} {f C : Addr} {fd : FuncData} {ps ks : List Str} {x m : Str} {p xp pos apos : Pos} {e : Expr} {es : List Expr} {kws : List Keyword} {gg : List Value → List Value → List Value}
theorem rd_cm (hdr : ∀ P, Reps T P dfl dvs) (hn : ags.length + 1 + dfl.length = n) (h : rdE T W .pure (cmM F ags dfl) σ H Q) : tCMS C (spF T .pure n F) dvs (fun σ cls d H => W cls d σ H) (rdP T W ags) σ H Q := by
  obtain ⟨env, P, RR, h⟩ := h
  refine ⟨env, P, RR, After.at h.bind fun ss env1 P1 H1 es R1 F1 h1 xs kxs => ?_⟩
  exact cmS_sp hdr (by rw [argG_len es]; exact hn) R1 kxs h1
theorem rd_cmK (hdr : ∀ P, Reps T P dfl dvs) (hn : ags.length + kgs.length + 1 + dfl.length = n) (h : rdE T W .pure (cmKM F ags kgs dfl) σ H Q) :
    tCMK C ags.length kgs.length (spF T .pure n F) (fun vs zs => vs ++ (zs ++ dvs)) (fun σ cls d H => W cls d σ H) (rdP T W ags) (rdP T W kgs) σ H Q := by
  obtain ⟨env, P, RR, h⟩ := h
  refine ⟨env, P, RR, After.at h.bind fun ss env1 P1 H1 es R1 F1 h1 xs kxs => ?_⟩
  refine ⟨env1, P1, R1, After.at h1.bind fun zs env2 P2 H2 es2 R2 F2 h2 ys kys => ?_⟩
  refine ⟨by rw [kxs.len, argG_len es], by rw [kys.len, argG_len es2], ?_⟩
  have z := cmS_sp (xs := xs ++ ys) (dvs := dvs) (n := n) (v0 := .ref C) hdr (by rw [List.length_append, argG_len es, argG_len es2]; exact hn) R2 ((kxs.sub F2.mono).append kys) h2
  rw [List.append_assoc] at z
  exact z
theorem de_cm {pl : Sem Bool} (hg : Gl X x) (hm : X.mg x = some (.ref C)) (M : MetF "classmethod" X.K C m) (G : FnG X.prog X.w X.K X.mg X.base (L2.CX X.prog X.w) k (recF "classmethod" X.K C m) fd ps (spF T .pure n F)) (gd : X.A.guards = some []) (hr : Room k X.A) (hb : Binds X.K fd ps ds) (hd : Vals dvs ds) (hdr : ∀ P, Reps T P dfl dvs) (tk : Takes X W) (ha : GA T W X (e :: es) ags)
    (hn : ags.length + 1 + dfl.length = n := by rfl) (hdb : (x == ("__debug__" : Str)) = false := by decide) (hst : starEach (e :: es) X.env = (false, eval e X.env) :: starEach es X.env := by rfl) (hpl : (backTo pos (starEach es X.env)).any (·.1) = false := by rfl)
    (ht : eval (.Call (.Attribute (.Name x xp) m apos) (e :: es) [] pos) X.env = (do
      let ov ← eval (.Name x xp) X.env
      standAt apos.atName
      let (f, first) ← holding [ov] (getMethod ov m pl)
      callWith pos f first (backTo pos (starEach (e :: es) X.env)) (backToKw pos (keywordEach [] X.env))) := by rfl) :
    DE T W X (.Call (.Attribute (.Name x xp) m apos) (e :: es) [] pos) .pure (cmM F ags dfl) :=
  pe_imp (pe_cmG (E := fun σ cls d H => W cls d σ H) hg hm M G gd hr hb hd (fun σ => passAt tk σ) ha hdb hst hpl ht) fun _ _ _ h => rd_cm hdr hn h
theorem de_cmK {pl : Sem Bool} (hg : Gl X x) (hm : X.mg x = some (.ref C)) (M : MetF "classmethod" X.K C m) (G : FnG X.prog X.w X.K X.mg X.base (L2.CX X.prog X.w) k (recF "classmethod" X.K C m) fd ps (spF T .pure n F)) (gd : X.A.guards = some []) (hr : Room k X.A) (hb : KBn X.K fd ps (ags.length + 1) ks gg (fun vs zs => vs ++ (zs ++ dvs))) (hdr : ∀ P, Reps T P dfl dvs) (tk : Takes X W) (ha : GA T W X (e :: es) ags) (hkw : GK T W X kws kgs)
    (hkl : ks.length = kgs.length := by rfl) (hn : ags.length + kgs.length + 1 + dfl.length = n := by rfl) (hall : (backToKw pos (keywordEach kws X.env)).all (·.1.isSome) = true := by rfl) (hks : (backToKw pos (keywordEach kws X.env)).filterMap (·.1) = ks := by rfl) (hdb : (x == ("__debug__" : Str)) = false := by decide)
    (he : starEach (e :: es) X.env = (false, eval e X.env) :: starEach es X.env := by rfl) (hp : ((backTo pos (starEach (e :: es) X.env)).any (·.1) || (backToKw pos (keywordEach kws X.env)).any (·.1.isNone)) = false := by rfl)
    (ht : eval (.Call (.Attribute (.Name x xp) m apos) (e :: es) kws pos) X.env = (do
      let ov ← eval (.Name x xp) X.env
      standAt apos.atName
      let (f, first) ← holding [ov] (getMethod ov m pl)
      callWith pos f first (backTo pos (starEach (e :: es) X.env)) (backToKw pos (keywordEach kws X.env))) := by rfl) :
    DE T W X (.Call (.Attribute (.Name x xp) m apos) (e :: es) kws pos) .pure (cmKM F ags kgs dfl) :=
  pe_imp (pe_cmKG (E := fun σ cls d H => W cls d σ H) hg hm M G gd hr hb (fun σ => passAt tk σ) ha hkw hall hks hdb he hp ht) fun _ _ _ h => by
    rw [hkl]
    exact rd_cmK hdr hn h
theorem de_sm {pl : Sem Bool} (hkr : kr = .pure ∨ kr = .fresh) (hg : Gl X x) (hm : X.mg x = some (.ref C)) (M : MetF "staticmethod" X.K C m) (G : FnG X.prog X.w X.K X.mg X.base (L2.CX X.prog X.w) k (recF "staticmethod" X.K C m) fd ps (spF T kr n F)) (hk : PySem.W.keepIn X.K (.ref (recF "staticmethod" X.K C m)) = true) (gd : X.A.guards = some []) (hr : Room k X.A) (hb : Binds X.K fd ps ds) (hd : Vals dvs ds) (hdr : ∀ P, Reps T P dfl dvs) (tk : Takes X W) (ha : GA T W X (e :: es) ags)
    (hn : ags.length + dfl.length = n := by rfl) (hdb : (x == ("__debug__" : Str)) = false := by decide) (hst : starEach (e :: es) X.env = (false, eval e X.env) :: starEach es X.env := by rfl) (hpl : (backTo pos (starEach es X.env)).any (·.1) = false := by rfl)
    (ht : eval (.Call (.Attribute (.Name x xp) m apos) (e :: es) [] pos) X.env = (do
      let ov ← eval (.Name x xp) X.env
      standAt apos.atName
      let (f, first) ← holding [ov] (getMethod ov m pl)
      callWith pos f first (backTo pos (starEach (e :: es) X.env)) (backToKw pos (keywordEach [] X.env))) := by rfl) :
    DE T W X (.Call (.Attribute (.Name x xp) m apos) (e :: es) [] pos) kr (fnM F ags dfl) :=
  pe_imp (pe_smG (E := fun σ cls d H => W cls d σ H) hg hm M G hk gd hr hb hd (fun σ => passAt tk σ) ha hdb hst hpl ht) fun _ _ _ h => rd_fn hkr hdr hn h
end
/-! ### a == b by a's own __eq__ -/
def nfD (tys : List String) (cs : List Nat) : D → Bool
  | .obj c _ => cs.contains c
  | d => (tyN d).any fun n => tys.contains n
structure EqC (T : Tab) (c : Nat) (tys : List String) (cs : List Nat) : Prop where
  t : ∀ n ∈ tys, PySem.W.notFirst T.K (T.clsA c) (.type n) = true
  c : ∀ d ∈ cs, PySem.W.notFirst T.K (T.clsA c) (.ref (T.clsA d)) = true ∧ InsF T.K (T.clsA d)
def cmpO (c : Nat) (F : FM) (tys : List String) (cs : List Nat) (ma mb : M) : MT := fun env => (ma env).bind fun x e1 => (mb e1).bind fun y e2 => match x with
  | .obj c' fs => if c' = c ∧ nfD tys cs y = true then (match F [.v x, .v y] with | .ok (.bl b) _ => .ok b e2 | _ => .stk) else .stk
  | _ => .stk
section
variable {T : Tab} {W : WX} {env : Env} {σ : L2.St} {P H : Hp} {X : Cx} {F : FM} {k c : Nat} {ma mb : M} {a b : Expr} {pos : Pos} {f : Addr} {fd : FuncData} {ps : List Str} {tys : List String} {cs : List Nat}
theorem nf_ty {d : D} {x : V} (E : EqC T c tys cs) (R1 : PSub P H) (h : Rdb T P H d x) (n : nfD tys cs d = true) : ∃ t, TyX T.K H x t ∧ PySem.W.notFirst T.K (T.clsA c) t = true := by
  have ty : ∀ (s : String), tyN d = some s → (tyN d).any (fun n => tys.contains n) = true → ∃ t, TyX T.K H x t ∧ PySem.W.notFirst T.K (T.clsA c) t = true := fun s e z => by
    rw [e] at z
    exact ⟨_, tyx_of R1 h e, E.t s (List.contains_iff_mem.mp z)⟩
  cases d with
  | obj c' fs =>
    obtain ⟨q1, q2⟩ := E.c c' (List.contains_iff_mem.mp n)
    obtain ⟨p, dx, vs, rfl, h1, _⟩ := h.objE R1
    exact ⟨_, .base (.ins h1 q2.cl q2.a q2.n q2.t q2.m), q1⟩
  | _ => exact ty _ rfl n
theorem rd_cmpO (E : EqC T c tys cs) {Q : Bool → Hp → Prop} (h : rdT T W (cmpO c F tys cs ma mb) σ H Q) : tOp (rEqOwn T.K (T.clsA c) (spF T .pure 2 F)) (rdE T W .pure ma) (rdE T W .pure mb) σ H (fun x H' => ∃ k, x = .bl k ∧ Q k H') := by
  obtain ⟨env, P, RR, h⟩ := h
  refine ⟨env, P, RR, After.at h.bind fun d1 env1 P1 H1 _ R1 F1 h1 x kx nx => ?_⟩
  refine ⟨env1, P1, R1, After.at h1.bind fun d2 env2 P2 H2 e2 R2 F2 h2 y ky ny => ?_⟩
  have kx' : Rep T P2 d1 x := Rep.sub F2.mono _ _ kx
  have ky : Rep T P2 d2 y := ky
  cases d1 with
  | obj c' fs =>
    simp only at h2
    by_cases hc : c' = c ∧ nfD tys cs d2 = true
    · rw [if_pos hc] at h2
      obtain ⟨rfl, hnf⟩ := hc
      obtain ⟨t, ty, nf⟩ := nf_ty E R2.sub (.inl ky) hnf
      have kx2 := kx'
      rw [Rep] at kx'
      obtain ⟨p, dx, vs, rfl, q1, q2, q3⟩ := kx'
      refine ⟨p, dx, _, t, rfl, R2.sub _ _ q1, ty, nf, ?_⟩
      have k2 : SReps T σ P2 [.d (.obj c' fs), .d d2] [.ref p, y] := .d kx2 (.d ky .nil)
      have z := callS_sp (T := T) (W := W0) (kr := .pure) (F := F) (n := 2) (dfl := []) (dvs := []) (xs := [.ref p, y]) (ss := [.d (.obj c' fs), .d d2]) (Q := fun v J => ∃ b, v = .bl b ∧ (∃ k, V.bl b = .bl k ∧ Q k J)) (H0 := H2) (.inl rfl) (fun _ => Reps.nil) rfl R2 k2 (fun _ z => z) ?_
      · exact z
      · show After T W0 σ env2 P2 H2 ((F [.v (.obj c' fs), .v d2]).go [.d (.obj c' fs), .d d2] env2) _
        cases e3 : F [.v (.obj c' fs), .v d2] with
        | ok d as' =>
          rw [e3] at h2
          cases d with
          | bl b =>
            intro P' H' R' F' v kv nv
            have kv : Rep T P' (.bl b) v := kv
            rw [Rep] at kv
            exact ⟨b, kv, b, rfl, h2 P' H' R' F'⟩
          | _ => exact h2.elim
        | exc _ _ _ => rw [e3] at h2; exact h2.elim
        | stk => rw [e3] at h2; exact h2.elim
    · rw [if_neg hc] at h2; exact h2.elim
  | _ => exact h2.elim
theorem spF_mono {kr : Kd} {n : Nat} {vs : List V} {Q Q' : VK} {E : XK} (k : ∀ v J, Q v J → Q' v J) (h : spF T kr n F vs H Q E) : spF T kr n F vs H Q' E := by
  obtain ⟨as, P, R1, hl, h⟩ := h
  refine ⟨as, P, R1, hl, ?_⟩
  cases e : F as with
  | ok d as' => rw [e] at h; exact fun P' H' x r f kx nx => k _ _ (h P' H' x r f kx nx)
  | exc c fs as' => rw [e] at h; exact h
  | stk => rw [e] at h; exact h
theorem dt_cmpO (E : EqC T c tys cs) (hK : X.K = T.K) (M : Meth X.K (T.clsA c) "__eq__" f) (G : FnG X.prog X.w X.K X.mg X.base (L2.CX X.prog X.w) k f fd ps (spF T .pure 2 F)) (gd : X.A.guards = some []) (hr : Room k X.A) (hb : Binds X.K fd ps []) (ha : DE T W X a .pure ma) (hbe : DE T W X b .pure mb) (hm : behindInMarks .Eq b = false := by rfl) :
    DT T W X (.Compare a [.Eq] [b] pos) (cmpO c F tys cs ma mb) := pt_imp (pt_cmpR (op_eqOwn M G gd hr hb) ha hbe hm) fun _ _ _ h => by rw [hK]; exact rd_cmpO E h
theorem de_cmpO (E : EqC T c tys cs) (hK : X.K = T.K) (M : Meth X.K (T.clsA c) "__eq__" f) (G : FnG X.prog X.w X.K X.mg X.base (L2.CX X.prog X.w) k f fd ps (spF T .pure 2 F)) (gd : X.A.guards = some []) (hr : Room k X.A) (hb : Binds X.K fd ps []) (ha : DE T W X a .pure ma) (hbe : DE T W X b .pure mb) (hm : behindInMarks .Eq b = false := by rfl) :
    DE T W X (.Compare a [.Eq] [b] pos) .pure (bV (cmpO c F tys cs ma mb)) := pe_imp (pe_cmpR (op_eqOwn M G gd hr hb) ha hbe hm) fun σ H Q h => by
  rw [hK]
  exact rd_bV h (fun Q' h' => rd_cmpO E h') fun Q Q' k h => rdE_mono (fun x H q => rdE_mono (fun y H ⟨p, dx, fs, t, q1, q2, q3, q4, q5⟩ => ⟨p, dx, fs, t, q1, q2, q3, q4, spF_mono (fun v J ⟨b, e, q⟩ => ⟨b, e, k _ _ q⟩) q5⟩) q) h
end
end Ue

set_option linter.all false
set_option Elab.async false
set_option maxRecDepth 100000
set_option maxHeartbeats 4000000
/-! isinstance by tables, names of the module, computing -/
namespace Ue
open PySem PySem.Spec L2
def isTabM (tys : List (String × Bool)) (cls : List (Nat × Bool)) (ma : M) : M := fun env => (ma env).bind fun d e => match isC tys cls d with | some b => .ok (.bl b) e | none => .stk
section
variable {T : Tab} {W : WX} {env : Env} {σ : L2.St} {P H : Hp} {X : Cx} {ma : M} {ka : Kd} {a : Expr} {tys : List (String × Bool)} {cls : List (Nat × Bool)} {ans : Value → Option Bool} {pos p p2 p3 pt : Pos}
theorem isC_ty {d : D} {x : V} {b : Bool} (hI : IsTab T.K T.clsA ans tys cls) (hcl : ∀ n b, cls.lookup n = some b → Cls T.K (T.clsA n)) (R1 : PSub P H) (h : Rdb T P H d x) (e : isC tys cls d = some b) : ∃ t, TyX T.K H x t ∧ ans t = some b := by
  have ty : ∀ (s : String), tyN d = some s → ((tyN d).bind fun n => tys.lookup n) = some b → ∃ t, TyX T.K H x t ∧ ans t = some b := fun s e1 z => by
    rw [e1] at z
    exact ⟨_, tyx_of R1 h e1, hI.t s b z⟩
  cases d with
  | obj c fs =>
    obtain ⟨q1, q2⟩ := hI.c c b e
    have f := insB_ok (hcl c b e) q2
    obtain ⟨p, dx, vs, rfl, h1, _⟩ := h.objE R1
    exact ⟨_, .base (.ins h1 f.cl f.a f.n f.t f.m), q1⟩
  | _ => exact ty _ rfl e
theorem de_isT {ce : Expr} {v : V} {u : Value} (hK : X.K = T.K) (hI : IsTab T.K T.clsA (fun t => PySem.W.kitOne T.K t u) tys cls) (hcl : ∀ n b, cls.lookup n = some b → Cls T.K (T.clsA n)) (hg : Gl X "isinstance") (hm : X.mg "isinstance" = none) (ha : DE T W X a ka ma) (hc : PE X ce (tC v)) (cv : ClsV v u)
    (he : starEach [a, ce] X.env = (false, eval a X.env) :: starEach [ce] X.env := by rfl) (h2 : starEach [ce] X.env = (false, eval ce X.env) :: starEach [] X.env := by rfl) (hpl : (backTo pos (starEach [ce] X.env)).any (·.1) = false := by rfl) :
    DE T W X (.Call (.Name "isinstance" p) [a, ce] [] pos) .pure (isTabM tys cls ma) :=
  pe_imp (pe_callB call_isi hg hm (by decide +kernel) (pa_cons ha (pa_cons hc pa_nil h2) he) (by decide) (by decide) he hpl) fun σ H Q h => by
    obtain ⟨env, P, RR, h⟩ := h
    refine ⟨env, P, RR, After.mono h.bind fun d env1 P1 H1 R1 F1 h1 x kx nx => ?_⟩
    cases e : isC tys cls d with
    | none => simp only [e] at h1; exact False.elim h1
    | some b =>
      simp only [e] at h1
      obtain ⟨t, ty, an⟩ := isC_ty hI hcl R1.sub (kx.rdb R1) e
      rw [hK]
      exact ⟨x, v, t, u, b, rfl, cv, ty, an, h1.here R1 (Fr.refl _ _ _ _) _ (show Rep T P1 (.bl b) (.bl b) from rep_bl) trivial⟩
theorem de_isT2 {c1 c2 : Expr} {v1 v2 : V} {u1 u2 : Value} {kk : Nat} (hK : X.K = T.K) (hI : IsTab T.K T.clsA (fun t => PySem.W.kitAny T.K t [u1, u2]) tys cls) (hcl : ∀ n b, cls.lookup n = some b → Cls T.K (T.clsA n)) (hg : Gl X "isinstance") (hm : X.mg "isinstance" = none) (ha : DE T W X a ka ma) (hc1 : PE X c1 (tC v1)) (cv1 : ClsV v1 u1) (hc2 : PE X c2 (tC v2)) (cv2 : ClsV v2 u2)
    (hs : Steady ka (fun env => (R.ok D.non env : R D)) := by trivial)
    (he : starEach [a, .Tuple [c1, c2] kk pt] X.env = (false, eval a X.env) :: starEach [.Tuple [c1, c2] kk pt] X.env := by rfl) (h2 : starEach [.Tuple [c1, c2] kk pt] X.env = (false, eval (.Tuple [c1, c2] kk pt) X.env) :: starEach [] X.env := by rfl) (hpl : (backTo pos (starEach [.Tuple [c1, c2] kk pt] X.env)).any (·.1) = false := by rfl)
    (h3 : starEach [c1, c2] X.env = (false, eval c1 X.env) :: starEach [c2] X.env := by rfl) (h4 : starEach [c2] X.env = (false, eval c2 X.env) :: starEach [] X.env := by rfl) :
    DE T W X (.Call (.Name "isinstance" p) [a, .Tuple [c1, c2] kk pt] [] pos) .pure (isTabM tys cls ma) :=
  pe_imp (pe_callB call_isiT hg hm (by decide +kernel) (pa_cons ha (pa_cons (pe_tup (pa_cons hc1 (pa_cons hc2 pa_nil h4) h3)) pa_nil h2) he) (by decide) (by decide) he hpl) fun σ H Q h => by
    obtain ⟨env, P, RR, h⟩ := h
    refine ⟨env, P, RR, After.mono h.bind fun d env1 P1 H1 R1 F1 h1 x kx nx => ?_⟩
    refine ⟨by show 2 ≤ sizeLine; rw [sizeLine_eq]; decide, fun q hq => ?_⟩
    obtain ⟨R2, F2⟩ := R1.newP (o := .tup [v1, v2]) hq
    have kx2 := kx.carry F2 (fun i _ => rfl)
    cases e : isC tys cls d with
    | none => simp only [e] at h1; exact False.elim h1
    | some b =>
      simp only [e] at h1
      obtain ⟨t, ty, an⟩ := isC_ty hI hcl R2.sub (kx2.rdb R2) e
      rw [hK]
      exact ⟨x, q, [v1, v2], t, [u1, u2], b, rfl, upd_same, .cons cv1 (.cons cv2 .nil), ty, an, h1 _ _ R2 F2 _ (show Rep T (upd P1 q (.tup [v1, v2])) (.bl b) (.bl b) from rep_bl) trivial⟩
/-! ### names of the module -/
theorem de_gint {x : Str} {i : Int} (hg : Gl X x) (hm : ∃ t, X.mg x = some (.int i t)) (hd : (x == ("__debug__" : Str)) = false := by decide) : DE T W X (.Name x pos) .pure (cM (.int i)) := by
  obtain ⟨t, h⟩ := hm
  exact de_c (pe_glob (v := .int i) hg h ⟨t, rfl⟩ hd) fun _ => rep_int
theorem de_gstr {x z : Str} (hg : Gl X x) (hm : ∃ t, X.mg x = some (.str z t)) (hd : (x == ("__debug__" : Str)) = false := by decide) : DE T W X (.Name x pos) .pure (cM (.str z)) := by
  obtain ⟨t, h⟩ := hm
  exact de_c (pe_glob (v := .str z) hg h ⟨t, rfl⟩ hd) fun _ => rep_str
theorem de_gtup {x : Str} {q : Addr} {vs : List V} {ds : List D} (hg : Gl X x) (hm : X.mg x = some (.ref q)) (hs : ∀ P, SqT T.K P q vs) (hr : ∀ P, Reps T P ds vs) (hd : (x == ("__debug__" : Str)) = false := by decide) : DE T W X (.Name x pos) .pure (cM (.tup ds)) :=
  de_c (pe_glob (v := .ref q) hg hm rfl hd) fun P => by rw [Rep]; exact ⟨q, vs, rfl, hs P, hr P⟩
end
/-! ### computing -/
section
variable {α β : Type} {e env : Env} {c c' i j l nf : Nat} {fs gs : List D} {d : D} {m ma mb mc mo : M} {F : FM} {ags kgs : List Ag} {dfl : List D} {as : List EV} {ss : List AD}
@[simp] theorem attrM_s : attrM c j m env = (m env).bind fun d e => match d with
  | .obj c' fs => if c' = c then (match fs[j]? with | some x => .ok x e | none => .stk) else .stk
  | _ => .stk := (rfl)
@[simp] theorem natM_s : natM c i j env = match env[i]? with
  | some (some (.new c' fs)) => if c' = c then (match fs[j]? with | some x => .ok x env | none => .stk) else .stk
  | _ => .stk := (rfl)
@[simp] theorem stfM_s : stfM c i j m env = (m env).toS fun d e => match e[i]? with
  | some (some (.new c' fs)) => if c' = c ∧ fs.length = j then .nx (e.set i (some (.new c' (fs ++ [d])))) else .stk
  | _ => .stk := (rfl)
@[simp] theorem exfM_s : exfM c i j env = match env[i]? with
  | some (some (.ex c' fs)) => if c' = c then (match fs[j]? with | some x => .ok x env | none => .stk) else .stk
  | _ => .stk := (rfl)
def SR.caE (r : SR) (cg : Nat → Option Bool) (i : Nat) (s : MS) : SR := match r with
  | .exc c fs e => (match cg c with | some true => if noEx e ∧ i < e.length then dropE i (s (e.set i (some (.ex c fs)))) else .stk | some false => .exc c fs e | none => .stk)
  | r => r
@[simp] theorem tryAsM_s {s1 s2 : MS} {cg : Nat → Option Bool} : tryAsM s1 cg i s2 env = (s1 env).caE cg i s2 := (rfl)
@[simp] theorem caE_nx {s2 : MS} {cg : Nat → Option Bool} : (SR.nx e).caE cg i s2 = .nx e := (rfl)
@[simp] theorem caE_ret {s2 : MS} {cg : Nat → Option Bool} : (SR.ret d e).caE cg i s2 = .ret d e := (rfl)
@[simp] theorem caE_brk {s2 : MS} {cg : Nat → Option Bool} : (SR.brk e).caE cg i s2 = .brk e := (rfl)
@[simp] theorem caE_cnt {s2 : MS} {cg : Nat → Option Bool} : (SR.cnt e).caE cg i s2 = .cnt e := (rfl)
@[simp] theorem caE_exc {s2 : MS} {cg : Nat → Option Bool} : (SR.exc c fs e).caE cg i s2 = (match cg c with | some true => if noEx e ∧ i < e.length then dropE i (s2 (e.set i (some (.ex c fs)))) else .stk | some false => .exc c fs e | none => .stk) := (rfl)
@[simp] theorem dropE_nx : dropE i (.nx e) = .nx (e.set i none) := (rfl)
@[simp] theorem dropE_brk : dropE i (.brk e) = .brk (e.set i none) := (rfl)
@[simp] theorem dropE_cnt : dropE i (.cnt e) = .cnt (e.set i none) := (rfl)
@[simp] theorem dropE_ret : dropE i (.ret d e) = .ret d (e.set i none) := (rfl)
@[simp] theorem noEx_n : noEx [] = true := (rfl)
@[simp] theorem noEx_no : noEx (none :: e) = noEx e := (rfl)
@[simp] theorem noEx_v : noEx (some (.v d) :: e) = noEx e := (rfl)
@[simp] theorem noEx_o : noEx (some (.own fs) :: e) = noEx e := (rfl)
@[simp] theorem noEx_w : noEx (some (.new c fs) :: e) = noEx e := (rfl)
@[simp] theorem callS_s : callS F dfl ss e = match resA ss e with
  | none => .stk
  | some as => if fewO ss then (F (as ++ dfl.map EV.v)).go ss e else .stk := (rfl)
@[simp] theorem methM_s : methM c F mo ags dfl env = (mo env).bind fun d e1 => match d with
  | .obj c' fs => if c' = c then (argG ags e1).bind fun ss e => callS F dfl (.d (.obj c' fs) :: ss) e else .stk
  | _ => .stk := (rfl)
def CRes.mk1 (r : CRes) (c nf : Nat) (ss : List AD) (e : Env) : R D := match r with
  | .ok .non (.new c' fs :: as') => if c' = c ∧ fs.length = nf then .ok (.obj c fs) (putA ss as' e) else .stk
  | .exc k fs (.new _ _ :: as') => .exc k fs (putA ss as' e)
  | _ => .stk
@[simp] theorem makeS_s : makeS c nf F dfl ss e = match resA ss e with
  | none => .stk
  | some as => if fewO ss then (F (.new c [] :: (as ++ dfl.map EV.v))).mk1 c nf ss e else .stk := (rfl)
@[simp] theorem mk1_ok : (CRes.ok .non (.new c' fs :: as)).mk1 c nf ss e = if c' = c ∧ fs.length = nf then .ok (.obj c fs) (putA ss as e) else .stk := (rfl)
@[simp] theorem mk1_exc : (CRes.exc i gs (.new c' fs :: as)).mk1 c nf ss e = .exc i gs (putA ss as e) := (rfl)
@[simp] theorem mkM_s : mkM c nf F ags dfl env = (argG ags env).bind fun ss e => makeS c nf F dfl ss e := (rfl)
@[simp] theorem mkKM_s : mkKM c nf F ags kgs dfl env = (argG ags env).bind fun ss e => (argG kgs e).bind fun zs e2 => makeS c nf F dfl (ss ++ zs) e2 := (rfl)
@[simp] theorem cmS_s : cmS F dfl ss e = match resA ss e with
  | none => .stk
  | some as => if fewO ss then (F (.ex 0 [] :: (as ++ dfl.map EV.v))).go1 ss e else .stk := (rfl)
@[simp] theorem go1_ok : (CRes.ok d (.ex c fs :: as)).go1 ss e = .ok d (putA ss as e) := (rfl)
@[simp] theorem go1_exc : (CRes.exc i gs (.ex c fs :: as)).go1 ss e = .exc i gs (putA ss as e) := (rfl)
@[simp] theorem cmM_s : cmM F ags dfl env = (argG ags env).bind fun ss e => cmS F dfl ss e := (rfl)
@[simp] theorem cmKM_s : cmKM F ags kgs dfl env = (argG ags env).bind fun ss e => (argG kgs e).bind fun zs e2 => cmS F dfl (ss ++ zs) e2 := (rfl)
def CRes.toB (r : CRes) (e : Env) : R Bool := match r with | .ok (.bl b) _ => .ok b e | _ => .stk
@[simp] theorem toB_s {b : Bool} : (CRes.ok (.bl b) as).toB e = .ok b e := (rfl)
@[simp] theorem cmpO_s {tys : List String} {cs : List Nat} : cmpO c F tys cs ma mb env = (ma env).bind fun x e1 => (mb e1).bind fun y e2 => match x with
  | .obj c' fs => if c' = c ∧ nfD tys cs y = true then (F [.v x, .v y]).toB e2 else .stk
  | _ => .stk := (rfl)
@[simp] theorem putK_v : putK false i d e = some (e.set i (some (.v d))) := (rfl)
@[simp] theorem putK_o : putK true i (.lst fs) e = some (e.set i (some (.own fs))) := (rfl)
@[simp] theorem parKM_s {o1 o2 : Bool} : parKM o1 o2 i j ma mb env = (ma env).toS fun d1 e1 => (mb e1).toS fun d2 e2 => match putK o1 i d1 e2 with
  | some e3 => (match putK o2 j d2 e3 with | some e4 => .nx e4 | none => .stk)
  | none => .stk := (rfl)
@[simp] theorem parK3_s {o1 o2 o3 : Bool} : parK3 o1 o2 o3 i j l ma mb mc env = (ma env).toS fun d1 e1 => (mb e1).toS fun d2 e2 => (mc e2).toS fun d3 e3 => match putK o1 i d1 e3 with
  | some e4 => (match putK o2 j d2 e4 with
    | some e5 => (match putK o3 l d3 e5 with | some e6 => .nx e6 | none => .stk)
    | none => .stk)
  | none => .stk := (rfl)
@[simp] theorem isTabM_s {tys : List (String × Bool)} {cls : List (Nat × Bool)} : isTabM tys cls ma env = (ma env).bind fun d e => match isC tys cls d with | some b => .ok (.bl b) e | none => .stk := (rfl)
@[simp] theorem finA_w {pins : List Nat} : finA pins i (.new c fs :: as) e = if i ∈ pins then (match e[i]? with | some (some (.new c fs)) => (finA pins (i + 1) as e).map (.new c fs :: ·) | _ => none) else none := (rfl)
@[simp] theorem finA_e {pins : List Nat} : finA pins i (.ex c fs :: as) e = (finA pins (i + 1) as e).map (.ex c fs :: ·) := (rfl)
@[simp] theorem notInA_s {x y : D} : notInA x y = (inA x y).map (!·) := (rfl)
end
end Ue

set_option linter.all false
set_option Elab.async false
set_option maxRecDepth 100000
set_option maxHeartbeats 4000000
namespace Ue
open PySem PySem.Spec L2
theorem steady_ok {k : Kd} : Steady k (fun env => (R.ok D.non env : R D)) := by
  cases k with
  | own i => intro env d env' h; cases h; rfl
  | _ => trivial
def tys : List String := ["NoneType", "bool", "int", "str", "tuple", "list"]
def eqCB (K : PySem.W.Frag) (cA : Nat → Addr) (c : Nat) (cs : List Nat) : Bool := (tys.all fun n => PySem.W.notFirst K (cA c) (.type n)) && cs.all fun d => PySem.W.notFirst K (cA c) (.ref (cA d)) && insB K (cA d)
theorem eqC_ok {T : Tab} {c : Nat} {cs : List Nat} (h : eqCB T.K T.clsA c cs = true) (cl : ∀ d ∈ cs, Cls T.K (T.clsA d)) : EqC T c tys cs := by
  obtain ⟨h1, h2⟩ := He.ba h
  refine ⟨fun n hn => List.all_eq_true.mp h1 n hn, fun d hd => ?_⟩
  obtain ⟨q1, q2⟩ := He.ba (List.all_eq_true.mp h2 d hd)
  exact ⟨q1, insB_ok (cl d hd) q2⟩
end Ue

set_option linter.all false
set_option Elab.async false
set_option maxRecDepth 100000
set_option maxHeartbeats 4000000
/-! own operators, C.m(), lists of any things beside an empty one, list * int -/
namespace Ue
open PySem PySem.Spec PyProof.Rows L2
section
variable {X : Cx} {Z : CXT} {k n : Nat} {C g f : Addr} {fd : FuncData} {ps : List Str} {sp : Sp} {dvs : List V} {ds : List Value} {E : L2.St → XK} {x m nm : Str} {xp pos apos : Pos} {a b : Expr} {ta tb : TE} {op : Operator}
/-! ### a op b, both of one own class -/
def tOpOwn (C : Addr) (sp : Sp) (E : L2.St → XK) (ta tb : TE) : TE := fun σ H Q => ta σ H fun x H1 => tb σ H1 fun y H2 => ∃ p dx fs q dy gs, x = .ref p ∧ H2 p = some (.ins C dx fs) ∧ y = .ref q ∧ H2 q = some (.ins C dy gs) ∧ sp [x, y] H2 Q (E σ)
theorem cmpBack_of {X : Cx} {pins : List (Addr × Obj)} {σ : L2.St} {Q : VK} {u : Value} {s : Shared} (h : EP X pins σ Q u s) : PySem.W.CmpBack (EP X pins σ Q) u s := by
  obtain ⟨v, H', I, r, q⟩ := h
  have key : EP X pins σ Q u s := ⟨v, H', I, r, q⟩
  cases v with
  | non => cases (show u = Value.none from r); exact key
  | bl b => cases (show u = Value.bool b from r); exact key
  | int i => obtain ⟨t, e⟩ := (show ∃ t, u = Value.int i t from r); cases e; exact key
  | str i => obtain ⟨t, e⟩ := (show ∃ t, u = Value.str i t from r); cases e; exact key
  | byt i => obtain ⟨t, e⟩ := (show ∃ t, u = Value.bytes i t from r); cases e; exact key
  | flt i => obtain ⟨t, e⟩ := (show ∃ t, u = Value.float i t from r); cases e; exact key
  | ref i => cases (show u = Value.ref i from r); exact key
  | ty i => cases (show u = Value.type i from r); exact key
theorem pe_opOwn (hnm : PySem.dunder op.info.2 = nm) (M : Meth X.K C nm f) (hc : PySem.W.selfFirst X.K C = true) (F : FnG X.prog X.w X.K X.mg X.base Z k f fd ps sp) (gd : X.A.guards = some []) (hr : Room k X.A) (hb : Binds X.K fd ps []) (hx : ∀ σ, PassesAt Z X σ (E σ)) (ha : PE X a ta) (hb' : PE X b tb) :
    PE X (.BinOp a op b pos) (tOpOwn C sp E ta tb) := ⟨fun pins s σ H Q I h => by
  refine wpAny_BinOp (thn (ha.run pins s σ H _ I h) ?_)
  rintro v s1 ⟨x, H1, I1, r1, q1⟩
  refine thn (hb'.run pins s1 σ H1 _ I1 q1) ?_
  rintro u s2 ⟨y, H2, I2, r2, p, dx, fs, q, dy, gs, rfl, e1, rfl, e2, hsp⟩
  obtain rfl : v = Value.ref p := r1
  obtain rfl : u = Value.ref q := r2
  obtain ⟨mA, O, _⟩ := ins_get I2.hok e1
  obtain ⟨od, J, _⟩ := O.look
  obtain ⟨mB, O', _⟩ := ins_get I2.hok e2
  obtain ⟨od', J', _⟩ := O'.look
  obtain ⟨mm, hF⟩ := I2.fr
  refine PySem.W.binop_K hF I.ok.mod.kin J J'.type hc (by rw [hnm]; exact M.at_) M.fn ?_
  have rr : Vals [V.ref p, V.ref q] [Value.ref p, Value.ref q] := .cons rfl (.cons rfl .nil)
  have bt : BindsTo s2 fd ⟨[.ref p, .ref q], []⟩ (ps.zip [.ref p, .ref q]) := hb s2 [.ref p, .ref q] I2.kIn (rr.length.symm.trans (F.len _ _ _ _ hsp))
  exact thn (wpAny_call (F.code gd hr (hx σ) I2 bt rr hsp)) fun u s h => cmpBack_of h⟩
/-! ### C.m(), m a classmethod -/
theorem pe_cmG0 {pl : Sem Bool} (hg : Gl X x) (hm : X.mg x = some (.ref C)) (M : MetF "classmethod" X.K C m) (F : FnG X.prog X.w X.K X.mg X.base Z k (recF "classmethod" X.K C m) fd ps sp) (gd : X.A.guards = some []) (hr : Room k X.A) (hb : Binds X.K fd ps ds) (hd : Vals dvs ds) (hx : ∀ σ, PassesAt Z X σ (E σ))
    (hdb : (x == ("__debug__" : Str)) = false)
    (ht : eval (.Call (.Attribute (.Name x xp) m apos) [] [] pos) X.env = (do
      let ov ← eval (.Name x xp) X.env
      standAt apos.atName
      let (f, first) ← holding [ov] (getMethod ov m pl)
      callWith pos f first (backTo pos (starEach [] X.env)) (backToKw pos (keywordEach [] X.env)))) :
    PE X (.Call (.Attribute (.Name x xp) m apos) [] [] pos) (tCMS C sp dvs E tNil) := ⟨fun pins s σ H Q I h => by
  refine PySem.W.methodCall_KW (pl := pl) (thn ((pe_glob (v := .ref C) hg hm rfl hdb).run pins s σ H (fun y H1 => y = .ref C ∧ H1 = H) I ⟨rfl, rfl⟩) ?_) ht
  rintro u s1 ⟨y, H1, I1, ry, rfl, rfl⟩
  obtain rfl : u = Value.ref C := ry
  refine ClX.getmethcm_ok I1 M.r M.cm fun s2 I2 => ?_
  have h : sp (.ref C :: ([] ++ dvs)) H1 Q (E σ) := h
  have rr : Vals (.ref C :: ([] ++ dvs)) (Value.ref C :: ([] ++ ds)) := .cons rfl hd
  refine PySem.W.callWith_M0 (first := []) (X := ⟨ClX.pin_at I2, I2.kIn⟩) M.fi ?_
  exact run_cmG (ar := ⟨[], []⟩) F gd hr (hx σ) I2 (hb s2 [.ref C] I2.kIn (rr.length.symm.trans (F.len _ _ _ _ h))) rr h⟩
end
def opO (c : Nat) (F : FM) (ma mb : M) : M := fun env => (ma env).bind fun x e1 => (mb e1).bind fun y e2 => match x, y with
  | .obj c1 fs, .obj c2 gs => if c1 = c ∧ c2 = c then callS F [] [.d (.obj c1 fs), .d (.obj c2 gs)] e2 else .stk
  | _, _ => .stk
section
variable {T : Tab} {W : WX} {env : Env} {σ : L2.St} {P H : Hp} {X : Cx} {F : FM} {k n c : Nat} {dfl : List D} {dvs : List V} {ds : List Value} {ma mb : M} {a b : Expr} {pos xp apos : Pos} {f C : Addr} {fd : FuncData} {ps : List Str} {nm x m : Str} {op : Operator}
theorem rd_opO {Q : VK} (h : rdE T W .pure (opO c F ma mb) σ H Q) : tOpOwn (T.clsA c) (spF T .pure 2 F) (fun σ cls d H => W cls d σ H) (rdE T W .pure ma) (rdE T W .pure mb) σ H Q := by
  obtain ⟨env, P, RR, h⟩ := h
  refine ⟨env, P, RR, After.at h.bind fun d1 env1 P1 H1 _ R1 F1 h1 x kx nx => ?_⟩
  refine ⟨env1, P1, R1, After.at h1.bind fun d2 env2 P2 H2 e2 R2 F2 h2 y ky ny => ?_⟩
  have kx' : Rep T P2 d1 x := Rep.sub F2.mono _ _ kx
  have ky : Rep T P2 d2 y := ky
  cases d1 with
  | obj c1 fs =>
    cases d2 with
    | obj c2 gs =>
      simp only at h2
      by_cases hc : c1 = c ∧ c2 = c
      · rw [if_pos hc] at h2
        obtain ⟨rfl, rfl⟩ := hc
        have kx2 := kx'
        have ky2 := ky
        rw [Rep] at kx' ky
        obtain ⟨p, dx, vs, rfl, q1, q2, q3⟩ := kx'
        obtain ⟨q, dy, ws, rfl, w1, w2, w3⟩ := ky
        refine ⟨p, dx, _, q, dy, _, rfl, R2.sub _ _ q1, rfl, R2.sub _ _ w1, ?_⟩
        have k2 : SReps T σ P2 [.d (.obj c2 fs), .d (.obj c2 gs)] [.ref p, .ref q] := .d kx2 (.d ky2 .nil)
        exact callS_sp (T := T) (W := W) (kr := .pure) (n := 2) (dfl := []) (dvs := []) (xs := [.ref p, .ref q]) (H0 := H) (.inl rfl) (fun _ => Reps.nil) rfl R2 k2 (fun _ _ => trivial) h2
      · rw [if_neg hc] at h2; exact h2.elim
    | _ => exact h2.elim
  | _ => exact h2.elim
theorem de_opO (hnm : PySem.dunder op.info.2 = nm) (M : Meth X.K (T.clsA c) nm f) (hc : PySem.W.selfFirst X.K (T.clsA c) = true) (G : FnG X.prog X.w X.K X.mg X.base (L2.CX X.prog X.w) k f fd ps (spF T .pure 2 F)) (gd : X.A.guards = some []) (hr : Room k X.A) (hb : Binds X.K fd ps []) (tk : Takes X W) (ha : DE T W X a .pure ma) (hb' : DE T W X b .pure mb) :
    DE T W X (.BinOp a op b pos) .pure (opO c F ma mb) :=
  pe_imp (pe_opOwn (E := fun σ cls d H => W cls d σ H) hnm M hc G gd hr hb (fun σ => passAt tk σ) ha hb') fun _ _ _ h => rd_opO h
theorem de_cm0 {pl : Sem Bool} (hg : Gl X x) (hm : X.mg x = some (.ref C)) (M : MetF "classmethod" X.K C m) (G : FnG X.prog X.w X.K X.mg X.base (L2.CX X.prog X.w) k (recF "classmethod" X.K C m) fd ps (spF T .pure n F)) (gd : X.A.guards = some []) (hr : Room k X.A) (hb : Binds X.K fd ps ds) (hd : Vals dvs ds) (hdr : ∀ P, Reps T P dfl dvs) (tk : Takes X W)
    (hn : 1 + dfl.length = n := by rfl) (hdb : (x == ("__debug__" : Str)) = false := by decide)
    (ht : eval (.Call (.Attribute (.Name x xp) m apos) [] [] pos) X.env = (do
      let ov ← eval (.Name x xp) X.env
      standAt apos.atName
      let (f, first) ← holding [ov] (getMethod ov m pl)
      callWith pos f first (backTo pos (starEach [] X.env)) (backToKw pos (keywordEach [] X.env))) := by rfl) :
    DE T W X (.Call (.Attribute (.Name x xp) m apos) [] [] pos) .pure (cmM F [] dfl) :=
  pe_imp (pe_cmG0 (E := fun σ cls d H => W cls d σ H) hg hm M G gd hr hb hd (fun σ => passAt tk σ) hdb ht) fun σ H Q h => by
    obtain ⟨env, P, RR, h⟩ := h
    exact cmS_sp (xs := []) (ss := []) (H0 := H) hdr (by rw [← hn]; simp) RR .nil h
@[simp] theorem opO_s : opO c F ma mb env = (ma env).bind fun x e1 => (mb e1).bind fun y e2 => match x, y with
  | .obj c1 fs, .obj c2 gs => if c1 = c ∧ c2 = c then callS F [] [.d (.obj c1 fs), .d (.obj c2 gs)] e2 else .stk
  | _, _ => .stk := (rfl)
end
/-! ### a list beside an empty list -/
section
variable {X : Cx} {T : Tab}
def rEqNil (K : PySem.W.Frag) (ne : Bool) : R2 := fun x y H Q => ∃ a b xs, x = .ref a ∧ y = .ref b ∧ SqL K H a xs ∧ SqL K H b [] ∧ Q (.bl (xs.isEmpty != ne)) H
theorem op_eqNil (hu : X.A.units < cLine) : OpR X (compareOp .Eq) (rEqNil X.K false) := by
  intro pins s σ H x y v u Q I rx ry h
  obtain ⟨a, b, xs, rfl, rfl, ha, hb, q⟩ := h
  cases rx; cases ry
  obtain ⟨us, r1, p1, _⟩ := I.list ha
  obtain ⟨ws, r2, p2, _⟩ := I.list hb
  have l2 : ws = [] := by cases r2; rfl
  subst l2
  cases us with
  | nil =>
    have l1 : xs = [] := by cases r1; rfl
    subst l1
    exact SeqAt.eq_listAt (e := fun _ => true) p1.isList p2.isList rfl hu (fun j h1 _ => absurd h1 (by simp)) ⟨.bl true, H, I, rfl, q⟩
  | cons w ws =>
    have l1 : xs.isEmpty = false := by cases r1; rfl
    rw [l1] at q
    exact SeqAt.eq_list_lengthsAt p1.isList p2.isList (by simp) hu ⟨.bl false, H, I, rfl, q⟩
theorem op_neNil (hu : X.A.units < cLine) : OpR X (compareOp .NotEq) (rEqNil X.K true) := by
  intro pins s σ H x y v u Q I rx ry h
  obtain ⟨a, b, xs, rfl, rfl, ha, hb, q⟩ := h
  cases rx; cases ry
  obtain ⟨us, r1, p1, _⟩ := I.list ha
  obtain ⟨ws, r2, p2, _⟩ := I.list hb
  have l2 : ws = [] := by cases r2; rfl
  subst l2
  cases us with
  | nil =>
    have l1 : xs = [] := by cases r1; rfl
    subst l1
    exact SeqAt.RcNeAt.lists (e := fun _ => true) p1.isList p2.isList rfl hu (fun j h1 _ => absurd h1 (by simp)) _ _ _ _ ⟨.bl false, H, I, rfl, q⟩
  | cons w ws =>
    have l1 : xs.isEmpty = false := by cases r1; rfl
    rw [l1] at q
    exact SeqAt.RcNeAt.lists_lengths p1.isList p2.isList (by simp) hu _ _ _ _ ⟨.bl true, H, I, rfl, q⟩
def eqNil (a b : D) : Option Bool := match a, b with | .lst xs, .lst [] => some xs.isEmpty | _, _ => none
def neNil (a b : D) : Option Bool := match a, b with | .lst xs, .lst [] => some (!xs.isEmpty) | _, _ => none
theorem cd_eqNil : CmpD T (rEqNil T.K false) eqNil := fun P H dx dy x y b Q R1 hx hy e q => by
  cases dx with
  | lst xs =>
    cases dy with
    | lst ys =>
      cases ys with
      | nil =>
        cases e
        obtain ⟨a, vs, rfl, h1, h2⟩ := hx.lstE R1
        obtain ⟨b, ws, rfl, h3, h4⟩ := hy.lstE R1
        rw [Reps] at h4; subst h4
        have l := h2.length
        have e : vs.isEmpty = xs.isEmpty := by cases xs <;> cases vs <;> first | rfl | (simp at l)
        exact ⟨a, b, vs, rfl, rfl, .inl h1, .inl h3, by rw [e]; simpa using q⟩
      | cons _ _ => cases e
    | _ => cases e
  | _ => cases e
theorem cd_neNil : CmpD T (rEqNil T.K true) neNil := fun P H dx dy x y b Q R1 hx hy e q => by
  cases dx with
  | lst xs =>
    cases dy with
    | lst ys =>
      cases ys with
      | nil =>
        cases e
        obtain ⟨a, vs, rfl, h1, h2⟩ := hx.lstE R1
        obtain ⟨b, ws, rfl, h3, h4⟩ := hy.lstE R1
        rw [Reps] at h4; subst h4
        have l := h2.length
        have e : vs.isEmpty = xs.isEmpty := by cases xs <;> cases vs <;> first | rfl | (simp at l)
        exact ⟨a, b, vs, rfl, rfl, .inl h1, .inl h3, by rw [e]; simpa using q⟩
      | cons _ _ => cases e
    | _ => cases e
  | _ => cases e
@[simp] theorem eqNil_s {xs : List D} : eqNil (.lst xs) (.lst []) = some xs.isEmpty := (rfl)
@[simp] theorem neNil_s {xs : List D} : neNil (.lst xs) (.lst []) = some (!xs.isEmpty) := (rfl)
end
end Ue

set_option linter.all false
set_option Elab.async false
set_option maxRecDepth 100000
set_option maxHeartbeats 4000000
/-! any list times an int -/
namespace Ue
open PySem PySem.Spec PyProof.Rows L2
section
variable {X : Cx} {T : Tab} {W : WX} {a b : Expr} {ma mb : M} {ka kb : Kd} {pos : Pos}
def rRepA : R2 := fun x y H Q => ∃ l k xs, x = .ref l ∧ y = .int k ∧ Rd H l (.lst xs) ∧ -(2 ^ 63) ≤ k ∧ k < 2 ^ 63 ∧ xs.length * k.toNat ≤ sizeLine ∧ ∀ p, H p = none → Q (.ref p) (upd H p (.lst (List.replicate k.toNat xs).flatten))
theorem flat_arr (its : List Value) (n : Nat) : List.foldl (fun x y => x ++ y) #[] (List.replicate n its.toArray) = (List.replicate n its).flatten.toArray := by
  have h := L2.foldl_rep its n []
  rw [List.nil_append] at h
  exact h
theorem op_repA : OpR X (binaryOp .Mult) rRepA := by
  intro pins s σ H x y v u Q I rx ry h
  obtain ⟨l, k, xs, rfl, rfl, hH, h1, h2, hz, q⟩ := h
  rcases hH with hH | ⟨o, hH⟩
  · exact op_rep pins s σ H (.ref l) (.int k) v u Q I rx ry ⟨l, k, xs, rfl, rfl, hH, h1, h2, hz, q⟩
  · cases rx
    obtain ⟨t, rfl⟩ := ry
    obtain ⟨eo, z, its, n, r, e⟩ := (show ObjOk X.prog X.w H s.heap l (.frz o (.lst xs)) from I.hok l _ hH)
    have len := r.length
    have size : its.toArray.size * k.toNat ≤ sizeLine := by rw [List.size_toArray, ← len]; exact hz
    have cap : ¬ its.toArray.size * k.toNat > (2 ^ 63 - 1) / 8 := by
      have : (sizeLine : Nat) ≤ (2 ^ 63 - 1) / 8 := by decide
      omega
    have fits : ¬ (!Builtin.List.listFitsIndex k) = true := by rw [fitsIndex_both h1 h2]; exact Bool.false_ne_true
    have long : ¬ Builtin.List.listTooLong (its.toArray.size * k.toNat) = true := by rw [notLongL size]; exact Bool.false_ne_true
    have made : List.foldl (fun x y => x ++ y) #[] (List.replicate (if its.toArray.isEmpty = true then 0 else k.toNat) its.toArray) = (List.replicate k.toNat its).flatten.toArray := by
      rw [flat_arr]
      cases its with
      | nil => simp
      | cons _ _ => rw [if_neg (by simp)]
    refine wpAny_binaryOp_repeat_ref (T := "list") (U := "int") (by decide) ⟨_, e, rfl⟩ (fun s' => typeIs_int s' k t) noFill_list_mul F.fills_int_mul F.slot_int_rmul repeat_list F.slot_int_index.lookup
      (call_meets F.slot_int_rmul (typeIs_int s k t) F.entry_int_rmul (F.args_int_rmul_2 _ _) (int___rmul___int_list k t l its.toArray n) ⟨e, rfl, ⟨_, e, rfl⟩, ?_⟩)
    refine call_meets F.slot_list_mul ⟨_, e, rfl⟩ F.entry_list_mul (F.args_list_mul_2 _ _) (AutoListH.list___mul___list_int_3 l its.toArray n k t fits cap long) ⟨e, ?_⟩
    rw [made]
    exact ⟨.ref _, _, I.lnew (t' := s.toks) (r.rep k.toNat) (by rw [PyProof.Rows.lm_len_rep_flat, Nat.mul_comm]; exact hz), rfl, q _ I.fresh⟩
theorem de_repA (ha : DE T W X a ka ma) (hb : DE T W X b kb mb) (hs : Steady ka mb := by trivial) : DE T W X (.BinOp a .Mult b pos) .fresh (op2M repL ma mb) := by
  refine pe_imp (pe_op op_repA ha hb) fun σ H Q h => ?_
  obtain ⟨env, P, RR, h⟩ := h
  refine ⟨env, P, RR, After.at h.bind fun d1 env1 P1 H1 _ R1 F1 h1 x kx nx => ?_⟩
  refine ⟨env1, P1, R1, After.at h1.bind fun d2 env2 P2 H2 e2 R2 F2 h2 y ky ny => ?_⟩
  have kx' := (kx.carry F2 (hs.use e2)).rdb R2
  cases d1 with
  | lst ds =>
    cases d2 with
    | int k =>
      have h2 : After T W σ env2 P2 H2 (liftO (if -(2 ^ 63) ≤ k ∧ k < 2 ^ 63 ∧ ds.length * k.toNat ≤ sizeLine then some (D.lst (List.replicate k.toNat ds).flatten) else none) env2) _ := h2
      by_cases z : -(2 ^ 63) ≤ k ∧ k < 2 ^ 63 ∧ ds.length * k.toNat ≤ sizeLine
      · rw [if_pos z] at h2
        obtain ⟨p, vs, rfl, t1, t4⟩ := kx'.lstE R2.sub
        refine ⟨p, k, vs, rfl, (ky.rdb R2).intE, t1, z.1, z.2.1, by rw [t4.length]; exact z.2.2, fun q hq => ?_⟩
        obtain ⟨R3, F3, no, pn⟩ := R2.newF (o := .lst (List.replicate k.toNat vs).flatten) hq
        exact h2 _ _ R3 F3 _ ⟨q, _, _, rfl, upd_same, pn, no, t4.replicate _, rfl⟩ (NewV.back (k := .fresh) (F1.trans F2) ⟨q, rfl, hq⟩)
      · rw [if_neg z] at h2; exact False.elim h2
    | _ => exact False.elim h2
  | _ => exact False.elim h2
end
end Ue

set_option linter.all false
set_option Elab.async false
set_option maxRecDepth 100000
set_option maxHeartbeats 4000000
namespace Ue
open PySem PySem.Spec L2
/-! ### a, b = e1, e2 where the names live in cells: the pair is made and walked -/
section
variable {T : Tab} {W : WX} {kr : Kd} {pins : List Nat} {env env' : Env} {σ σ' : L2.St} {P H P' H' : Hp} {X : Cx} {pos : Pos} {a b c : Expr} {ma mb mc : M} {o o1 o2 o3 : Bool} {i j l : Nat} {d : D} {x : V}
theorem ds_parC {x y : Str} {px py pt : Pos} {kt k2 : Nat} {pt2 : Pos} (hK : X.K = T.K) (hc : X.calm = true) (hN : X.N.Nodup) (hi : X.N[i]? = some x) (hj : X.N[j]? = some y)
    (hx : Loc X.env.scope x) (hy : Loc X.env.scope y) (fx : X.fn x = true ∨ X.env.scope.names.lookup x = some .local) (fy : X.fn y = true ∨ X.env.scope.names.lookup y = some .local)
    (ha : DE T W X a (kdOf o1) ma) (hb : DE T W X b (kdOf o2) mb) (hpi : i ∉ pins := by decide) (hpj : j ∉ pins := by decide)
    (hw : swappedStores [.Tuple [.Name x px, .Name y py] kt pt] (.Tuple [a, b] k2 pt2) X.env = pure none := by rfl)
    (hs : swapsWithSole [.Tuple [.Name x px, .Name y py] kt pt] (.Tuple [a, b] k2 pt2) pos.line X.env = pure false := by rfl)
    (h1 : starEach [a, b] X.env = (false, eval a X.env) :: starEach [b] X.env := by rfl) (h2 : starEach [b] X.env = (false, eval b X.env) :: starEach [] X.env := by rfl)
    (h3 : (assignEach [.Name x px, .Name y py] X.env).map (·.2) = assign (.Name x px) X.env :: (assignEach [.Name y py] X.env).map (·.2) := by rfl)
    (h4 : (assignEach [.Name y py] X.env).map (·.2) = assign (.Name y py) X.env :: (assignEach [] X.env).map (·.2) := by rfl)
    (h5 : (assignEach [.Name x px, .Name y py] X.env).length = 2 := by rfl) (h6 : (assignEach [.Name x px, .Name y py] X.env).findIdx? (·.1) = none := by rfl)
    (h7 : (assignEach [.Tuple [.Name x px, .Name y py] kt pt] X.env).map (·.2) = [assign (.Tuple [.Name x px, .Name y py] kt pt) X.env] := by rfl) :
    DS T W kr pins X (.Assign [.Tuple [.Name x px, .Name y py] kt pt] (.Tuple [a, b] k2 pt2) pos) (parKM o1 o2 i j ma mb) := by
  refine ps_imp (ps_asg (pe_tup (pa_cons ha (pa_cons hb pa_nil h2) h1)) (pg_tup hc (pgs_cons (pg_name hN hi hx fx) (pgs_cons (pg_name hN hj hy fy) pgs_nil h4) h3) h5 h6) hs hw h7) fun D σ H h => ?_
  obtain ⟨env, P, RR, h⟩ := h
  refine ⟨env, P, RR, ?_⟩
  unfold parKM at h
  cases e1 : ma env with
  | stk => rw [e1] at h; exact h
  | exc c fs env1 => rw [e1] at h; exact fun P1 H1 cls dd R1 F1 q => h σ P1 H1 cls dd R1 F1 FrP.refl q
  | ok d1 env1 =>
    rw [e1] at h
    intro P1 H1 R1 F1 x kx nx
    refine ⟨env1, P1, R1, ?_⟩
    have h : AfterS T W kr pins env σ P H ((mb env1).toS fun d2 e2 => match Ue.putK o1 i d1 e2 with
      | some e3 => (match Ue.putK o2 j d2 e3 with | some e4 => .nx e4 | none => .stk)
      | none => .stk) D := h
    cases e2 : mb env1 with
    | stk => rw [e2] at h; exact h
    | exc c fs env2 => rw [e2] at h; exact fun P2 H2 cls dd R2 F2 q => h σ P2 H2 cls dd R2 (F1.trans F2) FrP.refl q
    | ok d2 env2 =>
      rw [e2] at h
      intro P2 H2 R2 F2 y ky ny
      have h : AfterS T W kr pins env σ P H (match Ue.putK o1 i d1 env2 with
        | some e3 => (match Ue.putK o2 j d2 e3 with | some e4 => .nx e4 | none => .stk)
        | none => .stk) D := h
      have hne : o1 = true → o2 = true → x ≠ y := fresh_ne kx ny
      have kx2 := kx.carry F2 (fun i z => absurd z (kdOf_not i))
      refine ⟨by rw [sizeLine_eq]; exact (by decide : (2:Nat) ≤ 16777216), fun p hp => ?_⟩
      obtain ⟨R2, F3⟩ := R2.newP (o := .tup [x, y]) hp
      have kx2 := kx2.carry F3 (fun i z => absurd z (kdOf_not i))
      have ky := ky.carry F3 (fun i z => absurd z (kdOf_not i))
      have F := (F1.trans F2).trans F3
      refine ⟨p, [x, y], rfl, .inl (by first | exact .inl upd_same | exact rd_upd | (unfold Rd; exact upd_same)), rfl, x, [y], rfl, y, [], rfl, rfl, ?_⟩
      cases q1 : Ue.putK o1 i d1 env2 with
      | none => rw [q1] at h; exact h.elim
      | some e3 =>
        rw [q1] at h
        obtain ⟨R3, w3⟩ := R2.putK kx2 q1
        have ky3 : KRep T (kdOf o2) e3 (σ.set i (some x)) _ _ d2 y := ky.put w3 hne
        have h : AfterS T W kr pins env σ P H (match Ue.putK o2 j d2 e3 with | some e4 => .nx e4 | none => .stk) D := h
        cases q2 : Ue.putK o2 j d2 e3 with
        | none => rw [q2] at h; exact h.elim
        | some e4 =>
          rw [q2] at h
          obtain ⟨R4, w4⟩ := R3.putK ky3 q2
          refine h _ _ _ R4 ⟨F.keep, fun b hbb n z => ?_, F.mono, F.new, F.there⟩ ((FrP.set hpi).trans (FrP.set hpj))
          rcases w4 b z with z | ⟨ho, ey⟩
          · rcases w3 b z with z | ⟨ho, ex⟩
            · exact F.own b hbb n z
            · subst ho; obtain ⟨p, ep, hp⟩ := nx; rw [ex] at ep; cases ep; exact hbb hp
          · subst ho; obtain ⟨p, ep, hp⟩ := ny; rw [ey] at ep; cases ep; exact F1.there b hbb hp
end
end Ue

set_option linter.all false
set_option Elab.async false
set_option maxRecDepth 100000
set_option maxHeartbeats 4000000
/-! own __len__, __getitem__, __iter__ that hands out the iterator of a field's tuple -/
namespace Ue
open PySem PySem.Spec PyProof.Rows L2
section
variable {X : Cx} {Z : CXT} {k n : Nat} {C g f : Addr} {fd : FuncData} {ps : List Str} {sp : Sp} {E : L2.St → XK} {A1 : Around} {pins : List (Addr × Obj)} {σ : L2.St} {H : Hp} {s : Shared} {Q : VK}
/-- the callee's code within a builtin -/
theorem FnG.codeA {ar : Args} {us : List Value} {vs : List V} {E : XK} (F : FnG X.prog X.w X.K X.mg X.base Z k f fd ps sp) (gd : A1.guards = some []) (hr : Room k A1) (fr : A1.frames = X.A.frames) (hx : PassesAt Z X σ E) (I : Inv X pins σ H s) (hb : BindsTo s fd ar (ps.zip us)) (r : Vals vs us) (h : sp vs H Q E) :
    codeAny (model X.prog X.w) A1 (.call (.ref f) ar) (fun r t => match r with | .ok (.ret u) => CE X.stack X.prog X.w H s Q u t | .ok _ => False | .error er => X.xe er t) s := by
  have e0 : Env0 X.prog X.w X.K X.mg X.base A1 X.stack s H := by
    have e := I.env0
    exact ⟨by rw [fr]; exact e.frames, e.mod, e.bs, e.bsz, e.funs, e.frf, e.hok, e.bare⟩
  refine codeAny_mono (F.go A1 X.stack s H ar us vs Q E gd hr e0 hb r h) fun res t hq => ?_
  match res, hq with
  | .error er, hq => exact hx pins H s er t I hq
  | .ok (.ret u), hq => exact hq
  | .ok .next, hq => exact hq
  | .ok .brk, hq => exact hq
  | .ok .cont, hq => exact hq
theorem run1 {a : Addr} (F : FnG X.prog X.w X.K X.mg X.base Z k f fd ps sp) (gd : A1.guards = some []) (hr : Room k A1) (fr : A1.frames = X.A.frames) (hb : Binds X.K fd ps []) {E : XK} (hx : PassesAt Z X σ E) (I : Inv X pins σ H s) (h : sp [.ref a] H Q E) :
    wpAny (model X.prog X.w) A1 (call (.ref f) [.ref a]) (CE X.stack X.prog X.w H s Q) X.xe s := by
  have rr : Vals [V.ref a] [Value.ref a] := .cons rfl .nil
  exact wpAny_call (F.codeA gd hr fr hx I (hb s [.ref a] I.kIn (rr.length.symm.trans (F.len _ _ _ _ h))) rr h)
/-- .. a promise that may look at the state at the call -/
structure FnS (P : Program) (w : World) (K : PySem.W.Frag) (mg : Str → Option Value) (base : Heap) (Z : CXT) (k : Nat) (f : Addr) (fd : FuncData) (ps : List Str) (sp : Nat → Sp) : Prop where
  len : ∀ n vs H Q E, sp n vs H Q E → vs.length = ps.length
  go : ∀ (B : Around) (o : List PySem.Env) (t : Shared) (H : Hp) (ar : Args) (us : List Value) (vs : List V) (Q : VK) (E : XK), B.guards = some [] → Room k B → Env0 P w K mg base B o t H → BindsTo t fd ar (ps.zip us) → Vals vs us → sp t.heap.objs.size vs H Q E →
    codeAny (model P w) B (.call (.ref f) ar) (CR Z o P w H t Q E) t
theorem funS {P : Program} {w : World} {K : PySem.W.Frag} {mg : Str → Option Value} {base : Heap} {N : List Str} {x qual : Str} {params : Arguments} {body : List Stmt} {scope : Scope} {dvs : List V} {kws : List (Str × V)} {spn : Nat → Sp} (F : FunD K x qual params body scope dvs kws f fd) (S : FnScope N ps scope) (len : ∀ n vs H Q E, spn n vs H Q E → vs.length = ps.length)
    (hb : ∀ (cdv : Value) (B : Around) (o : List PySem.Env) (t : Shared) (H : Hp) (vs : List V) (Q : VK) (E : XK), B.guards = some [] → Room k (B.deeper (PyProof.Rows.envOfC qual scope t.heap.objs.size f cdv)) → spn t.heap.objs.size vs H Q E →
      ∃ u, PSs (cxOf Z P w K mg base N qual scope f cdv B o t H E) body u ∧ u { nx := fun _ J => Q .non J, rt := Q } (L2.start N vs) H) : FnS P w K mg base Z (k + 1) f fd ps spn := by
  obtain ⟨oc, od, dV, kV, doc, pm, an, cdv, ct, osl, rfl, at_, code, _, _⟩ := F.ex
  refine ⟨len, fun B o t H ar us vs Q E g room e0 bnd rel hsp => ?_⟩
  have lenV := len _ vs H Q E hsp
  have up : ∀ b u, base.get? b = some u → t.heap.get? b = some u := fun b u e => (e0.bs b u e).1
  have there := (e0.mod.kin.keeps up) _ _ at_
  have par : ∀ q ∈ ps.zip us, scope.names.lookup q.1 = some .local ∨ (scope.names.lookup q.1 = some .cell ∧ ((cellsFrom (t.heap.objs.size + 1) scope.names []).lookup q.1).isSome = true) := fun q hq =>
    (S.par q.1 (List.of_mem_zip (a := q.1) (b := q.2) hq).1).imp_right fun z => ⟨z, PySem.W.cellsFrom_some _ _ _ (.inl z)⟩
  refine codeAny_call_function room.depth there rfl S.co S.gen rfl (PySem.W.codeRec_of (e0.mod.kin.keeps up) code) (bnd _ _ _ _ ?_)
  refine wpAny_newFunctionEnv_cells S.kind par fun ev hev t1 x => ?_
  subst hev
  refine ⟨(e0.mod.nolimit.keeps up).keeps x.toInCall.keep, codeAny_func ?_⟩
  obtain ⟨u, hu, q⟩ := hb cdv B o t H vs Q E g (room.deeper _) hsp
  have fin : ∀ {σ' : L2.St} {J : Hp} {v : V} {z : Value} {t' : Shared}, Inv (cxOf Z P w K mg base N qual scope f cdv B o t H E) [] σ' J t' → RelV v z → Q v J → CE o P w H t Q z t' := fun {σ' J v z t'} I rv qv => ⟨v, J, I.os, I.bare, I.base, I.hok, rv, qv⟩
  refine wpAny_mono (hu.run [] t1 (L2.start N vs) H _ (inv_start S room.hd e0 lenV rel x) q) (fun fl t' hs => ?_) fun _ _ hs => hs
  match fl, hs with
  | .ret z, ⟨v, σ', J, I, rv, qv⟩ => exact fin I rv qv
  | .next, ⟨σ', J, I, qv⟩ => exact fin (v := V.non) (z := Value.none) I rfl qv
  | .brk, ⟨_, _, _, qv⟩ => exact False.elim qv
  | .cont, ⟨_, _, _, qv⟩ => exact False.elim qv
theorem FnS.run1 {spn : Nat → Sp} {a : Addr} (F : FnS X.prog X.w X.K X.mg X.base Z k f fd ps spn) (gd : A1.guards = some []) (hr : Room k A1) (fr : A1.frames = X.A.frames) (hb : Binds X.K fd ps []) {E : XK} (hx : PassesAt Z X σ E) (I : Inv X pins σ H s) (h : spn s.heap.objs.size [.ref a] H Q E) :
    wpAny (model X.prog X.w) A1 (call (.ref f) [.ref a]) (CE X.stack X.prog X.w H s Q) X.xe s := by
  have rr : Vals [V.ref a] [Value.ref a] := .cons rfl .nil
  have e0 : Env0 X.prog X.w X.K X.mg X.base A1 X.stack s H := by
    have e := I.env0
    exact ⟨by rw [fr]; exact e.frames, e.mod, e.bs, e.bsz, e.funs, e.frf, e.hok, e.bare⟩
  refine wpAny_call (codeAny_mono (F.go A1 X.stack s H ⟨[.ref a], []⟩ [.ref a] [.ref a] Q E gd hr e0 (hb s [.ref a] I.kIn (rr.length.symm.trans (F.len _ _ _ _ _ h))) rr h) fun res t hq => ?_)
  match res, hq with
  | .error er, hq => exact hx pins H s er t I hq
  | .ok (.ret u), hq => exact hq
  | .ok .next, hq => exact hq
  | .ok .brk, hq => exact hq
  | .ok .cont, hq => exact hq
/-! ### len(o) -/
def tLenOwn (C : Addr) (sp : Sp) (E : L2.St → XK) (t : TA) : TE := fun σ H Q => t σ H fun vs H1 => ∃ a dx fs, vs = [.ref a] ∧ H1 a = some (.ins C dx fs) ∧ sp [.ref a] H1 (fun v H2 => ∃ n : Int, v = .int n ∧ 0 ≤ n ∧ n < 2 ^ 63 ∧ Q v H2) (E σ)
theorem len_own {a dx : Addr} {fs : List (Str × V)} {E : XK} (M : Meth X.K C "__len__" f) (F : FnG X.prog X.w X.K X.mg X.base Z k f fd ps sp) (gd : A1.guards = some []) (hr : Room (k + 1) A1) (fr : A1.frames = X.A.frames) (hb : Binds X.K fd ps []) (hx : PassesAt Z X σ E) (I : Inv X pins σ H s) (ha : H a = some (.ins C dx fs))
    (h : sp [.ref a] H (fun v H2 => ∃ n : Int, v = .int n ∧ 0 ≤ n ∧ n < 2 ^ 63 ∧ Q v H2) E) : wpAny (model X.prog X.w) A1 (call (.builtin "len") [.ref a]) (EP X pins σ Q) X.xe s := by
  obtain ⟨mA, O, _⟩ := ins_get I.hok ha
  obtain ⟨od, J, _⟩ := O.look
  obtain ⟨mm, hF⟩ := I.fr
  refine PySem.W.len_K hF I.ok.mod.kin J M.at_ M.fn (thn (run1 F gd hr.in1 fr hb hx I h) fun u s1 hc => ?_)
  obtain ⟨v, H', I', rv, n, rfl, h0, h1, q⟩ := I.after hc
  obtain ⟨t, rfl⟩ := rv
  exact ⟨⟨h0, h1⟩, .int n, H', I'.kept (t' := s1.toks + 1) (fun b o e => e), ⟨_, rfl⟩, q⟩
theorem pe_lenOwn {x : Str} {p pos : Pos} {e : Expr} {t : TA} (M : Meth X.K C "__len__" f) (F : FnG X.prog X.w X.K X.mg X.base Z k f fd ps sp) (gd : X.A.guards = some []) (hr : Room (k + 1) X.A) (hb : Binds X.K fd ps []) (hx : ∀ σ, PassesAt Z X σ (E σ)) (hg : Gl X "len") (hm : X.mg "len" = none) (ha : PA X [e] t)
    (hst : starEach [e] X.env = (false, eval e X.env) :: starEach [] X.env := by rfl) : PE X (.Call (.Name "len" p) [e] [] pos) (tLenOwn C sp E t) := by
  refine ⟨fun pins s σ H Q I h => ?_⟩
  refine wpAny_Call_Name_kw (ld_blt (u := .builtin "len") I hg hm (by first | rfl | decide +kernel) ?_ (by decide) (by decide))
  refine PyProof.Rows.callWith_builtin1 (thn (ha.run pos pins s σ H _ I h) fun us s1 ⟨vs, H1, I1, r1, a, dx, fs, ev, ei, q⟩ => ?_) hst rfl
  subst ev
  obtain ⟨u, rfl, ru⟩ := r1.one
  cases ru
  exact len_own M F gd hr rfl hb (hx σ) I1 ei q
/-! ### o[e] -/
def tGetOwn (C : Addr) (sp : Sp) (E : L2.St → XK) (ta tb : TE) : TE := fun σ H Q => ta σ H fun x H1 => tb σ H1 fun y H2 => ∃ a dx fs, x = .ref a ∧ H2 a = some (.ins C dx fs) ∧ sp [x, y] H2 Q (E σ)
theorem pe_getOwn {a b : Expr} {pos : Pos} {ta tb : TE} (M : Meth X.K C "__getitem__" f) (hfn : PySem.W.fnIn X.K f = true) (F : FnG X.prog X.w X.K X.mg X.base Z k f fd ps sp) (gd : X.A.guards = some []) (hr : Room (k + 1) X.A) (hb : Binds X.K fd ps []) (hx : ∀ σ, PassesAt Z X σ (E σ)) (ha : PE X a ta) (hb' : PE X b tb)
    (hsl : ∀ o i, subscripted b true (.ref o) i = runValue (.builtin "lifetime.subscript" ⟨[.ref o, i], []⟩)) : PE X (.Subscript a b pos) (tGetOwn C sp E ta tb) := by
  refine ⟨fun pins s σ H Q I h => ?_⟩
  refine Subscript_ (binT ha hb' I h fun v u s2 x y H2 I2 rx ry ⟨p, dx, fs, ex, e1, hsp⟩ => ?_)
  subst ex
  obtain rfl : v = Value.ref p := rx
  obtain ⟨mA, O, _⟩ := ins_get I2.hok e1
  obtain ⟨od, J, _⟩ := O.look
  obtain ⟨mm, hF⟩ := I2.fr
  have rr : Vals [V.ref p, y] [Value.ref p, u] := .cons rfl (.cons ry .nil)
  refine PySem.W.sub_K hF I.ok.mod.kin J M.at_ hfn M.fn (wpAny_call (codeAny_mono (F.codeA gd hr.in1 rfl (hx σ) I2 (hb s2 [.ref p, u] I2.kIn (rr.length.symm.trans (F.len _ _ _ _ hsp))) rr hsp) fun r t hq => ?_)) (hsl p u)
  match r, hq with
  | .error er, hq => exact hq
  | .ok (.ret u), hq => exact I2.after hq
  | .ok .next, hq => exact hq
  | .ok .brk, hq => exact hq
  | .ok .cont, hq => exact hq
/-! ### iter(t), t a tuple -/
def tupIt (l : Addr) : Obj := { cls := .type "tuple_iterator", data := .fields #[.ref l, .int 0 0] }
def ItT (l it : Addr) : HO := .ext fun h => h.get? it = some (tupIt l)
theorem itT_ok {P : Program} {w : World} {H : Hp} {h : Heap} {l it : Addr} (e : h.get? it = some (tupIt l)) : ObjOk P w H h it (ItT l it) := ⟨e, ⟨_, e⟩, fun h1 h2 q k => k _ q⟩
def rIterT (K : PySem.W.Frag) (n : Nat) : List V → Hp → VK → Prop := fun xs H Q => ∃ (l : Addr) (zs : List V), xs = [.ref l] ∧ SqT K H l zs ∧ ∀ it, H it = none → n ≤ it → Q (.ref it) (upd H it (ItT l it))
theorem call_iterT : CallR X (.builtin "iter") (rIterT X.K X.s_0.heap.objs.size) := by
  intro pins s σ H xs us Q I r h
  obtain ⟨l, zs, rfl, hq, q⟩ := h
  obtain ⟨u, rfl, ru⟩ := r.one
  cases ru
  obtain ⟨its, rv, pl, hz⟩ := I.tuple hq
  refine Calls.call_function_entry (by decide +kernel) (by decide +kernel) PySem.W.kdk_entry_iter (PySem.W.kdk_args_iter _) ?_
  unfold Builtin.«iter»
  refine wpAny_bind (m := someArgs "iter" 1 2 _) (wpAny_of_eq (a := [Value.ref l]) (by first | rfl | kernel_rfl!) ?_)
  show wpAny _ _ (pyIter (.ref l) >>= _) _ _ _
  refine wpAny_bind (wpAny_pyIter_tuple (show s.heap.IsTuple l its.toArray from pl) ?_)
  exact wpAny_pure ⟨_, rfl, .ref s.heap.objs.size, _, I.laid (t' := s.toks) (fun b u e => Heap.get?_push_of_some _ e) (Nat.le_refl _) (itT_ok (Heap.get?_push_size _ rfl)), rfl, q _ (I.hok.fresh (Nat.le_refl _)) I.sz⟩
/-! ### own __iter__ -/
/-- what the __iter__ of a class promises: the iterator of a field's tuple -/
def spIt (K : PySem.W.Frag) (C : Addr) (fl : Str) (n : Nat) : Sp := fun vs H Q _ => ∃ a dx fs l zs, vs = [.ref a] ∧ H a = some (.ins C dx fs) ∧ fs.lookup fl = some (.ref l) ∧ SqT K H l zs ∧ ∀ it, H it = none → n ≤ it → Q (.ref it) (upd H it (ItT l it))
theorem iter_own {R : Value → Shared → Prop} {a dx l : Addr} {fs : List (Str × V)} {zs : List V} {fl : Str} {E : XK} (M : Meth X.K C "__iter__" f) (F : FnS X.prog X.w X.K X.mg X.base Z k f fd ps (spIt X.K C fl)) (gd : A1.guards = some []) (hr : Room k A1) (fr : A1.frames = X.A.frames) (hb : Binds X.K fd ps []) (hx : PassesAt Z X σ E)
    (I : Inv X pins σ H s) (ha : H a = some (.ins C dx fs)) (hl : fs.lookup fl = some (.ref l)) (hq : SqT X.K H l zs)
    (h : ∀ it s', s'.heap.IsTupleIter it l 0 → Inv X pins σ H s' → FpOk X pins H it → R (.ref it) s') : wpAny (model X.prog X.w) A1 (pyIter (.ref a)) R X.xe s := by
  obtain ⟨mA, O, _⟩ := ins_get I.hok ha
  obtain ⟨od, J, _⟩ := O.look
  obtain ⟨mm, hF⟩ := I.fr
  have hsp : spIt X.K C fl s.heap.objs.size [.ref a] H (fun v H' => ∃ it, v = .ref it ∧ H it = none ∧ s.heap.objs.size ≤ it ∧ H' = upd H it (ItT l it)) E := ⟨a, dx, fs, l, zs, rfl, ha, hl, hq, fun it hi hn => ⟨it, rfl, hi, hn, rfl⟩⟩
  refine PySem.W.owit_iter hF I.ok.mod.kin J M.at_ M.fn (thn (F.run1 gd hr fr hb hx I hsp) fun u s1 hc => ?_)
  obtain ⟨v, H', I', rv, it2, rfl, hn, hz, rfl⟩ := I.after hc
  obtain rfl : u = Value.ref it2 := rv
  have hy : X.s_0.heap.objs.size ≤ it2 := Nat.le_trans I.sz hz
  have I2 := ItX.inv_drop I' upd_same
  have fp := ItX.inv_fp I' upd_same hy
  rw [ItX.dropH_upd hn] at I2 fp
  have ho : s1.heap.get? it2 = some (tupIt l) := (I'.hok it2 _ upd_same).1
  have st : s1.heap.IsTupleIter it2 l 0 := ⟨_, ho, rfl, rfl⟩
  unfold PySem.W.OwitIt
  refine wpAny_specialOf (name := PySem.Str.ofString "__next__") st.typeIs slot_tupleiter_next.lookup ?_
  exact h it2 s1 st I2 fp
/-! ### for .. in o -/
def iOwnIt (K : PySem.W.Frag) (C : Addr) (fl : Str) (te : TE) : TI := fun σ H R => te σ H fun x H1 => ∃ a dx fs l zs, x = .ref a ∧ H1 a = some (.ins C dx fs) ∧ fs.lookup fl = some (.ref l) ∧ SqT K H1 l zs ∧ R (Itt K l) H1
theorem pi_ownIt {tg e : Expr} {te : TE} {fl : Str} (M : Meth X.K C "__iter__" f) (F : FnS X.prog X.w X.K X.mg X.base Z k f fd ps (spIt X.K C fl)) (gd : X.A.guards = some []) (hr : Room k X.A) (hb : Binds X.K fd ps []) (hx : ∀ σ, PassesAt Z X σ (E σ)) (he : PE X e te) : PI X tg e (iOwnIt X.K C fl te) := by
  refine ⟨fun pins s σ H R I h => ?_⟩
  refine thn (he.run pins s σ H _ I h) fun v s1 ⟨x, H1, I1, r1, a, dx, fs, l, zs, ex, ha, hl, hq, q⟩ => ?_
  subst ex
  obtain rfl : v = Value.ref a := r1
  refine iter_own M F gd hr rfl hb (hx σ) I1 ha hl hq fun it s2 st I2 fp => ?_
  exact ⟨it, [it], _, _, H1, rfl, I2, turn_tuple l it, st, fun b hb => by
    have e : b = it := by simpa using hb
    subst e
    exact fp, q⟩
end
end Ue

set_option linter.all false
set_option Elab.async false
set_option maxRecDepth 100000
set_option maxHeartbeats 4000000
/-! list(o), o with own __iter__ (over a field's tuple) and own __len__ -/
namespace Ue
open PySem PySem.Spec PyProof.Rows L2
section
variable {X : Cx} {Z : CXT} {k n : Nat} {C g f fi : Addr} {fd fdi : FuncData} {ps psi : List Str} {sp : Sp} {E : L2.St → XK} {A1 : Around} {pins : List (Addr × Obj)} {σ : L2.St} {H : Hp} {s : Shared} {Q : VK}
def noE : XK := fun _ _ _ => False
theorem passes_no {P : Program} {w : World} : PassesAt (L2.CX P w) X σ noE := fun pins H s e s' _ h => by
  obtain ⟨a, B, H', cls, d, rfl, fl, hok, ub, na, os, ag, hE⟩ := h
  exact hE.elim
theorem its_ok {P : Program} {w : World} {K : PySem.W.Frag} {mg : Str → Option Value} {base : Heap} {x qual : Str} {params : Arguments} {body : List Stmt} {scope : Scope} {dvs : List V} {kws : List (Str × V)} {fl : Str} (F : FunD K x qual params body scope dvs kws f fd) (S : FnScope ["self"] ["self"] scope) (cl : Cls K C) (na : NoAttr K C fl)
    (hb : ∀ (cdv : Value) (B : Around) (o : List PySem.Env) (t : Shared) (H : Hp) (E : XK), PSs (cxOf Z P w K mg base ["self"] qual scope f cdv B o t H E) body (tSeq (tRet (tCB (rIterT K t.heap.objs.size) (tCons (tFld K (tVar 0) fl) tNil))) tNext)) : FnS P w K mg base Z (k + 1) f fd ["self"] (spIt K C fl) :=
  funS F S (fun n vs H Q E h => by obtain ⟨a, dx, fs, l, zs, rfl, _⟩ := h; rfl) fun cdv B o t H vs Q E g r hsp => by
    obtain ⟨a, dx, fs, l, zs, rfl, ha, hl, hq, h⟩ := hsp
    exact ⟨_, hb cdv B o t H E, .ref a, rfl, a, C, dx, fs, .ref l, rfl, ha, cl, na, hl, l, zs, rfl, hq, h⟩
/-- the loop of list.extend over a tuple's iterator -/
theorem tup_loop {H0 : Hp} {l it q : Addr} {zs : List V} {Rs : Result → Shared → Prop} (hh : A1.in1.handled = none) (h0 : H0 q = none) (hit : it ≠ q) (hq : SqT X.K H0 l zs) (hdone : ∀ s, Inv X pins σ (upd H0 q (.lst zs)) s → Rs (.ok (.ret .none)) s) :
    ∀ (m i : Nat) (s : Shared), m = zs.length - i → i ≤ zs.length → Inv X pins σ (upd H0 q (.lst (zs.take i))) s → s.heap.IsTupleIter it l i → FpOk X pins (upd H0 q (.lst (zs.take i))) it → codeAny (model X.prog X.w) A1 (.builtin "list.extend.loop" ⟨[.ref q, .ref it, .none], []⟩) Rs s := by
  intro m
  induction m with
  | zero =>
    intro i s hm hi I st hf
    have e : i = zs.length := by omega
    subst e
    rw [List.take_length] at I
    have hq2 : SqT X.K (upd H0 q (.lst zs)) l zs := sqT_sub (psub_upd h0) hq
    obtain ⟨its, rv, p, hz⟩ := I.tuple hq2
    obtain ⟨f0, f1, f2, f3, f4, f5⟩ := hf
    rw [List.take_length] at f0
    have hl := rv.length
    refine codeAny_builtin PySem.F.entry_extend_loop ?_
    rw [Around.under_plainId PySem.F.plain_extend_loop _]
    show wpAny _ A1.in1 (pyNext (.ref it) >>= _) _ _ s
    refine wpAny_bind (wpAny_pyNext_tuple_end hh st (show s.heap.IsTuple l its.toArray from p) (by simp; omega) fun h' eb => ?_)
    exact wpAny_pure (hdone _ (I.turned (t' := s.toks) (fun b o hb e => eb b o hb e) f0 f1 f3 f4 f5))
  | succ m ih =>
    intro i s hm hi I st hf
    have hlt : i < zs.length := by omega
    have hq2 : SqT X.K (upd H0 q (.lst (zs.take i))) l zs := sqT_sub (psub_upd h0) hq
    obtain ⟨its, rv, p, hz⟩ := I.tuple hq2
    obtain ⟨u, hu, ru⟩ := rv.get (List.getElem?_eq_getElem hlt)
    obtain ⟨f0, f1, f2, f3, f4, f5⟩ := hf
    refine codeAny_builtin PySem.F.entry_extend_loop ?_
    rw [Around.under_plainId PySem.F.plain_extend_loop _]
    show wpAny _ A1.in1 (pyNext (.ref it) >>= _) _ _ s
    refine wpAny_bind (wpAny_pyNext_tuple_item st (show s.heap.IsTuple l its.toArray from p) (x := u) (by simpa using hu) fun h' st' sb => ?_)
    have I1 : Inv X pins σ (upd H0 q (.lst (zs.take i))) { s with heap := h' } := I.turned (t' := s.toks) (fun b o hb e => (sb.2 b hb).trans e) f0 f1 f3 f4 f5
    show wpAny _ A1.in1 (updateSeq q (·.push u) >>= _) _ _ _
    obtain ⟨z, its', k', r2, hl, e⟩ := I1.lstM upd_same
    have e2 : zs.take (i + 1) = zs.take i ++ [zs[i]] := by rw [List.take_succ, List.getElem?_eq_getElem hlt]; rfl
    have hlen : (zs.take (i + 1)).length ≤ sizeLine := by
      rw [List.length_take]
      have := rv.length
      omega
    have hl1 : (zs.take i ++ [zs[i]]).length ≤ sizeLine := by rw [← e2]; exact hlen
    have hl2 : its'.length + 1 ≤ sizeLine := by
      have h3 := r2.length
      rw [List.length_append, List.length_singleton] at hl1
      omega
    refine wpAny_bind (wpAny_updateSeq e rfl (wpAny_pure ⟨plainId_quiet PySem.F.plain_extend_loop _, ?_⟩) (by rw [List.size_toArray]; omega) (by show (its'.toArray.push u).size ≤ sizeLine + 1; rw [Array.size_push, List.size_toArray]; omega))
    have I2 := I1.lset (its' := its' ++ [u]) (ys := zs.take i ++ [zs[i]]) (f := (·.push u)) (t' := s.toks) upd_same e (by simp) (r2.append (.cons ru .nil)) hl1
    rw [upd_upd, ← e2] at I2
    refine ih (i + 1) _ (by omega) (by omega) I2 ?_ ?_
    · obtain ⟨o, ho, hc⟩ := st'
      exact ⟨o, (Heap.get?_update_other h' _ (Ne.symm hit)).trans ho, hc⟩
    · exact ⟨by rw [upd_ne hit] at f0 ⊢; exact f0, f1, f2, f3, f4, f5⟩
theorem run1N {a : Addr} {E' : Value → Shared → Prop} (F : FnG X.prog X.w X.K X.mg X.base (L2.CX X.prog X.w) k f fd ps sp) (gd : A1.guards = some []) (hr : Room k A1) (fr : A1.frames = X.A.frames) (hb : Binds X.K fd ps []) (I : Inv X pins σ H s) (h : sp [.ref a] H Q noE) :
    wpAny (model X.prog X.w) A1 (call (.ref f) [.ref a]) (CE X.stack X.prog X.w H s Q) E' s := by
  have rr : Vals [V.ref a] [Value.ref a] := .cons rfl .nil
  have e0 : Env0 X.prog X.w X.K X.mg X.base A1 X.stack s H := by
    have e := I.env0
    exact ⟨by rw [fr]; exact e.frames, e.mod, e.bs, e.bsz, e.funs, e.frf, e.hok, e.bare⟩
  refine wpAny_call (codeAny_mono (F.go A1 X.stack s H ⟨[.ref a], []⟩ [.ref a] [.ref a] Q noE gd hr e0 (hb s [.ref a] I.kIn (rr.length.symm.trans (F.len _ _ _ _ h))) rr h) fun res t hq => ?_)
  match res, hq with
  | .error er, hq => exact (by obtain ⟨a, B, H', cls, d, rfl, fl, hok, ub, na, os, ag, hE⟩ := hq; exact hE.elim)
  | .ok (.ret u), hq => exact hq
  | .ok .next, hq => exact hq
  | .ok .brk, hq => exact hq
  | .ok .cont, hq => exact hq
theorem hint_own {a dx : Addr} {fs : List (Str × V)} {R : Bool → Shared → Prop} {Q : VK} (M : Meth X.K C "__len__" g) (F : FnG X.prog X.w X.K X.mg X.base (L2.CX X.prog X.w) k g fd ps sp) (gd : A1.guards = some []) (hr : Room (k + 1) A1) (fr : A1.frames = X.A.frames) (hb : Binds X.K fd ps []) (I : Inv X pins σ H s) (ha : H a = some (.ins C dx fs))
    (h : sp [.ref a] H (fun v H2 => ∃ n : Int, v = .int n ∧ 0 ≤ n ∧ n.toNat ≤ sizeLine ∧ Q .non H2) noE) (hR : ∀ b s1 t u, CE X.stack X.prog X.w H s (fun _ H2 => Q .non H2) u s1 → R b { s1 with toks := t }) : wpAny (model X.prog X.w) A1 (Builtin.List.listLengthHint (.ref a)) R X.xe s := by
  obtain ⟨mA, O, _⟩ := ins_get I.hok ha
  obtain ⟨od, J, _⟩ := O.look
  obtain ⟨mm, hF⟩ := I.fr
  unfold Builtin.List.listLengthHint
  refine wpAny_bind (wpAny_bind (J.type.here ((PySem.W.looks_findIn I.kIn M.at_).here ?_)))
  refine PySem.W.KFB.if_not rfl ?_
  refine wpAny_bind (wpAny_rule ?_)
  refine wpAny_bind (wpAny_attempt (PySem.W.len_K hF I.ok.mod.kin J M.at_ M.fn (wpAny_mono (run1N (A1 := A1.in1) F gd hr.in1 fr hb I h) (fun u s1 hc => ?_) fun _ _ z => z)))
  obtain ⟨v, H', os, bare, un, hok, rv, n, rfl, h0, h1, q⟩ := hc
  obtain ⟨t, rfl⟩ := rv
  have hz : n.toNat ≤ 16777216 := by rw [← sizeLine_eq]; exact h1
  refine ⟨⟨h0, by omega⟩, ?_⟩
  have c : CE X.stack X.prog X.w H s (fun _ H2 => Q .non H2) (.int n t) s1 := ⟨.int n, H', os, bare, un, hok, ⟨_, rfl⟩, q⟩
  refine wpAny_bind (wpAny_of_eq (a := some n) (by first | rfl | kernel_rfl) ?_)
  refine PySem.W.KFB.if_not (by unfold Builtin.List.listTooLong; simp; rw [sizeLine_eq]; omega) ?_
  exact wpAny_pure (hR _ s1 _ _ c)
/-- list(o) -/
def rLstIt (K : PySem.W.Frag) (C : Addr) (fl : Str) (sp : Sp) : List V → Hp → VK → Prop := fun xs H Q => ∃ a dx fs l zs, xs = [.ref a] ∧ H a = some (.ins C dx fs) ∧ fs.lookup fl = some (.ref l) ∧ SqT K H l zs ∧
  ∀ q, H q = none → sp [.ref a] (upd H q (.lst [])) (fun v H2 => ∃ n : Int, v = .int n ∧ 0 ≤ n ∧ n.toNat ≤ sizeLine ∧ H2 q = some (.lst []) ∧ SqT K H2 l zs ∧ Q (.ref q) (upd H2 q (.lst zs))) noE
theorem sqT_of_upd {K : PySem.W.Frag} {H : Hp} {q l : Addr} {u : HO} {zs : List V} {xs : List V} (h : SqT K H l zs) (hq : H q = some (.lst xs)) : SqT K (upd H q u) l zs := by
  rcases h with h | h
  · have hne : l ≠ q := fun z => by
      subst z
      rcases h with h | ⟨o, h⟩ <;> rw [hq] at h <;> cases h
    refine .inl ?_
    rcases h with h | ⟨o, h⟩
    · exact .inl (by rw [upd_ne hne]; exact h)
    · exact .inr ⟨o, by rw [upd_ne hne]; exact h⟩
  · exact .inr h
theorem upd_drop {H : Hp} {q : Addr} {u v : HO} (h : H q = some v) : upd (ItX.dropH H q) q u = upd H q u := by
  funext b
  by_cases hb : b = q
  · rw [hb, upd_same, upd_same]
  · rw [upd_ne hb, upd_ne hb, ItX.dropH_ne hb]
theorem upd_own {H : Hp} {q : Addr} {v : HO} (h : H q = some v) : upd H q v = H := by
  funext b
  by_cases hb : b = q
  · rw [hb, upd_same, h]
  · rw [upd_ne hb]
theorem sqT_dropL {K : PySem.W.Frag} {H : Hp} {q l : Addr} {zs : List V} {xs : List V} (h : SqT K H l zs) (hq : H q = some (.lst xs)) : SqT K (ItX.dropH H q) l zs := by
  rcases h with h | h
  · have hne : l ≠ q := fun z => by
      subst z
      rcases h with h | ⟨o, h⟩ <;> rw [hq] at h <;> cases h
    refine .inl ?_
    rcases h with h | ⟨o, h⟩
    · exact .inl (by rw [ItX.dropH_ne hne]; exact h)
    · exact .inr ⟨o, by rw [ItX.dropH_ne hne]; exact h⟩
  · exact .inr h
theorem call_listIt {fl : Str} (hc : X.calm = true) (M : Meth X.K C "__iter__" fi) (FI : FnS X.prog X.w X.K X.mg X.base (L2.CX X.prog X.w) k fi fdi psi (spIt X.K C fl)) (bI : Binds X.K fdi psi []) (ML : Meth X.K C "__len__" g) (FL : FnG X.prog X.w X.K X.mg X.base (L2.CX X.prog X.w) k g fd ps sp) (bL : Binds X.K fd ps []) (gd : X.A.guards = some []) (hr : Room (k + 3) X.A) :
    CallR X (.type "list") (rLstIt X.K C fl sp) := by
  intro pins s σ H xs us Q I rv h
  obtain ⟨a, dx, fs, l, zs, rfl, ha, hl, hz, h⟩ := h
  obtain ⟨u, rfl, ru⟩ := rv.one
  cases ru
  refine callType_codes (Q₁ := fun obj s₁ => obj = .ref s.heap.objs.size ∧ s₁ = { s with heap := s.heap.push { cls := .type "list", data := .seq #[] } }) PySem.F.called_list (PySem.F.typeCall_list_1 _) PySem.F.entry_list_init
    (code_list_new _ ⟨rfl, rfl⟩) fun obj s₁ h₁ => ?_
  obtain ⟨rfl, rfl⟩ := h₁
  have hS : (s.heap.push { cls := .type "list", data := .seq #[] }).get? s.heap.objs.size = some { cls := .type "list", data := .seq #[] } := Heap.get?_push_size _ rfl
  refine ⟨⟨_, hS, rfl⟩, PySem.F.args_list_init_2 _ _, ?_⟩
  have fr : H s.heap.objs.size = none := I.hok.fresh (Nat.le_refl _)
  have hsp := h _ fr
  have I1 : Inv X pins σ (upd H s.heap.objs.size (.lst [])) { s with heap := s.heap.push { cls := .type "list", data := .seq #[] } } := I.lnew (its := []) (t' := s.toks) .nil (Nat.zero_le _)
  show wpAny _ _ (do let old ← Builtin.List.listItems (.ref s.heap.objs.size); Builtin.List.listUpdate (.ref s.heap.objs.size) (fun _ => #[]); letGo old.toList.reverse; Builtin.List.listExtendWith (.ref s.heap.objs.size) (.ref a) .none) _ _ _
  refine wpAny_bind ?_
  unfold Builtin.List.listItems
  refine wpAny_bind (wpAny_seqItems hS rfl (wpAny_pure ?_))
  show wpAny _ _ (updateSeq s.heap.objs.size (fun _ => #[]) >>= fun _ => letGo (#[] : Array Value).toList.reverse >>= fun _ => Builtin.List.listExtendWith (.ref s.heap.objs.size) (.ref a) .none) _ _ _
  refine wpAny_bind (wpAny_updateSeq hS rfl ?_)
  have I2 := I1.lset (f := fun _ => #[]) (its := []) (its' := []) (ys := []) (t' := s.toks) upd_same hS rfl .nil (Nat.zero_le _)
  rw [upd_upd] at I2
  refine wpAny_bind (wpAny_letGo ?_)
  have ha2 : upd H s.heap.objs.size (.lst []) a = some (.ins C dx fs) := by rw [upd_ne (ne_of_none ha fr)]; exact ha
  have hz2 : SqT X.K (upd H s.heap.objs.size (.lst [])) l zs := by
    rcases hz with hz | hz
    · have hne : l ≠ s.heap.objs.size := fun z => by
        subst z
        rcases hz with hz | ⟨o, hz⟩ <;> rw [fr] at hz <;> cases hz
      rcases hz with hz | ⟨o, hz⟩
      · exact .inl (.inl (by rw [upd_ne hne]; exact hz))
      · exact .inl (.inr ⟨o, by rw [upd_ne hne]; exact hz⟩)
    · exact .inr hz
  generalize s.heap.objs.size = q at *
  have hq2 : upd H q (.lst []) q = some (.lst []) := upd_same
  generalize upd H q (.lst []) = HH at *
  have hne : q ≠ a := ne_of hq2 ha2 (fun z => nomatch z)
  unfold Builtin.List.listExtendWith
  obtain ⟨mA, O, _⟩ := ins_get I2.hok ha2
  obtain ⟨od, J, _⟩ := O.look
  refine wpAny_bind (J.type.here ?_)
  have h1 : Builtin.List.listSameRef (.ref q) (.ref a) = false := by simp [Builtin.List.listSameRef, hne]
  have h2 : (Value.ref C == Value.type "list") = false := rfl
  have h3 : (Value.ref C == Value.type "tuple") = false := rfl
  simp only [h1, h2, h3, Bool.or_false, Bool.false_eq_true, if_false]
  have hd : X.A.handled = none := I.ok.hd hc
  refine wpAny_bind (iter_own (E := noE) M FI gd (hr.in1.in1.mono (by omega)) rfl bI passes_no I2 ha2 hl hz2 fun it s2 st I3 fp => ?_)
  refine wpAny_bind (wpAny_holding (hint_own (Q := fun _ H2 => H2 q = some (.lst []) ∧ SqT X.K H2 l zs ∧ Q (.ref q) (upd H2 q (.lst zs))) ML FL gd hr.in1.in1 rfl bL I3 ha2 hsp fun b s3 t u c => ?_))
  obtain ⟨v, H2, os, bare, un, hok, rvv, q1, q2, q3⟩ := c
  have c2 : CE X.stack X.prog X.w HH s2 (fun _ H3 => H3 = H2) u s3 := ⟨v, H2, os, bare, un, hok, rvv, rfl⟩
  obtain ⟨_, H3, I4, _, e9⟩ := I3.after c2
  rw [e9] at I4
  have st0 := st
  obtain ⟨o, ho, hoc⟩ := st
  have k1 := un.keep it o ho fp.1 (fun z => (List.mem_cons.mp (I3.stkSub it z)).elim fp.2.1 fp.2.2.1) (by simp)
  have fp4 : FpOk X pins H2 it := ⟨un.free it o ho fp.1 (by simp), fp.2⟩
  have st4 : s3.heap.IsTupleIter it l 0 := ⟨o, k1, hoc⟩
  have hit : it ≠ q := fun z => by
    have := fp4.1
    rw [z, q1] at this; cases this
  -- the loop, from any state with the empty list at q
  have loop : ∀ s4 : Shared, L2.Inv X pins σ (upd (ItX.dropH H2 q) q (.lst (zs.take 0))) s4 → s4.heap.IsTupleIter it l 0 → codeAny (model X.prog X.w) X.A.in1 (.builtin "list.extend.loop" ⟨[.ref q, .ref it, .none], []⟩) (wants (fun r s₂ => r = .none ∧ EP X pins σ Q (.ref q) s₂) X.xe) s4 := fun s4 I5 st5 =>
    tup_loop (A1 := X.A.in1) hd ItX.dropH_same hit (sqT_dropL q2 q1) (fun s5 I6 => ⟨rfl, .ref q, _, I6, rfl, by rw [upd_drop q1]; exact q3⟩) zs.length 0 s4 rfl (Nat.zero_le _) I5 st5 ⟨by rw [upd_ne hit, ItX.dropH_ne hit]; exact fp4.1, fp4.2⟩
  have e0 : upd (ItX.dropH H2 q) q (.lst (zs.take 0)) = H2 := by rw [upd_drop q1, List.take_zero]; exact upd_own q1
  rw [e0] at loop
  have I4 : L2.Inv X pins σ H2 { s3 with toks := t } := I4.kept (t' := t) (fun b o e => e)
  refine wpAny_ite_split (fun _ => ?_) (fun _ => wpAny_pure ⟨plainId_quiet PySem.F.plain_extend_loop _, loop _ I4 st4⟩)
  refine wpAny_bind (wpAny_rule ?_)
  refine wpAny_bind ?_
  show wpAny _ _ (updateSeq q (·.push .none) >>= fun _ => updateSeq q (·.pop)) _ _ _
  obtain ⟨z, its, k', r3, hl3, e3⟩ := I4.lstM q1
  cases r3
  refine wpAny_bind (wpAny_updateSeq e3 rfl ?_)
  have I5 := I4.lset (f := (·.push Value.none)) (its' := [Value.none]) (ys := [.non]) (t' := t) q1 e3 (by simp) (.cons rfl .nil) (by rw [List.length_singleton, sizeLine_eq]; decide)
  obtain ⟨z4, its4, k4, r4, hl4, e4⟩ := I5.lstM upd_same
  obtain ⟨u4, rfl, ru4⟩ := r4.one
  refine wpAny_updateSeq e4 rfl ?_ (by show 1 ≤ sizeLine; rw [sizeLine_eq]; decide) (by show 0 ≤ sizeLine + 1; exact Nat.zero_le _)
  have I6 := I5.lset (f := (·.pop)) (its := [u4]) (its' := []) (ys := []) (t' := t) upd_same e4 (by rfl) .nil (Nat.zero_le _)
  rw [upd_upd, upd_own q1] at I6
  refine wpAny_pure ⟨plainId_quiet PySem.F.plain_extend_loop _, loop _ I6 ?_⟩
  obtain ⟨o2, ho2, hc2⟩ := st4
  exact ⟨o2, (Heap.get?_update_other _ _ (Ne.symm hit)).trans ((Heap.get?_update_other _ _ (Ne.symm hit)).trans ho2), hc2⟩
end
end Ue

set_option linter.all false
set_option Elab.async false
set_option maxRecDepth 100000
set_option maxHeartbeats 4000000
/-! len(o), o[e], for .. in o, list(o) as combinators -/
namespace Ue
open PySem PySem.Spec PyProof.Rows L2
def lenO (c : Nat) (F : FM) (m : M) : M := fun env => (m env).bind fun d e => match d with
  | .obj c1 fs => if c1 = c then (callS F [] [.d (.obj c1 fs)] e).bind fun v e' => (match v with | .int n => if 0 ≤ n ∧ n < 2 ^ 63 then .ok (.int n) e' else .stk | _ => .stk) else .stk
  | _ => .stk
def getO (c : Nat) (F : FM) (ma mb : M) : M := fun env => (ma env).bind fun x e1 => (mb e1).bind fun y e2 => match x with
  | .obj c1 fs => if c1 = c then callS F [] [.d (.obj c1 fs), .d y] e2 else .stk
  | _ => .stk
def asO (c j : Nat) (m : M) : MI := fun env => (m env).bind fun d e => match d with
  | .obj c1 fs => if c1 = c then (match fs[j]? with | some (.tup ds) => .ok ds e | _ => .stk) else .stk
  | _ => .stk
def lstO (c j : Nat) (F : FM) (m : M) : M := fun env => (m env).bind fun d e => match d with
  | .obj c1 fs => if c1 = c then (match fs[j]?, callS F [] [.d (.obj c1 fs)] e with
    | some (.tup ys), .ok (.int n) e' => if 0 ≤ n ∧ n.toNat ≤ sizeLine then .ok (.lst ys) e' else .stk
    | _, _ => .stk) else .stk
  | _ => .stk
section
variable {T : Tab} {W : WX} {env env' : Env} {σ : L2.St} {P H H' P' : Hp} {X : Cx} {F : FM} {k n c j : Nat} {m ma mb : M} {a b e : Expr} {pos : Pos} {f fi : Addr} {fd fdi : FuncData} {ps psi : List Str} {fl : Str}
theorem args1 {Q : List D → Env → Hp → Hp → Prop} (h1 : ∀ d env1, m env = .ok d env1 → After T W σ env P H (.ok [d] env1) Q) (h2 : ∀ c fs env1, m env = .exc c fs env1 → After T W σ env P H (.exc c fs env1) Q) (h3 : m env = .stk → After T W σ env P H (.stk : R (List D)) Q) : After T W σ env P H (argsM [m] env) Q := by
  cases e1 : m env with
  | ok d env1 =>
    have e0 : argsM [m] env = .ok [d] env1 := by show (m env).bind _ = _; rw [e1]; rfl
    rw [e0]; exact h1 d env1 e1
  | exc c fs env1 =>
    have e0 : argsM [m] env = .exc c fs env1 := by show (m env).bind _ = _; rw [e1]; rfl
    rw [e0]; exact h2 c fs env1 e1
  | stk =>
    have e0 : argsM [m] env = .stk := by show (m env).bind _ = _; rw [e1]; rfl
    rw [e0]; exact h3 e1
theorem obj_rep {fs : List D} {x : V} (h : Rep T P (.obj c fs) x) : ∃ a dx vs, x = .ref a ∧ P a = some (.ins (T.clsA c) dx ((T.clsF c).zip vs)) ∧ Reps T P fs vs := by
  rw [Rep] at h
  obtain ⟨a, dx, vs, rfl, q1, q2, q3⟩ := h
  exact ⟨a, dx, vs, rfl, q1, q3⟩
theorem rd_lenO {Q : VK} (h : rdE T W .pure (lenO c F m) σ H Q) : tLenOwn (T.clsA c) (spF T .pure 1 F) (fun σ cls d H => W cls d σ H) (rdA T W [.pure] [m]) σ H Q := by
  obtain ⟨env, P, RR, h⟩ := h
  refine ⟨env, P, RR, ?_⟩
  have h := h.bind
  refine args1 (fun d env1 e1 => ?_) (fun c fs env1 e1 => ?_) (fun e1 => ?_)
  · intro P1 H1 R1 F1 xs kxs
    rw [e1] at h
    have h1 := h P1 H1 R1 F1
    have rs := kxs.pures (pures_cons pures_nil)
    obtain ⟨c1, fs, rfl⟩ : ∃ c1 fs, d = .obj c1 fs := by
      cases d with
      | obj c1 fs => exact ⟨c1, fs, rfl⟩
      | _ => exact h1.elim
    simp only at h1
    by_cases hc : c1 = c
    · rw [if_pos hc] at h1
      subst hc
      rw [Reps] at rs
      obtain ⟨x, r, rfl, h2, h3⟩ := rs
      rw [Reps] at h3; subst h3
      have kx := h2
      obtain ⟨p, dx, vs, rfl, q1, q3⟩ := obj_rep h2
      refine ⟨p, dx, _, rfl, R1.sub _ _ q1, ?_⟩
      have k2 : SReps T σ P1 [.d (.obj c1 fs)] [.ref p] := .d kx .nil
      refine callS_sp (T := T) (W := W) (kr := .pure) (n := 1) (dfl := []) (dvs := []) (xs := [.ref p]) (H0 := H) (.inl rfl) (fun _ => Reps.nil) rfl R1 k2 (fun _ _ => trivial) (After.mono h1.bind fun d env2 P2 H2 R2 F2 h4 v kv nv => ?_)
      cases d with
      | int n =>
        simp only at h4
        by_cases hn : 0 ≤ n ∧ n < 2 ^ 63
        · rw [if_pos hn] at h4
          have kv : Rep T P2 (.int n) v := kv
          have ev := kv
          rw [Rep] at ev
          exact ⟨n, ev, hn.1, hn.2, h4.here R2 (Fr.refl _ _ _ _) v kv trivial⟩
        · rw [if_neg hn] at h4; exact h4.elim
      | _ => exact h4.elim
    · rw [if_neg hc] at h1; exact h1.elim
  · rw [e1] at h; exact h
  · rw [e1] at h; exact h.elim
theorem de_lenO {p : Pos} (M : Meth X.K (T.clsA c) "__len__" f) (G : FnG X.prog X.w X.K X.mg X.base (L2.CX X.prog X.w) k f fd ps (spF T .pure 1 F)) (gd : X.A.guards = some []) (hr : Room (k + 1) X.A) (hb : Binds X.K fd ps []) (tk : Takes X W) (hg : Gl X "len") (hm : X.mg "len" = none) (h : DE T W X e .pure m)
    (hst : starEach [e] X.env = (false, eval e X.env) :: starEach [] X.env := by rfl) : DE T W X (.Call (.Name "len" p) [e] [] pos) .pure (lenO c F m) :=
  pe_imp (pe_lenOwn (x := "len") (E := fun σ cls d H => W cls d σ H) M G gd hr hb (fun σ => passAt tk σ) hg hm (da_cons (ks := []) (ms := []) h da_nil trivial hst) hst) fun _ _ _ h => rd_lenO h
theorem rd_getO {Q : VK} (h : rdE T W .pure (getO c F ma mb) σ H Q) : tGetOwn (T.clsA c) (spF T .pure 2 F) (fun σ cls d H => W cls d σ H) (rdE T W .pure ma) (rdE T W .pure mb) σ H Q := by
  obtain ⟨env, P, RR, h⟩ := h
  refine ⟨env, P, RR, After.at h.bind fun d1 env1 P1 H1 _ R1 F1 h1 x kx nx => ?_⟩
  refine ⟨env1, P1, R1, After.at h1.bind fun d2 env2 P2 H2 e2 R2 F2 h2 y ky ny => ?_⟩
  have kx' : Rep T P2 d1 x := Rep.sub F2.mono _ _ kx
  have ky : Rep T P2 d2 y := ky
  cases d1 with
  | obj c1 fs =>
    simp only at h2
    by_cases hc : c1 = c
    · rw [if_pos hc] at h2
      subst hc
      have kx2 := kx'
      obtain ⟨p, dx, vs, rfl, q1, q3⟩ := obj_rep kx'
      refine ⟨p, dx, _, rfl, R2.sub _ _ q1, ?_⟩
      have k2 : SReps T σ P2 [.d (.obj c1 fs), .d d2] [.ref p, y] := .d kx2 (.d ky .nil)
      exact callS_sp (T := T) (W := W) (kr := .pure) (n := 2) (dfl := []) (dvs := []) (xs := [.ref p, y]) (H0 := H) (.inl rfl) (fun _ => Reps.nil) rfl R2 k2 (fun _ _ => trivial) h2
    · rw [if_neg hc] at h2; exact h2.elim
  | _ => exact h2.elim
theorem de_getO (M : Meth X.K (T.clsA c) "__getitem__" f) (hfn : PySem.W.fnIn X.K f = true) (G : FnG X.prog X.w X.K X.mg X.base (L2.CX X.prog X.w) k f fd ps (spF T .pure 2 F)) (gd : X.A.guards = some []) (hr : Room (k + 1) X.A) (hb : Binds X.K fd ps []) (tk : Takes X W) (ha : DE T W X a .pure ma) (hb' : DE T W X b .pure mb)
    (hsl : ∀ o i, subscripted b true (.ref o) i = runValue (.builtin "lifetime.subscript" ⟨[.ref o, i], []⟩)) : DE T W X (.Subscript a b pos) .pure (getO c F ma mb) :=
  pe_imp (pe_getOwn (E := fun σ cls d H => W cls d σ H) M hfn G gd hr hb (fun σ => passAt tk σ) ha hb' hsl) fun _ _ _ h => rd_getO h
theorem di_ownIt {tg : Expr} (hK : X.K = T.K) (hj : (T.clsF c)[j]? = some fl) (hn : ((T.clsF c).take j).contains fl = false) (M : Meth X.K (T.clsA c) "__iter__" f) (G : FnS X.prog X.w X.K X.mg X.base (L2.CX X.prog X.w) k f fd ps (spIt X.K (T.clsA c) fl)) (gd : X.A.guards = some []) (hr : Room k X.A) (hb : Binds X.K fd ps []) (h : DE T W X e .pure m) :
    DI T W X tg e (asO c j m) := pi_imp (pi_ownIt (E := fun _ => noE) M G gd hr hb (fun _ => passes_no) h) fun σ H Q h => by
  obtain ⟨env, P, RR, h⟩ := h
  refine ⟨env, P, RR, After.mono h.bind fun d env1 P1 H1 R1 F1 h1 x kx nx => ?_⟩
  cases d with
  | obj c1 fs =>
    simp only at h1
    by_cases hc : c1 = c
    · rw [if_pos hc] at h1
      subst hc
      obtain ⟨p, dx, vs, rfl, q1, q3⟩ := obj_rep (show Rep T P1 (.obj c1 fs) x from kx)
      cases e1 : fs[j]? with
      | none => rw [e1] at h1; exact h1.elim
      | some y =>
        rw [e1] at h1
        obtain ⟨v, hv, rv⟩ := q3.get e1
        cases y with
        | tup ds =>
          rw [Rep] at rv
          obtain ⟨l, zs, rfl, z1, z2⟩ := rv
          refine ⟨p, dx, _, l, zs, rfl, R1.sub _ _ q1, zip_look hj hn hv, ?_, h1.here R1 (Fr.refl _ _ _ _) _ (yl_tup hK z1 z2)⟩
          rw [hK]; exact sqT_sub R1.sub z1
        | _ => exact h1.elim
    · rw [if_neg hc] at h1; exact h1.elim
  | _ => exact h1.elim
theorem Rel.updN {q : Addr} {u : HO} (R : Rel T env σ P H) (hq : H q ≠ none) (hp : P q = none) (no : ¬ Own env σ q) : Rel T env σ P (upd H q u) := by
  refine ⟨fun b u e => ?_, fun i e h => ?_, R.dis, R.len⟩
  · have hb : b ≠ q := fun z => by rw [z, hp] at e; cases e
    rw [upd_ne hb]; exact R.sub b u e
  · obtain ⟨v, hv, r⟩ := R.ent i e h
    refine ⟨v, hv, r.grow (PSub.refl _) fun b u h1 h2 h3 h4 => ?_⟩
    have hb : b ≠ q := fun z => by subst z; exact no ⟨i, e, h, h3, by rw [hv, h4]⟩
    rw [upd_ne hb]; exact ⟨h1, h2⟩
theorem cd_lstO {Q : VK} (hK : X.K = T.K) (hj : (T.clsF c)[j]? = some fl) (hn : ((T.clsF c).take j).contains fl = false) (h : rdE T W .fresh (lstO c j F m) σ H Q) : tCB (rLstIt X.K (T.clsA c) fl (spF T .pure 1 F)) (rdA T W [.pure] [m]) σ H Q := by
  obtain ⟨env, P, RR, h⟩ := h
  refine ⟨env, P, RR, ?_⟩
  have h := h.bind
  refine args1 (fun d env1 e1 => ?_) (fun c fs env1 e1 => ?_) (fun e1 => ?_)
  · intro P1 H1 R1 F1 xs kxs
    rw [e1] at h
    have h1 := h P1 H1 R1 F1
    have rs := kxs.pures (pures_cons pures_nil)
    obtain ⟨c1, fs, rfl⟩ : ∃ c1 fs, d = .obj c1 fs := by
      cases d with
      | obj c1 fs => exact ⟨c1, fs, rfl⟩
      | _ => exact h1.elim
    simp only at h1
    by_cases hc : c1 = c
    · rw [if_pos hc] at h1
      subst hc
      rw [Reps] at rs
      obtain ⟨x, r, rfl, h2, h3⟩ := rs
      rw [Reps] at h3; subst h3
      have kx := h2
      obtain ⟨p, dx, vs, rfl, q1, q3⟩ := obj_rep h2
      cases e1 : fs[j]? with
      | none => rw [e1] at h1; exact h1.elim
      | some y =>
        rw [e1] at h1
        obtain ⟨v, hv, rv⟩ := q3.get e1
        cases y with
        | tup ys =>
          have rv0 := rv
          rw [Rep] at rv
          obtain ⟨l, zs, rfl, z1, z2⟩ := rv
          refine ⟨p, dx, _, l, zs, rfl, R1.sub _ _ q1, zip_look hj hn hv, by rw [hK]; exact sqT_sub R1.sub z1, fun q hq => ?_⟩
          obtain ⟨R2, F2, no, pn⟩ := R1.newF (o := .lst []) hq
          have k2 : SReps T σ P1 [.d (.obj c1 fs)] [.ref p] := .d kx .nil
          cases e2 : callS F [] [.d (.obj c1 fs)] env1 with
          | ok w env2 =>
            rw [e2] at h1
            cases w with
            | int n =>
              simp only at h1
              by_cases hz : 0 ≤ n ∧ n.toNat ≤ sizeLine
              · rw [if_pos hz] at h1
                have sp := callS_sp (T := T) (W := fun _ _ _ _ => False) (kr := .pure) (n := 1) (F := F) (dfl := []) (dvs := []) (xs := [.ref p]) (ss := [.d (.obj c1 fs)]) (H0 := H1) (Q := fun v H2 => ∃ n : Int, v = .int n ∧ 0 ≤ n ∧ n.toNat ≤ sizeLine ∧ H2 q = some (.lst []) ∧ SqT X.K H2 l zs ∧ Q (.ref q) (upd H2 q (.lst zs))) (.inl rfl) (fun _ => Reps.nil) rfl R2 k2 (fun _ _ => trivial) (by
                  rw [e2]
                  intro P3 H3 R3 F3 x kx3 _
                  have kx3 : Rep T P3 (.int n) x := kx3
                  rw [Rep] at kx3
                  have hq3 : H3 q = some (.lst []) := F3.keep q _ upd_same no
                  have no3 : ¬ Own env2 σ q := F3.own q (by rw [upd_same]; exact fun z => nomatch z) no
                  have pq3 : P3 q = none := by
                    cases cq : P3 q with
                    | none => rfl
                    | some o =>
                      rcases F3.new q (by rw [cq]; exact fun z => nomatch z) with z | z | z
                      · exact absurd pn z
                      · rw [upd_same] at z; cases z
                      · exact absurd z no
                  refine ⟨n, kx3, hz.1, hz.2, hq3, by rw [hK]; exact sqT_sub (fun b u e => R3.sub b u (F3.mono b u e)) z1, ?_⟩
                  have R4 : Rel T env2 σ P3 (upd H3 q (.lst zs)) := R3.updN (by rw [hq3]; exact fun z => nomatch z) pq3 no3
                  have F23 := F2.trans F3
                  refine h1 P3 _ R4 ⟨fun b o hb n => ?_, F23.own, F23.mono, F23.new, fun b hb => ?_⟩ (.ref q) ⟨q, zs, ys, rfl, upd_same, pq3, no3, Reps.sub F3.mono _ _ z2, rfl⟩ ⟨q, rfl, ?_⟩
                  · have hbq : b ≠ q := fun z => by rw [z, hq] at hb; cases hb
                    rw [upd_ne hbq]; exact F23.keep b o hb n
                  · by_cases hbq : b = q
                    · rw [hbq, upd_same]; exact fun z => nomatch z
                    · rw [upd_ne hbq]; exact F23.there b hb
                  · cases cq : H q with
                    | none => rfl
                    | some o => exact absurd hq (F1.there q (by rw [cq]; exact fun z => nomatch z)))
                exact sp
              · rw [if_neg hz] at h1; exact h1.elim
            | _ => exact h1.elim
          | _ => rw [e2] at h1; exact h1.elim
        | _ => exact h1.elim
    · rw [if_neg hc] at h1; exact h1.elim
  · rw [e1] at h; exact h
  · rw [e1] at h; exact h.elim
theorem de_lstO {p : Pos} (hK : X.K = T.K) (hc : X.calm = true) (hj : (T.clsF c)[j]? = some fl) (hn : ((T.clsF c).take j).contains fl = false) (M : Meth X.K (T.clsA c) "__iter__" fi) (FI : FnS X.prog X.w X.K X.mg X.base (L2.CX X.prog X.w) k fi fdi psi (spIt X.K (T.clsA c) fl)) (bI : Binds X.K fdi psi []) (ML : Meth X.K (T.clsA c) "__len__" f)
    (G : FnG X.prog X.w X.K X.mg X.base (L2.CX X.prog X.w) k f fd ps (spF T .pure 1 F)) (bL : Binds X.K fd ps []) (gd : X.A.guards = some []) (hr : Room (k + 3) X.A) (hg : Gl X "list") (hm : X.mg "list" = none) (h : DE T W X e .pure m) (hst : starEach [e] X.env = (false, eval e X.env) :: starEach [] X.env := by rfl) (hpl : (backTo pos (starEach [] X.env)).any (·.1) = false := by rfl) :
    DE T W X (.Call (.Name "list" p) [e] [] pos) .fresh (lstO c j F m) :=
  pe_imp (pe_callTy (call_listIt hc M FI bI ML G bL gd hr) hg hm (by decide +kernel) (da_cons (ks := []) (ms := []) h da_nil trivial hst) (by decide) (by decide) hst hpl) fun _ _ _ h => cd_lstO hK hj hn h
end
end Ue

set_option linter.all false
set_option Elab.async false
set_option maxRecDepth 100000
set_option maxHeartbeats 4000000
/-! isinstance(e, C), e the caught error with its fields -/
namespace Ue
open PySem PySem.Spec PyProof.Rows L2
/-- isinstance(e, c), e the exception that the suite holds, d its dict -/
def rIsX (K : PySem.W.Frag) (a : Addr) (cls : Value) (d : Option Addr) : List V → Hp → VK → Prop := fun xs H Q => ∃ (c : V) (cv : Value) (D : Addr) (b : Bool), xs = [.ref a, c] ∧ (∀ u, RelV c u → u = cv) ∧ cls = .ref D ∧ (d = none ∨ ∃ dx xfs, d = some dx ∧ H dx = some (.xd xfs)) ∧ L2.ExcC K D ∧ PySem.W.kitOne K (.ref D) cv = some b ∧ Q (.bl b) H
theorem call_isX {X : Cx} {a : Addr} {oe : Obj} {cls : Value} {d : Option Addr} {pn : List (Addr × Obj)} (hz : Zc cls d oe) (hf : ∃ vs, oe.data = .fields vs) : CallR (X.suite a ((a, oe) :: pn)) (.builtin "isinstance") (rIsX X.K a cls d)
  | pins, s, σ, H, xs, us, Q, I, r, h => by
    obtain ⟨c, cv, D, b, rfl, hcv, rfl, hd, C, e, q⟩ := h
    obtain ⟨u, t, rfl, rx, rt⟩ : ∃ u t, us = [u, t] ∧ RelV (.ref a) u ∧ RelV c t := by
      cases r with | cons p r => cases r with | cons p2 r => cases r; exact ⟨_, _, rfl, p, p2⟩
    cases rx
    obtain rfl := hcv _ rt
    have there := (I.pin (a, oe) (List.mem_append.mpr (.inl List.mem_cons_self))).1
    obtain ⟨vs, hv⟩ := hf
    have nc : PySem.W.notCls oe = true := by unfold PySem.W.notCls; rw [hv] <;> rfl
    obtain ⟨od, J⟩ : ∃ od, PySem.W.InstAt s.heap a oe D od := by
      rcases hd with rfl | ⟨dx, xfs, rfl, hx⟩
      · exact ⟨none, there, hz.1, nc, by rw [hz.2]; trivial⟩
      · obtain ⟨mA, hns, _⟩ := (I.hok dx _ hx : ObjOk X.prog X.w H s.heap dx (.xd xfs))
        obtain ⟨od, ho, _⟩ := lookIn_ns hns
        exact ⟨some od, there, hz.1, nc, by rw [hz.2]; exact ho⟩
    have cl : (PySem.W.clsIn X.K D).isSome = true := by
      obtain ⟨_, h1, _⟩ := PySem.W.any_some C.hd
      rw [h1]; rfl
    exact PySem.W.kia_one (PySem.W.kitx_exc cl C.hg C.hk C.hs C.ha C.hn C.ht C.hm) I.kIn J e (fun z => nomatch z) fun tk => ⟨.bl b, H, I.kept (t' := tk) fun _ _ z => z, rfl, q⟩
def isXM (i : Nat) (tab : List (Nat × Bool)) : M := fun env => match env[i]? with
  | some (some (.ex c _)) => (match tab.lookup c with | some b => .ok (.bl b) env | none => .stk)
  | _ => .stk
/-- what the classes of caught errors must say for isinstance(e, C) -/
def XTab (T : Tab) (cv : Value) (tab : List (Nat × Bool)) : Prop := ∀ c b, tab.lookup c = some b → L2.ExcC T.K (T.excA c) ∧ PySem.W.kitOne T.K (.ref (T.excA c)) cv = some b
section
variable {T : Tab} {W : WX} {X : Cx} {i : Nat} {tab : List (Nat × Bool)} {e ce : Expr} {v : V} {cv : Value} {p pos : Pos}
theorem de_isX {a : Addr} {oe : Obj} {cls : Value} {d : Option Addr} {pn : List (Addr × Obj)} (hK : X.K = T.K) (hT : T.cur = some (a, d, cls)) (hz : Zc cls d oe) (hf : ∃ vs, oe.data = .fields vs) (hI : XTab T cv tab) (hcv : ∀ u, RelV v u → u = cv)
    (hg : Gl (X.suite a ((a, oe) :: pn)) "isinstance") (hm : (X.suite a ((a, oe) :: pn)).mg "isinstance" = none) (h : PE (X.suite a ((a, oe) :: pn)) e (tVar i)) (hc : PE (X.suite a ((a, oe) :: pn)) ce (tC v))
    (he : starEach [e, ce] X.env = (false, eval e X.env) :: starEach [ce] X.env := by rfl) (h2 : starEach [ce] X.env = (false, eval ce X.env) :: starEach [] X.env := by rfl) (hpl : (backTo pos (starEach [ce] X.env)).any (·.1) = false := by rfl) :
    DE T W (X.suite a ((a, oe) :: pn)) (.Call (.Name "isinstance" p) [e, ce] [] pos) .pure (isXM i tab) :=
  pe_imp (pe_callB (call_isX hz hf) hg hm (by decide +kernel) (pa_cons h (pa_cons hc pa_nil h2) he) (by decide) (by decide) he hpl) fun σ H Q h => by
    obtain ⟨env, P, RR, h⟩ := h
    unfold isXM at h
    cases e0 : env[i]? with
    | none => rw [e0] at h; exact h.elim
    | some o =>
      cases o with
      | none => rw [e0] at h; exact h.elim
      | some w =>
        cases w with
        | ex c fs =>
          rw [e0] at h
          simp only at h
          cases e1 : tab.lookup c with
          | none => rw [e1] at h; exact h.elim
          | some b =>
            rw [e1] at h
            obtain ⟨u, hu, r⟩ := RR.ent i _ e0
            obtain ⟨rfl, r2, r3⟩ := r a d cls hT
            obtain ⟨q1, q2⟩ := hI c b e1
            have dd : d = none ∨ ∃ dx xfs, d = some dx ∧ H dx = some (.xd xfs) := by
              rcases r3 with ⟨_, r3⟩ | ⟨dx, xfs, vs, w1, w2, _⟩
              · exact .inl r3
              · exact .inr ⟨dx, xfs, w1, RR.sub _ _ w2⟩
            exact ⟨_, hu, v, cv, _, b, rfl, hcv, r2, dd, by rw [hK]; exact q1, by rw [hK]; exact q2, h.here RR (Fr.refl _ _ _ _) _ (show Rep T P (.bl b) (.bl b) from rep_bl) trivial⟩
        | _ => rw [e0] at h; exact h.elim
@[simp] theorem isXM_s {env : Env} : isXM i tab env = match env[i]? with
  | some (some (.ex c _)) => (match tab.lookup c with | some b => .ok (.bl b) env | none => .stk)
  | _ => .stk := (rfl)
end
section
variable {c j : Nat} {F : FM} {m ma mb : M} {env : Env}
@[simp] theorem lenO_s : lenO c F m env = (m env).bind fun d e => match d with
  | .obj c1 fs => if c1 = c then (callS F [] [.d (.obj c1 fs)] e).bind fun v e' => (match v with | .int n => if 0 ≤ n ∧ n < 2 ^ 63 then .ok (.int n) e' else .stk | _ => .stk) else .stk
  | _ => .stk := (rfl)
@[simp] theorem getO_s : getO c F ma mb env = (ma env).bind fun x e1 => (mb e1).bind fun y e2 => match x with
  | .obj c1 fs => if c1 = c then callS F [] [.d (.obj c1 fs), .d y] e2 else .stk
  | _ => .stk := (rfl)
@[simp] theorem asO_s : asO c j m env = (m env).bind fun d e => match d with
  | .obj c1 fs => if c1 = c then (match fs[j]? with | some (.tup ds) => .ok ds e | _ => .stk) else .stk
  | _ => .stk := (rfl)
@[simp] theorem lstO_s : lstO c j F m env = (m env).bind fun d e => match d with
  | .obj c1 fs => if c1 = c then (match fs[j]?, callS F [] [.d (.obj c1 fs)] e with
    | some (.tup ys), .ok (.int n) e' => if 0 ≤ n ∧ n.toNat ≤ sizeLine then .ok (.lst ys) e' else .stk
    | _, _ => .stk) else .stk
  | _ => .stk := (rfl)
end
end Ue

set_option linter.all false
set_option Elab.async false
set_option maxRecDepth 100000
set_option maxHeartbeats 4000000
/-! an own list lent to a call that keeps nothing of it; tables for isinstance(e, C) -/
namespace Ue
open PySem PySem.Spec PyProof.Rows L2
mutual
def noL : D → Bool
  | .lst _ => false
  | .scr _ => false
  | .tup ds => noLs ds
  | .obj _ ds => noLs ds
  | .non => true
  | .bl _ => true
  | .int _ => true
  | .str _ => true
def noLs : List D → Bool
  | [] => true
  | d :: ds => noL d && noLs ds
end
section
variable {T : Tab} {P : Hp} {a : Addr} {ws : List V}
theorem drop_ne {b : Addr} {u : HO} (ha : P a = some (.lst ws)) (h : P b = some u) (n : ∀ zs, u ≠ .lst zs) : ItX.dropH P a b = some u := by
  have hb : b ≠ a := fun z => by
    subst z; rw [ha] at h; exact n _ (Option.some.inj h).symm
  rw [ItX.dropH_ne hb]; exact h
mutual
theorem Rep.dropL (ha : P a = some (.lst ws)) : ∀ (d : D) (v : V), noL d = true → Rep T P d v → Rep T (ItX.dropH P a) d v
  | .non, _, _, h => h
  | .bl _, _, _, h => h
  | .int _, _, _, h => h
  | .str _, _, _, h => h
  | .tup ds, _, n, h => by
    rw [Rep] at h ⊢
    rw [noL] at n
    obtain ⟨b, vs, e, h1, h2⟩ := h
    refine ⟨b, vs, e, ?_, Reps.dropL ha ds vs n h2⟩
    rcases h1 with h1 | h1
    · refine .inl ?_
      rcases h1 with h1 | ⟨o, h1⟩
      · exact .inl (drop_ne ha h1 fun _ z => nomatch z)
      · exact .inr ⟨o, drop_ne ha h1 fun _ z => nomatch z⟩
    · exact .inr h1
  | .lst ds, _, n, h => by rw [noL] at n; cases n
  | .scr ns, _, n, h => by rw [noL] at n; cases n
  | .obj c ds, _, n, h => by
    rw [Rep] at h ⊢
    rw [noL] at n
    obtain ⟨b, dx, vs, e, h1, hl, h2⟩ := h
    exact ⟨b, dx, vs, e, drop_ne ha h1 (fun _ z => nomatch z), hl, Reps.dropL ha ds vs n h2⟩
theorem Reps.dropL (ha : P a = some (.lst ws)) : ∀ (ds : List D) (vs : List V), noLs ds = true → Reps T P ds vs → Reps T (ItX.dropH P a) ds vs
  | [], _, _, h => h
  | d :: ds, _, n, h => by
    rw [Reps] at h ⊢
    rw [noLs, Bool.and_eq_true] at n
    obtain ⟨v, r, e, h1, h2⟩ := h
    exact ⟨v, r, e, Rep.dropL ha d v n.1 h1, Reps.dropL ha ds r n.2 h2⟩
end
end
/-- what an own thing holds keeps no list -/
def ownL : Option EV → Bool
  | some (.own ds) => noLs ds
  | some (.new _ fs) => noLs fs
  | _ => true
/-- an expression that changes no slot -/
def Still (m : M) : Prop := ∀ env, (∀ d e, m env = .ok d e → e = env) ∧ ∀ c fs e, m env = .exc c fs e → e = env
def lendM (i : Nat) (m : M) : M := fun env => match env[i]? with
  | some (some (.own ds)) => if (env.set i none).all ownL then (match m (env.set i (some (.v (.lst ds)))) with
    | .ok d _ => if noL d then .ok d env else .stk
    | .exc c fs _ => if noLs fs then .exc c fs env else .stk
    | .stk => .stk) else .stk
  | _ => .stk
section
variable {T : Tab} {W : WX} {env : Env} {σ : L2.St} {P H H' P' : Hp} {X : Cx} {i : Nat} {m : M} {e : Expr} {ds : List D} {a : Addr} {vs : List V}
theorem Rel.unlend (R : Rel T env σ P H) (e0 : env[i]? = some (some (.own ds))) (hs : σ[i]? = some (some (V.ref a))) (hp : P a = none) (hr : Reps T P ds vs) (all : (env.set i none).all ownL = true)
    (R2 : Rel T (env.set i (some (.v (.lst ds)))) σ P' H') (hP : PSub P P') (ha : P' a = some (.lst vs)) : Rel T env σ (ItX.dropH P' a) H' := by
  have sub : PSub P (ItX.dropH P' a) := fun b o h => by
    have hb : b ≠ a := fun z => by rw [z, hp] at h; cases h
    rw [ItX.dropH_ne hb]; exact hP b o h
  refine ⟨fun b o h => ?_, fun j f h => ?_, R.dis, R.len⟩
  · by_cases hb : b = a
    · rw [hb, ItX.dropH_same] at h; cases h
    · rw [ItX.dropH_ne hb] at h; exact R2.sub b o h
  · by_cases hj : j = i
    · subst hj
      rw [e0] at h; cases h
      exact ⟨_, hs, a, vs, rfl, R2.sub _ _ ha, ItX.dropH_same, Reps.sub sub _ _ hr⟩
    · have h2 : (env.set i (some (.v (.lst ds))))[j]? = some (some f) := by rw [List.getElem?_set_ne (fun z => hj z.symm)]; exact h
      have h3 : (env.set i none)[j]? = some (some f) := by rw [List.getElem?_set_ne (fun z => hj z.symm)]; exact h
      have hn : ownL (some f) = true := List.all_eq_true.mp all _ (List.mem_of_getElem? h3)
      obtain ⟨v, hv, r⟩ := R2.ent j f h2
      obtain ⟨v0, hv0, r0⟩ := R.ent j f h
      rw [hv] at hv0; cases hv0
      refine ⟨v, hv, ?_⟩
      cases f with
      | v d => exact Rep.sub sub d v r0
      | own es =>
        obtain ⟨b, ws, q1, q2, q3, q4⟩ := r
        refine ⟨b, ws, q1, q2, ?_, Reps.dropL ha es ws hn q4⟩
        by_cases hb : b = a
        · rw [hb, ItX.dropH_same]
        · rw [ItX.dropH_ne hb]; exact q3
      | new c fs =>
        obtain ⟨b, dx, ws, q1, q2, q3, q4, q5⟩ := r
        refine ⟨b, dx, ws, q1, q2, ?_, q4, Reps.dropL ha fs ws hn q5⟩
        by_cases hb : b = a
        · rw [hb, ItX.dropH_same]
        · rw [ItX.dropH_ne hb]; exact q3
      | ex c fs =>
        intro b d cls hc
        obtain ⟨q1, q2, q3⟩ := r0 b d cls hc
        refine ⟨q1, q2, q3.imp_right fun ⟨dx, xfs, ws, z1, z2, z3, z4⟩ => ⟨dx, xfs, ws, z1, sub _ _ z2, z3, Reps.sub sub _ _ z4⟩⟩
theorem Fr.unlend (e0 : env[i]? = some (some (.own ds))) (hs : σ[i]? = some (some (V.ref a))) (hp : P a = none) (F : Fr env σ P H (env.set i (some (.v (.lst ds)))) σ P' H') : Fr env σ P H env σ (ItX.dropH P' a) H' := by
  refine ⟨F.keep, fun b _ n => n, fun b o h => ?_, fun b h => ?_, F.there⟩
  · have hb : b ≠ a := fun z => by rw [z, hp] at h; cases h
    rw [ItX.dropH_ne hb]; exact F.mono b o h
  · refine F.new b ?_
    by_cases hb : b = a
    · rw [hb, ItX.dropH_same] at h; exact absurd rfl h
    · rw [ItX.dropH_ne hb] at h; exact h
theorem de_lend (h : DE T W X e .pure m) (st : Still m) : DE T W X e .pure (lendM i m) := pe_imp h fun σ H Q h => by
  obtain ⟨env, P, R, h⟩ := h
  unfold lendM at h
  obtain ⟨ds, e0⟩ : ∃ ds, env[i]? = some (some (.own ds)) := by
    cases e : env[i]? with
    | none => rw [e] at h; exact h.elim
    | some o =>
      cases o with
      | none => rw [e] at h; exact h.elim
      | some v =>
        cases v with
        | own ds => exact ⟨ds, rfl⟩
        | _ => rw [e] at h; exact h.elim
  rw [e0] at h
  simp only at h
  by_cases all : (env.set i none).all ownL = true
  · rw [if_pos all] at h
    obtain ⟨u, hu, r⟩ := R.ent i _ e0
    obtain ⟨a, vs, rfl, h1, h2, h3⟩ := r
    obtain ⟨a', vs', P1, hu', hp1, hr1, R1, F1⟩ := R.freezeO e0
    rw [hu] at hu'; cases hu'
    have ev : vs' = vs := by
      have := R1.sub _ _ hp1
      rw [h1] at this; cases this; rfl
    subst ev
    refine ⟨env.set i (some (.v (.lst ds))), P1, R1, ?_⟩
    cases e1 : m (env.set i (some (.v (.lst ds)))) with
    | ok d env2 =>
      rw [e1] at h
      obtain rfl := (st _).1 d env2 e1
      intro P2 H2 R2 F2 x kx _
      have kx : Rep T P2 d x := kx
      simp only at h
      by_cases hd : noL d = true
      · rw [if_pos hd] at h
        have F := F1.trans F2
        have ha := F2.mono _ _ hp1
        exact h (ItX.dropH P2 a) H2 (R.unlend e0 hu h2 h3 all R2 F.mono ha) (Fr.unlend e0 hu h2 F) x (Rep.dropL ha d x hd kx) trivial
      · rw [if_neg hd] at h; exact h.elim
    | exc c fs env2 =>
      rw [e1] at h
      obtain rfl := (st _).2 c fs env2 e1
      intro P2 H2 cls dd R2 F2 q
      simp only at h
      by_cases hd : noLs fs = true
      · rw [if_pos hd] at h
        have F := F1.trans F2
        have ha := F2.mono _ _ hp1
        refine h (ItX.dropH P2 a) H2 cls dd (R.unlend e0 hu h2 h3 all R2 F.mono ha) (Fr.unlend e0 hu h2 F) ⟨q.1, q.2.imp_right fun ⟨dx, xfs, ws, z1, z2, z3, z4⟩ => ⟨dx, xfs, ws, z1, drop_ne ha z2 (fun _ z => nomatch z), z3, Reps.dropL ha fs ws hd z4⟩⟩
      · rw [if_neg hd] at h; exact h.elim
    | stk => rw [e1] at h; exact h.elim
  · rw [if_neg all] at h; exact h.elim
end
end Ue

set_option linter.all false
set_option Elab.async false
set_option maxRecDepth 100000
set_option maxHeartbeats 4000000
namespace Ue
open PySem PySem.Spec PyProof.Rows L2
theorem still_var {i : Nat} : Still (varM i) := fun env => by
  unfold varM
  constructor
  · intro d e h
    cases q : env[i]? with
    | none => rw [q] at h; cases h
    | some o =>
      cases o with
      | none => rw [q] at h; cases h
      | some v => cases v <;> rw [q] at h <;> cases h; rfl
  · intro c fs e h
    cases q : env[i]? with
    | none => rw [q] at h; cases h
    | some o =>
      cases o with
      | none => rw [q] at h; cases h
      | some v => cases v <;> rw [q] at h <;> cases h
theorem putA_d {d : D} {as : List EV} {e : Env} : putA [.d d] as e = e := by
  cases as with
  | nil => rfl
  | cons a as => cases as <;> rfl
theorem still_mk1 {c n : Nat} {F : FM} {m : M} {dfl : List D} (h : Still m) : Still (mkM c n F [.p m] dfl) := fun env => by
  have e0 : mkM c n F [.p m] dfl env = ((m env).bind fun d e1 => makeS c n F dfl [.d d] e1) := by
    show ((m env).bind fun d e1 => R.ok [AD.d d] e1).bind (fun ss e => makeS c n F dfl ss e) = _
    cases m env <;> rfl
  rw [e0]
  have key : ∀ d e1, m env = .ok d e1 → (∀ d' e, makeS c n F dfl [.d d] e1 = .ok d' e → e = e1) ∧ ∀ c' fs e, makeS c n F dfl [.d d] e1 = .exc c' fs e → e = e1 := fun d e1 _ => by
    have e2 : makeS c n F dfl [.d d] e1 = (match F (.new c [] :: ([EV.v d] ++ dfl.map EV.v)) with
      | .ok .non (.new c' fs :: as') => if c' = c ∧ fs.length = n then .ok (.obj c fs) e1 else .stk
      | .exc k fs (.new _ _ :: as') => .exc k fs e1
      | _ => .stk) := rfl
    rw [e2]
    generalize F (.new c [] :: ([EV.v d] ++ dfl.map EV.v)) = r
    constructor
    · intro d' e z
      split at z
      · split at z
        · cases z; rfl
        · cases z
      · cases z
      · cases z
    · intro c' fs e z
      split at z
      · split at z <;> cases z
      · cases z; rfl
      · cases z
  cases q : m env with
  | ok d e1 =>
    have := (h env).1 d e1 q
    subst this
    exact ⟨fun d' e z => (key d e1 q).1 d' e z, fun c' fs e z => (key d e1 q).2 c' fs e z⟩
  | exc c' fs e1 =>
    have := (h env).2 c' fs e1 q
    subst this
    exact ⟨fun d' e z => (by cases z), fun c'' fs' e z => (by cases z; rfl)⟩
  | stk => exact ⟨fun d' e z => (by cases z), fun c'' fs' e z => (by cases z)⟩
@[simp] theorem lendM_s {i : Nat} {m : M} {env : Env} : lendM i m env = match env[i]? with
  | some (some (.own ds)) => if (env.set i none).all ownL then (match m (env.set i (some (.v (.lst ds)))) with
    | .ok d _ => if noL d then .ok d env else .stk
    | .exc c fs _ => if noLs fs then .exc c fs env else .stk
    | .stk => .stk) else .stk
  | _ => .stk := (rfl)
theorem FnS.mono {P : Program} {w : World} {K : PySem.W.Frag} {mg : Str → Option Value} {base : Heap} {Z : CXT} {j k : Nat} {f : Addr} {fd : FuncData} {ps : List Str} {sp : Nat → Sp} (F : FnS P w K mg base Z j f fd ps sp) (h : j ≤ k) : FnS P w K mg base Z k f fd ps sp :=
  ⟨F.len, fun B o t H ar us vs Q E g r => F.go B o t H ar us vs Q E g (r.mono h)⟩
/-! ### tables for isinstance(e, C) -/
def eqOO (a b : Option (Option Value)) : Bool := decide (a = b)
def excCB (K : PySem.W.Frag) (D : Addr) : Bool :=
  decide (PySem.W.findIn K (.ref D) "__getattribute__" = some (some (.builtin "BaseException.__getattribute__"))) && (decide (PySem.W.findIn K (.ref D) "__getattr__" = some none) && (decide (PySem.W.subIn K (.ref D) (.type "BaseException") = some true) && (PySem.W.hasDictIn K D &&
  (decide (PySem.W.findIn K (.ref D) "__class__" = some (some (.builtin "object.__class__"))) && (decide (PySem.W.specialIn K (.builtin "object.__class__") "__get__" = some (some (.builtin "getset_descriptor.__get__"))) && (decide (PySem.W.takesIn K (.builtin "object.__class__") = some true) && decide (PySem.W.mroIn K D (.type "object") = some true)))))))
theorem excCB_ok {K : PySem.W.Frag} {D : Addr} (h : excCB K D = true) : L2.ExcC K D := by
  unfold excCB at h
  simp only [Bool.and_eq_true, decide_eq_true_eq] at h
  obtain ⟨h1, h2, h3, h4, h5, h6, h7, h8⟩ := h
  exact ⟨h1, h2, h3, h4, h5, h6, h7, h8⟩
def xtB (K : PySem.W.Frag) (eA : Nat → Addr) (cv : Value) (tab : List (Nat × Bool)) : Bool := tab.all fun p => excCB K (eA p.1) && decide (PySem.W.kitOne K (.ref (eA p.1)) cv = some p.2)
theorem xtB_ok {T : Tab} {cv : Value} {tab : List (Nat × Bool)} (h : xtB T.K T.excA cv tab = true) : XTab T cv tab := fun c b e => by
  have : (c, b) ∈ tab := by
    clear h
    induction tab with
    | nil => simp at e
    | cons p tab ih =>
      obtain ⟨k, v⟩ := p
      rw [List.lookup_cons] at e
      by_cases hk : c == k
      · rw [hk] at e
        have : c = k := by simpa using hk
        subst this; cases e; exact List.mem_cons_self
      · simp only [hk] at e
        exact List.mem_cons_of_mem _ (ih e)
  have := List.all_eq_true.mp h _ this
  simp only [Bool.and_eq_true, decide_eq_true_eq] at this
  exact ⟨excCB_ok this.1, this.2⟩
end Ue

set_option linter.all false
set_option Elab.async false
set_option maxRecDepth 100000
set_option maxHeartbeats 4000000
/-! min, max of a list or a tuple of ints -/
namespace PySem
section
variable {prog : Program} {w : World} {A : Around} {E : Value → Shared → Prop} {s : Shared} {l : Addr} {xs : Array (Int × Tok)}
theorem ue_iterT {Q : Value → Shared → Prop} (hl : s.heap.IsTuple l (intItems xs))
    (h : ∀ s₂ : Shared, s₂ = { s with heap := s.heap.push { cls := .type "tuple_iterator", data := .fields #[.ref l, .int 0 0] } } →
      (s₂.heap.IsTupleIter s.heap.objs.size l 0 ∧ s₂.heap.IsTuple l (intItems xs)) → (∀ b ∈ [s.heap.objs.size, l], b < s₂.heap.objs.size) → l ≠ s.heap.objs.size → Q (.ref s.heap.objs.size) s₂) :
    wpAny (model prog w) A (pyIter (.ref l)) Q E s := by
  have hlt : l < s.heap.objs.size := by obtain ⟨_, e, _⟩ := hl; exact Heap.lt_size e
  refine wpAny_pyIter_tuple hl (h _ rfl ⟨⟨_, Heap.get?_push_size _ rfl, rfl, rfl⟩, hl.push _⟩ (fun b hb => ?_) (Nat.ne_of_lt hlt))
  show b < (s.heap.push _).objs.size
  rw [Heap.size_push]
  rcases List.mem_cons.mp hb with rfl | hb
  · exact Nat.lt_succ_self _
  · rcases List.mem_cons.mp hb with rfl | hb
    · exact Nat.lt_succ_of_lt hlt
    · cases hb
theorem ue_kept {h' : Heap} (hk : ∀ b o, b ∉ [s.heap.objs.size] → (s.heap.push { cls := .type "tuple_iterator", data := .fields #[.ref l, .int 0 0] }).get? b = some o → h'.get? b = some o) :
    ∀ b o, s.heap.get? b = some o → h'.get? b = some o := fun b o e => by
  refine hk b o (fun hm => ?_) (Heap.get?_push_of_some _ e)
  rcases List.mem_cons.mp hm with e1 | hm
  · exact absurd (e1 ▸ Heap.lt_size e) (Nat.lt_irrefl _)
  · cases hm
theorem ue_maxT {Q : Value → Shared → Prop} (hh : A.handled = none) (hl : s.heap.IsTuple l (intItems xs)) (hne : 0 < xs.size)
    (h : ∀ v h' tk, (intItems xs)[argBest (fun i j => decide (numAt xs i > numAt xs j)) (xs.size - 1)]? = some v → (∀ b o, s.heap.get? b = some o → h'.get? b = some o) → Q v { s with heap := h', toks := tk }) :
    wpAny (model prog w) A (call (.builtin "max") [.ref l]) Q E s := by
  refine call_max_walk (ue_iterT hl fun s₂ e st hfp hlI => ?_)
  subst e
  refine ⟨_, _, _, _, _, _, _, rfl, Walks.tuple (A := A.in1) hh _ l hlI (intItems xs), st, hfp, by simpa [intItems] using hne, CmpOf.ints_gt (numAt xs) (fun _ _ => intItems_at), fun v h' tk hP hk => ?_⟩
  exact h v h' tk (by simpa [intItems] using hP) (ue_kept hk)
theorem ue_minT {Q : Value → Shared → Prop} (hh : A.handled = none) (hl : s.heap.IsTuple l (intItems xs)) (hne : 0 < xs.size)
    (h : ∀ v h' tk, (intItems xs)[argBest (fun i j => decide (numAt xs i < numAt xs j)) (xs.size - 1)]? = some v → (∀ b o, s.heap.get? b = some o → h'.get? b = some o) → Q v { s with heap := h', toks := tk }) :
    wpAny (model prog w) A (call (.builtin "min") [.ref l]) Q E s := by
  refine call_min_walk (ue_iterT hl fun s₂ e st hfp hlI => ?_)
  subst e
  refine ⟨_, _, _, _, _, _, _, rfl, Walks.tuple (A := A.in1) hh _ l hlI (intItems xs), st, hfp, by simpa [intItems] using hne, CmpOf.ints_lt (numAt xs) (fun _ _ => intItems_at), fun v h' tk hP hk => ?_⟩
  exact h v h' tk (by simpa [intItems] using hP) (ue_kept hk)
end
end PySem
namespace L2
open PySem PySem.Spec PyProof.Rows
section
variable {X : Cx}
def rMinT (K : PySem.W.Frag) : List V → Hp → VK → Prop := fun vs H Q => ∃ (a : Addr) (ns : List Int), vs = [V.ref a] ∧ (SqL K H a (ns.map V.int) ∨ SqT K H a (ns.map V.int)) ∧ 0 < ns.length ∧ ∀ m, m ∈ ns → (∀ y, y ∈ ns → m ≤ y) → Q (.int m) H
def rMaxT (K : PySem.W.Frag) : List V → Hp → VK → Prop := fun vs H Q => ∃ (a : Addr) (ns : List Int), vs = [V.ref a] ∧ (SqL K H a (ns.map V.int) ∨ SqT K H a (ns.map V.int)) ∧ 0 < ns.length ∧ ∀ m, m ∈ ns → (∀ y, y ∈ ns → y ≤ m) → Q (.int m) H
theorem cr_minT (hc : X.calm = true) : CallR X (.builtin "min") (rMinT X.K) := by
  intro pins s σ H vs us Q I r h
  obtain ⟨a, ns, e, hs, hne, q⟩ := h
  rcases hs with hs | hs
  · exact cr_min hc pins s σ H vs us Q I r ⟨a, ns, e, hs, hne, q⟩
  subst e
  obtain ⟨its, rv, hl, _⟩ := I.tuple hs
  rw [Vals.ref1 r]
  have hl : s.heap.IsTuple a its.toArray := hl
  have hi := rv.ints
  obtain ⟨xs, e⟩ := hi.allInts.items
  have hn : numsOf (intItems xs).toList = ns := by rw [← e]; exact hi.numsOf
  rw [nums_intItems] at hn
  subst hn
  rw [e] at hl
  have hsz : 0 < xs.size := by simpa using hne
  refine PySem.ue_minT (I.ok.hd hc) hl hsz fun v h' tk hv hk => ?_
  obtain ⟨t, rfl⟩ := intItems_at hv
  obtain ⟨h1, h2⟩ := argBest_lt (numAt xs) (xs.size - 1)
  refine ⟨.int _, H, I.kept hk, ⟨_, rfl⟩, q _ ?_ fun a ha => ?_⟩
  · rw [numAt_eq]; exact PySem.getD_mem (by rw [List.length_map, Array.length_toList]; omega)
  · obtain ⟨j, hj, rfl⟩ := mem_getD ha
    rw [List.length_map, Array.length_toList] at hj
    rw [← numAt_eq]; exact h2 j (by omega)
theorem cr_maxT (hc : X.calm = true) : CallR X (.builtin "max") (rMaxT X.K) := by
  intro pins s σ H vs us Q I r h
  obtain ⟨a, ns, e, hs, hne, q⟩ := h
  rcases hs with hs | hs
  · exact cr_max hc pins s σ H vs us Q I r ⟨a, ns, e, hs, hne, q⟩
  subst e
  obtain ⟨its, rv, hl, _⟩ := I.tuple hs
  rw [Vals.ref1 r]
  have hl : s.heap.IsTuple a its.toArray := hl
  have hi := rv.ints
  obtain ⟨xs, e⟩ := hi.allInts.items
  have hn : numsOf (intItems xs).toList = ns := by rw [← e]; exact hi.numsOf
  rw [nums_intItems] at hn
  subst hn
  rw [e] at hl
  have hsz : 0 < xs.size := by simpa using hne
  refine PySem.ue_maxT (I.ok.hd hc) hl hsz fun v h' tk hv hk => ?_
  obtain ⟨t, rfl⟩ := intItems_at hv
  obtain ⟨h1, h2⟩ := argBest_gt (numAt xs) (xs.size - 1)
  refine ⟨.int _, H, I.kept hk, ⟨_, rfl⟩, q _ ?_ fun a ha => ?_⟩
  · rw [numAt_eq]; exact PySem.getD_mem (by rw [List.length_map, Array.length_toList]; omega)
  · obtain ⟨j, hj, rfl⟩ := mem_getD ha
    rw [List.length_map, Array.length_toList] at hj
    rw [← numAt_eq]; exact h2 j (by omega)
end
end L2
namespace Ue
open PySem L2
def listOf1 : List D → Option (List D) | [.lst ds] => some ds | [.tup ds] => some ds | _ => none
def minAD (ds : List D) : Option D := (listOf1 ds).bind fun es => match dInts es with | some (n :: ns) => some (.int (minOf (n :: ns))) | _ => none
def maxAD (ds : List D) : Option D := (listOf1 ds).bind fun es => match dInts es with | some (n :: ns) => some (.int (maxOf (n :: ns))) | _ => none
section
variable {T : Tab}
theorem listOf1_some {P H : Hp} {ds es : List D} {ns : List Int} {xs : List V} (R1 : PSub P H) (hx : Rdbs T P H ds xs) (e : listOf1 ds = some es) (q : dInts es = some ns) : ∃ a, xs = [.ref a] ∧ (SqL T.K H a (ns.map V.int) ∨ SqT T.K H a (ns.map V.int)) := by
  have key : ∀ d x, Rdb T P H d x → (d = .lst es ∨ d = .tup es) → ∃ a, [x] = [V.ref a] ∧ (SqL T.K H a (ns.map V.int) ∨ SqT T.K H a (ns.map V.int)) := fun d x h hd => by
    obtain ⟨a, vs, rfl, h1, h2⟩ := h.seqE R1 hd
    rw [dInts_ok q] at h2
    rw [Reps.ints ns h2] at h1
    exact ⟨a, rfl, h1⟩
  cases ds with
  | nil => cases e
  | cons d ds =>
    cases ds with
    | nil =>
      obtain ⟨x, rfl, h0⟩ := hx.one
      cases d with
      | lst fs => cases e; exact key _ x h0 (.inl rfl)
      | tup fs => cases e; exact key _ x h0 (.inr rfl)
      | _ => cases e
    | cons d2 ds => cases d <;> cases e
theorem cd_minA : CallD T (rMinT T.K) .pure minAD := fun env σ P H ds xs d Q R1 hx e k => by
  unfold minAD at e
  cases e1 : listOf1 ds with
  | none => rw [e1] at e; cases e
  | some es =>
    rw [e1] at e
    have e : (match dInts es with | some (n :: ns) => some (D.int (minOf (n :: ns))) | _ => none) = some d := e
    cases q : dInts es with
    | none => rw [q] at e; cases e
    | some ns =>
      rw [q] at e
      obtain ⟨a, rfl, h⟩ := listOf1_some R1.sub hx e1 q
      cases ns with
      | nil => cases e
      | cons n ns =>
        cases e
        refine ⟨a, _, rfl, h, Nat.succ_pos _, fun m hm hle => ?_⟩
        obtain ⟨h1, h2, h3⟩ := minOf_le ns n
        have em : m = minOf (n :: ns) := by
          have m1 : minOf (n :: ns) ≤ m := by
            rcases List.mem_cons.mp hm with rfl | hm
            · exact h1
            · exact h2 m hm
          have m2 : m ≤ minOf (n :: ns) := by
            rcases h3 with h3 | h3
            · rw [show minOf (n :: ns) = n from h3]; exact hle n List.mem_cons_self
            · exact hle _ (List.mem_cons_of_mem _ h3)
          omega
        rw [em]
        exact k _ P H R1 (Fr.refl _ _ _ _) (show Rep T P _ _ from rep_int) trivial
theorem cd_maxA : CallD T (rMaxT T.K) .pure maxAD := fun env σ P H ds xs d Q R1 hx e k => by
  unfold maxAD at e
  cases e1 : listOf1 ds with
  | none => rw [e1] at e; cases e
  | some es =>
    rw [e1] at e
    have e : (match dInts es with | some (n :: ns) => some (D.int (maxOf (n :: ns))) | _ => none) = some d := e
    cases q : dInts es with
    | none => rw [q] at e; cases e
    | some ns =>
      rw [q] at e
      obtain ⟨a, rfl, h⟩ := listOf1_some R1.sub hx e1 q
      cases ns with
      | nil => cases e
      | cons n ns =>
        cases e
        refine ⟨a, _, rfl, h, Nat.succ_pos _, fun m hm hle => ?_⟩
        obtain ⟨h1, h2, h3⟩ := maxOf_ge ns n
        have em : m = maxOf (n :: ns) := by
          have m1 : m ≤ maxOf (n :: ns) := by
            rcases List.mem_cons.mp hm with rfl | hm
            · exact h1
            · exact h2 m hm
          have m2 : maxOf (n :: ns) ≤ m := by
            rcases h3 with h3 | h3
            · rw [show maxOf (n :: ns) = n from h3]; exact hle n List.mem_cons_self
            · exact hle _ (List.mem_cons_of_mem _ h3)
          omega
        rw [em]
        exact k _ P H R1 (Fr.refl _ _ _ _) (show Rep T P _ _ from rep_int) trivial
theorem minA_l {n : Int} {ns : List Int} : minAD [.lst ((n :: ns).map D.int)] = some (.int (minOf (n :: ns))) := by
  show (match dInts ((n :: ns).map D.int) with | some (n :: ns) => some (D.int (minOf (n :: ns))) | _ => none) = _; rw [dInts_map]
theorem minA_t {n : Int} {ns : List Int} : minAD [.tup ((n :: ns).map D.int)] = some (.int (minOf (n :: ns))) := minA_l
theorem maxA_l {n : Int} {ns : List Int} : maxAD [.lst ((n :: ns).map D.int)] = some (.int (maxOf (n :: ns))) := by
  show (match dInts ((n :: ns).map D.int) with | some (n :: ns) => some (D.int (maxOf (n :: ns))) | _ => none) = _; rw [dInts_map]
theorem maxA_t {n : Int} {ns : List Int} : maxAD [.tup ((n :: ns).map D.int)] = some (.int (maxOf (n :: ns))) := maxA_l
end
end Ue

set_option linter.all false
set_option Elab.async false
set_option maxRecDepth 100000
set_option maxHeartbeats 4000000
/-! zip of two lists or two tuples -/
namespace Ue
open PySem PySem.Spec PyProof.Rows L2 RZ
def zipL (xs ys : List D) : List D := (List.range (min xs.length ys.length)).map fun i => D.tup [xs.getD i .non, ys.getD i .non]
theorem zipL_get {xs ys : List D} {i : Nat} {d : D} (h : (zipL xs ys)[i]? = some d) : ∃ a b, xs[i]? = some a ∧ ys[i]? = some b ∧ d = .tup [a, b] := by
  unfold zipL at h
  have hi : i < min xs.length ys.length := by
    rcases Nat.lt_or_ge i (min xs.length ys.length) with q | q
    · exact q
    · rw [List.getElem?_eq_none (by simpa using q)] at h; cases h
  have h1 : i < xs.length := by omega
  have h2 : i < ys.length := by omega
  rw [List.getElem?_map, List.getElem?_range hi] at h
  simp only [Option.map_some, List.getD_eq_getElem?_getD, List.getElem?_eq_getElem h1, List.getElem?_eq_getElem h2, Option.getD_some] at h
  exact ⟨xs[i], ys[i], List.getElem?_eq_getElem h1, List.getElem?_eq_getElem h2, (Option.some.inj h).symm⟩
section
variable {T : Tab} {W : WX} {env : Env} {σ : L2.St} {P H : Hp} {X : Cx} {ma mb : M} {a b : Expr}
theorem yl_zipL {K : PySem.W.Frag} {p q : Addr} {vs ws : List V} {xs ys : List D} (hK : K = T.K) (h : Rd P p (.lst vs)) (r : Reps T P xs vs) (h' : Rd P q (.lst ws)) (r' : Reps T P ys ws) : Yl T (Itz K p q) P (zipL xs ys) := fun P1 H1 s1 s2 => by
  have q1 : SqL K H1 p vs := .inl (Rd.sub s2 (Rd.sub s1 h))
  have q2 : SqL K H1 q ws := .inl (Rd.sub s2 (Rd.sub s1 h'))
  refine ⟨fun i d hd => ?_, fun i hi => ⟨vs, ws, q1, q2, by rw [r.length, r'.length]; simp [zipL] at hi; omega⟩⟩
  obtain ⟨x, y, hx, hy, rfl⟩ := zipL_get hd
  obtain ⟨v, hv, rv⟩ := r.get hx
  obtain ⟨w, hw, rw'⟩ := r'.get hy
  refine ⟨⟨vs, ws, v, w, q1, q2, hv, hw⟩, fun z H' yy => ?_⟩
  obtain ⟨t, v2, w2, rfl, ht, rfl, y1, y2⟩ := yy
  have z1 := y1 vs q1
  have z2 := y2 ws q2
  rw [hv] at z1; cases z1
  rw [hw] at z2; cases z2
  have hp : P1 t = none := by
    cases c : P1 t with
    | none => rfl
    | some o => have := s2 t o c; rw [ht] at this; cases this
  exact ⟨upd P1 t _, rep_tup upd_same (Reps.cons (Rep.sub (psub_upd hp) _ _ (Rep.sub s1 _ _ rv)) (Reps.cons (Rep.sub (psub_upd hp) _ _ (Rep.sub s1 _ _ rw')) Reps.nil)), .inr ⟨t, _, ht, rfl, rfl⟩⟩
theorem yl_zipT {K : PySem.W.Frag} {p q : Addr} {vs ws : List V} {xs ys : List D} (hK : K = T.K) (h : SqT T.K P p vs) (r : Reps T P xs vs) (h' : SqT T.K P q ws) (r' : Reps T P ys ws) : Yl T (ItzT K p q) P (zipL xs ys) := fun P1 H1 s1 s2 => by
  subst hK
  have q1 : SqT T.K H1 p vs := sqT_sub s2 (sqT_sub s1 h)
  have q2 : SqT T.K H1 q ws := sqT_sub s2 (sqT_sub s1 h')
  refine ⟨fun i d hd => ?_, fun i hi => ⟨vs, ws, q1, q2, by rw [r.length, r'.length]; simp [zipL] at hi; omega⟩⟩
  obtain ⟨x, y, hx, hy, rfl⟩ := zipL_get hd
  obtain ⟨v, hv, rv⟩ := r.get hx
  obtain ⟨w, hw, rw'⟩ := r'.get hy
  refine ⟨⟨vs, ws, v, w, q1, q2, hv, hw⟩, fun z H' yy => ?_⟩
  obtain ⟨t, v2, w2, rfl, ht, rfl, y1, y2⟩ := yy
  have z1 := y1 vs q1
  have z2 := y2 ws q2
  rw [hv] at z1; cases z1
  rw [hw] at z2; cases z2
  have hp : P1 t = none := by
    cases c : P1 t with
    | none => rfl
    | some o => have := s2 t o c; rw [ht] at this; cases this
  exact ⟨upd P1 t _, rep_tup upd_same (Reps.cons (Rep.sub (psub_upd hp) _ _ (Rep.sub s1 _ _ rv)) (Reps.cons (Rep.sub (psub_upd hp) _ _ (Rep.sub s1 _ _ rw')) Reps.nil)), .inr ⟨t, _, ht, rfl, rfl⟩⟩
def zipM (ma mb : M) : MI := fun env => (ma env).bind fun x e1 => (mb e1).bind fun y e2 => match x, y with
  | .lst xs, .lst ys => .ok (zipL xs ys) e2
  | .tup xs, .tup ys => .ok (zipL xs ys) e2
  | _, _ => .stk
theorem di_zip {p pos tpos : Pos} {elts : List Expr} {kk : Nat} (hK : X.K = T.K) (hg : Gl X "zip") (hm : X.mg "zip" = none) (ha : DE T W X a .pure ma) (hb : DE T W X b .pure mb)
    (hs : starEach [a, b] X.env = (false, eval a X.env) :: starEach [b] X.env := by rfl) (h2 : starEach [b] X.env = (false, eval b X.env) :: starEach [] X.env := by rfl) (hpl : (backTo pos (starEach [b] X.env)).any (·.1) = false := by rfl) :
    DI T W X (.Tuple elts kk tpos) (.Call (.Name "zip" p) [a, b] [] pos) (zipM ma mb) := pi_imp (pi_zipA hg hm (pa_cons ha (pa_cons hb pa_nil h2) hs) hs hpl) fun σ H Q h => by
  obtain ⟨env, P, RR, h⟩ := h
  refine ⟨env, P, RR, After.at h.bind fun d1 env1 P1 H1 _ R1 F1 h1 x kx nx => ?_⟩
  refine ⟨env1, P1, R1, After.at h1.bind fun d2 env2 P2 H2 e2 R2 F2 h3 y ky ny => ?_⟩
  have kx' : Rep T P2 d1 x := Rep.sub F2.mono _ _ kx
  have ky : Rep T P2 d2 y := ky
  have h4 := h3
  cases d1 with
  | lst xs =>
    cases d2 with
    | lst ys =>
      rw [Rep] at kx' ky
      obtain ⟨p, vs, rfl, q1, q2⟩ := kx'
      obtain ⟨q, ws, rfl, w1, w2⟩ := ky
      exact ⟨p, q, vs, ws, rfl, .inl ⟨.inl (Rd.sub R2.sub q1), .inl (Rd.sub R2.sub w1), h4.here R2 (Fr.refl _ _ _ _) _ (yl_zipL hK q1 q2 w1 w2)⟩⟩
    | _ => exact h3.elim
  | tup xs =>
    cases d2 with
    | tup ys =>
      rw [Rep] at kx' ky
      obtain ⟨p, vs, rfl, q1, q2⟩ := kx'
      obtain ⟨q, ws, rfl, w1, w2⟩ := ky
      exact ⟨p, q, vs, ws, rfl, .inr ⟨by rw [hK]; exact sqT_sub R2.sub q1, by rw [hK]; exact sqT_sub R2.sub w1, h4.here R2 (Fr.refl _ _ _ _) _ (yl_zipT hK q1 q2 w1 w2)⟩⟩
    | _ => exact h3.elim
  | _ => exact h3.elim
@[simp] theorem zipM_s : zipM ma mb env = (ma env).bind fun x e1 => (mb e1).bind fun y e2 => match x, y with
  | .lst xs, .lst ys => .ok (zipL xs ys) e2
  | .tup xs, .tup ys => .ok (zipL xs ys) e2
  | _, _ => .stk := (rfl)
end
end Ue

set_option linter.all false
set_option Elab.async false
set_option maxRecDepth 100000
set_option maxHeartbeats 4000000
/-! enumerate(t), t a tuple -/
namespace PySem
open Sem (wp)
theorem ue_enumNew (l : Addr) (items : Array Value) (n : Nat) (dct : Option Addr) (sl : Array (Option Value)) :
    Meets (Builtin.«enumerate.__new__» ⟨[.type "enumerate", .ref l], []⟩) (fun _ R s => s.heap.get? l = some ⟨.type "tuple", dct, .seq items n, sl⟩ ∧
      R (.ok (.ret (.ref (s.heap.push { cls := .type "tuple_iterator", data := .fields #[.ref l, .int 0 0] }).objs.size)))
        { s with heap := (s.heap.push { cls := .type "tuple_iterator", data := .fields #[.ref l, .int 0 0] }).push { cls := .type "enumerate", data := .fields #[.none, .bool false, .ref s.heap.objs.size, rawInt 0, .none, .none] } }) :=
  .of_wp fun prog w A R s h => by
    obtain ⟨hp, g, d, tk, os⟩ := s; obtain ⟨hl, h⟩ := h
    have hsub := sub_enumerate
    have hL : Heap.IsTuple (Shared.heap ⟨hp, g, d, tk, os⟩) l items := ⟨_, hl, rfl, n, rfl⟩
    wp_walk using wpAny_loadPart' hl
    refine wpAny_stack_any fun st => wpAny_pure ?_
    split
    · rename_i c _ _ _ _ _
      cases (c == Value.type "enumerate")
      · wp_walk using wpAny_loadPart' hl, wpAny_pyIter_tuple hL
        exact ⟨_, rfl, h⟩
      · wp_walk using wpAny_loadPart' hl, wpAny_pyIter_tuple hL
        exact ⟨_, rfl, h⟩
    · wp_walk using wpAny_loadPart' hl, wpAny_pyIter_tuple hL
      exact ⟨_, rfl, h⟩
section
variable {prog : Program} {w : World} {A : Around} {E : Value → Shared → Prop} {s : Shared}
theorem ue_enumT {l : Addr} {items : Array Value} {Q : Value → Shared → Prop} (hL : s.heap.IsTuple l items)
    (h : ∀ h', IsEnum h' (s.heap.objs.size + 1) s.heap.objs.size 0 .none → h'.IsTupleIter s.heap.objs.size l 0 → h'.objs.size = s.heap.objs.size + 2 →
      (∀ b o, s.heap.get? b = some o → h'.get? b = some o) → Q (.ref (s.heap.objs.size + 1)) { s with heap := h' }) :
    wpAny (model prog w) A (call (.type "enumerate") [.ref l]) Q E s := by
  obtain ⟨⟨c, dct, dt, sl⟩, hl, hc, n, hd⟩ := hL
  replace hc : c = .type "tuple" := hc
  replace hd : dt = .seq items n := hd
  subst hc hd
  refine callType_new F.called_enumerate (by decide) (F.typeCall_enumerate_1 _) (F.newCall_enumerate_1 _) (fun obj => F.args_object_init_2 obj _) F.entry_enumerate_new
    (ue_enumNew l items n dct sl) ⟨hl, ?_⟩
  have hz : (s.heap.push { cls := .type "tuple_iterator", data := .fields #[.ref l, .int 0 0] }).objs.size = s.heap.objs.size + 1 := Heap.size_push ..
  show _ ∧ _
  rw [hz]
  have he : IsEnum ((s.heap.push { cls := .type "tuple_iterator", data := .fields #[.ref l, .int 0 0] }).push
      { cls := .type "enumerate", data := .fields #[.none, .bool false, .ref s.heap.objs.size, rawInt 0, .none, .none] }) (s.heap.objs.size + 1) s.heap.objs.size 0 .none := by
    have := Heap.get?_push_size (s.heap.push { cls := .type "tuple_iterator", data := .fields #[.ref l, .int 0 0] })
      (o := { cls := .type "enumerate", data := .fields #[.none, .bool false, .ref s.heap.objs.size, rawInt 0, .none, .none] }) rfl
    rw [hz] at this; exact this
  refine ⟨⟨_, he, rfl⟩, h _ he ⟨_, Heap.get?_push_of_some _ (Heap.get?_push_size _ rfl), rfl, rfl⟩ (by rw [Heap.size_push, hz]) fun b o x => Heap.get?_push_of_some _ (Heap.get?_push_of_some _ x)⟩
end
end PySem

set_option linter.all false
set_option Elab.async false
set_option maxRecDepth 100000
set_option maxHeartbeats 4000000
namespace PySem
section
variable {prog : Program} {w : World} {A : Around} {E : Value → Shared → Prop} {s : Shared}
theorem ue_enumEnd {e it l : Addr} {i : Int} {j : Nat} {items : Array Value} {old : Value} {Q : Option Value → Shared → Prop} (hh : A.handled = none)
    (he : IsEnum s.heap e it i old) (hit : s.heap.IsTupleIter it l j) (hl : s.heap.IsTuple l items) (hx : items[j]? = none)
    (hQ : ∀ h', Heap.ExtBut it s.heap h' → Q none { s with heap := h' }) : wpAny (model prog w) A (pyNext (.ref e)) Q E s := by
  have hT : s.TypeIs (.ref e) "enumerate" := ⟨_, he, rfl⟩
  unfold pyNext
  refine wpAny_bind (wpAny_attempt (wpAny_callSpecial?_slot (name := Str.ofString "__next__") hT F.slot_enumerate_next
    (wpAny_call_entry F.slot_enumerate_next hT F.entry_enumerate_next ?_ (F.args_enumerate_next_1 _))))
  show wpAny _ _ (field (.ref e) 2 >>= _) _ _ _
  refine wpAny_bind (wpAny_field he rfl (x := .ref it) rfl ?_)
  refine wpAny_bind (wpAny_nextOf_tuple_end (A := A.in1) hh hit hl hx fun h' x he' hx' => ?_)
  obtain ⟨o, ho, hc⟩ := hx'
  refine wpAny_bind (wpAny_isInstance (T := "StopIteration") (b := true) ⟨o, ho, hc⟩ isSubtype_stop ?_)
  exact wpAny_pure (hQ _ he')
end
end PySem
namespace L2
open PySem PySem.Spec PyProof.Rows
def IteT (K : PySem.W.Frag) (a : Addr) : It :=
  ⟨fun i H => ∃ (xs : List V) (x : V), SqT K H a xs ∧ xs[i]? = some x, fun i H v H' => ∃ T x, v = .ref T ∧ H T = none ∧ H' = upd H T (.tup [.int (i : Nat), x]) ∧ ∀ xs, SqT K H a xs → xs[i]? = some x, fun i H => ∃ xs : List V, SqT K H a xs ∧ xs.length ≤ i⟩
theorem ue_turnEnumT {P : Program} {w : World} {K : PySem.W.Frag} {elts : List Expr} {kk : Nat} {tpos : Pos} (a e it : Addr) :
    Turn P w K (.Tuple elts kk tpos) (IteT K a) [e, it] e (fun i h => (∃ old, IsEnum h e it ((i : Nat) : Int) old) ∧ h.IsTupleIter it a i ∧ e ≠ it ∧ a ≠ it ∧ e ≠ a) where
  mem := by simp
  obj := fun i h st b hb => by
    obtain ⟨⟨old, he⟩, ⟨o, ho, hc, hd⟩, _⟩ := st
    have e' : b = e ∨ b = it := by simpa using hb
    rcases e' with z | z
    · rw [z]; exact ⟨_, he, fun v q => nomatch q⟩
    · rw [z]; exact ⟨o, ho, fun v q => by rw [hd] at q; cases q⟩
  keep := fun i h h' st k => let ⟨⟨old, he⟩, hi, hne⟩ := st; ⟨⟨old, k e (by simp) _ he⟩, hi.at fun o q => k it (by simp) o q, hne⟩
  item := by
    intro X hP hw hK hc i pins s σ H E I hf st hg
    subst hP hw hK
    obtain ⟨⟨old, he⟩, hit, hne, hai, hea⟩ := st
    obtain ⟨xs, x, hq, hx⟩ := hg
    obtain ⟨its, rv, p, hz⟩ := I.tuple hq
    have p : s.heap.IsTuple a its.toArray := p
    obtain ⟨u, hu, ru⟩ := rv.get hx
    have hel : e < s.heap.objs.size := Heap.lt_size he
    have hil : it < s.heap.objs.size := by obtain ⟨_, q, _⟩ := hit; exact Heap.lt_size q
    have hi : i < its.toArray.size := by
      rcases Nat.lt_or_ge i its.toArray.size with q | q
      · exact q
      · rw [List.size_toArray] at q; rw [List.getElem?_eq_none q] at hu; cases hu
    refine wpAny_pyNext_enum_itemD (Draws.tuple (A := X.A.in1) (I.ok.hd hc) it a hai its.toArray) he ⟨hit, p⟩ hi hne (by simp [hne, hea]) fun v h' tk hv ho hst hT hsz hk => ?_
    have hv : its[i]? = some v := by simpa using hv
    rw [hu] at hv; cases hv
    obtain ⟨hit', _⟩ := hst
    refine ⟨_, rfl, wpAny_letOwnedTupleGo_enum (s := { s with heap := h', toks := tk + 1 }) ho fun h'' he' sb => ?_⟩
    have hT2 : h''.get? s.heap.objs.size = some { cls := .type "tuple", data := .seq #[.int i tk, u] } := (sb.2 _ (Nat.ne_of_gt hel)).trans hT
    have new : ObjOk X.prog X.w (upd H s.heap.objs.size (.tup [.int (i : Nat), x])) h'' s.heap.objs.size (.tup [.int (i : Nat), x]) :=
      ⟨by show 2 ≤ sizeLine; decide, [.int i tk, u], .cons ⟨_, rfl⟩ (.cons ru .nil), ⟨_, hT2, rfl, _, rfl⟩⟩
    have I1 : Inv X pins σ (upd H s.heap.objs.size (.tup [.int (i : Nat), x])) { s with heap := h'', toks := tk + 1 } :=
      I.turnedNew (ch := [e, it]) (fun b ob hb q => (sb.2 b (fun z => hb (by simp [z]))).trans (hk b ob (fun z => hb (by simp [z])) (fun z => hb (by simp [z])) q)) hf (Nat.le_refl _) new
    refine ⟨.ref s.heap.objs.size, _, I1, rfl, ⟨_, x, rfl, I.hok.fresh (Nat.le_refl _), rfl, fun ys hy => by rw [I.tuple_inj hy hq]; exact hx⟩, ⟨⟨u, ?_⟩, hit'.at fun o q => (sb.2 it (Ne.symm hne)).trans q, hne, hai, hea⟩, fun b hb => ?_⟩
    · have e1 : ((i + 1 : Nat) : Int) = (i : Int) + 1 := by omega
      rw [e1]; exact he'
    · have hb' : b < s.heap.objs.size := by
        have e' : b = e ∨ b = it := by simpa using hb
        rcases e' with z | z
        · rw [z]; exact hel
        · rw [z]; exact hil
      rw [upd_ne (Nat.ne_of_lt hb')]
      exact (hf b hb).1
  done := by
    intro X hP hw hK hc i pins s σ H E I hf st hg
    subst hP hw hK
    obtain ⟨⟨old, he⟩, hit, hne, hai, hea⟩ := st
    obtain ⟨xs, hq, hx⟩ := hg
    obtain ⟨its, rv, p, hz⟩ := I.tuple hq
    have p : s.heap.IsTuple a its.toArray := p
    obtain ⟨f0, f1, f2, f3, f4, f5⟩ := hf it (by simp)
    have hl := rv.length
    exact ue_enumEnd (I.ok.hd hc) he hit p (by simp; omega) fun h' eb => ⟨rfl, I.turned (t' := s.toks) (fun b o hb q => eb b o hb q) f0 f1 f3 f4 f5⟩
  self := fun A i s Q E st h => let ⟨⟨_, he⟩, _⟩ := st; wpAny_pyIter_enum he h
def iEnumA (K : PySem.W.Frag) (ta : TA) : TI := fun σ H R => ta σ H fun vs H1 => ∃ a xs, vs = [.ref a] ∧ ((SqL K H1 a xs ∧ R (Ite K a) H1) ∨ (SqT K H1 a xs ∧ R (IteT K a) H1))
theorem pi_enumA {X : Cx} {e : Expr} {ta : TA} {p pos tpos : Pos} {elts : List Expr} {kk : Nat} (hg : Gl X "enumerate") (hm : X.mg "enumerate" = none) (ha : PA X [e] ta) (hs : starEach [e] X.env = [(false, eval e X.env)] := by rfl) :
    PI X (.Tuple elts kk tpos) (.Call (.Name "enumerate" p) [e] [] pos) (iEnumA X.K ta) := by
  refine ⟨fun pins s σ H R I h => ?_⟩
  refine Call_ (ld_blt I hg hm boot_enumerate (PyProof.Rows.callWith_type1 (thn (ha.run pos pins s σ H _ I h) fun us s1 ⟨vs, H1, I1, r1, q1⟩ => ?_) hs rfl))
  obtain ⟨a, xs, ex, q⟩ := q1
  subst ex
  cases r1 with
  | cons r rr =>
    cases rr
    cases r
    have fp : ∀ b, (b = s1.heap.objs.size + 1 ∨ b = s1.heap.objs.size) → FpOk X pins H1 b := fun b e' => by
      have hle : s1.heap.objs.size ≤ b := by
        rcases e' with z | z
        · rw [z]; exact Nat.le_add_right _ _
        · rw [z]; exact Nat.le_refl _
      exact I1.fpOk hle (I1.hok.fresh hle)
    rcases q with ⟨hq, q⟩ | ⟨hq, q⟩
    · obtain ⟨its, rv, p', hz⟩ := I1.list hq
      refine call_enumerate_list p'.isList fun h' he hit hsz hk => wpAny_pyIter_enum he ?_
      have I2 : Inv X pins σ H1 { s1 with heap := h' } := I1.kept (t' := s1.toks) hk
      exact ⟨s1.heap.objs.size + 1, [s1.heap.objs.size + 1, s1.heap.objs.size], _, _, H1, rfl, I2, turn_enum a (s1.heap.objs.size + 1) s1.heap.objs.size, ⟨⟨.none, he⟩, hit, Nat.succ_ne_self _⟩, fun b hb => fp b (by simpa using hb), q⟩
    · obtain ⟨its, rv, p', hz⟩ := I1.tuple hq
      have p' : s1.heap.IsTuple a its.toArray := p'
      have hla : a < s1.heap.objs.size := by obtain ⟨_, q, _⟩ := p'; exact Heap.lt_size q
      refine ue_enumT p' fun h' he hit hsz hk => wpAny_pyIter_enum he ?_
      have I2 : Inv X pins σ H1 { s1 with heap := h' } := I1.kept (t' := s1.toks) hk
      exact ⟨s1.heap.objs.size + 1, [s1.heap.objs.size + 1, s1.heap.objs.size], _, _, H1, rfl, I2, ue_turnEnumT a (s1.heap.objs.size + 1) s1.heap.objs.size, ⟨⟨.none, he⟩, hit, Nat.succ_ne_self _, Nat.ne_of_lt hla, (Nat.ne_of_lt (Nat.lt_succ_of_lt hla)).symm⟩, fun b hb => fp b (by simpa using hb), q⟩
end L2
namespace Ue
open PySem PySem.Spec PyProof.Rows L2
def enumAM (m : M) : MI := fun env => (m env).bind fun d e => match d with | .lst ds => .ok (enumL ds) e | .tup ds => .ok (enumL ds) e | _ => .stk
section
variable {T : Tab} {W : WX} {env : Env} {σ : L2.St} {P H : Hp} {X : Cx} {m : M} {e : Expr}
theorem yl_enumL {K : PySem.W.Frag} {a : Addr} {vs : List V} {ds : List D} (h : Rd P a (.lst vs)) (r : Reps T P ds vs) : Yl T (Ite K a) P (enumL ds) := fun P1 H1 s1 s2 => by
  have q : SqL K H1 a vs := .inl (Rd.sub s2 (Rd.sub s1 h))
  refine ⟨fun i d hd => ?_, fun i hi => ⟨vs, q, by rw [r.length]; simpa [enumL] using hi⟩⟩
  obtain ⟨e, he, rfl⟩ := enumL_get hd
  obtain ⟨v, hv, rv⟩ := r.get he
  refine ⟨⟨vs, v, q, hv⟩, fun x H' y => ?_⟩
  obtain ⟨t, z, rfl, ht, rfl, y⟩ := y
  have := y vs q
  rw [hv] at this; cases this
  have hp : P1 t = none := by
    cases c : P1 t with
    | none => rfl
    | some o => have := s2 t o c; rw [ht] at this; cases this
  exact ⟨upd P1 t _, rep_tup upd_same (Reps.cons rep_int (Reps.cons (Rep.sub (psub_upd hp) _ _ (Rep.sub s1 _ _ rv)) Reps.nil)), .inr ⟨t, _, ht, rfl, rfl⟩⟩
theorem yl_enumT {K : PySem.W.Frag} {a : Addr} {vs : List V} {ds : List D} (hK : K = T.K) (h : SqT T.K P a vs) (r : Reps T P ds vs) : Yl T (IteT K a) P (enumL ds) := fun P1 H1 s1 s2 => by
  subst hK
  have q : SqT T.K H1 a vs := sqT_sub s2 (sqT_sub s1 h)
  refine ⟨fun i d hd => ?_, fun i hi => ⟨vs, q, by rw [r.length]; simpa [enumL] using hi⟩⟩
  obtain ⟨e, he, rfl⟩ := enumL_get hd
  obtain ⟨v, hv, rv⟩ := r.get he
  refine ⟨⟨vs, v, q, hv⟩, fun x H' y => ?_⟩
  obtain ⟨t, z, rfl, ht, rfl, y⟩ := y
  have := y vs q
  rw [hv] at this; cases this
  have hp : P1 t = none := by
    cases c : P1 t with
    | none => rfl
    | some o => have := s2 t o c; rw [ht] at this; cases this
  exact ⟨upd P1 t _, rep_tup upd_same (Reps.cons rep_int (Reps.cons (Rep.sub (psub_upd hp) _ _ (Rep.sub s1 _ _ rv)) Reps.nil)), .inr ⟨t, _, ht, rfl, rfl⟩⟩
theorem di_enumA {p tpos pos : Pos} {elts : List Expr} {kk : Nat} (hK : X.K = T.K) (hg : Gl X "enumerate") (hm : X.mg "enumerate" = none) (h : DE T W X e .pure m) (hs : starEach [e] X.env = [(false, eval e X.env)] := by rfl) :
    DI T W X (.Tuple elts kk tpos) (.Call (.Name "enumerate" p) [e] [] pos) (enumAM m) := pi_imp (pi_enumA hg hm (pa_cons h pa_nil hs) hs) fun σ H Q h => by
  obtain ⟨env, P, RR, h⟩ := h
  refine ⟨env, P, RR, After.mono h.bind fun d env1 P1 H1 R1 F1 h1 x kx nx => ?_⟩
  cases d with
  | lst ds =>
    have kx : Rep T P1 (.lst ds) x := kx
    rw [Rep] at kx
    obtain ⟨a, vs, rfl, q1, q2⟩ := kx
    exact ⟨a, vs, rfl, .inl ⟨.inl (Rd.sub R1.sub q1), h1.here R1 (Fr.refl _ _ _ _) _ (yl_enumL q1 q2)⟩⟩
  | tup ds =>
    have kx : Rep T P1 (.tup ds) x := kx
    rw [Rep] at kx
    obtain ⟨a, vs, rfl, q1, q2⟩ := kx
    exact ⟨a, vs, rfl, .inr ⟨by rw [hK]; exact sqT_sub R1.sub q1, h1.here R1 (Fr.refl _ _ _ _) _ (yl_enumT hK q1 q2)⟩⟩
  | _ => exact h1.elim
@[simp] theorem enumAM_s : enumAM m env = (m env).bind fun d e => match d with | .lst ds => .ok (enumL ds) e | .tup ds => .ok (enumL ds) e | _ => .stk := (rfl)
end
end Ue

set_option linter.all false
set_option Elab.async false
set_option maxRecDepth 100000
set_option maxHeartbeats 4000000
/-! sum of a list or a tuple of ints -/
namespace PySem
section
variable {prog : Program} {w : World} {A : Around} {E : Value → Shared → Prop} {s : Shared} {l : Addr} {xs : Array (Int × Tok)}
theorem ue_sumT {Q : Value → Shared → Prop} (hh : A.handled = none) (hl : s.heap.IsTuple l (intItems xs))
    (h : ∀ h' tk t', (∀ b o, s.heap.get? b = some o → h'.get? b = some o) → Q (.int (preSum (numAt xs) xs.size) t') { s with heap := h', toks := tk }) :
    wpAny (model prog w) A (call (.builtin "sum") [.ref l]) Q E s := by
  refine call_sum_walkG (ue_iterT hl fun s₂ e st hfp hlI => ?_)
  subst e
  refine ⟨_, _, _, _, _, _, numAt xs, rfl, Walks.tuple (A := A.in1) hh _ l hlI (intItems xs), st, hfp, (fun _ _ => intItems_at), fun h' tk t' hk => ?_⟩
  have := h h' tk t' (ue_kept hk)
  simpa [intItems] using this
end
end PySem
namespace L2
open PySem PySem.Spec PyProof.Rows
section
variable {X : Cx}
def rSumT (K : PySem.W.Frag) : List V → Hp → VK → Prop := fun vs H Q => ∃ (a : Addr) (ns : List Int), vs = [V.ref a] ∧ (SqL K H a (ns.map V.int) ∨ SqT K H a (ns.map V.int)) ∧ Q (.int ns.sum) H
theorem cr_sumT (hc : X.calm = true) : CallR X (.builtin "sum") (rSumT X.K) := by
  intro pins s σ H vs us Q I r h
  obtain ⟨a, ns, e, hs, q⟩ := h
  rcases hs with hs | hs
  · exact cr_sum hc pins s σ H vs us Q I r ⟨a, ns, e, hs, q⟩
  subst e
  obtain ⟨its, rv, hl, _⟩ := I.tuple hs
  rw [Vals.ref1 r]
  have hl : s.heap.IsTuple a its.toArray := hl
  have hi := rv.ints
  obtain ⟨xs, e⟩ := hi.allInts.items
  have hn : numsOf (intItems xs).toList = ns := by rw [← e]; exact hi.numsOf
  rw [nums_intItems] at hn
  rw [e] at hl
  refine PySem.ue_sumT (I.ok.hd hc) hl fun h' tk t' hk => ?_
  refine ⟨.int ns.sum, H, I.kept hk, ⟨t', ?_⟩, q⟩
  rw [preSum_eq, List.take_of_length_le (by simp), hn]
end
end L2
namespace Ue
open PySem L2
def sumAD (ds : List D) : Option D := (listOf1 ds).bind fun es => (dInts es).map fun ns => .int ns.sum
section
variable {T : Tab}
theorem cd_sumA : CallD T (rSumT T.K) .pure sumAD := fun env σ P H ds xs d Q R1 hx e k => by
  unfold sumAD at e
  cases e1 : listOf1 ds with
  | none => rw [e1] at e; cases e
  | some es =>
    rw [e1] at e
    have e : ((dInts es).map fun ns => D.int ns.sum) = some d := e
    cases q : dInts es with
    | none => rw [q] at e; cases e
    | some ns =>
      rw [q] at e
      cases e
      obtain ⟨a, rfl, h⟩ := listOf1_some R1.sub hx e1 q
      exact ⟨a, ns, rfl, h, k _ P H R1 (Fr.refl _ _ _ _) (show Rep T P _ _ from rep_int) trivial⟩
theorem sumA_l {ns : List Int} : sumAD [.lst (ns.map D.int)] = some (.int ns.sum) := by
  show (dInts (ns.map D.int)).map _ = _; rw [dInts_map]; rfl
theorem sumA_t {ns : List Int} : sumAD [.tup (ns.map D.int)] = some (.int ns.sum) := sumA_l
end
end Ue

set_option linter.all false
set_option Elab.async false
set_option maxRecDepth 100000
set_option maxHeartbeats 4000000
/-! o.p, p an own property whose getter raises nothing -/
namespace Ue
open PySem PySem.Spec PyProof.Rows L2
section
variable {X : Cx} {k : Nat} {C p g a dx : Addr} {fs : List (Str × V)} {f : Str} {fd : FuncData} {ps : List Str} {sp : Sp} {e : Expr} {pos : Pos} {ta : TE}
theorem getpropG {pins : List (Addr × Obj)} {σ : L2.St} {H : Hp} {s : Shared} {Q : VK} {b : Bool} {E' : Value → Shared → Prop} (I : Inv X pins σ H s) (ea : H a = some (.ins C dx fs)) (c : Cls X.K C) (hp : PropOf X.K C f p g)
    (F : FnG X.prog X.w X.K X.mg X.base (L2.CX X.prog X.w) k g fd ps sp) (gd : X.A.guards = some []) (hr : Room (k + 1) X.A) (hb : Binds X.K fd ps []) (h : sp [.ref a] H Q noE) :
    wpAny (model X.prog X.w) X.A (getAttr (.ref a) f b) (EP X pins σ Q) E' s := by
  obtain ⟨mA, O, _, _, _, _⟩ := ins_get I.hok ea
  obtain ⟨od, J, _⟩ := O.look
  obtain ⟨rest, hrec⟩ := hp.rec_
  have I1 := I.tok (s.toks + 1)
  have hl : ([Value.ref a] ++ []).length = ps.length := by
    rw [← F.len _ _ _ _ h]; rfl
  have hc : (PySem.W.clsIn X.K C).isSome = true := by
    obtain ⟨cd, hc, _⟩ := PySem.W.any_some c.hd
    rw [hc]
    rfl
  refine PySem.W.get_bind I.kIn J (PySem.W.plainGet_of (c.get f)).1 (PySem.W.findObj_data hc hp.at_ hp.get hp.tak) (PySem.W.plainGet_of (c.get f)).2 (wpAny_call (PySem.W.prop_get (s := { s with toks := s.toks + 1 }) I.kIn hrec ?_))
  refine codeAny_mono (F.go X.A.in1 X.stack { s with toks := s.toks + 1 } H ⟨[.ref a], []⟩ [.ref a] [.ref a] Q noE gd hr.in1 I1.env0.in1 (hb _ [.ref a] I1.kIn hl) (.cons rfl .nil) h) fun r s' hq => ?_
  cases r with
  | error er => exact (by obtain ⟨a, B, H', cls, d, rfl, fl, hok, ub, na, os, ag, hE⟩ := hq; exact hE.elim)
  | ok fl =>
    cases fl with
    | ret u =>
      obtain ⟨v, H', I3, rv, q3⟩ := I1.after hq
      show wpAny _ _ (handedOut u) _ _ _
      rw [PySem.W.handedOut_of (handed_of rv)]
      exact wpAny_pure ⟨v, H', I3, rv, q3⟩
    | next => exact False.elim hq
    | brk => exact False.elim hq
    | cont => exact False.elim hq
theorem pe_propG (he : PE X e ta) (c : Cls X.K C) (hp : PropOf X.K C f p g) (F : FnG X.prog X.w X.K X.mg X.base (L2.CX X.prog X.w) k g fd ps sp) (gd : X.A.guards = some []) (hr : Room (k + 1) X.A) (hb : Binds X.K fd ps [])
    (hab : attributeBase e f X.env (eval e X.env) = eval e X.env := by rfl) : PE X (.Attribute e f pos) (tProp C sp [] noE ta) := by
  refine ⟨fun pins s σ H Q I h => ?_⟩
  refine attr_of hab (thn (he.run pins s σ H _ I h) fun u s1 ⟨x, H1, I1, rx, a, dx, fs, ex, ea, q⟩ => ?_)
  subst ex
  obtain rfl : u = Value.ref a := rx
  exact getpropG I1 ea c hp F gd hr hb q
end
def propM (c : Nat) (F : FM) (m : M) : M := fun env => (m env).bind fun d e => match d with
  | .obj c1 fs => if c1 = c then (match callS F [] [.d (.obj c1 fs)] e with | .ok v e' => .ok v e' | _ => .stk) else .stk
  | _ => .stk
section
variable {T : Tab} {W : WX} {X : Cx} {F : FM} {k c : Nat} {m : M} {e : Expr} {pos : Pos} {f : Str} {p g : Addr} {fd : FuncData} {ps : List Str} {env : Env}
theorem de_prop (h : DE T W X e .pure m) (cl : Cls X.K (T.clsA c)) (hp : PropOf X.K (T.clsA c) f p g) (G : FnG X.prog X.w X.K X.mg X.base (L2.CX X.prog X.w) k g fd ps (spF T .pure 1 F)) (gd : X.A.guards = some []) (hr : Room (k + 1) X.A) (hb : Binds X.K fd ps [])
    (hab : attributeBase e f X.env (eval e X.env) = eval e X.env := by rfl) : DE T W X (.Attribute e f pos) .pure (propM c F m) :=
  pe_imp (pe_propG h cl hp G gd hr hb hab) fun σ H Q h => by
    obtain ⟨env, P, RR, h⟩ := h
    refine ⟨env, P, RR, After.at h.bind fun d env1 P1 H1 _ R1 F1 h1 x kx nx => ?_⟩
    cases d with
    | obj c1 fs =>
      simp only at h1
      by_cases hc : c1 = c
      · rw [if_pos hc] at h1
        subst hc
        have kx : Rep T P1 (.obj c1 fs) x := kx
        obtain ⟨a, dx, vs, rfl, q1, q3⟩ := obj_rep kx
        refine ⟨a, dx, _, rfl, R1.sub _ _ q1, ?_⟩
        have k2 : SReps T σ P1 [.d (.obj c1 fs)] [.ref a] := .d kx .nil
        cases e2 : callS F [] [.d (.obj c1 fs)] env1 with
        | ok v env2 =>
          rw [e2] at h1
          exact callS_sp (T := T) (W := fun _ _ _ _ => False) (kr := .pure) (n := 1) (F := F) (dfl := []) (dvs := []) (xs := [.ref a]) (ss := [.d (.obj c1 fs)]) (H0 := H) (.inl rfl) (fun _ => Reps.nil) rfl R1 k2 (fun _ _ => trivial) (by
            rw [e2]; exact h1)
        | _ => rw [e2] at h1; exact h1.elim
      · rw [if_neg hc] at h1; exact h1.elim
    | _ => exact h1.elim
@[simp] theorem propM_s : propM c F m env = (m env).bind fun d e => match d with
  | .obj c1 fs => if c1 = c then (match callS F [] [.d (.obj c1 fs)] e with | .ok v e' => .ok v e' | _ => .stk) else .stk
  | _ => .stk := (rfl)
end
/-- the words of a property, by Bool -/
def proB (K : PySem.W.Frag) (C : Addr) (m : Str) : Bool := decide (PySem.W.findIn K (.ref C) m = some (some (.ref (He.ma K C m)))) && (decide (PySem.W.specialIn K (.ref (He.ma K C m)) "__get__" = some (some (.builtin "property.__get__"))) &&
  (decide (PySem.W.takesIn K (.ref (He.ma K C m)) = some true) && (match PySem.W.recIn K (He.ma K C m) "property" with
    | some (.ref g :: _) => decide (g = recF "property" K C m)
    | _ => false)))
theorem proB_ok {K : PySem.W.Frag} {C : Addr} {m : Str} (h : proB K C m = true) : PropOf K C m (He.ma K C m) (recF "property" K C m) := by
  obtain ⟨h1, h⟩ := He.ba h
  obtain ⟨h2, h⟩ := He.ba h
  obtain ⟨h3, h4⟩ := He.ba h
  refine ⟨of_decide_eq_true h1, of_decide_eq_true h2, of_decide_eq_true h3, ?_⟩
  split at h4
  · rename_i g rest e
    exact ⟨rest, by rw [e, of_decide_eq_true h4]⟩
  · cases h4
end Ue

set_option linter.all false
set_option Elab.async false
set_option maxRecDepth 100000
set_option maxHeartbeats 4000000
/-! a op b, a of an own class, b a plain value (int, bool, None, str) -/
namespace Ue
open PySem PySem.Spec PyProof.Rows L2
structure OpT (K : PySem.W.Frag) (C : Addr) (nm : String) (T : String) : Prop where
  fo : ∃ fo, PySem.W.findIn K (.type T) (PySem.dunder nm) = some fo
  ro : ∃ ro, PySem.W.findIn K (.type T) (PySem.dunderR nm) = some ro
  sub : PySem.W.subIn K (.type T) (.ref C) = some false
structure OpC (K : PySem.W.Frag) (C : Addr) (nm : String) : Prop where
  first : PySem.W.selfFirst K C = true
  rc : ∃ rc, PySem.W.findIn K (.ref C) (PySem.dunderR nm) = some rc ∧ (rc = none ∨ ∃ g : Addr, rc = some (.ref g))
  ty : ∀ T ∈ ["int", "bool", "NoneType", "str"], OpT K C nm T
def opTB (K : PySem.W.Frag) (C : Addr) (nm : String) : Bool := PySem.W.selfFirst K C && ((match PySem.W.findIn K (.ref C) (PySem.dunderR nm) with
    | some none => true
    | some (some (.ref _)) => true
    | _ => false) && ["int", "bool", "NoneType", "str"].all fun T => (PySem.W.findIn K (.type T) (PySem.dunder nm)).isSome && ((PySem.W.findIn K (.type T) (PySem.dunderR nm)).isSome && decide (PySem.W.subIn K (.type T) (.ref C) = some false)))
theorem opTB_ok {K : PySem.W.Frag} {C : Addr} {nm : String} (h : opTB K C nm = true) : OpC K C nm := by
  obtain ⟨h1, h⟩ := He.ba h
  obtain ⟨h2, h3⟩ := He.ba h
  refine ⟨h1, ?_, fun T hT => ?_⟩
  · split at h2
    · rename_i e; exact ⟨none, e, .inl rfl⟩
    · rename_i g e; exact ⟨_, e, .inr ⟨g, rfl⟩⟩
    · cases h2
  · obtain ⟨k1, k⟩ := He.ba (List.all_eq_true.mp h3 T hT)
    obtain ⟨k2, k3⟩ := He.ba k
    exact ⟨Option.isSome_iff_exists.mp k1, Option.isSome_iff_exists.mp k2, of_decide_eq_true k3⟩
section
variable {X : Cx} {Z : CXT} {k n : Nat} {C g f : Addr} {fd : FuncData} {ps : List Str} {sp : Sp} {E : L2.St → XK} {nm : Str} {pos : Pos} {a b : Expr} {ta tb : TE} {op : Operator}
/-- plain values -/
def immV : V → Prop | .int _ => True | .bl _ => True | .non => True | .str _ => True | _ => False
theorem imm_type {y : V} {u : Value} (h : immV y) (r : RelV y u) : ∃ T ∈ ["int", "bool", "NoneType", "str"], typeOf u = pure (.type T) := by
  cases y with
  | int i => obtain ⟨t, rfl⟩ := r; exact ⟨"int", by simp, rfl⟩
  | bl i => cases (show u = Value.bool i from r); exact ⟨"bool", by simp, rfl⟩
  | non => cases (show u = Value.none from r); exact ⟨"NoneType", by simp, rfl⟩
  | str i => obtain ⟨t, rfl⟩ := r; exact ⟨"str", by simp, rfl⟩
  | _ => exact h.elim
def tOpImm (C : Addr) (sp : Sp) (E : L2.St → XK) (ta tb : TE) : TE := fun σ H Q => ta σ H fun x H1 => tb σ H1 fun y H2 => ∃ p dx fs, x = .ref p ∧ H2 p = some (.ins C dx fs) ∧ immV y ∧ sp [x, y] H2 Q (E σ)
theorem pe_opImm (hnm : PySem.dunder op.info.2 = nm) (M : Meth X.K C nm f) (hc : OpC X.K C op.info.2) (F : FnG X.prog X.w X.K X.mg X.base Z k f fd ps sp) (gd : X.A.guards = some []) (hr : Room k X.A) (hb : Binds X.K fd ps []) (hx : ∀ σ, PassesAt Z X σ (E σ)) (ha : PE X a ta) (hb' : PE X b tb) :
    PE X (.BinOp a op b pos) (tOpImm C sp E ta tb) := ⟨fun pins s σ H Q I h => by
  refine wpAny_BinOp (thn (ha.run pins s σ H _ I h) ?_)
  rintro v s1 ⟨x, H1, I1, r1, q1⟩
  refine thn (hb'.run pins s1 σ H1 _ I1 q1) ?_
  rintro u s2 ⟨y, H2, I2, r2, p, dx, fs, rfl, e1, im, hsp⟩
  obtain rfl : v = Value.ref p := r1
  obtain ⟨mA, O, _⟩ := ins_get I2.hok e1
  obtain ⟨od, J, _⟩ := O.look
  obtain ⟨mm, hF⟩ := I2.fr
  obtain ⟨T, hT, ht⟩ := imm_type im r2
  obtain ⟨⟨fo, h1⟩, ⟨ro, h2⟩, hsub⟩ := hc.ty T hT
  obtain ⟨rc, hrc, hp⟩ := hc.rc
  refine PySem.W.ksp_binT hF I.ok.mod.kin J ht hc.first (by rw [hnm]; exact M.at_) M.fn hrc hp h1 h2 hsub ?_
  have rr : Vals [V.ref p, y] [Value.ref p, u] := .cons rfl (.cons r2 .nil)
  have bt : BindsTo s2 fd ⟨[.ref p, u], []⟩ (ps.zip [.ref p, u]) := hb s2 [.ref p, u] I2.kIn (rr.length.symm.trans (F.len _ _ _ _ hsp))
  exact thn (wpAny_call (F.code gd hr (hx σ) I2 bt rr hsp)) fun u s h => cmpBack_of h⟩
end
def immD : D → Bool | .int _ => true | .bl _ => true | .non => true | .str _ => true | _ => false
def opI (c : Nat) (F : FM) (ma mb : M) : M := fun env => (ma env).bind fun x e1 => (mb e1).bind fun y e2 => match x with
  | .obj c1 fs => if c1 = c ∧ immD y = true then callS F [] [.d (.obj c1 fs), .d y] e2 else .stk
  | _ => .stk
section
variable {T : Tab} {W : WX} {env : Env} {σ : L2.St} {P H : Hp} {X : Cx} {F : FM} {k c : Nat} {ma mb : M} {a b : Expr} {pos : Pos} {f : Addr} {fd : FuncData} {ps : List Str} {nm : Str} {op : Operator}
theorem immD_V {d : D} {y : V} (h : immD d = true) (r : Rep T P d y) : immV y := by
  cases d with
  | int i => rw [Rep] at r; subst r; trivial
  | bl i => rw [Rep] at r; subst r; trivial
  | non => rw [Rep] at r; subst r; trivial
  | str i => rw [Rep] at r; subst r; trivial
  | _ => cases h
theorem rd_opI {Q : VK} (h : rdE T W .pure (opI c F ma mb) σ H Q) : tOpImm (T.clsA c) (spF T .pure 2 F) (fun σ cls d H => W cls d σ H) (rdE T W .pure ma) (rdE T W .pure mb) σ H Q := by
  obtain ⟨env, P, RR, h⟩ := h
  refine ⟨env, P, RR, After.at h.bind fun d1 env1 P1 H1 _ R1 F1 h1 x kx nx => ?_⟩
  refine ⟨env1, P1, R1, After.at h1.bind fun d2 env2 P2 H2 e2 R2 F2 h2 y ky ny => ?_⟩
  have kx' : Rep T P2 d1 x := Rep.sub F2.mono _ _ kx
  have ky : Rep T P2 d2 y := ky
  cases d1 with
  | obj c1 fs =>
    simp only at h2
    by_cases hc : c1 = c ∧ immD d2 = true
    · rw [if_pos hc] at h2
      obtain ⟨rfl, him⟩ := hc
      have kx2 := kx'
      obtain ⟨p, dx, vs, rfl, q1, q3⟩ := obj_rep kx'
      refine ⟨p, dx, _, rfl, R2.sub _ _ q1, immD_V him ky, ?_⟩
      have k2 : SReps T σ P2 [.d (.obj c1 fs), .d d2] [.ref p, y] := .d kx2 (.d ky .nil)
      exact callS_sp (T := T) (W := W) (kr := .pure) (n := 2) (dfl := []) (dvs := []) (xs := [.ref p, y]) (H0 := H) (.inl rfl) (fun _ => Reps.nil) rfl R2 k2 (fun _ _ => trivial) h2
    · rw [if_neg hc] at h2; exact h2.elim
  | _ => exact h2.elim
theorem de_opI (hnm : PySem.dunder op.info.2 = nm) (M : Meth X.K (T.clsA c) nm f) (hc : OpC X.K (T.clsA c) op.info.2) (G : FnG X.prog X.w X.K X.mg X.base (L2.CX X.prog X.w) k f fd ps (spF T .pure 2 F)) (gd : X.A.guards = some []) (hr : Room k X.A) (hb : Binds X.K fd ps []) (tk : Takes X W) (ha : DE T W X a .pure ma) (hb' : DE T W X b .pure mb) :
    DE T W X (.BinOp a op b pos) .pure (opI c F ma mb) :=
  pe_imp (pe_opImm (E := fun σ cls d H => W cls d σ H) hnm M hc G gd hr hb (fun σ => passAt tk σ) ha hb') fun _ _ _ h => rd_opI h
@[simp] theorem opI_s : opI c F ma mb env = (ma env).bind fun x e1 => (mb e1).bind fun y e2 => match x with
  | .obj c1 fs => if c1 = c ∧ immD y = true then callS F [] [.d (.obj c1 fs), .d y] e2 else .stk
  | _ => .stk := (rfl)
@[simp] theorem immD_i {i : Int} : immD (.int i) = true := (rfl)
@[simp] theorem immD_b {i : Bool} : immD (.bl i) = true := (rfl)
@[simp] theorem immD_n : immD .non = true := (rfl)
@[simp] theorem immD_s {i : Str} : immD (.str i) = true := (rfl)
end
end Ue

set_option linter.all false
set_option Elab.async false
set_option maxRecDepth 100000
set_option maxHeartbeats 4000000
/-! a try with any clauses, named or not: clause by clause, each with what comes behind it -/
namespace Ue
open PySem PySem.Spec PyProof.Rows L2
/-- an error of a try's body, caught: it flies over the frames of X, s without it is sI -/
structure Caught (X : Cx) (pins : List (Addr × Obj)) (B : Heap) (sI s : Shared) (a : Addr) (cls : Value) (d : Option Addr) (σ : L2.St) (H : Hp) : Prop where
  inv : Inv X pins σ H sI
  ground : ∀ b o, sI.heap.get? b = some o → b ∉ frs X.stack → B.get? b = some o
  up : sI.heap.UpToSlots s.heap
  fly : HandSPX.FlyingZ B (X.env :: X.outer) a (Zc cls d) s.heap
  new : H a = none
  os : s.os = sI.os
  bare : AllBare s.gens
/-- the clauses hds, begun with a caught error that the wish w fits -/
def Cl (X : Cx) (pins : List (Addr × Obj)) (D : Ends) (hds : List ExceptHandler) (w : WX) : Prop :=
  ∀ (B : Heap) (sI s : Shared) (a : Addr) (cls : Value) (d : Option Addr) (σ : L2.St) (H : Hp), Caught X pins B sI s a cls d σ H → w cls d σ H → wpAny (model X.prog X.w) X.A (handleBy (.ref a) X.env hds) (SP X pins D) X.xe s
section
variable {X : Cx} {pins : List (Addr × Obj)} {B : Heap} {sI s : Shared} {a : Addr} {cls : Value} {d : Option Addr} {σ : L2.St} {H : Hp} {D : Ends} {w : WX}
theorem Caught.safe (C : Caught X pins B sI s a cls d σ H) : Inv X pins σ H s := C.inv.landed C.ground C.fly.1 C.up C.os C.bare
theorem Caught.moved {h : Heap} (C : Caught X pins B sI s a cls d σ H) (f : HandSPX.FlyingZ B (X.env :: X.outer) a (Zc cls d) h) (u : s.heap.UpToSlots h) : Caught X pins B sI { s with heap := h } a cls d σ H :=
  ⟨C.inv, C.ground, C.up.trans u, f, C.new, C.os, C.bare⟩
/-- the error's object, and that it is no frame -/
theorem Caught.obj (hf : X.env.frame = some X.env.locals) (C : Caught X pins B sI s a cls d σ H) : ∃ oe vs, s.heap.get? a = some oe ∧ Zc cls d oe ∧ oe.data = .fields vs ∧ Inv (X.suite a ((a, oe) :: (X.pn ++ pins))) [] σ H s := by
  obtain ⟨oe, vs, h1, h2, h3⟩ := C.fly.there
  have off : ∀ e : PySem.Env, e ∈ X.env :: X.outer → ∀ L, e.frame = some L → a ≠ L := fun e he L hL q => by
    obtain ⟨_, o, h4, h5⟩ := C.fly.2.2.1.mem (b := a) (List.mem_filterMap.mpr ⟨e, he, by rw [q]; exact hL⟩)
    rw [h1] at h4
    cases h4
    exact h5 _ h3
  refine ⟨oe, vs, h1, h2, h3, C.safe.suite h1 h3 C.new (off _ List.mem_cons_self _ hf) fun q => ?_⟩
  obtain ⟨e, he, hL⟩ := List.mem_filterMap.mp q
  exact off e (List.mem_cons_of_mem _ he) a hL rfl
theorem cl_nil (hs : X.stack = X.env :: X.outer) (hf : X.env.frame = some X.env.locals) (tk : Takes X w) : Cl X pins D [] w := fun B sI s a cls d σ H C hw => by
  obtain ⟨_, _, _, oe, vs, t, _, _, g1, _, g2, g3, _⟩ := id C.fly
  have out : wpAny (model X.prog X.w) X.A (setFlight (.ref a) X.env.frame) (fun _ s1 => wpAny (model X.prog X.w) X.A (throw (.ref a) : Sem Flow) (SP X pins D) X.xe s1) X.xe s := by
    rw [hf]
    refine HandSPX.setFlight_upZ C.fly fun h1 held u => wpAny_throw (tk _ _ ⟨a, B, sI, pins, σ, H, cls, d, rfl, C.inv, C.ground, C.up.trans u, .inr (.inr ?_), C.new, C.os, C.bare, hw⟩)
    rw [hs]
    exact held
  refine wpAny_handleBy_nil ?_
  unfold PySem.passOn
  refine wpAny_bind (wpAny_field g1 g2 g3 ?_)
  rw [if_neg (by simp : ¬ ((Value.ref t == Value.none) = true))]
  first | exact wpAny_bind (wpAny_pure (wpAny_bind out)) | exact wpAny_bind out
/-- what a clause's suite leaves, its name gone -/
def EndOf (X : Cx) (pins : List (Addr × Obj)) (D : Ends) (nm : Option Str) (pos : Pos) (r : Result) (s1 : Shared) : Prop := match r with
  | .ok f => (match nm with
    | none => SP X pins D f s1
    | some n => wpAny (model X.prog X.w) X.A (do bindName X.env n .none; unbindBehindTheSuite X.env n pos) (fun _ s2 => SP X pins D f s2) X.xe s1)
  | .error y => cameBackBy (model X.prog X.w) X.A X.env X.xe y s1
/-- the test of a clause, and what it leads to -/
theorem cl_test (hf : X.env.frame = some X.env.locals) {x : Str} {c : Value} {nm : Option Str} {np pos : Pos} {b₀ : Stmt} {suite : List Stmt} {rest : List ExceptHandler} (hc : Names X x c) {b : Bool}
    (C : Caught X pins B sI s a cls d σ H) (hb : PySem.W.exmOne X.K cls c = some b)
    (no : b = false → wpAny (model X.prog X.w) X.A (handleBy (.ref a) X.env rest) (SP X pins D) X.xe s)
    (yes : b = true → codeAny (model X.prog X.w) (X.A.mark (some (.ref a))) (.handlers (.ref a) [.ExceptHandler none nm (b₀ :: suite) pos] X.env) (EndOf X pins D nm pos) s) :
    wpAny (model X.prog X.w) X.A (handleBy (.ref a) X.env (.ExceptHandler (some (.Name x np)) nm (b₀ :: suite) pos :: rest)) (SP X pins D) X.xe s := by
  obtain ⟨oe, vs, h1, h2, h3, S⟩ := C.obj hf
  have kind : PySem.W.Looks (model X.prog X.w) s.heap (typeOf (.ref a)) cls := fun A Q E t k q => wpAny_typeOf_ref (k _ _ h1) (by rw [h2.1]; exact q)
  have ask := PySem.W.exm_one (M := model X.prog X.w) C.safe.kIn kind hb
  refine wpAny_handleBy_cons (codeAny_handlers_test ?_) (fun q => nomatch q)
  have name : ∀ {Q E : Value → Shared → Prop}, Q c s → wpAny (model X.prog X.w) (X.A.mark (some (.ref a))) (eval (.Name x np) X.env) Q E s := fun q => by
    obtain ⟨hg, hn, hm | ⟨hm, hv, hq⟩⟩ := hc
    · exact ld_glob (X := X.suite a ((a, oe) :: (X.pn ++ pins))) S hg hm q hn
    · exact ld_blt (X := X.suite a ((a, oe) :: (X.pn ++ pins))) S hg hm hv q hq hn
  refine name (ask.here ?_)
  cases b with
  | false => exact no rfl
  | true => exact yes rfl
/-- the ends of a clause with a name in slot i -/
def goneE (i : Nat) (D : Ends) : Ends := { nx := fun σ' H' => D.nx (σ'.set i none) H', rt := D.rt, bk := fun σ' H' => D.bk (σ'.set i none) H', ct := fun σ' H' => D.ct (σ'.set i none) H' }
theorem cl_as {x n : Str} {c : Value} {i : Nat} {np pos : Pos} {b₀ : Stmt} {suite : List Stmt} {rest : List ExceptHandler} {ts : Addr → Value → Option Addr → TS} (hf : X.env.frame = some X.env.locals) (hN : X.N.Nodup) (hi : X.N[i]? = some n) (hln : X.env.kindOf n = some .local) (hc : Names X x c)
    (hsu : ∀ (a : Addr) (oe : Obj) (cls : Value) (d : Option Addr) (pn : List (Addr × Obj)), Zc cls d oe → (∃ vs, oe.data = .fields vs) → PSs (X.suite a ((a, oe) :: pn)) (b₀ :: suite) (ts a cls d))
    (hr : Cl X pins D rest w) : Cl X pins D (.ExceptHandler (some (.Name x np)) (some n) (b₀ :: suite) pos :: rest) (wAs X.K c i ts w D) := fun B sI s a cls d σ H C ⟨b, hb, hit, miss⟩ => by
  refine cl_test hf hc C hb (fun q => hr B sI s a cls d σ H C (miss q)) fun q => codeAny_handlers_suite_as (HandSPX.lands_againZ C.fly fun h1 f1 u1 => ?_)
  obtain ⟨oe, vs, g1, g2, g3, S⟩ := (C.moved f1 u1).obj hf
  refine store_ok (X := X.suite a ((a, oe) :: (X.pn ++ pins))) (v := .ref a) S hN hi (.inl hln) rfl (fun s2 S2 => ?_) (.inr hln)
  refine wpAny_mono ((hsu a oe cls d (X.pn ++ pins) g2 ⟨_, g3⟩).run [] s2 _ H (goneE i D) S2 (hit q a C.new)) (fun f s3 h3 => ?_) (fun _ _ z => z.elim)
  show wpAny (model X.prog X.w) X.A (do bindName X.env n .none; unbindBehindTheSuite X.env n pos) (fun _ s4 => SP X pins D f s4) X.xe s3
  cases f with
  | ret u =>
    obtain ⟨v, σ3, H3, S3, r3, e3⟩ := h3
    exact gone_ok (S3.unsuite C.inv.ok) hN hi hln fun s4 S4 => ⟨v, _, H3, S4, r3, e3⟩
  | _ =>
    obtain ⟨σ3, H3, S3, e3⟩ := h3
    exact gone_ok (S3.unsuite C.inv.ok) hN hi hln fun s4 S4 => ⟨_, H3, S4, e3⟩
/-- the wish of a clause without a name -/
def wPl (K : PySem.W.Frag) (c : Value) (ts : Addr → Value → Option Addr → TS) (w : WX) (D : Ends) : WX := fun cls d σ H =>
  ∃ b, PySem.W.exmOne K cls c = some b ∧ (b = true → ∀ a, H a = none → ts a cls d D σ H) ∧ (b = false → w cls d σ H)
theorem cl_pl {x : Str} {c : Value} {np pos : Pos} {b₀ : Stmt} {suite : List Stmt} {rest : List ExceptHandler} {ts : Addr → Value → Option Addr → TS} (hf : X.env.frame = some X.env.locals) (hc : Names X x c)
    (hsu : ∀ (a : Addr) (oe : Obj) (cls : Value) (d : Option Addr) (pn : List (Addr × Obj)), Zc cls d oe → (∃ vs, oe.data = .fields vs) → PSs (X.suite a ((a, oe) :: pn)) (b₀ :: suite) (ts a cls d))
    (hr : Cl X pins D rest w) : Cl X pins D (.ExceptHandler (some (.Name x np)) none (b₀ :: suite) pos :: rest) (wPl X.K c ts w D) := fun B sI s a cls d σ H C ⟨b, hb, hit, miss⟩ => by
  refine cl_test hf hc C hb (fun q => hr B sI s a cls d σ H C (miss q)) fun q => codeAny_handlers_suite (HandSPX.lands_againZ C.fly fun h1 f1 u1 => ?_)
  obtain ⟨oe, vs, g1, g2, g3, S⟩ := (C.moved f1 u1).obj hf
  refine wpAny_mono ((hsu a oe cls d (X.pn ++ pins) g2 ⟨_, g3⟩).run [] _ _ H D S (hit q a C.new)) (fun f s3 h3 => ?_) (fun _ _ z => z.elim)
  show SP X pins D f s3
  cases f with
  | ret u =>
    obtain ⟨v, σ3, H3, S3, r3, e3⟩ := h3
    exact ⟨v, _, H3, S3.unsuite C.inv.ok, r3, e3⟩
  | _ =>
    obtain ⟨σ3, H3, S3, e3⟩ := h3
    exact ⟨_, H3, S3.unsuite C.inv.ok, e3⟩
/-- the try -/
theorem ps_try_cl {body : List Stmt} {h₀ : ExceptHandler} {hds : List ExceptHandler} {pos : Pos} {tb : WX → TS} {wc : Ends → WX} (hs : X.stack = X.env :: X.outer) (hf : X.env.frame = some X.env.locals)
    (hb : ∀ (W : WX) (pn : List (Addr × Obj)) (xe : Value → Shared → Prop), Takes (X.tr pn xe) W → PassesOwn (model X.prog X.w) X.A X.env xe → PSs (X.tr pn xe) body (tb W))
    (hc : ∀ pins D, Cl X pins D (h₀ :: hds) (wc D)) : PS X (.Try body (h₀ :: hds) [] [] pos) (fun D σ H => tb (wc D) D σ H) := by
  refine ⟨fun pins s σ H D I h => wpAny_Try_except ?_⟩
  have ok := I.ok
  refine wpAny_mono ((hb (wc D) (X.pn ++ pins) (fun e s1 => wpAny (model X.prog X.w) X.A (noteFrame e X.env) (fun _ s2 => wpAny (model X.prog X.w) X.A (setFlight e none) (fun _ s3 =>
    wpAny (model X.prog X.w) X.A (handleBy e X.env (h₀ :: hds)) (SP X pins D) X.xe s3) X.xe s2) X.xe s1) (fun u s1 q => ?_) PassesOwn.looking).run [] s σ H D (I.toTry _) h) (fun f s1 q => ?_) (fun _ _ q => q)
  · obtain ⟨a, B, sI, p1, σ1, H1, cls, d, rfl, J, g, up, sky, na, os, ag, hw⟩ := q
    have sky1 : Sky B (X.env :: X.outer) a (Zc cls d) X.env.locals s1.heap := hs ▸ sky
    exact Sky.land Zc.steady (by rw [ok.frames, hs]) hf sky1 fun h2 f2 u2 => hc pins D B sI { s1 with heap := h2 } a cls d σ1 H1 ⟨J.ofTry ok, g, up.trans u2, f2, na, os, ag⟩ hw
  · cases f with
    | next =>
      obtain ⟨σ1, H1, J, e⟩ := q
      exact wpAny_execs_nil ⟨σ1, H1, J.ofTry ok, e⟩
    | ret u =>
      obtain ⟨v, σ1, H1, J, r, e⟩ := q
      exact ⟨v, σ1, H1, J.ofTry ok, r, e⟩
    | _ =>
      obtain ⟨σ1, H1, J, e⟩ := q
      exact ⟨σ1, H1, J.ofTry ok, e⟩
end
end Ue

set_option linter.all false
set_option Elab.async false
set_option maxRecDepth 100000
set_option maxHeartbeats 4000000
/-! a try with any clauses, as a combinator -/
namespace Ue
open PySem PySem.Spec L2
/-- what the clauses make of an error -/
abbrev HM := Nat → List D → MS
def hNil : HM := fun c fs e => .exc c fs e
def hAs (caught : Nat → Option Bool) (i : Nat) (suite : MS) (rest : HM) : HM := fun c fs e => match caught c with
  | some true => if noEx e ∧ i < e.length then dropE i (suite (e.set i (some (.ex c fs)))) else .stk
  | some false => rest c fs e
  | none => .stk
def hPl (caught : Nat → Option Bool) (suite : MS) (rest : HM) : HM := fun c fs e => match caught c with
  | some true => (match suite e with | .exc _ _ _ => .stk | r => r)
  | some false => rest c fs e
  | none => .stk
def tryC (body : MS) (h : HM) : MS := fun env => match body env with
  | .exc c fs e => h c fs e
  | r => r
section
variable {T : Tab} {W : WX} {kr : Kd} {pins : List Nat} {X : Cx} {pos : Pos} {i : Nat} {D : Ends} {w : WX} {rest : HM}
/-- the clauses' combinator keeps their wish -/
def HandD (T : Tab) (W : WX) (kr : Kd) (pins : List Nat) (D : Ends) (w : WX) (h : HM) : Prop :=
  ∀ (env : Env) (σ : L2.St) (P H : Hp) (c : Nat) (fs : List Ue.D) (dd : Option Addr), Rel T env σ P H → ExRep T P c fs (.ref (T.excA c)) dd → AfterS T W kr pins env σ P H (h c fs env) D → w (.ref (T.excA c)) dd σ H
theorem hand_nil : HandD T W kr pins D W hNil := fun env σ P H c fs dd R1 x h => h σ P H _ dd R1 (Fr.refl _ _ _ _) FrP.refl x
theorem hand_pl {cv : Value} {caught : Nat → Option Bool} {ms : MS} (hx : ∀ c b, caught c = some b → PySem.W.exmOne X.K (.ref (T.excA c)) cv = some b) (hr : HandD T W kr pins D w rest) :
    HandD T W kr pins D (wPl X.K cv (fun _ _ _ => rdS T W0 kr pins ms) w D) (hPl caught ms rest) := fun env σ P H c fs dd R1 x h => by
  unfold hPl at h
  cases q : caught c with
  | none => rw [q] at h; exact h.elim
  | some b =>
    rw [q] at h
    refine ⟨b, hx c b q, fun hb a ha => ⟨env, P, R1, ?_⟩, fun hb => ?_⟩
    · subst hb
      simp only at h
      cases e : ms env with
      | exc _ _ _ => rw [e] at h; exact h.elim
      | nx _ => rw [e] at h; exact h
      | brk _ => rw [e] at h; exact h
      | cnt _ => rw [e] at h; exact h
      | ret _ _ => rw [e] at h; exact h
      | stk => rw [e] at h; exact h
    · subst hb
      exact hr env σ P H c fs dd R1 x h
theorem hand_as {cv : Value} {caught : Nat → Option Bool} {ms : MS} (hT : T.nb = T) (hkr : kr = .pure ∨ kr = .fresh) (hpi : i ∉ pins) (hx : ∀ c b, caught c = some b → PySem.W.exmOne X.K (.ref (T.excA c)) cv = some b) (hr : HandD T W kr pins D w rest) :
    HandD T W kr pins D (wAs X.K cv i (fun a cls d => rdS { T with cur := some (a, d, cls) } W0 kr pins ms) w D) (hAs caught i ms rest) := fun env σ P H c fs dd R1 x h => by
  unfold hAs at h
  cases q : caught c with
  | none => rw [q] at h; exact h.elim
  | some b =>
    rw [q] at h
    refine ⟨b, hx c b q, fun hb a ha => ?_, fun hb => ?_⟩
    · subst hb
      simp only at h
      by_cases g : noEx env ∧ i < env.length
      · rw [if_pos g] at h
        obtain ⟨R2, F2⟩ := R1.putEx (T' := { T with cur := some (a, dd, .ref (T.excA c)) }) (c := c) (fs := fs) (a := a) g.1 rfl g.2 (fun a' d' cls' hc => by cases hc; exact ⟨rfl, ExRep.bn (T := { T with cur := some (a, dd, .ref (T.excA c)) }) x.toB⟩)
        refine ⟨_, P, R2, ?_⟩
        have back : ∀ {e3 : Env} {σ' : L2.St} {P' H' : Hp}, Rel { T with cur := some (a, dd, .ref (T.excA c)) } e3 σ' P' H' → Rel T e3 σ' P' H' := fun {e3 σ' P' H'} r => by
          have r2 : Rel T.nb e3 σ' P' H' := r.nb
          rw [hT] at r2; exact r2
        have gone : ∀ {e3 : Env} {σ' : L2.St} {P' H' : Hp}, Rel { T with cur := some (a, dd, .ref (T.excA c)) } e3 σ' P' H' → Fr (env.set i (some (.ex c fs))) (σ.set i (some (.ref a))) P H e3 σ' P' H' → FrP pins (σ.set i (some (.ref a))) σ' →
            Rel T (e3.set i none) (σ'.set i none) P' H' ∧ Fr env σ P H (e3.set i none) (σ'.set i none) P' H' ∧ FrP pins σ (σ'.set i none) := fun {e3 σ' P' H'} R3 F3 p3 => by
          obtain ⟨R4, F4⟩ := (back R3).drop (i := i) (σ' := σ'.set i none) List.length_set fun j hj => List.getElem?_set_ne (fun z => hj z.symm)
          exact ⟨R4, (F2.trans F3).trans F4, ((FrP.set hpi).trans p3).trans (FrP.set hpi)⟩
        cases e2 : ms (env.set i (some (.ex c fs))) with
        | nx e3 => rw [e2] at h; exact fun σ' P' H' R3 F3 p3 => h _ P' H' (gone R3 F3 p3).1 (gone R3 F3 p3).2.1 (gone R3 F3 p3).2.2
        | brk e3 => rw [e2] at h; exact fun σ' P' H' R3 F3 p3 => h _ P' H' (gone R3 F3 p3).1 (gone R3 F3 p3).2.1 (gone R3 F3 p3).2.2
        | cnt e3 => rw [e2] at h; exact fun σ' P' H' R3 F3 p3 => h _ P' H' (gone R3 F3 p3).1 (gone R3 F3 p3).2.1 (gone R3 F3 p3).2.2
        | ret d e3 =>
          rw [e2] at h
          intro σ' P' H' y R3 F3 p3 ky ny
          obtain ⟨R4, F4⟩ := (back R3).drop (i := i) (σ' := σ') rfl (fun _ _ => rfl)
          refine h σ' P' H' y R4 ((F2.trans F3).trans F4) ((FrP.set hpi).trans p3) ?_ ?_
          · rcases hkr with rfl | rfl
            · have k2 : Rep { T with cur := some (a, dd, .ref (T.excA c)) } P' d y := ky
              have k3 := (rep_nb d y).mpr k2
              exact (rep_nb (T := T) d y).mp k3
            · obtain ⟨b, ws, ds, q1, q2, q3, q4, q5, q6⟩ := ky
              have k3 := (reps_nb ds ws).mpr q5
              exact ⟨b, ws, ds, q1, q2, q3, F4.own b (by rw [q2]; exact fun z => nomatch z) q4, (reps_nb (T := T) ds ws).mp k3, q6⟩
          · rcases hkr with rfl | rfl
            · trivial
            · obtain ⟨b, eb, hb⟩ := ny
              refine ⟨b, eb, ?_⟩
              rcases hb with hb | hb
              · exact .inl hb
              · by_cases z : H b = none
                · exact .inl z
                · exact .inr (Classical.byContradiction fun w => F2.own b z w hb)
        | exc _ _ _ => rw [e2] at h; exact h.elim
        | stk => rw [e2] at h; exact h.elim
      · rw [if_neg g] at h; exact h.elim
    · subst hb
      exact hr env σ P H c fs dd R1 x h
/-- clauses and their combinator -/
def ClD (T : Tab) (W : WX) (kr : Kd) (pins : List Nat) (X : Cx) (hds : List ExceptHandler) (h : HM) : Prop :=
  ∃ wc : Ends → WX, (∀ pn D, Cl X pn D hds (wc D)) ∧ ∀ D, HandD T W kr pins D (wc D) h
theorem clD_nil (hs : X.stack = X.env :: X.outer) (hf : X.env.frame = some X.env.locals) (tk : Takes X W) : ClD T W kr pins X [] hNil := ⟨fun _ => W, fun _ _ => cl_nil hs hf tk, fun _ => hand_nil⟩
theorem clD_pl {x : Str} {cv : Value} {np pos : Pos} {b₀ : Stmt} {suite : List Stmt} {hds : List ExceptHandler} {h : HM} {caught : Nat → Option Bool} {ms : MS} (hf : X.env.frame = some X.env.locals) (hc : Names X x cv)
    (hx : ∀ c b, caught c = some b → PySem.W.exmOne X.K (.ref (T.excA c)) cv = some b)
    (hsu : ∀ (a : Addr) (oe : Obj) (cls : Value) (d : Option Addr) (pn : List (Addr × Obj)), Zc cls d oe → (∃ vs, oe.data = .fields vs) → DSs T W0 kr pins (X.suite a ((a, oe) :: pn)) (b₀ :: suite) ms)
    (r : ClD T W kr pins X hds h) : ClD T W kr pins X (.ExceptHandler (some (.Name x np)) none (b₀ :: suite) pos :: hds) (hPl caught ms h) := by
  obtain ⟨wc, r1, r2⟩ := r
  exact ⟨fun D => wPl X.K cv (fun _ _ _ => rdS T W0 kr pins ms) (wc D) D, fun pn D => cl_pl (ts := fun _ _ _ => rdS T W0 kr pins ms) hf hc (fun a oe cls d pn h1 h2 => hsu a oe cls d pn h1 h2) (r1 pn D), fun D => hand_pl hx (r2 D)⟩
theorem clD_as {x n : Str} {cv : Value} {np pos : Pos} {b₀ : Stmt} {suite : List Stmt} {hds : List ExceptHandler} {h : HM} {caught : Nat → Option Bool} {ms : MS} (hT : T.nb = T) (hkr : kr = .pure ∨ kr = .fresh) (hf : X.env.frame = some X.env.locals) (hN : X.N.Nodup) (hi : X.N[i]? = some n) (hln : X.env.kindOf n = some .local)
    (hc : Names X x cv) (hpi : i ∉ pins) (hx : ∀ c b, caught c = some b → PySem.W.exmOne X.K (.ref (T.excA c)) cv = some b)
    (hsu : ∀ (a : Addr) (oe : Obj) (cls : Value) (d : Option Addr) (pn : List (Addr × Obj)), Zc cls d oe → (∃ vs, oe.data = .fields vs) → DSs { T with cur := some (a, d, cls) } W0 kr pins (X.suite a ((a, oe) :: pn)) (b₀ :: suite) ms)
    (r : ClD T W kr pins X hds h) : ClD T W kr pins X (.ExceptHandler (some (.Name x np)) (some n) (b₀ :: suite) pos :: hds) (hAs caught i ms h) := by
  obtain ⟨wc, r1, r2⟩ := r
  exact ⟨fun D => wAs X.K cv i (fun a cls d => rdS { T with cur := some (a, d, cls) } W0 kr pins ms) (wc D) D, fun pn D => cl_as (ts := fun a cls d => rdS { T with cur := some (a, d, cls) } W0 kr pins ms) hf hN hi hln hc (fun a oe cls d pn h1 h2 => hsu a oe cls d pn h1 h2) (r1 pn D), fun D => hand_as hT hkr hpi hx (r2 D)⟩
theorem ds_tryC {body : List Stmt} {h₀ : ExceptHandler} {hds : List ExceptHandler} {mb : MS} {h : HM} (hs : X.stack = X.env :: X.outer) (hf : X.env.frame = some X.env.locals)
    (hb : ∀ (W' : WX) (pn : List (Addr × Obj)) (xe : Value → Shared → Prop), Takes (X.tr pn xe) W' → PassesOwn (model X.prog X.w) X.A X.env xe → DSs T W' kr pins (X.tr pn xe) body mb)
    (r : ClD T W kr pins X (h₀ :: hds) h) : DS T W kr pins X (.Try body (h₀ :: hds) [] [] pos) (tryC mb h) := by
  obtain ⟨wc, hc, hd⟩ := r
  refine ps_imp (ps_try_cl hs hf (fun W' pn xe t p => hb W' pn xe t p) hc) fun D σ H h0 => ?_
  obtain ⟨env, P, RR, h0⟩ := h0
  refine ⟨env, P, RR, ?_⟩
  unfold tryC at h0
  cases e : mb env with
  | exc c fs e1 =>
    rw [e] at h0
    intro σ1 P1 H1 cls dd R1 F1 p1 x1
    have x0 := x1
    obtain ⟨rfl, _⟩ := x1
    exact hd D e1 σ1 P1 H1 c fs dd R1 x0 (AfterS.step h0 F1 p1)
  | _ => rw [e] at h0; exact h0
end
def SR.caC (r : SR) (h : HM) : SR := match r with | .exc c fs e => h c fs e | r => r
section
variable {e : Env} {d : D} {c : Nat} {fs : List D} {h : HM}
@[simp] theorem tryC_s {s : MS} {env : Env} : tryC s h env = (s env).caC h := (rfl)
@[simp] theorem caC_nx : (SR.nx e).caC h = .nx e := (rfl)
@[simp] theorem caC_ret : (SR.ret d e).caC h = .ret d e := (rfl)
@[simp] theorem caC_exc : (SR.exc c fs e).caC h = h c fs e := (rfl)
@[simp] theorem hNil_s : hNil c fs e = .exc c fs e := (rfl)
@[simp] theorem hAs_s {caught : Nat → Option Bool} {i : Nat} {s : MS} {rest : HM} : hAs caught i s rest c fs e = match caught c with
  | some true => if noEx e ∧ i < e.length then dropE i (s (e.set i (some (.ex c fs)))) else .stk
  | some false => rest c fs e
  | none => .stk := (rfl)
@[simp] theorem hPl_s {caught : Nat → Option Bool} {s : MS} {rest : HM} : hPl caught s rest c fs e = match caught c with
  | some true => (match s e with | .exc _ _ _ => .stk | r => r)
  | some false => rest c fs e
  | none => .stk := (rfl)
end
end Ue

set_option linter.all false
set_option Elab.async false
set_option maxRecDepth 100000
set_option maxHeartbeats 4000000
/-! min(e, default=None) of a list of ints -/
namespace L2
open PySem PySem.Spec PyProof.Rows
section
variable {X : Cx}
def rMinD (K : PySem.W.Frag) : List V → List V → Hp → VK → Prop := fun vs zs H Q => ∃ (a : Addr) (ns : List Int) (z : V), vs = [V.ref a] ∧ zs = [z] ∧ SqL K H a (ns.map V.int) ∧ (ns = [] → Q z H) ∧ ∀ m, m ∈ ns → (∀ y, y ∈ ns → m ≤ y) → Q (.int m) H
theorem reads_of_ints {h : Heap} : ∀ {its : List Value} {ns : List Int}, IntsAre its ns → ∃ as, ReadsAll h its (ns.map PyData.int) as
  | _, _, .nil => ⟨_, .nil⟩
  | _, _, .cons n t r => by
    obtain ⟨as, q⟩ := reads_of_ints r
    exact ⟨_, .cons (.int n t) q⟩
theorem minL_mem (n : Int) (ns : List Int) : ns.foldl min n ∈ n :: ns ∧ ∀ y ∈ n :: ns, ns.foldl min n ≤ y := by
  induction ns generalizing n with
  | nil => exact ⟨List.mem_singleton.mpr rfl, fun y hy => by rw [List.mem_singleton.mp hy]; exact Int.le_refl _⟩
  | cons a ns ih =>
    obtain ⟨h1, h2⟩ := ih (min n a)
    have hm : min n a ≤ n ∧ min n a ≤ a ∧ (min n a = n ∨ min n a = a) := by omega
    refine ⟨?_, fun y hy => ?_⟩
    · rcases List.mem_cons.mp h1 with h | h
      · rw [List.foldl_cons, h]
        rcases hm.2.2 with e | e
        · rw [e]; exact List.mem_cons_self
        · rw [e]; exact List.mem_cons_of_mem _ List.mem_cons_self
      · exact List.mem_cons_of_mem _ (List.mem_cons_of_mem _ h)
    · rw [List.foldl_cons]
      have h3 := h2 (min n a) List.mem_cons_self
      rcases List.mem_cons.mp hy with rfl | hy
      · omega
      · rcases List.mem_cons.mp hy with rfl | hy
        · omega
        · exact h2 y (List.mem_cons_of_mem _ hy)
theorem alike_ints (ns : List Int) : PySem.W.AlikeAll (ns.map PyData.int) := by
  constructor
  · intro x hx y hy
    obtain ⟨i, _, rfl⟩ := List.mem_map.mp hx
    obtain ⟨j, _, rfl⟩ := List.mem_map.mp hy
    rfl
  · intro x hx
    obtain ⟨i, _, rfl⟩ := List.mem_map.mp hx
    exact fun z => nomatch z
theorem cr_minD (hc : X.calm = true) (hu : X.A.units + 65 < cLine) : CallRK X (.builtin "min") [Str.ofString "default"] (rMinD X.K) := by
  intro pins s σ H vs zs us ws Q I r rk h
  obtain ⟨a, ns, z, rfl, rfl, hs, h0, h1⟩ := h
  obtain ⟨its, rv, hl, _⟩ := I.list hs
  have hi := rv.ints
  obtain ⟨d, rfl, rd⟩ : ∃ d, ws = [d] ∧ RelV z d := by
    cases rk with | cons p q => cases q; exact ⟨_, rfl, p⟩
  rw [Vals.ref1 r]
  obtain ⟨as, ra⟩ := reads_of_ints (h := s.heap) hi
  refine PySem.W.min_list_default (I.ok.hd hc) hl.isList ra (alike_ints ns) (by rw [Ue.depth_ints]; omega) (fun e h' tk k => ⟨z, H, I.kept k, rd, h0 (List.map_eq_nil_iff.mp e)⟩) fun y ys i v h' tk bs e hv rv' k => ?_
  cases ns with
  | nil => cases e
  | cons n ns =>
    obtain ⟨rfl, rfl⟩ : PyData.int n = y ∧ ns.map PyData.int = ys := by simpa using e
    rw [PySem.W.minD_ints] at rv'
    obtain ⟨t, rfl⟩ : ∃ t, v = .int (ns.foldl min n) t := by cases rv'; exact ⟨_, rfl⟩
    obtain ⟨m1, m2⟩ := minL_mem n ns
    exact ⟨.int _, H, I.kept k, ⟨_, rfl⟩, h1 _ m1 m2⟩
end
end L2
namespace Ue
open PySem PySem.Spec PyProof.Rows L2
def minDM (m : M) : M := fun env => (m env).bind fun d e => match d with
  | .lst ds => (match dInts ds with | some [] => .ok .non e | some (n :: ns) => .ok (.int (minOf (n :: ns))) e | none => .stk)
  | _ => .stk
section
variable {T : Tab} {W : WX} {X : Cx} {k : Nat} {ke : Kd} {m : M} {e : Expr} {p pos kp q : Pos} {j : Nat}
theorem de_minD (hK : X.K = T.K) (hc : X.calm = true) (hr : Room k X.A) (hg : Gl X "min") (hm : X.mg "min" = none) (h : DE T W X e ke m)
    (he : starEach [e] X.env = [(false, eval e X.env)] := by rfl)
    (he2 : backTo pos (starEach [e] X.env) = (false, eval e X.env) :: backTo pos (starEach [] X.env) := by rfl) (hpl : (backTo pos (starEach [e] X.env)).any (·.1) = false := by rfl)
    (hall : (backToKw pos (keywordEach [⟨some "default", .Constant .none j q, kp⟩] X.env)).all (·.1.isSome) = true := by rfl) (hnone : (backToKw pos (keywordEach [⟨some "default", .Constant .none j q, kp⟩] X.env)).any (·.1.isNone) = false := by rfl)
    (hks : (backToKw pos (keywordEach [⟨some "default", .Constant .none j q, kp⟩] X.env)).filterMap (·.1) = [Str.ofString "default"] := by rfl) :
    DE T W X (.Call (.Name "min" p) [e] [⟨some "default", .Constant .none j q, kp⟩] pos) .pure (minDM m) := by
  refine pe_imp (pe_callBK (cr_minD hc (hu65 hr)) hg hm (by decide +kernel) (pa_cons h pa_nil he) (pk_cons pe_non pk_nil) (by decide) (by decide) he2 hpl hall hnone hks) fun σ H Q h => ?_
  obtain ⟨env, P, RR, h⟩ := h
  refine ⟨env, P, RR, After.at h.bind fun d env1 P1 H1 _ R1 F1 h1 x kx _ => ?_⟩
  cases d with
  | lst ds =>
    cases q : dInts ds with
    | none => simp only [q] at h1; exact h1.elim
    | some ns =>
      simp only [q] at h1
      obtain ⟨a, rfl, hs⟩ := (kx.rdb R1).intsE R1.sub q
      refine ⟨a, ns, .non, rfl, rfl, hK ▸ hs, fun e => ?_, fun mi hm hle => ?_⟩
      · subst e; exact h1.here R1 (Fr.refl _ _ _ _) _ (show Rep T P1 .non .non from rep_non) trivial
      · cases ns with
        | nil => cases hm
        | cons n ns =>
          obtain ⟨g1, g2, g3⟩ := minOf_le ns n
          have em : mi = minOf (n :: ns) := by
            have m1 : minOf (n :: ns) ≤ mi := by
              rcases List.mem_cons.mp hm with rfl | hm
              · exact g1
              · exact g2 mi hm
            have m2 : mi ≤ minOf (n :: ns) := by
              rcases g3 with g3 | g3
              · rw [show minOf (n :: ns) = n from g3]; exact hle n List.mem_cons_self
              · exact hle _ (List.mem_cons_of_mem _ g3)
            omega
          subst em
          exact h1.here R1 (Fr.refl _ _ _ _) _ (show Rep T P1 (.int _) (.int _) from rep_int) trivial
  | _ => exact h1.elim
end
@[simp] theorem minDM_s {m : M} {env : Env} : minDM m env = (m env).bind fun d e => match d with
  | .lst ds => (match dInts ds with | some [] => .ok .non e | some (n :: ns) => .ok (.int (minOf (n :: ns))) e | none => .stk)
  | _ => .stk := (rfl)
end Ue

set_option linter.all false
set_option Elab.async false
set_option maxRecDepth 100000
set_option maxHeartbeats 4000000
/-! o(e, ..): an instance called, by its class's own __call__ -/
namespace Ue
open PySem PySem.Spec PyProof.Rows L2
section
variable {prog : Program} {w : World} {A : Around} {E : Value → Shared → Prop} {s : Shared} {K : PySem.W.Frag} {a C dx f : Addr} {us : List Value} {Q : Value → Shared → Prop} {od : Option Obj}
theorem call_inst (X : K.In s.heap) (ho : s.heap.get? a = some (PySem.W.instObj C dx)) (I : PySem.W.InstAt s.heap a (PySem.W.instObj C dx) C od) (hs : PySem.W.findIn K (.ref C) "__call__" = some (some (.ref f))) (hf : PySem.W.typeIn K (.ref f) = some (.type "function")) (hfn : PySem.W.fnIn K f = true)
    (h : codeAny (model prog w) A (.call (.ref f) ⟨.ref a :: us, []⟩) (fun r t => match r with | .ok (.ret u) => Q u t | .ok _ => False | .error er => E er t) s) : wpAny (model prog w) A (call (.ref a) us) Q E s := by
  have L : PySem.W.Looks (model prog w) s.heap (callAny.plainCallee (.ref f)) true := fun A' Q' E' t k q => by
    unfold PySem.W.fnIn at hfn
    split at hfn
    · rename_i c d fd sl e
      unfold callAny.plainCallee
      exact wpAny_bind (wpAny_load (k _ _ (X _ _ e)) (wpAny_pure q))
    · cases hfn
  refine wpAny_call (codeAny_of_tree ?_)
  show wpAny _ A.in1 (callAny (.ref a) ⟨us, []⟩) _ _ s
  unfold callAny
  refine wpAny_bind (wpAny_load ho ?_)
  show wpAny _ A.in1 (callAny.viaDunder (.ref a) ⟨us, []⟩) _ _ s
  unfold callAny.viaDunder
  refine wpAny_bind (wpAny_bind (I.type.here ((PySem.W.looks_findIn X hs).here ?_)))
  refine wpAny_bind ((PySem.W.bind_fn X (.ref a) hf).here ?_)
  refine wpAny_bind (L.here ?_)
  rw [if_pos rfl]
  exact wpAny_pure ⟨rfl, h⟩
/-- its arguments are evaluated ahead, it itself before them -/
theorem callWith_inst {env : PySem.Env} {pos : Pos} {e : Expr} {rest : List Expr} (h : wpAny (model prog w) A (spliced (backTo pos (starEach (e :: rest) env))) (fun vs t => (∃ dx, t.heap.get? a = some (PySem.W.instObj C dx)) ∧ wpAny (model prog w) A (call (.ref a) vs) Q E t) E s)
    (he : starEach (e :: rest) env = (false, eval e env) :: starEach rest env) (hp : (backTo pos (starEach rest env)).any (·.1) = false) :
    wpAny (model prog w) A (callWith pos (.ref a) [] (backTo pos (starEach (e :: rest) env)) []) Q E s := by
  have hpl : ((backTo pos (starEach (e :: rest) env)).any (·.1) || ([] : List (Option Str × Sem Value)).any (·.1.isNone)) = false := by
    rw [he]
    show ((false || (backTo pos (starEach rest env)).any (·.1)) || false) = false
    rw [hp]; rfl
  unfold callWith
  simp only [hpl]
  have ev : wpAny (model prog w) A (evalArgs (.ref a) true (backTo pos (starEach (e :: rest) env)) []) (fun r t => (∃ dx, t.heap.get? a = some (PySem.W.instObj C dx)) ∧ wpAny (model prog w) A (call (.ref a) ([] ++ r.pos) r.kw) Q E t) E s := by
    rw [he] at h ⊢
    exact Calls.evalArgs_plain h
  refine wpAny_bind (wpAny_holding (wpAny_mono ev (fun r t ⟨⟨_, ho⟩, hc⟩ => wpAny_bind (wpAny_standAt ?_)) fun _ _ z => z))
  unfold keeperOf
  refine wpAny_bind (wpAny_bind (wpAny_load ho ?_))
  refine wpAny_pure ?_
  refine wpAny_bind (wpAny_operateT (wpAny_mono hc (fun v t1 q => wpAny_bind (wpAny_holding (wpAny_point (wpAny_pure q)))) fun _ _ z => z))
end
/-- an object, then the arguments; the object still stands -/
def tCallO (C : Addr) (sp : Sp) (dvs : List V) (E : L2.St → XK) (ta : TE) (t : TA) : TE := fun σ H Q => ta σ H fun x H1 => ∃ a, x = .ref a ∧ t σ H1 fun vs H2 => (∃ dx fs, H2 a = some (.ins C dx fs)) ∧ sp (.ref a :: (vs ++ dvs)) H2 Q (E σ)
section
variable {X : Cx} {Z : CXT} {k : Nat} {C f : Addr} {fd : FuncData} {ps : List Str} {ds : List Value} {dvs : List V} {sp : Sp} {E : L2.St → XK} {x : Str} {p pos : Pos} {e : Expr} {es : List Expr} {ta : TE} {t : TA}
theorem pe_callO {ce : Expr} (hce : eval (.Call ce (e :: es) [] pos) X.env = (do callWith pos (← eval ce X.env) [] (backTo pos (starEach (e :: es) X.env)) (backToKw pos (keywordEach [] X.env)))) (he : PE X ce ta) (hm : Meth X.K C "__call__" f) (hfn : PySem.W.fnIn X.K f = true) (F : FnG X.prog X.w X.K X.mg X.base Z k f fd ps sp) (gd : X.A.guards = some []) (hr : Room k X.A) (hb : Binds X.K fd ps ds) (hd : Vals dvs ds) (hx : ∀ σ, PassesAt Z X σ (E σ)) (ha : PA X (e :: es) t)
    (hs : starEach (e :: es) X.env = (false, eval e X.env) :: starEach es X.env) (hp : (backTo pos (starEach es X.env)).any (·.1) = false) : PE X (.Call ce (e :: es) [] pos) (tCallO C sp dvs E ta t) := ⟨fun pins s σ H Q I h => by
  rw [hce]
  refine wpAny_bind (thn (he.run pins s σ H _ I h) ?_)
  rintro u s1 ⟨v, H1, I1, rv, a, ex, q⟩
  subst ex
  have hu : u = Value.ref a := rv
  subst hu
  refine callWith_inst (C := C) (thn (ha.run pos pins s1 σ H1 _ I1 q) ?_) hs hp
  rintro us s2 ⟨vs, H2, I2, r, ⟨dx, fs, ea⟩, q2⟩
  obtain ⟨mA, O, _⟩ := ins_get I2.hok ea
  obtain ⟨od, J, _⟩ := O.look
  refine ⟨⟨dx, O.obj⟩, call_inst I2.kIn O.obj J hm.at_ (beq_iff_eq.mp hm.fn) hfn ?_⟩
  have rr : Vals (.ref a :: (vs ++ dvs)) (Value.ref a :: (us ++ ds)) := .cons rfl (r.append hd)
  refine codeAny_mono (F.codeA gd hr rfl (hx σ) I2 (hb s2 (.ref a :: us) I2.kIn (rr.length.symm.trans (F.len _ _ _ _ q2))) rr q2) fun res t1 hq => ?_
  match res, hq with
  | .error er, hq => exact hq
  | .ok (.ret u), hq => exact I2.after hq
  | .ok .next, hq => exact hq
  | .ok .brk, hq => exact hq
  | .ok .cont, hq => exact hq⟩
end
section
variable {T : Tab} {W : WX} {kr : Kd} {X : Cx} {σ : L2.St} {H : Hp} {Q : VK} {c n k : Nat} {F : FM} {mo : M} {ags : List Ag} {dfl : List D} {dvs : List V} {ds : List Value} {f : Addr} {fd : FuncData} {ps : List Str} {x : Str} {p pos : Pos} {e : Expr} {es : List Expr}
theorem rd_callO (hkr : kr = .pure ∨ kr = .fresh) (hdr : ∀ P, Reps T P dfl dvs) (hn : ags.length + 1 + dfl.length = n) (h : rdE T W kr (methM c F mo ags dfl) σ H Q) :
    tCallO (T.clsA c) (spF T kr n F) dvs (fun σ cls d H => W cls d σ H) (rdE T W .pure mo) (rdP T W ags) σ H Q := by
  obtain ⟨env, P, RR, h⟩ := h
  refine ⟨env, P, RR, After.mono h.bind fun d env1 P1 H1 R1 F1 h1 x kx nx => ?_⟩
  cases d with
  | obj c' fs =>
    simp only at h1
    by_cases hc : c' = c
    · subst hc
      rw [if_pos rfl] at h1
      have kx : Rep T P1 (.obj c' fs) x := kx
      have ky := kx
      rw [Rep] at kx
      obtain ⟨a, dx, vs, rfl, q1, q2, q3⟩ := kx
      refine ⟨a, rfl, env1, P1, R1, After.at h1.bind fun ss env2 P2 H2 es R2 F2 h2 xs kxs => ?_⟩
      have k2 : SReps T σ P2 (.d (.obj c' fs) :: ss) (.ref a :: xs) := .d (Rep.sub F2.mono _ _ ky) kxs
      exact ⟨⟨dx, _, R2.sub _ _ (F2.mono _ _ q1)⟩, callS_sp (xs := .ref a :: xs) hkr hdr (by rw [List.length_cons, argG_len es]; omega) R2 k2 (fun x nx => (nx.back F2).back F1) h2⟩
    · rw [if_neg hc] at h1; exact False.elim h1
  | _ => exact False.elim h1
theorem de_callO {ce : Expr} (hkr : kr = .pure ∨ kr = .fresh) (he : DE T W X ce .pure mo) (hm : Meth X.K (T.clsA c) "__call__" f) (hfn : PySem.W.fnIn X.K f = true) (G : FnG X.prog X.w X.K X.mg X.base (L2.CX X.prog X.w) k f fd ps (spF T kr n F)) (gd : X.A.guards = some []) (hr : Room k X.A)
    (hb : Binds X.K fd ps ds) (hd : Vals dvs ds) (hdr : ∀ P, Reps T P dfl dvs) (tk : Takes X W) (ha : GA T W X (e :: es) ags) (hn : ags.length + 1 + dfl.length = n := by rfl)
    (hs : starEach (e :: es) X.env = (false, eval e X.env) :: starEach es X.env := by rfl) (hp : (backTo pos (starEach es X.env)).any (·.1) = false := by rfl)
    (hce : eval (.Call ce (e :: es) [] pos) X.env = (do callWith pos (← eval ce X.env) [] (backTo pos (starEach (e :: es) X.env)) (backToKw pos (keywordEach [] X.env))) := by rfl) :
    DE T W X (.Call ce (e :: es) [] pos) kr (methM c F mo ags dfl) :=
  pe_imp (pe_callO hce (E := fun σ cls d H => W cls d σ H) he hm hfn G gd hr hb hd (fun σ => passAt tk σ) ha hs hp) fun _ _ _ h => rd_callO hkr hdr hn h
end
end Ue

set_option linter.all false
set_option Elab.async false
set_option maxRecDepth 100000
set_option maxHeartbeats 4000000
/-! enumerate(o), o of a class whose __iter__ hands out a tuple's iterator -/
namespace PySem
open Sem (wp)
abbrev enumRec (it : Value) : Obj := { cls := .type "enumerate", data := .fields #[.none, .bool false, it, rawInt 0, .none, .none] }
theorem enumNewAny {prog : Program} {w : World} (v : Value) :
    MeetsIn prog w (Builtin.«enumerate.__new__» ⟨[.type "enumerate", v], []⟩) (fun A R s => wpAny (model prog w) A.in1 (pyIter v) (fun it s2 => R (.ok (.ret (.ref s2.heap.objs.size))) { s2 with heap := s2.heap.push (enumRec it) }) (fun e t => R (.error e) t) s) :=
  .of_wp fun A R s h => by
    have hsub := sub_enumerate
    obtain ⟨hp, g, d, tk, os⟩ := s
    have hit : ∀ {Q : Value → Shared → Prop}, (∀ it s2, R (.ok (.ret (.ref s2.heap.objs.size))) { s2 with heap := s2.heap.push (enumRec it) } → Q it s2) → wpAny (model prog w) A.in1 (pyIter v) Q (fun e t => R (.error e) t) ⟨hp, g, d, tk, os⟩ := fun hq => wpAny_mono h (fun it s2 z => hq it s2 z) fun _ _ z => z
    clear h
    have fin : ∀ (it : Value) (s2 : Shared), R (.ok (.ret (.ref s2.heap.objs.size))) { s2 with heap := s2.heap.push (enumRec it) } → wpAny (model prog w) A.in1 (do ret (← Builtin.SmallTypes.newRecord (.type "enumerate") (Builtin.SmallTypes.ownedTupleFields ++ [it, rawInt 0, .none, .none]))) (fun fin s' => ∃ v, fin = .done (.ret v) ∧ R (.ok (.ret v)) s') (fun e s' => R (.error e) s') s2 := fun it s2 hR => by
      obtain ⟨hp, g, d, tk, os⟩ := s2
      wp_walk
      exact ⟨_, rfl, hR⟩
    wp_walk using hit
    refine wpAny_stack_any fun st => wpAny_pure ?_
    split
    · rename_i c _ _ _ _ _
      cases (c == Value.type "enumerate")
      · wp_walk using hit
        exact fin
      · wp_walk using hit
        exact fin
    · wp_walk using hit
      exact fin
/-- enumerate(v), v walked in its own way -/
theorem call_enumAny {prog : Program} {w : World} {A : Around} {E : Value → Shared → Prop} {s : Shared} {v : Value} {Q : Value → Shared → Prop}
    (h : wpAny (model prog w) A.in1.in1 (pyIter v) (fun it s2 => Q (.ref s2.heap.objs.size) { s2 with heap := s2.heap.push (enumRec it) }) E s) : wpAny (model prog w) A (call (.type "enumerate") [v]) Q E s := by
  refine callType_newIn F.called_enumerate (by decide) (F.typeCall_enumerate_1 _) (F.newCall_enumerate_1 _) (fun obj => F.args_object_init_2 obj _) F.entry_enumerate_new (enumNewAny v) ?_
  refine wpAny_mono h (fun it s2 q => ⟨⟨_, Heap.get?_push_size _ rfl, rfl⟩, q⟩) fun _ _ z => z
end PySem
namespace Ue
open PySem PySem.Spec PyProof.Rows L2
section
variable {X : Cx} {Z : CXT} {k : Nat} {C f : Addr} {fd : FuncData} {ps : List Str} {E : L2.St → XK}
/-! ### for i, x in enumerate(o) -/
def iEnumO (K : PySem.W.Frag) (C : Addr) (fl : Str) (ta : TA) : TI := fun σ H R => ta σ H fun vs H1 => ∃ a dx fs l zs, vs = [.ref a] ∧ H1 a = some (.ins C dx fs) ∧ fs.lookup fl = some (.ref l) ∧ SqT K H1 l zs ∧ R (IteT K l) H1
theorem pi_enumO {e : Expr} {ta : TA} {fl : Str} {p pos tpos : Pos} {elts : List Expr} {kk : Nat} (M : Meth X.K C "__iter__" f) (F : FnS X.prog X.w X.K X.mg X.base Z k f fd ps (spIt X.K C fl)) (gd : X.A.guards = some []) (hr : Room (k + 2) X.A) (hb : Binds X.K fd ps []) (hx : ∀ σ, PassesAt Z X σ (E σ))
    (hg : Gl X "enumerate") (hm : X.mg "enumerate" = none) (ha : PA X [e] ta) (hs : starEach [e] X.env = [(false, eval e X.env)] := by rfl) :
    PI X (.Tuple elts kk tpos) (.Call (.Name "enumerate" p) [e] [] pos) (iEnumO X.K C fl ta) := by
  refine ⟨fun pins s σ H R I h => ?_⟩
  refine Call_ (ld_blt I hg hm boot_enumerate (PyProof.Rows.callWith_type1 (thn (ha.run pos pins s σ H _ I h) fun us s1 ⟨vs, H1, I1, r1, q1⟩ => ?_) hs rfl))
  obtain ⟨a, dx, fs, l, zs, rfl, ha, hl, hq, q⟩ := q1
  obtain ⟨u, rfl, ru⟩ := r1.one
  obtain rfl : u = Value.ref a := ru
  refine call_enumAny (iter_own M F gd hr.in1.in1 rfl hb (hx σ) I1 ha hl hq fun it s2 st I2 fp => wpAny_pyIter_enum (Heap.get?_push_size _ rfl) ?_)
  have kk : ∀ b o, s2.heap.get? b = some o → (s2.heap.push (enumRec (.ref it))).get? b = some o := fun b o e => Heap.get?_push_of_some _ e
  have hil : it < s2.heap.objs.size := by obtain ⟨_, q, _⟩ := st; exact Heap.lt_size q
  obtain ⟨its, rv, p', hz⟩ := I2.tuple hq
  have p' : s2.heap.IsTuple l its.toArray := p'
  have hll : l < s2.heap.objs.size := by obtain ⟨_, q, _⟩ := p'; exact Heap.lt_size q
  have I3 : Inv X pins σ H1 { s2 with heap := s2.heap.push (enumRec (.ref it)) } := I2.kept (t' := s2.toks) kk
  have lit : l ≠ it := fun z => by
    obtain ⟨o1, g1, g2, g3⟩ := st
    obtain ⟨o2, g4, g5, _⟩ := p'
    rw [z, g1] at g4
    cases g4
    rw [g2] at g5; exact absurd g5 (by decide)
  refine ⟨s2.heap.objs.size, [s2.heap.objs.size, it], _, _, H1, rfl, I3, ue_turnEnumT l s2.heap.objs.size it, ⟨⟨.none, Heap.get?_push_size _ rfl⟩, st.at fun o q => kk _ _ q, (Nat.ne_of_lt hil).symm, lit, (Nat.ne_of_lt hll).symm⟩, fun b hb => ?_, q⟩
  have e' : b = s2.heap.objs.size ∨ b = it := by simpa using hb
  rcases e' with rfl | rfl
  · exact I2.fpOk (Nat.le_refl _) (I2.hok.fresh (Nat.le_refl _))
  · exact fp
end
end Ue

set_option linter.all false
set_option Elab.async false
set_option maxRecDepth 100000
set_option maxHeartbeats 4000000
/-! walking what is a list, a tuple or an own object; enumerate of it -/
namespace Ue
open PySem PySem.Spec PyProof.Rows L2
/-- an object in its own way, all else in the other -/
def pickI (m : M) (a b : MI) : MI := fun env => match m env with | .ok (.obj _ _) _ => a env | _ => b env
def enumO (c j : Nat) (m : M) : MI := fun env => (m env).bind fun d e => match d with
  | .obj c1 fs => if c1 = c then (match fs[j]? with | some (.tup ds) => .ok (enumL ds) e | _ => .stk) else .stk
  | _ => .stk
section
variable {T : Tab} {W : WX} {X : Cx} {σ : L2.St} {H : Hp} {c j k : Nat} {m : M} {a b : MI} {e tg : Expr} {f : Addr} {fd : FuncData} {ps : List Str} {fl : Str} {p pos tpos : Pos} {elts : List Expr} {kk : Nat}
theorem di_pick (h1 : DI T W X tg e a) (h2 : DI T W X tg e b) : DI T W X tg e (pickI m a b) := pi_imp (pi_or h1 h2) fun σ H Q h => by
  obtain ⟨env, P, RR, h⟩ := h
  have q : pickI m a b env = a env ∨ pickI m a b env = b env := by
    unfold pickI
    cases m env with
    | ok d e => cases d <;> first | exact .inl rfl | exact .inr rfl
    | _ => exact .inr rfl
  rcases q with q | q
  · rw [q] at h; exact .inl ⟨env, P, RR, h⟩
  · rw [q] at h; exact .inr ⟨env, P, RR, h⟩
theorem di_enumO (hK : X.K = T.K) (hj : (T.clsF c)[j]? = some fl) (hn : ((T.clsF c).take j).contains fl = false) (M : Meth X.K (T.clsA c) "__iter__" f) (G : FnS X.prog X.w X.K X.mg X.base (L2.CX X.prog X.w) k f fd ps (spIt X.K (T.clsA c) fl)) (gd : X.A.guards = some []) (hr : Room (k + 2) X.A) (hb : Binds X.K fd ps [])
    (hg : Gl X "enumerate") (hm : X.mg "enumerate" = none) (h : DE T W X e .pure m) (hs : starEach [e] X.env = [(false, eval e X.env)] := by rfl) :
    DI T W X (.Tuple elts kk tpos) (.Call (.Name "enumerate" p) [e] [] pos) (enumO c j m) := pi_imp (pi_enumO (E := fun _ => noE) M G gd hr hb (fun _ => passes_no) hg hm (pa_cons h pa_nil hs) hs) fun σ H Q h => by
  obtain ⟨env, P, RR, h⟩ := h
  refine ⟨env, P, RR, After.mono h.bind fun d env1 P1 H1 R1 F1 h1 x kx nx => ?_⟩
  cases d with
  | obj c1 fs =>
    simp only at h1
    by_cases hc : c1 = c
    · rw [if_pos hc] at h1
      subst hc
      obtain ⟨p, dx, vs, rfl, q1, q3⟩ := obj_rep (show Rep T P1 (.obj c1 fs) x from kx)
      cases e1 : fs[j]? with
      | none => rw [e1] at h1; exact h1.elim
      | some y =>
        rw [e1] at h1
        obtain ⟨v, hv, rv⟩ := q3.get e1
        cases y with
        | tup ds =>
          rw [Rep] at rv
          obtain ⟨l, zs, rfl, z1, z2⟩ := rv
          refine ⟨p, dx, _, l, zs, rfl, R1.sub _ _ q1, zip_look hj hn hv, ?_, h1.here R1 (Fr.refl _ _ _ _) _ (yl_enumT hK z1 z2)⟩
          rw [hK]; exact sqT_sub R1.sub z1
        | _ => exact h1.elim
    · rw [if_neg hc] at h1; exact h1.elim
  | _ => exact h1.elim
@[simp] theorem enumO_s {env : Env} : enumO c j m env = (m env).bind fun d e => match d with
  | .obj c1 fs => if c1 = c then (match fs[j]? with | some (.tup ds) => .ok (enumL ds) e | _ => .stk) else .stk
  | _ => .stk := (rfl)
@[simp] theorem pickI_s {env : Env} : pickI m a b env = match m env with | .ok (.obj _ _) _ => a env | _ => b env := (rfl)
end
end Ue

set_option linter.all false
set_option Elab.async false
set_option maxRecDepth 100000
set_option maxHeartbeats 4000000
/-! xs.index(x); (a, b, ..).index(x) -/
namespace Ue
open PySem PySem.Spec PyProof.Rows L2
section
variable {X : Cx}
/-- the first place of y among flat values, of a tuple -/
def rIndexT (K : PySem.W.Frag) : V → List V → Hp → VK → Prop := fun x xs H Q => ∃ (a : Addr) (ys : List V) (y : V) (j : Nat), x = V.ref a ∧ xs = [y] ∧ SqT K H a ys ∧ flatV y = true ∧ ys.all flatV = true ∧ (∃ h : j < ys.length, eqV ys[j] y = true) ∧ (∀ (m : Nat) (h : m < ys.length), m < j → eqV ys[m] y = false) ∧ Q (.int (j : Nat)) H
theorem mt_indexT : MtR X "tuple.index" (rIndexT X.K) := by
  rintro pins s σ H x xs v us Q I rx rxs ⟨a, ys, y, j, rfl, rfl, hq, fy, fys, ⟨hj, hit⟩, hno, q⟩
  obtain ⟨u, rfl, ry⟩ := rxs.one
  obtain rfl : v = Value.ref a := rx
  obtain ⟨its, rv, ⟨⟨c, dd, dt, sl⟩, ho, hc, n, hd⟩, hz⟩ := I.tuple hq
  cases hc
  cases hd
  have len : its.toArray.size = ys.length := by rw [List.size_toArray]; exact rv.length.symm
  have same : ∀ (m : Nat) (h : m < its.toArray.size), eqU y its.toArray[m] = eqV (ys[m]'(by omega)) y := fun m h => by
    have hm : m < ys.length := by omega
    obtain ⟨u2, h2, r2⟩ := rv.get (List.getElem?_eq_getElem hm)
    have e : its.toArray[m] = u2 := by
      rw [List.getElem?_eq_getElem (by simpa using h)] at h2
      simpa using h2
    rw [e]
    exact eqU_of r2 (flat_at fys (List.getElem?_eq_getElem hm))
  refine call_meets PySem.F.slot_tuple_index ⟨_, ho, rfl⟩ PySem.F.entry_tuple_index (PySem.F.args_tuple_index_2 _ _) (TI.tuple_indexAt a its.toArray n dd sl u (eqU y) j (by omega) ?_ fun m h hm => ?_)
    ⟨ho, fun u' hu' => mem_eqAt ry fy rv fys u' (by simpa using hu'), .int (j : Nat), H, I.tok _, ⟨_, rfl⟩, q⟩
  · rw [same j (by omega)]; exact hit
  · rw [same m h]; exact hno m (by omega) hm
/-- a method of a tuple that is written out -/
theorem pe_litM {e : Expr} {os es : List Expr} {t0 t : TA} {name : Str} {apos cpos pos : Pos} {kk : Nat} {id : String} {r : V → List V → Hp → VK → Prop} (pa : PlainAttrs "tuple") (slot : Slot "tuple" name id) (hty : typeOf (.builtin id) = pure (.type "method_descriptor")) (hm : MtR X id r) (ho : PA X os t0) (ha : PA X (e :: es) t)
    (hbase : attributeBase (.Tuple os kk pos) name X.env (eval (.Tuple os kk pos) X.env) = eval (.Tuple os kk pos) X.env := by rfl)
    (hfew : ((backTo cpos (starEach (e :: es) X.env)).all (fun x => !x.1) && (backToKw cpos (keywordEach [] X.env)).all (fun x => x.1.isSome)
      && decide ((e :: es).length + ([] : List Keyword).length + (if ([] : List Keyword).isEmpty then 0 else 1) < 30)) = true := by rfl)
    (hline : (apos.endLine == cpos.line) = true := by rfl) (hs : starEach (e :: es) X.env = (false, eval e X.env) :: starEach es X.env := by rfl) (hplain : (backTo cpos (starEach es X.env)).any (·.1) = false := by rfl) :
    PE X (.Call (.Attribute (.Tuple os kk pos) name apos) (e :: es) [] cpos) (fun σ H Q => t0 σ H fun xs H1 => xs.length ≤ sizeLine ∧ ∀ p, H1 p = none → t σ (upd H1 p (.tup xs)) fun ys H2 => r (.ref p) ys H2 Q) := by
  refine ⟨fun pins s σ H Q I h => ?_⟩
  refine wpAny_Call_method_late hbase hfew hline rfl (wpAny_Tuple_spliced (thn (ho.run pos pins s σ H _ I h) fun us s1 ⟨xs, H1, I1, rx, z, q⟩ => ⟨by rw [← rx.length]; exact z, ?_⟩))
  have new : H1 s1.heap.objs.size = none := I1.hok.fresh (Nat.le_refl _)
  have there := Heap.get?_push_size s1.heap (o := { cls := .type "tuple", data := .seq us.toArray 0 }) rfl
  have I2 : Inv X pins σ (upd H1 s1.heap.objs.size (.tup xs)) { s1 with heap := s1.heap.push { cls := .type "tuple", data := .seq us.toArray 0 } } := I1.laid (t' := s1.toks) (fun b u e => Heap.get?_push_of_some _ e) (Nat.le_refl _) ⟨z, us, rx, ⟨_, there, rfl, _, rfl⟩⟩
  refine ⟨"tuple", id, pa, slot, hty, ⟨_, there, rfl⟩, fun a e => ⟨_, by cases e; exact there, rfl⟩, ?_⟩
  have hA := ha.run cpos pins _ σ _ _ I2 (q _ new)
  rw [hs] at hA ⊢
  refine Calls.callWith_builtin (by show (false || (backTo cpos (starEach es X.env)).any (·.1)) = false; rw [hplain] <;> rfl) (Calls.evalArgs_plain ?_)
  exact thn hA fun ws s2 ⟨ys, H2, I3, ry, q3⟩ => hm pins s2 σ H2 (.ref s1.heap.objs.size) ys _ ws Q I3 rfl ry q3
end
/-! ### as combinators -/
def dStrs : List D → Option (List Str)
  | [] => some []
  | .str s :: ds => (dStrs ds).map (s :: ·)
  | _ :: _ => none
theorem dStrs_ok : ∀ {ds : List D} {ns : List Str}, dStrs ds = some ns → ds = ns.map D.str
  | [], ns, h => by cases h; rfl
  | d :: ds, ns, h => by
    cases d with
    | str s =>
      unfold dStrs at h
      cases e : dStrs ds with
      | none => rw [e] at h; cases h
      | some r => rw [e] at h; cases h; rw [dStrs_ok e]; rfl
    | _ => cases h
theorem strs_of : ∀ ns : List Str, dStrs (ns.map D.str) = some ns
  | [] => rfl
  | s :: ns => by show (dStrs (ns.map D.str)).map (s :: ·) = _; rw [strs_of ns]; rfl
theorem Reps.strs {T : Tab} {P : Hp} : ∀ (ns : List Str) {vs : List V}, Reps T P (ns.map D.str) vs → vs = ns.map V.str
  | [], vs, h => by rw [List.map_nil, Reps] at h; exact h
  | n :: ns, vs, h => by
    rw [List.map_cons, Reps] at h
    obtain ⟨v, r, rfl, h1, h2⟩ := h
    rw [Rep] at h1
    rw [h1, Reps.strs ns h2, List.map_cons]
/-- the first place of y -/
def idxD (ds : List D) (y : D) : Option D := match y with
  | .int n => (dInts ds).bind fun ns => (ns.findIdx? (· == n)).map fun j => .int (j : Int)
  | .str n => (dStrs ds).bind fun ns => (ns.findIdx? (· == n)).map fun j => .int (j : Int)
  | .bl n => (dBls ds).bind fun ns => (ns.findIdx? (· == n)).map fun j => .int (j : Int)
  | _ => none
theorem first_of {α : Type} {f : α → V} {ns : List α} {p : α → Bool} {y : V} {j : Nat} (hf : ∀ a, flatV (f a) = true) (hp : ∀ a, eqV (f a) y = p a) (h : ns.findIdx? p = some j) :
    (ns.map f).all flatV = true ∧ (∃ h : j < (ns.map f).length, eqV (ns.map f)[j] y = true) ∧ ∀ (m : Nat) (h : m < (ns.map f).length), m < j → eqV (ns.map f)[m] y = false := by
  rw [List.findIdx?_eq_some_iff_getElem] at h
  obtain ⟨h1, h2, h3⟩ := h
  refine ⟨by rw [List.all_map]; exact List.all_eq_true.mpr fun a _ => hf a, ⟨by rw [List.length_map]; exact h1, ?_⟩, fun m hm hj => ?_⟩
  · rw [List.getElem_map, hp]; exact h2
  · rw [List.getElem_map, hp]
    have := h3 m hj
    simpa using this
/-- j is the first place of v -/
def FirstV (vs : List V) (v : V) (j : Nat) : Prop := flatV v = true ∧ vs.all flatV = true ∧ (∃ h : j < vs.length, eqV vs[j] v = true) ∧ ∀ (m : Nat) (h : m < vs.length), m < j → eqV vs[m] v = false
theorem first_d {α : Type} {f : α → V} {ns : List α} {p : α → Bool} {v : V} {vs : List V} {d : D} (e : vs = ns.map f) (fv : flatV v = true) (hf : ∀ a, flatV (f a) = true) (hp : ∀ a, eqV (f a) v = p a) (h : ((ns.findIdx? p).map fun j => D.int (j : Int)) = some d) : ∃ j : Nat, d = .int (j : Int) ∧ FirstV vs v j := by
  cases q : ns.findIdx? p with
  | none => rw [q] at h; cases h
  | some j =>
    rw [q] at h
    cases h
    subst e
    exact ⟨j, rfl, fv, first_of hf hp q⟩
/-- what idxD says of the values -/
theorem idxD_v {T : Tab} {P : Hp} {ds : List D} {vs : List V} {y d : D} {v : V} (h : idxD ds y = some d) (r : Reps T P ds vs) (ry : Rep T P y v) : ∃ j : Nat, d = .int (j : Int) ∧ FirstV vs v j := by
  cases y with
  | int n =>
    rw [Rep] at ry; subst ry
    unfold idxD at h
    cases q : dInts ds with
    | none => simp only [q] at h; cases h
    | some ns =>
      simp only [q] at h
      have := dInts_ok q
      subst this
      exact first_d (Reps.ints ns r) rfl (fun _ => rfl) (fun _ => rfl) h
  | str n =>
    rw [Rep] at ry; subst ry
    unfold idxD at h
    cases q : dStrs ds with
    | none => simp only [q] at h; cases h
    | some ns =>
      simp only [q] at h
      have := dStrs_ok q
      subst this
      exact first_d (Reps.strs ns r) rfl (fun _ => rfl) (fun _ => rfl) h
  | bl n =>
    rw [Rep] at ry; subst ry
    unfold idxD at h
    cases q : dBls ds with
    | none => simp only [q] at h; cases h
    | some ns =>
      simp only [q] at h
      have := bls_ok q
      subst this
      exact first_d (Reps.bls ns r) rfl (fun _ => rfl) (fun _ => rfl) h
  | _ => cases h
def idxLM (mo m : M) : M := fun env => (mo env).bind fun d e1 => match d with | .lst ds => (m e1).bind fun y e2 => liftO (idxD ds y) e2 | _ => .stk
def idxTM (ms : List M) (m : M) : M := fun env => (argsM ms env).bind fun ds e1 => if ds.length ≤ sizeLine then (m e1).bind fun y e2 => liftO (idxD ds y) e2 else .stk
section
variable {T : Tab} {W : WX} {X : Cx} {ka : Kd} {ks : List Kd} {mo m : M} {ms : List M} {o e : Expr} {os : List Expr} {apos cpos pos : Pos} {kk : Nat}
theorem de_idxL (hK : X.K = T.K) (ho : DE T W X o ka mo) (he : DE T W X e .pure m) (hst : Steady ka m := by trivial)
    (hbase : attributeBase o "index" X.env (eval o X.env) = eval o X.env := by rfl)
    (hfew : ((backTo cpos (starEach [e] X.env)).all (fun x => !x.1) && (backToKw cpos (keywordEach [] X.env)).all (fun x => x.1.isSome)
      && decide ([e].length + ([] : List Keyword).length + (if ([] : List Keyword).isEmpty then 0 else 1) < 30)) = true := by rfl)
    (hline : (apos.endLine == cpos.line) = true := by rfl) (hs : starEach [e] X.env = (false, eval e X.env) :: starEach [] X.env := by rfl) (hplain : (backTo cpos (starEach [] X.env)).any (·.1) = false := by rfl) :
    DE T W X (.Call (.Attribute o "index" apos) [e] [] cpos) .pure (idxLM mo m) := by
  refine pe_imp (pe_bm PySem.F.plainAttrs_list PySem.F.slot_list_index PySem.F.type_list_index mt_index ho (pa_cons he pa_nil hs) hbase hfew hline hs hplain) fun σ H Q h => ?_
  obtain ⟨env, P, RR, h⟩ := h
  refine ⟨env, P, RR, After.mono h.bind fun d env1 P1 H1 R1 F1 h1 x kx nx => ?_⟩
  cases d with
  | lst ds =>
    obtain ⟨a, vs, rfl, q1, q2⟩ := (kx.rdb R1).lstE R1.sub
    refine ⟨.inl ⟨rfl, vs, .inl q1⟩, env1, P1, R1, After.at h1.bind fun y env2 P2 H2 e2 R2 F2 h2 z kz nz => ?_⟩
    obtain ⟨b, ws, eb, w1, w2⟩ := ((kx.carry F2 (hst.use e2)).rdb R2).lstE R2.sub
    cases eb
    cases q : idxD ds y with
    | none => rw [q] at h2; exact h2.elim
    | some d =>
      rw [q] at h2
      obtain ⟨j, rfl, f1, f2, ⟨hj, f3⟩, f4⟩ := idxD_v q w2 kz
      refine ⟨a, ws, z, j, ws[j], rfl, rfl, .inl w1, f1, f2, List.getElem?_eq_getElem hj, f3, fun i z' hi e => ?_, h2.here R2 (Fr.refl _ _ _ _) _ (show Rep T P2 (.int _) (.int _) from rep_int) trivial⟩
      obtain ⟨hi2, rfl⟩ := List.getElem?_eq_some_iff.mp e
      exact f4 i hi2 hi
  | _ => exact h1.elim
theorem After.step {α : Type} {σ : L2.St} {env : Env} {P H P' H' : Hp} {r : R α} {Q : α → Env → Hp → Hp → Prop} (h : After T W σ env P H r Q) (F1 : Fr env σ P H env σ P' H') : After T W σ env P' H' r Q := by
  cases r with
  | ok a e => exact fun P2 H2 R2 F2 => h P2 H2 R2 (F1.trans F2)
  | exc c fs e => exact fun P2 H2 cls dd R2 F2 x => h P2 H2 cls dd R2 (F1.trans F2) x
  | stk => exact h
theorem de_idxT (hK : X.K = T.K) (ho : DA T W X os ks ms) (hp : ∀ k ∈ ks, k = Kd.pure) (he : DE T W X e .pure m)
    (hbase : attributeBase (.Tuple os kk pos) "index" X.env (eval (.Tuple os kk pos) X.env) = eval (.Tuple os kk pos) X.env := by rfl)
    (hfew : ((backTo cpos (starEach [e] X.env)).all (fun x => !x.1) && (backToKw cpos (keywordEach [] X.env)).all (fun x => x.1.isSome)
      && decide ([e].length + ([] : List Keyword).length + (if ([] : List Keyword).isEmpty then 0 else 1) < 30)) = true := by rfl)
    (hline : (apos.endLine == cpos.line) = true := by rfl) (hs : starEach [e] X.env = (false, eval e X.env) :: starEach [] X.env := by rfl) (hplain : (backTo cpos (starEach [] X.env)).any (·.1) = false := by rfl) :
    DE T W X (.Call (.Attribute (.Tuple os kk pos) "index" apos) [e] [] cpos) .pure (idxTM ms m) := by
  refine pe_imp (pe_litM PySem.F.plainAttrs_tuple PySem.F.slot_tuple_index PySem.F.type_tuple_index mt_indexT ho (pa_cons he pa_nil hs) hbase hfew hline hs hplain) fun σ H Q h => ?_
  obtain ⟨env, P, RR, h⟩ := h
  refine ⟨env, P, RR, After.mono h.bind fun ds env1 P1 H1 R1 F1 h1 xs kxs => ?_⟩
  have rs := kxs.pures hp
  by_cases hl : ds.length ≤ sizeLine
  · rw [if_pos hl] at h1
    refine ⟨by rw [rs.length]; exact hl, fun p hp => ?_⟩
    obtain ⟨R2, F2⟩ := R1.newP (o := .tup xs) hp
    refine ⟨env1, _, R2, After.at (After.step h1.bind F2) fun y env2 P2 H2 e2 R3 F3 h2 z kz nz => ?_⟩
    cases q : idxD ds y with
    | none => rw [q] at h2; exact h2.elim
    | some d =>
      rw [q] at h2
      obtain ⟨j, rfl, f1, f2, ⟨hj, f3⟩, f4⟩ := idxD_v q (Reps.sub (F2.mono.trans F3.mono) _ _ rs) kz
      have st : SqT X.K H2 p xs := .inl (.inl (R3.sub _ _ (F3.mono _ _ upd_same)))
      exact ⟨p, xs, z, j, rfl, rfl, st, f1, f2, ⟨hj, f3⟩, f4, h2.here R3 (Fr.refl _ _ _ _) _ (show Rep T P2 (.int _) (.int _) from rep_int) trivial⟩
  · rw [if_neg hl] at h1; exact h1.elim
@[simp] theorem idxLM_s {env : Env} : idxLM mo m env = (mo env).bind fun d e1 => match d with | .lst ds => (m e1).bind fun y e2 => liftO (idxD ds y) e2 | _ => .stk := (rfl)
@[simp] theorem idxTM_s {env : Env} : idxTM ms m env = (argsM ms env).bind fun ds e1 => if ds.length ≤ sizeLine then (m e1).bind fun y e2 => liftO (idxD ds y) e2 else .stk := (rfl)
end
end Ue

set_option linter.all false
set_option Elab.async false
set_option maxRecDepth 100000
set_option maxHeartbeats 4000000
/-! xs.insert(i, x) -/
namespace Ue
open PySem PySem.Spec PyProof.Rows L2
def rIns : V → List V → Hp → VK → Prop := fun x vs H Q => ∃ (l : Addr) (xs : List V) (i : Int) (y : V), x = .ref l ∧ vs = [.int i, y] ∧ H l = some (.lst xs) ∧ xs.length < sizeLine ∧ 0 ≤ i ∧ i < 2 ^ 63 ∧
    Q .non (upd H l (.lst (xs.take i.toNat ++ [y] ++ xs.drop i.toNat)))
def insG (ds es : List D) : Option (D × List D) := match es with
  | [.int i, d] => if ds.length < sizeLine ∧ 0 ≤ i ∧ i < 2 ^ 63 then some (.non, ds.take i.toNat ++ [d] ++ ds.drop i.toNat) else none
  | _ => none
theorem md_insert {T : Tab} : MtD T rIns insG := fun P H a vs ds es xs d ds' Q h1 h2 h3 e k => by
  cases es with
  | nil => cases e
  | cons d0 es =>
    cases d0 with
    | int i =>
      cases es with
      | nil => cases e
      | cons d1 es =>
        cases es with
        | cons _ _ => cases e
        | nil =>
          have e : (if ds.length < sizeLine ∧ 0 ≤ i ∧ i < 2 ^ 63 then some (D.non, ds.take i.toNat ++ [d1] ++ ds.drop i.toNat) else none) = some (d, ds') := e
          by_cases z : ds.length < sizeLine ∧ 0 ≤ i ∧ i < 2 ^ 63
          · rw [if_pos z] at e
            cases e
            rw [Reps] at h3
            obtain ⟨v0, r, rfl, r0, h3⟩ := h3
            rw [Reps] at h3
            obtain ⟨v1, r, rfl, r1, h3⟩ := h3
            rw [Reps] at h3
            subst h3
            rw [Rep] at r0
            subst r0
            exact ⟨a, vs, i, v1, rfl, rfl, h1, by rw [h2.length]; exact z.1, z.2.1, z.2.2, k _ _ rep_non (((h2.take _).append (Reps.cons r1 Reps.nil)).append (h2.drop _))⟩
          · rw [if_neg z] at e; cases e
    | _ => cases e
@[simp] theorem insG_s {ds : List D} {i : Int} {d : D} : insG ds [.int i, d] = if ds.length < sizeLine ∧ 0 ≤ i ∧ i < 2 ^ 63 then some (.non, ds.take i.toNat ++ [d] ++ ds.drop i.toNat) else none := (rfl)
end Ue

set_option linter.all false
set_option Elab.async false
set_option maxRecDepth 100000
set_option maxHeartbeats 4000000
/-! xs[::-1] -/
namespace Ue
open PySem PySem.Spec PyProof.Rows L2
section
variable {X : Cx} {e st : Expr} {te : TE} {pos p2 : Pos}
theorem pe_rev (he : PE X e te) (hst : PE X st (tC (.int (-1)))) : PE X (.Subscript e (.Slice none none (some st) p2) pos) (fun σ H Q => te σ H fun x H1 => ∃ a xs, x = .ref a ∧ SqL X.K H1 a xs ∧ ∀ p, H1 p = none → Q (.ref p) (upd H1 p (.lst xs.reverse))) := by
  refine ⟨fun pins s σ H Q I h => Subscript_ (thn (he.run pins s σ H _ I h) ?_)⟩
  rintro v s1 ⟨x, H1, I1, r1, a, xs, rfl, hx, q⟩
  obtain rfl : v = Value.ref a := r1
  refine wpAny_Slice ?_
  rw [evalPart_none]
  refine wpAny_pure (wpAny_pure (thn (hst.run pins s1 σ H1 (fun x J => x = .int (-1) ∧ J = H1) I1 ⟨rfl, rfl⟩) ?_))
  rintro w s2 ⟨y, H2, I2, r2, rfl, rfl⟩
  obtain ⟨t, rfl⟩ := r2
  have I3 : Inv X pins σ H2 { s2 with heap := s2.heap.push { cls := .type "slice", data := .fields #[.none, .none, .int (-1) t] } } := I2.kept (t' := s2.toks) fun b ob q => Heap.get?_push_of_some _ q
  obtain ⟨its, r, ht, hz⟩ := I3.list hx
  show wpAny (model X.prog X.w) X.A (subscriptTail e (.Slice none none (some st) p2) (.ref a) (.ref s2.heap.objs.size)) (EP X pins σ Q) X.xe _
  refine tail_any (ops := [.ref a, .ref s2.heap.objs.size]) ht.isList.typeIs slot_list_getitem.lookup ?_ (by with_unfolding_all rfl)
  refine wpAny_getItem_list_slice ht.isList (Heap.IsSliceOf.new ..) .none .none (.int (-1) t) (by decide) ?_ (by rw [List.size_toArray, ← r.length]; exact hz)
  rw [PySem.W.krv_pick]
  refine ⟨.ref _, _, I3.laid (t' := s2.toks) (o := .lst xs.reverse) (fun b ob q => Heap.get?_push_of_some _ q) (Nat.le_refl _) ?_, rfl, q _ (I3.hok.fresh (Nat.le_refl _))⟩
  exact ⟨by rw [List.length_reverse]; exact hz, its.reverse, 0, r.reverse, Heap.get?_push_size _ rfl⟩
end
def revM (m : M) : M := fun env => (m env).bind fun d e => match d with | .lst ds => .ok (.lst ds.reverse) e | _ => .stk
section
variable {T : Tab} {W : WX} {X : Cx} {k : Kd} {m : M} {e : Expr} {pos p2 q q2 : Pos} {j : Nat}
theorem de_neg1 : PE X (.UnaryOp .USub (.Constant (.int 1) j q) q2) (tC (.int (-1))) := pe_imp (pe_un un_neg pe_int) fun σ H Q h => ⟨1, rfl, h⟩
theorem de_rev (hK : X.K = T.K) (he : DE T W X e k m) :
    DE T W X (.Subscript e (.Slice none none (some (.UnaryOp .USub (.Constant (.int 1) j q) q2)) p2) pos) .fresh (revM m) := by
  refine pe_imp (pe_rev he de_neg1) fun σ H Q h => ?_
  obtain ⟨env, P, RR, h⟩ := h
  refine ⟨env, P, RR, After.at h.bind fun d env1 P1 H1 _ R1 F1 h1 x kx nx => ?_⟩
  cases d with
  | lst ds =>
    obtain ⟨a, vs, rfl, q1, q2⟩ := (kx.rdb R1).lstE R1.sub
    refine ⟨a, vs, rfl, .inl q1, fun p hp => ?_⟩
    obtain ⟨R4, F4, no, pn⟩ := R1.newF (o := .lst vs.reverse) hp
    exact h1 _ _ R4 F4 _ ⟨p, _, _, rfl, upd_same, pn, no, q2.reverse, rfl⟩ (NewV.back (k := .fresh) F1 ⟨p, rfl, hp⟩)
  | _ => exact h1.elim
@[simp] theorem revM_s {env : Env} : revM m env = (m env).bind fun d e => match d with | .lst ds => .ok (.lst ds.reverse) e | _ => .stk := (rfl)
end
end Ue

set_option linter.all false
set_option Elab.async false
set_option maxRecDepth 100000
set_option maxHeartbeats 4000000
/-! f(new list, ..): a new list handed to a def that changes it, and forgotten -/
namespace Ue
open PySem PySem.Spec PyProof.Rows L2
def noSl (ss : List AD) : Bool := ss.all fun a => match a with | .d _ => true | .s _ => false
theorem resA_noSl : ∀ {ss : List AD} {e e' : Env} {as : List EV}, noSl ss = true → resA ss e = some as → resA ss e' = some as
  | [], e, e', as, _, h => h
  | .d x :: ss, e, e', as, a, h => by
    have h : (resA ss e).map (EV.v x :: ·) = some as := h
    show (resA ss e').map (EV.v x :: ·) = some as
    cases q : resA ss e with
    | none => rw [q] at h; cases h
    | some bs => rw [q] at h; rw [resA_noSl (by simpa [noSl] using a) q]; exact h
  | .s i :: ss, e, e', as, a, h => by simp [noSl] at a
/-- the first argument a new list -/
def fnNM (F : FM) (m : M) (ags : List Ag) (dfl : List D) : M := fun env => (m env).bind fun d e1 => match d with
  | .lst ds => (argG ags e1).bind fun ss e2 => (match resA ss e2 with
    | some as => if noSl ss then (match F (.own ds :: (as ++ dfl.map EV.v)) with | .ok d _ => .ok d e2 | .exc c fs _ => .exc c fs e2 | .stk => .stk) else .stk
    | none => .stk)
  | _ => .stk
section
variable {T : Tab} {W : WX} {kr : Kd} {env env' : Env} {σ : L2.St} {P H P' H' : Hp} {a : Addr} {x : EV}
/-- one slot more -/
theorem Rel.snoc {vs : List V} {ds : List D} (R1 : Rel T env σ P H) (ha : H a = some (.lst vs)) (hp : P a = none) (no : ¬ Own env σ a) (r : Reps T P ds vs) : Rel T (env ++ [some (.own ds)]) (σ ++ [some (.ref a)]) P H := by
  have key : ∀ (i : Nat) (e : EV), (env ++ [some (.own ds)])[i]? = some (some e) → (env[i]? = some (some e) ∧ (σ ++ [some (V.ref a)])[i]? = σ[i]?) ∨ (i = env.length ∧ e = .own ds ∧ (σ ++ [some (V.ref a)])[i]? = some (some (V.ref a))) := fun i e h => by
    rcases Nat.lt_or_ge i env.length with q | q
    · rw [List.getElem?_append_left q] at h
      exact .inl ⟨h, List.getElem?_append_left (by rw [← R1.len]; exact q)⟩
    · rw [List.getElem?_append_right q] at h
      have h0 : i - env.length = 0 := by
        rcases Nat.eq_zero_or_pos (i - env.length) with z | z
        · exact z
        · rw [List.getElem?_eq_none (by simp; omega)] at h; cases h
      rw [h0] at h
      cases h
      refine .inr ⟨by omega, rfl, ?_⟩
      rw [List.getElem?_append_right (by rw [← R1.len]; exact q), ← R1.len, h0]; rfl
  refine ⟨R1.sub, fun i e h => ?_, fun i j e f b n h1 h2 o1 o2 s1 s2 => ?_, by simp [R1.len]⟩
  · rcases key i e h with ⟨h1, h2⟩ | ⟨_, rfl, h2⟩
    · rw [h2]; exact R1.ent i e h1
    · exact ⟨_, h2, a, vs, rfl, ha, hp, r⟩
  · rcases key i e h1 with ⟨g1, g2⟩ | ⟨g0, rfl, g2⟩
    · rcases key j f h2 with ⟨g3, g4⟩ | ⟨_, rfl, g4⟩
      · rw [g2] at s1; rw [g4] at s2
        exact R1.dis i j e f b n g1 g3 o1 o2 s1 s2
      · rw [g2] at s1; rw [g4] at s2; cases s2
        exact no ⟨i, e, g1, o1, s1⟩
    · rcases key j f h2 with ⟨g3, g4⟩ | ⟨g5, rfl, g4⟩
      · rw [g2] at s1; rw [g4] at s2; cases s1
        exact no ⟨j, f, g3, o2, s2⟩
      · omega
theorem own_snoc {y : Option EV} {v : Option V} {b : Addr} (hl : env.length = σ.length) : Own env σ b → Own (env ++ [y]) (σ ++ [v]) b := fun ⟨i, e, h1, h2, h3⟩ => by
  have q : i < env.length := by
    rcases Nat.lt_or_ge i env.length with q | q
    · exact q
    · rw [List.getElem?_eq_none q] at h1; cases h1
  exact ⟨i, e, by rw [List.getElem?_append_left q]; exact h1, h2, by rw [List.getElem?_append_left (by omega)]; exact h3⟩
theorem snoc_own {y : Option EV} {b : Addr} (hl : env.length = σ.length) (h : Own (env ++ [y]) (σ ++ [some (.ref a)]) b) : Own env σ b ∨ b = a := by
  obtain ⟨i, e, h1, h2, h3⟩ := h
  rcases Nat.lt_or_ge i env.length with q | q
  · rw [List.getElem?_append_left q] at h1
    rw [List.getElem?_append_left (by omega)] at h3
    exact .inl ⟨i, e, h1, h2, h3⟩
  · rw [List.getElem?_append_right (by omega)] at h3
    cases z : i - σ.length with
    | zero => rw [z] at h3; cases h3; exact .inr rfl
    | succ n => rw [z] at h3; simp at h3
/-- one slot fewer -/
theorem Rel.init {y : Option EV} {v : Option V} (hl : env.length = σ.length) (R1 : Rel T (env ++ [y]) (σ ++ [v]) P H) : Rel T env σ P H := by
  have lt : ∀ {i : Nat} {e : EV}, env[i]? = some (some e) → i < env.length := fun {i e} h => by
    rcases Nat.lt_or_ge i env.length with q | q
    · exact q
    · rw [List.getElem?_eq_none q] at h; cases h
  have up : ∀ {i : Nat} {e : EV}, env[i]? = some (some e) → (env ++ [y])[i]? = some (some e) ∧ (σ ++ [v])[i]? = σ[i]? := fun {i e} h => ⟨by rw [List.getElem?_append_left (lt h)]; exact h, List.getElem?_append_left (by have := lt h; omega)⟩
  refine ⟨R1.sub, fun i e h => ?_, fun i j e f b n h1 h2 o1 o2 s1 s2 => ?_, hl⟩
  · obtain ⟨w, h3, h4⟩ := R1.ent i e (up h).1
    exact ⟨w, by rw [← (up h).2]; exact h3, h4⟩
  · exact R1.dis i j e f b n (up h1).1 (up h2).1 o1 o2 (by rw [(up h1).2]; exact s1) (by rw [(up h2).2]; exact s2)
/-- behind the call: what the caller sees -/
theorem Fr.unsnoc {env0 : Env} {P0 H0 : Hp} {y z : Option EV} (hl : env.length = σ.length) (f : Fr env0 σ P0 H0 env σ P H) (new : H0 a = none) (g : Fr (env ++ [y]) (σ ++ [some (.ref a)]) P H (env ++ [z]) (σ ++ [some (.ref a)]) P' H') : Fr env0 σ P0 H0 env σ P' H' where
  keep := fun b o h n => by
    have h2 := f.keep b o h n
    refine g.keep b o h2 fun w => ?_
    rcases snoc_own hl w with w | rfl
    · exact f.own b (by rw [h]; exact fun z => nomatch z) n w
    · rw [new] at h; cases h
  own := f.own
  mono := f.mono.trans g.mono
  new := fun b h => by
    rcases g.new b h with h1 | h1 | h1
    · exact f.new b h1
    · exact .inr (.inl (Classical.byContradiction fun q => f.there b q h1))
    · rcases snoc_own hl h1 with w | rfl
      · rcases Classical.em (Own env0 σ b) with o | o
        · exact .inr (.inr o)
        · exact .inr (.inl (Classical.byContradiction fun q => f.own b q o w))
      · exact .inr (.inl new)
  there := fun b h => g.there b (f.there b h)
theorem putA_last {ss : List AD} {as' : List EV} {y : Option EV} : ∃ z, putA (.s env.length :: ss) as' (env ++ [y]) = env ++ [z] := by
  show ∃ z, (match as'[0]? with | some a => (env ++ [y]).set env.length (unEx a) | none => env ++ [y]) = env ++ [z]
  cases as'[0]? with
  | none => exact ⟨y, rfl⟩
  | some a => exact ⟨unEx a, by
    show (env ++ [y]).set env.length (unEx a) = env ++ [unEx a]
    rw [List.set_append_right _ _ (Nat.le_refl _), Nat.sub_self]; rfl⟩
theorem rd_fnN {F : FM} {m : M} {ags : List Ag} {n : Nat} {dfl : List D} {dvs : List V} {Q : VK} (hkr : kr = .pure ∨ kr = .fresh) (hdr : ∀ P, Reps T P dfl dvs) (hn : ags.length + 1 + dfl.length = n) (h : rdE T W kr (fnNM F m ags dfl) σ H Q) :
    tCallSD (spF T kr n F) dvs (fun σ cls d H => W cls d σ H) (tCons (rdE T W .fresh m) (rdP T W ags)) σ H Q := by
  obtain ⟨env, P, RR, h⟩ := h
  unfold fnNM at h
  refine ⟨env, P, RR, ?_⟩
  cases e0 : m env with
  | stk => rw [e0] at h; exact h.elim
  | exc c fs e1 => rw [e0] at h; exact h
  | ok d env1 =>
    rw [e0] at h
    intro P1 H1 R1 F1 x kx nx
    obtain ⟨a, vs, ds, rfl, ha, hp, no, r, rfl⟩ := kx
    obtain ⟨b, eb, new⟩ := nx
    cases eb
    have h : After T W σ env P H ((argG ags env1).bind fun ss e2 => (match resA ss e2 with
      | some as => if noSl ss then (match F (.own ds :: (as ++ dfl.map EV.v)) with | .ok d _ => .ok d e2 | .exc c fs _ => .exc c fs e2 | .stk => .stk) else .stk
      | none => .stk)) _ := h
    refine ⟨env1, P1, R1, ?_⟩
    cases e1 : argG ags env1 with
    | stk => rw [e1] at h; exact h.elim
    | exc c fs e2 =>
      rw [e1] at h
      exact fun P2 H2 cls dd R2 F2 x => h P2 H2 cls dd R2 (F1.trans F2) x
    | ok ss env2 =>
      rw [e1] at h
      intro P2 H2 R2 F2 xs kxs
      have h : After T W σ env P H (match resA ss env2 with
        | some as => if noSl ss then (match F (.own ds :: (as ++ dfl.map EV.v)) with | .ok d _ => .ok d env2 | .exc c fs _ => .exc c fs env2 | .stk => .stk) else .stk
        | none => .stk) _ := h
      cases e2 : resA ss env2 with
      | none => simp only [e2] at h; exact h.elim
      | some as =>
        simp only [e2] at h
        by_cases hd : noSl ss = true
        · rw [if_pos hd] at h
          have l2 : env2.length = σ.length := R2.len
          have a2 := F2.keep a _ ha no
          have o2 := F2.own a (by rw [ha]; exact fun z => nomatch z) no
          have p2 : P2 a = none := Classical.byContradiction fun q => by
            rcases F2.new a q with w | w | w
            · exact w hp
            · rw [ha] at w; cases w
            · exact no w
          have RS := R2.snoc a2 p2 o2 (Reps.sub F2.mono _ _ r)
          have es : resA (.s env2.length :: ss) (env2 ++ [some (.own ds)]) = some (.own ds :: as) := by
            have q := resA_noSl (e' := env2 ++ [some (.own ds)]) hd e2
            have g : (env2 ++ [some (EV.own ds)])[env2.length]? = some (some (.own ds)) := by rw [List.getElem?_append_right (Nat.le_refl _), Nat.sub_self]; rfl
            rw [resA_s, g]
            simp only [q]
            rfl
          have fs : fewO (.s env2.length :: ss) = true := hd
          have ks : SReps T (σ ++ [some (.ref a)]) P2 (.s env2.length :: ss) (.ref a :: xs) := by
            refine .s (by rw [l2, List.getElem?_append_right (Nat.le_refl _), Nat.sub_self]; rfl) ?_
            have go : ∀ {ss : List AD} {xs : List V}, noSl ss = true → SReps T σ P2 ss xs → SReps T (σ ++ [some (V.ref a)]) P2 ss xs := by
              intro ss xs hd k
              induction k with
              | nil => exact .nil
              | d h _ ih => exact .d h (ih (by simpa [noSl] using hd))
              | s h _ ih => simp [noSl] at hd
            exact go hd kxs
          obtain ⟨RC, _⟩ := RS.call es fs ks (hdr P2)
          refine ⟨.own ds :: as ++ dfl.map EV.v, P2, RC.nb, ?_, ?_⟩
          · have := argG_len e1
            rw [List.length_append, List.length_cons, kxs.len, (hdr P2).length]; omega
          · show (match F (.own ds :: (as ++ dfl.map EV.v)) with | .ok _ _ => _ | .exc _ _ _ => _ | .stk => False)
            have F12 := F1.trans F2
            cases e3 : F (.own ds :: (as ++ dfl.map EV.v)) with
            | stk => rw [e3] at h; exact h.elim
            | ok d as' =>
              rw [e3] at h
              intro P3 H3 x R3 F3 kx nx
              obtain ⟨R4, F4, o4⟩ := RS.back es fs ks (hdr P2) R3 F3
              obtain ⟨z, ez⟩ := putA_last (env := env2) (ss := ss) (as' := as') (y := some (.own ds))
              rw [ez] at R4 F4 o4
              refine h P3 H3 (R4.init l2) (Fr.unsnoc l2 F12 new F4) x ?_ ?_
              · rcases hkr with rfl | rfl
                · exact kx.bn
                · obtain ⟨b, ws, es, q1, q2, q3, q4, q5, q6⟩ := kx.bn
                  refine ⟨b, ws, es, q1, q2, q3, fun w => ?_, q5, q6⟩
                  obtain ⟨b', eb, hb⟩ := nx
                  rw [q1] at eb; cases eb
                  obtain ⟨o, ho, _⟩ := R2.ownAt w
                  rw [hb] at ho; cases ho
              · rcases hkr with rfl | rfl
                · trivial
                · obtain ⟨b, eb, hb⟩ := nx
                  exact ⟨b, eb, Classical.byContradiction fun q => F12.there b q hb⟩
            | exc c gs as' =>
              rw [e3] at h
              intro P3 H3 cls dd R3 F3 x
              obtain ⟨R4, F4, o4⟩ := RS.back es fs ks (hdr P2) R3 F3
              obtain ⟨z, ez⟩ := putA_last (env := env2) (ss := ss) (as' := as') (y := some (.own ds))
              rw [ez] at R4 F4
              exact h P3 H3 cls dd (R4.init l2) (Fr.unsnoc l2 F12 new F4) x.bn
        · rw [if_neg hd] at h; exact h.elim
theorem de_callN {X : Cx} {pos p : Pos} {e : Expr} {es : List Expr} {F : FM} {m : M} {ags : List Ag} {n k : Nat} {f : Addr} {fd : FuncData} {ps : List Str} {dfl : List D} {dvs : List V} {ds : List Value} {x : Str} (G : FnG X.prog X.w X.K X.mg X.base (L2.CX X.prog X.w) k f fd ps (spF T kr n F)) (hkr : kr = .pure ∨ kr = .fresh) (gd : X.A.guards = some []) (hr : Room k X.A) (hg : Gl X x) (hm : X.mg x = some (.ref f))
    (hk : PySem.W.keepIn X.K (.ref f) = true) (hb : Binds X.K fd ps ds) (hd : Vals dvs ds) (hdr : ∀ P, Reps T P dfl dvs) (tk : Takes X W) (h1 : DE T W X e .fresh m) (h2 : GA T W X es ags) (hn : ags.length + 1 + dfl.length = n := by rfl) (hdb : (x == ("__debug__" : Str)) = false := by decide)
    (he : starEach (e :: es) X.env = (false, eval e X.env) :: starEach es X.env := by rfl) (hpl : (backTo pos (starEach es X.env)).any (·.1) = false := by rfl) :
    DE T W X (.Call (.Name x p) (e :: es) [] pos) kr (fnNM F m ags dfl) :=
  pe_imp (pe_callG (E := fun σ cls d H => W cls d σ H) G gd hr hg hm hk hb hd (fun σ => passAt tk σ) (pa_cons h1 h2 he) hdb he hpl) fun _ _ _ h => rd_fnN hkr hdr hn h
end
def CRes.goN (r : CRes) (e : Env) : R D := match r with | .ok d _ => .ok d e | .exc c fs _ => .exc c fs e | .stk => .stk
section
variable {F : FM} {m : M} {ags : List Ag} {dfl : List D} {env e : Env} {d x : D} {c : Nat} {fs : List D} {as : List EV} {ss : List AD}
@[simp] theorem goN_ok : (CRes.ok d as).goN e = .ok d e := (rfl)
@[simp] theorem goN_exc : (CRes.exc c fs as).goN e = .exc c fs e := (rfl)
@[simp] theorem noSl_n : noSl [] = true := (rfl)
@[simp] theorem noSl_d : noSl (.d x :: ss) = noSl ss := by simp [noSl]
@[simp] theorem fnNM_s : fnNM F m ags dfl env = (m env).bind fun d e1 => match d with
  | .lst ds => (argG ags e1).bind fun ss e2 => (match resA ss e2 with
    | some as => if noSl ss then (F (.own ds :: (as ++ dfl.map EV.v))).goN e2 else .stk
    | none => .stk)
  | _ => .stk := (rfl)
end
end Ue

set_option linter.all false
set_option Elab.async false
set_option maxRecDepth 100000
set_option maxHeartbeats 4000000
/-! s in t, for c in s: texts -/
namespace Ue
open PySem PySem.Spec PyProof.Rows L2
def inStr (x y : D) : Option Bool := match x, y with | .str i, .str j => some (!(Builtin.Str.occurrences j i 0 j.length 1).isEmpty) | _, _ => none
def notInStr (x y : D) : Option Bool := (inStr x y).map (!·)
section
variable {T : Tab} {W : WX} {X : Cx} {P H : Hp} {m : M} {e tg : Expr}
theorem inStr_some {x y : D} {b : Bool} (h : inStr x y = some b) : ∃ i j, x = .str i ∧ y = .str j ∧ b = !(Builtin.Str.occurrences j i 0 j.length 1).isEmpty := by
  cases x with
  | str i => cases y with
    | str j => cases h; exact ⟨i, j, rfl, rfl, rfl⟩
    | _ => cases h
  | _ => cases y <;> cases h
theorem cd_inStr : CmpD T (fun x y H Q => ∃ i j, x = .str i ∧ y = .str j ∧ Q (.bl (!(Builtin.Str.occurrences j i 0 j.length 1).isEmpty)) H) inStr := fun P H dx dy x y b Q R1 hx hy e q => by
  obtain ⟨i, j, rfl, rfl, rfl⟩ := inStr_some e
  exact ⟨i, j, hx.strE, hy.strE, q⟩
theorem cd_notInStr : CmpD T (fun x y H Q => ∃ i j, x = .str i ∧ y = .str j ∧ Q (.bl (!(!(Builtin.Str.occurrences j i 0 j.length 1).isEmpty))) H) notInStr := fun P H dx dy x y b Q R1 hx hy e q => by
  unfold notInStr at e
  cases z : inStr dx dy with
  | none => rw [z] at e; cases e
  | some c =>
    rw [z] at e
    cases e
    obtain ⟨i, j, rfl, rfl, rfl⟩ := inStr_some z
    exact ⟨i, j, hx.strE, hy.strE, q⟩
/-- the signs of a text -/
def signs (z : Str) : List D := z.cps.toList.map fun c => D.str ⟨#[c]⟩
def asStr (m : M) : MI := fun env => (m env).bind fun d e => match d with | .str z => .ok (signs z) e | _ => .stk
theorem yl_str {z : Str} : Yl T (Its z) P (signs z) := fun P1 H1 s1 s2 => by
  refine ⟨fun i d hd => ?_, fun i hi => (show z.cps.size ≤ i by simpa [signs] using hi)⟩
  unfold signs at hd
  rw [List.getElem?_map] at hd
  cases q : z.cps.toList[i]? with
  | none => rw [q] at hd; cases hd
  | some c =>
    rw [q] at hd
    cases hd
    have hi : i < z.cps.size := by
      rcases Nat.lt_or_ge i z.cps.size with w | w
      · exact w
      · rw [List.getElem?_eq_none (by simpa using w)] at q; cases q
    refine ⟨hi, fun x H' ⟨e1, c2, e2, e3⟩ => ⟨P1, ?_, .inl ⟨rfl, e1⟩⟩⟩
    have : c2 = c := by
      have q2 : z.cps[i]? = some c := by simpa using q
      rw [q2] at e2
      exact (Option.some.inj e2).symm
    rw [e3, this]
    exact rep_str
theorem di_str (h : DE T W X e .pure m) : DI T W X tg e (asStr m) := pi_imp (pi_str h) fun σ H Q h => by
  obtain ⟨env, P, RR, h⟩ := h
  refine ⟨env, P, RR, After.mono h.bind fun d env1 P1 H1 R1 F1 h1 x kx nx => ?_⟩
  cases d with
  | str z =>
    have kx : Rep T P1 (.str z) x := kx
    rw [Rep] at kx
    exact ⟨z, kx, h1.here R1 (Fr.refl _ _ _ _) _ yl_str⟩
  | _ => exact h1.elim
@[simp] theorem asStr_s {env : Env} : asStr m env = (m env).bind fun d e => match d with | .str z => .ok (signs z) e | _ => .stk := (rfl)
@[simp] theorem notInStr_s {x y : D} : notInStr x y = (inStr x y).map (!·) := (rfl)
end
end Ue

set_option linter.all false
set_option Elab.async false
set_option maxRecDepth 100000
set_option maxHeartbeats 4000000
/-! sorted(set(a tuple of ints)), len(set(a list of ints)) -/
namespace L2
open PySem PySem.Spec PyProof.Rows
section
variable {X : Cx}
def rSetT (K : PySem.W.Frag) (w : World) : List V → Hp → VK → Prop := fun xs H Q => ∃ (l : Addr) (ns : List Int), xs = [V.ref l] ∧ SqT K H l (ns.map V.int) ∧ ns.length + 1 < scanBound ∧
  ∀ q n, n ≤ ns.length → H q = none → Q (.ref q) (upd H q (SetO w q (fun j => decide (j ∈ ns)) n))
theorem cr_setT (hc : X.calm = true) : CallR X (.type "set") (rSetT X.K X.w) := by
  intro pins s σ H xs us Q I r h
  obtain ⟨l, ns, rfl, hs, hb, q⟩ := h
  obtain ⟨its, rv, hl, _⟩ := I.tuple hs
  rw [Vals.ref1 r]
  refine call_set_tupI ns (I.ok.hd hc) hl (by simpa using rv.ints) hb fun h' tk c R hc' hk => ?_
  exact ⟨.ref _, upd H s.heap.objs.size (SetO X.w s.heap.objs.size (fun j => decide (j ∈ ns)) c), I.laid (t' := tk) hk (Nat.le_refl _) (setO_new R), rfl, q _ c hc' (I.hok.fresh (Nat.le_refl _))⟩
def firstN (ns : List Int) : List Int := PyProof.Rows.firstMet (fun i => ns.getD i 0) ns.length
def rSetLI (K : PySem.W.Frag) : List V → Hp → VK → Prop := fun xs H Q => ∃ (l : Addr) (ns : List Int), xs = [V.ref l] ∧ SqL K H l (ns.map V.int) ∧ ns.length + 1 < scanBound ∧
  ∀ q, H q = none → Q (.ref q) (upd H q (.set (fun k => (firstN ns).any (· == k)) (firstN ns).length))
theorem cr_setL (hc : X.calm = true) : CallR X (.type "set") (rSetLI X.K) := by
  intro pins s σ H xs us Q I r h
  obtain ⟨l, ns, rfl, hs, hb, q⟩ := h
  obtain ⟨its, rv, hl, _⟩ := I.list hs
  rw [Vals.ref1 r]
  have e : its.toArray.size = ns.length := by rw [List.size_toArray, ← rv.length, List.length_map]
  refine call_set_list (I.ok.hd hc) hl.isList (by simpa using rv.ints) (by rw [e]; exact hb) fun h' tk R hk => ?_
  rw [e] at R
  exact ⟨.ref _, upd H s.heap.objs.size (.set (fun k => (firstN ns).any (· == k)) (firstN ns).length), I.laid (t' := tk) (fun b u hu => hk b u (Heap.lt_size hu) hu) (Nat.le_refl _) R, rfl, q _ (I.hok.fresh (Nat.le_refl _))⟩
def rLenSet : List V → Hp → VK → Prop := fun xs H Q => ∃ (a : Addr) (S : Int → Bool) (n : Nat), xs = [V.ref a] ∧ H a = some (.set S n) ∧ n < 2 ^ 62 ∧ Q (.int (n : Nat)) H
theorem cr_lenSet (hc : X.calm = true) : CallR X (.builtin "len") rLenSet := by
  intro pins s σ H xs us Q I r h
  obtain ⟨a, S, n, rfl, ha, hn, q⟩ := h
  rw [Vals.ref1 r]
  have R : s.heap.SetOf (intKind X.prog X.w) a S n := I.hok a _ ha
  obtain ⟨o, es, ep, t, ho, hex, hd, _, _, _, hf, hz⟩ := R
  exact call_len_set ho hex hd hf (by omega) ⟨.int n, H, I.tok _, ⟨_, by rw [hz]⟩, q⟩
end
end L2
namespace Ue
open PySem PySem.Spec PyProof.Rows L2
/-! the members, rising -/
def insU (a : Int) : List Int → List Int
  | [] => [a]
  | b :: l => if a < b then a :: b :: l else if a = b then b :: l else b :: insU a l
def sortU (ns : List Int) : List Int := ns.foldr insU []
theorem insU_mem (a x : Int) : ∀ l, x ∈ insU a l ↔ x = a ∨ x ∈ l
  | [] => by simp [insU]
  | b :: l => by
    unfold insU
    by_cases h : a < b
    · simp [h]
    · by_cases h2 : a = b
      · subst h2; simp [h]
      · rw [if_neg h, if_neg h2, List.mem_cons, insU_mem a x l, List.mem_cons]
        constructor
        · rintro (h | h | h)
          · exact .inr (.inl h)
          · exact .inl h
          · exact .inr (.inr h)
        · rintro (h | h | h)
          · exact .inr (.inl h)
          · exact .inl h
          · exact .inr (.inr h)
theorem insU_up (a : Int) : ∀ l : List Int, l.Pairwise (· < ·) → (insU a l).Pairwise (· < ·)
  | [], _ => by simp [insU]
  | b :: l, h => by
    obtain ⟨h1, h2⟩ := List.pairwise_cons.mp h
    unfold insU
    by_cases g : a < b
    · rw [if_pos g]
      refine List.pairwise_cons.mpr ⟨fun x hx => ?_, h⟩
      rcases List.mem_cons.mp hx with rfl | hx
      · exact g
      · have := h1 x hx; omega
    · by_cases g2 : a = b
      · rw [if_neg g, if_pos g2]; exact h
      · rw [if_neg g, if_neg g2]
        refine List.pairwise_cons.mpr ⟨fun x hx => ?_, insU_up a l h2⟩
        rcases (insU_mem a x l).mp hx with rfl | hx
        · omega
        · exact h1 x hx
theorem sortU_mem (x : Int) : ∀ ns, x ∈ sortU ns ↔ x ∈ ns
  | [] => Iff.rfl
  | n :: ns => by
    show x ∈ insU n (sortU ns) ↔ _
    rw [insU_mem, sortU_mem x ns, List.mem_cons]
theorem sortU_up : ∀ ns, (sortU ns).Pairwise (· < ·)
  | [] => .nil
  | n :: ns => insU_up n _ (sortU_up ns)
theorem up_nodup {l : List Int} (h : l.Pairwise (· < ·)) : l.Nodup := h.imp fun h e => by omega
theorem up_uniq {a b : List Int} (ha : a.Pairwise (· < ·)) (hb : b.Pairwise (· < ·)) (h : ∀ x, x ∈ a ↔ x ∈ b) : a = b :=
  sorted_uniq ((List.perm_ext_iff_of_nodup (up_nodup ha) (up_nodup hb)).mpr h) (ha.imp fun h => by omega) (hb.imp fun h => by omega)
theorem met_mem (val : Nat → Int) (x : Int) : ∀ i, x ∈ PyProof.Rows.firstMet val i ↔ ∃ j, j < i ∧ val j = x := fun i => by
  have h := PyProof.Rows.firstMet_any val i x
  have e1 : (x ∈ PyProof.Rows.firstMet val i) ↔ (PyProof.Rows.firstMet val i).any (· == x) = true := by
    rw [List.any_eq_true]
    constructor
    · intro h; exact ⟨x, h, by simp⟩
    · rintro ⟨y, hy, e⟩; rw [← eq_of_beq e]; exact hy
  rw [e1, h, List.any_eq_true]
  constructor
  · rintro ⟨y, hy, e⟩
    obtain ⟨j, hj, rfl⟩ := List.mem_map.mp hy
    exact ⟨j, by simpa using hj, eq_of_beq e⟩
  · rintro ⟨j, hj, e⟩
    exact ⟨val j, List.mem_map.mpr ⟨j, by simpa using hj, rfl⟩, by simp [e]⟩
theorem met_nodup (val : Nat → Int) : ∀ i, (PyProof.Rows.firstMet val i).Nodup
  | 0 => by rw [PyProof.Rows.firstMet_zero]; exact List.nodup_nil
  | i + 1 => by
    rw [PyProof.Rows.firstMet_succ]
    have ih := met_nodup val i
    generalize PyProof.Rows.firstMet val i = l at ih
    show (if l.any (· == val i) then l else l ++ [val i]).Nodup
    cases h : l.any (· == val i) with
    | true => exact ih
    | false =>
      rw [if_neg (by decide)]
      refine List.nodup_append.mpr ⟨ih, by simp, fun a ha b hb => ?_⟩
      rw [List.mem_singleton.mp hb]
      intro e
      have := List.any_eq_false.mp h a ha
      rw [e] at this
      simp at this
theorem firstN_len (ns : List Int) : (firstN ns).length = (sortU ns).length := by
  refine List.Perm.length_eq ((List.perm_ext_iff_of_nodup (met_nodup _ _) (up_nodup (sortU_up ns))).mpr fun x => ?_)
  rw [met_mem, sortU_mem]
  constructor
  · rintro ⟨j, hj, rfl⟩
    show ns.getD j 0 ∈ ns
    rw [List.getD_eq_getElem?_getD, List.getElem?_eq_getElem hj]
    exact List.getElem_mem hj
  · intro hx
    obtain ⟨j, hj, rfl⟩ := List.mem_iff_getElem.mp hx
    refine ⟨j, hj, ?_⟩
    show ns.getD j 0 = ns[j]
    rw [List.getD_eq_getElem?_getD, List.getElem?_eq_getElem hj]; rfl
theorem steady_lst0 {k : Kd} : Steady k (lstM []) := by
  cases k with
  | own i =>
    intro env d env' h
    have h : (if 0 ≤ sizeLine then R.ok (D.lst []) env else .stk) = .ok d env' := h
    rw [if_pos (Nat.zero_le _)] at h
    cases h; rfl
  | _ => trivial
def sortSetM (m : M) : M := fun env => (m env).bind fun d e => match d with
  | .tup ds => (match dInts ds with | some ns => if ns.length < 60 then .ok (.lst ((sortU ns).map D.int)) e else .stk | none => .stk)
  | _ => .stk
def lenSetM (m : M) : M := fun env => (m env).bind fun d e => match d with
  | .lst ds => (match dInts ds with | some ns => if ns.length < 60 then .ok (.int ((sortU ns).length : Int)) e else .stk | none => .stk)
  | _ => .stk
section
variable {T : Tab} {W : WX} {X : Cx} {k : Kd} {m : M} {e : Expr} {p p2 q pos : Pos}
theorem scan60 {n : Nat} (h : n < 60) : n + 1 < scanBound := by unfold scanBound; omega
theorem de_sortSet (hK : X.K = T.K) (hc : X.calm = true) (hg : Gl X "sorted") (hm : X.mg "sorted" = none) (hg2 : Gl X "set") (hm2 : X.mg "set" = none) (h : DE T W X e k m)
    (he : starEach [e] X.env = (false, eval e X.env) :: starEach [] X.env := by rfl)
    (he2 : starEach [.Call (.Name "set" p2) [e] [] q] X.env = (false, eval (.Call (.Name "set" p2) [e] [] q) X.env) :: starEach [] X.env := by rfl) (hpl : (backTo q (starEach [] X.env)).any (·.1) = false := by rfl) (hpl2 : (backTo pos (starEach [] X.env)).any (·.1) = false := by rfl) :
    DE T W X (.Call (.Name "sorted" p) [.Call (.Name "set" p2) [e] [] q] [] pos) .fresh (sortSetM m) := by
  have b := pe_callTy (pos := q) (p := p2) (x := "set") (cr_setT hc) hg2 hm2 (by decide +kernel) (pa_cons h pa_nil he) (by decide) (by decide) he hpl
  refine pe_imp (pe_callB (pos := pos) (p := p) (x := "sorted") (cr_sortedSet hc) hg hm (by decide +kernel) (pa_cons b pa_nil he2) (by decide) (by decide) he2 hpl2) fun σ H Q h => ?_
  obtain ⟨env, P, RR, h⟩ := h
  refine ⟨env, P, RR, After.at h.bind fun d env1 P1 H1 _ R1 F1 h1 x kx _ => ?_⟩
  cases d with
  | tup ds =>
    cases q : dInts ds with
    | none => simp only [q] at h1; exact h1.elim
    | some ns =>
      simp only [q] at h1
      by_cases hl : ns.length < 60
      · rw [if_pos hl] at h1
        obtain ⟨a, vs, rfl, hs, rs⟩ := (kx.rdb R1).tupE R1.sub
        rw [dInts_ok q] at rs
        rw [Reps.ints ns rs] at hs
        refine ⟨a, ns, rfl, hK ▸ hs, scan60 hl, fun s n hn hsN => ?_⟩
        obtain ⟨R2, F2, no2, pn2⟩ := R1.newF (o := SetO X.w s (fun j => decide (j ∈ ns)) n) hsN
        refine ⟨s, _, n, rfl, upd_same, by omega, fun ms t up hm _ hf => ?_⟩
        have em : ms = sortU ns := up_uniq up (sortU_up ns) fun x => by rw [hm x, sortU_mem]; exact decide_eq_true_iff
        subst em
        obtain ⟨R3, F3, no3, pn3⟩ := R2.newF (o := .lst ((sortU ns).map V.int)) hf
        have hne : t ≠ s := fun z => by rw [z, upd_same] at hf; cases hf
        have ht : H1 t = none := by rw [upd_ne hne] at hf; exact hf
        exact h1.here R3 (F2.trans F3) _ ⟨t, _, _, rfl, upd_same, pn3, no3, Reps.ofInts _, rfl⟩ (NewV.back (k := .fresh) F1 ⟨t, rfl, ht⟩)
      · rw [if_neg hl] at h1; exact h1.elim
  | _ => exact h1.elim
theorem de_lenSet (hK : X.K = T.K) (hc : X.calm = true) (hg : Gl X "len") (hm : X.mg "len" = none) (hg2 : Gl X "set") (hm2 : X.mg "set" = none) (h : DE T W X e k m)
    (he : starEach [e] X.env = (false, eval e X.env) :: starEach [] X.env := by rfl)
    (he2 : starEach [.Call (.Name "set" p2) [e] [] q] X.env = (false, eval (.Call (.Name "set" p2) [e] [] q) X.env) :: starEach [] X.env := by rfl) (hpl : (backTo q (starEach [] X.env)).any (·.1) = false := by rfl) (hpl2 : (backTo pos (starEach [] X.env)).any (·.1) = false := by rfl) :
    DE T W X (.Call (.Name "len" p) [.Call (.Name "set" p2) [e] [] q] [] pos) .pure (lenSetM m) := by
  have b := pe_callTy (pos := q) (p := p2) (x := "set") (cr_setL hc) hg2 hm2 (by decide +kernel) (pa_cons h pa_nil he) (by decide) (by decide) he hpl
  refine pe_imp (pe_callB (pos := pos) (p := p) (x := "len") (cr_lenSet hc) hg hm (by decide +kernel) (pa_cons b pa_nil he2) (by decide) (by decide) he2 hpl2) fun σ H Q h => ?_
  obtain ⟨env, P, RR, h⟩ := h
  refine ⟨env, P, RR, After.at h.bind fun d env1 P1 H1 _ R1 F1 h1 x kx _ => ?_⟩
  cases d with
  | lst ds =>
    cases q : dInts ds with
    | none => simp only [q] at h1; exact h1.elim
    | some ns =>
      simp only [q] at h1
      by_cases hl : ns.length < 60
      · rw [if_pos hl] at h1
        obtain ⟨a, rfl, hs⟩ := (kx.rdb R1).intsE R1.sub q
        refine ⟨a, ns, rfl, hK ▸ hs, scan60 hl, fun s hsN => ?_⟩
        obtain ⟨R2, F2, no2, pn2⟩ := R1.newF (o := .set (fun k => (firstN ns).any (· == k)) (firstN ns).length) hsN
        have hle := PyProof.Rows.firstMet_length_le (fun i => ns.getD i 0) ns.length
        have hle : (firstN ns).length ≤ ns.length := hle
        refine ⟨s, _, _, rfl, upd_same, by omega, ?_⟩
        have q0 := h1.here R2 F2 (.int ((sortU ns).length : Int)) (show Rep T P1 (.int _) (.int _) from rep_int) trivial
        rw [← firstN_len] at q0
        exact q0
      · rw [if_neg hl] at h1; exact h1.elim
  | _ => exact h1.elim
end
@[simp] theorem sortSetM_s {m : M} {env : Env} : sortSetM m env = (m env).bind fun d e => match d with
  | .tup ds => (match dInts ds with | some ns => if ns.length < 60 then .ok (.lst ((sortU ns).map D.int)) e else .stk | none => .stk)
  | _ => .stk := (rfl)
@[simp] theorem lenSetM_s {m : M} {env : Env} : lenSetM m env = (m env).bind fun d e => match d with
  | .lst ds => (match dInts ds with | some ns => if ns.length < 60 then .ok (.int ((sortU ns).length : Int)) e else .stk | none => .stk)
  | _ => .stk := (rfl)
end Ue

set_option linter.all false
set_option Elab.async false
set_option maxRecDepth 100000
set_option maxHeartbeats 4000000
/-! a suite derived twice: the slot holds an own list, or it does not any more -/
namespace Ue
open PySem PySem.Spec PyProof.Rows L2
def pickS (i : Nat) (a b : MS) : MS := fun env => match env[i]? with | some (some (.own _)) => a env | _ => b env
section
variable {T : Tab} {W : WX} {kr : Kd} {pins : List Nat} {X : Cx} {st : List Stmt} {a b : MS} {i : Nat}
theorem pickS_or (env : Ue.Env) : pickS i a b env = a env ∨ pickS i a b env = b env := by
  unfold pickS
  cases env[i]? with
  | none => exact .inr rfl
  | some o =>
    cases o with
    | none => exact .inr rfl
    | some v => cases v <;> first | exact .inl rfl | exact .inr rfl
theorem dss_pick (h1 : DSs T W kr pins X st a) (h2 : DSs T W kr pins X st b) : DSs T W kr pins X st (pickS i a b) := ⟨fun ps s σ H D I q => by
  obtain ⟨env, P, RR, h⟩ := q
  rcases pickS_or (a := a) (b := b) (i := i) env with e | e
  · rw [e] at h; exact h1.run ps s σ H D I ⟨env, P, RR, h⟩
  · rw [e] at h; exact h2.run ps s σ H D I ⟨env, P, RR, h⟩⟩
end
@[simp] theorem pickS_s {i : Nat} {a b : MS} {env : Ue.Env} : pickS i a b env = match env[i]? with | some (some (.own _)) => a env | _ => b env := (rfl)
end Ue

set_option linter.all false
set_option Elab.async false
set_option maxRecDepth 100000
set_option maxHeartbeats 4000000
set_option exponentiation.threshold 5000
/-! plain lemmas about day sets, strings and loops, for several laws -/
namespace Ue
open PySem
/-! ### strings in lists -/
theorem toPys_strs : ∀ ns : List Str, toPys (ns.map D.str) = some (ns.map PyData.str)
  | [] => by simp [toPys]
  | n :: ns => by simp [toPys, toPy, toPys_strs ns]
theorem lay_strs : ∀ ns : List Str, ns.all PyData.strOk = true → PyData.canLayAll0 (ns.map PyData.str) = true
  | [], _ => by simp [PyData.canLayAll0]
  | n :: ns, h => by
    simp only [List.all_cons, Bool.and_eq_true] at h
    simp [PyData.canLayAll0, PyData.canLay0, lay_strs ns h.2, h.1]
theorem depth_strs : ∀ ns : List Str, PyData.depthAll (ns.map PyData.str) = 0
  | [] => by simp [PyData.depthAll]
  | n :: ns => by simp [PyData.depthAll, PyData.depth, depth_strs ns]
theorem shaped_strs {ns : List Str} (h : ns.all PyData.strOk = true) : SeqAt.shaped (.list (ns.map PyData.str)) = true := by
  unfold SeqAt.shaped; simp [PyData.canLay0, PyData.depth, lay_strs ns h, depth_strs]
theorem shaped_str {n : Str} (h : PyData.strOk n = true) : SeqAt.shaped (.str n) = true := by
  unfold SeqAt.shaped; simp [PyData.canLay0, PyData.depth, h]
theorem eqv_strs : ∀ a b : List Str, PyData.eqvAll (a.map PyData.str) (b.map PyData.str) = decide (a = b)
  | [], [] => by simp [PyData.eqvAll]
  | [], _ :: _ => by simp [PyData.eqvAll]
  | _ :: _, [] => by simp [PyData.eqvAll]
  | x :: xs, y :: ys => by
    simp only [List.map_cons, PyData.eqvAll, PyData.eqv, eqv_strs xs ys, List.cons.injEq, Bool.decide_and]
    congr 1
theorem eqD_strs {a b : List Str} (ha : a.all PyData.strOk = true) (hb : b.all PyData.strOk = true) : eqD (.lst (a.map D.str)) (.lst (b.map D.str)) = some (decide (a = b)) := by
  simp [eqD, toPy, toPys_strs, shaped_strs ha, shaped_strs hb, PyData.eqv, eqv_strs]
theorem any_strs : ∀ (a : List Str) (n : Str), (a.map PyData.str).any (fun z => PyData.eqv z (.str n)) = decide (n ∈ a)
  | [], n => by simp
  | x :: xs, n => by
    simp only [List.map_cons, List.any_cons, any_strs xs n, List.mem_cons, PyData.eqv, Bool.decide_or]
    by_cases h : n = x
    · subst h; simp
    · have : (x == n) = false := by simpa using fun z => h z.symm
      simp [h, this]
theorem inA_strs {a : List Str} {n : Str} (h1 : PyData.strOk n = true) (h2 : a.all PyData.strOk = true) : inA (.str n) (.lst (a.map D.str)) = some (decide (n ∈ a)) := by
  show ((toPys (a.map D.str)).bind fun qs => if SeqAt.shaped (.str n) = true ∧ SeqAt.shaped (.list qs) = true then some (qs.any fun z => PyData.eqv z (.str n)) else none) = _
  rw [toPys_strs]
  show (if SeqAt.shaped (.str n) = true ∧ SeqAt.shaped (.list (a.map PyData.str)) = true then some ((a.map PyData.str).any fun z => PyData.eqv z (.str n)) else none) = _
  rw [if_pos ⟨shaped_str h1, shaped_strs h2⟩, any_strs]
theorem inA_strsT {a : List Str} {n : Str} (h1 : PyData.strOk n = true) (h2 : a.all PyData.strOk = true) : inA (.str n) (.tup (a.map D.str)) = some (decide (n ∈ a)) := inA_strs h1 h2
theorem inA_ints {a : List Int} {n : Int} : inA (.int n) (.tup (a.map D.int)) = some (decide (n ∈ a)) := by
  show ((toPys (a.map D.int)).bind fun qs => if SeqAt.shaped (.int n) = true ∧ SeqAt.shaped (.list qs) = true then some (qs.any fun z => PyData.eqv z (.int n)) else none) = _
  rw [toPys_ints]
  show (if SeqAt.shaped (.int n) = true ∧ SeqAt.shaped (.list (a.map PyData.int)) = true then some ((a.map PyData.int).any fun z => PyData.eqv z (.int n)) else none) = _
  rw [if_pos ⟨shaped_int n, shaped_ints a⟩, any_ints]
theorem inA_intsL {a : List Int} {n : Int} : inA (.int n) (.lst (a.map D.int)) = some (decide (n ∈ a)) := inA_ints
/-- a pair of whole numbers beside another -/
theorem eqD_pair {a b c d : Int} : eqD (.tup [.int a, .int b]) (.tup [.int c, .int d]) = some (decide (a = c ∧ b = d)) := by
  have := eqD_tup (a := [a, b]) (b := [c, d])
  simpa using this
theorem mid_of {i : Int} (h1 : -2 ^ 800 < i) (h2 : i < 2 ^ 800) : Mid i := by
  unfold Mid
  have : i.natAbs < 2 ^ 800 := by omega
  exact Nat.lt_of_lt_of_le this (Nat.pow_le_pow_right (by decide) (by decide))
/-! ### data that is no object -/
def wholeB (d : D) (lo hi : Int) : Bool := match d with | .int x => decide (lo ≤ x) && decide (x ≤ hi) | _ => false
def plainD : D → Bool | .obj _ _ => false | .scr _ => false | _ => true
theorem whole_nat {d : D} {lo hi : Nat} (h : wholeB d lo hi = true) : ∃ n : Nat, d = .int n ∧ lo ≤ n ∧ n ≤ hi := by
  cases d with
  | int x =>
    simp only [wholeB, Bool.and_eq_true, decide_eq_true_eq] at h
    obtain ⟨n, rfl⟩ := Int.eq_ofNat_of_zero_le (Int.le_trans (Int.natCast_nonneg lo) h.1)
    exact ⟨n, rfl, by omega, by omega⟩
  | _ => cases h
theorem wholeN {n lo hi : Nat} (h1 : lo ≤ n) (h2 : n ≤ hi) : wholeB (.int n) lo hi = true := by simp [wholeB]; omega
/-! ### bits -/
def br (w t : Nat) : Nat := w - (w &&& t)
theorem and_le (w t : Nat) : w &&& t ≤ w := Nat.and_le_left
theorem br_le (w t : Nat) : br w t ≤ w := Nat.sub_le _ _
theorem bAnd (w t : Nat) : Builtin.bitAnd (w : Int) (t : Int) = ((w &&& t : Nat) : Int) := bitAnd_nat w t
theorem bAndN (w t : Nat) : Builtin.bitAnd (w : Int) (Builtin.bitNot (t : Int)) = ((br w t : Nat) : Int) := by
  rw [bitAndNot_nat]; unfold br; have := and_le w t; omega
theorem bOr (w t : Nat) : Builtin.bitOr (w : Int) (t : Int) = ((w ||| t : Nat) : Int) := bitOr_nat w t
theorem bit_int (w d : Nat) : Builtin.bitAnd ((w : Int) / 2 ^ d) 1 = if w.testBit d then 1 else 0 := by
  have e : ((w / 2 ^ d : Nat) : Int) = (w : Int) / 2 ^ d := by simp
  have h := bitAnd_nat (w / 2 ^ d) 1
  rw [Nat.and_one_is_mod] at h
  rw [← e, Nat.testBit_eq_decide_div_mod_eq]
  rcases Nat.mod_two_eq_zero_or_one (w / 2 ^ d) with q | q <;> rw [q] at h ⊢ <;> simpa using h
theorem add_or {x y : Nat} (h : x &&& y = 0) : x + y = x ||| y := by
  have hw : x + y < 2 ^ (x + y) := Nat.lt_two_pow_self
  have hx : x % 2 ^ (x + y) = x := Nat.mod_eq_of_lt (by omega)
  have hy : y % 2 ^ (x + y) = y := Nat.mod_eq_of_lt (by omega)
  have h1 : (BitVec.ofNat (x + y) x) &&& (BitVec.ofNat (x + y) y) = 0#(x + y) := by
    apply BitVec.eq_of_toNat_eq
    rw [BitVec.toNat_and, BitVec.toNat_ofNat, BitVec.toNat_ofNat, hx, hy, h]; simp
  have h2 := congrArg BitVec.toNat (BitVec.add_eq_or_of_and_eq_zero _ _ h1)
  rw [BitVec.toNat_add, BitVec.toNat_or, BitVec.toNat_ofNat, BitVec.toNat_ofNat, hx, hy, Nat.mod_eq_of_lt hw] at h2
  exact h2
theorem br_xor (w t : Nat) : br w t = w ^^^ (w &&& t) := by
  have h1 : (w ^^^ (w &&& t)) &&& (w &&& t) = 0 := by
    apply Nat.eq_of_testBit_eq; intro i
    simp only [Nat.testBit_and, Nat.testBit_xor, Nat.zero_testBit]
    cases w.testBit i <;> cases t.testBit i <;> rfl
  have h2 : (w ^^^ (w &&& t)) ||| (w &&& t) = w := by
    apply Nat.eq_of_testBit_eq; intro i
    simp only [Nat.testBit_or, Nat.testBit_and, Nat.testBit_xor]
    cases w.testBit i <;> cases t.testBit i <;> rfl
  have h3 := add_or h1
  rw [h2] at h3
  unfold br; omega
theorem br_bit (w t i : Nat) : (br w t).testBit i = (w.testBit i && !t.testBit i) := by
  rw [br_xor]
  simp only [Nat.testBit_and, Nat.testBit_xor]
  cases w.testBit i <;> cases t.testBit i <;> rfl
theorem hi_bit {n k i : Nat} (h : n < 2 ^ k) (hi : k ≤ i) : n.testBit i = false := Nat.testBit_lt_two_pow (Nat.lt_of_lt_of_le h (Nat.pow_le_pow_right (by decide) hi))
theorem and0_iff {x y : Nat} : x &&& y = 0 ↔ ∀ i, x.testBit i = true → y.testBit i = false := by
  constructor
  · intro h i hi
    have := congrArg (fun n => n.testBit i) h
    simp only [Nat.testBit_and, Nat.zero_testBit, hi, Bool.true_and] at this
    exact this
  · intro h
    apply Nat.eq_of_testBit_eq; intro i
    rw [Nat.testBit_and, Nat.zero_testBit]
    cases q : x.testBit i with
    | false => rfl
    | true => rw [h i q]; rfl
theorem br0_iff {x y : Nat} : br x y = 0 ↔ ∀ i, x.testBit i = true → y.testBit i = true := by
  constructor
  · intro h i hi
    have := congrArg (fun n => n.testBit i) h
    simp only [br_bit, Nat.zero_testBit, hi, Bool.true_and] at this
    cases q : y.testBit i with
    | true => rfl
    | false => rw [q] at this; cases this
  · intro h
    apply Nat.eq_of_testBit_eq; intro i
    rw [br_bit, Nat.zero_testBit]
    cases q : x.testBit i with
    | false => rfl
    | true => rw [h i q]; rfl
theorem or_lt {x y : Nat} (h1 : x ≤ 65535) (h2 : y ≤ 65535) : x ||| y ≤ 65535 := by
  have := Nat.or_lt_two_pow (x := x) (y := y) (n := 16) (by omega) (by omega); omega
theorem pow_bit (d i : Nat) : (2 ^ d).testBit i = decide (d = i) := by rw [Nat.testBit_two_pow]
/-- one more day at the top -/
theorem mod_step (x i : Nat) : x % 2 ^ (i + 1) = x % 2 ^ i + (if x.testBit i then 2 ^ i else 0) := by
  rw [Nat.mod_pow_succ, Nat.testBit_eq_decide_div_mod_eq]
  rcases Nat.mod_two_eq_zero_or_one (x / 2 ^ i) with q | q <;> simp [q]
theorem add_day {x d : Nat} (h : x.testBit d = false) : x + 2 ^ d = x ||| 2 ^ d := by
  apply add_or
  rw [and0_iff]
  intro i hi
  rw [pow_bit]
  apply decide_eq_false
  intro e; subst e; rw [h] at hi; cases hi
theorem sub_day {x d : Nat} (h : x.testBit d = true) : x - 2 ^ d = br x (2 ^ d) := by
  unfold br
  congr 1
  apply Nat.eq_of_testBit_eq; intro i
  rw [Nat.testBit_and, pow_bit]
  by_cases e : d = i
  · subst e; rw [h]; simp
  · simp [e]
theorem day_le {x d : Nat} (h : x.testBit d = true) : 2 ^ d ≤ x := Nat.ge_two_pow_of_testBit h
theorem shl1 {i : Nat} (h : i < 64) : shlOk 1 (i : Int) = true := by
  unfold shlOk
  rw [show Builtin.Int.intBits 1 = 1 by decide]
  simp; omega
/-! ### loops over 0, 1, .. -/
theorem forM_rng {g : TGM} {s : MS} (I : Nat → Env → Prop) (n : Nat) (env : Env) (h : ∀ i < n, ∀ e, I i e → ∃ e1 e2, g (.int (i : Int)) e = some e1 ∧ (s e1 = .nx e2 ∨ s e1 = .cnt e2) ∧ I (i + 1) e2) (h0 : I 0 env) : ∃ e2, forM g s (rngL 0 n) env = .nx e2 ∧ I n e2 := by
  have hl : (rngL 0 n).length = n := by simp [rngL]
  obtain ⟨e2, q, r⟩ := forM_idx (g := g) (s := s) I (rngL 0 n) 0 env (by
    intro i d hd e he
    have hi : i < n := by
      rcases Nat.lt_or_ge i n with q | q
      · exact q
      · rw [List.getElem?_eq_none (by omega)] at hd; cases hd
    have : d = .int (i : Int) := by
      simp only [rngL, List.getElem?_map] at hd
      rw [List.getElem?_range (by omega)] at hd
      simp at hd; exact hd.symm
    subst this
    rw [Nat.zero_add] at he ⊢
    exact h i hi e he) h0
  rw [hl, Nat.zero_add] at r
  exact ⟨e2, q, r⟩
/-- a loop that answers early with one answer, or goes through -/
theorem forM_all {g : TGM} {s : MS} (I : Env → Prop) (ok : D → Bool) (bad : D) : ∀ (ds : List D) (env : Env), (∀ d ∈ ds, ∀ e, I e → ∃ e1, g d e = some e1 ∧ (if ok d then ∃ e2, s e1 = .nx e2 ∧ I e2 else ∃ e2, s e1 = .ret bad e2 ∧ I e2)) → I env → ∃ e2, I e2 ∧ forM g s ds env = if ds.all ok then .nx e2 else .ret bad e2
  | [], env, _, h => ⟨env, h, rfl⟩
  | d :: ds, env, k, h => by
    obtain ⟨e1, q1, q2⟩ := k d (by simp) env h
    by_cases hk : ok d = true
    · rw [if_pos hk] at q2
      obtain ⟨e2, q3, q4⟩ := q2
      obtain ⟨e3, q5, q6⟩ := forM_all I ok bad ds e2 (fun d hd => k d (by simp [hd])) q4
      refine ⟨e3, q5, ?_⟩
      rw [forM_c, q1]
      simp [q3, q6, hk]
    · rw [if_neg hk] at q2
      obtain ⟨e2, q3, q4⟩ := q2
      refine ⟨e2, q4, ?_⟩
      rw [forM_c, q1]
      simp [q3, hk]

theorem cutD_to {ds : List D} {n : Nat} : cutD ds none (some (n : Int)) = ds.take n := by
  show (ds.drop 0).take (HT.sIx ds.length ds.length (some (n : Int)) - 0) = _
  rw [HT.sIx_nat, List.drop_zero, Nat.sub_zero]
  rcases Nat.le_total n ds.length with h | h
  · rw [Nat.min_eq_left h]
  · rw [Nat.min_eq_right h, List.take_length, List.take_of_length_le h]
def Vl (x : Option EV) : Prop := x = none ∨ ∃ d, x = some (.v d)
/-- a comprehension over what is made from xs -/
theorem compL_map {α : Type} {vs : List Nat} {g : TGM} {te : M} {env : Env} (h f : α → D) (hv : vsOk env vs = true) : ∀ (xs : List α),
    (∀ x ∈ xs, ∃ e1 e3, g (h x) (wipeE env vs) = some e1 ∧ te e1 = .ok (f x) e3 ∧ restE env e3 vs = env) → compL vs g yesT te (xs.map h) env = .ok (xs.map f) env
  | [], _ => rfl
  | x :: xs, k => by
    obtain ⟨e1, e3, q1, q2, q3⟩ := k x (by simp)
    have ih := compL_map h f hv xs fun d hd => k d (by simp [hd])
    rw [List.map_cons, compL_c, if_pos hv, q1]
    simp [q2, q3, ih]
theorem compL_mapF {α : Type} {vs : List Nat} {g : TGM} {tt : MT} {te : M} {env : Env} (h f : α → D) (p : α → Bool) (hv : vsOk env vs = true) : ∀ (xs : List α),
    (∀ x ∈ xs, ∃ e1 e2, g (h x) (wipeE env vs) = some e1 ∧ tt e1 = .ok (p x) e2 ∧ (p x = false → restE env e2 vs = env) ∧ (p x = true → ∃ e3, te e2 = .ok (f x) e3 ∧ restE env e3 vs = env)) → compL vs g tt te (xs.map h) env = .ok ((xs.filter p).map f) env
  | [], _ => rfl
  | x :: xs, k => by
    obtain ⟨e1, e2, q1, q2, q3, q4⟩ := k x (by simp)
    have ih := compL_mapF h f p hv xs fun d hd => k d (by simp [hd])
    rw [List.map_cons, compL_c, if_pos hv, q1]
    cases hp : p x with
    | false => rw [hp] at q2; simp [q2, q3 hp, ih, hp]
    | true =>
      obtain ⟨e3, q5, q6⟩ := q4 hp
      rw [hp] at q2; simp [q2, q5, q6, ih, hp]
theorem reprD_int {a : Int} (h : a.natAbs.log2 < 1920) : reprD [.int a] = some (.str (PyData.int a).shown) := by
  show (if reprOk (.int a) then some (D.str (PyData.int a).shown) else none) = _
  refine if_pos ?_
  have e : (PyData.int a).shown.length ≤ sizeLine := by
    have := int_text_fits h
    simpa [PyData.shown] using this
  unfold reprOk
  simp [PyData.showable, PyData.hasDict, PyData.depth, h, e]
end Ue

set_option linter.all false
set_option Elab.async false
set_option maxRecDepth 100000
set_option maxHeartbeats 4000000
namespace Lw
open PySem PySem.Spec L2 Ue
def top (i : Nat) : Stmt := PySem.Challenge.pw_usualdays_k10_whole_kept_in_all_orders.main.body.getD i (.Pass ⟨0, 0, 0, 0⟩)
abbrev s_xBadMarks : Stmt := (cBody (top 5)).getD 0 (.Pass ⟨0, 0, 0, 0⟩)
abbrev s_xBadSaying : Stmt := (cBody (top 8)).getD 0 (.Pass ⟨0, 0, 0, 0⟩)
abbrev s_xBadBook : Stmt := (cBody (top 9)).getD 0 (.Pass ⟨0, 0, 0, 0⟩)
abbrev s_xOtherDays : Stmt := (cBody (top 12)).getD 0 (.Pass ⟨0, 0, 0, 0⟩)
abbrev s_xBadOrder : Stmt := (cBody (top 13)).getD 0 (.Pass ⟨0, 0, 0, 0⟩)
abbrev s_days_in : Stmt := top 2
abbrev s_is_whole : Stmt := top 15
abbrev s_checked_layers : Stmt := top 19
abbrev s_check_days : Stmt := top 20
abbrev s_check_same_days : Stmt := top 21
abbrev s_first_not_kept : Stmt := top 22
abbrev s_Order_init : Stmt := (cBody (top 23)).getD 0 (.Pass ⟨0, 0, 0, 0⟩)
abbrev s_Order_iter : Stmt := (cBody (top 23)).getD 2 (.Pass ⟨0, 0, 0, 0⟩)
abbrev s_Order_len : Stmt := (cBody (top 23)).getD 3 (.Pass ⟨0, 0, 0, 0⟩)
abbrev s_Order_eq : Stmt := (cBody (top 23)).getD 4 (.Pass ⟨0, 0, 0, 0⟩)
abbrev s_Order_and : Stmt := (cBody (top 23)).getD 5 (.Pass ⟨0, 0, 0, 0⟩)
abbrev s_Order_call : Stmt := (cBody (top 23)).getD 6 (.Pass ⟨0, 0, 0, 0⟩)
abbrev s_Order_least : Stmt := (cBody (top 23)).getD 10 (.Pass ⟨0, 0, 0, 0⟩)
abbrev s_Order_closed : Stmt := (cBody (top 23)).getD 12 (.Pass ⟨0, 0, 0, 0⟩)
abbrev s_Order_beneath : Stmt := (cBody (top 23)).getD 13 (.Pass ⟨0, 0, 0, 0⟩)
abbrev s_Order_keeps : Stmt := (cBody (top 23)).getD 14 (.Pass ⟨0, 0, 0, 0⟩)
abbrev s_Order_keeps_all : Stmt := (cBody (top 23)).getD 15 (.Pass ⟨0, 0, 0, 0⟩)
abbrev s_name_fault : Stmt := top 29
abbrev s_Marks_init : Stmt := (cBody (top 30)).getD 0 (.Pass ⟨0, 0, 0, 0⟩)
abbrev s_Saying_init : Stmt := (cBody (top 34)).getD 0 (.Pass ⟨0, 0, 0, 0⟩)
abbrev s_Saying_of_days : Stmt := (cBody (top 34)).getD 1 (.Pass ⟨0, 0, 0, 0⟩)
abbrev s_Saying_contrary : Stmt := (cBody (top 34)).getD 3 (.Pass ⟨0, 0, 0, 0⟩)
abbrev s_Book_init : Stmt := (cBody (top 38)).getD 0 (.Pass ⟨0, 0, 0, 0⟩)
abbrev s_Book_iter : Stmt := (cBody (top 38)).getD 3 (.Pass ⟨0, 0, 0, 0⟩)
abbrev s_law_bag : Stmt := top 40
abbrev s_law_take : Stmt := top 41
abbrev s_law_of : Stmt := top 42
abbrev s_law_longer : Stmt := top 43
abbrev s_law_orders : Stmt := top 44
abbrev s_law_keeps : Stmt := top 45
abbrev s_law_spread : Stmt := top 46
abbrev s_law_saying : Stmt := top 47
abbrev s_law_books : Stmt := top 48
abbrev s_law : Stmt := top 49
def FL_Order : List Str := ["layers"]
theorem fx_Order_layers : (FL_Order.take 0).contains "layers" = false := by decide +kernel
theorem fm_Order___iter__ : FL_Order.contains "__iter__" = false := by decide +kernel
theorem fm_Order___len__ : FL_Order.contains "__len__" = false := by decide +kernel
theorem fm_Order___eq__ : FL_Order.contains "__eq__" = false := by decide +kernel
theorem fm_Order___and__ : FL_Order.contains "__and__" = false := by decide +kernel
theorem fm_Order___call__ : FL_Order.contains "__call__" = false := by decide +kernel
theorem fm_Order_least : FL_Order.contains "least" = false := by decide +kernel
theorem fm_Order_closed : FL_Order.contains "closed" = false := by decide +kernel
theorem fm_Order_beneath : FL_Order.contains "beneath" = false := by decide +kernel
theorem fm_Order_keeps : FL_Order.contains "keeps" = false := by decide +kernel
theorem fm_Order_keeps_all : FL_Order.contains "keeps_all" = false := by decide +kernel
def FL_Marks : List Str := ["names", "count", "days", "all_days"]
theorem fx_Marks_names : (FL_Marks.take 0).contains "names" = false := by decide +kernel
theorem fx_Marks_count : (FL_Marks.take 1).contains "count" = false := by decide +kernel
theorem fx_Marks_days : (FL_Marks.take 2).contains "days" = false := by decide +kernel
theorem fx_Marks_all_days : (FL_Marks.take 3).contains "all_days" = false := by decide +kernel
def FL_Saying : List Str := ["where", "then", "usual", "confirm", "broken", "low", "high", "step"]
theorem fx_Saying_where : (FL_Saying.take 0).contains "where" = false := by decide +kernel
theorem fx_Saying_then : (FL_Saying.take 1).contains "then" = false := by decide +kernel
theorem fx_Saying_usual : (FL_Saying.take 2).contains "usual" = false := by decide +kernel
theorem fx_Saying_confirm : (FL_Saying.take 3).contains "confirm" = false := by decide +kernel
theorem fx_Saying_broken : (FL_Saying.take 4).contains "broken" = false := by decide +kernel
theorem fx_Saying_low : (FL_Saying.take 5).contains "low" = false := by decide +kernel
theorem fx_Saying_high : (FL_Saying.take 6).contains "high" = false := by decide +kernel
theorem fx_Saying_step : (FL_Saying.take 7).contains "step" = false := by decide +kernel
theorem fm_Saying_contrary : FL_Saying.contains "contrary" = false := by decide +kernel
def FL_Book : List Str := ["marks", "sayings"]
theorem fx_Book_marks : (FL_Book.take 0).contains "marks" = false := by decide +kernel
theorem fx_Book_sayings : (FL_Book.take 1).contains "sayings" = false := by decide +kernel
theorem fm_Book___iter__ : FL_Book.contains "__iter__" = false := by decide +kernel
def cns : List Nat := List.range 4
def ty_int : List (String × Bool) := [("NoneType", false), ("bool", true), ("int", true), ("str", false), ("tuple", false), ("list", false)]
def cn_int : List (Nat × Bool) := [(0, false), (1, false), (2, false), (3, false)]
@[simp] theorem is_int_non : isC ty_int cn_int .non = some false := (rfl)
@[simp] theorem is_int_bl {x : Bool} : isC ty_int cn_int (.bl x) = some true := (rfl)
@[simp] theorem is_int_int {x : Int} : isC ty_int cn_int (.int x) = some true := (rfl)
@[simp] theorem is_int_str {x : Str} : isC ty_int cn_int (.str x) = some false := (rfl)
@[simp] theorem is_int_tup {x : List D} : isC ty_int cn_int (.tup x) = some false := (rfl)
@[simp] theorem is_int_lst {x : List D} : isC ty_int cn_int (.lst x) = some false := (rfl)
@[simp] theorem is_int_scr {x : List Int} : isC ty_int cn_int (.scr x) = some false := (rfl)
@[simp] theorem is_int_o0 {x : List D} : isC ty_int cn_int (.obj 0 x) = some false := (rfl)
@[simp] theorem is_int_o1 {x : List D} : isC ty_int cn_int (.obj 1 x) = some false := (rfl)
@[simp] theorem is_int_o2 {x : List D} : isC ty_int cn_int (.obj 2 x) = some false := (rfl)
@[simp] theorem is_int_o3 {x : List D} : isC ty_int cn_int (.obj 3 x) = some false := (rfl)
def ty_bool : List (String × Bool) := [("NoneType", false), ("bool", true), ("int", false), ("str", false), ("tuple", false), ("list", false)]
def cn_bool : List (Nat × Bool) := [(0, false), (1, false), (2, false), (3, false)]
@[simp] theorem is_bool_non : isC ty_bool cn_bool .non = some false := (rfl)
@[simp] theorem is_bool_bl {x : Bool} : isC ty_bool cn_bool (.bl x) = some true := (rfl)
@[simp] theorem is_bool_int {x : Int} : isC ty_bool cn_bool (.int x) = some false := (rfl)
@[simp] theorem is_bool_str {x : Str} : isC ty_bool cn_bool (.str x) = some false := (rfl)
@[simp] theorem is_bool_tup {x : List D} : isC ty_bool cn_bool (.tup x) = some false := (rfl)
@[simp] theorem is_bool_lst {x : List D} : isC ty_bool cn_bool (.lst x) = some false := (rfl)
@[simp] theorem is_bool_scr {x : List Int} : isC ty_bool cn_bool (.scr x) = some false := (rfl)
@[simp] theorem is_bool_o0 {x : List D} : isC ty_bool cn_bool (.obj 0 x) = some false := (rfl)
@[simp] theorem is_bool_o1 {x : List D} : isC ty_bool cn_bool (.obj 1 x) = some false := (rfl)
@[simp] theorem is_bool_o2 {x : List D} : isC ty_bool cn_bool (.obj 2 x) = some false := (rfl)
@[simp] theorem is_bool_o3 {x : List D} : isC ty_bool cn_bool (.obj 3 x) = some false := (rfl)
def ty_list_tuple : List (String × Bool) := [("NoneType", false), ("bool", false), ("int", false), ("str", false), ("tuple", true), ("list", true)]
def cn_list_tuple : List (Nat × Bool) := [(0, false), (1, false), (2, false), (3, false)]
@[simp] theorem is_list_tuple_non : isC ty_list_tuple cn_list_tuple .non = some false := (rfl)
@[simp] theorem is_list_tuple_bl {x : Bool} : isC ty_list_tuple cn_list_tuple (.bl x) = some false := (rfl)
@[simp] theorem is_list_tuple_int {x : Int} : isC ty_list_tuple cn_list_tuple (.int x) = some false := (rfl)
@[simp] theorem is_list_tuple_str {x : Str} : isC ty_list_tuple cn_list_tuple (.str x) = some false := (rfl)
@[simp] theorem is_list_tuple_tup {x : List D} : isC ty_list_tuple cn_list_tuple (.tup x) = some true := (rfl)
@[simp] theorem is_list_tuple_lst {x : List D} : isC ty_list_tuple cn_list_tuple (.lst x) = some true := (rfl)
@[simp] theorem is_list_tuple_scr {x : List Int} : isC ty_list_tuple cn_list_tuple (.scr x) = some true := (rfl)
@[simp] theorem is_list_tuple_o0 {x : List D} : isC ty_list_tuple cn_list_tuple (.obj 0 x) = some false := (rfl)
@[simp] theorem is_list_tuple_o1 {x : List D} : isC ty_list_tuple cn_list_tuple (.obj 1 x) = some false := (rfl)
@[simp] theorem is_list_tuple_o2 {x : List D} : isC ty_list_tuple cn_list_tuple (.obj 2 x) = some false := (rfl)
@[simp] theorem is_list_tuple_o3 {x : List D} : isC ty_list_tuple cn_list_tuple (.obj 3 x) = some false := (rfl)
def ty_Order : List (String × Bool) := [("NoneType", false), ("bool", false), ("int", false), ("str", false), ("tuple", false), ("list", false)]
def cn_Order : List (Nat × Bool) := [(0, true), (1, false), (2, false), (3, false)]
@[simp] theorem is_Order_non : isC ty_Order cn_Order .non = some false := (rfl)
@[simp] theorem is_Order_bl {x : Bool} : isC ty_Order cn_Order (.bl x) = some false := (rfl)
@[simp] theorem is_Order_int {x : Int} : isC ty_Order cn_Order (.int x) = some false := (rfl)
@[simp] theorem is_Order_str {x : Str} : isC ty_Order cn_Order (.str x) = some false := (rfl)
@[simp] theorem is_Order_tup {x : List D} : isC ty_Order cn_Order (.tup x) = some false := (rfl)
@[simp] theorem is_Order_lst {x : List D} : isC ty_Order cn_Order (.lst x) = some false := (rfl)
@[simp] theorem is_Order_scr {x : List Int} : isC ty_Order cn_Order (.scr x) = some false := (rfl)
@[simp] theorem is_Order_o0 {x : List D} : isC ty_Order cn_Order (.obj 0 x) = some true := (rfl)
@[simp] theorem is_Order_o1 {x : List D} : isC ty_Order cn_Order (.obj 1 x) = some false := (rfl)
@[simp] theorem is_Order_o2 {x : List D} : isC ty_Order cn_Order (.obj 2 x) = some false := (rfl)
@[simp] theorem is_Order_o3 {x : List D} : isC ty_Order cn_Order (.obj 3 x) = some false := (rfl)
def ty_str : List (String × Bool) := [("NoneType", false), ("bool", false), ("int", false), ("str", true), ("tuple", false), ("list", false)]
def cn_str : List (Nat × Bool) := [(0, false), (1, false), (2, false), (3, false)]
@[simp] theorem is_str_non : isC ty_str cn_str .non = some false := (rfl)
@[simp] theorem is_str_bl {x : Bool} : isC ty_str cn_str (.bl x) = some false := (rfl)
@[simp] theorem is_str_int {x : Int} : isC ty_str cn_str (.int x) = some false := (rfl)
@[simp] theorem is_str_str {x : Str} : isC ty_str cn_str (.str x) = some true := (rfl)
@[simp] theorem is_str_tup {x : List D} : isC ty_str cn_str (.tup x) = some false := (rfl)
@[simp] theorem is_str_lst {x : List D} : isC ty_str cn_str (.lst x) = some false := (rfl)
@[simp] theorem is_str_scr {x : List Int} : isC ty_str cn_str (.scr x) = some false := (rfl)
@[simp] theorem is_str_o0 {x : List D} : isC ty_str cn_str (.obj 0 x) = some false := (rfl)
@[simp] theorem is_str_o1 {x : List D} : isC ty_str cn_str (.obj 1 x) = some false := (rfl)
@[simp] theorem is_str_o2 {x : List D} : isC ty_str cn_str (.obj 2 x) = some false := (rfl)
@[simp] theorem is_str_o3 {x : List D} : isC ty_str cn_str (.obj 3 x) = some false := (rfl)
def ty_Marks : List (String × Bool) := [("NoneType", false), ("bool", false), ("int", false), ("str", false), ("tuple", false), ("list", false)]
def cn_Marks : List (Nat × Bool) := [(0, false), (1, true), (2, false), (3, false)]
@[simp] theorem is_Marks_non : isC ty_Marks cn_Marks .non = some false := (rfl)
@[simp] theorem is_Marks_bl {x : Bool} : isC ty_Marks cn_Marks (.bl x) = some false := (rfl)
@[simp] theorem is_Marks_int {x : Int} : isC ty_Marks cn_Marks (.int x) = some false := (rfl)
@[simp] theorem is_Marks_str {x : Str} : isC ty_Marks cn_Marks (.str x) = some false := (rfl)
@[simp] theorem is_Marks_tup {x : List D} : isC ty_Marks cn_Marks (.tup x) = some false := (rfl)
@[simp] theorem is_Marks_lst {x : List D} : isC ty_Marks cn_Marks (.lst x) = some false := (rfl)
@[simp] theorem is_Marks_scr {x : List Int} : isC ty_Marks cn_Marks (.scr x) = some false := (rfl)
@[simp] theorem is_Marks_o0 {x : List D} : isC ty_Marks cn_Marks (.obj 0 x) = some false := (rfl)
@[simp] theorem is_Marks_o1 {x : List D} : isC ty_Marks cn_Marks (.obj 1 x) = some true := (rfl)
@[simp] theorem is_Marks_o2 {x : List D} : isC ty_Marks cn_Marks (.obj 2 x) = some false := (rfl)
@[simp] theorem is_Marks_o3 {x : List D} : isC ty_Marks cn_Marks (.obj 3 x) = some false := (rfl)
def ty_Saying : List (String × Bool) := [("NoneType", false), ("bool", false), ("int", false), ("str", false), ("tuple", false), ("list", false)]
def cn_Saying : List (Nat × Bool) := [(0, false), (1, false), (2, true), (3, false)]
@[simp] theorem is_Saying_non : isC ty_Saying cn_Saying .non = some false := (rfl)
@[simp] theorem is_Saying_bl {x : Bool} : isC ty_Saying cn_Saying (.bl x) = some false := (rfl)
@[simp] theorem is_Saying_int {x : Int} : isC ty_Saying cn_Saying (.int x) = some false := (rfl)
@[simp] theorem is_Saying_str {x : Str} : isC ty_Saying cn_Saying (.str x) = some false := (rfl)
@[simp] theorem is_Saying_tup {x : List D} : isC ty_Saying cn_Saying (.tup x) = some false := (rfl)
@[simp] theorem is_Saying_lst {x : List D} : isC ty_Saying cn_Saying (.lst x) = some false := (rfl)
@[simp] theorem is_Saying_scr {x : List Int} : isC ty_Saying cn_Saying (.scr x) = some false := (rfl)
@[simp] theorem is_Saying_o0 {x : List D} : isC ty_Saying cn_Saying (.obj 0 x) = some false := (rfl)
@[simp] theorem is_Saying_o1 {x : List D} : isC ty_Saying cn_Saying (.obj 1 x) = some false := (rfl)
@[simp] theorem is_Saying_o2 {x : List D} : isC ty_Saying cn_Saying (.obj 2 x) = some true := (rfl)
@[simp] theorem is_Saying_o3 {x : List D} : isC ty_Saying cn_Saying (.obj 3 x) = some false := (rfl)
theorem scx_BadMarks : FnScope ["self", "what", "index"] ["self", "what", "index"] (defScope s_xBadMarks) := ⟨rfl, rfl, rfl, by decide +kernel, rfl, by decide +kernel, by decide +kernel⟩
theorem scx_BadSaying : FnScope ["self", "what"] ["self", "what"] (defScope s_xBadSaying) := ⟨rfl, rfl, rfl, by decide +kernel, rfl, by decide +kernel, by decide +kernel⟩
theorem scx_BadBook : FnScope ["self", "what", "number"] ["self", "what", "number"] (defScope s_xBadBook) := ⟨rfl, rfl, rfl, by decide +kernel, rfl, by decide +kernel, by decide +kernel⟩
theorem scx_OtherDays : FnScope ["self"] ["self"] (defScope s_xOtherDays) := ⟨rfl, rfl, rfl, by decide +kernel, rfl, by decide +kernel, by decide +kernel⟩
theorem scx_BadOrder : FnScope ["self", "what"] ["self", "what"] (defScope s_xBadOrder) := ⟨rfl, rfl, rfl, by decide +kernel, rfl, by decide +kernel, by decide +kernel⟩
abbrev N_days_in : List Str := ["day_set", "found", "day"]
theorem sc_days_in : FnScope N_days_in ["day_set"] (defScope s_days_in) := ⟨rfl, rfl, rfl, by decide +kernel, rfl, by decide +kernel, by decide +kernel⟩
abbrev N_is_whole : List Str := ["thing", "low", "high"]
theorem sc_is_whole : FnScope N_is_whole ["thing", "low", "high"] (defScope s_is_whole) := ⟨rfl, rfl, rfl, by decide +kernel, rfl, by decide +kernel, by decide +kernel⟩
abbrev N_checked_layers : List Str := ["layers", "layer"]
theorem sc_checked_layers : FnScope N_checked_layers ["layers"] (defScope s_checked_layers) := ⟨rfl, rfl, rfl, by decide +kernel, rfl, by decide +kernel, by decide +kernel⟩
abbrev N_check_days : List Str := ["order", "days"]
theorem sc_check_days : FnScope N_check_days ["order", "days"] (defScope s_check_days) := ⟨rfl, rfl, rfl, by decide +kernel, rfl, by decide +kernel, by decide +kernel⟩
abbrev N_check_same_days : List Str := ["order", "other"]
theorem sc_check_same_days : FnScope N_check_same_days ["order", "other"] (defScope s_check_same_days) := ⟨rfl, rfl, rfl, by decide +kernel, rfl, by decide +kernel, by decide +kernel⟩
abbrev N_first_not_kept : List Str := ["order", "sayings", "saying", "number"]
theorem sc_first_not_kept : FnScope N_first_not_kept ["order", "sayings"] (defScope s_first_not_kept) := ⟨rfl, rfl, rfl, by decide +kernel, rfl, by decide +kernel, by decide +kernel⟩
abbrev N_Order_init : List Str := ["self", "layers"]
theorem sc_Order_init : FnScope N_Order_init ["self", "layers"] (defScope s_Order_init) := ⟨rfl, rfl, rfl, by decide +kernel, rfl, by decide +kernel, by decide +kernel⟩
abbrev N_Order_iter : List Str := ["self"]
theorem sc_Order_iter : FnScope N_Order_iter ["self"] (defScope s_Order_iter) := ⟨rfl, rfl, rfl, by decide +kernel, rfl, by decide +kernel, by decide +kernel⟩
abbrev N_Order_len : List Str := ["self"]
theorem sc_Order_len : FnScope N_Order_len ["self"] (defScope s_Order_len) := ⟨rfl, rfl, rfl, by decide +kernel, rfl, by decide +kernel, by decide +kernel⟩
abbrev N_Order_eq : List Str := ["self", "other"]
theorem sc_Order_eq : FnScope N_Order_eq ["self", "other"] (defScope s_Order_eq) := ⟨rfl, rfl, rfl, by decide +kernel, rfl, by decide +kernel, by decide +kernel⟩
abbrev N_Order_and : List Str := ["self", "other", "one", "two"]
theorem sc_Order_and : FnScope N_Order_and ["self", "other"] (defScope s_Order_and) := ⟨rfl, rfl, rfl, by decide +kernel, rfl, by decide +kernel, by decide +kernel⟩
abbrev N_Order_call : List Str := ["self", "sayings"]
theorem sc_Order_call : FnScope N_Order_call ["self", "sayings"] (defScope s_Order_call) := ⟨rfl, rfl, rfl, by decide +kernel, rfl, by decide +kernel, by decide +kernel⟩
abbrev N_Order_least : List Str := ["self", "days", "day"]
theorem sc_Order_least : FnScope N_Order_least ["self", "days"] (defScope s_Order_least) := ⟨rfl, rfl, rfl, by decide +kernel, rfl, by decide +kernel, by decide +kernel⟩
abbrev N_Order_closed : List Str := ["self", "found", "layer"]
theorem sc_Order_closed : FnScope N_Order_closed ["self"] (defScope s_Order_closed) := ⟨rfl, rfl, rfl, by decide +kernel, rfl, by decide +kernel, by decide +kernel⟩
abbrev N_Order_beneath : List Str := ["self", "other", "one", "two"]
theorem sc_Order_beneath : FnScope N_Order_beneath ["self", "other"] (defScope s_Order_beneath) := ⟨rfl, rfl, rfl, by decide +kernel, rfl, by decide +kernel, by decide +kernel⟩
abbrev N_Order_keeps : List Str := ["self", "saying", "lowest", "above"]
theorem sc_Order_keeps : FnScope N_Order_keeps ["self", "saying"] (defScope s_Order_keeps) := ⟨rfl, rfl, rfl, by decide +kernel, rfl, by decide +kernel, by decide +kernel⟩
abbrev N_Order_keeps_all : List Str := ["self", "sayings"]
theorem sc_Order_keeps_all : FnScope N_Order_keeps_all ["self", "sayings"] (defScope s_Order_keeps_all) := ⟨rfl, rfl, rfl, by decide +kernel, rfl, by decide +kernel, by decide +kernel⟩
abbrev N_name_fault : List Str := ["thing", "character"]
theorem sc_name_fault : FnScope N_name_fault ["thing"] (defScope s_name_fault) := ⟨rfl, rfl, rfl, by decide +kernel, rfl, by decide +kernel, by decide +kernel⟩
abbrev N_Marks_init : List Str := ["self", "names", "kept", "index", "name", "fault"]
theorem sc_Marks_init : FnScope N_Marks_init ["self", "names"] (defScope s_Marks_init) := ⟨rfl, rfl, rfl, by decide +kernel, rfl, by decide +kernel, by decide +kernel⟩
abbrev N_Saying_init : List Str := ["self", "where", "then", "usual"]
theorem sc_Saying_init : FnScope N_Saying_init ["self", "where", "then", "usual"] (defScope s_Saying_init) := ⟨rfl, rfl, rfl, by decide +kernel, rfl, by decide +kernel, by decide +kernel⟩
abbrev N_Saying_of_days : List Str := ["cls", "confirm", "broken", "usual"]
theorem sc_Saying_of_days : FnScope N_Saying_of_days ["cls", "confirm", "broken", "usual"] (defScope s_Saying_of_days) := ⟨rfl, rfl, rfl, by decide +kernel, rfl, by decide +kernel, by decide +kernel⟩
abbrev N_Saying_contrary : List Str := ["self"]
theorem sc_Saying_contrary : FnScope N_Saying_contrary ["self"] (defScope s_Saying_contrary) := ⟨rfl, rfl, rfl, by decide +kernel, rfl, by decide +kernel, by decide +kernel⟩
abbrev N_Book_init : List Str := ["self", "marks", "sayings", "number", "saying"]
theorem sc_Book_init : FnScope N_Book_init ["self", "marks", "sayings"] (defScope s_Book_init) := ⟨rfl, rfl, rfl, by decide +kernel, rfl, by decide +kernel, by decide +kernel⟩
abbrev N_Book_iter : List Str := ["self"]
theorem sc_Book_iter : FnScope N_Book_iter ["self"] (defScope s_Book_iter) := ⟨rfl, rfl, rfl, by decide +kernel, rfl, by decide +kernel, by decide +kernel⟩
abbrev N_law_bag : List Str := ["_law_script", "_law_at", "_law_cell", "_law_mix", "_law_k", "_law_each"]
theorem sc_law_bag : FnScope N_law_bag ["_law_script", "_law_at"] (defScope s_law_bag) := ⟨rfl, rfl, rfl, by decide +kernel, rfl, by decide +kernel, by decide +kernel⟩
abbrev N_law_take : List Str := ["_law_bag_here", "_law_many", "_law_digit"]
theorem sc_law_take : FnScope N_law_take ["_law_bag_here", "_law_many"] (defScope s_law_take) := ⟨rfl, rfl, rfl, by decide +kernel, rfl, by decide +kernel, by decide +kernel⟩
abbrev N_law_of : List Str := ["_law_bag_here", "_law_some"]
theorem sc_law_of : FnScope N_law_of ["_law_bag_here", "_law_some"] (defScope s_law_of) := ⟨rfl, rfl, rfl, by decide +kernel, rfl, by decide +kernel, by decide +kernel⟩
abbrev N_law_longer : List Str := ["_law_rows", "_law_days", "_law_longer_here", "_law_row", "_law_layer"]
theorem sc_law_longer : FnScope N_law_longer ["_law_rows", "_law_days"] (defScope s_law_longer) := ⟨rfl, rfl, rfl, by decide +kernel, rfl, by decide +kernel, by decide +kernel⟩
abbrev N_law_orders : List Str := ["_law_days", "_law_rows", "_law_turn", "_law_row"]
theorem sc_law_orders : FnScope N_law_orders ["_law_days"] (defScope s_law_orders) := ⟨rfl, rfl, rfl, by decide +kernel, rfl, by decide +kernel, by decide +kernel⟩
abbrev N_law_keeps : List Str := ["_law_layers", "_law_confirm", "_law_broken", "_law_usual", "_law_good", "_law_bad", "_law_told", "_law_day"]
theorem sc_law_keeps : FnScope N_law_keeps ["_law_layers", "_law_confirm", "_law_broken", "_law_usual"] (defScope s_law_keeps) := ⟨rfl, rfl, rfl, by decide +kernel, rfl, by decide +kernel, by decide +kernel⟩
abbrev N_law_spread : List Str := ["_law_bag_here", "_law_layers", "_law_places", "_law_top", "_law_k", "_law_layer"]
theorem sc_law_spread : FnScope N_law_spread ["_law_bag_here", "_law_layers"] (defScope s_law_spread) := ⟨rfl, rfl, rfl, by decide +kernel, rfl, by decide +kernel, by decide +kernel⟩
abbrev N_law_saying : List Str := ["_law_order", "_law_layers", "_law_saying_here", "_law_usual", "_law_due", "_law_low", "_law_high", "_law_row", "_law_day"]
theorem sc_law_saying : FnScope N_law_saying ["_law_order", "_law_layers", "_law_saying_here", "_law_usual"] (defScope s_law_saying) := ⟨rfl, rfl, rfl, by decide +kernel, rfl, by decide +kernel, by decide +kernel⟩
abbrev N_law_books : List Str := ["_law_bag_here", "_law_orders_here", "_law_made", "_law_rows", "_law_sayings", "_law_book", "_law_keepers", "_law_k", "_law_kept", "_law_first", "_law_turn", "_law_one", "_law_other", "_law_gaps", "_law_least", "_law_layers", "_law_usual", "_law_a", "_law_b"]
theorem sc_law_books : FnScope N_law_books ["_law_bag_here", "_law_orders_here", "_law_made", "_law_rows", "_law_sayings", "_law_book"] (defScope s_law_books) := ⟨rfl, rfl, rfl, by decide +kernel, rfl, by decide +kernel, by decide +kernel⟩
abbrev N_law : List Str := ["_law_script", "_law_place", "_law_bag_here", "_law_days", "_law_marks", "_law_orders_here", "_law_made", "_law_rows", "_law_sayings", "_law_turn", "_law_confirm", "_law_broken", "_law_day", "_law_kind", "_law_usual", "_law_k", "_law_gaps", "_law_m", "_law_row"]
theorem sc_law : FnScope N_law ["_law_script"] (defScope s_law) := ⟨rfl, rfl, rfl, by decide +kernel, rfl, by decide +kernel, by decide +kernel⟩
def L_days_in_0 : MS := (seqM (iffM (trM (op2M andI (op2M shrI (varM 0) (varM 2)) (cM (.int 1)))) (exprM (mtM 1 appG [(varM 2)])) nilM) (augM 2 addI (cM (.int 1))))
def T_days_in_3 : MS := (retM (callM tupleD [(frzM 1)]))
def T_days_in_2 : MS := (seqM (whileM (trM (op2M shrI (varM 0) (varM 2))) L_days_in_0 40) T_days_in_3)
def T_days_in_1 : MS := (seqM (setM 2 (cM (.int 0))) T_days_in_2)
def B_days_in' : MS := (seqM (setOM 1 (lstM [])) T_days_in_1)
def F_days_in : FM := runF false 3 [] B_days_in'
theorem u_days_in (as : List EV) : F_days_in as = runF false 3 [] (seqM (setOM 1 (lstM [])) (seqM (setM 2 (cM (.int 0))) (seqM (whileM (trM (op2M shrI (varM 0) (varM 2))) L_days_in_0 40) (retM (callM tupleD [(frzM 1)]))))) as := rfl
def B_is_whole' : MS := (retM (andV (isTabM ty_int cn_int (varM 0)) (andV (notV (isTabM ty_bool cn_bool (varM 0))) (bV (chainM leI leI (varM 1) (varM 0) (varM 2))))))
def F_is_whole : FM := runF false 3 [] B_is_whole'
theorem u_is_whole (as : List EV) : F_is_whole as = runF false 3 [] (retM (andV (isTabM ty_int cn_int (varM 0)) (andV (notV (isTabM ty_bool cn_bool (varM 0))) (bV (chainM leI leI (varM 1) (varM 0) (varM 2)))))) as := rfl
def L_checked_layers_0 : MS := (iffM (notT (trM (fnM F_is_whole [.p (varM 1), .p (cM (.int 0)), .p (cM (.int 1000000000000000000000000000000))] []))) (raiseM 9 [(cM (.str "number"))]) nilM)
def T_checked_layers_2 : MS := (retM (callM tupleD [(varM 0)]))
def T_checked_layers_1 : MS := (seqM (forS (asSeq (varM 0)) (tgN 1) L_checked_layers_0) T_checked_layers_2)
def B_checked_layers' : MS := (seqM (iffM (orT (notT (trM (isTabM ty_list_tuple cn_list_tuple (varM 0)))) (cmpM notInA (callM lenD [(varM 0)]) (cM (.tup [(.int 2), (.int 4), (.int 8), (.int 16)])))) (raiseM 9 [(cM (.str "count"))]) nilM) T_checked_layers_1)
def F_checked_layers : FM := runF false 2 [] B_checked_layers'
theorem u_checked_layers (as : List EV) : F_checked_layers as = runF false 2 [] (seqM (iffM (orT (notT (trM (isTabM ty_list_tuple cn_list_tuple (varM 0)))) (cmpM notInA (callM lenD [(varM 0)]) (cM (.tup [(.int 2), (.int 4), (.int 8), (.int 16)])))) (raiseM 9 [(cM (.str "count"))]) nilM) (seqM (forS (asSeq (varM 0)) (tgN 1) L_checked_layers_0) (retM (callM tupleD [(varM 0)])))) as := rfl
def B_check_days' : MS := (iffM (cmpM neS (op2M shrI (varM 1) (callM lenD [(attrM 0 0 (varM 0))])) (cM (.int 0))) (raiseM 8 []) nilM)
def F_check_days : FM := runF false 2 [] B_check_days'
theorem u_check_days (as : List EV) : F_check_days as = runF false 2 [] (iffM (cmpM neS (op2M shrI (varM 1) (callM lenD [(attrM 0 0 (varM 0))])) (cM (.int 0))) (raiseM 8 []) nilM) as := rfl
def B_check_same_days' : MS := (iffM (cmpM neS (callM lenD [(attrM 0 0 (varM 0))]) (callM lenD [(attrM 0 0 (varM 1))])) (raiseM 8 []) nilM)
def F_check_same_days : FM := runF false 2 [] B_check_same_days'
theorem u_check_same_days (as : List EV) : F_check_same_days as = runF false 2 [] (iffM (cmpM neS (callM lenD [(attrM 0 0 (varM 0))]) (callM lenD [(attrM 0 0 (varM 1))])) (raiseM 8 []) nilM) as := rfl
def B_Order_least' : MS := (seqM (exprM (fnM F_check_days [.p (varM 0), .p (varM 1)] [])) (retM (minDM (compM [2] (asT (fnM F_days_in [.p (varM 1)] [])) (tgN 2) yesT (op2M ixD (attrM 0 0 (varM 0)) (varM 2))))))
def F_Order_least : FM := runF false 3 [] B_Order_least'
theorem u_Order_least (as : List EV) : F_Order_least as = runF false 3 [] (seqM (exprM (fnM F_check_days [.p (varM 0), .p (varM 1)] [])) (retM (minDM (compM [2] (asT (fnM F_days_in [.p (varM 1)] [])) (tgN 2) yesT (op2M ixD (attrM 0 0 (varM 0)) (varM 2)))))) as := rfl
def T_Order_keeps_3 : MS := (retM (andV (bV (cmpM notN (varM 2) (cM .non))) (bV (cmpM geI (varM 3) (op2M addI (varM 2) (attrM 2 7 (varM 1)))))))
def T_Order_keeps_2 : MS := (seqM (iffM (cmpM isN (varM 3) (cM .non)) (retM (cM (.bl true))) nilM) T_Order_keeps_3)
def T_Order_keeps_1 : MS := (seqM (parM 2 3 (methM 0 F_Order_least (varM 0) [.p (attrM 2 5 (varM 1))] []) (methM 0 F_Order_least (varM 0) [.p (attrM 2 6 (varM 1))] [])) T_Order_keeps_2)
def B_Order_keeps' : MS := (seqM (exprM (fnM F_check_days [.p (varM 0), .p (op2M orI (attrM 2 0 (varM 1)) (attrM 2 1 (varM 1)))] [])) T_Order_keeps_1)
def F_Order_keeps : FM := runF false 4 [] B_Order_keeps'
theorem u_Order_keeps (as : List EV) : F_Order_keeps as = runF false 4 [] (seqM (exprM (fnM F_check_days [.p (varM 0), .p (op2M orI (attrM 2 0 (varM 1)) (attrM 2 1 (varM 1)))] [])) (seqM (parM 2 3 (methM 0 F_Order_least (varM 0) [.p (attrM 2 5 (varM 1))] []) (methM 0 F_Order_least (varM 0) [.p (attrM 2 6 (varM 1))] [])) (seqM (iffM (cmpM isN (varM 3) (cM .non)) (retM (cM (.bl true))) nilM) (retM (andV (bV (cmpM notN (varM 2) (cM .non))) (bV (cmpM geI (varM 3) (op2M addI (varM 2) (attrM 2 7 (varM 1)))))))))) as := rfl
def L_first_not_kept_0 : MS := (exprM (fnM F_check_days [.p (varM 0), .p (op2M orI (attrM 2 0 (varM 2)) (attrM 2 1 (varM 2)))] []))
def L_first_not_kept_1 : MS := (iffM (notT (trM (methM 0 F_Order_keeps (varM 0) [.p (varM 2)] []))) (retM (varM 3)) nilM)
def T_first_not_kept_2 : MS := (retM (cM .non))
def T_first_not_kept_1 : MS := (seqM (forS (pickI (varM 1) (enumO 3 1 (varM 1)) (enumAM (varM 1))) (tgT [(tgN 3), (tgN 2)]) L_first_not_kept_1) T_first_not_kept_2)
def B_first_not_kept' : MS := (seqM (forS (pickI (varM 1) (asO 3 1 (varM 1)) (asSeq (varM 1))) (tgN 2) L_first_not_kept_0) T_first_not_kept_1)
def F_first_not_kept : FM := runF false 4 [] B_first_not_kept'
theorem u_first_not_kept (as : List EV) : F_first_not_kept as = runF false 4 [] (seqM (forS (pickI (varM 1) (asO 3 1 (varM 1)) (asSeq (varM 1))) (tgN 2) L_first_not_kept_0) (seqM (forS (pickI (varM 1) (enumO 3 1 (varM 1)) (enumAM (varM 1))) (tgT [(tgN 3), (tgN 2)]) L_first_not_kept_1) (retM (cM .non)))) as := rfl
def B_Order_init' : MS := (seqM (stfM 0 0 0 (fnM F_checked_layers [.p (varM 1)] [])) (iffM (cmpM gtI (callM minAD [(natM 0 0 0)]) (cM (.int 0))) (raiseM 9 [(cM (.str "bottom"))]) nilM))
def F_Order_init : FM := runF false 2 [0] B_Order_init'
theorem u_Order_init (as : List EV) : F_Order_init as = runF false 2 [0] (seqM (stfM 0 0 0 (fnM F_checked_layers [.p (varM 1)] [])) (iffM (cmpM gtI (callM minAD [(natM 0 0 0)]) (cM (.int 0))) (raiseM 9 [(cM (.str "bottom"))]) nilM)) as := rfl
def B_Order_len' : MS := (retM (callM lenD [(attrM 0 0 (varM 0))]))
def F_Order_len : FM := runF false 1 [] B_Order_len'
theorem u_Order_len (as : List EV) : F_Order_len as = runF false 1 [] (retM (callM lenD [(attrM 0 0 (varM 0))])) as := rfl
def B_Order_eq' : MS := (retM (andV (isTabM ty_Order cn_Order (varM 1)) (bV (cmpM eqD (attrM 0 0 (varM 0)) (attrM 0 0 (varM 1))))))
def F_Order_eq : FM := runF false 2 [] B_Order_eq'
theorem u_Order_eq (as : List EV) : F_Order_eq as = runF false 2 [] (retM (andV (isTabM ty_Order cn_Order (varM 1)) (bV (cmpM eqD (attrM 0 0 (varM 0)) (attrM 0 0 (varM 1)))))) as := rfl
def B_Order_and' : MS := (seqM (exprM (fnM F_check_same_days [.p (varM 0), .p (varM 1)] [])) (retM (mkM 0 1 F_Order_init [.p (compM [2, 3] (zipM (attrM 0 0 (varM 0)) (attrM 0 0 (varM 1))) (tgT [(tgN 2), (tgN 3)]) yesT (callM min2D [(varM 2), (varM 3)]))] [])))
def F_Order_and : FM := runF false 4 [] B_Order_and'
theorem u_Order_and (as : List EV) : F_Order_and as = runF false 4 [] (seqM (exprM (fnM F_check_same_days [.p (varM 0), .p (varM 1)] [])) (retM (mkM 0 1 F_Order_init [.p (compM [2, 3] (zipM (attrM 0 0 (varM 0)) (attrM 0 0 (varM 1))) (tgT [(tgN 2), (tgN 3)]) yesT (callM min2D [(varM 2), (varM 3)]))] []))) as := rfl
def B_Order_call' : MS := (retM (fnM F_first_not_kept [.p (varM 0), .p (varM 1)] []))
def F_Order_call : FM := runF false 2 [] B_Order_call'
theorem u_Order_call (as : List EV) : F_Order_call as = runF false 2 [] (retM (fnM F_first_not_kept [.p (varM 0), .p (varM 1)] [])) as := rfl
def B_Order_closed' : MS := (seqM (setM 1 (sortSetM (attrM 0 0 (varM 0)))) (retM (mkM 0 1 F_Order_init [.p (compM [2] (asT (attrM 0 0 (varM 0))) (tgN 2) yesT (idxLM (varM 1) (varM 2)))] [])))
def F_Order_closed : FM := runF false 3 [] B_Order_closed'
theorem u_Order_closed (as : List EV) : F_Order_closed as = runF false 3 [] (seqM (setM 1 (sortSetM (attrM 0 0 (varM 0)))) (retM (mkM 0 1 F_Order_init [.p (compM [2] (asT (attrM 0 0 (varM 0))) (tgN 2) yesT (idxLM (varM 1) (varM 2)))] []))) as := rfl
def B_Order_beneath' : MS := (seqM (exprM (fnM F_check_same_days [.p (varM 0), .p (varM 1)] [])) (retM (callM allD [(compM [2, 3] (zipM (attrM 0 0 (varM 0)) (attrM 0 0 (varM 1))) (tgT [(tgN 2), (tgN 3)]) yesT (bV (cmpM leI (varM 2) (varM 3))))])))
def F_Order_beneath : FM := runF false 4 [] B_Order_beneath'
theorem u_Order_beneath (as : List EV) : F_Order_beneath as = runF false 4 [] (seqM (exprM (fnM F_check_same_days [.p (varM 0), .p (varM 1)] [])) (retM (callM allD [(compM [2, 3] (zipM (attrM 0 0 (varM 0)) (attrM 0 0 (varM 1))) (tgT [(tgN 2), (tgN 3)]) yesT (bV (cmpM leI (varM 2) (varM 3))))]))) as := rfl
def B_Order_keeps_all' : MS := (retM (bV (cmpM isN (fnM F_first_not_kept [.p (varM 0), .p (varM 1)] []) (cM .non))))
def F_Order_keeps_all : FM := runF false 2 [] B_Order_keeps_all'
theorem u_Order_keeps_all (as : List EV) : F_Order_keeps_all as = runF false 2 [] (retM (bV (cmpM isN (fnM F_first_not_kept [.p (varM 0), .p (varM 1)] []) (cM .non)))) as := rfl
def L_name_fault_0 : MS := (iffM (cmpM notInStr (varM 1) (cM (.str "abcdefghijklmnopqrstuvwxyz"))) (retM (cM (.str "name"))) nilM)
def T_name_fault_2 : MS := (retM (ifM (cmpM inA (varM 0) (cM (.tup [(.str "and"), (.str "any"), (.str "marks"), (.str "need"), (.str "never"), (.str "not"), (.str "or"), (.str "usually"), (.str "where")]))) (cM (.str "kept")) (cM .non)))
def T_name_fault_1 : MS := (seqM (forS (asStr (varM 0)) (tgN 1) L_name_fault_0) T_name_fault_2)
def B_name_fault' : MS := (seqM (iffM (orT (notT (trM (isTabM ty_str cn_str (varM 0)))) (notT (chainM leI leI (cM (.int 1)) (callM lenD [(varM 0)]) (cM (.int 8))))) (retM (cM (.str "name"))) nilM) T_name_fault_1)
def F_name_fault : FM := runF false 2 [] B_name_fault'
theorem u_name_fault (as : List EV) : F_name_fault as = runF false 2 [] (seqM (iffM (orT (notT (trM (isTabM ty_str cn_str (varM 0)))) (notT (chainM leI leI (cM (.int 1)) (callM lenD [(varM 0)]) (cM (.int 8))))) (retM (cM (.str "name"))) nilM) (seqM (forS (asStr (varM 0)) (tgN 1) L_name_fault_0) (retM (ifM (cmpM inA (varM 0) (cM (.tup [(.str "and"), (.str "any"), (.str "marks"), (.str "need"), (.str "never"), (.str "not"), (.str "or"), (.str "usually"), (.str "where")]))) (cM (.str "kept")) (cM .non))))) as := rfl
def L_Marks_init_0 : MS := (seqM (setM 5 (fnM F_name_fault [.p (varM 4)] [])) (seqM (iffM (andT (cmpM isN (varM 5) (cM .non)) (cmpM inA (varM 4) (ovarM 2))) (setM 5 (cM (.str "twice"))) nilM) (seqM (iffM (cmpM notN (varM 5) (cM .non)) (raiseM 1 [(varM 5), (varM 3)]) nilM) (exprM (mtM 2 appG [(varM 4)])))))
def T_Marks_init_6 : MS := (stfM 1 0 3 (op2M subI (op2M shlI (cM (.int 1)) (natM 1 0 2)) (cM (.int 1))))
def T_Marks_init_5 : MS := (seqM (stfM 1 0 2 (op2M shlI (cM (.int 1)) (callM lenD [(varM 2)]))) T_Marks_init_6)
def T_Marks_init_4 : MS := (seqM (stfM 1 0 1 (callM lenD [(varM 2)])) T_Marks_init_5)
def T_Marks_init_3 : MS := (seqM (stfM 1 0 0 (callM tupleD [(frzM 2)])) T_Marks_init_4)
def T_Marks_init_2 : MS := (seqM (forS (enumAM (varM 1)) (tgT [(tgN 3), (tgN 4)]) L_Marks_init_0) T_Marks_init_3)
def T_Marks_init_1 : MS := (seqM (setOM 2 (lstM [])) T_Marks_init_2)
def B_Marks_init' : MS := (seqM (iffM (orT (notT (trM (isTabM ty_list_tuple cn_list_tuple (varM 1)))) (notT (chainM leI leI (cM (.int 1)) (callM lenD [(varM 1)]) (cM (.int 4))))) (raiseM 1 [(cM (.str "count")), (cM .non)]) nilM) T_Marks_init_1)
def F_Marks_init : FM := runF false 6 [0] B_Marks_init'
theorem u_Marks_init (as : List EV) : F_Marks_init as = runF false 6 [0] (seqM (iffM (orT (notT (trM (isTabM ty_list_tuple cn_list_tuple (varM 1)))) (notT (chainM leI leI (cM (.int 1)) (callM lenD [(varM 1)]) (cM (.int 4))))) (raiseM 1 [(cM (.str "count")), (cM .non)]) nilM) (seqM (setOM 2 (lstM [])) (seqM (forS (enumAM (varM 1)) (tgT [(tgN 3), (tgN 4)]) L_Marks_init_0) (seqM (stfM 1 0 0 (callM tupleD [(frzM 2)])) (seqM (stfM 1 0 1 (callM lenD [(varM 2)])) (seqM (stfM 1 0 2 (op2M shlI (cM (.int 1)) (callM lenD [(varM 2)]))) (stfM 1 0 3 (op2M subI (op2M shlI (cM (.int 1)) (natM 1 0 2)) (cM (.int 1)))))))))) as := rfl
def T_Saying_init_10 : MS := (stfM 2 0 7 (ifM (trM (varM 3)) (cM (.int 1)) (cM (.int 0))))
def T_Saying_init_9 : MS := (seqM (stfM 2 0 6 (ifM (trM (varM 3)) (natM 2 0 4) (natM 2 0 3))) T_Saying_init_10)
def T_Saying_init_8 : MS := (seqM (stfM 2 0 5 (ifM (trM (varM 3)) (natM 2 0 3) (natM 2 0 4))) T_Saying_init_9)
def T_Saying_init_7 : MS := (seqM (stfM 2 0 4 (op2M andI (varM 1) (op1M invI (varM 2)))) T_Saying_init_8)
def T_Saying_init_6 : MS := (seqM (stfM 2 0 3 (op2M andI (varM 1) (varM 2))) T_Saying_init_7)
def T_Saying_init_5 : MS := (seqM (stfM 2 0 2 (varM 3)) T_Saying_init_6)
def T_Saying_init_4 : MS := (seqM (stfM 2 0 1 (varM 2)) T_Saying_init_5)
def T_Saying_init_3 : MS := (seqM (stfM 2 0 0 (varM 1)) T_Saying_init_4)
def T_Saying_init_2 : MS := (seqM (iffM (notT (trM (isTabM ty_bool cn_bool (varM 3)))) (raiseM 4 [(cM (.str "usual"))]) nilM) T_Saying_init_3)
def T_Saying_init_1 : MS := (seqM (iffM (notT (trM (fnM F_is_whole [.p (varM 2), .p (cM (.int 0)), .p (cM (.int 65535))] []))) (raiseM 4 [(cM (.str "then"))]) nilM) T_Saying_init_2)
def B_Saying_init' : MS := (seqM (iffM (notT (trM (fnM F_is_whole [.p (varM 1), .p (cM (.int 1)), .p (cM (.int 65535))] []))) (raiseM 4 [(cM (.str "where"))]) nilM) T_Saying_init_1)
def F_Saying_init : FM := runF false 4 [0] B_Saying_init'
theorem u_Saying_init (as : List EV) : F_Saying_init as = runF false 4 [0] (seqM (iffM (notT (trM (fnM F_is_whole [.p (varM 1), .p (cM (.int 1)), .p (cM (.int 65535))] []))) (raiseM 4 [(cM (.str "where"))]) nilM) (seqM (iffM (notT (trM (fnM F_is_whole [.p (varM 2), .p (cM (.int 0)), .p (cM (.int 65535))] []))) (raiseM 4 [(cM (.str "then"))]) nilM) (seqM (iffM (notT (trM (isTabM ty_bool cn_bool (varM 3)))) (raiseM 4 [(cM (.str "usual"))]) nilM) (seqM (stfM 2 0 0 (varM 1)) (seqM (stfM 2 0 1 (varM 2)) (seqM (stfM 2 0 2 (varM 3)) (seqM (stfM 2 0 3 (op2M andI (varM 1) (varM 2))) (seqM (stfM 2 0 4 (op2M andI (varM 1) (op1M invI (varM 2)))) (seqM (stfM 2 0 5 (ifM (trM (varM 3)) (natM 2 0 3) (natM 2 0 4))) (seqM (stfM 2 0 6 (ifM (trM (varM 3)) (natM 2 0 4) (natM 2 0 3))) (stfM 2 0 7 (ifM (trM (varM 3)) (cM (.int 1)) (cM (.int 0)))))))))))))) as := rfl
def T_Saying_of_days_3 : MS := (retM (mkM 2 8 F_Saying_init [.p (op2M orI (varM 1) (varM 2)), .p (varM 1), .p (varM 3)] []))
def T_Saying_of_days_2 : MS := (seqM (iffM (trM (op2M andI (varM 1) (varM 2))) (raiseM 4 [(cM (.str "overlap"))]) nilM) T_Saying_of_days_3)
def T_Saying_of_days_1 : MS := (seqM (iffM (notT (trM (fnM F_is_whole [.p (varM 2), .p (cM (.int 0)), .p (cM (.int 65535))] []))) (raiseM 4 [(cM (.str "broken"))]) nilM) T_Saying_of_days_2)
def B_Saying_of_days' : MS := (seqM (iffM (notT (trM (fnM F_is_whole [.p (varM 1), .p (cM (.int 0)), .p (cM (.int 65535))] []))) (raiseM 4 [(cM (.str "confirm"))]) nilM) T_Saying_of_days_1)
def F_Saying_of_days : FM := runF false 4 [] B_Saying_of_days'
theorem u_Saying_of_days (as : List EV) : F_Saying_of_days as = runF false 4 [] (seqM (iffM (notT (trM (fnM F_is_whole [.p (varM 1), .p (cM (.int 0)), .p (cM (.int 65535))] []))) (raiseM 4 [(cM (.str "confirm"))]) nilM) (seqM (iffM (notT (trM (fnM F_is_whole [.p (varM 2), .p (cM (.int 0)), .p (cM (.int 65535))] []))) (raiseM 4 [(cM (.str "broken"))]) nilM) (seqM (iffM (trM (op2M andI (varM 1) (varM 2))) (raiseM 4 [(cM (.str "overlap"))]) nilM) (retM (mkM 2 8 F_Saying_init [.p (op2M orI (varM 1) (varM 2)), .p (varM 1), .p (varM 3)] []))))) as := rfl
def B_Saying_contrary' : MS := (retM (mkM 2 8 F_Saying_init [.p (attrM 2 0 (varM 0)), .p (attrM 2 1 (varM 0)), .p (notV (attrM 2 2 (varM 0)))] []))
def F_Saying_contrary : FM := runF false 1 [] B_Saying_contrary'
theorem u_Saying_contrary (as : List EV) : F_Saying_contrary as = runF false 1 [] (retM (mkM 2 8 F_Saying_init [.p (attrM 2 0 (varM 0)), .p (attrM 2 1 (varM 0)), .p (notV (attrM 2 2 (varM 0)))] [])) as := rfl
def L_Book_init_0 : MS := (seqM (iffM (notT (trM (isTabM ty_Saying cn_Saying (varM 4)))) (raiseM 5 [(cM (.str "saying")), (varM 3)]) nilM) (iffM (cmpM gtI (op2M orI (attrM 2 0 (varM 4)) (attrM 2 1 (varM 4))) (attrM 1 3 (varM 1))) (raiseM 5 [(cM (.str "days")), (varM 3)]) nilM))
def T_Book_init_4 : MS := (stfM 3 0 1 (callM tupleD [(varM 2)]))
def T_Book_init_3 : MS := (seqM (stfM 3 0 0 (varM 1)) T_Book_init_4)
def T_Book_init_2 : MS := (seqM (forS (enumAM (varM 2)) (tgT [(tgN 3), (tgN 4)]) L_Book_init_0) T_Book_init_3)
def T_Book_init_1 : MS := (seqM (iffM (orT (notT (trM (isTabM ty_list_tuple cn_list_tuple (varM 2)))) (cmpM gtI (callM lenD [(varM 2)]) (cM (.int 12)))) (raiseM 5 [(cM (.str "count")), (cM .non)]) nilM) T_Book_init_2)
def B_Book_init' : MS := (seqM (iffM (notT (trM (isTabM ty_Marks cn_Marks (varM 1)))) (raiseM 5 [(cM (.str "marks")), (cM .non)]) nilM) T_Book_init_1)
def F_Book_init : FM := runF false 5 [0] B_Book_init'
theorem u_Book_init (as : List EV) : F_Book_init as = runF false 5 [0] (seqM (iffM (notT (trM (isTabM ty_Marks cn_Marks (varM 1)))) (raiseM 5 [(cM (.str "marks")), (cM .non)]) nilM) (seqM (iffM (orT (notT (trM (isTabM ty_list_tuple cn_list_tuple (varM 2)))) (cmpM gtI (callM lenD [(varM 2)]) (cM (.int 12)))) (raiseM 5 [(cM (.str "count")), (cM .non)]) nilM) (seqM (forS (enumAM (varM 2)) (tgT [(tgN 3), (tgN 4)]) L_Book_init_0) (seqM (stfM 3 0 0 (varM 1)) (stfM 3 0 1 (callM tupleD [(varM 2)])))))) as := rfl
def L_law_bag_0 : MS := (setM 3 (op2M modI (callM intD [(op2M addI (op2M addI (op2M mulI (varM 3) (cM (.int 40014))) (op2M modI (callM intD [(varM 5)]) (cM (.int 2147483543)))) (op2M mulI (cM (.int 101)) (varM 4)))]) (cM (.int 2147483563))))
def T_law_bag_3 : MS := (retM (lstM [(ifM (cmpM geI (varM 2) (op2M powI (cM (.int 10)) (cM (.int 18)))) (varM 2) (cM (.int 0))), (varM 3), (cM (.int 0))]))
def T_law_bag_2 : MS := (seqM (forS (enumM (slLM (varM 0) none (some (cM (.int 63))))) (tgT [(tgN 4), (tgN 5)]) L_law_bag_0) T_law_bag_3)
def T_law_bag_1 : MS := (seqM (setM 3 (op2M addI (cM (.int 70003)) (op2M mulI (cM (.int 6997)) (varM 1)))) T_law_bag_2)
def B_law_bag' : MS := (seqM (setM 2 (ifM (cmpM ltI (varM 1) (callM lenD [(varM 0)])) (callM absD [(callM intD [(op2M ixD (varM 0) (varM 1))])]) (cM (.int 0)))) T_law_bag_1)
def F_law_bag : FM := runF true 6 [] B_law_bag'
theorem u_law_bag (as : List EV) : F_law_bag as = runF true 6 [] (seqM (setM 2 (ifM (cmpM ltI (varM 1) (callM lenD [(varM 0)])) (callM absD [(callM intD [(op2M ixD (varM 0) (varM 1))])]) (cM (.int 0)))) (seqM (setM 3 (op2M addI (cM (.int 70003)) (op2M mulI (cM (.int 6997)) (varM 1)))) (seqM (forS (enumM (slLM (varM 0) none (some (cM (.int 63))))) (tgT [(tgN 4), (tgN 5)]) L_law_bag_0) (retM (lstM [(ifM (cmpM geI (varM 2) (op2M powI (cM (.int 10)) (cM (.int 18)))) (varM 2) (cM (.int 0))), (varM 3), (cM (.int 0))]))))) as := rfl
def T_law_take_3 : MS := (retM (op2M modI (op2M fdivI (op2M modI (callM intD [(op2M mulI (op2M ixD (ovarM 0) (cM (.int 1))) (cM (.int 16807)))]) (cM (.int 2147483629))) (cM (.int 64))) (varM 1)))
def T_law_take_2 : MS := (seqM (setIM 0 (op2M modI (callM intD [(op2M addI (op2M addI (op2M mulI (op2M ixD (ovarM 0) (cM (.int 1))) (cM (.int 48271))) (op2M mulI (cM (.int 11)) (op2M ixD (ovarM 0) (cM (.int 2))))) (cM (.int 7)))]) (cM (.int 2147483647))) (cM (.int 1))) T_law_take_3)
def T_law_take_1 : MS := (seqM (setIM 0 (op2M addI (op2M ixD (ovarM 0) (cM (.int 2))) (cM (.int 1))) (cM (.int 2))) T_law_take_2)
def B_law_take' : MS := (seqM (iffM (cmpM gtI (op2M ixD (ovarM 0) (cM (.int 0))) (cM (.int 0))) (seqM (setM 2 (op2M modI (callM intD [(op2M ixD (ovarM 0) (cM (.int 0)))]) (varM 1))) (seqM (setIM 0 (op2M fdivI (op2M ixD (ovarM 0) (cM (.int 0))) (varM 1)) (cM (.int 0))) (retM (varM 2)))) nilM) T_law_take_1)
def F_law_take : FM := runF false 3 [0] B_law_take'
theorem u_law_take (as : List EV) : F_law_take as = runF false 3 [0] (seqM (iffM (cmpM gtI (op2M ixD (ovarM 0) (cM (.int 0))) (cM (.int 0))) (seqM (setM 2 (op2M modI (callM intD [(op2M ixD (ovarM 0) (cM (.int 0)))]) (varM 1))) (seqM (setIM 0 (op2M fdivI (op2M ixD (ovarM 0) (cM (.int 0))) (varM 1)) (cM (.int 0))) (retM (varM 2)))) nilM) (seqM (setIM 0 (op2M addI (op2M ixD (ovarM 0) (cM (.int 2))) (cM (.int 1))) (cM (.int 2))) (seqM (setIM 0 (op2M modI (callM intD [(op2M addI (op2M addI (op2M mulI (op2M ixD (ovarM 0) (cM (.int 1))) (cM (.int 48271))) (op2M mulI (cM (.int 11)) (op2M ixD (ovarM 0) (cM (.int 2))))) (cM (.int 7)))]) (cM (.int 2147483647))) (cM (.int 1))) (retM (op2M modI (op2M fdivI (op2M modI (callM intD [(op2M mulI (op2M ixD (ovarM 0) (cM (.int 1))) (cM (.int 16807)))]) (cM (.int 2147483629))) (cM (.int 64))) (varM 1)))))) as := rfl
def B_law_of' : MS := (retM (op2M ixD (varM 1) (fnM F_law_take [.o 0, .p (callM lenD [(varM 1)])] [])))
def F_law_of : FM := runF false 2 [0] B_law_of'
theorem u_law_of (as : List EV) : F_law_of as = runF false 2 [0] (retM (op2M ixD (varM 1) (fnM F_law_take [.o 0, .p (callM lenD [(varM 1)])] []))) as := rfl
def L_law_longer_0 : MS := (exprM (mtM 2 appG [(op2M catL (varM 3) (lstM [(varM 4)]))]))
def L_law_longer_1 : MS := (forS (rng1M (varM 1)) (tgN 4) L_law_longer_0)
def T_law_longer_2 : MS := (retOM 2)
def T_law_longer_1 : MS := (seqM (forS (asL (varM 0)) (tgN 3) L_law_longer_1) T_law_longer_2)
def B_law_longer' : MS := (seqM (setOM 2 (lstM [])) T_law_longer_1)
def F_law_longer : FM := runF true 5 [] B_law_longer'
theorem u_law_longer (as : List EV) : F_law_longer as = runF true 5 [] (seqM (setOM 2 (lstM [])) (seqM (forS (asL (varM 0)) (tgN 3) L_law_longer_1) (retOM 2))) as := rfl
def L_law_orders_0 : MS := (setM 1 (fnM F_law_longer [.p (varM 1), .p (varM 0)] []))
def T_law_orders_2 : MS := (retM (compM [3] (asL (varM 1)) (tgN 3) (andT (cmpM inA (cM (.int 0)) (varM 3)) (cmpM eqS (lenSetM (varM 3)) (op2M addI (callM maxAD [(varM 3)]) (cM (.int 1))))) (varM 3)))
def T_law_orders_1 : MS := (seqM (forS (rng1M (varM 0)) (tgN 2) L_law_orders_0) T_law_orders_2)
def B_law_orders' : MS := (seqM (setM 1 (lstM [(lstM [])])) T_law_orders_1)
def F_law_orders : FM := runF true 4 [] B_law_orders'
theorem u_law_orders (as : List EV) : F_law_orders as = runF true 4 [] (seqM (setM 1 (lstM [(lstM [])])) (seqM (forS (rng1M (varM 0)) (tgN 2) L_law_orders_0) (retM (compM [3] (asL (varM 1)) (tgN 3) (andT (cmpM inA (cM (.int 0)) (varM 3)) (cmpM eqS (lenSetM (varM 3)) (op2M addI (callM maxAD [(varM 3)]) (cM (.int 1))))) (varM 3))))) as := rfl
def T_law_keeps_3 : MS := (retM (ifM (trM (varM 3)) (varM 6) (notV (varM 6))))
def T_law_keeps_2 : MS := (seqM (setM 6 (orV (bV (cmpM eqNil (varM 5) (lstM []))) (andV (bV (cmpM neNil (varM 4) (lstM []))) (bV (cmpM ltI (callM minAD [(varM 4)]) (callM minAD [(varM 5)])))))) T_law_keeps_3)
def T_law_keeps_1 : MS := (seqM (setM 5 (compM [7] (rng1M (callM lenD [(varM 0)])) (tgN 7) (cmpM eqS (op2M andI (op2M shrI (varM 2) (varM 7)) (cM (.int 1))) (cM (.int 1))) (op2M ixD (varM 0) (varM 7)))) T_law_keeps_2)
def B_law_keeps' : MS := (seqM (setM 4 (compM [7] (rng1M (callM lenD [(varM 0)])) (tgN 7) (cmpM eqS (op2M andI (op2M shrI (varM 1) (varM 7)) (cM (.int 1))) (cM (.int 1))) (op2M ixD (varM 0) (varM 7)))) T_law_keeps_1)
def F_law_keeps : FM := runF false 8 [] B_law_keeps'
theorem u_law_keeps (as : List EV) : F_law_keeps as = runF false 8 [] (seqM (setM 4 (compM [7] (rng1M (callM lenD [(varM 0)])) (tgN 7) (cmpM eqS (op2M andI (op2M shrI (varM 1) (varM 7)) (cM (.int 1))) (cM (.int 1))) (op2M ixD (varM 0) (varM 7)))) (seqM (setM 5 (compM [7] (rng1M (callM lenD [(varM 0)])) (tgN 7) (cmpM eqS (op2M andI (op2M shrI (varM 2) (varM 7)) (cM (.int 1))) (cM (.int 1))) (op2M ixD (varM 0) (varM 7)))) (seqM (setM 6 (orV (bV (cmpM eqNil (varM 5) (lstM []))) (andV (bV (cmpM neNil (varM 4) (lstM []))) (bV (cmpM ltI (callM minAD [(varM 4)]) (callM minAD [(varM 5)])))))) (retM (ifM (trM (varM 3)) (varM 6) (notV (varM 6))))))) as := rfl
def L_law_spread_0 : MS := (seqM (setM 3 (op2M addI (op2M addI (varM 3) (cM (.int 1))) (fnM F_law_of [.o 0, .p (lstM [(cM (.int 0)), (cM (.int 0)), (cM (.int 1)), (cM (.int 7)), (op2M powI (cM (.int 10)) (cM (.int 29)))])] []))) (exprM (mtM 2 appG [(varM 3)])))
def T_law_spread_2 : MS := (retM (compM [5] (asL (varM 1)) (tgN 5) yesT (op2M ixD (ovarM 2) (varM 5))))
def T_law_spread_1 : MS := (seqM (forS (rng1M (callM maxAD [(varM 1)])) (tgN 4) L_law_spread_0) T_law_spread_2)
def B_law_spread' : MS := (seqM (parKM true false 2 3 (lstM [(cM (.int 0))]) (cM (.int 0))) T_law_spread_1)
def F_law_spread : FM := runF false 6 [0] B_law_spread'
theorem u_law_spread (as : List EV) : F_law_spread as = runF false 6 [0] (seqM (parKM true false 2 3 (lstM [(cM (.int 0))]) (cM (.int 0))) (seqM (forS (rng1M (callM maxAD [(varM 1)])) (tgN 4) L_law_spread_0) (retM (compM [5] (asL (varM 1)) (tgN 5) yesT (op2M ixD (ovarM 2) (varM 5)))))) as := rfl
def T_law_saying_4 : MS := (retM (andV (bV (cmpM eqS (methM 0 F_Order_keeps (varM 0) [.p (varM 2)] []) (varM 4))) (andV (bV (cmpM neS (methM 0 F_Order_keeps (varM 0) [.p (methM 2 F_Saying_contrary (varM 2) [] [])] []) (varM 4))) (bV (cmpM eqS (varM 7) (varM 4))))))
def T_law_saying_3 : MS := (seqM (setM 7 (orV (bV (cmpM eqNil (varM 6) (lstM []))) (andV (bV (cmpM neNil (varM 5) (lstM []))) (bV (cmpM geI (callM minAD [(varM 6)]) (op2M addI (callM minAD [(varM 5)]) (attrM 2 7 (varM 2)))))))) T_law_saying_4)
def T_law_saying_2 : MS := (seqM (setM 6 (compM [8] (rng1M (callM lenD [(varM 1)])) (tgN 8) (cmpM eqS (op2M andI (op2M shrI (attrM 2 6 (varM 2)) (varM 8)) (cM (.int 1))) (cM (.int 1))) (op2M ixD (varM 1) (varM 8)))) T_law_saying_3)
def T_law_saying_1 : MS := (seqM (setM 5 (compM [8] (rng1M (callM lenD [(varM 1)])) (tgN 8) (cmpM eqS (op2M andI (op2M shrI (attrM 2 5 (varM 2)) (varM 8)) (cM (.int 1))) (cM (.int 1))) (op2M ixD (varM 1) (varM 8)))) T_law_saying_2)
def B_law_saying' : MS := (seqM (setM 4 (fnM F_law_keeps [.p (varM 1), .p (attrM 2 3 (varM 2)), .p (attrM 2 4 (varM 2)), .p (varM 3)] [])) T_law_saying_1)
def F_law_saying : FM := runF false 9 [] B_law_saying'
theorem u_law_saying (as : List EV) : F_law_saying as = runF false 9 [] (seqM (setM 4 (fnM F_law_keeps [.p (varM 1), .p (attrM 2 3 (varM 2)), .p (attrM 2 4 (varM 2)), .p (varM 3)] [])) (seqM (setM 5 (compM [8] (rng1M (callM lenD [(varM 1)])) (tgN 8) (cmpM eqS (op2M andI (op2M shrI (attrM 2 5 (varM 2)) (varM 8)) (cM (.int 1))) (cM (.int 1))) (op2M ixD (varM 1) (varM 8)))) (seqM (setM 6 (compM [8] (rng1M (callM lenD [(varM 1)])) (tgN 8) (cmpM eqS (op2M andI (op2M shrI (attrM 2 6 (varM 2)) (varM 8)) (cM (.int 1))) (cM (.int 1))) (op2M ixD (varM 1) (varM 8)))) (seqM (setM 7 (orV (bV (cmpM eqNil (varM 6) (lstM []))) (andV (bV (cmpM neNil (varM 5) (lstM []))) (bV (cmpM geI (callM minAD [(varM 6)]) (op2M addI (callM minAD [(varM 5)]) (attrM 2 7 (varM 2)))))))) (retM (andV (bV (cmpM eqS (methM 0 F_Order_keeps (varM 0) [.p (varM 2)] []) (varM 4))) (andV (bV (cmpM neS (methM 0 F_Order_keeps (varM 0) [.p (methM 2 F_Saying_contrary (varM 2) [] [])] []) (varM 4))) (bV (cmpM eqS (varM 7) (varM 4)))))))))) as := rfl
def L_law_books_0 : MS := (seqM (setM 8 (compM [11, 12, 16] (asL (varM 3)) (tgT [(tgN 11), (tgN 12), (tgN 16)]) yesT (fnM F_law_keeps [.p (op2M ixD (varM 1) (varM 7)), .p (varM 11), .p (varM 12), .p (varM 16)] []))) (seqM (setM 9 (ifM (cmpM inA (cM (.bl false)) (varM 8)) (idxLM (varM 8) (cM (.bl false))) (cM .non))) (seqM (iffM (orT (cmpM neD (methM 0 F_Order_call (op2M ixD (varM 2) (varM 7)) [.p (varM 5)] []) (varM 9)) (cmpM neS (methM 0 F_Order_keeps_all (op2M ixD (varM 2) (varM 7)) [.p (varM 4)] []) (bV (cmpM isN (varM 9) (cM .non))))) (retM (cM (.bl false))) nilM) (iffM (cmpM isN (varM 9) (cM .non)) (exprM (mtM 6 appG [(varM 7)])) nilM))))
def L_law_books_1 : MS := (pickS 6 (iffM (cmpM neNil (ovarM 6) (lstM [])) (seqM (parM 11 12 (fnM F_law_of [.o 0, .p (frzM 6)] []) (fnM F_law_of [.o 0, .p (varM 6)] [])) (seqM (setM 13 (mkM 0 1 F_Order_init [.p (fnM F_law_spread [.o 0, .p (op2M ixD (varM 1) (varM 11))] [])] [])) (seqM (setM 14 (opO 0 F_Order_and (varM 13) (op2M ixD (varM 2) (varM 12)))) (seqM (setM 15 (compM [17, 18] (zipM (lstO 0 0 F_Order_len (varM 13)) (op2M ixD (varM 1) (varM 12))) (tgT [(tgN 17), (tgN 18)]) yesT (callM min2D [(varM 17), (varM 18)]))) (seqM (iffM (orT (cmpM neD (lstO 0 0 F_Order_len (varM 14)) (varM 15)) (orT (notT (trM (methM 0 F_Order_keeps_all (varM 14) [.p (varM 5)] []))) (notT (trM (methM 0 F_Order_keeps_all (methM 0 F_Order_closed (varM 14) [] []) [.p (varM 5)] []))))) (retM (cM (.bl false))) nilM) (iffM (orT (cmpM notN (methM 0 F_Order_call (varM 14) [.p (varM 4)] []) (cM .non)) (orT (notT (cmpO 0 F_Order_eq tys cns (methM 0 F_Order_closed (varM 13) [] []) (op2M ixD (varM 2) (varM 11)))) (notT (trM (methM 0 F_Order_beneath (varM 14) [.p (varM 13)] []))))) (retM (cM (.bl false))) nilM)))))) nilM) (iffM (cmpM neNil (varM 6) (lstM [])) (seqM (parM 11 12 (fnM F_law_of [.o 0, .p (varM 6)] []) (fnM F_law_of [.o 0, .p (varM 6)] [])) (seqM (setM 13 (mkM 0 1 F_Order_init [.p (fnM F_law_spread [.o 0, .p (op2M ixD (varM 1) (varM 11))] [])] [])) (seqM (setM 14 (opO 0 F_Order_and (varM 13) (op2M ixD (varM 2) (varM 12)))) (seqM (setM 15 (compM [17, 18] (zipM (lstO 0 0 F_Order_len (varM 13)) (op2M ixD (varM 1) (varM 12))) (tgT [(tgN 17), (tgN 18)]) yesT (callM min2D [(varM 17), (varM 18)]))) (seqM (iffM (orT (cmpM neD (lstO 0 0 F_Order_len (varM 14)) (varM 15)) (orT (notT (trM (methM 0 F_Order_keeps_all (varM 14) [.p (varM 5)] []))) (notT (trM (methM 0 F_Order_keeps_all (methM 0 F_Order_closed (varM 14) [] []) [.p (varM 5)] []))))) (retM (cM (.bl false))) nilM) (iffM (orT (cmpM notN (methM 0 F_Order_call (varM 14) [.p (varM 4)] []) (cM .non)) (orT (notT (cmpO 0 F_Order_eq tys cns (methM 0 F_Order_closed (varM 13) [] []) (op2M ixD (varM 2) (varM 11)))) (notT (trM (methM 0 F_Order_beneath (varM 14) [.p (varM 13)] []))))) (retM (cM (.bl false))) nilM)))))) nilM))
def T_law_books_3 : MS := (retM (cM (.bl true)))
def T_law_books_2 : MS := (seqM (forS (rng1M (cM (.int 6))) (tgN 10) L_law_books_1) T_law_books_3)
def T_law_books_1 : MS := (seqM (forS (rng1M (callM lenD [(varM 1)])) (tgN 7) L_law_books_0) T_law_books_2)
def B_law_books' : MS := (seqM (setOM 6 (lstM [])) T_law_books_1)
def F_law_books : FM := runF false 19 [0] B_law_books'
theorem u_law_books (as : List EV) : F_law_books as = runF false 19 [0] (seqM (setOM 6 (lstM [])) (seqM (forS (rng1M (callM lenD [(varM 1)])) (tgN 7) L_law_books_0) (seqM (forS (rng1M (cM (.int 6))) (tgN 10) L_law_books_1) (retM (cM (.bl true)))))) as := rfl
def L_law_0 : MS := (seqM (setM 13 (fnM F_law_take [.o 2, .p (cM (.int 3))] [])) (seqM (setM 10 (op2M addI (varM 10) (ifM (cmpM eqS (varM 13) (cM (.int 0))) (op2M shlI (cM (.int 1)) (varM 12)) (cM (.int 0))))) (setM 11 (op2M addI (varM 11) (ifM (cmpM eqS (varM 13) (cM (.int 1))) (op2M shlI (cM (.int 1)) (varM 12)) (cM (.int 0)))))))
def L_law_1 : MS := (seqM (asgM (tgT [(tgN 10), (tgN 11)]) (tupM [(cM (.int 0)), (cM (.int 0))])) (seqM (forS (rng1M (varM 3)) (tgN 12) L_law_0) (seqM (setM 10 (ifM (cmpM gtI (op2M addI (varM 10) (varM 11)) (cM (.int 0))) (varM 10) (cM (.int 1)))) (seqM (setM 14 (bV (cmpM gtI (fnM F_law_take [.o 2, .p (cM (.int 3))] []) (cM (.int 0))))) (seqM (exprM (mtM 7 appG [(tupM [(varM 10), (varM 11), (varM 14)])])) (exprM (mtM 8 appG [(cmM F_Saying_of_days [.p (varM 10), .p (varM 11), .p (varM 14)] [])])))))))
def L_law_2 : MS := (iffM (notT (trM (fnM F_law_saying [.p (varM 16), .p (op2M ixD (varM 5) (varM 15)), .p (op2M ixD (ovarM 8) (varM 17)), .p (op2M ixD (op2M ixD (ovarM 7) (varM 17)) (cM (.int 2)))] []))) (retM (cM (.bl false))) nilM)
def L_law_3 : MS := (seqM (setM 16 (ifM (cmpM eqS (op2M modI (varM 15) (cM (.int 5))) (varM 1)) (mkM 0 1 F_Order_init [.p (fnM F_law_spread [.o 2, .p (op2M ixD (varM 5) (varM 15))] [])] []) (op2M ixD (varM 6) (varM 15)))) (forS (rng1M (callM lenD [(ovarM 7)])) (tgN 17) L_law_2))
def L_law_4 : MS := (seqM (setOM 2 (fnM F_law_bag [.p (varM 0), .p (varM 1)] [])) (seqM (setM 3 (fnM F_law_of [.o 2, .p (lstM [(cM (.int 4)), (cM (.int 4)), (cM (.int 2))])] [])) (seqM (setM 4 (mkM 1 4 F_Marks_init [.p (ifM (cmpM eqS (varM 3) (cM (.int 2))) (lstM [(cM (.str "a"))]) (lstM [(cM (.str "a")), (cM (.str "b"))]))] [])) (seqM (setM 5 (fnM F_law_orders [.p (varM 3)] [])) (seqM (iffM (cmpM neS (callM lenD [(varM 5)]) (ifM (cmpM eqS (varM 3) (cM (.int 2))) (cM (.int 3)) (cM (.int 75)))) (retM (cM (.bl false))) nilM) (seqM (setM 6 (compM [18] (asL (varM 5)) (tgN 18) yesT (mkM 0 1 F_Order_init [.p (varM 18)] []))) (seqM (parKM true true 7 8 (lstM []) (lstM [])) (seqM (forS (rng1M (ifM (cmpM eqS (varM 3) (cM (.int 4))) (cM (.int 3)) (cM (.int 8)))) (tgN 9) L_law_1) (seqM (forS (rng1M (callM lenD [(varM 5)])) (tgN 15) L_law_3) (iffM (notT (trM (fnM F_law_books [.o 2, .p (varM 5), .p (varM 6), .p (frzM 7), .p (frzM 8), .p (mkM 3 2 F_Book_init [.p (varM 4), .p (varM 8)] [])] []))) (retM (cM (.bl false))) nilM))))))))))
def B_law' : MS := (seqM (forS (rng1M (callM max2D [(cM (.int 1)), (callM min2D [(cM (.int 2)), (callM lenD [(varM 0)])])])) (tgN 1) L_law_4) (retM (cM (.bl true))))
def F_law : FM := runF false 19 [] B_law'
theorem u_law (as : List EV) : F_law as = runF false 19 [] (seqM (forS (rng1M (callM max2D [(cM (.int 1)), (callM min2D [(cM (.int 2)), (callM lenD [(varM 0)])])])) (tgN 1) L_law_4) (retM (cM (.bl true)))) as := rfl
def d_ : List He.DefD := []
def dx_BadMarks : He.DefD := ⟨("BadMarks", some "__init__"), "__init__", "BadMarks.__init__", defArgs s_xBadMarks, defBody s_xBadMarks, defScope s_xBadMarks, [], []⟩
def dx_BadSaying : He.DefD := ⟨("BadSaying", some "__init__"), "__init__", "BadSaying.__init__", defArgs s_xBadSaying, defBody s_xBadSaying, defScope s_xBadSaying, [], []⟩
def dx_BadBook : He.DefD := ⟨("BadBook", some "__init__"), "__init__", "BadBook.__init__", defArgs s_xBadBook, defBody s_xBadBook, defScope s_xBadBook, [], []⟩
def dx_OtherDays : He.DefD := ⟨("OtherDays", some "__init__"), "__init__", "OtherDays.__init__", defArgs s_xOtherDays, defBody s_xOtherDays, defScope s_xOtherDays, [], []⟩
def dx_BadOrder : He.DefD := ⟨("BadOrder", some "__init__"), "__init__", "BadOrder.__init__", defArgs s_xBadOrder, defBody s_xBadOrder, defScope s_xBadOrder, [], []⟩
def d_days_in : He.DefD := ⟨("days_in", none), "days_in", "days_in", defArgs s_days_in, defBody s_days_in, defScope s_days_in, [], []⟩
def d_is_whole : He.DefD := ⟨("is_whole", none), "is_whole", "is_whole", defArgs s_is_whole, defBody s_is_whole, defScope s_is_whole, [], []⟩
def d_checked_layers : He.DefD := ⟨("checked_layers", none), "checked_layers", "checked_layers", defArgs s_checked_layers, defBody s_checked_layers, defScope s_checked_layers, [], []⟩
def d_check_days : He.DefD := ⟨("check_days", none), "check_days", "check_days", defArgs s_check_days, defBody s_check_days, defScope s_check_days, [], []⟩
def d_check_same_days : He.DefD := ⟨("check_same_days", none), "check_same_days", "check_same_days", defArgs s_check_same_days, defBody s_check_same_days, defScope s_check_same_days, [], []⟩
def d_first_not_kept : He.DefD := ⟨("first_not_kept", none), "first_not_kept", "first_not_kept", defArgs s_first_not_kept, defBody s_first_not_kept, defScope s_first_not_kept, [], []⟩
def d_Order_init : He.DefD := ⟨("Order", some "__init__"), "__init__", "Order.__init__", defArgs s_Order_init, defBody s_Order_init, defScope s_Order_init, [], []⟩
def d_Order_iter : He.DefD := ⟨("Order", some "__iter__"), "__iter__", "Order.__iter__", defArgs s_Order_iter, defBody s_Order_iter, defScope s_Order_iter, [], []⟩
def d_Order_len : He.DefD := ⟨("Order", some "__len__"), "__len__", "Order.__len__", defArgs s_Order_len, defBody s_Order_len, defScope s_Order_len, [], []⟩
def d_Order_eq : He.DefD := ⟨("Order", some "__eq__"), "__eq__", "Order.__eq__", defArgs s_Order_eq, defBody s_Order_eq, defScope s_Order_eq, [], []⟩
def d_Order_and : He.DefD := ⟨("Order", some "__and__"), "__and__", "Order.__and__", defArgs s_Order_and, defBody s_Order_and, defScope s_Order_and, [], []⟩
def d_Order_call : He.DefD := ⟨("Order", some "__call__"), "__call__", "Order.__call__", defArgs s_Order_call, defBody s_Order_call, defScope s_Order_call, [], []⟩
def d_Order_least : He.DefD := ⟨("Order", some "least"), "least", "Order.least", defArgs s_Order_least, defBody s_Order_least, defScope s_Order_least, [], []⟩
def d_Order_closed : He.DefD := ⟨("Order", some "closed"), "closed", "Order.closed", defArgs s_Order_closed, defBody s_Order_closed, defScope s_Order_closed, [], []⟩
def d_Order_beneath : He.DefD := ⟨("Order", some "beneath"), "beneath", "Order.beneath", defArgs s_Order_beneath, defBody s_Order_beneath, defScope s_Order_beneath, [], []⟩
def d_Order_keeps : He.DefD := ⟨("Order", some "keeps"), "keeps", "Order.keeps", defArgs s_Order_keeps, defBody s_Order_keeps, defScope s_Order_keeps, [], []⟩
def d_Order_keeps_all : He.DefD := ⟨("Order", some "keeps_all"), "keeps_all", "Order.keeps_all", defArgs s_Order_keeps_all, defBody s_Order_keeps_all, defScope s_Order_keeps_all, [], []⟩
def d_name_fault : He.DefD := ⟨("name_fault", none), "name_fault", "name_fault", defArgs s_name_fault, defBody s_name_fault, defScope s_name_fault, [], []⟩
def d_Marks_init : He.DefD := ⟨("Marks", some "__init__"), "__init__", "Marks.__init__", defArgs s_Marks_init, defBody s_Marks_init, defScope s_Marks_init, [], []⟩
def d_Saying_init : He.DefD := ⟨("Saying", some "__init__"), "__init__", "Saying.__init__", defArgs s_Saying_init, defBody s_Saying_init, defScope s_Saying_init, [(.bl true)], []⟩
def d_Saying_of_days : He.DefD := ⟨("Saying", some "of_days"), "of_days", "Saying.of_days", defArgs s_Saying_of_days, defBody s_Saying_of_days, defScope s_Saying_of_days, [(.bl true)], []⟩
def gd_Saying_of_days : DefG := ⟨fun K => recF "classmethod" K (He.ga K "Saying") "of_days", d_Saying_of_days⟩
def d_Saying_contrary : He.DefD := ⟨("Saying", some "contrary"), "contrary", "Saying.contrary", defArgs s_Saying_contrary, defBody s_Saying_contrary, defScope s_Saying_contrary, [], []⟩
def d_Book_init : He.DefD := ⟨("Book", some "__init__"), "__init__", "Book.__init__", defArgs s_Book_init, defBody s_Book_init, defScope s_Book_init, [], []⟩
def d_Book_iter : He.DefD := ⟨("Book", some "__iter__"), "__iter__", "Book.__iter__", defArgs s_Book_iter, defBody s_Book_iter, defScope s_Book_iter, [], []⟩
def d_law_bag : He.DefD := ⟨("_law_bag", none), "_law_bag", "_law_bag", defArgs s_law_bag, defBody s_law_bag, defScope s_law_bag, [], []⟩
def d_law_take : He.DefD := ⟨("_law_take", none), "_law_take", "_law_take", defArgs s_law_take, defBody s_law_take, defScope s_law_take, [], []⟩
def d_law_of : He.DefD := ⟨("_law_of", none), "_law_of", "_law_of", defArgs s_law_of, defBody s_law_of, defScope s_law_of, [], []⟩
def d_law_longer : He.DefD := ⟨("_law_longer", none), "_law_longer", "_law_longer", defArgs s_law_longer, defBody s_law_longer, defScope s_law_longer, [], []⟩
def d_law_orders : He.DefD := ⟨("_law_orders", none), "_law_orders", "_law_orders", defArgs s_law_orders, defBody s_law_orders, defScope s_law_orders, [], []⟩
def d_law_keeps : He.DefD := ⟨("_law_keeps", none), "_law_keeps", "_law_keeps", defArgs s_law_keeps, defBody s_law_keeps, defScope s_law_keeps, [], []⟩
def d_law_spread : He.DefD := ⟨("_law_spread", none), "_law_spread", "_law_spread", defArgs s_law_spread, defBody s_law_spread, defScope s_law_spread, [], []⟩
def d_law_saying : He.DefD := ⟨("_law_saying", none), "_law_saying", "_law_saying", defArgs s_law_saying, defBody s_law_saying, defScope s_law_saying, [], []⟩
def d_law_books : He.DefD := ⟨("_law_books", none), "_law_books", "_law_books", defArgs s_law_books, defBody s_law_books, defScope s_law_books, [], []⟩
def d_law : He.DefD := ⟨("law", none), "law", "law", defArgs s_law, defBody s_law, defScope s_law, [], []⟩
def gs : List DefG := [gd_Saying_of_days]
def fn : List He.DefD := [dx_BadMarks, dx_BadSaying, dx_BadBook, dx_OtherDays, dx_BadOrder, d_days_in, d_is_whole, d_checked_layers, d_check_days, d_check_same_days, d_first_not_kept, d_Order_init, d_Order_iter, d_Order_len, d_Order_eq, d_Order_and, d_Order_call, d_Order_least, d_Order_closed, d_Order_beneath, d_Order_keeps, d_Order_keeps_all, d_name_fault, d_Marks_init, d_Saying_init, d_Saying_contrary, d_Book_init, d_Book_iter, d_law_bag, d_law_take, d_law_of, d_law_longer, d_law_orders, d_law_keeps, d_law_spread, d_law_saying, d_law_books, d_law]
def fa : List He.Fa := [.glo "days_in", .glo "is_whole", .glo "checked_layers", .glo "check_days", .glo "check_same_days", .glo "first_not_kept", .glo "name_fault", .glo "_law_bag", .glo "_law_take", .glo "_law_of", .glo "_law_longer", .glo "_law_orders", .glo "_law_keeps", .glo "_law_spread", .glo "_law_saying", .glo "_law_books", .glo "law", .glo "DaysError", .glo "BadMarks", .glo "NoMark", .glo "NoDay", .glo "BadSaying", .glo "BadBook", .glo "NoSaying", .glo "BadLot", .glo "OtherDays", .glo "BadOrder", .glo "Order", .glo "Marks", .glo "Saying", .glo "Book", .free "tuple", .free "isinstance", .free "int", .free "bool", .free "list", .free "len", .free "enumerate", .free "min", .free "iter", .free "zip", .free "sorted", .free "set", .free "all", .free "str", .free "abs", .free "range", .free "max", .glo "COUNTS", .int "HIGHEST" 1000000000000000000000000000000, .int "LONGEST_NAME" 8, .str "LETTERS" "abcdefghijklmnopqrstuvwxyz", .glo "KEPT_WORDS", .int "MOST_MARKS" 4, .int "ALL_BITS" 65535, .int "MOST_SAYINGS" 12, .cls "Order", .noat "Order" "layers", .meth "Order" "__iter__", .meth "Order" "__len__", .meth "Order" "__eq__", .meth "Order" "__and__", .meth "Order" "__call__", .meth "Order" "least", .meth "Order" "closed", .meth "Order" "beneath", .meth "Order" "keeps", .meth "Order" "keeps_all", .mkr "Order", .cls "Marks", .noat "Marks" "names", .noat "Marks" "count", .noat "Marks" "days", .noat "Marks" "all_days", .mkr "Marks", .cls "Saying", .noat "Saying" "where", .noat "Saying" "then", .noat "Saying" "usual", .noat "Saying" "confirm", .noat "Saying" "broken", .noat "Saying" "low", .noat "Saying" "high", .noat "Saying" "step", .meth "Saying" "contrary", .mkr "Saying", .cls "Book", .noat "Book" "marks", .noat "Book" "sayings", .meth "Book" "__iter__", .mkr "Book"]
def excL (K : PySem.W.Frag) : List Addr := [He.ga K "DaysError", He.ga K "BadMarks", He.ga K "NoMark", He.ga K "NoDay", He.ga K "BadSaying", He.ga K "BadBook", He.ga K "NoSaying", He.ga K "BadLot", He.ga K "OtherDays", He.ga K "BadOrder"]
def clsL (K : PySem.W.Frag) : List Addr := [He.ga K "Order", He.ga K "Marks", He.ga K "Saying", He.ga K "Book"]
def cA (K : PySem.W.Frag) (c : Nat) : Addr := (clsL K).getD c 0
def ex (K : PySem.W.Frag) : Bool := allB [xdB K (He.ga K "DaysError"), xcB K (He.ga K "BadMarks") ["what", "index"], xcB K (He.ga K "BadSaying") ["what"], xcB K (He.ga K "BadBook") ["what", "number"], xcB K (He.ga K "OtherDays") [], xcB K (He.ga K "BadOrder") ["what"], isTabB K (cA K) (fun t => PySem.W.kitOne K t (.type "int")) ty_int cn_int, isTabB K (cA K) (fun t => PySem.W.kitOne K t (.type "bool")) ty_bool cn_bool, isTabB K (cA K) (fun t => PySem.W.kitAny K t [.type "list", .type "tuple"]) ty_list_tuple cn_list_tuple, isTabB K (cA K) (fun t => PySem.W.kitOne K t (.ref (He.ga K "Order"))) ty_Order cn_Order, isTabB K (cA K) (fun t => PySem.W.kitOne K t (.type "str")) ty_str cn_str, isTabB K (cA K) (fun t => PySem.W.kitOne K t (.ref (He.ga K "Marks"))) ty_Marks cn_Marks, isTabB K (cA K) (fun t => PySem.W.kitOne K t (.ref (He.ga K "Saying"))) ty_Saying cn_Saying, PySem.W.selfFirst K (He.ga K "Order"), eqCB K (cA K) 0 cns, metB "classmethod" K (He.ga K "Saying") "of_days", gd_Saying_of_days.okB K, PySem.W.fnIn K (He.ma K (He.ga K "Order") "__call__"), He.tupB K "COUNTS" [(.int 2), (.int 4), (.int 8), (.int 16)], He.tupB K "KEPT_WORDS" [(.str "and"), (.str "any"), (.str "marks"), (.str "need"), (.str "never"), (.str "not"), (.str "or"), (.str "usually"), (.str "where")]]
def tab (K : PySem.W.Frag) : Tab where
  K := K
  clsA := cA K
  clsF := fun c => ([FL_Order, FL_Marks, FL_Saying, FL_Book] : List (List Str)).getD c []
  excA := fun c => (excL K).getD c 0
  excF := fun c => ([[], ["what", "index"], ["name"], ["day"], ["what"], ["what", "number"], ["number"], [], [], ["what"]] : List (List Str)).getD c []
section
variable {P : Program} {w : World} {K : PySem.W.Frag} {h : Heap} {mg : Str → Option Value} {base : Heap}
theorem m_days_in (KX : K.In h) (G : h.Ns mainGlobals mg) (c : SaysV fa fn gs ex K) : mg "days_in" = some (.ref (He.ga K "days_in")) := He.glo_ok KX G (c.d.fact 0 rfl)
theorem m_is_whole (KX : K.In h) (G : h.Ns mainGlobals mg) (c : SaysV fa fn gs ex K) : mg "is_whole" = some (.ref (He.ga K "is_whole")) := He.glo_ok KX G (c.d.fact 1 rfl)
theorem m_checked_layers (KX : K.In h) (G : h.Ns mainGlobals mg) (c : SaysV fa fn gs ex K) : mg "checked_layers" = some (.ref (He.ga K "checked_layers")) := He.glo_ok KX G (c.d.fact 2 rfl)
theorem m_check_days (KX : K.In h) (G : h.Ns mainGlobals mg) (c : SaysV fa fn gs ex K) : mg "check_days" = some (.ref (He.ga K "check_days")) := He.glo_ok KX G (c.d.fact 3 rfl)
theorem m_check_same_days (KX : K.In h) (G : h.Ns mainGlobals mg) (c : SaysV fa fn gs ex K) : mg "check_same_days" = some (.ref (He.ga K "check_same_days")) := He.glo_ok KX G (c.d.fact 4 rfl)
theorem m_first_not_kept (KX : K.In h) (G : h.Ns mainGlobals mg) (c : SaysV fa fn gs ex K) : mg "first_not_kept" = some (.ref (He.ga K "first_not_kept")) := He.glo_ok KX G (c.d.fact 5 rfl)
theorem m_name_fault (KX : K.In h) (G : h.Ns mainGlobals mg) (c : SaysV fa fn gs ex K) : mg "name_fault" = some (.ref (He.ga K "name_fault")) := He.glo_ok KX G (c.d.fact 6 rfl)
theorem m__law_bag (KX : K.In h) (G : h.Ns mainGlobals mg) (c : SaysV fa fn gs ex K) : mg "_law_bag" = some (.ref (He.ga K "_law_bag")) := He.glo_ok KX G (c.d.fact 7 rfl)
theorem m__law_take (KX : K.In h) (G : h.Ns mainGlobals mg) (c : SaysV fa fn gs ex K) : mg "_law_take" = some (.ref (He.ga K "_law_take")) := He.glo_ok KX G (c.d.fact 8 rfl)
theorem m__law_of (KX : K.In h) (G : h.Ns mainGlobals mg) (c : SaysV fa fn gs ex K) : mg "_law_of" = some (.ref (He.ga K "_law_of")) := He.glo_ok KX G (c.d.fact 9 rfl)
theorem m__law_longer (KX : K.In h) (G : h.Ns mainGlobals mg) (c : SaysV fa fn gs ex K) : mg "_law_longer" = some (.ref (He.ga K "_law_longer")) := He.glo_ok KX G (c.d.fact 10 rfl)
theorem m__law_orders (KX : K.In h) (G : h.Ns mainGlobals mg) (c : SaysV fa fn gs ex K) : mg "_law_orders" = some (.ref (He.ga K "_law_orders")) := He.glo_ok KX G (c.d.fact 11 rfl)
theorem m__law_keeps (KX : K.In h) (G : h.Ns mainGlobals mg) (c : SaysV fa fn gs ex K) : mg "_law_keeps" = some (.ref (He.ga K "_law_keeps")) := He.glo_ok KX G (c.d.fact 12 rfl)
theorem m__law_spread (KX : K.In h) (G : h.Ns mainGlobals mg) (c : SaysV fa fn gs ex K) : mg "_law_spread" = some (.ref (He.ga K "_law_spread")) := He.glo_ok KX G (c.d.fact 13 rfl)
theorem m__law_saying (KX : K.In h) (G : h.Ns mainGlobals mg) (c : SaysV fa fn gs ex K) : mg "_law_saying" = some (.ref (He.ga K "_law_saying")) := He.glo_ok KX G (c.d.fact 14 rfl)
theorem m__law_books (KX : K.In h) (G : h.Ns mainGlobals mg) (c : SaysV fa fn gs ex K) : mg "_law_books" = some (.ref (He.ga K "_law_books")) := He.glo_ok KX G (c.d.fact 15 rfl)
theorem m_law (KX : K.In h) (G : h.Ns mainGlobals mg) (c : SaysV fa fn gs ex K) : mg "law" = some (.ref (He.ga K "law")) := He.glo_ok KX G (c.d.fact 16 rfl)
theorem m_DaysError (KX : K.In h) (G : h.Ns mainGlobals mg) (c : SaysV fa fn gs ex K) : mg "DaysError" = some (.ref (He.ga K "DaysError")) := He.glo_ok KX G (c.d.fact 17 rfl)
theorem m_BadMarks (KX : K.In h) (G : h.Ns mainGlobals mg) (c : SaysV fa fn gs ex K) : mg "BadMarks" = some (.ref (He.ga K "BadMarks")) := He.glo_ok KX G (c.d.fact 18 rfl)
theorem m_NoMark (KX : K.In h) (G : h.Ns mainGlobals mg) (c : SaysV fa fn gs ex K) : mg "NoMark" = some (.ref (He.ga K "NoMark")) := He.glo_ok KX G (c.d.fact 19 rfl)
theorem m_NoDay (KX : K.In h) (G : h.Ns mainGlobals mg) (c : SaysV fa fn gs ex K) : mg "NoDay" = some (.ref (He.ga K "NoDay")) := He.glo_ok KX G (c.d.fact 20 rfl)
theorem m_BadSaying (KX : K.In h) (G : h.Ns mainGlobals mg) (c : SaysV fa fn gs ex K) : mg "BadSaying" = some (.ref (He.ga K "BadSaying")) := He.glo_ok KX G (c.d.fact 21 rfl)
theorem m_BadBook (KX : K.In h) (G : h.Ns mainGlobals mg) (c : SaysV fa fn gs ex K) : mg "BadBook" = some (.ref (He.ga K "BadBook")) := He.glo_ok KX G (c.d.fact 22 rfl)
theorem m_NoSaying (KX : K.In h) (G : h.Ns mainGlobals mg) (c : SaysV fa fn gs ex K) : mg "NoSaying" = some (.ref (He.ga K "NoSaying")) := He.glo_ok KX G (c.d.fact 23 rfl)
theorem m_BadLot (KX : K.In h) (G : h.Ns mainGlobals mg) (c : SaysV fa fn gs ex K) : mg "BadLot" = some (.ref (He.ga K "BadLot")) := He.glo_ok KX G (c.d.fact 24 rfl)
theorem m_OtherDays (KX : K.In h) (G : h.Ns mainGlobals mg) (c : SaysV fa fn gs ex K) : mg "OtherDays" = some (.ref (He.ga K "OtherDays")) := He.glo_ok KX G (c.d.fact 25 rfl)
theorem m_BadOrder (KX : K.In h) (G : h.Ns mainGlobals mg) (c : SaysV fa fn gs ex K) : mg "BadOrder" = some (.ref (He.ga K "BadOrder")) := He.glo_ok KX G (c.d.fact 26 rfl)
theorem m_Order (KX : K.In h) (G : h.Ns mainGlobals mg) (c : SaysV fa fn gs ex K) : mg "Order" = some (.ref (He.ga K "Order")) := He.glo_ok KX G (c.d.fact 27 rfl)
theorem m_Marks (KX : K.In h) (G : h.Ns mainGlobals mg) (c : SaysV fa fn gs ex K) : mg "Marks" = some (.ref (He.ga K "Marks")) := He.glo_ok KX G (c.d.fact 28 rfl)
theorem m_Saying (KX : K.In h) (G : h.Ns mainGlobals mg) (c : SaysV fa fn gs ex K) : mg "Saying" = some (.ref (He.ga K "Saying")) := He.glo_ok KX G (c.d.fact 29 rfl)
theorem m_Book (KX : K.In h) (G : h.Ns mainGlobals mg) (c : SaysV fa fn gs ex K) : mg "Book" = some (.ref (He.ga K "Book")) := He.glo_ok KX G (c.d.fact 30 rfl)
theorem m_tuple (KX : K.In h) (G : h.Ns mainGlobals mg) (c : SaysV fa fn gs ex K) : mg "tuple" = none := He.free_ok KX G (c.d.fact 31 rfl)
theorem m_isinstance (KX : K.In h) (G : h.Ns mainGlobals mg) (c : SaysV fa fn gs ex K) : mg "isinstance" = none := He.free_ok KX G (c.d.fact 32 rfl)
theorem m_int (KX : K.In h) (G : h.Ns mainGlobals mg) (c : SaysV fa fn gs ex K) : mg "int" = none := He.free_ok KX G (c.d.fact 33 rfl)
theorem m_bool (KX : K.In h) (G : h.Ns mainGlobals mg) (c : SaysV fa fn gs ex K) : mg "bool" = none := He.free_ok KX G (c.d.fact 34 rfl)
theorem m_list (KX : K.In h) (G : h.Ns mainGlobals mg) (c : SaysV fa fn gs ex K) : mg "list" = none := He.free_ok KX G (c.d.fact 35 rfl)
theorem m_len (KX : K.In h) (G : h.Ns mainGlobals mg) (c : SaysV fa fn gs ex K) : mg "len" = none := He.free_ok KX G (c.d.fact 36 rfl)
theorem m_enumerate (KX : K.In h) (G : h.Ns mainGlobals mg) (c : SaysV fa fn gs ex K) : mg "enumerate" = none := He.free_ok KX G (c.d.fact 37 rfl)
theorem m_min (KX : K.In h) (G : h.Ns mainGlobals mg) (c : SaysV fa fn gs ex K) : mg "min" = none := He.free_ok KX G (c.d.fact 38 rfl)
theorem m_iter (KX : K.In h) (G : h.Ns mainGlobals mg) (c : SaysV fa fn gs ex K) : mg "iter" = none := He.free_ok KX G (c.d.fact 39 rfl)
theorem m_zip (KX : K.In h) (G : h.Ns mainGlobals mg) (c : SaysV fa fn gs ex K) : mg "zip" = none := He.free_ok KX G (c.d.fact 40 rfl)
theorem m_sorted (KX : K.In h) (G : h.Ns mainGlobals mg) (c : SaysV fa fn gs ex K) : mg "sorted" = none := He.free_ok KX G (c.d.fact 41 rfl)
theorem m_set (KX : K.In h) (G : h.Ns mainGlobals mg) (c : SaysV fa fn gs ex K) : mg "set" = none := He.free_ok KX G (c.d.fact 42 rfl)
theorem m_all (KX : K.In h) (G : h.Ns mainGlobals mg) (c : SaysV fa fn gs ex K) : mg "all" = none := He.free_ok KX G (c.d.fact 43 rfl)
theorem m_str (KX : K.In h) (G : h.Ns mainGlobals mg) (c : SaysV fa fn gs ex K) : mg "str" = none := He.free_ok KX G (c.d.fact 44 rfl)
theorem m_abs (KX : K.In h) (G : h.Ns mainGlobals mg) (c : SaysV fa fn gs ex K) : mg "abs" = none := He.free_ok KX G (c.d.fact 45 rfl)
theorem m_range (KX : K.In h) (G : h.Ns mainGlobals mg) (c : SaysV fa fn gs ex K) : mg "range" = none := He.free_ok KX G (c.d.fact 46 rfl)
theorem m_max (KX : K.In h) (G : h.Ns mainGlobals mg) (c : SaysV fa fn gs ex K) : mg "max" = none := He.free_ok KX G (c.d.fact 47 rfl)
theorem m_COUNTS (KX : K.In h) (G : h.Ns mainGlobals mg) (c : SaysV fa fn gs ex K) : mg "COUNTS" = some (.ref (He.ga K "COUNTS")) := He.glo_ok KX G (c.d.fact 48 rfl)
theorem m_HIGHEST (KX : K.In h) (G : h.Ns mainGlobals mg) (c : SaysV fa fn gs ex K) : ∃ t, mg "HIGHEST" = some (.int 1000000000000000000000000000000 t) := He.int_ok KX G (c.d.fact 49 rfl)
theorem m_LONGEST_NAME (KX : K.In h) (G : h.Ns mainGlobals mg) (c : SaysV fa fn gs ex K) : ∃ t, mg "LONGEST_NAME" = some (.int 8 t) := He.int_ok KX G (c.d.fact 50 rfl)
theorem m_LETTERS (KX : K.In h) (G : h.Ns mainGlobals mg) (c : SaysV fa fn gs ex K) : ∃ t, mg "LETTERS" = some (.str "abcdefghijklmnopqrstuvwxyz" t) := He.str_ok KX G (c.d.fact 51 rfl)
theorem m_KEPT_WORDS (KX : K.In h) (G : h.Ns mainGlobals mg) (c : SaysV fa fn gs ex K) : mg "KEPT_WORDS" = some (.ref (He.ga K "KEPT_WORDS")) := He.glo_ok KX G (c.d.fact 52 rfl)
theorem m_MOST_MARKS (KX : K.In h) (G : h.Ns mainGlobals mg) (c : SaysV fa fn gs ex K) : ∃ t, mg "MOST_MARKS" = some (.int 4 t) := He.int_ok KX G (c.d.fact 53 rfl)
theorem m_ALL_BITS (KX : K.In h) (G : h.Ns mainGlobals mg) (c : SaysV fa fn gs ex K) : ∃ t, mg "ALL_BITS" = some (.int 65535 t) := He.int_ok KX G (c.d.fact 54 rfl)
theorem m_MOST_SAYINGS (KX : K.In h) (G : h.Ns mainGlobals mg) (c : SaysV fa fn gs ex K) : ∃ t, mg "MOST_SAYINGS" = some (.int 12 t) := He.int_ok KX G (c.d.fact 55 rfl)
theorem cl_Order (c : SaysV fa fn gs ex K) : Cls K (He.ga K "Order") := He.cls_ok (c.d.fact 56 rfl)
theorem na_Order_layers (c : SaysV fa fn gs ex K) : NoAttr K (He.ga K "Order") "layers" := He.noat_ok (c.d.fact 57 rfl)
theorem me_Order___iter__ (c : SaysV fa fn gs ex K) : Meth K (He.ga K "Order") "__iter__" (He.ma K (He.ga K "Order") "__iter__") := He.meth_ok (c.d.fact 58 rfl)
theorem me_Order___len__ (c : SaysV fa fn gs ex K) : Meth K (He.ga K "Order") "__len__" (He.ma K (He.ga K "Order") "__len__") := He.meth_ok (c.d.fact 59 rfl)
theorem me_Order___eq__ (c : SaysV fa fn gs ex K) : Meth K (He.ga K "Order") "__eq__" (He.ma K (He.ga K "Order") "__eq__") := He.meth_ok (c.d.fact 60 rfl)
theorem me_Order___and__ (c : SaysV fa fn gs ex K) : Meth K (He.ga K "Order") "__and__" (He.ma K (He.ga K "Order") "__and__") := He.meth_ok (c.d.fact 61 rfl)
theorem me_Order___call__ (c : SaysV fa fn gs ex K) : Meth K (He.ga K "Order") "__call__" (He.ma K (He.ga K "Order") "__call__") := He.meth_ok (c.d.fact 62 rfl)
theorem me_Order_least (c : SaysV fa fn gs ex K) : Meth K (He.ga K "Order") "least" (He.ma K (He.ga K "Order") "least") := He.meth_ok (c.d.fact 63 rfl)
theorem me_Order_closed (c : SaysV fa fn gs ex K) : Meth K (He.ga K "Order") "closed" (He.ma K (He.ga K "Order") "closed") := He.meth_ok (c.d.fact 64 rfl)
theorem me_Order_beneath (c : SaysV fa fn gs ex K) : Meth K (He.ga K "Order") "beneath" (He.ma K (He.ga K "Order") "beneath") := He.meth_ok (c.d.fact 65 rfl)
theorem me_Order_keeps (c : SaysV fa fn gs ex K) : Meth K (He.ga K "Order") "keeps" (He.ma K (He.ga K "Order") "keeps") := He.meth_ok (c.d.fact 66 rfl)
theorem me_Order_keeps_all (c : SaysV fa fn gs ex K) : Meth K (He.ga K "Order") "keeps_all" (He.ma K (He.ga K "Order") "keeps_all") := He.meth_ok (c.d.fact 67 rfl)
theorem mk_Order (c : SaysV fa fn gs ex K) : Mk K (He.ga K "Order") (He.ma K (He.ga K "Order") "__init__") := He.mkr_ok (c.d.fact 68 rfl)
theorem cl_Marks (c : SaysV fa fn gs ex K) : Cls K (He.ga K "Marks") := He.cls_ok (c.d.fact 69 rfl)
theorem na_Marks_names (c : SaysV fa fn gs ex K) : NoAttr K (He.ga K "Marks") "names" := He.noat_ok (c.d.fact 70 rfl)
theorem na_Marks_count (c : SaysV fa fn gs ex K) : NoAttr K (He.ga K "Marks") "count" := He.noat_ok (c.d.fact 71 rfl)
theorem na_Marks_days (c : SaysV fa fn gs ex K) : NoAttr K (He.ga K "Marks") "days" := He.noat_ok (c.d.fact 72 rfl)
theorem na_Marks_all_days (c : SaysV fa fn gs ex K) : NoAttr K (He.ga K "Marks") "all_days" := He.noat_ok (c.d.fact 73 rfl)
theorem mk_Marks (c : SaysV fa fn gs ex K) : Mk K (He.ga K "Marks") (He.ma K (He.ga K "Marks") "__init__") := He.mkr_ok (c.d.fact 74 rfl)
theorem cl_Saying (c : SaysV fa fn gs ex K) : Cls K (He.ga K "Saying") := He.cls_ok (c.d.fact 75 rfl)
theorem na_Saying_where (c : SaysV fa fn gs ex K) : NoAttr K (He.ga K "Saying") "where" := He.noat_ok (c.d.fact 76 rfl)
theorem na_Saying_then (c : SaysV fa fn gs ex K) : NoAttr K (He.ga K "Saying") "then" := He.noat_ok (c.d.fact 77 rfl)
theorem na_Saying_usual (c : SaysV fa fn gs ex K) : NoAttr K (He.ga K "Saying") "usual" := He.noat_ok (c.d.fact 78 rfl)
theorem na_Saying_confirm (c : SaysV fa fn gs ex K) : NoAttr K (He.ga K "Saying") "confirm" := He.noat_ok (c.d.fact 79 rfl)
theorem na_Saying_broken (c : SaysV fa fn gs ex K) : NoAttr K (He.ga K "Saying") "broken" := He.noat_ok (c.d.fact 80 rfl)
theorem na_Saying_low (c : SaysV fa fn gs ex K) : NoAttr K (He.ga K "Saying") "low" := He.noat_ok (c.d.fact 81 rfl)
theorem na_Saying_high (c : SaysV fa fn gs ex K) : NoAttr K (He.ga K "Saying") "high" := He.noat_ok (c.d.fact 82 rfl)
theorem na_Saying_step (c : SaysV fa fn gs ex K) : NoAttr K (He.ga K "Saying") "step" := He.noat_ok (c.d.fact 83 rfl)
theorem me_Saying_contrary (c : SaysV fa fn gs ex K) : Meth K (He.ga K "Saying") "contrary" (He.ma K (He.ga K "Saying") "contrary") := He.meth_ok (c.d.fact 84 rfl)
theorem mk_Saying (c : SaysV fa fn gs ex K) : Mk K (He.ga K "Saying") (He.ma K (He.ga K "Saying") "__init__") := He.mkr_ok (c.d.fact 85 rfl)
theorem cl_Book (c : SaysV fa fn gs ex K) : Cls K (He.ga K "Book") := He.cls_ok (c.d.fact 86 rfl)
theorem na_Book_marks (c : SaysV fa fn gs ex K) : NoAttr K (He.ga K "Book") "marks" := He.noat_ok (c.d.fact 87 rfl)
theorem na_Book_sayings (c : SaysV fa fn gs ex K) : NoAttr K (He.ga K "Book") "sayings" := He.noat_ok (c.d.fact 88 rfl)
theorem me_Book___iter__ (c : SaysV fa fn gs ex K) : Meth K (He.ga K "Book") "__iter__" (He.ma K (He.ga K "Book") "__iter__") := He.meth_ok (c.d.fact 89 rfl)
theorem mk_Book (c : SaysV fa fn gs ex K) : Mk K (He.ga K "Book") (He.ma K (He.ga K "Book") "__init__") := He.mkr_ok (c.d.fact 90 rfl)
theorem xd_DaysError (c : SaysV fa fn gs ex K) : ClX.CRead K (He.ga K "DaysError") (.type "type") ∧ PySem.W.findCls K (.ref (He.ga K "DaysError")) (.type "type") "__init__" = some (.val (.builtin "ValueError.__init__")) := xdB_ok (allB_ok c.more 0 rfl)
theorem xc_BadMarks (c : SaysV fa fn gs ex K) : XcF K (He.ga K "BadMarks") ["what", "index"] := xcB_ok (allB_ok c.more 1 rfl)
theorem xc_BadSaying (c : SaysV fa fn gs ex K) : XcF K (He.ga K "BadSaying") ["what"] := xcB_ok (allB_ok c.more 2 rfl)
theorem xc_BadBook (c : SaysV fa fn gs ex K) : XcF K (He.ga K "BadBook") ["what", "number"] := xcB_ok (allB_ok c.more 3 rfl)
theorem xc_OtherDays (c : SaysV fa fn gs ex K) : XcF K (He.ga K "OtherDays") [] := xcB_ok (allB_ok c.more 4 rfl)
theorem xc_BadOrder (c : SaysV fa fn gs ex K) : XcF K (He.ga K "BadOrder") ["what"] := xcB_ok (allB_ok c.more 5 rfl)
theorem it_int (KX : K.In h) (G : h.Ns mainGlobals mg) (c : SaysV fa fn gs ex K) : IsTab K (cA K) (fun t => PySem.W.kitOne K t (.type "int")) ty_int cn_int := isTab_ok (allB_ok c.more 6 rfl)
theorem ca_int (c : SaysV fa fn gs ex K) : ∀ (n : Nat) (b : Bool), cn_int.lookup n = some b → Cls K (cA K n) := fun n b e => match n, e with
  | 0, _ => cl_Order c
  | 1, _ => cl_Marks c
  | 2, _ => cl_Saying c
  | 3, _ => cl_Book c
  | _ + 4, e => absurd e (by simp [cn_int, List.lookup])
theorem it_bool (KX : K.In h) (G : h.Ns mainGlobals mg) (c : SaysV fa fn gs ex K) : IsTab K (cA K) (fun t => PySem.W.kitOne K t (.type "bool")) ty_bool cn_bool := isTab_ok (allB_ok c.more 7 rfl)
theorem ca_bool (c : SaysV fa fn gs ex K) : ∀ (n : Nat) (b : Bool), cn_bool.lookup n = some b → Cls K (cA K n) := fun n b e => match n, e with
  | 0, _ => cl_Order c
  | 1, _ => cl_Marks c
  | 2, _ => cl_Saying c
  | 3, _ => cl_Book c
  | _ + 4, e => absurd e (by simp [cn_bool, List.lookup])
theorem it_list_tuple (KX : K.In h) (G : h.Ns mainGlobals mg) (c : SaysV fa fn gs ex K) : IsTab K (cA K) (fun t => PySem.W.kitAny K t [.type "list", .type "tuple"]) ty_list_tuple cn_list_tuple := isTab_ok (allB_ok c.more 8 rfl)
theorem ca_list_tuple (c : SaysV fa fn gs ex K) : ∀ (n : Nat) (b : Bool), cn_list_tuple.lookup n = some b → Cls K (cA K n) := fun n b e => match n, e with
  | 0, _ => cl_Order c
  | 1, _ => cl_Marks c
  | 2, _ => cl_Saying c
  | 3, _ => cl_Book c
  | _ + 4, e => absurd e (by simp [cn_list_tuple, List.lookup])
theorem it_Order (KX : K.In h) (G : h.Ns mainGlobals mg) (c : SaysV fa fn gs ex K) : IsTab K (cA K) (fun t => PySem.W.kitOne K t (.ref (He.ga K "Order"))) ty_Order cn_Order := isTab_ok (allB_ok c.more 9 rfl)
theorem ca_Order (c : SaysV fa fn gs ex K) : ∀ (n : Nat) (b : Bool), cn_Order.lookup n = some b → Cls K (cA K n) := fun n b e => match n, e with
  | 0, _ => cl_Order c
  | 1, _ => cl_Marks c
  | 2, _ => cl_Saying c
  | 3, _ => cl_Book c
  | _ + 4, e => absurd e (by simp [cn_Order, List.lookup])
theorem it_str (KX : K.In h) (G : h.Ns mainGlobals mg) (c : SaysV fa fn gs ex K) : IsTab K (cA K) (fun t => PySem.W.kitOne K t (.type "str")) ty_str cn_str := isTab_ok (allB_ok c.more 10 rfl)
theorem ca_str (c : SaysV fa fn gs ex K) : ∀ (n : Nat) (b : Bool), cn_str.lookup n = some b → Cls K (cA K n) := fun n b e => match n, e with
  | 0, _ => cl_Order c
  | 1, _ => cl_Marks c
  | 2, _ => cl_Saying c
  | 3, _ => cl_Book c
  | _ + 4, e => absurd e (by simp [cn_str, List.lookup])
theorem it_Marks (KX : K.In h) (G : h.Ns mainGlobals mg) (c : SaysV fa fn gs ex K) : IsTab K (cA K) (fun t => PySem.W.kitOne K t (.ref (He.ga K "Marks"))) ty_Marks cn_Marks := isTab_ok (allB_ok c.more 11 rfl)
theorem ca_Marks (c : SaysV fa fn gs ex K) : ∀ (n : Nat) (b : Bool), cn_Marks.lookup n = some b → Cls K (cA K n) := fun n b e => match n, e with
  | 0, _ => cl_Order c
  | 1, _ => cl_Marks c
  | 2, _ => cl_Saying c
  | 3, _ => cl_Book c
  | _ + 4, e => absurd e (by simp [cn_Marks, List.lookup])
theorem it_Saying (KX : K.In h) (G : h.Ns mainGlobals mg) (c : SaysV fa fn gs ex K) : IsTab K (cA K) (fun t => PySem.W.kitOne K t (.ref (He.ga K "Saying"))) ty_Saying cn_Saying := isTab_ok (allB_ok c.more 12 rfl)
theorem ca_Saying (c : SaysV fa fn gs ex K) : ∀ (n : Nat) (b : Bool), cn_Saying.lookup n = some b → Cls K (cA K n) := fun n b e => match n, e with
  | 0, _ => cl_Order c
  | 1, _ => cl_Marks c
  | 2, _ => cl_Saying c
  | 3, _ => cl_Book c
  | _ + 4, e => absurd e (by simp [cn_Saying, List.lookup])
theorem sf_Order (c : SaysV fa fn gs ex K) : PySem.W.selfFirst K (He.ga K "Order") = true := allB_ok c.more 13 rfl
theorem eq_Order (KX : K.In h) (G : h.Ns mainGlobals mg) (c : SaysV fa fn gs ex K) : EqC (tab K) 0 tys cns := eqC_ok (T := tab K) (allB_ok c.more 14 rfl) fun d h => match d, List.mem_range.mp h with
  | 0, _ => cl_Order c
  | 1, _ => cl_Marks c
  | 2, _ => cl_Saying c
  | 3, _ => cl_Book c
  | _ + 4, h => absurd h (by omega)
theorem cm_Saying_of_days (c : SaysV fa fn gs ex K) : MetF "classmethod" K (He.ga K "Saying") "of_days" := metB_ok (allB_ok c.more 15 rfl)
theorem gk_Saying_of_days (c : SaysV fa fn gs ex K) : gd_Saying_of_days.okB K = true := allB_ok c.more 16 rfl
theorem fk_Order___call__ (c : SaysV fa fn gs ex K) : PySem.W.fnIn K (He.ma K (He.ga K "Order") "__call__") = true := allB_ok c.more 17 rfl
theorem t_COUNTS (c : SaysV fa fn gs ex K) : ∀ P, SqT K P (He.ga K "COUNTS") [(.int 2), (.int 4), (.int 8), (.int 16)] := fun P => He.tupB_ok (allB_ok c.more 18 rfl) P
theorem t_KEPT_WORDS (c : SaysV fa fn gs ex K) : ∀ P, SqT K P (He.ga K "KEPT_WORDS") [(.str "and"), (.str "any"), (.str "marks"), (.str "need"), (.str "never"), (.str "not"), (.str "or"), (.str "usually"), (.str "where")] := fun P => He.tupB_ok (allB_ok c.more 19 rfl) P
theorem okx_BadMarks (KX : K.In h) (G : h.Ns mainGlobals mg) (c : SaysV fa fn gs ex K) : ∃ fd, FnOk P w K mg base (L2.CX P w) 1 (He.ma K (He.ga K "BadMarks") "__init__") fd ["self", "what", "index"] (spX2 ((tab K).excA 1) "what" "index") ∧ Binds K fd ["self", "what", "index"] [] := by
  obtain ⟨fd, F⟩ := c.d.def_ 0 (d := dx_BadMarks) rfl
  have Z : XF K mg "DaysError" (He.ga K "DaysError") ((tab K).excA 1) := ⟨m_DaysError KX G c, (xd_DaysError c).1, (xd_DaysError c).2, (xc_BadMarks c).o⟩
  exact ⟨fd, xinit2 F scx_BadMarks rfl rfl (by first | exact Or.inl rfl | exact Or.inr rfl) (by first | exact Or.inl rfl | exact Or.inr rfl) rfl (by first | exact Or.inl rfl | exact Or.inr rfl) rfl (fun env => ⟨_, rfl⟩) Z ((xc_BadMarks c).n _ (by simp)) ((xc_BadMarks c).n _ (by simp)), F.bindsN fun _ _ _ _ _ _ us hl => match us, hl with | [_, _, _], _ => rfl⟩
theorem okx_BadSaying (KX : K.In h) (G : h.Ns mainGlobals mg) (c : SaysV fa fn gs ex K) : ∃ fd, FnOk P w K mg base (L2.CX P w) 1 (He.ma K (He.ga K "BadSaying") "__init__") fd ["self", "what"] (spX1 ((tab K).excA 4) "what") ∧ Binds K fd ["self", "what"] [] := by
  obtain ⟨fd, F⟩ := c.d.def_ 1 (d := dx_BadSaying) rfl
  have Z : XF K mg "DaysError" (He.ga K "DaysError") ((tab K).excA 4) := ⟨m_DaysError KX G c, (xd_DaysError c).1, (xd_DaysError c).2, (xc_BadSaying c).o⟩
  exact ⟨fd, xinit1 F scx_BadSaying rfl rfl (by first | exact Or.inl rfl | exact Or.inr rfl) (by first | exact Or.inl rfl | exact Or.inr rfl) rfl (fun env => ⟨_, rfl⟩) Z ((xc_BadSaying c).n _ (by simp)), F.bindsN fun _ _ _ _ _ _ us hl => match us, hl with | [_, _], _ => rfl⟩
theorem okx_BadBook (KX : K.In h) (G : h.Ns mainGlobals mg) (c : SaysV fa fn gs ex K) : ∃ fd, FnOk P w K mg base (L2.CX P w) 1 (He.ma K (He.ga K "BadBook") "__init__") fd ["self", "what", "number"] (spX2 ((tab K).excA 5) "what" "number") ∧ Binds K fd ["self", "what", "number"] [] := by
  obtain ⟨fd, F⟩ := c.d.def_ 2 (d := dx_BadBook) rfl
  have Z : XF K mg "DaysError" (He.ga K "DaysError") ((tab K).excA 5) := ⟨m_DaysError KX G c, (xd_DaysError c).1, (xd_DaysError c).2, (xc_BadBook c).o⟩
  exact ⟨fd, xinit2 F scx_BadBook rfl rfl (by first | exact Or.inl rfl | exact Or.inr rfl) (by first | exact Or.inl rfl | exact Or.inr rfl) rfl (by first | exact Or.inl rfl | exact Or.inr rfl) rfl (fun env => ⟨_, rfl⟩) Z ((xc_BadBook c).n _ (by simp)) ((xc_BadBook c).n _ (by simp)), F.bindsN fun _ _ _ _ _ _ us hl => match us, hl with | [_, _, _], _ => rfl⟩
theorem okx_OtherDays (KX : K.In h) (G : h.Ns mainGlobals mg) (c : SaysV fa fn gs ex K) : ∃ fd, FnOk P w K mg base (L2.CX P w) 1 (He.ma K (He.ga K "OtherDays") "__init__") fd ["self"] (spX0 ((tab K).excA 8)) ∧ Binds K fd ["self"] [] := by
  obtain ⟨fd, F⟩ := c.d.def_ 3 (d := dx_OtherDays) rfl
  have Z : XF K mg "DaysError" (He.ga K "DaysError") ((tab K).excA 8) := ⟨m_DaysError KX G c, (xd_DaysError c).1, (xd_DaysError c).2, (xc_OtherDays c).o⟩
  exact ⟨fd, xinit0 F scx_OtherDays rfl rfl (by first | exact Or.inl rfl | exact Or.inr rfl) (fun env => ⟨_, rfl⟩) Z, F.bindsN fun _ _ _ _ _ _ us hl => match us, hl with | [_], _ => rfl⟩
theorem okx_BadOrder (KX : K.In h) (G : h.Ns mainGlobals mg) (c : SaysV fa fn gs ex K) : ∃ fd, FnOk P w K mg base (L2.CX P w) 1 (He.ma K (He.ga K "BadOrder") "__init__") fd ["self", "what"] (spX1 ((tab K).excA 9) "what") ∧ Binds K fd ["self", "what"] [] := by
  obtain ⟨fd, F⟩ := c.d.def_ 4 (d := dx_BadOrder) rfl
  have Z : XF K mg "DaysError" (He.ga K "DaysError") ((tab K).excA 9) := ⟨m_DaysError KX G c, (xd_DaysError c).1, (xd_DaysError c).2, (xc_BadOrder c).o⟩
  exact ⟨fd, xinit1 F scx_BadOrder rfl rfl (by first | exact Or.inl rfl | exact Or.inr rfl) (by first | exact Or.inl rfl | exact Or.inr rfl) rfl (fun env => ⟨_, rfl⟩) Z ((xc_BadOrder c).n _ (by simp)), F.bindsN fun _ _ _ _ _ _ us hl => match us, hl with | [_, _], _ => rfl⟩
theorem ok_days_in (KX : K.In h) (G : h.Ns mainGlobals mg) (c : SaysV fa fn gs ex K) : ∃ fd, FnG P w K mg base (L2.CX P w) 1 (He.ga K "days_in") fd ["day_set"] (spF (tab K) (kdOf false) 1 F_days_in) ∧ PySem.W.keepIn K (.ref (He.ga K "days_in")) = true ∧ Binds K fd ["day_set"] [] := by
  obtain ⟨fd, F⟩ := c.d.def_ 5 (d := d_days_in) rfl
  refine ⟨fd, fn_ok F sc_days_in (by decide) rfl fun cdv A outer s H E hgd hr => ?_, F.kp, F.bindsN fun _ _ _ _ _ _ us hl => match us, hl with | [_], _ => rfl⟩
  have gd : (cxOf (L2.CX P w) P w K mg base N_days_in "days_in" (defScope s_days_in) (He.ga K "days_in") cdv A outer s H E).A.guards = some [] := deeper_guards.trans hgd
  have tk := L2.takes_of (X := cxOf (L2.CX P w) P w K mg base N_days_in "days_in" (defScope s_days_in) (He.ga K "days_in") cdv A outer s H E) rfl rfl rfl rfl
  have hp := L2.passes_of (X := cxOf (L2.CX P w) P w K mg base N_days_in "days_in" (defScope s_days_in) (He.ga K "days_in") cdv A outer s H E) rfl
  exact (dss_cons (ds_setO (i := 1) (de_lst da_nil pures_nil) sc_days_in.nd rfl (by first | exact Or.inl rfl | exact Or.inr rfl)) (dss_cons (ds_set (i := 2) de_int sc_days_in.nd rfl (by first | exact Or.inl rfl | exact Or.inr rfl)) (dss_cons (ds_while 40 hp (dt_tr rfl (de_op2 op_shr od_shr (de_var (pv 0)) (de_var (pv 2))) (by intro _; rfl)) (dss_cons (ds_if (dt_tr rfl (de_op2 op_and od_and (de_op2 op_shr od_shr (de_var (pv 0)) (de_var (pv 2))) de_int) (by intro _; rfl)) (dss_one (ds_expr (de_mt (i := 1) rfl PySem.F.plainAttrs_list PySem.F.slot_list_append PySem.F.type_list_append mt_append md_append (pv 1) (da_cons (de_var (pv 2)) da_nil) (pures_cons pures_nil)))) dss_nil) (dss_one (ds_aug (i := 2) sc_days_in.nd rfl (by first | exact Or.inl rfl | exact Or.inr rfl) de_int iop_add od_add)))) (dss_one (ds_ret (de_callTy call_tuple_of cd_tuple rfl (m_tuple KX G c) (by decide +kernel) (da_cons (de_ofrz (pv 1)) da_nil)))))))
theorem ok_is_whole (KX : K.In h) (G : h.Ns mainGlobals mg) (c : SaysV fa fn gs ex K) : ∃ fd, FnG P w K mg base (L2.CX P w) 1 (He.ga K "is_whole") fd ["thing", "low", "high"] (spF (tab K) (kdOf false) 3 F_is_whole) ∧ PySem.W.keepIn K (.ref (He.ga K "is_whole")) = true ∧ Binds K fd ["thing", "low", "high"] [] := by
  obtain ⟨fd, F⟩ := c.d.def_ 6 (d := d_is_whole) rfl
  refine ⟨fd, fn_ok F sc_is_whole (by decide) rfl fun cdv A outer s H E hgd hr => ?_, F.kp, F.bindsN fun _ _ _ _ _ _ us hl => match us, hl with | [_, _, _], _ => rfl⟩
  have gd : (cxOf (L2.CX P w) P w K mg base N_is_whole "is_whole" (defScope s_is_whole) (He.ga K "is_whole") cdv A outer s H E).A.guards = some [] := deeper_guards.trans hgd
  have tk := L2.takes_of (X := cxOf (L2.CX P w) P w K mg base N_is_whole "is_whole" (defScope s_is_whole) (He.ga K "is_whole") cdv A outer s H E) rfl rfl rfl rfl
  have hp := L2.passes_of (X := cxOf (L2.CX P w) P w K mg base N_is_whole "is_whole" (defScope s_is_whole) (He.ga K "is_whole") cdv A outer s H E) rfl
  exact (dss_one (ds_ret (de_and (de_isT rfl (it_int KX G c) (ca_int c) rfl (m_isinstance KX G c) (de_var (pv 0)) (pe_bltn (v := .ty "int") rfl (m_int KX G c) rfl rfl) (.ty _)) (de_and (de_notV (de_isT rfl (it_bool KX G c) (ca_bool c) rfl (m_isinstance KX G c) (de_var (pv 0)) (pe_bltn (v := .ty "bool") rfl (m_bool KX G c) rfl rfl) (.ty _))) (de_one (de_chain op_le cd_c2 op_le cd_c2 mono_rI0 mono_rI0 (de_var (pv 1)) (de_var (pv 0)) (de_var (pv 2))))))))
theorem ok_checked_layers (KX : K.In h) (G : h.Ns mainGlobals mg) (c : SaysV fa fn gs ex K) : ∃ fd, FnG P w K mg base (L2.CX P w) 3 (He.ga K "checked_layers") fd ["layers"] (spF (tab K) (kdOf false) 1 F_checked_layers) ∧ PySem.W.keepIn K (.ref (He.ga K "checked_layers")) = true ∧ Binds K fd ["layers"] [] := by
  obtain ⟨fd, F⟩ := c.d.def_ 7 (d := d_checked_layers) rfl
  obtain ⟨fd_is_whole, G_is_whole, K_is_whole, B_is_whole⟩ := ok_is_whole (P := P) (w := w) (base := base) KX G c
  obtain ⟨fdx_BadOrder, G_BadOrder, B_BadOrder⟩ := okx_BadOrder (P := P) (w := w) (base := base) KX G c
  have O_BadOrder := (xc_BadOrder c).o; have I_BadOrder := (xc_BadOrder c).i; have Ty_BadOrder := (xc_BadOrder c).t
  refine ⟨fd, fn_ok F sc_checked_layers (by decide) rfl fun cdv A outer s H E hgd hr => ?_, F.kp, F.bindsN fun _ _ _ _ _ _ us hl => match us, hl with | [_], _ => rfl⟩
  have gd : (cxOf (L2.CX P w) P w K mg base N_checked_layers "checked_layers" (defScope s_checked_layers) (He.ga K "checked_layers") cdv A outer s H E).A.guards = some [] := deeper_guards.trans hgd
  have tk := L2.takes_of (X := cxOf (L2.CX P w) P w K mg base N_checked_layers "checked_layers" (defScope s_checked_layers) (He.ga K "checked_layers") cdv A outer s H E) rfl rfl rfl rfl
  have hp := L2.passes_of (X := cxOf (L2.CX P w) P w K mg base N_checked_layers "checked_layers" (defScope s_checked_layers) (He.ga K "checked_layers") cdv A outer s H E) rfl
  exact (dss_cons (ds_if (dt_w (dw_or (dt_not (dt_tr rfl (de_isT2 rfl (it_list_tuple KX G c) (ca_list_tuple c) rfl (m_isinstance KX G c) (de_var (pv 0)) (pe_bltn (v := .ty "list") rfl (m_list KX G c) rfl rfl) (.ty _) (pe_bltn (v := .ty "tuple") rfl (m_tuple KX G c) rfl rfl) (.ty _)) (by intro _; rfl))) (dw_or1 (dt_cmp (op_notInA (hu65 hr)) cd_notInA (de_callB call_len cd_len rfl (m_len KX G c) boot_len (da_cons (de_var (pv 0)) da_nil)) (de_gtup rfl (m_COUNTS KX G c) (t_COUNTS c) (fun _ => (Reps.cons rep_int (Reps.cons rep_int (Reps.cons rep_int (Reps.cons rep_int Reps.nil)))))))))) (dss_one (ds_raise1 (c := 9) rfl tk O_BadOrder I_BadOrder Ty_BadOrder G_BadOrder (hr.mono (by decide)) B_BadOrder rfl (m_BadOrder KX G c) rfl de_str)) dss_nil) (dss_cons (ds_for hp rfl (di_seq rfl (de_var (pv 0))) (dg_name (i := 1) sc_checked_layers.nd rfl (by first | exact Or.inl rfl | exact Or.inr rfl)) (dss_one (ds_if (dt_not (dt_tr rfl (de_call G_is_whole (.inl rfl) gd (hr.mono (by decide)) rfl (m_is_whole KX G c) K_is_whole B_is_whole .nil (fun _ => Reps.nil) tk (ga_p (de_var (pv 1)) (ga_p de_int (ga_p (de_gint rfl (m_HIGHEST KX G c)) ga_nil)))) (by intro _; rfl))) (dss_one (ds_raise1 (c := 9) rfl tk O_BadOrder I_BadOrder Ty_BadOrder G_BadOrder (hr.mono (by decide)) B_BadOrder rfl (m_BadOrder KX G c) rfl de_str)) dss_nil))) (dss_one (ds_ret (de_callTy call_tuple_of cd_tuple rfl (m_tuple KX G c) (by decide +kernel) (da_cons (de_var (pv 0)) da_nil))))))
theorem ok_check_days (KX : K.In h) (G : h.Ns mainGlobals mg) (c : SaysV fa fn gs ex K) : ∃ fd, FnG P w K mg base (L2.CX P w) 3 (He.ga K "check_days") fd ["order", "days"] (spF (tab K) (kdOf false) 2 F_check_days) ∧ PySem.W.keepIn K (.ref (He.ga K "check_days")) = true ∧ Binds K fd ["order", "days"] [] := by
  obtain ⟨fd, F⟩ := c.d.def_ 8 (d := d_check_days) rfl
  obtain ⟨fdx_OtherDays, G_OtherDays, B_OtherDays⟩ := okx_OtherDays (P := P) (w := w) (base := base) KX G c
  have O_OtherDays := (xc_OtherDays c).o; have I_OtherDays := (xc_OtherDays c).i; have Ty_OtherDays := (xc_OtherDays c).t
  refine ⟨fd, fn_ok F sc_check_days (by decide) rfl fun cdv A outer s H E hgd hr => ?_, F.kp, F.bindsN fun _ _ _ _ _ _ us hl => match us, hl with | [_, _], _ => rfl⟩
  have gd : (cxOf (L2.CX P w) P w K mg base N_check_days "check_days" (defScope s_check_days) (He.ga K "check_days") cdv A outer s H E).A.guards = some [] := deeper_guards.trans hgd
  have tk := L2.takes_of (X := cxOf (L2.CX P w) P w K mg base N_check_days "check_days" (defScope s_check_days) (He.ga K "check_days") cdv A outer s H E) rfl rfl rfl rfl
  have hp := L2.passes_of (X := cxOf (L2.CX P w) P w K mg base N_check_days "check_days" (defScope s_check_days) (He.ga K "check_days") cdv A outer s H E) rfl
  exact (dss_one (ds_if (dt_cmp op_ne cd_neS (de_op2 op_shr od_shr (de_var (pv 1)) (de_callB call_len cd_len rfl (m_len KX G c) boot_len (da_cons (de_attr (c := 0) (j := 0) rfl (de_var (pv 0)) (cl_Order c) (na_Order_layers c) rfl fx_Order_layers) da_nil))) de_int) (dss_one (ds_raise0 (c := 8) rfl tk O_OtherDays I_OtherDays Ty_OtherDays G_OtherDays (hr.mono (by decide)) B_OtherDays rfl (m_OtherDays KX G c))) dss_nil))
theorem ok_check_same_days (KX : K.In h) (G : h.Ns mainGlobals mg) (c : SaysV fa fn gs ex K) : ∃ fd, FnG P w K mg base (L2.CX P w) 3 (He.ga K "check_same_days") fd ["order", "other"] (spF (tab K) (kdOf false) 2 F_check_same_days) ∧ PySem.W.keepIn K (.ref (He.ga K "check_same_days")) = true ∧ Binds K fd ["order", "other"] [] := by
  obtain ⟨fd, F⟩ := c.d.def_ 9 (d := d_check_same_days) rfl
  obtain ⟨fdx_OtherDays, G_OtherDays, B_OtherDays⟩ := okx_OtherDays (P := P) (w := w) (base := base) KX G c
  have O_OtherDays := (xc_OtherDays c).o; have I_OtherDays := (xc_OtherDays c).i; have Ty_OtherDays := (xc_OtherDays c).t
  refine ⟨fd, fn_ok F sc_check_same_days (by decide) rfl fun cdv A outer s H E hgd hr => ?_, F.kp, F.bindsN fun _ _ _ _ _ _ us hl => match us, hl with | [_, _], _ => rfl⟩
  have gd : (cxOf (L2.CX P w) P w K mg base N_check_same_days "check_same_days" (defScope s_check_same_days) (He.ga K "check_same_days") cdv A outer s H E).A.guards = some [] := deeper_guards.trans hgd
  have tk := L2.takes_of (X := cxOf (L2.CX P w) P w K mg base N_check_same_days "check_same_days" (defScope s_check_same_days) (He.ga K "check_same_days") cdv A outer s H E) rfl rfl rfl rfl
  have hp := L2.passes_of (X := cxOf (L2.CX P w) P w K mg base N_check_same_days "check_same_days" (defScope s_check_same_days) (He.ga K "check_same_days") cdv A outer s H E) rfl
  exact (dss_one (ds_if (dt_cmp op_ne cd_neS (de_callB call_len cd_len rfl (m_len KX G c) boot_len (da_cons (de_attr (c := 0) (j := 0) rfl (de_var (pv 0)) (cl_Order c) (na_Order_layers c) rfl fx_Order_layers) da_nil)) (de_callB call_len cd_len rfl (m_len KX G c) boot_len (da_cons (de_attr (c := 0) (j := 0) rfl (de_var (pv 1)) (cl_Order c) (na_Order_layers c) rfl fx_Order_layers) da_nil))) (dss_one (ds_raise0 (c := 8) rfl tk O_OtherDays I_OtherDays Ty_OtherDays G_OtherDays (hr.mono (by decide)) B_OtherDays rfl (m_OtherDays KX G c))) dss_nil))
theorem ok_Book_iter (KX : K.In h) (G : h.Ns mainGlobals mg) (c : SaysV fa fn gs ex K) : ∃ fd, FnS P w K mg base (L2.CX P w) 1 (He.ma K (He.ga K "Book") "__iter__") fd ["self"] (spIt K (He.ga K "Book") "sayings") ∧ Binds K fd ["self"] [] := by
  obtain ⟨fd, F⟩ := c.d.def_ 27 (d := d_Book_iter) rfl
  exact ⟨fd, its_ok F sc_Book_iter (cl_Book c) (na_Book_sayings c) fun cdv A outer s H E => pss_cons (ps_ret (pe_callB call_iterT rfl (m_iter KX G c) (by decide +kernel) (pa_cons (pe_fld (pv 0) rfl) pa_nil))) pss_nil, F.bindsN fun _ _ _ _ _ _ us hl => match us, hl with | [_], _ => rfl⟩
theorem ok_Order_least (KX : K.In h) (G : h.Ns mainGlobals mg) (c : SaysV fa fn gs ex K) : ∃ fd, FnG P w K mg base (L2.CX P w) 4 (He.ma K (He.ga K "Order") "least") fd ["self", "days"] (spF (tab K) (kdOf false) 2 F_Order_least) ∧ PySem.W.keepIn K (.ref (He.ma K (He.ga K "Order") "least")) = true ∧ Binds K fd ["self", "days"] [] := by
  obtain ⟨fd, F⟩ := c.d.def_ 17 (d := d_Order_least) rfl
  obtain ⟨fd_check_days, G_check_days, K_check_days, B_check_days⟩ := ok_check_days (P := P) (w := w) (base := base) KX G c
  obtain ⟨fd_days_in, G_days_in, K_days_in, B_days_in⟩ := ok_days_in (P := P) (w := w) (base := base) KX G c
  refine ⟨fd, fn_ok F sc_Order_least (by decide) rfl fun cdv A outer s H E hgd hr => ?_, F.kp, F.bindsN fun _ _ _ _ _ _ us hl => match us, hl with | [_, _], _ => rfl⟩
  have gd : (cxOf (L2.CX P w) P w K mg base N_Order_least "Order.least" (defScope s_Order_least) (He.ma K (He.ga K "Order") "least") cdv A outer s H E).A.guards = some [] := deeper_guards.trans hgd
  have tk := L2.takes_of (X := cxOf (L2.CX P w) P w K mg base N_Order_least "Order.least" (defScope s_Order_least) (He.ma K (He.ga K "Order") "least") cdv A outer s H E) rfl rfl rfl rfl
  have hp := L2.passes_of (X := cxOf (L2.CX P w) P w K mg base N_Order_least "Order.least" (defScope s_Order_least) (He.ma K (He.ga K "Order") "least") cdv A outer s H E) rfl
  exact (dss_cons (ds_expr (de_call G_check_days (.inl rfl) gd (hr.mono (by decide)) rfl (m_check_days KX G c) K_check_days B_check_days .nil (fun _ => Reps.nil) tk (ga_p (de_var (pv 0)) (ga_p (de_var (pv 1)) ga_nil)))) (dss_one (ds_ret (de_minD rfl rfl hr rfl (m_min KX G c) (de_lc (own := [("day", 2)]) rfl sc_Order_least.nd (di_tup rfl (de_call G_days_in (.inl rfl) gd (hr.mono (by decide)) rfl (m_days_in KX G c) K_days_in B_days_in .nil (fun _ => Reps.nil) tk (ga_p (de_var (pv 1)) ga_nil))) (blkOk_by (by first | rfl | decide +kernel)) (fun _ _ _ _ _ => (dg_name (i := 2) sc_Order_least.nd rfl (by first | exact Or.inl rfl | exact Or.inr rfl))) (fun _ _ _ _ _ => dts_nil) (fun _ _ _ _ _ => (de_ix rfl (de_attr (c := 0) (j := 0) rfl (de_var (pv 0)) (cl_Order c) (na_Order_layers c) rfl fx_Order_layers) (de_var (pv 2)) (fun _ _ => rfl))))))))
theorem ok_Order_keeps (KX : K.In h) (G : h.Ns mainGlobals mg) (c : SaysV fa fn gs ex K) : ∃ fd, FnG P w K mg base (L2.CX P w) 5 (He.ma K (He.ga K "Order") "keeps") fd ["self", "saying"] (spF (tab K) (kdOf false) 2 F_Order_keeps) ∧ PySem.W.keepIn K (.ref (He.ma K (He.ga K "Order") "keeps")) = true ∧ Binds K fd ["self", "saying"] [] := by
  obtain ⟨fd, F⟩ := c.d.def_ 20 (d := d_Order_keeps) rfl
  obtain ⟨fd_Order_least, G_Order_least, K_Order_least, B_Order_least⟩ := ok_Order_least (P := P) (w := w) (base := base) KX G c
  obtain ⟨fd_check_days, G_check_days, K_check_days, B_check_days⟩ := ok_check_days (P := P) (w := w) (base := base) KX G c
  refine ⟨fd, fn_ok F sc_Order_keeps (by decide) rfl fun cdv A outer s H E hgd hr => ?_, F.kp, F.bindsN fun _ _ _ _ _ _ us hl => match us, hl with | [_, _], _ => rfl⟩
  have gd : (cxOf (L2.CX P w) P w K mg base N_Order_keeps "Order.keeps" (defScope s_Order_keeps) (He.ma K (He.ga K "Order") "keeps") cdv A outer s H E).A.guards = some [] := deeper_guards.trans hgd
  have tk := L2.takes_of (X := cxOf (L2.CX P w) P w K mg base N_Order_keeps "Order.keeps" (defScope s_Order_keeps) (He.ma K (He.ga K "Order") "keeps") cdv A outer s H E) rfl rfl rfl rfl
  have hp := L2.passes_of (X := cxOf (L2.CX P w) P w K mg base N_Order_keeps "Order.keeps" (defScope s_Order_keeps) (He.ma K (He.ga K "Order") "keeps") cdv A outer s H E) rfl
  exact (dss_cons (ds_expr (de_call G_check_days (.inl rfl) gd (hr.mono (by decide)) rfl (m_check_days KX G c) K_check_days B_check_days .nil (fun _ => Reps.nil) tk (ga_p (de_var (pv 0)) (ga_p (de_op2 op_or od_or (de_attr (c := 2) (j := 0) rfl (de_var (pv 1)) (cl_Saying c) (na_Saying_where c) rfl fx_Saying_where) (de_attr (c := 2) (j := 1) rfl (de_var (pv 1)) (cl_Saying c) (na_Saying_then c) rfl fx_Saying_then)) ga_nil)))) (dss_cons (ds_par (i := 2) (j := 3) rfl sc_Order_keeps.nd rfl rfl (by decide) rfl rfl (de_meth (.inl rfl) (de_var (pv 0)) (cl_Order c) (me_Order_least c) fm_Order_least G_Order_least gd (hr.mono (by decide)) B_Order_least .nil (fun _ => Reps.nil) tk (ga_p (de_attr (c := 2) (j := 5) rfl (de_var (pv 1)) (cl_Saying c) (na_Saying_low c) rfl fx_Saying_low) ga_nil)) (de_meth (.inl rfl) (de_var (pv 0)) (cl_Order c) (me_Order_least c) fm_Order_least G_Order_least gd (hr.mono (by decide)) B_Order_least .nil (fun _ => Reps.nil) tk (ga_p (de_attr (c := 2) (j := 6) rfl (de_var (pv 1)) (cl_Saying c) (na_Saying_high c) rfl fx_Saying_high) ga_nil))) (dss_cons (ds_if (dt_cmp op_isN cd_isN (de_var (pv 3)) de_non) (dss_one (ds_ret de_bl)) dss_nil) (dss_one (ds_ret (de_and (de_cmp op_notN cd_notN (de_var (pv 2)) de_non) (de_one (de_cmp op_ge cd_c2 (de_var (pv 3)) (de_op2 op_add od_add (de_var (pv 2)) (de_attr (c := 2) (j := 7) rfl (de_var (pv 1)) (cl_Saying c) (na_Saying_step c) rfl fx_Saying_step))))))))))
theorem ok_first_not_kept (KX : K.In h) (G : h.Ns mainGlobals mg) (c : SaysV fa fn gs ex K) : ∃ fd, FnG P w K mg base (L2.CX P w) 6 (He.ga K "first_not_kept") fd ["order", "sayings"] (spF (tab K) (kdOf false) 2 F_first_not_kept) ∧ PySem.W.keepIn K (.ref (He.ga K "first_not_kept")) = true ∧ Binds K fd ["order", "sayings"] [] := by
  obtain ⟨fd, F⟩ := c.d.def_ 10 (d := d_first_not_kept) rfl
  obtain ⟨fd_Book_iter, S_Book_iter, B_Book_iter⟩ := ok_Book_iter (P := P) (w := w) (base := base) KX G c
  obtain ⟨fd_Order_keeps, G_Order_keeps, K_Order_keeps, B_Order_keeps⟩ := ok_Order_keeps (P := P) (w := w) (base := base) KX G c
  obtain ⟨fd_check_days, G_check_days, K_check_days, B_check_days⟩ := ok_check_days (P := P) (w := w) (base := base) KX G c
  refine ⟨fd, fn_ok F sc_first_not_kept (by decide) rfl fun cdv A outer s H E hgd hr => ?_, F.kp, F.bindsN fun _ _ _ _ _ _ us hl => match us, hl with | [_, _], _ => rfl⟩
  have gd : (cxOf (L2.CX P w) P w K mg base N_first_not_kept "first_not_kept" (defScope s_first_not_kept) (He.ga K "first_not_kept") cdv A outer s H E).A.guards = some [] := deeper_guards.trans hgd
  have tk := L2.takes_of (X := cxOf (L2.CX P w) P w K mg base N_first_not_kept "first_not_kept" (defScope s_first_not_kept) (He.ga K "first_not_kept") cdv A outer s H E) rfl rfl rfl rfl
  have hp := L2.passes_of (X := cxOf (L2.CX P w) P w K mg base N_first_not_kept "first_not_kept" (defScope s_first_not_kept) (He.ga K "first_not_kept") cdv A outer s H E) rfl
  exact (dss_cons (ds_for hp rfl (di_pick (di_ownIt (c := 3) (j := 1) rfl rfl fx_Book_sayings (me_Book___iter__ c) S_Book_iter gd (hr.mono (by decide)) B_Book_iter (de_var (pv 1))) (di_seq rfl (de_var (pv 1)))) (dg_name (i := 2) sc_first_not_kept.nd rfl (by first | exact Or.inl rfl | exact Or.inr rfl)) (dss_one (ds_expr (de_call G_check_days (.inl rfl) gd (hr.mono (by decide)) rfl (m_check_days KX G c) K_check_days B_check_days .nil (fun _ => Reps.nil) tk (ga_p (de_var (pv 0)) (ga_p (de_op2 op_or od_or (de_attr (c := 2) (j := 0) rfl (de_var (pv 2)) (cl_Saying c) (na_Saying_where c) rfl fx_Saying_where) (de_attr (c := 2) (j := 1) rfl (de_var (pv 2)) (cl_Saying c) (na_Saying_then c) rfl fx_Saying_then)) ga_nil)))))) (dss_cons (ds_for hp rfl (di_pick (di_enumO (c := 3) (j := 1) rfl rfl fx_Book_sayings (me_Book___iter__ c) S_Book_iter gd (hr.mono (by decide)) B_Book_iter rfl (m_enumerate KX G c) (de_var (pv 1))) (di_enumA rfl rfl (m_enumerate KX G c) (de_var (pv 1)))) (dg_tup rfl rfl (dgs_cons (dg_name (i := 3) sc_first_not_kept.nd rfl (by first | exact Or.inl rfl | exact Or.inr rfl)) (dgs_cons (dg_name (i := 2) sc_first_not_kept.nd rfl (by first | exact Or.inl rfl | exact Or.inr rfl)) dgs_nil))) (dss_one (ds_if (dt_not (dt_tr rfl (de_meth (.inl rfl) (de_var (pv 0)) (cl_Order c) (me_Order_keeps c) fm_Order_keeps G_Order_keeps gd (hr.mono (by decide)) B_Order_keeps .nil (fun _ => Reps.nil) tk (ga_p (de_var (pv 2)) ga_nil)) (by intro _; rfl))) (dss_one (ds_ret (de_var (pv 3)))) dss_nil))) (dss_one (ds_ret de_non))))
theorem ok_Order_init (KX : K.In h) (G : h.Ns mainGlobals mg) (c : SaysV fa fn gs ex K) : ∃ fd, FnG P w K mg base (L2.CX P w) 4 (He.ma K (He.ga K "Order") "__init__") fd ["self", "layers"] (spF (tab K) (kdOf false) 2 F_Order_init) ∧ PySem.W.keepIn K (.ref (He.ma K (He.ga K "Order") "__init__")) = true ∧ Binds K fd ["self", "layers"] [] := by
  obtain ⟨fd, F⟩ := c.d.def_ 11 (d := d_Order_init) rfl
  obtain ⟨fd_checked_layers, G_checked_layers, K_checked_layers, B_checked_layers⟩ := ok_checked_layers (P := P) (w := w) (base := base) KX G c
  obtain ⟨fdx_BadOrder, G_BadOrder, B_BadOrder⟩ := okx_BadOrder (P := P) (w := w) (base := base) KX G c
  have O_BadOrder := (xc_BadOrder c).o; have I_BadOrder := (xc_BadOrder c).i; have Ty_BadOrder := (xc_BadOrder c).t
  refine ⟨fd, fn_ok F sc_Order_init (by decide) rfl fun cdv A outer s H E hgd hr => ?_, F.kp, F.bindsN fun _ _ _ _ _ _ us hl => match us, hl with | [_, _], _ => rfl⟩
  have gd : (cxOf (L2.CX P w) P w K mg base N_Order_init "Order.__init__" (defScope s_Order_init) (He.ma K (He.ga K "Order") "__init__") cdv A outer s H E).A.guards = some [] := deeper_guards.trans hgd
  have tk := L2.takes_of (X := cxOf (L2.CX P w) P w K mg base N_Order_init "Order.__init__" (defScope s_Order_init) (He.ma K (He.ga K "Order") "__init__") cdv A outer s H E) rfl rfl rfl rfl
  have hp := L2.passes_of (X := cxOf (L2.CX P w) P w K mg base N_Order_init "Order.__init__" (defScope s_Order_init) (He.ma K (He.ga K "Order") "__init__") cdv A outer s H E) rfl
  exact (dss_cons (ds_stf (c := 0) (j := 0) rfl (pv 0) (de_call G_checked_layers (.inl rfl) gd (hr.mono (by decide)) rfl (m_checked_layers KX G c) K_checked_layers B_checked_layers .nil (fun _ => Reps.nil) tk (ga_p (de_var (pv 1)) ga_nil)) (cl_Order c) (na_Order_layers c) rfl fx_Order_layers) (dss_one (ds_if (dt_cmp op_gt cd_c2 (de_callB (cr_minT rfl) cd_minA rfl (m_min KX G c) (by decide +kernel) (da_cons (de_nat (c := 0) (j := 0) rfl (pv 0) (cl_Order c) (na_Order_layers c) rfl fx_Order_layers) da_nil)) de_int) (dss_one (ds_raise1 (c := 9) rfl tk O_BadOrder I_BadOrder Ty_BadOrder G_BadOrder (hr.mono (by decide)) B_BadOrder rfl (m_BadOrder KX G c) rfl de_str)) dss_nil)))
theorem ok_Order_iter (KX : K.In h) (G : h.Ns mainGlobals mg) (c : SaysV fa fn gs ex K) : ∃ fd, FnS P w K mg base (L2.CX P w) 1 (He.ma K (He.ga K "Order") "__iter__") fd ["self"] (spIt K (He.ga K "Order") "layers") ∧ Binds K fd ["self"] [] := by
  obtain ⟨fd, F⟩ := c.d.def_ 12 (d := d_Order_iter) rfl
  exact ⟨fd, its_ok F sc_Order_iter (cl_Order c) (na_Order_layers c) fun cdv A outer s H E => pss_cons (ps_ret (pe_callB call_iterT rfl (m_iter KX G c) (by decide +kernel) (pa_cons (pe_fld (pv 0) rfl) pa_nil))) pss_nil, F.bindsN fun _ _ _ _ _ _ us hl => match us, hl with | [_], _ => rfl⟩
theorem ok_Order_len (KX : K.In h) (G : h.Ns mainGlobals mg) (c : SaysV fa fn gs ex K) : ∃ fd, FnG P w K mg base (L2.CX P w) 1 (He.ma K (He.ga K "Order") "__len__") fd ["self"] (spF (tab K) (kdOf false) 1 F_Order_len) ∧ PySem.W.keepIn K (.ref (He.ma K (He.ga K "Order") "__len__")) = true ∧ Binds K fd ["self"] [] := by
  obtain ⟨fd, F⟩ := c.d.def_ 13 (d := d_Order_len) rfl
  refine ⟨fd, fn_ok F sc_Order_len (by decide) rfl fun cdv A outer s H E hgd hr => ?_, F.kp, F.bindsN fun _ _ _ _ _ _ us hl => match us, hl with | [_], _ => rfl⟩
  have gd : (cxOf (L2.CX P w) P w K mg base N_Order_len "Order.__len__" (defScope s_Order_len) (He.ma K (He.ga K "Order") "__len__") cdv A outer s H E).A.guards = some [] := deeper_guards.trans hgd
  have tk := L2.takes_of (X := cxOf (L2.CX P w) P w K mg base N_Order_len "Order.__len__" (defScope s_Order_len) (He.ma K (He.ga K "Order") "__len__") cdv A outer s H E) rfl rfl rfl rfl
  have hp := L2.passes_of (X := cxOf (L2.CX P w) P w K mg base N_Order_len "Order.__len__" (defScope s_Order_len) (He.ma K (He.ga K "Order") "__len__") cdv A outer s H E) rfl
  exact (dss_one (ds_ret (de_callB call_len cd_len rfl (m_len KX G c) boot_len (da_cons (de_attr (c := 0) (j := 0) rfl (de_var (pv 0)) (cl_Order c) (na_Order_layers c) rfl fx_Order_layers) da_nil))))
theorem ok_Order_eq (KX : K.In h) (G : h.Ns mainGlobals mg) (c : SaysV fa fn gs ex K) : ∃ fd, FnG P w K mg base (L2.CX P w) 1 (He.ma K (He.ga K "Order") "__eq__") fd ["self", "other"] (spF (tab K) (kdOf false) 2 F_Order_eq) ∧ PySem.W.keepIn K (.ref (He.ma K (He.ga K "Order") "__eq__")) = true ∧ Binds K fd ["self", "other"] [] := by
  obtain ⟨fd, F⟩ := c.d.def_ 14 (d := d_Order_eq) rfl
  refine ⟨fd, fn_ok F sc_Order_eq (by decide) rfl fun cdv A outer s H E hgd hr => ?_, F.kp, F.bindsN fun _ _ _ _ _ _ us hl => match us, hl with | [_, _], _ => rfl⟩
  have gd : (cxOf (L2.CX P w) P w K mg base N_Order_eq "Order.__eq__" (defScope s_Order_eq) (He.ma K (He.ga K "Order") "__eq__") cdv A outer s H E).A.guards = some [] := deeper_guards.trans hgd
  have tk := L2.takes_of (X := cxOf (L2.CX P w) P w K mg base N_Order_eq "Order.__eq__" (defScope s_Order_eq) (He.ma K (He.ga K "Order") "__eq__") cdv A outer s H E) rfl rfl rfl rfl
  have hp := L2.passes_of (X := cxOf (L2.CX P w) P w K mg base N_Order_eq "Order.__eq__" (defScope s_Order_eq) (He.ma K (He.ga K "Order") "__eq__") cdv A outer s H E) rfl
  exact (dss_one (ds_ret (de_and (de_isT rfl (it_Order KX G c) (ca_Order c) rfl (m_isinstance KX G c) (de_var (pv 1)) (pe_glob (v := .ref (He.ga K "Order")) rfl (m_Order KX G c) rfl) (.own _)) (de_one (de_cmp (op_eqD hr.units) cd_eqD (de_attr (c := 0) (j := 0) rfl (de_var (pv 0)) (cl_Order c) (na_Order_layers c) rfl fx_Order_layers) (de_attr (c := 0) (j := 0) rfl (de_var (pv 1)) (cl_Order c) (na_Order_layers c) rfl fx_Order_layers))))))
theorem ok_Order_and (KX : K.In h) (G : h.Ns mainGlobals mg) (c : SaysV fa fn gs ex K) : ∃ fd, FnG P w K mg base (L2.CX P w) 6 (He.ma K (He.ga K "Order") "__and__") fd ["self", "other"] (spF (tab K) (kdOf false) 2 F_Order_and) ∧ PySem.W.keepIn K (.ref (He.ma K (He.ga K "Order") "__and__")) = true ∧ Binds K fd ["self", "other"] [] := by
  obtain ⟨fd, F⟩ := c.d.def_ 15 (d := d_Order_and) rfl
  obtain ⟨fd_Order_init, G_Order_init, K_Order_init, B_Order_init⟩ := ok_Order_init (P := P) (w := w) (base := base) KX G c
  obtain ⟨fd_check_same_days, G_check_same_days, K_check_same_days, B_check_same_days⟩ := ok_check_same_days (P := P) (w := w) (base := base) KX G c
  refine ⟨fd, fn_ok F sc_Order_and (by decide) rfl fun cdv A outer s H E hgd hr => ?_, F.kp, F.bindsN fun _ _ _ _ _ _ us hl => match us, hl with | [_, _], _ => rfl⟩
  have gd : (cxOf (L2.CX P w) P w K mg base N_Order_and "Order.__and__" (defScope s_Order_and) (He.ma K (He.ga K "Order") "__and__") cdv A outer s H E).A.guards = some [] := deeper_guards.trans hgd
  have tk := L2.takes_of (X := cxOf (L2.CX P w) P w K mg base N_Order_and "Order.__and__" (defScope s_Order_and) (He.ma K (He.ga K "Order") "__and__") cdv A outer s H E) rfl rfl rfl rfl
  have hp := L2.passes_of (X := cxOf (L2.CX P w) P w K mg base N_Order_and "Order.__and__" (defScope s_Order_and) (He.ma K (He.ga K "Order") "__and__") cdv A outer s H E) rfl
  exact (dss_cons (ds_expr (de_call G_check_same_days (.inl rfl) gd (hr.mono (by decide)) rfl (m_check_same_days KX G c) K_check_same_days B_check_same_days .nil (fun _ => Reps.nil) tk (ga_p (de_var (pv 0)) (ga_p (de_var (pv 1)) ga_nil)))) (dss_one (ds_ret (de_make (T := tab K) (c := 0) (mk_Order c) G_Order_init gd (hr.mono (by decide)) rfl (m_Order KX G c) B_Order_init .nil (fun _ => Reps.nil) tk (ga_p (de_frz (de_lc (own := [("one", 2), ("two", 3)]) rfl sc_Order_and.nd (di_zip rfl rfl (m_zip KX G c) (de_attr (c := 0) (j := 0) rfl (de_var (pv 0)) (cl_Order c) (na_Order_layers c) rfl fx_Order_layers) (de_attr (c := 0) (j := 0) rfl (de_var (pv 1)) (cl_Order c) (na_Order_layers c) rfl fx_Order_layers)) (blkOk_by (by first | rfl | decide +kernel)) (fun _ _ _ _ _ => (dg_tup rfl rfl (dgs_cons (dg_name (i := 2) sc_Order_and.nd rfl (by first | exact Or.inl rfl | exact Or.inr rfl)) (dgs_cons (dg_name (i := 3) sc_Order_and.nd rfl (by first | exact Or.inl rfl | exact Or.inr rfl)) dgs_nil)))) (fun _ _ _ _ _ => dts_nil) (fun _ _ _ _ _ => (de_callB (call_min2 rfl) cd_ii rfl (m_min KX G c) (by decide +kernel) (da_cons (de_var (pv 2)) (da_cons (de_var (pv 3)) da_nil)))))) ga_nil)))))
theorem ok_Order_call (KX : K.In h) (G : h.Ns mainGlobals mg) (c : SaysV fa fn gs ex K) : ∃ fd, FnG P w K mg base (L2.CX P w) 7 (He.ma K (He.ga K "Order") "__call__") fd ["self", "sayings"] (spF (tab K) (kdOf false) 2 F_Order_call) ∧ PySem.W.keepIn K (.ref (He.ma K (He.ga K "Order") "__call__")) = true ∧ Binds K fd ["self", "sayings"] [] := by
  obtain ⟨fd, F⟩ := c.d.def_ 16 (d := d_Order_call) rfl
  obtain ⟨fd_first_not_kept, G_first_not_kept, K_first_not_kept, B_first_not_kept⟩ := ok_first_not_kept (P := P) (w := w) (base := base) KX G c
  refine ⟨fd, fn_ok F sc_Order_call (by decide) rfl fun cdv A outer s H E hgd hr => ?_, F.kp, F.bindsN fun _ _ _ _ _ _ us hl => match us, hl with | [_, _], _ => rfl⟩
  have gd : (cxOf (L2.CX P w) P w K mg base N_Order_call "Order.__call__" (defScope s_Order_call) (He.ma K (He.ga K "Order") "__call__") cdv A outer s H E).A.guards = some [] := deeper_guards.trans hgd
  have tk := L2.takes_of (X := cxOf (L2.CX P w) P w K mg base N_Order_call "Order.__call__" (defScope s_Order_call) (He.ma K (He.ga K "Order") "__call__") cdv A outer s H E) rfl rfl rfl rfl
  have hp := L2.passes_of (X := cxOf (L2.CX P w) P w K mg base N_Order_call "Order.__call__" (defScope s_Order_call) (He.ma K (He.ga K "Order") "__call__") cdv A outer s H E) rfl
  exact (dss_one (ds_ret (de_call G_first_not_kept (.inl rfl) gd (hr.mono (by decide)) rfl (m_first_not_kept KX G c) K_first_not_kept B_first_not_kept .nil (fun _ => Reps.nil) tk (ga_p (de_var (pv 0)) (ga_p (de_var (pv 1)) ga_nil)))))
theorem ok_Order_closed (KX : K.In h) (G : h.Ns mainGlobals mg) (c : SaysV fa fn gs ex K) : ∃ fd, FnG P w K mg base (L2.CX P w) 6 (He.ma K (He.ga K "Order") "closed") fd ["self"] (spF (tab K) (kdOf false) 1 F_Order_closed) ∧ PySem.W.keepIn K (.ref (He.ma K (He.ga K "Order") "closed")) = true ∧ Binds K fd ["self"] [] := by
  obtain ⟨fd, F⟩ := c.d.def_ 18 (d := d_Order_closed) rfl
  obtain ⟨fd_Order_init, G_Order_init, K_Order_init, B_Order_init⟩ := ok_Order_init (P := P) (w := w) (base := base) KX G c
  refine ⟨fd, fn_ok F sc_Order_closed (by decide) rfl fun cdv A outer s H E hgd hr => ?_, F.kp, F.bindsN fun _ _ _ _ _ _ us hl => match us, hl with | [_], _ => rfl⟩
  have gd : (cxOf (L2.CX P w) P w K mg base N_Order_closed "Order.closed" (defScope s_Order_closed) (He.ma K (He.ga K "Order") "closed") cdv A outer s H E).A.guards = some [] := deeper_guards.trans hgd
  have tk := L2.takes_of (X := cxOf (L2.CX P w) P w K mg base N_Order_closed "Order.closed" (defScope s_Order_closed) (He.ma K (He.ga K "Order") "closed") cdv A outer s H E) rfl rfl rfl rfl
  have hp := L2.passes_of (X := cxOf (L2.CX P w) P w K mg base N_Order_closed "Order.closed" (defScope s_Order_closed) (He.ma K (He.ga K "Order") "closed") cdv A outer s H E) rfl
  exact (dss_cons (ds_set (i := 1) (de_frz (de_sortSet rfl rfl rfl (m_sorted KX G c) rfl (m_set KX G c) (de_attr (c := 0) (j := 0) rfl (de_var (pv 0)) (cl_Order c) (na_Order_layers c) rfl fx_Order_layers))) sc_Order_closed.nd rfl (by first | exact Or.inl rfl | exact Or.inr rfl)) (dss_one (ds_ret (de_make (T := tab K) (c := 0) (mk_Order c) G_Order_init gd (hr.mono (by decide)) rfl (m_Order KX G c) B_Order_init .nil (fun _ => Reps.nil) tk (ga_p (de_frz (de_lc (own := [("layer", 2)]) rfl sc_Order_closed.nd (di_tup rfl (de_attr (c := 0) (j := 0) rfl (de_var (pv 0)) (cl_Order c) (na_Order_layers c) rfl fx_Order_layers)) (blkOk_by (by first | rfl | decide +kernel)) (fun _ _ _ _ _ => (dg_name (i := 2) sc_Order_closed.nd rfl (by first | exact Or.inl rfl | exact Or.inr rfl))) (fun _ _ _ _ _ => dts_nil) (fun _ _ _ _ _ => (de_idxL rfl (de_var (pv 1)) (de_var (pv 2)))))) ga_nil)))))
theorem ok_Order_beneath (KX : K.In h) (G : h.Ns mainGlobals mg) (c : SaysV fa fn gs ex K) : ∃ fd, FnG P w K mg base (L2.CX P w) 4 (He.ma K (He.ga K "Order") "beneath") fd ["self", "other"] (spF (tab K) (kdOf false) 2 F_Order_beneath) ∧ PySem.W.keepIn K (.ref (He.ma K (He.ga K "Order") "beneath")) = true ∧ Binds K fd ["self", "other"] [] := by
  obtain ⟨fd, F⟩ := c.d.def_ 19 (d := d_Order_beneath) rfl
  obtain ⟨fd_check_same_days, G_check_same_days, K_check_same_days, B_check_same_days⟩ := ok_check_same_days (P := P) (w := w) (base := base) KX G c
  refine ⟨fd, fn_ok F sc_Order_beneath (by decide) rfl fun cdv A outer s H E hgd hr => ?_, F.kp, F.bindsN fun _ _ _ _ _ _ us hl => match us, hl with | [_, _], _ => rfl⟩
  have gd : (cxOf (L2.CX P w) P w K mg base N_Order_beneath "Order.beneath" (defScope s_Order_beneath) (He.ma K (He.ga K "Order") "beneath") cdv A outer s H E).A.guards = some [] := deeper_guards.trans hgd
  have tk := L2.takes_of (X := cxOf (L2.CX P w) P w K mg base N_Order_beneath "Order.beneath" (defScope s_Order_beneath) (He.ma K (He.ga K "Order") "beneath") cdv A outer s H E) rfl rfl rfl rfl
  have hp := L2.passes_of (X := cxOf (L2.CX P w) P w K mg base N_Order_beneath "Order.beneath" (defScope s_Order_beneath) (He.ma K (He.ga K "Order") "beneath") cdv A outer s H E) rfl
  exact (dss_cons (ds_expr (de_call G_check_same_days (.inl rfl) gd (hr.mono (by decide)) rfl (m_check_same_days KX G c) K_check_same_days B_check_same_days .nil (fun _ => Reps.nil) tk (ga_p (de_var (pv 0)) (ga_p (de_var (pv 1)) ga_nil)))) (dss_one (ds_ret (de_callB (cr_all rfl) cd_all rfl (m_all KX G c) (by decide +kernel) (da_cons (de_lc (own := [("one", 2), ("two", 3)]) rfl sc_Order_beneath.nd (di_zip rfl rfl (m_zip KX G c) (de_attr (c := 0) (j := 0) rfl (de_var (pv 0)) (cl_Order c) (na_Order_layers c) rfl fx_Order_layers) (de_attr (c := 0) (j := 0) rfl (de_var (pv 1)) (cl_Order c) (na_Order_layers c) rfl fx_Order_layers)) (blkOk_by (by first | rfl | decide +kernel)) (fun _ _ _ _ _ => (dg_tup rfl rfl (dgs_cons (dg_name (i := 2) sc_Order_beneath.nd rfl (by first | exact Or.inl rfl | exact Or.inr rfl)) (dgs_cons (dg_name (i := 3) sc_Order_beneath.nd rfl (by first | exact Or.inl rfl | exact Or.inr rfl)) dgs_nil)))) (fun _ _ _ _ _ => dts_nil) (fun _ _ _ _ _ => (de_cmp op_le cd_c2 (de_var (pv 2)) (de_var (pv 3))))) da_nil)))))
theorem ok_Order_keeps_all (KX : K.In h) (G : h.Ns mainGlobals mg) (c : SaysV fa fn gs ex K) : ∃ fd, FnG P w K mg base (L2.CX P w) 7 (He.ma K (He.ga K "Order") "keeps_all") fd ["self", "sayings"] (spF (tab K) (kdOf false) 2 F_Order_keeps_all) ∧ PySem.W.keepIn K (.ref (He.ma K (He.ga K "Order") "keeps_all")) = true ∧ Binds K fd ["self", "sayings"] [] := by
  obtain ⟨fd, F⟩ := c.d.def_ 21 (d := d_Order_keeps_all) rfl
  obtain ⟨fd_first_not_kept, G_first_not_kept, K_first_not_kept, B_first_not_kept⟩ := ok_first_not_kept (P := P) (w := w) (base := base) KX G c
  refine ⟨fd, fn_ok F sc_Order_keeps_all (by decide) rfl fun cdv A outer s H E hgd hr => ?_, F.kp, F.bindsN fun _ _ _ _ _ _ us hl => match us, hl with | [_, _], _ => rfl⟩
  have gd : (cxOf (L2.CX P w) P w K mg base N_Order_keeps_all "Order.keeps_all" (defScope s_Order_keeps_all) (He.ma K (He.ga K "Order") "keeps_all") cdv A outer s H E).A.guards = some [] := deeper_guards.trans hgd
  have tk := L2.takes_of (X := cxOf (L2.CX P w) P w K mg base N_Order_keeps_all "Order.keeps_all" (defScope s_Order_keeps_all) (He.ma K (He.ga K "Order") "keeps_all") cdv A outer s H E) rfl rfl rfl rfl
  have hp := L2.passes_of (X := cxOf (L2.CX P w) P w K mg base N_Order_keeps_all "Order.keeps_all" (defScope s_Order_keeps_all) (He.ma K (He.ga K "Order") "keeps_all") cdv A outer s H E) rfl
  exact (dss_one (ds_ret (de_cmp op_isN cd_isN (de_call G_first_not_kept (.inl rfl) gd (hr.mono (by decide)) rfl (m_first_not_kept KX G c) K_first_not_kept B_first_not_kept .nil (fun _ => Reps.nil) tk (ga_p (de_var (pv 0)) (ga_p (de_var (pv 1)) ga_nil))) de_non)))
theorem ok_name_fault (KX : K.In h) (G : h.Ns mainGlobals mg) (c : SaysV fa fn gs ex K) : ∃ fd, FnG P w K mg base (L2.CX P w) 1 (He.ga K "name_fault") fd ["thing"] (spF (tab K) (kdOf false) 1 F_name_fault) ∧ PySem.W.keepIn K (.ref (He.ga K "name_fault")) = true ∧ Binds K fd ["thing"] [] := by
  obtain ⟨fd, F⟩ := c.d.def_ 22 (d := d_name_fault) rfl
  refine ⟨fd, fn_ok F sc_name_fault (by decide) rfl fun cdv A outer s H E hgd hr => ?_, F.kp, F.bindsN fun _ _ _ _ _ _ us hl => match us, hl with | [_], _ => rfl⟩
  have gd : (cxOf (L2.CX P w) P w K mg base N_name_fault "name_fault" (defScope s_name_fault) (He.ga K "name_fault") cdv A outer s H E).A.guards = some [] := deeper_guards.trans hgd
  have tk := L2.takes_of (X := cxOf (L2.CX P w) P w K mg base N_name_fault "name_fault" (defScope s_name_fault) (He.ga K "name_fault") cdv A outer s H E) rfl rfl rfl rfl
  have hp := L2.passes_of (X := cxOf (L2.CX P w) P w K mg base N_name_fault "name_fault" (defScope s_name_fault) (He.ga K "name_fault") cdv A outer s H E) rfl
  exact (dss_cons (ds_if (dt_w (dw_or (dt_not (dt_tr rfl (de_isT rfl (it_str KX G c) (ca_str c) rfl (m_isinstance KX G c) (de_var (pv 0)) (pe_bltn (v := .ty "str") rfl (m_str KX G c) rfl rfl) (.ty _)) (by intro _; rfl))) (dw_or1 (dt_not (dt_chain op_le cd_c2 op_le cd_c2 de_int (de_callB call_len cd_len rfl (m_len KX G c) boot_len (da_cons (de_var (pv 0)) da_nil)) (de_gint rfl (m_LONGEST_NAME KX G c))))))) (dss_one (ds_ret de_str)) dss_nil) (dss_cons (ds_for hp rfl (di_str (de_var (pv 0))) (dg_name (i := 1) sc_name_fault.nd rfl (by first | exact Or.inl rfl | exact Or.inr rfl)) (dss_one (ds_if (dt_cmp op_notin_str cd_notInStr (de_var (pv 1)) (de_gstr rfl (m_LETTERS KX G c))) (dss_one (ds_ret de_str)) dss_nil))) (dss_one (ds_ret (de_ifExp (dt_cmp (op_inA (hu65 hr)) cd_inA (de_var (pv 0)) (de_gtup rfl (m_KEPT_WORDS KX G c) (t_KEPT_WORDS c) (fun _ => (Reps.cons rep_str (Reps.cons rep_str (Reps.cons rep_str (Reps.cons rep_str (Reps.cons rep_str (Reps.cons rep_str (Reps.cons rep_str (Reps.cons rep_str (Reps.cons rep_str Reps.nil)))))))))))) de_str de_non)))))
theorem ok_Marks_init (KX : K.In h) (G : h.Ns mainGlobals mg) (c : SaysV fa fn gs ex K) : ∃ fd, FnG P w K mg base (L2.CX P w) 3 (He.ma K (He.ga K "Marks") "__init__") fd ["self", "names"] (spF (tab K) (kdOf false) 2 F_Marks_init) ∧ PySem.W.keepIn K (.ref (He.ma K (He.ga K "Marks") "__init__")) = true ∧ Binds K fd ["self", "names"] [] := by
  obtain ⟨fd, F⟩ := c.d.def_ 23 (d := d_Marks_init) rfl
  obtain ⟨fd_name_fault, G_name_fault, K_name_fault, B_name_fault⟩ := ok_name_fault (P := P) (w := w) (base := base) KX G c
  obtain ⟨fdx_BadMarks, G_BadMarks, B_BadMarks⟩ := okx_BadMarks (P := P) (w := w) (base := base) KX G c
  have O_BadMarks := (xc_BadMarks c).o; have I_BadMarks := (xc_BadMarks c).i; have Ty_BadMarks := (xc_BadMarks c).t
  refine ⟨fd, fn_ok F sc_Marks_init (by decide) rfl fun cdv A outer s H E hgd hr => ?_, F.kp, F.bindsN fun _ _ _ _ _ _ us hl => match us, hl with | [_, _], _ => rfl⟩
  have gd : (cxOf (L2.CX P w) P w K mg base N_Marks_init "Marks.__init__" (defScope s_Marks_init) (He.ma K (He.ga K "Marks") "__init__") cdv A outer s H E).A.guards = some [] := deeper_guards.trans hgd
  have tk := L2.takes_of (X := cxOf (L2.CX P w) P w K mg base N_Marks_init "Marks.__init__" (defScope s_Marks_init) (He.ma K (He.ga K "Marks") "__init__") cdv A outer s H E) rfl rfl rfl rfl
  have hp := L2.passes_of (X := cxOf (L2.CX P w) P w K mg base N_Marks_init "Marks.__init__" (defScope s_Marks_init) (He.ma K (He.ga K "Marks") "__init__") cdv A outer s H E) rfl
  exact (dss_cons (ds_if (dt_w (dw_or (dt_not (dt_tr rfl (de_isT2 rfl (it_list_tuple KX G c) (ca_list_tuple c) rfl (m_isinstance KX G c) (de_var (pv 1)) (pe_bltn (v := .ty "list") rfl (m_list KX G c) rfl rfl) (.ty _) (pe_bltn (v := .ty "tuple") rfl (m_tuple KX G c) rfl rfl) (.ty _)) (by intro _; rfl))) (dw_or1 (dt_not (dt_chain op_le cd_c2 op_le cd_c2 de_int (de_callB call_len cd_len rfl (m_len KX G c) boot_len (da_cons (de_var (pv 1)) da_nil)) (de_gint rfl (m_MOST_MARKS KX G c))))))) (dss_one (ds_raise2 (c := 1) rfl tk O_BadMarks I_BadMarks Ty_BadMarks G_BadMarks (hr.mono (by decide)) B_BadMarks rfl (m_BadMarks KX G c) rfl (by decide) de_str de_non)) dss_nil) (dss_cons (ds_setO (i := 2) (de_lst da_nil pures_nil) sc_Marks_init.nd rfl (by first | exact Or.inl rfl | exact Or.inr rfl)) (dss_cons (ds_for hp rfl (di_enumA rfl rfl (m_enumerate KX G c) (de_var (pv 1))) (dg_tup rfl rfl (dgs_cons (dg_name (i := 3) sc_Marks_init.nd rfl (by first | exact Or.inl rfl | exact Or.inr rfl)) (dgs_cons (dg_name (i := 4) sc_Marks_init.nd rfl (by first | exact Or.inl rfl | exact Or.inr rfl)) dgs_nil))) (dss_cons (ds_set (i := 5) (de_call G_name_fault (.inl rfl) gd (hr.mono (by decide)) rfl (m_name_fault KX G c) K_name_fault B_name_fault .nil (fun _ => Reps.nil) tk (ga_p (de_var (pv 4)) ga_nil)) sc_Marks_init.nd rfl (by first | exact Or.inl rfl | exact Or.inr rfl)) (dss_cons (ds_if (dt_w (dw_and (dt_cmp op_isN cd_isN (de_var (pv 5)) de_non) (dw_and1 (dt_cmp (op_inA (hu65 hr)) cd_inA (de_var (pv 4)) (de_ovar (pv 2)))))) (dss_one (ds_set (i := 5) de_str sc_Marks_init.nd rfl (by first | exact Or.inl rfl | exact Or.inr rfl))) dss_nil) (dss_cons (ds_if (dt_cmp op_notN cd_notN (de_var (pv 5)) de_non) (dss_one (ds_raise2 (c := 1) rfl tk O_BadMarks I_BadMarks Ty_BadMarks G_BadMarks (hr.mono (by decide)) B_BadMarks rfl (m_BadMarks KX G c) rfl (by decide) (de_var (pv 5)) (de_var (pv 3)))) dss_nil) (dss_one (ds_expr (de_mt (i := 2) rfl PySem.F.plainAttrs_list PySem.F.slot_list_append PySem.F.type_list_append mt_append md_append (pv 2) (da_cons (de_var (pv 4)) da_nil) (pures_cons pures_nil)))))))) (dss_cons (ds_stf (c := 1) (j := 0) rfl (pv 0) (de_callTy call_tuple_of cd_tuple rfl (m_tuple KX G c) (by decide +kernel) (da_cons (de_ofrz (pv 2)) da_nil)) (cl_Marks c) (na_Marks_names c) rfl fx_Marks_names) (dss_cons (ds_stf (c := 1) (j := 1) rfl (pv 0) (de_callB call_len cd_len rfl (m_len KX G c) boot_len (da_cons (de_var (pv 2)) da_nil)) (cl_Marks c) (na_Marks_count c) rfl fx_Marks_count) (dss_cons (ds_stf (c := 1) (j := 2) rfl (pv 0) (de_op2 op_shlW od_shl de_int (de_callB call_len cd_len rfl (m_len KX G c) boot_len (da_cons (de_var (pv 2)) da_nil))) (cl_Marks c) (na_Marks_days c) rfl fx_Marks_days) (dss_one (ds_stf (c := 1) (j := 3) rfl (pv 0) (de_op2 op_sub od_sub (de_op2 op_shlW od_shl de_int (de_nat (c := 1) (j := 2) rfl (pv 0) (cl_Marks c) (na_Marks_days c) rfl fx_Marks_days)) de_int) (cl_Marks c) (na_Marks_all_days c) rfl fx_Marks_all_days))))))))
theorem ok_Saying_init (KX : K.In h) (G : h.Ns mainGlobals mg) (c : SaysV fa fn gs ex K) : ∃ fd, FnG P w K mg base (L2.CX P w) 3 (He.ma K (He.ga K "Saying") "__init__") fd ["self", "where", "then", "usual"] (spF (tab K) (kdOf false) 4 F_Saying_init) ∧ PySem.W.keepIn K (.ref (He.ma K (He.ga K "Saying") "__init__")) = true ∧ (∃ ds, Vals ([] : List V) ds ∧ Binds K fd ["self", "where", "then", "usual"] ds) := by
  obtain ⟨fd, F⟩ := c.d.def_ 24 (d := d_Saying_init) rfl
  obtain ⟨fd_is_whole, G_is_whole, K_is_whole, B_is_whole⟩ := ok_is_whole (P := P) (w := w) (base := base) KX G c
  obtain ⟨fdx_BadSaying, G_BadSaying, B_BadSaying⟩ := okx_BadSaying (P := P) (w := w) (base := base) KX G c
  have O_BadSaying := (xc_BadSaying c).o; have I_BadSaying := (xc_BadSaying c).i; have Ty_BadSaying := (xc_BadSaying c).t
  refine ⟨fd, fn_ok F sc_Saying_init (by decide) rfl fun cdv A outer s H E hgd hr => ?_, F.kp, F.binds1 4 1 (fun z => nomatch z) rfl fun _ _ _ _ _ _ _ us its h1 h2 => match us, its, h1, h2 with | [_, _, _, _], [_], _, _ => ⟨_, rfl, rfl⟩⟩
  have gd : (cxOf (L2.CX P w) P w K mg base N_Saying_init "Saying.__init__" (defScope s_Saying_init) (He.ma K (He.ga K "Saying") "__init__") cdv A outer s H E).A.guards = some [] := deeper_guards.trans hgd
  have tk := L2.takes_of (X := cxOf (L2.CX P w) P w K mg base N_Saying_init "Saying.__init__" (defScope s_Saying_init) (He.ma K (He.ga K "Saying") "__init__") cdv A outer s H E) rfl rfl rfl rfl
  have hp := L2.passes_of (X := cxOf (L2.CX P w) P w K mg base N_Saying_init "Saying.__init__" (defScope s_Saying_init) (He.ma K (He.ga K "Saying") "__init__") cdv A outer s H E) rfl
  exact (dss_cons (ds_if (dt_not (dt_tr rfl (de_call G_is_whole (.inl rfl) gd (hr.mono (by decide)) rfl (m_is_whole KX G c) K_is_whole B_is_whole .nil (fun _ => Reps.nil) tk (ga_p (de_var (pv 1)) (ga_p de_int (ga_p (de_gint rfl (m_ALL_BITS KX G c)) ga_nil)))) (by intro _; rfl))) (dss_one (ds_raise1 (c := 4) rfl tk O_BadSaying I_BadSaying Ty_BadSaying G_BadSaying (hr.mono (by decide)) B_BadSaying rfl (m_BadSaying KX G c) rfl de_str)) dss_nil) (dss_cons (ds_if (dt_not (dt_tr rfl (de_call G_is_whole (.inl rfl) gd (hr.mono (by decide)) rfl (m_is_whole KX G c) K_is_whole B_is_whole .nil (fun _ => Reps.nil) tk (ga_p (de_var (pv 2)) (ga_p de_int (ga_p (de_gint rfl (m_ALL_BITS KX G c)) ga_nil)))) (by intro _; rfl))) (dss_one (ds_raise1 (c := 4) rfl tk O_BadSaying I_BadSaying Ty_BadSaying G_BadSaying (hr.mono (by decide)) B_BadSaying rfl (m_BadSaying KX G c) rfl de_str)) dss_nil) (dss_cons (ds_if (dt_not (dt_tr rfl (de_isT rfl (it_bool KX G c) (ca_bool c) rfl (m_isinstance KX G c) (de_var (pv 3)) (pe_bltn (v := .ty "bool") rfl (m_bool KX G c) rfl rfl) (.ty _)) (by intro _; rfl))) (dss_one (ds_raise1 (c := 4) rfl tk O_BadSaying I_BadSaying Ty_BadSaying G_BadSaying (hr.mono (by decide)) B_BadSaying rfl (m_BadSaying KX G c) rfl de_str)) dss_nil) (dss_cons (ds_stf (c := 2) (j := 0) rfl (pv 0) (de_var (pv 1)) (cl_Saying c) (na_Saying_where c) rfl fx_Saying_where) (dss_cons (ds_stf (c := 2) (j := 1) rfl (pv 0) (de_var (pv 2)) (cl_Saying c) (na_Saying_then c) rfl fx_Saying_then) (dss_cons (ds_stf (c := 2) (j := 2) rfl (pv 0) (de_var (pv 3)) (cl_Saying c) (na_Saying_usual c) rfl fx_Saying_usual) (dss_cons (ds_stf (c := 2) (j := 3) rfl (pv 0) (de_op2 op_and od_and (de_var (pv 1)) (de_var (pv 2))) (cl_Saying c) (na_Saying_confirm c) rfl fx_Saying_confirm) (dss_cons (ds_stf (c := 2) (j := 4) rfl (pv 0) (de_op2 op_and od_and (de_var (pv 1)) (de_un un_inv ud_inv (de_var (pv 2)))) (cl_Saying c) (na_Saying_broken c) rfl fx_Saying_broken) (dss_cons (ds_stf (c := 2) (j := 5) rfl (pv 0) (de_ifExp (dt_tr rfl (de_var (pv 3)) (by intro _; rfl)) (de_nat (c := 2) (j := 3) rfl (pv 0) (cl_Saying c) (na_Saying_confirm c) rfl fx_Saying_confirm) (de_nat (c := 2) (j := 4) rfl (pv 0) (cl_Saying c) (na_Saying_broken c) rfl fx_Saying_broken)) (cl_Saying c) (na_Saying_low c) rfl fx_Saying_low) (dss_cons (ds_stf (c := 2) (j := 6) rfl (pv 0) (de_ifExp (dt_tr rfl (de_var (pv 3)) (by intro _; rfl)) (de_nat (c := 2) (j := 4) rfl (pv 0) (cl_Saying c) (na_Saying_broken c) rfl fx_Saying_broken) (de_nat (c := 2) (j := 3) rfl (pv 0) (cl_Saying c) (na_Saying_confirm c) rfl fx_Saying_confirm)) (cl_Saying c) (na_Saying_high c) rfl fx_Saying_high) (dss_one (ds_stf (c := 2) (j := 7) rfl (pv 0) (de_ifExp (dt_tr rfl (de_var (pv 3)) (by intro _; rfl)) de_int de_int) (cl_Saying c) (na_Saying_step c) rfl fx_Saying_step))))))))))))
theorem ok_Saying_of_days (KX : K.In h) (G : h.Ns mainGlobals mg) (c : SaysV fa fn gs ex K) : ∃ fd, FnG P w K mg base (L2.CX P w) 5 (recF "classmethod" K (He.ga K "Saying") "of_days") fd ["cls", "confirm", "broken", "usual"] (spF (tab K) (kdOf false) 4 F_Saying_of_days) ∧ PySem.W.keepIn K (.ref (recF "classmethod" K (He.ga K "Saying") "of_days")) = true ∧ (∃ ds, Vals ([] : List V) ds ∧ Binds K fd ["cls", "confirm", "broken", "usual"] ds) := by
  obtain ⟨fd, F⟩ := c.def_ 0 (g := gd_Saying_of_days) rfl (gk_Saying_of_days c)
  obtain ⟨fd_Saying_init, G_Saying_init, K_Saying_init, ⟨_, V_Saying_init_4, B_Saying_init_4⟩⟩ := ok_Saying_init (P := P) (w := w) (base := base) KX G c
  obtain ⟨fd_is_whole, G_is_whole, K_is_whole, B_is_whole⟩ := ok_is_whole (P := P) (w := w) (base := base) KX G c
  obtain ⟨fdx_BadSaying, G_BadSaying, B_BadSaying⟩ := okx_BadSaying (P := P) (w := w) (base := base) KX G c
  have O_BadSaying := (xc_BadSaying c).o; have I_BadSaying := (xc_BadSaying c).i; have Ty_BadSaying := (xc_BadSaying c).t
  refine ⟨fd, fn_ok F sc_Saying_of_days (by decide) rfl fun cdv A outer s H E hgd hr => ?_, F.kp, F.binds1 4 1 (fun z => nomatch z) rfl fun _ _ _ _ _ _ _ us its h1 h2 => match us, its, h1, h2 with | [_, _, _, _], [_], _, _ => ⟨_, rfl, rfl⟩⟩
  have gd : (cxOf (L2.CX P w) P w K mg base N_Saying_of_days "Saying.of_days" (defScope s_Saying_of_days) (recF "classmethod" K (He.ga K "Saying") "of_days") cdv A outer s H E).A.guards = some [] := deeper_guards.trans hgd
  have tk := L2.takes_of (X := cxOf (L2.CX P w) P w K mg base N_Saying_of_days "Saying.of_days" (defScope s_Saying_of_days) (recF "classmethod" K (He.ga K "Saying") "of_days") cdv A outer s H E) rfl rfl rfl rfl
  have hp := L2.passes_of (X := cxOf (L2.CX P w) P w K mg base N_Saying_of_days "Saying.of_days" (defScope s_Saying_of_days) (recF "classmethod" K (He.ga K "Saying") "of_days") cdv A outer s H E) rfl
  exact (dss_cons (ds_if (dt_not (dt_tr rfl (de_call G_is_whole (.inl rfl) gd (hr.mono (by decide)) rfl (m_is_whole KX G c) K_is_whole B_is_whole .nil (fun _ => Reps.nil) tk (ga_p (de_var (pv 1)) (ga_p de_int (ga_p (de_gint rfl (m_ALL_BITS KX G c)) ga_nil)))) (by intro _; rfl))) (dss_one (ds_raise1 (c := 4) rfl tk O_BadSaying I_BadSaying Ty_BadSaying G_BadSaying (hr.mono (by decide)) B_BadSaying rfl (m_BadSaying KX G c) rfl de_str)) dss_nil) (dss_cons (ds_if (dt_not (dt_tr rfl (de_call G_is_whole (.inl rfl) gd (hr.mono (by decide)) rfl (m_is_whole KX G c) K_is_whole B_is_whole .nil (fun _ => Reps.nil) tk (ga_p (de_var (pv 2)) (ga_p de_int (ga_p (de_gint rfl (m_ALL_BITS KX G c)) ga_nil)))) (by intro _; rfl))) (dss_one (ds_raise1 (c := 4) rfl tk O_BadSaying I_BadSaying Ty_BadSaying G_BadSaying (hr.mono (by decide)) B_BadSaying rfl (m_BadSaying KX G c) rfl de_str)) dss_nil) (dss_cons (ds_if (dt_tr rfl (de_op2 op_and od_and (de_var (pv 1)) (de_var (pv 2))) (by intro _; rfl)) (dss_one (ds_raise1 (c := 4) rfl tk O_BadSaying I_BadSaying Ty_BadSaying G_BadSaying (hr.mono (by decide)) B_BadSaying rfl (m_BadSaying KX G c) rfl de_str)) dss_nil) (dss_one (ds_ret (de_make (T := tab K) (c := 2) (mk_Saying c) G_Saying_init gd (hr.mono (by decide)) rfl (m_Saying KX G c) B_Saying_init_4 V_Saying_init_4 (fun _ => Reps.nil) tk (ga_p (de_op2 op_or od_or (de_var (pv 1)) (de_var (pv 2))) (ga_p (de_var (pv 1)) (ga_p (de_var (pv 3)) ga_nil)))))))))
theorem ok_Saying_contrary (KX : K.In h) (G : h.Ns mainGlobals mg) (c : SaysV fa fn gs ex K) : ∃ fd, FnG P w K mg base (L2.CX P w) 5 (He.ma K (He.ga K "Saying") "contrary") fd ["self"] (spF (tab K) (kdOf false) 1 F_Saying_contrary) ∧ PySem.W.keepIn K (.ref (He.ma K (He.ga K "Saying") "contrary")) = true ∧ Binds K fd ["self"] [] := by
  obtain ⟨fd, F⟩ := c.d.def_ 25 (d := d_Saying_contrary) rfl
  obtain ⟨fd_Saying_init, G_Saying_init, K_Saying_init, ⟨_, V_Saying_init_4, B_Saying_init_4⟩⟩ := ok_Saying_init (P := P) (w := w) (base := base) KX G c
  refine ⟨fd, fn_ok F sc_Saying_contrary (by decide) rfl fun cdv A outer s H E hgd hr => ?_, F.kp, F.bindsN fun _ _ _ _ _ _ us hl => match us, hl with | [_], _ => rfl⟩
  have gd : (cxOf (L2.CX P w) P w K mg base N_Saying_contrary "Saying.contrary" (defScope s_Saying_contrary) (He.ma K (He.ga K "Saying") "contrary") cdv A outer s H E).A.guards = some [] := deeper_guards.trans hgd
  have tk := L2.takes_of (X := cxOf (L2.CX P w) P w K mg base N_Saying_contrary "Saying.contrary" (defScope s_Saying_contrary) (He.ma K (He.ga K "Saying") "contrary") cdv A outer s H E) rfl rfl rfl rfl
  have hp := L2.passes_of (X := cxOf (L2.CX P w) P w K mg base N_Saying_contrary "Saying.contrary" (defScope s_Saying_contrary) (He.ma K (He.ga K "Saying") "contrary") cdv A outer s H E) rfl
  exact (dss_one (ds_ret (de_make (T := tab K) (c := 2) (mk_Saying c) G_Saying_init gd (hr.mono (by decide)) rfl (m_Saying KX G c) B_Saying_init_4 V_Saying_init_4 (fun _ => Reps.nil) tk (ga_p (de_attr (c := 2) (j := 0) rfl (de_var (pv 0)) (cl_Saying c) (na_Saying_where c) rfl fx_Saying_where) (ga_p (de_attr (c := 2) (j := 1) rfl (de_var (pv 0)) (cl_Saying c) (na_Saying_then c) rfl fx_Saying_then) (ga_p (de_notV (de_attr (c := 2) (j := 2) rfl (de_var (pv 0)) (cl_Saying c) (na_Saying_usual c) rfl fx_Saying_usual)) ga_nil))))))
theorem ok_Book_init (KX : K.In h) (G : h.Ns mainGlobals mg) (c : SaysV fa fn gs ex K) : ∃ fd, FnG P w K mg base (L2.CX P w) 3 (He.ma K (He.ga K "Book") "__init__") fd ["self", "marks", "sayings"] (spF (tab K) (kdOf false) 3 F_Book_init) ∧ PySem.W.keepIn K (.ref (He.ma K (He.ga K "Book") "__init__")) = true ∧ Binds K fd ["self", "marks", "sayings"] [] := by
  obtain ⟨fd, F⟩ := c.d.def_ 26 (d := d_Book_init) rfl
  obtain ⟨fdx_BadBook, G_BadBook, B_BadBook⟩ := okx_BadBook (P := P) (w := w) (base := base) KX G c
  have O_BadBook := (xc_BadBook c).o; have I_BadBook := (xc_BadBook c).i; have Ty_BadBook := (xc_BadBook c).t
  refine ⟨fd, fn_ok F sc_Book_init (by decide) rfl fun cdv A outer s H E hgd hr => ?_, F.kp, F.bindsN fun _ _ _ _ _ _ us hl => match us, hl with | [_, _, _], _ => rfl⟩
  have gd : (cxOf (L2.CX P w) P w K mg base N_Book_init "Book.__init__" (defScope s_Book_init) (He.ma K (He.ga K "Book") "__init__") cdv A outer s H E).A.guards = some [] := deeper_guards.trans hgd
  have tk := L2.takes_of (X := cxOf (L2.CX P w) P w K mg base N_Book_init "Book.__init__" (defScope s_Book_init) (He.ma K (He.ga K "Book") "__init__") cdv A outer s H E) rfl rfl rfl rfl
  have hp := L2.passes_of (X := cxOf (L2.CX P w) P w K mg base N_Book_init "Book.__init__" (defScope s_Book_init) (He.ma K (He.ga K "Book") "__init__") cdv A outer s H E) rfl
  exact (dss_cons (ds_if (dt_not (dt_tr rfl (de_isT rfl (it_Marks KX G c) (ca_Marks c) rfl (m_isinstance KX G c) (de_var (pv 1)) (pe_glob (v := .ref (He.ga K "Marks")) rfl (m_Marks KX G c) rfl) (.own _)) (by intro _; rfl))) (dss_one (ds_raise2 (c := 5) rfl tk O_BadBook I_BadBook Ty_BadBook G_BadBook (hr.mono (by decide)) B_BadBook rfl (m_BadBook KX G c) rfl (by decide) de_str de_non)) dss_nil) (dss_cons (ds_if (dt_w (dw_or (dt_not (dt_tr rfl (de_isT2 rfl (it_list_tuple KX G c) (ca_list_tuple c) rfl (m_isinstance KX G c) (de_var (pv 2)) (pe_bltn (v := .ty "list") rfl (m_list KX G c) rfl rfl) (.ty _) (pe_bltn (v := .ty "tuple") rfl (m_tuple KX G c) rfl rfl) (.ty _)) (by intro _; rfl))) (dw_or1 (dt_cmp op_gt cd_c2 (de_callB call_len cd_len rfl (m_len KX G c) boot_len (da_cons (de_var (pv 2)) da_nil)) (de_gint rfl (m_MOST_SAYINGS KX G c)))))) (dss_one (ds_raise2 (c := 5) rfl tk O_BadBook I_BadBook Ty_BadBook G_BadBook (hr.mono (by decide)) B_BadBook rfl (m_BadBook KX G c) rfl (by decide) de_str de_non)) dss_nil) (dss_cons (ds_for hp rfl (di_enumA rfl rfl (m_enumerate KX G c) (de_var (pv 2))) (dg_tup rfl rfl (dgs_cons (dg_name (i := 3) sc_Book_init.nd rfl (by first | exact Or.inl rfl | exact Or.inr rfl)) (dgs_cons (dg_name (i := 4) sc_Book_init.nd rfl (by first | exact Or.inl rfl | exact Or.inr rfl)) dgs_nil))) (dss_cons (ds_if (dt_not (dt_tr rfl (de_isT rfl (it_Saying KX G c) (ca_Saying c) rfl (m_isinstance KX G c) (de_var (pv 4)) (pe_glob (v := .ref (He.ga K "Saying")) rfl (m_Saying KX G c) rfl) (.own _)) (by intro _; rfl))) (dss_one (ds_raise2 (c := 5) rfl tk O_BadBook I_BadBook Ty_BadBook G_BadBook (hr.mono (by decide)) B_BadBook rfl (m_BadBook KX G c) rfl (by decide) de_str (de_var (pv 3)))) dss_nil) (dss_one (ds_if (dt_cmp op_gt cd_c2 (de_op2 op_or od_or (de_attr (c := 2) (j := 0) rfl (de_var (pv 4)) (cl_Saying c) (na_Saying_where c) rfl fx_Saying_where) (de_attr (c := 2) (j := 1) rfl (de_var (pv 4)) (cl_Saying c) (na_Saying_then c) rfl fx_Saying_then)) (de_attr (c := 1) (j := 3) rfl (de_var (pv 1)) (cl_Marks c) (na_Marks_all_days c) rfl fx_Marks_all_days)) (dss_one (ds_raise2 (c := 5) rfl tk O_BadBook I_BadBook Ty_BadBook G_BadBook (hr.mono (by decide)) B_BadBook rfl (m_BadBook KX G c) rfl (by decide) de_str (de_var (pv 3)))) dss_nil)))) (dss_cons (ds_stf (c := 3) (j := 0) rfl (pv 0) (de_var (pv 1)) (cl_Book c) (na_Book_marks c) rfl fx_Book_marks) (dss_one (ds_stf (c := 3) (j := 1) rfl (pv 0) (de_callTy call_tuple_of cd_tuple rfl (m_tuple KX G c) (by decide +kernel) (da_cons (de_var (pv 2)) da_nil)) (cl_Book c) (na_Book_sayings c) rfl fx_Book_sayings))))))
theorem ok_law_bag (KX : K.In h) (G : h.Ns mainGlobals mg) (c : SaysV fa fn gs ex K) : ∃ fd, FnG P w K mg base (L2.CX P w) 1 (He.ga K "_law_bag") fd ["_law_script", "_law_at"] (spF (tab K) (kdOf true) 2 F_law_bag) ∧ PySem.W.keepIn K (.ref (He.ga K "_law_bag")) = true ∧ Binds K fd ["_law_script", "_law_at"] [] := by
  obtain ⟨fd, F⟩ := c.d.def_ 28 (d := d_law_bag) rfl
  refine ⟨fd, fn_ok F sc_law_bag (by decide) rfl fun cdv A outer s H E hgd hr => ?_, F.kp, F.bindsN fun _ _ _ _ _ _ us hl => match us, hl with | [_, _], _ => rfl⟩
  have gd : (cxOf (L2.CX P w) P w K mg base N_law_bag "_law_bag" (defScope s_law_bag) (He.ga K "_law_bag") cdv A outer s H E).A.guards = some [] := deeper_guards.trans hgd
  have tk := L2.takes_of (X := cxOf (L2.CX P w) P w K mg base N_law_bag "_law_bag" (defScope s_law_bag) (He.ga K "_law_bag") cdv A outer s H E) rfl rfl rfl rfl
  have hp := L2.passes_of (X := cxOf (L2.CX P w) P w K mg base N_law_bag "_law_bag" (defScope s_law_bag) (He.ga K "_law_bag") cdv A outer s H E) rfl
  exact (dss_cons (ds_set (i := 2) (de_ifExp (dt_cmp op_lt cd_c2 (de_var (pv 1)) (de_callB call_len cd_len rfl (m_len KX G c) boot_len (da_cons (de_var (pv 0)) da_nil))) (de_callB call_abs cd_abs rfl (m_abs KX G c) (by decide +kernel) (da_cons (de_callTy call_int1 cd_int rfl (m_int KX G c) (by decide +kernel) (da_cons (de_ix rfl (de_var (pv 0)) (de_var (pv 1)) (fun _ _ => rfl)) da_nil)) da_nil)) de_int) sc_law_bag.nd rfl (by first | exact Or.inl rfl | exact Or.inr rfl)) (dss_cons (ds_set (i := 3) (de_op2 op_add od_add de_int (de_op2 op_mulA od_mul de_int (de_var (pv 1)))) sc_law_bag.nd rfl (by first | exact Or.inl rfl | exact Or.inr rfl)) (dss_cons (ds_for hp rfl (di_enum rfl rfl (m_enumerate KX G c) (de_frz (de_slL rfl (de_var (pv 0)) do_none (do_some de_int)))) (dg_tup rfl rfl (dgs_cons (dg_name (i := 4) sc_law_bag.nd rfl (by first | exact Or.inl rfl | exact Or.inr rfl)) (dgs_cons (dg_name (i := 5) sc_law_bag.nd rfl (by first | exact Or.inl rfl | exact Or.inr rfl)) dgs_nil))) (dss_one (ds_set (i := 3) (de_op2 op_modN od_mod (de_callTy call_int1 cd_int rfl (m_int KX G c) (by decide +kernel) (da_cons (de_op2 op_add od_add (de_op2 op_add od_add (de_op2 op_mulA od_mul (de_var (pv 3)) de_int) (de_op2 op_modN od_mod (de_callTy call_int1 cd_int rfl (m_int KX G c) (by decide +kernel) (da_cons (de_var (pv 5)) da_nil)) de_int)) (de_op2 op_mulA od_mul de_int (de_var (pv 4)))) da_nil)) de_int) sc_law_bag.nd rfl (by first | exact Or.inl rfl | exact Or.inr rfl)))) (dss_one (ds_ret (de_lst (da_cons (de_ifExp (dt_cmp op_ge cd_c2 (de_var (pv 2)) (de_op2 op_pow od_pow de_int de_int)) (de_var (pv 2)) de_int) (da_cons (de_var (pv 3)) (da_cons de_int da_nil))) (pures_cons (pures_cons (pures_cons pures_nil)))))))))
theorem ok_law_take (KX : K.In h) (G : h.Ns mainGlobals mg) (c : SaysV fa fn gs ex K) : ∃ fd, FnG P w K mg base (L2.CX P w) 1 (He.ga K "_law_take") fd ["_law_bag_here", "_law_many"] (spF (tab K) (kdOf false) 2 F_law_take) ∧ PySem.W.keepIn K (.ref (He.ga K "_law_take")) = true ∧ Binds K fd ["_law_bag_here", "_law_many"] [] := by
  obtain ⟨fd, F⟩ := c.d.def_ 29 (d := d_law_take) rfl
  refine ⟨fd, fn_ok F sc_law_take (by decide) rfl fun cdv A outer s H E hgd hr => ?_, F.kp, F.bindsN fun _ _ _ _ _ _ us hl => match us, hl with | [_, _], _ => rfl⟩
  have gd : (cxOf (L2.CX P w) P w K mg base N_law_take "_law_take" (defScope s_law_take) (He.ga K "_law_take") cdv A outer s H E).A.guards = some [] := deeper_guards.trans hgd
  have tk := L2.takes_of (X := cxOf (L2.CX P w) P w K mg base N_law_take "_law_take" (defScope s_law_take) (He.ga K "_law_take") cdv A outer s H E) rfl rfl rfl rfl
  have hp := L2.passes_of (X := cxOf (L2.CX P w) P w K mg base N_law_take "_law_take" (defScope s_law_take) (He.ga K "_law_take") cdv A outer s H E) rfl
  exact (dss_cons (ds_if (dt_cmp op_gt cd_c2 (de_ix rfl (de_ovar (pv 0)) de_int (fun _ _ => rfl) (hst := steady_c)) de_int) (dss_cons (ds_set (i := 2) (de_op2 op_modN od_mod (de_callTy call_int1 cd_int rfl (m_int KX G c) (by decide +kernel) (da_cons (de_ix rfl (de_ovar (pv 0)) de_int (fun _ _ => rfl) (hst := steady_c)) da_nil)) (de_var (pv 1))) sc_law_take.nd rfl (by first | exact Or.inl rfl | exact Or.inr rfl)) (dss_cons (ds_setI (pv 0) (de_op2 op_fdivA od_fdiv (de_ix rfl (de_ovar (pv 0)) de_int (fun _ _ => rfl) (hst := steady_c)) (de_var (pv 1))) de_int) (dss_one (ds_ret (de_var (pv 2)))))) dss_nil) (dss_cons (ds_setI (pv 0) (de_op2 op_add od_add (de_ix rfl (de_ovar (pv 0)) de_int (fun _ _ => rfl) (hst := steady_c)) de_int) de_int) (dss_cons (ds_setI (pv 0) (de_op2 op_modN od_mod (de_callTy call_int1 cd_int rfl (m_int KX G c) (by decide +kernel) (da_cons (de_op2 op_add od_add (de_op2 op_add od_add (de_op2 op_mulA od_mul (de_ix rfl (de_ovar (pv 0)) de_int (fun _ _ => rfl) (hst := steady_c)) de_int) (de_op2 op_mulA od_mul de_int (de_ix rfl (de_ovar (pv 0)) de_int (fun _ _ => rfl) (hst := steady_c)))) de_int) da_nil)) de_int) de_int) (dss_one (ds_ret (de_op2 op_modN od_mod (de_op2 op_fdivA od_fdiv (de_op2 op_modN od_mod (de_callTy call_int1 cd_int rfl (m_int KX G c) (by decide +kernel) (da_cons (de_op2 op_mulA od_mul (de_ix rfl (de_ovar (pv 0)) de_int (fun _ _ => rfl) (hst := steady_c)) de_int) da_nil)) de_int) de_int) (de_var (pv 1))))))))
theorem ok_law_of (KX : K.In h) (G : h.Ns mainGlobals mg) (c : SaysV fa fn gs ex K) : ∃ fd, FnG P w K mg base (L2.CX P w) 2 (He.ga K "_law_of") fd ["_law_bag_here", "_law_some"] (spF (tab K) (kdOf false) 2 F_law_of) ∧ PySem.W.keepIn K (.ref (He.ga K "_law_of")) = true ∧ Binds K fd ["_law_bag_here", "_law_some"] [] := by
  obtain ⟨fd, F⟩ := c.d.def_ 30 (d := d_law_of) rfl
  obtain ⟨fd_law_take, G_law_take, K_law_take, B_law_take⟩ := ok_law_take (P := P) (w := w) (base := base) KX G c
  refine ⟨fd, fn_ok F sc_law_of (by decide) rfl fun cdv A outer s H E hgd hr => ?_, F.kp, F.bindsN fun _ _ _ _ _ _ us hl => match us, hl with | [_, _], _ => rfl⟩
  have gd : (cxOf (L2.CX P w) P w K mg base N_law_of "_law_of" (defScope s_law_of) (He.ga K "_law_of") cdv A outer s H E).A.guards = some [] := deeper_guards.trans hgd
  have tk := L2.takes_of (X := cxOf (L2.CX P w) P w K mg base N_law_of "_law_of" (defScope s_law_of) (He.ga K "_law_of") cdv A outer s H E) rfl rfl rfl rfl
  have hp := L2.passes_of (X := cxOf (L2.CX P w) P w K mg base N_law_of "_law_of" (defScope s_law_of) (He.ga K "_law_of") cdv A outer s H E) rfl
  exact (dss_one (ds_ret (de_ix rfl (de_var (pv 1)) (de_call G_law_take (.inl rfl) gd (hr.mono (by decide)) rfl (m__law_take KX G c) K_law_take B_law_take .nil (fun _ => Reps.nil) tk (ga_o (pv 0) (ga_p (de_callB call_len cd_len rfl (m_len KX G c) boot_len (da_cons (de_var (pv 1)) da_nil)) ga_nil))) (fun _ _ => rfl))))
theorem ok_law_longer (KX : K.In h) (G : h.Ns mainGlobals mg) (c : SaysV fa fn gs ex K) : ∃ fd, FnG P w K mg base (L2.CX P w) 1 (He.ga K "_law_longer") fd ["_law_rows", "_law_days"] (spF (tab K) (kdOf true) 2 F_law_longer) ∧ PySem.W.keepIn K (.ref (He.ga K "_law_longer")) = true ∧ Binds K fd ["_law_rows", "_law_days"] [] := by
  obtain ⟨fd, F⟩ := c.d.def_ 31 (d := d_law_longer) rfl
  refine ⟨fd, fn_ok F sc_law_longer (by decide) rfl fun cdv A outer s H E hgd hr => ?_, F.kp, F.bindsN fun _ _ _ _ _ _ us hl => match us, hl with | [_, _], _ => rfl⟩
  have gd : (cxOf (L2.CX P w) P w K mg base N_law_longer "_law_longer" (defScope s_law_longer) (He.ga K "_law_longer") cdv A outer s H E).A.guards = some [] := deeper_guards.trans hgd
  have tk := L2.takes_of (X := cxOf (L2.CX P w) P w K mg base N_law_longer "_law_longer" (defScope s_law_longer) (He.ga K "_law_longer") cdv A outer s H E) rfl rfl rfl rfl
  have hp := L2.passes_of (X := cxOf (L2.CX P w) P w K mg base N_law_longer "_law_longer" (defScope s_law_longer) (He.ga K "_law_longer") cdv A outer s H E) rfl
  exact (dss_cons (ds_setO (i := 2) (de_lst da_nil pures_nil) sc_law_longer.nd rfl (by first | exact Or.inl rfl | exact Or.inr rfl)) (dss_cons (ds_for hp rfl (di_list rfl (de_var (pv 0))) (dg_name (i := 3) sc_law_longer.nd rfl (by first | exact Or.inl rfl | exact Or.inr rfl)) (dss_one (ds_for hp rfl (di_range1 rfl (m_range KX G c) (de_var (pv 1))) (dg_name (i := 4) sc_law_longer.nd rfl (by first | exact Or.inl rfl | exact Or.inr rfl)) (dss_one (ds_expr (de_mt (i := 2) rfl PySem.F.plainAttrs_list PySem.F.slot_list_append PySem.F.type_list_append mt_append md_append (pv 2) (da_cons (de_frz (de_op2 op_catL od_catL (de_var (pv 3)) (de_lst (da_cons (de_var (pv 4)) da_nil) (pures_cons pures_nil)))) da_nil) (pures_cons pures_nil))))))) (dss_one (ds_retO (pv 2)))))
theorem ok_law_orders (KX : K.In h) (G : h.Ns mainGlobals mg) (c : SaysV fa fn gs ex K) : ∃ fd, FnG P w K mg base (L2.CX P w) 2 (He.ga K "_law_orders") fd ["_law_days"] (spF (tab K) (kdOf true) 1 F_law_orders) ∧ PySem.W.keepIn K (.ref (He.ga K "_law_orders")) = true ∧ Binds K fd ["_law_days"] [] := by
  obtain ⟨fd, F⟩ := c.d.def_ 32 (d := d_law_orders) rfl
  obtain ⟨fd_law_longer, G_law_longer, K_law_longer, B_law_longer⟩ := ok_law_longer (P := P) (w := w) (base := base) KX G c
  refine ⟨fd, fn_ok F sc_law_orders (by decide) rfl fun cdv A outer s H E hgd hr => ?_, F.kp, F.bindsN fun _ _ _ _ _ _ us hl => match us, hl with | [_], _ => rfl⟩
  have gd : (cxOf (L2.CX P w) P w K mg base N_law_orders "_law_orders" (defScope s_law_orders) (He.ga K "_law_orders") cdv A outer s H E).A.guards = some [] := deeper_guards.trans hgd
  have tk := L2.takes_of (X := cxOf (L2.CX P w) P w K mg base N_law_orders "_law_orders" (defScope s_law_orders) (He.ga K "_law_orders") cdv A outer s H E) rfl rfl rfl rfl
  have hp := L2.passes_of (X := cxOf (L2.CX P w) P w K mg base N_law_orders "_law_orders" (defScope s_law_orders) (He.ga K "_law_orders") cdv A outer s H E) rfl
  exact (dss_cons (ds_set (i := 1) (de_frz (de_lst (da_cons (de_frz (de_lst da_nil pures_nil)) da_nil) (pures_cons pures_nil))) sc_law_orders.nd rfl (by first | exact Or.inl rfl | exact Or.inr rfl)) (dss_cons (ds_for hp rfl (di_range1 rfl (m_range KX G c) (de_var (pv 0))) (dg_name (i := 2) sc_law_orders.nd rfl (by first | exact Or.inl rfl | exact Or.inr rfl)) (dss_one (ds_set (i := 1) (de_frz (de_call G_law_longer (.inr rfl) gd (hr.mono (by decide)) rfl (m__law_longer KX G c) K_law_longer B_law_longer .nil (fun _ => Reps.nil) tk (ga_p (de_var (pv 1)) (ga_p (de_var (pv 0)) ga_nil)))) sc_law_orders.nd rfl (by first | exact Or.inl rfl | exact Or.inr rfl)))) (dss_one (ds_ret (de_lc (own := [("_law_row", 3)]) rfl sc_law_orders.nd (di_list rfl (de_var (pv 1))) (blkOk_by (by first | rfl | decide +kernel)) (fun _ _ _ _ _ => (dg_name (i := 3) sc_law_orders.nd rfl (by first | exact Or.inl rfl | exact Or.inr rfl))) (fun _ _ _ _ _ => (dts_one (dt_w (dw_and (dt_cmp (op_inA (hu65 hr)) cd_inA de_int (de_var (pv 3))) (dw_and1 (dt_cmp op_eq cd_eqS (de_lenSet rfl rfl rfl (m_len KX G c) rfl (m_set KX G c) (de_var (pv 3))) (de_op2 op_add od_add (de_callB (cr_maxT rfl) cd_maxA rfl (m_max KX G c) (by decide +kernel) (da_cons (de_var (pv 3)) da_nil)) de_int))))))) (fun _ _ _ _ _ => (de_var (pv 3))))))))
theorem ok_law_keeps (KX : K.In h) (G : h.Ns mainGlobals mg) (c : SaysV fa fn gs ex K) : ∃ fd, FnG P w K mg base (L2.CX P w) 1 (He.ga K "_law_keeps") fd ["_law_layers", "_law_confirm", "_law_broken", "_law_usual"] (spF (tab K) (kdOf false) 4 F_law_keeps) ∧ PySem.W.keepIn K (.ref (He.ga K "_law_keeps")) = true ∧ Binds K fd ["_law_layers", "_law_confirm", "_law_broken", "_law_usual"] [] := by
  obtain ⟨fd, F⟩ := c.d.def_ 33 (d := d_law_keeps) rfl
  refine ⟨fd, fn_ok F sc_law_keeps (by decide) rfl fun cdv A outer s H E hgd hr => ?_, F.kp, F.bindsN fun _ _ _ _ _ _ us hl => match us, hl with | [_, _, _, _], _ => rfl⟩
  have gd : (cxOf (L2.CX P w) P w K mg base N_law_keeps "_law_keeps" (defScope s_law_keeps) (He.ga K "_law_keeps") cdv A outer s H E).A.guards = some [] := deeper_guards.trans hgd
  have tk := L2.takes_of (X := cxOf (L2.CX P w) P w K mg base N_law_keeps "_law_keeps" (defScope s_law_keeps) (He.ga K "_law_keeps") cdv A outer s H E) rfl rfl rfl rfl
  have hp := L2.passes_of (X := cxOf (L2.CX P w) P w K mg base N_law_keeps "_law_keeps" (defScope s_law_keeps) (He.ga K "_law_keeps") cdv A outer s H E) rfl
  exact (dss_cons (ds_setLc (i := 4) (own := [("_law_day", 7)]) rfl sc_law_keeps.nd rfl rfl (sw_true rfl rfl rfl (by decide +kernel)) (di_range1 rfl (m_range KX G c) (de_callB call_len cd_len rfl (m_len KX G c) boot_len (da_cons (de_var (pv 0)) da_nil))) (blkOk_by (by first | rfl | decide +kernel)) (fun _ _ _ _ _ => (dg_name (i := 7) sc_law_keeps.nd rfl (by first | exact Or.inl rfl | exact Or.inr rfl))) (fun _ _ _ _ _ => (dts_one (dt_cmp op_eq cd_eqS (de_op2 op_and od_and (de_op2 op_shr od_shr (de_var (pv 1)) (de_var (pv 7))) de_int) de_int))) (fun _ _ _ _ _ => (de_ix rfl (de_var (pv 0)) (de_var (pv 7)) (fun _ _ => rfl)))) (dss_cons (ds_setLc (i := 5) (own := [("_law_day", 7)]) rfl sc_law_keeps.nd rfl rfl (sw_true rfl rfl rfl (by decide +kernel)) (di_range1 rfl (m_range KX G c) (de_callB call_len cd_len rfl (m_len KX G c) boot_len (da_cons (de_var (pv 0)) da_nil))) (blkOk_by (by first | rfl | decide +kernel)) (fun _ _ _ _ _ => (dg_name (i := 7) sc_law_keeps.nd rfl (by first | exact Or.inl rfl | exact Or.inr rfl))) (fun _ _ _ _ _ => (dts_one (dt_cmp op_eq cd_eqS (de_op2 op_and od_and (de_op2 op_shr od_shr (de_var (pv 2)) (de_var (pv 7))) de_int) de_int))) (fun _ _ _ _ _ => (de_ix rfl (de_var (pv 0)) (de_var (pv 7)) (fun _ _ => rfl)))) (dss_cons (ds_set (i := 6) (de_or (de_cmp (op_eqNil hr.units0) cd_eqNil (de_var (pv 5)) (de_lst da_nil pures_nil)) (de_one (de_and (de_cmp (op_neNil hr.units0) cd_neNil (de_var (pv 4)) (de_lst da_nil pures_nil)) (de_one (de_cmp op_lt cd_c2 (de_callB (cr_minT rfl) cd_minA rfl (m_min KX G c) (by decide +kernel) (da_cons (de_var (pv 4)) da_nil)) (de_callB (cr_minT rfl) cd_minA rfl (m_min KX G c) (by decide +kernel) (da_cons (de_var (pv 5)) da_nil))))))) sc_law_keeps.nd rfl (by first | exact Or.inl rfl | exact Or.inr rfl)) (dss_one (ds_ret (de_ifExp (dt_tr rfl (de_var (pv 3)) (by intro _; rfl)) (de_var (pv 6)) (de_notV (de_var (pv 6)))))))))
theorem ok_law_spread (KX : K.In h) (G : h.Ns mainGlobals mg) (c : SaysV fa fn gs ex K) : ∃ fd, FnG P w K mg base (L2.CX P w) 3 (He.ga K "_law_spread") fd ["_law_bag_here", "_law_layers"] (spF (tab K) (kdOf false) 2 F_law_spread) ∧ PySem.W.keepIn K (.ref (He.ga K "_law_spread")) = true ∧ Binds K fd ["_law_bag_here", "_law_layers"] [] := by
  obtain ⟨fd, F⟩ := c.d.def_ 34 (d := d_law_spread) rfl
  obtain ⟨fd_law_of, G_law_of, K_law_of, B_law_of⟩ := ok_law_of (P := P) (w := w) (base := base) KX G c
  refine ⟨fd, fn_ok F sc_law_spread (by decide) rfl fun cdv A outer s H E hgd hr => ?_, F.kp, F.bindsN fun _ _ _ _ _ _ us hl => match us, hl with | [_, _], _ => rfl⟩
  have gd : (cxOf (L2.CX P w) P w K mg base N_law_spread "_law_spread" (defScope s_law_spread) (He.ga K "_law_spread") cdv A outer s H E).A.guards = some [] := deeper_guards.trans hgd
  have tk := L2.takes_of (X := cxOf (L2.CX P w) P w K mg base N_law_spread "_law_spread" (defScope s_law_spread) (He.ga K "_law_spread") cdv A outer s H E) rfl rfl rfl rfl
  have hp := L2.passes_of (X := cxOf (L2.CX P w) P w K mg base N_law_spread "_law_spread" (defScope s_law_spread) (He.ga K "_law_spread") cdv A outer s H E) rfl
  exact (dss_cons (ds_parC (o1 := true) (o2 := false) (i := 2) (j := 3) rfl rfl sc_law_spread.nd rfl rfl (by first | exact Or.inl rfl | exact Or.inr rfl) (by first | exact Or.inl rfl | exact Or.inr rfl) (by first | exact .inl rfl | exact .inr rfl) (by first | exact .inl rfl | exact .inr rfl) (de_lst (da_cons de_int da_nil) (pures_cons pures_nil)) de_int) (dss_cons (ds_for hp rfl (di_range1 rfl (m_range KX G c) (de_callB (cr_maxT rfl) cd_maxA rfl (m_max KX G c) (by decide +kernel) (da_cons (de_var (pv 1)) da_nil))) (dg_name (i := 4) sc_law_spread.nd rfl (by first | exact Or.inl rfl | exact Or.inr rfl)) (dss_cons (ds_set (i := 3) (de_op2 op_add od_add (de_op2 op_add od_add (de_var (pv 3)) de_int) (de_call G_law_of (.inl rfl) gd (hr.mono (by decide)) rfl (m__law_of KX G c) K_law_of B_law_of .nil (fun _ => Reps.nil) tk (ga_o (pv 0) (ga_p (de_frz (de_lst (da_cons de_int (da_cons de_int (da_cons de_int (da_cons de_int (da_cons (de_op2 op_pow od_pow de_int de_int) da_nil))))) (pures_cons (pures_cons (pures_cons (pures_cons (pures_cons pures_nil))))))) ga_nil)))) sc_law_spread.nd rfl (by first | exact Or.inl rfl | exact Or.inr rfl)) (dss_one (ds_expr (de_mt (i := 2) rfl PySem.F.plainAttrs_list PySem.F.slot_list_append PySem.F.type_list_append mt_append md_append (pv 2) (da_cons (de_var (pv 3)) da_nil) (pures_cons pures_nil)))))) (dss_one (ds_ret (de_frz (de_lc (own := [("_law_layer", 5)]) rfl sc_law_spread.nd (di_list rfl (de_var (pv 1))) (blkOk_by (by first | rfl | decide +kernel)) (fun _ _ _ _ _ => (dg_name (i := 5) sc_law_spread.nd rfl (by first | exact Or.inl rfl | exact Or.inr rfl))) (fun _ _ _ _ _ => dts_nil) (fun _ _ _ _ _ => (de_ix rfl (de_ovar (pv 2)) (de_var (pv 5)) (fun _ _ => rfl) (hst := steady_var)))))))))
theorem ok_law_saying (KX : K.In h) (G : h.Ns mainGlobals mg) (c : SaysV fa fn gs ex K) : ∃ fd, FnG P w K mg base (L2.CX P w) 6 (He.ga K "_law_saying") fd ["_law_order", "_law_layers", "_law_saying_here", "_law_usual"] (spF (tab K) (kdOf false) 4 F_law_saying) ∧ PySem.W.keepIn K (.ref (He.ga K "_law_saying")) = true ∧ Binds K fd ["_law_order", "_law_layers", "_law_saying_here", "_law_usual"] [] := by
  obtain ⟨fd, F⟩ := c.d.def_ 35 (d := d_law_saying) rfl
  obtain ⟨fd_Order_keeps, G_Order_keeps, K_Order_keeps, B_Order_keeps⟩ := ok_Order_keeps (P := P) (w := w) (base := base) KX G c
  obtain ⟨fd_Saying_contrary, G_Saying_contrary, K_Saying_contrary, B_Saying_contrary⟩ := ok_Saying_contrary (P := P) (w := w) (base := base) KX G c
  obtain ⟨fd_law_keeps, G_law_keeps, K_law_keeps, B_law_keeps⟩ := ok_law_keeps (P := P) (w := w) (base := base) KX G c
  refine ⟨fd, fn_ok F sc_law_saying (by decide) rfl fun cdv A outer s H E hgd hr => ?_, F.kp, F.bindsN fun _ _ _ _ _ _ us hl => match us, hl with | [_, _, _, _], _ => rfl⟩
  have gd : (cxOf (L2.CX P w) P w K mg base N_law_saying "_law_saying" (defScope s_law_saying) (He.ga K "_law_saying") cdv A outer s H E).A.guards = some [] := deeper_guards.trans hgd
  have tk := L2.takes_of (X := cxOf (L2.CX P w) P w K mg base N_law_saying "_law_saying" (defScope s_law_saying) (He.ga K "_law_saying") cdv A outer s H E) rfl rfl rfl rfl
  have hp := L2.passes_of (X := cxOf (L2.CX P w) P w K mg base N_law_saying "_law_saying" (defScope s_law_saying) (He.ga K "_law_saying") cdv A outer s H E) rfl
  exact (dss_cons (ds_set (i := 4) (de_call G_law_keeps (.inl rfl) gd (hr.mono (by decide)) rfl (m__law_keeps KX G c) K_law_keeps B_law_keeps .nil (fun _ => Reps.nil) tk (ga_p (de_var (pv 1)) (ga_p (de_attr (c := 2) (j := 3) rfl (de_var (pv 2)) (cl_Saying c) (na_Saying_confirm c) rfl fx_Saying_confirm) (ga_p (de_attr (c := 2) (j := 4) rfl (de_var (pv 2)) (cl_Saying c) (na_Saying_broken c) rfl fx_Saying_broken) (ga_p (de_var (pv 3)) ga_nil))))) sc_law_saying.nd rfl (by first | exact Or.inl rfl | exact Or.inr rfl)) (dss_cons (ds_setLc (i := 5) (own := [("_law_day", 8)]) rfl sc_law_saying.nd rfl rfl (sw_true rfl rfl rfl (by decide +kernel)) (di_range1 rfl (m_range KX G c) (de_callB call_len cd_len rfl (m_len KX G c) boot_len (da_cons (de_var (pv 1)) da_nil))) (blkOk_by (by first | rfl | decide +kernel)) (fun _ _ _ _ _ => (dg_name (i := 8) sc_law_saying.nd rfl (by first | exact Or.inl rfl | exact Or.inr rfl))) (fun _ _ _ _ _ => (dts_one (dt_cmp op_eq cd_eqS (de_op2 op_and od_and (de_op2 op_shr od_shr (de_attr (c := 2) (j := 5) rfl (de_var (pv 2)) (cl_Saying c) (na_Saying_low c) rfl fx_Saying_low) (de_var (pv 8))) de_int) de_int))) (fun _ _ _ _ _ => (de_ix rfl (de_var (pv 1)) (de_var (pv 8)) (fun _ _ => rfl)))) (dss_cons (ds_setLc (i := 6) (own := [("_law_day", 8)]) rfl sc_law_saying.nd rfl rfl (sw_true rfl rfl rfl (by decide +kernel)) (di_range1 rfl (m_range KX G c) (de_callB call_len cd_len rfl (m_len KX G c) boot_len (da_cons (de_var (pv 1)) da_nil))) (blkOk_by (by first | rfl | decide +kernel)) (fun _ _ _ _ _ => (dg_name (i := 8) sc_law_saying.nd rfl (by first | exact Or.inl rfl | exact Or.inr rfl))) (fun _ _ _ _ _ => (dts_one (dt_cmp op_eq cd_eqS (de_op2 op_and od_and (de_op2 op_shr od_shr (de_attr (c := 2) (j := 6) rfl (de_var (pv 2)) (cl_Saying c) (na_Saying_high c) rfl fx_Saying_high) (de_var (pv 8))) de_int) de_int))) (fun _ _ _ _ _ => (de_ix rfl (de_var (pv 1)) (de_var (pv 8)) (fun _ _ => rfl)))) (dss_cons (ds_set (i := 7) (de_or (de_cmp (op_eqNil hr.units0) cd_eqNil (de_var (pv 6)) (de_lst da_nil pures_nil)) (de_one (de_and (de_cmp (op_neNil hr.units0) cd_neNil (de_var (pv 5)) (de_lst da_nil pures_nil)) (de_one (de_cmp op_ge cd_c2 (de_callB (cr_minT rfl) cd_minA rfl (m_min KX G c) (by decide +kernel) (da_cons (de_var (pv 6)) da_nil)) (de_op2 op_add od_add (de_callB (cr_minT rfl) cd_minA rfl (m_min KX G c) (by decide +kernel) (da_cons (de_var (pv 5)) da_nil)) (de_attr (c := 2) (j := 7) rfl (de_var (pv 2)) (cl_Saying c) (na_Saying_step c) rfl fx_Saying_step))))))) sc_law_saying.nd rfl (by first | exact Or.inl rfl | exact Or.inr rfl)) (dss_one (ds_ret (de_and (de_cmp op_eq cd_eqS (de_meth (.inl rfl) (de_var (pv 0)) (cl_Order c) (me_Order_keeps c) fm_Order_keeps G_Order_keeps gd (hr.mono (by decide)) B_Order_keeps .nil (fun _ => Reps.nil) tk (ga_p (de_var (pv 2)) ga_nil)) (de_var (pv 4))) (de_and (de_cmp op_ne cd_neS (de_meth (.inl rfl) (de_var (pv 0)) (cl_Order c) (me_Order_keeps c) fm_Order_keeps G_Order_keeps gd (hr.mono (by decide)) B_Order_keeps .nil (fun _ => Reps.nil) tk (ga_p (de_meth0 (.inl rfl) (de_var (pv 2)) (cl_Saying c) (me_Saying_contrary c) fm_Saying_contrary G_Saying_contrary gd (hr.mono (by decide)) B_Saying_contrary .nil (fun _ => Reps.nil) tk) ga_nil)) (de_var (pv 4))) (de_one (de_cmp op_eq cd_eqS (de_var (pv 7)) (de_var (pv 4))))))))))))
theorem ok_law_books (KX : K.In h) (G : h.Ns mainGlobals mg) (c : SaysV fa fn gs ex K) : ∃ fd, FnG P w K mg base (L2.CX P w) 8 (He.ga K "_law_books") fd ["_law_bag_here", "_law_orders_here", "_law_made", "_law_rows", "_law_sayings", "_law_book"] (spF (tab K) (kdOf false) 6 F_law_books) ∧ PySem.W.keepIn K (.ref (He.ga K "_law_books")) = true ∧ Binds K fd ["_law_bag_here", "_law_orders_here", "_law_made", "_law_rows", "_law_sayings", "_law_book"] [] := by
  obtain ⟨fd, F⟩ := c.d.def_ 36 (d := d_law_books) rfl
  obtain ⟨fd_Order_and, G_Order_and, K_Order_and, B_Order_and⟩ := ok_Order_and (P := P) (w := w) (base := base) KX G c
  obtain ⟨fd_Order_call, G_Order_call, K_Order_call, B_Order_call⟩ := ok_Order_call (P := P) (w := w) (base := base) KX G c
  obtain ⟨fd_Order_eq, G_Order_eq, K_Order_eq, B_Order_eq⟩ := ok_Order_eq (P := P) (w := w) (base := base) KX G c
  obtain ⟨fd_Order_init, G_Order_init, K_Order_init, B_Order_init⟩ := ok_Order_init (P := P) (w := w) (base := base) KX G c
  obtain ⟨fd_Order_iter, S_Order_iter, B_Order_iter⟩ := ok_Order_iter (P := P) (w := w) (base := base) KX G c
  obtain ⟨fd_Order_len, G_Order_len, K_Order_len, B_Order_len⟩ := ok_Order_len (P := P) (w := w) (base := base) KX G c
  obtain ⟨fd_Order_beneath, G_Order_beneath, K_Order_beneath, B_Order_beneath⟩ := ok_Order_beneath (P := P) (w := w) (base := base) KX G c
  obtain ⟨fd_Order_closed, G_Order_closed, K_Order_closed, B_Order_closed⟩ := ok_Order_closed (P := P) (w := w) (base := base) KX G c
  obtain ⟨fd_Order_keeps_all, G_Order_keeps_all, K_Order_keeps_all, B_Order_keeps_all⟩ := ok_Order_keeps_all (P := P) (w := w) (base := base) KX G c
  obtain ⟨fd_law_keeps, G_law_keeps, K_law_keeps, B_law_keeps⟩ := ok_law_keeps (P := P) (w := w) (base := base) KX G c
  obtain ⟨fd_law_of, G_law_of, K_law_of, B_law_of⟩ := ok_law_of (P := P) (w := w) (base := base) KX G c
  obtain ⟨fd_law_spread, G_law_spread, K_law_spread, B_law_spread⟩ := ok_law_spread (P := P) (w := w) (base := base) KX G c
  refine ⟨fd, fn_ok F sc_law_books (by decide) rfl fun cdv A outer s H E hgd hr => ?_, F.kp, F.bindsN fun _ _ _ _ _ _ us hl => match us, hl with | [_, _, _, _, _, _], _ => rfl⟩
  have gd : (cxOf (L2.CX P w) P w K mg base N_law_books "_law_books" (defScope s_law_books) (He.ga K "_law_books") cdv A outer s H E).A.guards = some [] := deeper_guards.trans hgd
  have tk := L2.takes_of (X := cxOf (L2.CX P w) P w K mg base N_law_books "_law_books" (defScope s_law_books) (He.ga K "_law_books") cdv A outer s H E) rfl rfl rfl rfl
  have hp := L2.passes_of (X := cxOf (L2.CX P w) P w K mg base N_law_books "_law_books" (defScope s_law_books) (He.ga K "_law_books") cdv A outer s H E) rfl
  exact (dss_cons (ds_setO (i := 6) (de_lst da_nil pures_nil) sc_law_books.nd rfl (by first | exact Or.inl rfl | exact Or.inr rfl)) (dss_cons (ds_for hp rfl (di_range1 rfl (m_range KX G c) (de_callB call_len cd_len rfl (m_len KX G c) boot_len (da_cons (de_var (pv 1)) da_nil))) (dg_name (i := 7) sc_law_books.nd rfl (by first | exact Or.inl rfl | exact Or.inr rfl)) (dss_cons (ds_setLc (i := 8) (own := [("_law_one", 11), ("_law_other", 12), ("_law_usual", 16)]) rfl sc_law_books.nd rfl rfl (sw_true rfl rfl rfl (by decide +kernel)) (di_list rfl (de_var (pv 3))) (blkOk_by (by first | rfl | decide +kernel)) (fun _ _ _ _ _ => (dg_tup rfl rfl (dgs_cons (dg_name (i := 11) sc_law_books.nd rfl (by first | exact Or.inl rfl | exact Or.inr rfl)) (dgs_cons (dg_name (i := 12) sc_law_books.nd rfl (by first | exact Or.inl rfl | exact Or.inr rfl)) (dgs_cons (dg_name (i := 16) sc_law_books.nd rfl (by first | exact Or.inl rfl | exact Or.inr rfl)) dgs_nil))))) (fun _ _ _ _ _ => dts_nil) (fun _ _ _ _ _ => (de_call G_law_keeps (.inl rfl) gd (hr.mono (by decide)) rfl (m__law_keeps KX G c) K_law_keeps B_law_keeps .nil (fun _ => Reps.nil) tk0 (ga_p (de_ix rfl (de_var (pv 1)) (de_var (pv 7)) (fun _ _ => rfl)) (ga_p (de_var (pv 11)) (ga_p (de_var (pv 12)) (ga_p (de_var (pv 16)) ga_nil))))))) (dss_cons (ds_set (i := 9) (de_ifExp (dt_cmp (op_inA (hu65 hr)) cd_inA de_bl (de_var (pv 8))) (de_idxL rfl (de_var (pv 8)) de_bl) de_non) sc_law_books.nd rfl (by first | exact Or.inl rfl | exact Or.inr rfl)) (dss_cons (ds_if (dt_w (dw_or (dt_cmp (op_neD hr.units) cd_neD (de_callO (c := 0) (.inl rfl) (de_ix rfl (de_var (pv 2)) (de_var (pv 7)) (fun _ _ => rfl)) (me_Order___call__ c) (fk_Order___call__ c) G_Order_call gd (hr.mono (by decide)) B_Order_call .nil (fun _ => Reps.nil) tk (ga_p (de_var (pv 5)) ga_nil)) (de_var (pv 9))) (dw_or1 (dt_cmp op_ne cd_neS (de_meth (.inl rfl) (de_ix rfl (de_var (pv 2)) (de_var (pv 7)) (fun _ _ => rfl)) (cl_Order c) (me_Order_keeps_all c) fm_Order_keeps_all G_Order_keeps_all gd (hr.mono (by decide)) B_Order_keeps_all .nil (fun _ => Reps.nil) tk (ga_p (de_var (pv 4)) ga_nil)) (de_cmp op_isN cd_isN (de_var (pv 9)) de_non))))) (dss_one (ds_ret de_bl)) dss_nil) (dss_one (ds_if (dt_cmp op_isN cd_isN (de_var (pv 9)) de_non) (dss_one (ds_expr (de_mt (i := 6) rfl PySem.F.plainAttrs_list PySem.F.slot_list_append PySem.F.type_list_append mt_append md_append (pv 6) (da_cons (de_var (pv 7)) da_nil) (pures_cons pures_nil)))) dss_nil)))))) (dss_cons (ds_for hp rfl (di_range1 rfl (m_range KX G c) de_int) (dg_name (i := 10) sc_law_books.nd rfl (by first | exact Or.inl rfl | exact Or.inr rfl)) (dss_pick (dss_one (ds_if (dt_cmp (op_neNil hr.units0) cd_neNil (de_ovar (pv 6)) (de_lst da_nil pures_nil) (hs := steady_lst0)) (dss_cons (ds_par (i := 11) (j := 12) rfl sc_law_books.nd rfl rfl (by decide) rfl rfl (de_call G_law_of (.inl rfl) gd (hr.mono (by decide)) rfl (m__law_of KX G c) K_law_of B_law_of .nil (fun _ => Reps.nil) tk (ga_o (pv 0) (ga_p (de_ofrz (pv 6)) ga_nil))) (de_call G_law_of (.inl rfl) gd (hr.mono (by decide)) rfl (m__law_of KX G c) K_law_of B_law_of .nil (fun _ => Reps.nil) tk (ga_o (pv 0) (ga_p (de_var (pv 6)) ga_nil)))) (dss_cons (ds_set (i := 13) (de_make (T := tab K) (c := 0) (mk_Order c) G_Order_init gd (hr.mono (by decide)) rfl (m_Order KX G c) B_Order_init .nil (fun _ => Reps.nil) tk (ga_p (de_call G_law_spread (.inl rfl) gd (hr.mono (by decide)) rfl (m__law_spread KX G c) K_law_spread B_law_spread .nil (fun _ => Reps.nil) tk (ga_o (pv 0) (ga_p (de_ix rfl (de_var (pv 1)) (de_var (pv 11)) (fun _ _ => rfl)) ga_nil))) ga_nil)) sc_law_books.nd rfl (by first | exact Or.inl rfl | exact Or.inr rfl)) (dss_cons (ds_set (i := 14) (de_opO rfl (me_Order___and__ c) (sf_Order c) G_Order_and gd (hr.mono (by decide)) B_Order_and tk (de_var (pv 13)) (de_ix rfl (de_var (pv 2)) (de_var (pv 12)) (fun _ _ => rfl))) sc_law_books.nd rfl (by first | exact Or.inl rfl | exact Or.inr rfl)) (dss_cons (ds_setLc (i := 15) (own := [("_law_a", 17), ("_law_b", 18)]) rfl sc_law_books.nd rfl rfl (sw_true rfl rfl rfl (by decide +kernel)) (di_zip rfl rfl (m_zip KX G c) (de_frz (de_lstO (k := 1) (c := 0) (j := 0) rfl rfl rfl fx_Order_layers (me_Order___iter__ c) (S_Order_iter.mono (by decide)) B_Order_iter (me_Order___len__ c) G_Order_len B_Order_len gd (hr.mono (by decide)) rfl (m_list KX G c) (de_var (pv 13)))) (de_ix rfl (de_var (pv 1)) (de_var (pv 12)) (fun _ _ => rfl))) (blkOk_by (by first | rfl | decide +kernel)) (fun _ _ _ _ _ => (dg_tup rfl rfl (dgs_cons (dg_name (i := 17) sc_law_books.nd rfl (by first | exact Or.inl rfl | exact Or.inr rfl)) (dgs_cons (dg_name (i := 18) sc_law_books.nd rfl (by first | exact Or.inl rfl | exact Or.inr rfl)) dgs_nil)))) (fun _ _ _ _ _ => dts_nil) (fun _ _ _ _ _ => (de_callB (call_min2 rfl) cd_ii rfl (m_min KX G c) (by decide +kernel) (da_cons (de_var (pv 17)) (da_cons (de_var (pv 18)) da_nil))))) (dss_cons (ds_if (dt_w (dw_or (dt_cmp (op_neD hr.units) cd_neD (de_lstO (k := 1) (c := 0) (j := 0) rfl rfl rfl fx_Order_layers (me_Order___iter__ c) (S_Order_iter.mono (by decide)) B_Order_iter (me_Order___len__ c) G_Order_len B_Order_len gd (hr.mono (by decide)) rfl (m_list KX G c) (de_var (pv 14))) (de_var (pv 15))) (dw_or (dt_not (dt_tr rfl (de_meth (.inl rfl) (de_var (pv 14)) (cl_Order c) (me_Order_keeps_all c) fm_Order_keeps_all G_Order_keeps_all gd (hr.mono (by decide)) B_Order_keeps_all .nil (fun _ => Reps.nil) tk (ga_p (de_var (pv 5)) ga_nil)) (by intro _; rfl))) (dw_or1 (dt_not (dt_tr rfl (de_meth (.inl rfl) (de_meth0 (.inl rfl) (de_var (pv 14)) (cl_Order c) (me_Order_closed c) fm_Order_closed G_Order_closed gd (hr.mono (by decide)) B_Order_closed .nil (fun _ => Reps.nil) tk) (cl_Order c) (me_Order_keeps_all c) fm_Order_keeps_all G_Order_keeps_all gd (hr.mono (by decide)) B_Order_keeps_all .nil (fun _ => Reps.nil) tk (ga_p (de_var (pv 5)) ga_nil)) (by intro _; rfl))))))) (dss_one (ds_ret de_bl)) dss_nil) (dss_one (ds_if (dt_w (dw_or (dt_cmp op_notN cd_notN (de_callO (c := 0) (.inl rfl) (de_var (pv 14)) (me_Order___call__ c) (fk_Order___call__ c) G_Order_call gd (hr.mono (by decide)) B_Order_call .nil (fun _ => Reps.nil) tk (ga_p (de_var (pv 4)) ga_nil)) de_non) (dw_or (dt_not (dt_cmpO (eq_Order KX G c) rfl (me_Order___eq__ c) G_Order_eq gd (hr.mono (by decide)) B_Order_eq (de_meth0 (.inl rfl) (de_var (pv 13)) (cl_Order c) (me_Order_closed c) fm_Order_closed G_Order_closed gd (hr.mono (by decide)) B_Order_closed .nil (fun _ => Reps.nil) tk) (de_ix rfl (de_var (pv 2)) (de_var (pv 11)) (fun _ _ => rfl)))) (dw_or1 (dt_not (dt_tr rfl (de_meth (.inl rfl) (de_var (pv 14)) (cl_Order c) (me_Order_beneath c) fm_Order_beneath G_Order_beneath gd (hr.mono (by decide)) B_Order_beneath .nil (fun _ => Reps.nil) tk (ga_p (de_var (pv 13)) ga_nil)) (by intro _; rfl))))))) (dss_one (ds_ret de_bl)) dss_nil))))))) dss_nil)) (dss_one (ds_if (dt_cmp (op_neNil hr.units0) cd_neNil (de_var (pv 6)) (de_lst da_nil pures_nil)) (dss_cons (ds_par (i := 11) (j := 12) rfl sc_law_books.nd rfl rfl (by decide) rfl rfl (de_call G_law_of (.inl rfl) gd (hr.mono (by decide)) rfl (m__law_of KX G c) K_law_of B_law_of .nil (fun _ => Reps.nil) tk (ga_o (pv 0) (ga_p (de_var (pv 6)) ga_nil))) (de_call G_law_of (.inl rfl) gd (hr.mono (by decide)) rfl (m__law_of KX G c) K_law_of B_law_of .nil (fun _ => Reps.nil) tk (ga_o (pv 0) (ga_p (de_var (pv 6)) ga_nil)))) (dss_cons (ds_set (i := 13) (de_make (T := tab K) (c := 0) (mk_Order c) G_Order_init gd (hr.mono (by decide)) rfl (m_Order KX G c) B_Order_init .nil (fun _ => Reps.nil) tk (ga_p (de_call G_law_spread (.inl rfl) gd (hr.mono (by decide)) rfl (m__law_spread KX G c) K_law_spread B_law_spread .nil (fun _ => Reps.nil) tk (ga_o (pv 0) (ga_p (de_ix rfl (de_var (pv 1)) (de_var (pv 11)) (fun _ _ => rfl)) ga_nil))) ga_nil)) sc_law_books.nd rfl (by first | exact Or.inl rfl | exact Or.inr rfl)) (dss_cons (ds_set (i := 14) (de_opO rfl (me_Order___and__ c) (sf_Order c) G_Order_and gd (hr.mono (by decide)) B_Order_and tk (de_var (pv 13)) (de_ix rfl (de_var (pv 2)) (de_var (pv 12)) (fun _ _ => rfl))) sc_law_books.nd rfl (by first | exact Or.inl rfl | exact Or.inr rfl)) (dss_cons (ds_setLc (i := 15) (own := [("_law_a", 17), ("_law_b", 18)]) rfl sc_law_books.nd rfl rfl (sw_true rfl rfl rfl (by decide +kernel)) (di_zip rfl rfl (m_zip KX G c) (de_frz (de_lstO (k := 1) (c := 0) (j := 0) rfl rfl rfl fx_Order_layers (me_Order___iter__ c) (S_Order_iter.mono (by decide)) B_Order_iter (me_Order___len__ c) G_Order_len B_Order_len gd (hr.mono (by decide)) rfl (m_list KX G c) (de_var (pv 13)))) (de_ix rfl (de_var (pv 1)) (de_var (pv 12)) (fun _ _ => rfl))) (blkOk_by (by first | rfl | decide +kernel)) (fun _ _ _ _ _ => (dg_tup rfl rfl (dgs_cons (dg_name (i := 17) sc_law_books.nd rfl (by first | exact Or.inl rfl | exact Or.inr rfl)) (dgs_cons (dg_name (i := 18) sc_law_books.nd rfl (by first | exact Or.inl rfl | exact Or.inr rfl)) dgs_nil)))) (fun _ _ _ _ _ => dts_nil) (fun _ _ _ _ _ => (de_callB (call_min2 rfl) cd_ii rfl (m_min KX G c) (by decide +kernel) (da_cons (de_var (pv 17)) (da_cons (de_var (pv 18)) da_nil))))) (dss_cons (ds_if (dt_w (dw_or (dt_cmp (op_neD hr.units) cd_neD (de_lstO (k := 1) (c := 0) (j := 0) rfl rfl rfl fx_Order_layers (me_Order___iter__ c) (S_Order_iter.mono (by decide)) B_Order_iter (me_Order___len__ c) G_Order_len B_Order_len gd (hr.mono (by decide)) rfl (m_list KX G c) (de_var (pv 14))) (de_var (pv 15))) (dw_or (dt_not (dt_tr rfl (de_meth (.inl rfl) (de_var (pv 14)) (cl_Order c) (me_Order_keeps_all c) fm_Order_keeps_all G_Order_keeps_all gd (hr.mono (by decide)) B_Order_keeps_all .nil (fun _ => Reps.nil) tk (ga_p (de_var (pv 5)) ga_nil)) (by intro _; rfl))) (dw_or1 (dt_not (dt_tr rfl (de_meth (.inl rfl) (de_meth0 (.inl rfl) (de_var (pv 14)) (cl_Order c) (me_Order_closed c) fm_Order_closed G_Order_closed gd (hr.mono (by decide)) B_Order_closed .nil (fun _ => Reps.nil) tk) (cl_Order c) (me_Order_keeps_all c) fm_Order_keeps_all G_Order_keeps_all gd (hr.mono (by decide)) B_Order_keeps_all .nil (fun _ => Reps.nil) tk (ga_p (de_var (pv 5)) ga_nil)) (by intro _; rfl))))))) (dss_one (ds_ret de_bl)) dss_nil) (dss_one (ds_if (dt_w (dw_or (dt_cmp op_notN cd_notN (de_callO (c := 0) (.inl rfl) (de_var (pv 14)) (me_Order___call__ c) (fk_Order___call__ c) G_Order_call gd (hr.mono (by decide)) B_Order_call .nil (fun _ => Reps.nil) tk (ga_p (de_var (pv 4)) ga_nil)) de_non) (dw_or (dt_not (dt_cmpO (eq_Order KX G c) rfl (me_Order___eq__ c) G_Order_eq gd (hr.mono (by decide)) B_Order_eq (de_meth0 (.inl rfl) (de_var (pv 13)) (cl_Order c) (me_Order_closed c) fm_Order_closed G_Order_closed gd (hr.mono (by decide)) B_Order_closed .nil (fun _ => Reps.nil) tk) (de_ix rfl (de_var (pv 2)) (de_var (pv 11)) (fun _ _ => rfl)))) (dw_or1 (dt_not (dt_tr rfl (de_meth (.inl rfl) (de_var (pv 14)) (cl_Order c) (me_Order_beneath c) fm_Order_beneath G_Order_beneath gd (hr.mono (by decide)) B_Order_beneath .nil (fun _ => Reps.nil) tk (ga_p (de_var (pv 13)) ga_nil)) (by intro _; rfl))))))) (dss_one (ds_ret de_bl)) dss_nil))))))) dss_nil)))) (dss_one (ds_ret de_bl)))))
theorem ok_law (KX : K.In h) (G : h.Ns mainGlobals mg) (c : SaysV fa fn gs ex K) : ∃ fd, (∀ (s : Shared) (v : Value), PySem.BindsTo s fd ⟨[v], []⟩ [("_law_script", v)]) ∧ ∀ base : Heap, FnG P w K mg base (L2.CX P w) 9 (He.ga K "law") fd ["_law_script"] (spF (tab K) .pure 1 F_law) := by
  obtain ⟨fd, F⟩ := c.d.def_ 37 (d := d_law) rfl
  have b := FunD.bindsA (ps := ["_law_script"]) F fun _ _ _ _ _ _ us hl => match us, hl with | [_], _ => rfl
  refine ⟨fd, fun s v => b s [v] rfl, fun base => ?_⟩
  obtain ⟨fd_Book_init, G_Book_init, K_Book_init, B_Book_init⟩ := ok_Book_init (P := P) (w := w) (base := base) KX G c
  obtain ⟨fd_Marks_init, G_Marks_init, K_Marks_init, B_Marks_init⟩ := ok_Marks_init (P := P) (w := w) (base := base) KX G c
  obtain ⟨fd_Order_init, G_Order_init, K_Order_init, B_Order_init⟩ := ok_Order_init (P := P) (w := w) (base := base) KX G c
  obtain ⟨fd_Saying_of_days, G_Saying_of_days, K_Saying_of_days, ⟨_, V_Saying_of_days_4, B_Saying_of_days_4⟩⟩ := ok_Saying_of_days (P := P) (w := w) (base := base) KX G c
  obtain ⟨fd_law_bag, G_law_bag, K_law_bag, B_law_bag⟩ := ok_law_bag (P := P) (w := w) (base := base) KX G c
  obtain ⟨fd_law_books, G_law_books, K_law_books, B_law_books⟩ := ok_law_books (P := P) (w := w) (base := base) KX G c
  obtain ⟨fd_law_of, G_law_of, K_law_of, B_law_of⟩ := ok_law_of (P := P) (w := w) (base := base) KX G c
  obtain ⟨fd_law_orders, G_law_orders, K_law_orders, B_law_orders⟩ := ok_law_orders (P := P) (w := w) (base := base) KX G c
  obtain ⟨fd_law_saying, G_law_saying, K_law_saying, B_law_saying⟩ := ok_law_saying (P := P) (w := w) (base := base) KX G c
  obtain ⟨fd_law_spread, G_law_spread, K_law_spread, B_law_spread⟩ := ok_law_spread (P := P) (w := w) (base := base) KX G c
  obtain ⟨fd_law_take, G_law_take, K_law_take, B_law_take⟩ := ok_law_take (P := P) (w := w) (base := base) KX G c
  refine fn_ok F sc_law (by decide) rfl fun cdv A outer s H E hgd hr => ?_
  have gd : (cxOf (L2.CX P w) P w K mg base N_law "law" (defScope s_law) (He.ga K "law") cdv A outer s H E).A.guards = some [] := deeper_guards.trans hgd
  have tk := L2.takes_of (X := cxOf (L2.CX P w) P w K mg base N_law "law" (defScope s_law) (He.ga K "law") cdv A outer s H E) rfl rfl rfl rfl
  have hp := L2.passes_of (X := cxOf (L2.CX P w) P w K mg base N_law "law" (defScope s_law) (He.ga K "law") cdv A outer s H E) rfl
  exact (dss_cons (ds_for hp rfl (di_range1 rfl (m_range KX G c) (de_callB (call_max2 rfl) cd_ii rfl (m_max KX G c) (by decide +kernel) (da_cons de_int (da_cons (de_callB (call_min2 rfl) cd_ii rfl (m_min KX G c) (by decide +kernel) (da_cons de_int (da_cons (de_callB call_len cd_len rfl (m_len KX G c) boot_len (da_cons (de_var (pv 0)) da_nil)) da_nil))) da_nil)))) (dg_name (i := 1) sc_law.nd rfl (by first | exact Or.inl rfl | exact Or.inr rfl)) (dss_cons (ds_setO (i := 2) (de_call G_law_bag (.inr rfl) gd (hr.mono (by decide)) rfl (m__law_bag KX G c) K_law_bag B_law_bag .nil (fun _ => Reps.nil) tk (ga_p (de_var (pv 0)) (ga_p (de_var (pv 1)) ga_nil))) sc_law.nd rfl (by first | exact Or.inl rfl | exact Or.inr rfl)) (dss_cons (ds_set (i := 3) (de_call G_law_of (.inl rfl) gd (hr.mono (by decide)) rfl (m__law_of KX G c) K_law_of B_law_of .nil (fun _ => Reps.nil) tk (ga_o (pv 2) (ga_p (de_frz (de_lst (da_cons de_int (da_cons de_int (da_cons de_int da_nil))) (pures_cons (pures_cons (pures_cons pures_nil))))) ga_nil))) sc_law.nd rfl (by first | exact Or.inl rfl | exact Or.inr rfl)) (dss_cons (ds_set (i := 4) (de_make (T := tab K) (c := 1) (mk_Marks c) G_Marks_init gd (hr.mono (by decide)) rfl (m_Marks KX G c) B_Marks_init .nil (fun _ => Reps.nil) tk (ga_p (de_frz (de_ifExp (dt_cmp op_eq cd_eqS (de_var (pv 3)) de_int) (de_lst (da_cons de_str da_nil) (pures_cons pures_nil)) (de_lst (da_cons de_str (da_cons de_str da_nil)) (pures_cons (pures_cons pures_nil))))) ga_nil)) sc_law.nd rfl (by first | exact Or.inl rfl | exact Or.inr rfl)) (dss_cons (ds_set (i := 5) (de_frz (de_call G_law_orders (.inr rfl) gd (hr.mono (by decide)) rfl (m__law_orders KX G c) K_law_orders B_law_orders .nil (fun _ => Reps.nil) tk (ga_p (de_var (pv 3)) ga_nil))) sc_law.nd rfl (by first | exact Or.inl rfl | exact Or.inr rfl)) (dss_cons (ds_if (dt_cmp op_ne cd_neS (de_callB call_len cd_len rfl (m_len KX G c) boot_len (da_cons (de_var (pv 5)) da_nil)) (de_ifExp (dt_cmp op_eq cd_eqS (de_var (pv 3)) de_int) de_int de_int)) (dss_one (ds_ret de_bl)) dss_nil) (dss_cons (ds_setLc (i := 6) (own := [("_law_row", 18)]) rfl sc_law.nd rfl rfl (sw_true rfl rfl rfl (by decide +kernel)) (di_list rfl (de_var (pv 5))) (blkOk_by (by first | rfl | decide +kernel)) (fun _ _ _ _ _ => (dg_name (i := 18) sc_law.nd rfl (by first | exact Or.inl rfl | exact Or.inr rfl))) (fun _ _ _ _ _ => dts_nil) (fun _ _ _ _ _ => (de_make (T := tab K) (c := 0) (mk_Order c) G_Order_init gd (hr.mono (by decide)) rfl (m_Order KX G c) B_Order_init .nil (fun _ => Reps.nil) tk0 (ga_p (de_var (pv 18)) ga_nil)))) (dss_cons (ds_parK (o1 := true) (o2 := true) (i := 7) (j := 8) rfl sc_law.nd rfl rfl (by decide) rfl rfl (de_lst da_nil pures_nil) (de_lst da_nil pures_nil)) (dss_cons (ds_for hp rfl (di_range1 rfl (m_range KX G c) (de_ifExp (dt_cmp op_eq cd_eqS (de_var (pv 3)) de_int) de_int de_int)) (dg_name (i := 9) sc_law.nd rfl (by first | exact Or.inl rfl | exact Or.inr rfl)) (dss_cons (ds_asg (de_tup (da_cons de_int (da_cons de_int da_nil)) (pures_cons (pures_cons pures_nil))) (dg_tup rfl rfl (dgs_cons (dg_name (i := 10) sc_law.nd rfl (by first | exact Or.inl rfl | exact Or.inr rfl)) (dgs_cons (dg_name (i := 11) sc_law.nd rfl (by first | exact Or.inl rfl | exact Or.inr rfl)) dgs_nil)))) (dss_cons (ds_for hp rfl (di_range1 rfl (m_range KX G c) (de_var (pv 3))) (dg_name (i := 12) sc_law.nd rfl (by first | exact Or.inl rfl | exact Or.inr rfl)) (dss_cons (ds_set (i := 13) (de_call G_law_take (.inl rfl) gd (hr.mono (by decide)) rfl (m__law_take KX G c) K_law_take B_law_take .nil (fun _ => Reps.nil) tk (ga_o (pv 2) (ga_p de_int ga_nil))) sc_law.nd rfl (by first | exact Or.inl rfl | exact Or.inr rfl)) (dss_cons (ds_set (i := 10) (de_op2 op_add od_add (de_var (pv 10)) (de_ifExp (dt_cmp op_eq cd_eqS (de_var (pv 13)) de_int) (de_op2 op_shlW od_shl de_int (de_var (pv 12))) de_int)) sc_law.nd rfl (by first | exact Or.inl rfl | exact Or.inr rfl)) (dss_one (ds_set (i := 11) (de_op2 op_add od_add (de_var (pv 11)) (de_ifExp (dt_cmp op_eq cd_eqS (de_var (pv 13)) de_int) (de_op2 op_shlW od_shl de_int (de_var (pv 12))) de_int)) sc_law.nd rfl (by first | exact Or.inl rfl | exact Or.inr rfl)))))) (dss_cons (ds_set (i := 10) (de_ifExp (dt_cmp op_gt cd_c2 (de_op2 op_add od_add (de_var (pv 10)) (de_var (pv 11))) de_int) (de_var (pv 10)) de_int) sc_law.nd rfl (by first | exact Or.inl rfl | exact Or.inr rfl)) (dss_cons (ds_set (i := 14) (de_cmp op_gt cd_c2 (de_call G_law_take (.inl rfl) gd (hr.mono (by decide)) rfl (m__law_take KX G c) K_law_take B_law_take .nil (fun _ => Reps.nil) tk (ga_o (pv 2) (ga_p de_int ga_nil))) de_int) sc_law.nd rfl (by first | exact Or.inl rfl | exact Or.inr rfl)) (dss_cons (ds_expr (de_mt (i := 7) rfl PySem.F.plainAttrs_list PySem.F.slot_list_append PySem.F.type_list_append mt_append md_append (pv 7) (da_cons (de_tup (da_cons (de_var (pv 10)) (da_cons (de_var (pv 11)) (da_cons (de_var (pv 14)) da_nil))) (pures_cons (pures_cons (pures_cons pures_nil)))) da_nil) (pures_cons pures_nil))) (dss_one (ds_expr (de_mt (i := 8) rfl PySem.F.plainAttrs_list PySem.F.slot_list_append PySem.F.type_list_append mt_append md_append (pv 8) (da_cons (de_cm rfl (m_Saying KX G c) (cm_Saying_of_days c) G_Saying_of_days gd (hr.mono (by decide)) B_Saying_of_days_4 V_Saying_of_days_4 (fun _ => Reps.nil) tk (ga_p (de_var (pv 10)) (ga_p (de_var (pv 11)) (ga_p (de_var (pv 14)) ga_nil)))) da_nil) (pures_cons pures_nil)))))))))) (dss_cons (ds_for hp rfl (di_range1 rfl (m_range KX G c) (de_callB call_len cd_len rfl (m_len KX G c) boot_len (da_cons (de_var (pv 5)) da_nil))) (dg_name (i := 15) sc_law.nd rfl (by first | exact Or.inl rfl | exact Or.inr rfl)) (dss_cons (ds_set (i := 16) (de_ifExp (dt_cmp op_eq cd_eqS (de_op2 op_modN od_mod (de_var (pv 15)) de_int) (de_var (pv 1))) (de_make (T := tab K) (c := 0) (mk_Order c) G_Order_init gd (hr.mono (by decide)) rfl (m_Order KX G c) B_Order_init .nil (fun _ => Reps.nil) tk (ga_p (de_call G_law_spread (.inl rfl) gd (hr.mono (by decide)) rfl (m__law_spread KX G c) K_law_spread B_law_spread .nil (fun _ => Reps.nil) tk (ga_o (pv 2) (ga_p (de_ix rfl (de_var (pv 5)) (de_var (pv 15)) (fun _ _ => rfl)) ga_nil))) ga_nil)) (de_ix rfl (de_var (pv 6)) (de_var (pv 15)) (fun _ _ => rfl))) sc_law.nd rfl (by first | exact Or.inl rfl | exact Or.inr rfl)) (dss_one (ds_for hp rfl (di_range1 rfl (m_range KX G c) (de_callB call_len cd_len rfl (m_len KX G c) boot_len (da_cons (de_ovar (pv 7)) da_nil (steady_args steady_nil)))) (dg_name (i := 17) sc_law.nd rfl (by first | exact Or.inl rfl | exact Or.inr rfl)) (dss_one (ds_if (dt_not (dt_tr rfl (de_call G_law_saying (.inl rfl) gd (hr.mono (by decide)) rfl (m__law_saying KX G c) K_law_saying B_law_saying .nil (fun _ => Reps.nil) tk (ga_p (de_var (pv 16)) (ga_p (de_ix rfl (de_var (pv 5)) (de_var (pv 15)) (fun _ _ => rfl)) (ga_p (de_ix rfl (de_ovar (pv 8)) (de_var (pv 17)) (fun _ _ => rfl) (hst := steady_var)) (ga_p (de_ix rfl (de_ix rfl (de_ovar (pv 7)) (de_var (pv 17)) (fun _ _ => rfl) (hst := steady_var)) de_int (fun _ _ => rfl)) ga_nil))))) (by intro _; rfl))) (dss_one (ds_ret de_bl)) dss_nil)))))) (dss_one (ds_if (dt_not (dt_tr rfl (de_call G_law_books (.inl rfl) gd (hr.mono (by decide)) rfl (m__law_books KX G c) K_law_books B_law_books .nil (fun _ => Reps.nil) tk (ga_o (pv 2) (ga_p (de_var (pv 5)) (ga_p (de_var (pv 6)) (ga_p (de_ofrz (pv 7)) (ga_p (de_ofrz (pv 8)) (ga_p (de_make (T := tab K) (c := 3) (mk_Book c) G_Book_init gd (hr.mono (by decide)) rfl (m_Book KX G c) B_Book_init .nil (fun _ => Reps.nil) tk (ga_p (de_var (pv 4)) (ga_p (de_var (pv 8)) ga_nil))) ga_nil))))))) (by intro _; rfl))) (dss_one (ds_ret de_bl)) dss_nil)))))))))))) (dss_one (ds_ret de_bl)))
end
end Lw

set_option linter.all false
set_option Elab.async false
set_option maxRecDepth 100000
set_option maxHeartbeats 4000000
namespace Lw
open PySem PySem.Spec L2 Ue
abbrev R : PySem.W.OpenRow := PySem.W.OpenLaw.row PySem.Challenge.rw_usualdays_k10_whole_kept_in_all_orders
abbrev hk : PySem.W.Hook := hookV 5 fa fn gs ex
def ob (s : PySem.W.SharedT) : AlV := obsV 5 fa fn gs ex (HandSHeadRun.getT s)
theorem ob_eq (s : PySem.W.SharedT) : ob s = hk.obs s.abs := obsV_eq (HandSHeadRun.getT_eq s)
theorem run (w : World) : HandSHeadRun.RunEq R (PySem.W.view R.prog [49]) hk ob 9000 ((["_wall", "days_in", "DaysError", "BadMarks", "NoMark", "NoDay", "BadSaying", "BadBook", "NoSaying", "BadLot", "OtherDays", "BadOrder", "is_whole", "COUNTS", "HIGHEST", "checked_layers", "check_days", "check_same_days", "first_not_kept", "Order", "LETTERS", "KEPT_WORDS", "MOST_MARKS", "LONGEST_NAME", "name_fault", "Marks", "ALL_BITS", "LAST_DAY", "Saying", "MOST_SAYINGS"] : List PySem.Str) ++ (["check_lot", "Book", "_law_bag", "_law_take", "_law_of", "_law_longer", "_law_orders", "_law_keeps", "_law_spread", "_law_saying", "_law_books"] : List PySem.Str)) w := by
  intro os
  kernel_rfl
end Lw

set_option linter.all false
set_option Elab.async false
set_option maxRecDepth 100000
set_option maxHeartbeats 4000000
set_option exponentiation.threshold 5000
namespace Lw
open PySem Ue
theorem take_ok {c m k n : Int} (h0 : 0 < n) (hn : Mid n) : ∃ d c' m' k', F_law_take [.own [.int c, .int m, .int k], .v (.int n)] = .ok (.int d) [.own [.int c', .int m', .int k'], .v (.int n)] ∧ 0 ≤ d ∧ d < n := by
  have e1 : n ≠ 0 := by omega
  have e2 := divOk_mid (i := c) e1 hn
  by_cases hc : 0 < c
  · refine ⟨c.fmod n, c.fdiv n, m, k, ?_, Int.fmod_nonneg_of_pos _ h0, Int.fmod_lt_of_pos _ h0⟩
    simp [u_law_take, L2.atI, L2.ixN, hc, e1, e2]
  · refine ⟨((((m * 48271 + 11 * (k + 1) + 7).fmod 2147483647 * 16807).fmod 2147483629).fdiv 64).fmod n, c, (m * 48271 + 11 * (k + 1) + 7).fmod 2147483647, k + 1, ?_, Int.fmod_nonneg_of_pos _ h0, Int.fmod_lt_of_pos _ h0⟩
    simp [u_law_take, L2.atI, L2.ixN, hc, e1, e2, mulOk_r, mulOk_l, divOk, small64]
theorem of_ok {c m k : Int} {ds : List D} (h0 : ds ≠ []) (hn : ds.length < 1000) : ∃ d c' m' k', F_law_of [.own [.int c, .int m, .int k], .v (.lst ds)] = .ok d [.own [.int c', .int m', .int k'], .v (.lst ds)] ∧ d ∈ ds := by
  have hl : 0 < ds.length := List.length_pos_iff.mpr h0
  obtain ⟨d, c', m', k', e, h1, h2⟩ := take_ok (c := c) (m := m) (k := k) (n := (ds.length : Int)) (by omega) (by unfold Mid; exact Nat.lt_of_lt_of_le (by omega : (ds.length : Int).natAbs < 2 ^ 10) (Nat.pow_le_pow_right (by decide) (by decide)))
  obtain ⟨j, rfl⟩ := Int.eq_ofNat_of_zero_le h1
  have hj : j < ds.length := by omega
  refine ⟨ds[j], c', m', k', ?_, List.getElem_mem hj⟩
  have e3 : L2.atI ds (j : Int) = some ds[j] := atI_nat (List.getElem?_eq_getElem hj)
  simp [u_law_of, e, e3]
theorem bag_ok {ns : List Int} {i : Nat} (hl : ns.length ≤ 63) : ∃ c m, F_law_bag [.v (.scr ns), .v (.int (i : Int))] = .ok (.lst [.int c, .int m, .int 0]) [.v (.scr ns), .v (.int (i : Int))] := by
  have z : (3 : Nat) ≤ sizeLine := by rw [show sizeLine = _ from sizeLine_eq]; decide
  have key : ∀ (c0 m0 : Int) (x4 x5 : Option EV), ∃ m e4 e5, forM (tgT [tgN 4, tgN 5]) L_law_bag_0 (enumL (cutD (ns.map D.int) none (some 63))) [some (.v (.scr ns)), some (.v (.int (i : Int))), some (.v (.int c0)), some (.v (.int m0)), x4, x5] = .nx [some (.v (.scr ns)), some (.v (.int (i : Int))), some (.v (.int c0)), some (.v (.int m)), e4, e5] := by
    intro c0 m0 x4 x5
    have step : ∀ d ∈ enumL (cutD (ns.map D.int) none (some 63)), ∀ e, (∃ (m : Int) (y4 y5 : Option EV), e = [some (.v (.scr ns)), some (.v (.int (i : Int))), some (.v (.int c0)), some (.v (.int m)), y4, y5]) → ∃ e1 e2, (tgT [tgN 4, tgN 5]) d e = some e1 ∧ (L_law_bag_0 e1 = .nx e2 ∨ L_law_bag_0 e1 = .cnt e2) ∧ (∃ (m : Int) (y4 y5 : Option EV), e2 = [some (.v (.scr ns)), some (.v (.int (i : Int))), some (.v (.int c0)), some (.v (.int m)), y4, y5]) := by
      rintro d hd e ⟨m, y4, y5, rfl⟩
      unfold enumL at hd
      obtain ⟨j, hj, rfl⟩ := List.mem_map.mp hd
      have hm : ∀ x ∈ cutD (ns.map D.int) none (some 63), ∃ n : Int, x = .int n := fun x hx => by
        unfold cutD at hx
        obtain ⟨n, _, rfl⟩ := List.mem_map.mp (List.mem_of_mem_drop (List.mem_of_mem_take hx))
        exact ⟨n, rfl⟩
      have hj : j < (cutD (ns.map D.int) none (some 63)).length := by simpa using hj
      obtain ⟨n, hn⟩ := hm _ (List.getElem_mem hj)
      have e : (cutD (ns.map D.int) none (some 63)).getD j .non = .int n := by rw [List.getD_eq_getElem?_getD, List.getElem?_eq_getElem hj, hn]; rfl
      rw [e]
      have w1 : mulOk m 40014 = true := mulOk_r (by decide)
      have w2 : mulOk 101 (j : Int) = true := mulOk_l (by decide)
      exact ⟨[some (.v (.scr ns)), some (.v (.int (i : Int))), some (.v (.int c0)), some (.v (.int m)), some (.v (.int j)), some (.v (.int n))], [some (.v (.scr ns)), some (.v (.int (i : Int))), some (.v (.int c0)), some (.v (.int ((m * 40014 + n.fmod 2147483543 + 101 * j).fmod 2147483563))), some (.v (.int j)), some (.v (.int n))], rfl, .inl (by simp [L_law_bag_0, w1, w2]), _, _, _, rfl⟩
    obtain ⟨e2, h1, m, y4, y5, rfl⟩ := forM_inv (g := tgT [tgN 4, tgN 5]) (s := L_law_bag_0) (fun e => ∃ (m : Int) (y4 y5 : Option EV), e = [some (.v (.scr ns)), some (.v (.int (i : Int))), some (.v (.int c0)), some (.v (.int m)), y4, y5]) (enumL (cutD (ns.map D.int) none (some 63))) _ step ⟨m0, x4, x5, rfl⟩
    exact ⟨m, y4, y5, h1⟩
  have w1 : mulOk 6997 (i : Int) = true := mulOk_l (by decide)
  have w2 : powOk 10 18 = true := by decide
  by_cases h : i < ns.length
  · have e3 : L2.atI ns (i : Int) = some ns[i] := atI_nat (List.getElem?_eq_getElem h)
    have h' : ((i : Int) < (ns.length : Int)) = True := eq_true (by omega)
    obtain ⟨m, e4, e5, e⟩ := key (if ns[i] < 0 then -ns[i] else ns[i]) (70003 + 6997 * (i : Int)) none none
    by_cases g : (1000000000000000000 : Int) ≤ (if ns[i] < 0 then -ns[i] else ns[i])
    · refine ⟨(if ns[i] < 0 then -ns[i] else ns[i]), m, ?_⟩
      simp [u_law_bag, e3, h', w1, w2, e, z, g]
    · refine ⟨0, m, ?_⟩
      simp [u_law_bag, e3, h', w1, w2, e, z, g]
  · have h' : ((i : Int) < (ns.length : Int)) = False := eq_false (by omega)
    obtain ⟨m, e4, e5, e⟩ := key 0 (70003 + 6997 * (i : Int)) none none
    refine ⟨0, m, ?_⟩
    simp [u_law_bag, h', w1, w2, e, z]
end Lw

set_option linter.all false
set_option Elab.async false
set_option maxRecDepth 100000
set_option maxHeartbeats 4000000
set_option exponentiation.threshold 5000
namespace Lw
open PySem Ue
/-! day sets -/
def nd (l : List Nat) : List D := l.map fun i : Nat => D.int (i : Int)
@[simp] theorem nd_len (l : List Nat) : (nd l).length = l.length := by simp [nd]
theorem nd_eq (l : List Nat) : nd l = (l.map fun i : Nat => (i : Int)).map D.int := by simp [nd]
def bitsN (m : Nat) : List Nat := (List.range 16).filter m.testBit
theorem div_int (m d : Nat) : (m : Int) / 2 ^ d = ((m / 2 ^ d : Nat) : Int) := by simp
theorem day_cond {m day : Nat} {x : Option EV} : (trM (op2M shrI (varM 0) (varM 2))) [some (.v (.int (m : Int))), x, some (.v (.int (day : Int)))] = .ok (decide (m / 2 ^ day ≠ 0)) [some (.v (.int (m : Int))), x, some (.v (.int (day : Int)))] := by
  have e : (m : Int) / 2 ^ day = ((m / 2 ^ day : Nat) : Int) := by simp
  have q : ((m : Int) / 2 ^ day != 0) = decide (m / 2 ^ day ≠ 0) := by
    rw [e]
    by_cases h : m / 2 ^ day = 0
    · rw [h]; rfl
    · have h' : ((m / 2 ^ day : Nat) : Int) ≠ 0 := by omega
      rw [decide_eq_true h, bne_iff_ne]; exact h'
  simp only [trM_s, op2M_s, varM_s, List.getElem?_cons_zero, List.getElem?_cons_succ, bind_ok, i2c_s, Int.toNat_natCast, show decide (0 ≤ (day : Int)) = true from decide_eq_true (by omega), if_true, liftO_s, truth_i, liftB_s, q]
theorem day_body {m day : Nat} {ds : List D} (hl : ds.length < sizeLine) : L_days_in_0 [some (.v (.int (m : Int))), some (.own ds), some (.v (.int (day : Int)))] = .nx [some (.v (.int (m : Int))), some (.own (if m.testBit day then ds ++ [.int (day : Int)] else ds)), some (.v (.int ((day + 1 : Nat) : Int)))] := by
  have hbit : m.testBit day = decide (m / 2 ^ day % 2 = 1) := Nat.testBit_eq_decide_div_mod_eq ..
  have e : ((m / 2 ^ day : Nat) : Int) = (m : Int) / 2 ^ day := by simp
  have hand : Builtin.bitAnd ((m : Int) / 2 ^ day) 1 = ((m / 2 ^ day % 2 : Nat) : Int) := by
    rw [← e]
    have := bitAnd_nat (m / 2 ^ day) 1
    rw [Nat.and_one_is_mod] at this
    exact this
  rcases Nat.mod_two_eq_zero_or_one (m / 2 ^ day) with h | h
  · have hb : m.testBit day = false := by rw [hbit, h]; rfl
    rw [h] at hand
    simp [L_days_in_0, hand, hb]
  · have hb : m.testBit day = true := by rw [hbit, h]; rfl
    rw [h] at hand
    simp [L_days_in_0, hand, hb, appG, hl]
theorem days_loop (m : Nat) (hm : m < 2 ^ 16) : ∀ (n day : Nat) (found : List Nat), 16 - day ≤ n → day ≤ 16 → found.length ≤ day →
    ∃ day' : Nat, whileM (trM (op2M shrI (varM 0) (varM 2))) L_days_in_0 (n + 1) [some (.v (.int (m : Int))), some (.own (nd found)), some (.v (.int (day : Int)))] = .nx [some (.v (.int (m : Int))), some (.own (nd (found ++ ((List.range 16).drop day).filter m.testBit))), some (.v (.int (day' : Int)))] := by
  intro n
  induction n with
  | zero =>
    intro day found h1 h2 h3
    have : day = 16 := by omega
    subst this
    refine ⟨16, ?_⟩
    have h0 : m / 2 ^ 16 = 0 := Nat.div_eq_of_lt hm
    have hd : (List.range 16).drop 16 = [] := rfl
    rw [whileM_s, day_cond, toS_ok, decide_eq_false (by omega), hd, List.filter_nil, List.append_nil]
    rfl
  | succ n ih =>
    intro day found h1 h2 h3
    rw [whileM_s, day_cond, toS_ok]
    by_cases h0 : m / 2 ^ day = 0
    · refine ⟨day, ?_⟩
      have hz : ((List.range 16).drop day).filter m.testBit = [] := by
        rw [List.filter_eq_nil_iff]
        intro i hi
        have hi' : day ≤ i := by
          rw [List.mem_drop_iff_getElem] at hi
          obtain ⟨j, hj, e⟩ := hi
          simp at e
          omega
        have hlt : m < 2 ^ i := Nat.lt_of_lt_of_le ((Nat.div_eq_zero_iff_lt (Nat.two_pow_pos day)).mp h0) (Nat.pow_le_pow_right (by decide) hi')
        simp [Nat.testBit_lt_two_pow hlt]
      rw [decide_eq_false (by omega), hz, List.append_nil]
      rfl
    · have hd : day < 16 := by
        rcases Nat.lt_or_ge day 16 with q | q
        · exact q
        · exfalso; exact h0 (Nat.div_eq_of_lt (Nat.lt_of_lt_of_le hm (Nat.pow_le_pow_right (by decide) q)))
      have hdr : (List.range 16).drop day = day :: (List.range 16).drop (day + 1) := by
        rw [List.drop_eq_getElem_cons (by simpa using hd)]; simp
      have hl : (nd found).length < sizeLine := by
        have : (nd found).length = found.length := by simp [nd]
        have z := z_le (n := 1000) (by omega)
        omega
      rw [decide_eq_true h0, if_pos rfl, day_body hl, loopS_nx, hdr]
      cases hb : m.testBit day with
      | true =>
        obtain ⟨day', e⟩ := ih (day + 1) (found ++ [day]) (by omega) (by omega) (by simp; omega)
        refine ⟨day', ?_⟩
        rw [List.filter_cons_of_pos (by simpa using hb), if_pos rfl]
        have e1 : nd found ++ [D.int (day : Int)] = nd (found ++ [day]) := by simp [nd]
        rw [e1, e, List.append_assoc]; rfl
      | false =>
        obtain ⟨day', e⟩ := ih (day + 1) found (by omega) (by omega) (by omega)
        refine ⟨day', ?_⟩
        rw [List.filter_cons_of_neg (by simp [hb])]
        exact e
theorem days_in_ok {m : Nat} (hm : m < 2 ^ 16) : F_days_in [.v (.int (m : Int))] = .ok (.tup (nd (bitsN m))) [.v (.int (m : Int))] := by
  obtain ⟨d', e⟩ := days_loop m hm 39 0 [] (by omega) (by omega) (by simp)
  rw [List.nil_append, List.drop_zero] at e
  have e' : whileM (trM (op2M shrI (varM 0) (varM 2))) L_days_in_0 40 [some (.v (.int (m : Int))), some (.own []), some (.v (.int 0))] = .nx [some (.v (.int (m : Int))), some (.own (nd (bitsN m))), some (.v (.int (d' : Int)))] := e
  simp [u_days_in, e', bitsN]
/-! ### orders -/
abbrev HI : Int := 1000000000000000000000000000000
def cnt (n : Nat) : Bool := decide (n = 2) || (decide (n = 4) || (decide (n = 8) || decide (n = 16)))
theorem cnt_in (n : Int) : inA (.int n) (.tup [.int 2, .int 4, .int 8, .int 16]) = some (decide (n ∈ ([2, 4, 8, 16] : List Int))) := by
  have := inA_ints (a := [2, 4, 8, 16]) (n := n)
  simpa only [List.map_cons, List.map_nil] using this
theorem cnt_nat (n : Nat) : decide ((n : Int) ∈ ([2, 4, 8, 16] : List Int)) = cnt n := by
  unfold cnt
  simp only [List.mem_cons, List.not_mem_nil, or_false, Bool.decide_or]
  congr 1
  · exact decide_eq_decide.mpr (by omega)
  · congr 1
    · exact decide_eq_decide.mpr (by omega)
    · congr 1 <;> exact decide_eq_decide.mpr (by omega)
theorem cnt_pos {n : Nat} (h : cnt n = true) : 0 < n ∧ n ≤ 16 := by
  unfold cnt at h
  simp only [Bool.or_eq_true, decide_eq_true_eq] at h
  omega
theorem cnt_cases {n : Nat} (h : cnt n = true) : n = 2 ∨ n = 4 ∨ n = 8 ∨ n = 16 := by
  unfold cnt at h
  simp only [Bool.or_eq_true, decide_eq_true_eq] at h
  exact h
theorem whole_i {x lo hi : Int} : F_is_whole [.v (.int x), .v (.int lo), .v (.int hi)] = .ok (.bl (decide (lo ≤ x) && decide (x ≤ hi))) [.v (.int x), .v (.int lo), .v (.int hi)] := by
  by_cases g : lo ≤ x <;> simp [u_is_whole, g]
/-- layers of an order -/
structure Lay (L : List Int) : Prop where
  cnt : cnt L.length = true
  rng : ∀ x ∈ L, 0 ≤ x ∧ x ≤ HI
  bot : minOf L = 0
theorem layers_loop {x0 : Option EV} {L : List Int} (h : ∀ x ∈ L, 0 ≤ x ∧ x ≤ HI) (x1 : Option EV) : ∃ y1, forM (tgN 1) L_checked_layers_0 (L.map D.int) [x0, x1] = .nx [x0, y1] := by
  induction L generalizing x1 with
  | nil => exact ⟨x1, rfl⟩
  | cons d L ih =>
    have hd := h d List.mem_cons_self
    obtain ⟨y1, e⟩ := ih (fun x hx => h x (List.mem_cons_of_mem _ hx)) (some (.v (.int d)))
    refine ⟨y1, ?_⟩
    have w := whole_i (x := d) (lo := 0) (hi := HI)
    rw [decide_eq_true hd.1, decide_eq_true hd.2] at w
    have st : L_checked_layers_0 [x0, some (.v (.int d))] = .nx [x0, some (.v (.int d))] := by simp [L_checked_layers_0, w]
    rw [List.map_cons, forM_c]
    simp [st, e]
theorem checked_ok {L : List Int} (h : Lay L) : F_checked_layers [.v (.lst (L.map D.int))] = .ok (.tup (L.map D.int)) [.v (.lst (L.map D.int))] := by
  have c := cnt_in (L.length : Int)
  rw [cnt_nat, h.cnt] at c
  obtain ⟨y1, e⟩ := layers_loop (x0 := some (.v (.lst (L.map D.int)))) h.rng none
  have hl : (L.map D.int).length = L.length := List.length_map ..
  generalize L.map D.int = X at *
  simp [u_checked_layers, hl, c, e]
def ordD (L : List Int) : D := .obj 0 [.tup (L.map D.int)]
theorem order_make {L : List Int} (h : Lay L) : F_Order_init [.new 0 [], .v (.lst (L.map D.int))] = .ok .non [.new 0 [.tup (L.map D.int)], .v (.lst (L.map D.int))] := by
  have c := checked_ok h
  obtain ⟨n, ns, e⟩ : ∃ n ns, L = n :: ns := by
    cases L with
    | nil => have := cnt_pos h.cnt; simp at this
    | cons n ns => exact ⟨n, ns, rfl⟩
  have m := minA_t (n := n) (ns := ns)
  rw [← e, h.bot] at m
  generalize L.map D.int = X at *
  simp [u_Order_init, c, m]
/-! ### days of a set, their layers -/
def lyr (L : List Int) (d : Nat) : Int := L.getD d 0
def daysIn (n s : Nat) : List Nat := (List.range n).filter s.testBit
theorem range_cut (p : Nat → Bool) (n : Nat) : ∀ k, (∀ i, n ≤ i → p i = false) → (List.range (n + k)).filter p = (List.range n).filter p
  | 0, _ => rfl
  | k + 1, h => by
    rw [← Nat.add_assoc, List.range_succ, List.filter_append, range_cut p n k h, List.filter_cons_of_neg (by rw [h _ (by omega)]; decide), List.filter_nil, List.append_nil]
theorem bits_days {n s : Nat} (hn : n ≤ 16) (h : s < 2 ^ n) : bitsN s = daysIn n s := by
  have := range_cut s.testBit n (16 - n) fun i hi => hi_bit h hi
  rw [show n + (16 - n) = 16 by omega] at this
  exact this
theorem mem_days {n s d : Nat} : d ∈ daysIn n s ↔ d < n ∧ s.testBit d = true := by simp [daysIn]
def lows (L : List Int) (s : Nat) : List Int := (daysIn L.length s).map (lyr L)
def leastO (L : List Int) (s : Nat) : Option Int := match lows L s with | [] => none | x :: xs => some (minOf (x :: xs))
def optD : Option Int → D | none => .non | some m => .int m
theorem ix_lyr {L : List Int} {d : Nat} (h : d < L.length) : L2.atI (L.map D.int) (d : Int) = some (.int (lyr L d)) := atI_nat (by rw [List.getElem?_map, List.getElem?_eq_getElem h]; simp [lyr, List.getD_eq_getElem?_getD, h])
theorem shr_0 {n s : Nat} : (s : Int) / 2 ^ n = ((s / 2 ^ n : Nat) : Int) := by simp
theorem check_ok {L : List Int} {s : Nat} (h : s < 2 ^ L.length) : F_check_days [.v (ordD L), .v (.int (s : Int))] = .ok .non [.v (ordD L), .v (.int (s : Int))] := by
  have hl : (L.map D.int).length = L.length := List.length_map ..
  have e : (s : Int) / 2 ^ L.length = 0 := by rw [shr_0, Nat.div_eq_of_lt h]; rfl
  unfold ordD
  generalize L.map D.int = X at *
  simp [u_check_days, hl, e]
theorem check_bad {L : List Int} {s : Nat} (h : 2 ^ L.length ≤ s) : F_check_days [.v (ordD L), .v (.int (s : Int))] = .exc 8 [] [.v (ordD L), .v (.int (s : Int))] := by
  have hl : (L.map D.int).length = L.length := List.length_map ..
  have e : ¬ (s : Int) / 2 ^ L.length = 0 := by
    rw [shr_0]
    have : 0 < s / 2 ^ L.length := Nat.div_pos h (Nat.two_pow_pos _)
    omega
  unfold ordD
  generalize L.map D.int = X at *
  simp [u_check_days, hl, e]
theorem low_comp {L : List Int} {l : List Nat} (hl : ∀ d ∈ l, d < L.length) {x1 : Option EV} : compL [2] (tgN 2) yesT (op2M ixD (attrM 0 0 (varM 0)) (varM 2)) (nd l) [some (.v (ordD L)), x1, none] = .ok ((l.map (lyr L)).map D.int) [some (.v (ordD L)), x1, none] := by
  rw [List.map_map]
  refine compL_map _ _ (by simp [vsOk]) l fun d hd => ⟨[some (.v (ordD L)), x1, some (.v (.int (d : Int)))], [some (.v (ordD L)), x1, some (.v (.int (d : Int)))], by simp, ?_, by simp [rest_one]⟩
  have e := ix_lyr (hl d hd)
  unfold ordD
  generalize L.map D.int = X at *
  generalize hy : lyr L d = y at *
  simp [e, hy]
theorem least_ok {L : List Int} {s : Nat} (hn : L.length ≤ 16) (h : s < 2 ^ L.length) : F_Order_least [.v (ordD L), .v (.int (s : Int))] = .ok (optD (leastO L s)) [.v (ordD L), .v (.int (s : Int))] := by
  have c := check_ok h
  have d := days_in_ok (m := s) (Nat.lt_of_lt_of_le h (Nat.pow_le_pow_right (by decide) hn))
  rw [bits_days hn h] at d
  have lc := low_comp (L := L) (l := daysIn L.length s) (fun d hd => (mem_days.mp hd).1) (x1 := some (.v (.int (s : Int))))
  have ll : (daysIn L.length s).length ≤ 16 := by
    have := List.length_filter_le s.testBit (List.range L.length)
    rw [List.length_range] at this
    exact Nat.le_trans this hn
  have z : (daysIn L.length s).length ≤ sizeLine := z_le (by omega)
  have di := dInts_map (lows L s)
  have el : (daysIn L.length s).map (lyr L) = lows L s := rfl
  rw [el] at lc
  clear el
  unfold leastO
  cases hw : lows L s with
  | nil =>
    rw [hw] at di lc
    simp at di lc
    unfold ordD at *
    simp [u_Order_least, c, d, z, lc, di, optD]
  | cons x xs =>
    rw [hw] at di lc
    unfold ordD at *
    generalize hX : (x :: xs).map D.int = XX at *
    simp [u_Order_least, c, d, z, lc, di, optD]
theorem least_bad {L : List Int} {s : Nat} (h : 2 ^ L.length ≤ s) : F_Order_least [.v (ordD L), .v (.int (s : Int))] = .exc 8 [] [.v (ordD L), .v (.int (s : Int))] := by
  have c := check_bad h
  unfold ordD at *
  simp [u_Order_least, c]
end Lw

set_option linter.all false
set_option Elab.async false
set_option maxRecDepth 100000
set_option maxHeartbeats 4000000
set_option exponentiation.threshold 5000
namespace Lw
open PySem Ue
/-! ### sayings -/
def lowN (w t : Nat) (u : Bool) : Nat := if u then w &&& t else br w t
def highN (w t : Nat) (u : Bool) : Nat := if u then br w t else w &&& t
def stepN (u : Bool) : Int := if u then 1 else 0
def sayF (w t : Nat) (u : Bool) : List D := [.int (w : Int), .int (t : Int), .bl u, .int ((w &&& t : Nat) : Int), .int ((br w t : Nat) : Int), .int ((lowN w t u : Nat) : Int), .int ((highN w t u : Nat) : Int), .int (stepN u)]
def sayD (w t : Nat) (u : Bool) : D := .obj 2 (sayF w t u)
theorem say_make {w t : Nat} {u : Bool} (h1 : 1 ≤ w) (h2 : w ≤ 65535) (h3 : t ≤ 65535) : F_Saying_init [.new 2 [], .v (.int (w : Int)), .v (.int (t : Int)), .v (.bl u)] = .ok .non [.new 2 (sayF w t u), .v (.int (w : Int)), .v (.int (t : Int)), .v (.bl u)] := by
  have e1 := whole_i (x := (w : Int)) (lo := 1) (hi := 65535)
  have e2 := whole_i (x := (t : Int)) (lo := 0) (hi := 65535)
  rw [decide_eq_true (by omega), decide_eq_true (by omega)] at e1
  rw [decide_eq_true (by omega), decide_eq_true (by omega)] at e2
  have b1 := bAnd w t
  have b2 := bAndN w t
  cases u <;> simp [u_Saying_init, e1, e2, b1, b2, sayF, lowN, highN, stepN]
theorem contrary_ok {w t : Nat} {u : Bool} (h1 : 1 ≤ w) (h2 : w ≤ 65535) (h3 : t ≤ 65535) : F_Saying_contrary [.v (sayD w t u)] = .ok (sayD w t (!u)) [.v (sayD w t u)] := by
  have m := say_make (u := !u) h1 h2 h3
  have l1 : (sayF w t u)[0]? = some (.int (w : Int)) := rfl
  have l2 : (sayF w t u)[1]? = some (.int (t : Int)) := rfl
  have l3 : (sayF w t u)[2]? = some (.bl u) := rfl
  have ll : (sayF w t (!u)).length = 8 := rfl
  unfold sayD
  generalize sayF w t u = F at *
  generalize sayF w t (!u) = G at *
  simp [u_Saying_contrary, l1, l2, l3, m, ll]
/-! ### keeping -/
def keepB (L : List Int) (lo hi : Nat) (st : Int) : Bool := match leastO L hi with
  | none => true
  | some h => match leastO L lo with | none => false | some l => decide (l + st ≤ h)
def keepR (L : List Int) (w t : Nat) (u : Bool) : Bool := keepB L (lowN w t u) (highN w t u) (stepN u)
theorem low_lt {n w t : Nat} {u : Bool} (h : w < 2 ^ n) : lowN w t u < 2 ^ n ∧ highN w t u < 2 ^ n := by
  have h1 := and_le w t
  have h2 := br_le w t
  cases u
  · exact ⟨Nat.lt_of_le_of_lt h2 h, Nat.lt_of_le_of_lt h1 h⟩
  · exact ⟨Nat.lt_of_le_of_lt h1 h, Nat.lt_of_le_of_lt h2 h⟩
theorem keeps_ok {L : List Int} {w t : Nat} {u : Bool} (hn : L.length ≤ 16) (hw : w < 2 ^ L.length) (ht : t < 2 ^ L.length) : F_Order_keeps [.v (ordD L), .v (sayD w t u)] = .ok (.bl (keepR L w t u)) [.v (ordD L), .v (sayD w t u)] := by
  obtain ⟨h1, h2⟩ := low_lt (t := t) (u := u) hw
  have c := check_ok (L := L) (s := w ||| t) (Nat.or_lt_two_pow hw ht)
  have b := bOr w t
  have q1 := least_ok hn h1
  have q2 := least_ok hn h2
  have l0 : (sayF w t u)[0]? = some (.int (w : Int)) := rfl
  have l1 : (sayF w t u)[1]? = some (.int (t : Int)) := rfl
  have l5 : (sayF w t u)[5]? = some (.int ((lowN w t u : Nat) : Int)) := rfl
  have l6 : (sayF w t u)[6]? = some (.int ((highN w t u : Nat) : Int)) := rfl
  have l7 : (sayF w t u)[7]? = some (.int (stepN u)) := rfl
  unfold keepR keepB
  unfold sayD
  generalize sayF w t u = F at *
  unfold ordD at *
  cases g1 : leastO L (highN w t u) with
  | none =>
    rw [g1] at q2
    simp only [optD] at q2
    simp [u_Order_keeps, l0, l1, l5, l6, b, c, q1, q2, isN]
  | some hh =>
    rw [g1] at q2
    simp only [optD] at q2
    cases g2 : leastO L (lowN w t u) with
    | none =>
      rw [g2] at q1
      simp only [optD] at q1
      simp [u_Order_keeps, l0, l1, l5, l6, l7, b, c, q1, q2, isN]
    | some ll =>
      rw [g2] at q1
      simp only [optD] at q1
      simp [u_Order_keeps, l0, l1, l5, l6, l7, b, c, q1, q2, isN]
theorem keeps_bad {L : List Int} {w t : Nat} {u : Bool} (h : 2 ^ L.length ≤ w ||| t) : F_Order_keeps [.v (ordD L), .v (sayD w t u)] = .exc 8 [] [.v (ordD L), .v (sayD w t u)] := by
  have c := check_bad (L := L) h
  have b := bOr w t
  have l0 : (sayF w t u)[0]? = some (.int (w : Int)) := rfl
  have l1 : (sayF w t u)[1]? = some (.int (t : Int)) := rfl
  unfold sayD
  generalize sayF w t u = F at *
  unfold ordD at *
  simp [u_Order_keeps, l0, l1, b, c]
/-! ### the mathematics of keeping -/
theorem min_mem (n : Int) (ns : List Int) : minOf (n :: ns) ∈ n :: ns := by
  obtain ⟨_, _, h⟩ := minOf_le ns n
  rcases h with h | h
  · rw [show minOf (n :: ns) = n from h]; exact List.mem_cons_self
  · exact List.mem_cons_of_mem _ h
theorem min_le {n : Int} {ns : List Int} {x : Int} (h : x ∈ n :: ns) : minOf (n :: ns) ≤ x := by
  obtain ⟨h1, h2, _⟩ := minOf_le ns n
  rcases List.mem_cons.mp h with rfl | h
  · exact h1
  · exact h2 x h
/-- m is the least layer of the days of s -/
def IsLeast (L : List Int) (s : Nat) (m : Int) : Prop := (∃ d, d < L.length ∧ s.testBit d = true ∧ lyr L d = m) ∧ ∀ d, d < L.length → s.testBit d = true → m ≤ lyr L d
theorem mem_lows {L : List Int} {s : Nat} {x : Int} : x ∈ lows L s ↔ ∃ d, d < L.length ∧ s.testBit d = true ∧ lyr L d = x := by
  unfold lows
  rw [List.mem_map]
  constructor
  · rintro ⟨d, hd, rfl⟩; exact ⟨d, (mem_days.mp hd).1, (mem_days.mp hd).2, rfl⟩
  · rintro ⟨d, h1, h2, rfl⟩; exact ⟨d, mem_days.mpr ⟨h1, h2⟩, rfl⟩
theorem least_some {L : List Int} {s : Nat} {m : Int} (h : leastO L s = some m) : IsLeast L s m := by
  unfold leastO at h
  cases q : lows L s with
  | nil => rw [q] at h; cases h
  | cons x xs =>
    rw [q] at h
    cases h
    constructor
    · exact mem_lows.mp (by rw [q]; exact min_mem x xs)
    · intro d h1 h2
      exact min_le (by rw [← q]; exact mem_lows.mpr ⟨d, h1, h2, rfl⟩)
theorem least_none {L : List Int} {s : Nat} (h : leastO L s = none) : ∀ d, d < L.length → s.testBit d = false := fun d hd => by
  unfold leastO at h
  cases q : lows L s with
  | cons x xs => rw [q] at h; cases h
  | nil =>
    cases b : s.testBit d with
    | false => rfl
    | true =>
      have : lyr L d ∈ lows L s := mem_lows.mpr ⟨d, hd, b, rfl⟩
      rw [q] at this; cases this
theorem has_day {n w : Nat} (h0 : 1 ≤ w) (h : w < 2 ^ n) : ∃ d, d < n ∧ w.testBit d = true := by
  refine Classical.byContradiction fun z => ?_
  have : w = 0 := Nat.eq_of_testBit_eq fun i => by
    rw [Nat.zero_testBit]
    rcases Nat.lt_or_ge i n with q | q
    · cases b : w.testBit i with
      | false => rfl
      | true => exact absurd ⟨i, q, b⟩ z
    · exact hi_bit h q
  omega
theorem bit_and (w t d : Nat) : (w &&& t).testBit d = (w.testBit d && t.testBit d) := Nat.testBit_and ..
/-- just one of a saying and its contrary is kept -/
theorem keep_not {L : List Int} {w t : Nat} (h0 : 1 ≤ w) (h : w < 2 ^ L.length) : keepR L w t false = !keepR L w t true := by
  obtain ⟨d, hd, hb⟩ := has_day h0 h
  unfold keepR keepB
  simp only [lowN, highN, stepN, if_true, Bool.false_eq_true, if_false]
  cases g1 : leastO L (w &&& t) with
  | none =>
    cases g2 : leastO L (br w t) with
    | none =>
      have z1 := least_none g1 d hd
      have z2 := least_none g2 d hd
      rw [bit_and, hb] at z1
      rw [br_bit, hb] at z2
      cases q : t.testBit d <;> rw [q] at z1 z2 <;> simp at z1 z2
    | some b => rfl
  | some c =>
    cases g2 : leastO L (br w t) with
    | none => rfl
    | some b =>
      show decide (b + 0 ≤ c) = !decide (c + 1 ≤ b)
      by_cases q : b ≤ c
      · rw [decide_eq_true (by omega), decide_eq_false (by omega)]; rfl
      · rw [decide_eq_false (by omega), decide_eq_true (by omega)]; rfl
theorem keep_contrary {L : List Int} {w t : Nat} {u : Bool} (h0 : 1 ≤ w) (h : w < 2 ^ L.length) : keepR L w t (!u) = !keepR L w t u := by
  have := keep_not (t := t) h0 h
  cases u
  · rw [this]; simp
  · exact this
/-- the normal days -/
def normB (L : List Int) (w d : Nat) : Bool := w.testBit d && (match leastO L w with | none => false | some m => decide (lyr L d = m))
def normL (L : List Int) (w : Nat) : List Nat := (List.range L.length).filter (normB L w)
theorem mem_norm {L : List Int} {w d : Nat} : d ∈ normL L w ↔ d < L.length ∧ normB L w d = true := by simp [normL]
/-- usually is kept just if the normal days of where are in then -/
theorem keep_normal {L : List Int} {w t : Nat} (h0 : 1 ≤ w) (h : w < 2 ^ L.length) : keepR L w t true = true ↔ ∀ d ∈ normL L w, t.testBit d = true := by
  obtain ⟨d0, hd0, hb0⟩ := has_day h0 h
  obtain ⟨m, gm⟩ : ∃ m, leastO L w = some m := by
    cases g : leastO L w with
    | none => have := least_none g d0 hd0; rw [hb0] at this; cases this
    | some m => exact ⟨m, rfl⟩
  obtain ⟨⟨dm, m1, m2, m3⟩, m4⟩ := least_some gm
  have nb : ∀ d, normB L w d = (w.testBit d && decide (lyr L d = m)) := fun d => by unfold normB; rw [gm]
  unfold keepR keepB
  simp only [lowN, highN, stepN, if_true]
  cases g2 : leastO L (br w t) with
  | none =>
    refine ⟨fun _ d hd => ?_, fun _ => rfl⟩
    obtain ⟨e1, e2⟩ := mem_norm.mp hd
    rw [nb, Bool.and_eq_true] at e2
    have z := least_none g2 d e1
    rw [br_bit, e2.1] at z
    simpa using z
  | some b =>
    obtain ⟨⟨db, b1, b2, b3⟩, b4⟩ := least_some g2
    rw [br_bit, Bool.and_eq_true] at b2
    cases g1 : leastO L (w &&& t) with
    | none =>
      refine ⟨fun z => (by cases z), fun z => ?_⟩
      have q := least_none g1 dm m1
      rw [bit_and, m2] at q
      have z := z dm (mem_norm.mpr ⟨m1, by rw [nb, m2, decide_eq_true m3]; rfl⟩)
      rw [z] at q; cases q
    | some c =>
      obtain ⟨⟨dc, c1, c2, c3⟩, c4⟩ := least_some g1
      rw [bit_and, Bool.and_eq_true] at c2
      show decide (c + 1 ≤ b) = true ↔ _
      rw [decide_eq_true_eq]
      constructor
      · intro q d hd
        obtain ⟨e1, e2⟩ := mem_norm.mp hd
        rw [nb, Bool.and_eq_true, decide_eq_true_eq] at e2
        cases ht : t.testBit d with
        | true => rfl
        | false =>
          have h1 := b4 d e1 (by rw [br_bit, e2.1, ht]; rfl)
          have h2 := m4 dc c1 c2.1
          omega
      · intro z
        have h1 := z dm (mem_norm.mpr ⟨m1, by rw [nb, m2, decide_eq_true m3]; rfl⟩)
        have h2 := c4 dm m1 (by rw [bit_and, m2, h1]; rfl)
        have h3 := m4 db b1 b2.1
        have h4 : lyr L db ≠ m := fun e => by
          have := z db (mem_norm.mpr ⟨b1, by rw [nb, b2.1, decide_eq_true e]; rfl⟩)
          rw [this] at b2
          exact absurd b2.2 (by decide)
        omega
theorem norm_has {L : List Int} {w : Nat} (h0 : 1 ≤ w) (h : w < 2 ^ L.length) : normL L w ≠ [] := fun z => by
  obtain ⟨d0, hd0, hb0⟩ := has_day h0 h
  cases g : leastO L w with
  | none => have := least_none g d0 hd0; rw [hb0] at this; cases this
  | some m =>
    obtain ⟨⟨dm, m1, m2, m3⟩, m4⟩ := least_some g
    have nb : normB L w dm = (w.testBit dm && decide (lyr L dm = m)) := by unfold normB; rw [g]
    have : dm ∈ normL L w := mem_norm.mpr ⟨m1, by rw [nb, m2, decide_eq_true m3]; rfl⟩
    rw [z] at this; cases this
end Lw

set_option linter.all false
set_option Elab.async false
set_option maxRecDepth 100000
set_option maxHeartbeats 4000000
set_option exponentiation.threshold 5000
namespace Lw
open PySem Ue
theorem eqD_ii {a b : Int} : eqD (.int a) (.int b) = some (decide (a = b)) := by
  simp [eqD, toPy, shaped_int, PyData.eqv]
  rfl
/-! ### rows of sayings -/
abbrev Rw := Nat × Nat × Bool
def rowD (r : Rw) : D := .tup [.int (r.1 : Int), .int (r.2.1 : Int), .bl r.2.2]
def objD (r : Rw) : D := sayD r.1 r.2.1 r.2.2
def kp (L : List Int) (r : Rw) : Bool := keepR L r.1 r.2.1 r.2.2
def Vr (n : Nat) (r : Rw) : Prop := 1 ≤ r.1 ∧ r.1 < 2 ^ n ∧ r.2.1 < 2 ^ n
def firstO (L : List Int) : Nat → List Rw → Option Nat
  | _, [] => none
  | j, r :: rs => if kp L r then firstO L (j + 1) rs else some j
def enumK : Nat → List D → List D
  | _, [] => []
  | j, d :: ds => .tup [.int (j : Int), d] :: enumK (j + 1) ds
theorem enumK_of (ds : List D) : ∀ (n j : Nat), j + n = ds.length → (List.range' j n).map (fun (i : Nat) => D.tup [.int (i : Int), ds.getD i .non]) = enumK j (ds.drop j)
  | 0, j, h => by rw [List.drop_of_length_le (by omega)]; rfl
  | n + 1, j, h => by
    rw [List.range'_succ, List.map_cons, enumK_of ds n (j + 1) (by omega), List.drop_eq_getElem_cons (by omega : j < ds.length)]
    rw [List.getD_eq_getElem?_getD, List.getElem?_eq_getElem (by omega : j < ds.length)]; rfl
theorem enumL_K (ds : List D) : enumL ds = enumK 0 ds := by
  have := enumK_of ds ds.length 0 (by omega)
  rw [List.drop_zero] at this
  unfold enumL
  rw [List.range_eq_range']
  exact this
theorem loop_ok {L : List Int} {x1 x3 : Option EV} : ∀ (rs : List Rw) (x2 : Option EV), (∀ r ∈ rs, Vr L.length r) → ∃ y2, forM (tgN 2) L_first_not_kept_0 (rs.map objD) [some (.v (ordD L)), x1, x2, x3] = .nx [some (.v (ordD L)), x1, y2, x3]
  | [], x2, _ => ⟨x2, rfl⟩
  | r :: rs, x2, h => by
    obtain ⟨v1, v2, v3⟩ := h r List.mem_cons_self
    obtain ⟨y2, e⟩ := loop_ok (x1 := x1) (x3 := x3) rs (some (.v (objD r))) (fun r hr => h r (List.mem_cons_of_mem _ hr))
    refine ⟨y2, ?_⟩
    have c := check_ok (L := L) (s := r.1 ||| r.2.1) (Nat.or_lt_two_pow v2 v3)
    have b := bOr r.1 r.2.1
    have l0 : (sayF r.1 r.2.1 r.2.2)[0]? = some (.int (r.1 : Int)) := rfl
    have l1 : (sayF r.1 r.2.1 r.2.2)[1]? = some (.int (r.2.1 : Int)) := rfl
    have st : L_first_not_kept_0 [some (.v (ordD L)), x1, some (.v (objD r)), x3] = .nx [some (.v (ordD L)), x1, some (.v (objD r)), x3] := by
      unfold objD sayD
      generalize sayF r.1 r.2.1 r.2.2 = F at *
      unfold ordD at *
      simp [L_first_not_kept_0, l0, l1, b, c]
    rw [List.map_cons, forM_c]
    simp [st, e]
theorem loop_bad {L : List Int} {x1 x3 : Option EV} : ∀ (rs : List Rw) (x2 : Option EV), (∃ r ∈ rs, 2 ^ L.length ≤ r.1 ||| r.2.1) → ∃ y2, forM (tgN 2) L_first_not_kept_0 (rs.map objD) [some (.v (ordD L)), x1, x2, x3] = .exc 8 [] [some (.v (ordD L)), x1, y2, x3]
  | [], x2, h => by obtain ⟨_, h, _⟩ := h; cases h
  | r :: rs, x2, h => by
    have b := bOr r.1 r.2.1
    have l0 : (sayF r.1 r.2.1 r.2.2)[0]? = some (.int (r.1 : Int)) := rfl
    have l1 : (sayF r.1 r.2.1 r.2.2)[1]? = some (.int (r.2.1 : Int)) := rfl
    by_cases g : 2 ^ L.length ≤ r.1 ||| r.2.1
    · refine ⟨some (.v (objD r)), ?_⟩
      have c := check_bad (L := L) g
      have st : L_first_not_kept_0 [some (.v (ordD L)), x1, some (.v (objD r)), x3] = .exc 8 [] [some (.v (ordD L)), x1, some (.v (objD r)), x3] := by
        unfold objD sayD
        generalize sayF r.1 r.2.1 r.2.2 = F at *
        unfold ordD at *
        simp [L_first_not_kept_0, l0, l1, b, c]
      rw [List.map_cons, forM_c]
      simp [st]
    · obtain ⟨y2, e⟩ := loop_bad (x1 := x1) (x3 := x3) rs (some (.v (objD r))) (by
        obtain ⟨q, hq, hb⟩ := h
        rcases List.mem_cons.mp hq with rfl | hq
        · exact absurd hb g
        · exact ⟨q, hq, hb⟩)
      refine ⟨y2, ?_⟩
      have c := check_ok (L := L) (s := r.1 ||| r.2.1) (by omega)
      have st : L_first_not_kept_0 [some (.v (ordD L)), x1, some (.v (objD r)), x3] = .nx [some (.v (ordD L)), x1, some (.v (objD r)), x3] := by
        unfold objD sayD
        generalize sayF r.1 r.2.1 r.2.2 = F at *
        unfold ordD at *
        simp [L_first_not_kept_0, l0, l1, b, c]
      rw [List.map_cons, forM_c]
      simp [st, e]
def ansS (o : Option Nat) (e : Ue.Env) : SR := match o with | none => .nx e | some k => .ret (.int (k : Int)) e
theorem loop_first {L : List Int} (hn : L.length ≤ 16) {x1 : Option EV} : ∀ (rs : List Rw) (j : Nat) (x2 x3 : Option EV), (∀ r ∈ rs, Vr L.length r) → ∃ y2 y3, forM (tgT [tgN 3, tgN 2]) L_first_not_kept_1 (enumK j (rs.map objD)) [some (.v (ordD L)), x1, x2, x3] = ansS (firstO L j rs) [some (.v (ordD L)), x1, y2, y3]
  | [], j, x2, x3, _ => ⟨x2, x3, rfl⟩
  | r :: rs, j, x2, x3, h => by
    obtain ⟨v1, v2, v3⟩ := h r List.mem_cons_self
    have k := keeps_ok (u := r.2.2) hn v2 v3
    have ek : keepR L r.1 r.2.1 r.2.2 = kp L r := rfl
    have eo : sayD r.1 r.2.1 r.2.2 = objD r := rfl
    rw [ek, eo] at k
    obtain ⟨y2, y3, e⟩ := loop_first hn (x1 := x1) rs (j + 1) (some (.v (objD r))) (some (.v (.int (j : Int)))) (fun r hr => h r (List.mem_cons_of_mem _ hr))
    cases g : kp L r with
    | true =>
      rw [g] at k
      refine ⟨y2, y3, ?_⟩
      have st : L_first_not_kept_1 [some (.v (ordD L)), x1, some (.v (objD r)), some (.v (.int (j : Int)))] = .nx [some (.v (ordD L)), x1, some (.v (objD r)), some (.v (.int (j : Int)))] := by
        unfold ordD at *
        simp [L_first_not_kept_1, k]
      rw [List.map_cons, enumK, forM_c, firstO, if_pos g]
      simp [st, e]
    | false =>
      rw [g] at k
      refine ⟨some (.v (objD r)), some (.v (.int (j : Int))), ?_⟩
      have st : L_first_not_kept_1 [some (.v (ordD L)), x1, some (.v (objD r)), some (.v (.int (j : Int)))] = .ret (.int (j : Int)) [some (.v (ordD L)), x1, some (.v (objD r)), some (.v (.int (j : Int)))] := by
        unfold ordD at *
        simp [L_first_not_kept_1, k]
      rw [List.map_cons, enumK, forM_c, firstO, if_neg (by rw [g]; decide)]
      simp [st, ansS]

def seqsX (rs : List Rw) (X : D) : Prop := X = .lst (rs.map objD) ∨ X = .tup (rs.map objD) ∨ ∃ mk, X = .obj 3 [mk, .tup (rs.map objD)]
def optN : Option Nat → D | none => .non | some k => .int (k : Int)
theorem first_ok {L : List Int} {rs : List Rw} {X : D} (hn : L.length ≤ 16) (h : ∀ r ∈ rs, Vr L.length r) (hX : seqsX rs X) : F_first_not_kept [.v (ordD L), .v X] = .ok (optN (firstO L 0 rs)) [.v (ordD L), .v X] := by
  obtain ⟨y2, e1⟩ := loop_ok (L := L) (x1 := some (.v X)) (x3 := none) rs none h
  obtain ⟨z2, z3, e2⟩ := loop_first hn (x1 := some (.v X)) rs 0 y2 none h
  rw [← enumL_K] at e2
  generalize ordD L = O at *
  rcases hX with rfl | rfl | ⟨mk, rfl⟩
  · generalize rs.map objD = Y at *
    cases g : firstO L 0 rs <;> rw [g] at e2 <;> simp [ansS] at e2 <;> simp [u_first_not_kept, e1, e2, optN]
  · generalize rs.map objD = Y at *
    cases g : firstO L 0 rs <;> rw [g] at e2 <;> simp [ansS] at e2 <;> simp [u_first_not_kept, e1, e2, optN]
  · generalize rs.map objD = Y at *
    cases g : firstO L 0 rs <;> rw [g] at e2 <;> simp [ansS] at e2 <;> simp [u_first_not_kept, e1, e2, optN]
theorem first_bad {L : List Int} {rs : List Rw} {X : D} (h : ∃ r ∈ rs, 2 ^ L.length ≤ r.1 ||| r.2.1) (hX : seqsX rs X) : F_first_not_kept [.v (ordD L), .v X] = .exc 8 [] [.v (ordD L), .v X] := by
  obtain ⟨y2, e1⟩ := loop_bad (L := L) (x1 := some (.v X)) (x3 := none) rs none h
  generalize ordD L = O at *
  rcases hX with rfl | rfl | ⟨mk, rfl⟩ <;> generalize rs.map objD = Y at * <;> simp [u_first_not_kept, e1]
theorem call_ok {L : List Int} {rs : List Rw} {X : D} (hn : L.length ≤ 16) (h : ∀ r ∈ rs, Vr L.length r) (hX : seqsX rs X) : F_Order_call [.v (ordD L), .v X] = .ok (optN (firstO L 0 rs)) [.v (ordD L), .v X] := by
  have e := first_ok hn h hX
  generalize ordD L = O at *
  simp [u_Order_call, e]
theorem call_bad {L : List Int} {rs : List Rw} {X : D} (h : ∃ r ∈ rs, 2 ^ L.length ≤ r.1 ||| r.2.1) (hX : seqsX rs X) : F_Order_call [.v (ordD L), .v X] = .exc 8 [] [.v (ordD L), .v X] := by
  have e := first_bad h hX
  generalize ordD L = O at *
  simp [u_Order_call, e]
theorem all_ok {L : List Int} {rs : List Rw} {X : D} (hn : L.length ≤ 16) (h : ∀ r ∈ rs, Vr L.length r) (hX : seqsX rs X) : F_Order_keeps_all [.v (ordD L), .v X] = .ok (.bl (firstO L 0 rs).isNone) [.v (ordD L), .v X] := by
  have e := first_ok hn h hX
  generalize ordD L = O at *
  cases g : firstO L 0 rs <;> rw [g] at e <;> simp [u_Order_keeps_all, e, optN, isN]
theorem all_bad {L : List Int} {rs : List Rw} {X : D} (h : ∃ r ∈ rs, 2 ^ L.length ≤ r.1 ||| r.2.1) (hX : seqsX rs X) : F_Order_keeps_all [.v (ordD L), .v X] = .exc 8 [] [.v (ordD L), .v X] := by
  have e := first_bad h hX
  generalize ordD L = O at *
  simp [u_Order_keeps_all, e]
end Lw

set_option linter.all false
set_option Elab.async false
set_option maxRecDepth 100000
set_option maxHeartbeats 4000000
set_option exponentiation.threshold 5000
namespace Lw
open PySem Ue
/-! ### marks and books -/
def KW : List Str := ["and", "any", "marks", "need", "never", "not", "or", "usually", "where"]
def LT : Str := "abcdefghijklmnopqrstuvwxyz"
theorem strs_in (a : List Str) (n : Str) (b : Bool) (h1 : PyData.strOk n = true) (h2 : a.all PyData.strOk = true) (h3 : decide (n ∈ a) = b) : inA (.str n) (.lst (a.map D.str)) = some b := by rw [inA_strs h1 h2, h3]
theorem name_ok (n : Str) (hl : lenD [.str n] = some (.int 1)) (sg : signs n = [.str n]) (hi : inStr (.str n) (.str LT) = some true) (hk : inA (.str n) (.tup (KW.map D.str)) = some false) : F_name_fault [.v (.str n)] = .ok .non [.v (.str n)] := by
  simp [LT] at hi
  simp [KW] at hk
  simp [u_name_fault, hl, sg, hi, hk, forM_c, L_name_fault_0]
theorem sg_a : signs "a" = [.str "a"] := rfl
theorem in_a : inStr (.str "a") (.str LT) = some true := by
  show some _ = _
  congr 1
  decide +kernel
theorem kw_a : inA (.str "a") (.tup (KW.map D.str)) = some false := by
  rw [inA_strsT (by decide +kernel) (by decide +kernel)]
  congr 1
theorem nm_a : F_name_fault [.v (.str "a")] = .ok .non [.v (.str "a")] := name_ok _ (by rfl) sg_a in_a kw_a
theorem sg_b : signs "b" = [.str "b"] := rfl
theorem in_b : inStr (.str "b") (.str LT) = some true := by
  show some _ = _
  congr 1
  decide +kernel
theorem kw_b : inA (.str "b") (.tup (KW.map D.str)) = some false := by
  rw [inA_strsT (by decide +kernel) (by decide +kernel)]
  congr 1
theorem nm_b : F_name_fault [.v (.str "b")] = .ok .non [.v (.str "b")] := name_ok _ (by rfl) sg_b in_b kw_b
theorem mark_step {kept : List Str} {n : Str} {j : Int} (hn : F_name_fault [.v (.str n)] = .ok .non [.v (.str n)]) (hi : inA (.str n) (.lst (kept.map D.str)) = some false) (hl : kept.length < 10) (x0 x1 x5 : Option EV) : L_Marks_init_0 [x0, x1, some (.own (kept.map D.str)), some (.v (.int j)), some (.v (.str n)), x5] = .nx [x0, x1, some (.own (kept.map D.str ++ [.str n])), some (.v (.int j)), some (.v (.str n)), some (.v .non)] := by
  have z : (kept.map D.str).length < sizeLine := by
    rw [List.length_map]
    have := z_le (n := 1000) (by omega)
    omega
  generalize kept.map D.str = X at *
  simp [L_Marks_init_0, hn, hi, isN, notN, appG, z]
theorem ms_a (x0 x1 x5 : Option EV) : L_Marks_init_0 [x0, x1, some (.own []), some (.v (.int 0)), some (.v (.str "a")), x5] = .nx [x0, x1, some (.own [.str "a"]), some (.v (.int 0)), some (.v (.str "a")), some (.v .non)] := mark_step (kept := []) nm_a (strs_in [] "a" false (by decide +kernel) (by decide +kernel) (by rfl)) (by decide) x0 x1 x5
theorem ms_b (x0 x1 x5 : Option EV) : L_Marks_init_0 [x0, x1, some (.own [.str "a"]), some (.v (.int 1)), some (.v (.str "b")), x5] = .nx [x0, x1, some (.own [.str "a", .str "b"]), some (.v (.int 1)), some (.v (.str "b")), some (.v .non)] := mark_step (kept := ["a"]) nm_b (strs_in ["a"] "b" false (by decide +kernel) (by decide +kernel) (by rfl)) (by decide) x0 x1 x5
def NM : List Str := ["a", "b", "c", "d"]
def mkF (k : Nat) : List D := [.tup ((NM.take k).map D.str), .int (k : Int), .int ((2 ^ k : Nat) : Int), .int ((2 ^ (2 ^ k) - 1 : Nat) : Int)]
def mkD (k : Nat) : D := .obj 1 (mkF k)
theorem marks_1 : F_Marks_init [.new 1 [], .v (.lst [.str "a"])] = .ok .non [.new 1 (mkF 1), .v (.lst [.str "a"])] := by
  have sh : shlOk 1 1 = true := shl1 (i := 1) (by decide)
  have sh2 : shlOk 1 2 = true := shl1 (i := 2) (by decide)
  have z := z_le (n := 4) (by decide)
  have e : enumL [D.str "a"] = [.tup [.int 0, .str "a"]] := rfl
  simp [u_Marks_init, e, forM_c, ms_a, sh, sh2, mkF, NM]
theorem marks_2 : F_Marks_init [.new 1 [], .v (.lst [.str "a", .str "b"])] = .ok .non [.new 1 (mkF 2), .v (.lst [.str "a", .str "b"])] := by
  have sh : shlOk 1 2 = true := shl1 (i := 2) (by decide)
  have sh2 : shlOk 1 4 = true := shl1 (i := 4) (by decide)
  have z := z_le (n := 4) (by decide)
  have e : enumL [D.str "a", .str "b"] = [.tup [.int 0, .str "a"], .tup [.int 1, .str "b"]] := rfl
  simp [u_Marks_init, e, forM_c, ms_a, ms_b, sh, sh2, mkF, NM]
end Lw

set_option linter.all false
set_option Elab.async false
set_option maxRecDepth 100000
set_option maxHeartbeats 4000000
set_option exponentiation.threshold 5000
namespace Lw
open PySem Ue
theorem p16 {n x : Nat} (hn : n ≤ 16) (h : x < 2 ^ n) : x ≤ 65535 := by
  have := Nat.pow_le_pow_right (n := 2) (by decide) hn
  have : 2 ^ 16 = 65536 := by decide
  omega
/-! ### books of valid sayings -/
theorem book_loop {k : Nat} {x0 x2 : Option EV} : ∀ (rs : List Rw) (j : Nat) (x3 x4 : Option EV), (∀ r ∈ rs, Vr (2 ^ k) r) → ∃ y3 y4, forM (tgT [tgN 3, tgN 4]) L_Book_init_0 (enumK j (rs.map objD)) [x0, some (.v (mkD k)), x2, x3, x4] = .nx [x0, some (.v (mkD k)), x2, y3, y4]
  | [], j, x3, x4, _ => ⟨x3, x4, rfl⟩
  | r :: rs, j, x3, x4, h => by
    obtain ⟨v1, v2, v3⟩ := h r List.mem_cons_self
    obtain ⟨y3, y4, e⟩ := book_loop (x0 := x0) (x2 := x2) rs (j + 1) (some (.v (.int (j : Int)))) (some (.v (objD r))) (fun r hr => h r (List.mem_cons_of_mem _ hr))
    refine ⟨y3, y4, ?_⟩
    have b := bOr r.1 r.2.1
    have lt := Nat.or_lt_two_pow v2 v3
    have l0 : (sayF r.1 r.2.1 r.2.2)[0]? = some (.int (r.1 : Int)) := rfl
    have l1 : (sayF r.1 r.2.1 r.2.2)[1]? = some (.int (r.2.1 : Int)) := rfl
    have l3 : (mkF k)[3]? = some (.int ((2 ^ (2 ^ k) - 1 : Nat) : Int)) := rfl
    have g : ¬ (((2 ^ (2 ^ k) - 1 : Nat) : Int) < ((r.1 ||| r.2.1 : Nat) : Int)) := by omega
    have st : L_Book_init_0 [x0, some (.v (mkD k)), x2, some (.v (.int (j : Int))), some (.v (objD r))] = .nx [x0, some (.v (mkD k)), x2, some (.v (.int (j : Int))), some (.v (objD r))] := by
      unfold objD sayD mkD
      generalize sayF r.1 r.2.1 r.2.2 = F at *
      generalize mkF k = G at *
      generalize (((2 ^ (2 ^ k) - 1 : Nat) : Nat) : Int) = A at *
      generalize ((r.1 ||| r.2.1 : Nat) : Int) = B at *
      simp [L_Book_init_0, l0, l1, l3, b, g]
    rw [List.map_cons, enumK, forM_c]
    simp [st, e]
theorem book_ok {k : Nat} {rs : List Rw} (hl : rs.length ≤ 12) (h : ∀ r ∈ rs, Vr (2 ^ k) r) : F_Book_init [.new 3 [], .v (mkD k), .v (.lst (rs.map objD))] = .ok .non [.new 3 [mkD k, .tup (rs.map objD)], .v (mkD k), .v (.lst (rs.map objD))] := by
  obtain ⟨y3, y4, e⟩ := book_loop (k := k) (x0 := some (.new 3 [])) (x2 := some (.v (.lst (rs.map objD)))) rs 0 none none h
  rw [← enumL_K] at e
  have ll : (rs.map objD).length = rs.length := List.length_map ..
  have l12 : ¬ (12 : Int) < (rs.length : Int) := by omega
  have z : rs.length ≤ sizeLine := z_le (by omega)
  generalize rs.map objD = X at *
  unfold mkD at *
  generalize mkF k = G at *
  simp [u_Book_init, e, ll, l12, z]
end Lw

set_option linter.all false
set_option Elab.async false
set_option maxRecDepth 100000
set_option maxHeartbeats 8000000
set_option exponentiation.threshold 5000
namespace Lw
open PySem Ue
/-! ### all orders without gaps -/
def lD (r : List Int) : D := .lst (r.map D.int)
def rngI (n : Nat) : List Int := (List.range n).map fun i : Nat => (i : Int)
def longer (n : Nat) (R : List (List Int)) : List (List Int) := R.flatMap fun r => (rngI n).map fun i => r ++ [i]
def rowsK (n : Nat) : Nat → List (List Int)
  | 0 => [[]]
  | k + 1 => longer n (rowsK n k)
theorem rng_eq (n : Nat) : rngL 0 n = (rngI n).map D.int := by simp [rngL, rngI]
theorem long_in {x0 x1 : Option EV} {r : List Int} (hr : r.length < 60) : ∀ (is : List Int) (acc : List D) (x4 : Option EV), acc.length + is.length < 1000 → ∃ y4, forM (tgN 4) L_law_longer_0 (is.map D.int) [x0, x1, some (.own acc), some (.v (lD r)), x4] = .nx [x0, x1, some (.own (acc ++ (is.map fun i => lD (r ++ [i])))), some (.v (lD r)), y4]
  | [], acc, x4, _ => ⟨x4, by simp⟩
  | i :: is, acc, x4, h => by
    rw [List.length_cons] at h
    obtain ⟨y4, e⟩ := long_in (x0 := x0) (x1 := x1) hr is (acc ++ [lD (r ++ [i])]) (some (.v (.int i))) (by rw [List.length_append, List.length_singleton]; omega)
    refine ⟨y4, ?_⟩
    have z := z_le (n := 1000) (by omega)
    have z1 := z_le (n := 1) (by omega)
    have l1 : acc.length < sizeLine := by omega
    have l2 : (r.map D.int).length + 1 ≤ sizeLine := by rw [List.length_map]; omega
    have ca : catL (.lst (r.map D.int)) (.lst [.int i]) = some (lD (r ++ [i])) := by
      unfold lD
      rw [List.map_append]
      show ite ((r.map D.int).length + [D.int i].length ≤ sizeLine) (some (D.lst (r.map D.int ++ [D.int i]))) none = _
      rw [if_pos (show (r.map D.int).length + [D.int i].length ≤ sizeLine from l2)]; rfl
    have st : L_law_longer_0 [x0, x1, some (.own acc), some (.v (lD r)), some (.v (.int i))] = .nx [x0, x1, some (.own (acc ++ [lD (r ++ [i])])), some (.v (lD r)), some (.v (.int i))] := by
      generalize lD (r ++ [i]) = Z at *
      unfold lD at *
      generalize r.map D.int = X at *
      simp [L_law_longer_0, ca, appG, l1, z1]
    rw [List.map_cons, forM_c]
    simp [st, e]
theorem long_out {n : Nat} (hn : n ≤ 4) {x0 : Option EV} : ∀ (R : List (List Int)) (acc : List D) (x3 x4 : Option EV), (∀ r ∈ R, r.length < 60) → acc.length + 4 * R.length < 1000 → ∃ y3 y4, forM (tgN 3) L_law_longer_1 (R.map lD) [x0, some (.v (.int (n : Int))), some (.own acc), x3, x4] = .nx [x0, some (.v (.int (n : Int))), some (.own (acc ++ (longer n R).map lD)), y3, y4]
  | [], acc, x3, x4, _, _ => ⟨x3, x4, by simp [longer]⟩
  | r :: R, acc, x3, x4, h, hl => by
    rw [List.length_cons] at hl
    have ln : (rngI n).length = n := by simp [rngI]
    obtain ⟨z4, e1⟩ := long_in (x0 := x0) (x1 := some (.v (.int (n : Int)))) (h r List.mem_cons_self) (rngI n) acc x4 (by rw [ln]; omega)
    obtain ⟨y3, y4, e2⟩ := long_out hn (x0 := x0) R (acc ++ (rngI n).map fun i => lD (r ++ [i])) (some (.v (lD r))) z4 (fun r hr => h r (List.mem_cons_of_mem _ hr)) (by rw [List.length_append, List.length_map, ln]; omega)
    refine ⟨y3, y4, ?_⟩
    have b62 : -(2 : Int) ^ 62 ≤ (n : Int) ∧ (n : Int) < 2 ^ 62 := by omega
    simp at b62
    rw [← rng_eq] at e1
    have st : L_law_longer_1 [x0, some (.v (.int (n : Int))), some (.own acc), some (.v (lD r)), x4] = .nx [x0, some (.v (.int (n : Int))), some (.own (acc ++ (rngI n).map fun i => lD (r ++ [i]))), some (.v (lD r)), z4] := by
      generalize lD r = RR at *
      simp [L_law_longer_1, b62, e1]
    have el : (longer n (r :: R)).map lD = ((rngI n).map fun i => lD (r ++ [i])) ++ (longer n R).map lD := by
      unfold longer
      rw [List.flatMap_cons, List.map_append, List.map_map]; rfl
    rw [List.map_cons, forM_c, el, ← List.append_assoc]
    generalize lD r = RR at *
    simp [st, e2]
theorem longer_ok {n : Nat} (hn : n ≤ 4) {R : List (List Int)} (h : ∀ r ∈ R, r.length < 60) (hl : R.length ≤ 200) : F_law_longer [.v (.lst (R.map lD)), .v (.int (n : Int))] = .ok (.lst ((longer n R).map lD)) [.v (.lst (R.map lD)), .v (.int (n : Int))] := by
  obtain ⟨y3, y4, e⟩ := long_out hn (x0 := some (.v (.lst (R.map lD)))) R [] none none h (by simp; omega)
  rw [List.nil_append] at e
  generalize R.map lD = X at *
  generalize (longer n R).map lD = Y at *
  simp [u_law_longer, e]
def goodR (r : List Int) : Bool := decide (0 ∈ r) && decide (((sortU r).length : Int) = maxOf r + 1)
def ORDS (n : Nat) : List (List Int) := (rowsK n n).filter goodR
theorem orders_ok {n : Nat} (hn : n = 2 ∨ n = 4) : F_law_orders [.v (.int (n : Int))] = .ok (.lst ((ORDS n).map lD)) [.v (.int (n : Int))] := by
  have key : ∀ k, k ≤ n → (∀ r ∈ rowsK n k, r.length = k) ∧ (k < n → (rowsK n k).length ≤ 200) := by
    intro k hk
    rcases hn with rfl | rfl
    · have : k = 0 ∨ k = 1 ∨ k = 2 := by omega
      rcases this with rfl | rfl | rfl <;> decide +kernel
    · have : k = 0 ∨ k = 1 ∨ k = 2 ∨ k = 3 ∨ k = 4 := by omega
      rcases this with rfl | rfl | rfl | rfl | rfl <;> decide +kernel
  have h4 : n ≤ 4 ∧ 2 ≤ n := by omega
  obtain ⟨e2, lp, x2, rfl⟩ := forM_rng (g := tgN 2) (s := L_law_orders_0) (fun i e => ∃ x2, e = [some (.v (.int (n : Int))), some (.v (.lst ((rowsK n i).map lD))), x2, none]) n [some (.v (.int (n : Int))), some (.v (.lst [.lst []])), none, none] (by
    rintro i hi e ⟨x2, rfl⟩
    obtain ⟨h1, h2⟩ := key i (by omega)
    have lg := longer_ok h4.1 (R := rowsK n i) (fun r hr => by rw [h1 r hr]; omega) (h2 hi)
    have el : longer n (rowsK n i) = rowsK n (i + 1) := rfl
    rw [el] at lg
    refine ⟨_, _, rfl, .inl ?_, some (.v (.int (i : Int))), rfl⟩
    generalize (rowsK n i).map lD = X at *
    generalize (rowsK n (i + 1)).map lD = Y at *
    simp [L_law_orders_0, lg]) ⟨none, rfl⟩
  have c := compL_mapF (vs := [3]) (g := tgN 3) (tt := (andT (cmpM inA (cM (.int 0)) (varM 3)) (cmpM eqS (lenSetM (varM 3)) (op2M addI (callM maxAD [(varM 3)]) (cM (.int 1)))))) (te := varM 3) (env := [some (.v (.int (n : Int))), some (.v (.lst ((rowsK n n).map lD))), x2, none]) lD lD goodR (by simp [vsOk]) (rowsK n n) (fun r hr => by
    refine ⟨[some (.v (.int (n : Int))), some (.v (.lst ((rowsK n n).map lD))), x2, some (.v (lD r))], [some (.v (.int (n : Int))), some (.v (.lst ((rowsK n n).map lD))), x2, some (.v (lD r))], by simp, ?_, fun _ => by simp [rest_one], fun _ => ⟨[some (.v (.int (n : Int))), some (.v (.lst ((rowsK n n).map lD))), x2, some (.v (lD r))], by simp, by simp [rest_one]⟩⟩
    have hl := (key n (Nat.le_refl _)).1 r hr
    have i0 := inA_intsL (a := r) (n := 0)
    obtain ⟨a, as, rfl⟩ : ∃ a as, r = a :: as := by
      cases r with
      | nil => simp at hl; omega
      | cons a as => exact ⟨a, as, rfl⟩
    have mx := maxA_l (n := a) (ns := as)
    have di := dInts_map (a :: as)
    have ll : (a :: as).length < 60 := by rw [hl]; omega
    unfold goodR
    generalize (rowsK n n).map lD = X at *
    unfold lD
    generalize hz : (a :: as) = r at *
    generalize maxOf r = M at *
    generalize r.map D.int = R1 at *
    by_cases g : 0 ∈ r
    · simp [i0, g, di, ll, mx]
    · simp [i0, g, di, ll, mx])
  have z : (rowsK n n).length ≤ sizeLine := by
    have : (rowsK n n).length ≤ 1000 := by rcases hn with rfl | rfl <;> decide +kernel
    exact z_le this
  have z2 : (ORDS n).length ≤ sizeLine := Nat.le_trans (List.length_filter_le _ _) z
  have b62 : -(2 : Int) ^ 62 ≤ (n : Int) ∧ (n : Int) < 2 ^ 62 := by omega
  simp at b62
  have z1 := z_le (n := 1) (by omega)
  have l1 : ((rowsK n n).map lD).length = (rowsK n n).length := List.length_map ..
  have eo : (rowsK n n).filter goodR = ORDS n := rfl
  rw [eo] at c
  generalize (rowsK n n).map lD = X at *
  generalize (ORDS n).map lD = Y at *
  simp [u_law_orders, lp, c, b62, z1, z, l1]
end Lw

set_option linter.all false
set_option Elab.async false
set_option maxRecDepth 100000
set_option maxHeartbeats 8000000
set_option exponentiation.threshold 5000
namespace Lw
open PySem Ue
/-! ### rising maps -/
def MonoOn (f : Int → Int) (L : List Int) : Prop := ∀ x ∈ L, ∀ y ∈ L, x < y → f x < f y
theorem MonoOn.le {f : Int → Int} {L : List Int} (h : MonoOn f L) {x y : Int} (hx : x ∈ L) (hy : y ∈ L) (e : x ≤ y) : f x ≤ f y := by
  rcases Int.lt_or_eq_of_le e with e | e
  · exact Int.le_of_lt (h x hx y hy e)
  · rw [e]; exact Int.le_refl _
theorem MonoOn.lt {f : Int → Int} {L : List Int} (h : MonoOn f L) {x y : Int} (hx : x ∈ L) (hy : y ∈ L) : f x < f y ↔ x < y := by
  refine ⟨fun e => ?_, h x hx y hy⟩
  rcases Int.lt_or_le x y with g | g
  · exact g
  · have := h.le hy hx g; omega
theorem MonoOn.inj {f : Int → Int} {L : List Int} (h : MonoOn f L) {x y : Int} (hx : x ∈ L) (hy : y ∈ L) (e : f x = f y) : x = y := by
  have h1 := h.lt hx hy
  have h2 := h.lt hy hx
  have : ¬ x < y := fun z => by have := h1.mpr z; omega
  have : ¬ y < x := fun z => by have := h2.mpr z; omega
  omega
theorem min_eq {n : Int} {ns : List Int} {m : Int} (h1 : m ∈ n :: ns) (h2 : ∀ x ∈ n :: ns, m ≤ x) : minOf (n :: ns) = m := Int.le_antisymm (min_le h1) (h2 _ (min_mem n ns))
theorem min_map {f : Int → Int} {n : Int} {ns : List Int} (h : MonoOn f (n :: ns)) : minOf ((n :: ns).map f) = f (minOf (n :: ns)) := by
  have m := min_mem n ns
  refine min_eq (n := f n) (ns := ns.map f) (List.mem_map_of_mem m) fun x hx => ?_
  obtain ⟨y, hy, rfl⟩ := List.mem_map.mp (show x ∈ (n :: ns).map f from hx)
  exact h.le m hy (min_le hy)
theorem sortU_map {f : Int → Int} {L : List Int} (h : MonoOn f L) : sortU (L.map f) = (sortU L).map f := by
  refine up_uniq (sortU_up _) ?_ fun x => ?_
  · rw [List.pairwise_map]
    exact (sortU_up L).imp_of_mem fun ha hb e => h _ ((sortU_mem _ L).mp ha) _ ((sortU_mem _ L).mp hb) e
  · rw [sortU_mem, List.mem_map, List.mem_map]
    constructor
    · rintro ⟨y, hy, e⟩; exact ⟨y, (sortU_mem y L).mpr hy, e⟩
    · rintro ⟨y, hy, e⟩; exact ⟨y, (sortU_mem y L).mp hy, e⟩
/-! ### places -/
def idxN (x : Int) : List Int → Nat
  | [] => 0
  | y :: l => if y = x then 0 else idxN x l + 1
theorem idx_find (x : Int) : ∀ S : List Int, x ∈ S → S.findIdx? (· == x) = some (idxN x S)
  | [], h => nomatch h
  | y :: l, h => by
    rw [List.findIdx?_cons]
    unfold idxN
    by_cases e : y = x
    · subst e; simp
    · have hx : x ∈ l := by
        rcases List.mem_cons.mp h with h | h
        · exact absurd h.symm e
        · exact h
      have : (y == x) = false := by simpa using e
      simp [this, e, idx_find x l hx]
theorem idx_lt {x y : Int} : ∀ S : List Int, S.Pairwise (· < ·) → x ∈ S → y ∈ S → x < y → idxN x S < idxN y S
  | [], _, h, _, _ => nomatch h
  | a :: l, p, hx, hy, e => by
    obtain ⟨p1, p2⟩ := List.pairwise_cons.mp p
    have hya : y ∈ l := by
      rcases List.mem_cons.mp hy with h | h
      · rcases List.mem_cons.mp hx with g | g
        · omega
        · have := p1 x g; omega
      · exact h
    have hne : ¬ a = y := by have := p1 y hya; omega
    unfold idxN
    rw [if_neg hne]
    by_cases e2 : a = x
    · rw [if_pos e2]; omega
    · rw [if_neg e2]
      have hxa : x ∈ l := by
        rcases List.mem_cons.mp hx with h | h
        · exact absurd h.symm e2
        · exact h
      have := idx_lt l p2 hxa hya e
      omega
theorem idx_map {f : Int → Int} {x : Int} : ∀ S : List Int, MonoOn f S → x ∈ S → idxN (f x) (S.map f) = idxN x S
  | [], _, h => nomatch h
  | a :: l, m, h => by
    rw [List.map_cons]
    unfold idxN
    by_cases e : a = x
    · subst e; simp
    · have hx : x ∈ l := by
        rcases List.mem_cons.mp h with h | h
        · exact absurd h.symm e
        · exact h
      have ne : ¬ f a = f x := fun z => e (m.inj List.mem_cons_self h z)
      rw [if_neg e, if_neg ne, idx_map l (fun x hx y hy => m x (List.mem_cons_of_mem _ hx) y (List.mem_cons_of_mem _ hy)) hx]
theorem idx_len (x : Int) : ∀ S : List Int, idxN x S ≤ S.length
  | [] => Nat.le_refl _
  | a :: l => by
    unfold idxN
    have := idx_len x l
    rw [List.length_cons]
    split <;> omega
def closeL (L : List Int) : List Int := L.map fun x => ((idxN x (sortU L) : Nat) : Int)
theorem close_mono (L : List Int) : MonoOn (fun x => ((idxN x (sortU L) : Nat) : Int)) L := fun x hx y hy e => by
  have := idx_lt (sortU L) (sortU_up L) ((sortU_mem x L).mpr hx) ((sortU_mem y L).mpr hy) e
  show ((idxN x (sortU L) : Nat) : Int) < ((idxN y (sortU L) : Nat) : Int)
  omega
theorem close_map {f : Int → Int} {L : List Int} (h : MonoOn f L) : closeL (L.map f) = closeL L := by
  unfold closeL
  rw [sortU_map h, List.map_map]
  refine List.map_congr_left fun x hx => ?_
  have h' : MonoOn f (sortU L) := fun a ha b hb => h a ((sortU_mem a L).mp ha) b ((sortU_mem b L).mp hb)
  show ((idxN (f x) ((sortU L).map f) : Nat) : Int) = _
  rw [idx_map (sortU L) h' ((sortU_mem x L).mpr hx)]
theorem ins_len (a : Int) : ∀ l, (insU a l).length ≤ l.length + 1
  | [] => by simp [insU]
  | b :: l => by
    unfold insU
    have := ins_len a l
    split
    · simp
    · split
      · simp
      · rw [List.length_cons, List.length_cons]; omega
theorem sortU_len : ∀ L : List Int, (sortU L).length ≤ L.length
  | [] => Nat.le_refl _
  | a :: L => by
    have h1 := ins_len a (sortU L)
    have h2 := sortU_len L
    show (insU a (sortU L)).length ≤ _
    rw [List.length_cons]; omega
theorem lay_cons {L : List Int} (h : Lay L) : ∃ n ns, L = n :: ns := by
  cases L with
  | nil => have := cnt_pos h.cnt; simp at this
  | cons n ns => exact ⟨n, ns, rfl⟩
theorem lay_map {f : Int → Int} {L : List Int} (h : Lay L) (m : MonoOn f L) (h0 : f 0 = 0) (hr : ∀ x ∈ L, f x ≤ HI) : Lay (L.map f) := by
  obtain ⟨n, ns, rfl⟩ := lay_cons h
  have b := h.bot
  have mm := min_mem n ns
  rw [b] at mm
  refine ⟨by rw [List.length_map]; exact h.cnt, fun x hx => ?_, by rw [min_map m, b, h0]⟩
  obtain ⟨y, hy, rfl⟩ := List.mem_map.mp hx
  refine ⟨?_, hr y hy⟩
  rw [← h0]
  exact m.le mm hy (h.rng y hy).1
theorem lay_close {L : List Int} (h : Lay L) : Lay (closeL L) := by
  obtain ⟨n, ns, e⟩ := lay_cons h
  have hn := (cnt_pos h.cnt).2
  refine lay_map h (close_mono L) ?_ fun x hx => ?_
  · have m0 : (0 : Int) ∈ L := by rw [← h.bot, e]; exact min_mem n ns
    have hs := (sortU_mem 0 L).mpr m0
    have up := sortU_up L
    have nn : ∀ x ∈ sortU L, 0 ≤ x := fun x hx => (h.rng x ((sortU_mem x L).mp hx)).1
    cases q : sortU L with
    | nil => rw [q] at hs; cases hs
    | cons a l =>
      rw [q] at hs up nn
      have ha := nn a List.mem_cons_self
      obtain ⟨p1, _⟩ := List.pairwise_cons.mp up
      have : a = 0 := by
        rcases List.mem_cons.mp hs with h | h
        · exact h.symm
        · have := p1 0 h; omega
      subst this
      simp [idxN]
  · have h1 := idx_len x (sortU L)
    have h2 := sortU_len L
    show ((idxN x (sortU L) : Nat) : Int) ≤ HI
    have : (16 : Int) ≤ HI := by decide
    omega
/-! ### keeping, and rising maps -/
theorem lyr_map {f : Int → Int} {L : List Int} {d : Nat} (h : d < L.length) : lyr (L.map f) d = f (lyr L d) := by
  unfold lyr
  rw [List.getD_eq_getElem?_getD, List.getD_eq_getElem?_getD, List.getElem?_map, List.getElem?_eq_getElem h]; rfl
theorem lyr_mem {L : List Int} {d : Nat} (h : d < L.length) : lyr L d ∈ L := by
  unfold lyr
  rw [List.getD_eq_getElem?_getD, List.getElem?_eq_getElem h]
  exact List.getElem_mem h
theorem lows_map {f : Int → Int} {L : List Int} {s : Nat} : lows (L.map f) s = (lows L s).map f := by
  unfold lows
  rw [List.map_map, List.length_map]
  exact List.map_congr_left fun d hd => lyr_map (mem_days.mp hd).1
theorem lows_sub {L : List Int} {s : Nat} {x : Int} (h : x ∈ lows L s) : x ∈ L := by
  obtain ⟨d, h1, _, rfl⟩ := mem_lows.mp h
  exact lyr_mem h1
theorem least_map {f : Int → Int} {L : List Int} {s : Nat} (h : MonoOn f L) : leastO (L.map f) s = (leastO L s).map f := by
  unfold leastO
  rw [lows_map]
  cases q : lows L s with
  | nil => rfl
  | cons x xs =>
    have h' : MonoOn f (x :: xs) := fun a ha b hb => h a (lows_sub (by rw [q]; exact ha)) b (lows_sub (by rw [q]; exact hb))
    show some (minOf ((x :: xs).map f)) = some (f (minOf (x :: xs)))
    rw [min_map h']
theorem least_mem {L : List Int} {s : Nat} {m : Int} (h : leastO L s = some m) : m ∈ L := by
  obtain ⟨⟨d, h1, _, rfl⟩, _⟩ := least_some h
  exact lyr_mem h1
theorem keep_map {f : Int → Int} {L : List Int} {w t : Nat} {u : Bool} (h : MonoOn f L) : keepR (L.map f) w t u = keepR L w t u := by
  unfold keepR keepB
  rw [least_map h, least_map h]
  cases g1 : leastO L (highN w t u) with
  | none => rfl
  | some a =>
    cases g2 : leastO L (lowN w t u) with
    | none => rfl
    | some b =>
      show decide (f b + stepN u ≤ f a) = decide (b + stepN u ≤ a)
      have m1 := least_mem g1
      have m2 := least_mem g2
      have e1 := h.lt m2 m1
      have e2 := h.lt m1 m2
      cases u
      · show decide (f b + 0 ≤ f a) = decide (b + 0 ≤ a)
        rw [decide_eq_decide]; omega
      · show decide (f b + 1 ≤ f a) = decide (b + 1 ≤ a)
        rw [decide_eq_decide]; omega
/-! ### the order of the lesser layers -/
def minL (A B : List Int) : List Int := (A.zip B).map fun p => if p.2 < p.1 then p.2 else p.1
theorem minL_len {A B : List Int} (h : B.length = A.length) : (minL A B).length = A.length := by
  unfold minL
  rw [List.length_map, List.length_zip]; omega
theorem minL_lyr {A B : List Int} (h : B.length = A.length) {d : Nat} (hd : d < A.length) : lyr (minL A B) d = if lyr B d < lyr A d then lyr B d else lyr A d := by
  unfold lyr minL
  have hb : d < B.length := by omega
  have ez : (A.zip B)[d]? = some (A[d], B[d]) := List.getElem?_zip_eq_some.mpr ⟨List.getElem?_eq_getElem hd, List.getElem?_eq_getElem hb⟩
  simp only [List.getD_eq_getElem?_getD, List.getElem?_map, ez, List.getElem?_eq_getElem hd, List.getElem?_eq_getElem hb]
  rfl
theorem least_uniq {L : List Int} {s : Nat} {a b : Int} (ha : IsLeast L s a) (hb : IsLeast L s b) : a = b := by
  obtain ⟨⟨d, h1, h2, rfl⟩, h3⟩ := ha
  obtain ⟨⟨e, k1, k2, rfl⟩, k3⟩ := hb
  have := h3 e k1 k2
  have := k3 d h1 h2
  omega
theorem least_minL {A B : List Int} (h : B.length = A.length) {s : Nat} {a b : Int} (ha : leastO A s = some a) (hb : leastO B s = some b) : leastO (minL A B) s = some (if b < a then b else a) := by
  have la := least_some ha
  have lb := least_some hb
  obtain ⟨⟨d, h1, h2, h3⟩, h4⟩ := la
  obtain ⟨⟨e, k1, k2, k3⟩, k4⟩ := lb
  cases q : leastO (minL A B) s with
  | none =>
    have := least_none q d (by rw [minL_len h]; exact h1)
    rw [h2] at this; cases this
  | some m =>
    refine congrArg some (least_uniq (least_some q) ⟨?_, fun j hj hb => ?_⟩)
    · by_cases g : b < a
      · refine ⟨e, by rw [minL_len h]; omega, k2, ?_⟩
        have := h4 e (by omega) k2
        rw [minL_lyr h (by omega), k3, if_pos (by omega), if_pos g]
      · refine ⟨d, by rw [minL_len h]; omega, h2, ?_⟩
        have := k4 d (by omega) h2
        rw [minL_lyr h h1, h3, if_neg (by omega), if_neg g]
    · rw [minL_len h] at hj
      have := h4 j hj hb
      have := k4 j (by omega) hb
      rw [minL_lyr h hj]
      split <;> split <;> omega
theorem least_same {A B : List Int} (h : B.length = A.length) {s : Nat} (ha : leastO A s = none) : leastO B s = none := by
  cases q : leastO B s with
  | none => rfl
  | some m =>
    obtain ⟨⟨d, h1, h2, _⟩, _⟩ := least_some q
    have := least_none ha d (by omega)
    rw [h2] at this; cases this
theorem keep_min {A B : List Int} (h : B.length = A.length) {w t : Nat} {u : Bool} (ka : keepR A w t u = true) (kb : keepR B w t u = true) : keepR (minL A B) w t u = true := by
  unfold keepR keepB at *
  cases g1 : leastO A (highN w t u) with
  | none => rw [least_same (minL_len h) g1]
  | some a =>
    cases g2 : leastO B (highN w t u) with
    | none => rw [least_same h.symm g2] at g1; cases g1
    | some b =>
      rw [g1] at ka
      rw [g2] at kb
      rw [least_minL h g1 g2]
      cases g3 : leastO A (lowN w t u) with
      | none => rw [g3] at ka; cases ka
      | some c =>
        cases g4 : leastO B (lowN w t u) with
        | none => rw [g4] at kb; cases kb
        | some e =>
          rw [g3] at ka
          rw [g4] at kb
          rw [least_minL h g3 g4]
          have ka := of_decide_eq_true ka
          have kb := of_decide_eq_true kb
          refine decide_eq_true ?_
          split <;> split <;> omega
theorem lay_min {A B : List Int} (ha : Lay A) (hb : Lay B) (h : B.length = A.length) : Lay (minL A B) := by
  have el := minL_len h
  have al : ∀ x ∈ minL A B, 0 ≤ x ∧ x ≤ HI := fun x hx => by
    obtain ⟨p, hp, rfl⟩ := List.mem_map.mp hx
    have h1 := ha.rng p.1 (List.of_mem_zip (a := p.1) (b := p.2) hp).1
    have h2 := hb.rng p.2 (List.of_mem_zip (a := p.1) (b := p.2) hp).2
    show 0 ≤ (if p.2 < p.1 then p.2 else p.1) ∧ (if p.2 < p.1 then p.2 else p.1) ≤ HI
    split <;> omega
  refine ⟨by rw [el]; exact ha.cnt, al, ?_⟩
  obtain ⟨n, ns, e⟩ := lay_cons ha
  have m0 : (0 : Int) ∈ A := by rw [← ha.bot, e]; exact min_mem n ns
  obtain ⟨d, hd, h0⟩ := List.mem_iff_getElem.mp m0
  have l0 : lyr A d = 0 := by
    unfold lyr
    rw [List.getD_eq_getElem?_getD, List.getElem?_eq_getElem hd]; exact h0
  have lb := (hb.rng _ (lyr_mem (L := B) (d := d) (by omega))).1
  have lm : lyr (minL A B) d = 0 := by rw [minL_lyr h hd, l0, if_neg (by omega)]
  have mm : (0 : Int) ∈ minL A B := by rw [← lm]; exact lyr_mem (by rw [el]; exact hd)
  cases q : minL A B with
  | nil => rw [q] at mm; cases mm
  | cons x xs =>
    rw [q] at mm al
    exact min_eq mm fun y hy => (al y hy).1
end Lw

set_option linter.all false
set_option Elab.async false
set_option maxRecDepth 100000
set_option maxHeartbeats 8000000
set_option exponentiation.threshold 5000
namespace Lw
open PySem Ue
/-! ### the order's own words -/
theorem zipL_ints (A B : List Int) : zipL (A.map D.int) (B.map D.int) = (A.zip B).map fun p => D.tup [.int p.1, .int p.2] := by
  apply List.ext_getElem
  · simp [zipL]
  · intro i h1 h2
    have hi : i < min A.length B.length := by simpa using h2
    have ha : i < A.length := by omega
    have hb : i < B.length := by omega
    simp [zipL, ha, hb]
theorem z16 {n : Nat} (h : n ≤ 16) : n ≤ sizeLine := z_le (by omega)
theorem same_ok {A B : List Int} (h : B.length = A.length) : F_check_same_days [.v (ordD A), .v (ordD B)] = .ok .non [.v (ordD A), .v (ordD B)] := by
  have l1 : (A.map D.int).length = A.length := List.length_map ..
  have l2 : (B.map D.int).length = A.length := by rw [List.length_map, h]
  unfold ordD
  generalize A.map D.int = X at *
  generalize B.map D.int = Y at *
  simp [u_check_same_days, l1, l2]
theorem and_ok {A B : List Int} (ha : Lay A) (hb : Lay B) (h : B.length = A.length) : F_Order_and [.v (ordD A), .v (ordD B)] = .ok (ordD (minL A B)) [.v (ordD A), .v (ordD B)] := by
  have sm := same_ok h
  have hn := (cnt_pos ha.cnt).2
  have mk := order_make (lay_min ha hb h)
  have c := compL_map (vs := [2, 3]) (g := tgT [tgN 2, tgN 3]) (te := callM min2D [varM 2, varM 3]) (env := [some (.v (ordD A)), some (.v (ordD B)), none, none]) (fun p : Int × Int => D.tup [.int p.1, .int p.2]) (fun p => D.int (if p.2 < p.1 then p.2 else p.1)) (by simp [vsOk]) (A.zip B) (fun p hp => by
    refine ⟨[some (.v (ordD A)), some (.v (ordD B)), some (.v (.int p.1)), some (.v (.int p.2))], [some (.v (ordD A)), some (.v (ordD B)), some (.v (.int p.1)), some (.v (.int p.2))], by simp, ?_, rfl⟩
    generalize ordD A = O1
    generalize ordD B = O2
    simp)
  have em : (A.zip B).map (fun p => D.int (if p.2 < p.1 then p.2 else p.1)) = (minL A B).map D.int := by
    unfold minL; rw [List.map_map]; rfl
  rw [em, ← zipL_ints] at c
  clear em
  have l1 : (A.map D.int).length = A.length := List.length_map ..
  have l2 : (B.map D.int).length = A.length := by rw [List.length_map, h]
  have lz : (zipL (A.map D.int) (B.map D.int)).length = A.length := by
    rw [zipL_ints, List.length_map, List.length_zip]; omega
  have z := z16 hn
  unfold ordD at *
  generalize (minL A B).map D.int = M at *
  generalize A.map D.int = X at *
  generalize B.map D.int = Y at *
  simp [u_Order_and, sm, c, mk, lz, z, l1, l2]
theorem closed_ok {L : List Int} (h : Lay L) : F_Order_closed [.v (ordD L)] = .ok (ordD (closeL L)) [.v (ordD L)] := by
  have hn := (cnt_pos h.cnt).2
  have mk := order_make (lay_close h)
  have di := dInts_map L
  have ds := dInts_map (sortU L)
  have l60 : L.length < 60 := by omega
  have c := compL_map (vs := [2]) (g := tgN 2) (te := idxLM (varM 1) (varM 2)) (env := [some (.v (ordD L)), some (.v (.lst ((sortU L).map D.int))), none]) D.int (fun x => D.int ((idxN x (sortU L) : Nat) : Int)) (by simp [vsOk]) L (fun x hx => by
    refine ⟨[some (.v (ordD L)), some (.v (.lst ((sortU L).map D.int))), some (.v (.int x))], [some (.v (ordD L)), some (.v (.lst ((sortU L).map D.int))), some (.v (.int x))], by simp, ?_, by simp [rest_one]⟩
    have ix := idx_find x (sortU L) ((sortU_mem x L).mpr hx)
    have e : idxD ((sortU L).map D.int) (.int x) = some (.int ((idxN x (sortU L) : Nat) : Int)) := by
      show (dInts ((sortU L).map D.int)).bind _ = _
      rw [ds]
      simp [ix]
    generalize ordD L = O
    generalize (sortU L).map D.int = S at *
    simp [e])
  have em : L.map (fun x => D.int ((idxN x (sortU L) : Nat) : Int)) = (closeL L).map D.int := by
    unfold closeL; rw [List.map_map]; rfl
  rw [em] at c
  clear em
  have l1 : (L.map D.int).length = L.length := List.length_map ..
  have z := z16 hn
  unfold ordD at *
  generalize (closeL L).map D.int = M at *
  generalize hS : (sortU L).map D.int = S at *
  generalize L.map D.int = X at *
  simp [u_Order_closed, di, l60, hS, c, mk, l1, z]
theorem beneath_ok {A B : List Int} (h : B.length = A.length) (hn : A.length ≤ 16) : F_Order_beneath [.v (ordD A), .v (ordD B)] = .ok (.bl ((A.zip B).all fun p => decide (p.1 ≤ p.2))) [.v (ordD A), .v (ordD B)] := by
  have sm := same_ok h
  have c := compL_map (vs := [2, 3]) (g := tgT [tgN 2, tgN 3]) (te := (bV (cmpM leI (varM 2) (varM 3)))) (env := [some (.v (ordD A)), some (.v (ordD B)), none, none]) (fun p : Int × Int => D.tup [.int p.1, .int p.2]) (fun p => D.bl (decide (p.1 ≤ p.2))) (by simp [vsOk]) (A.zip B) (fun p hp => by
    refine ⟨[some (.v (ordD A)), some (.v (ordD B)), some (.v (.int p.1)), some (.v (.int p.2))], [some (.v (ordD A)), some (.v (ordD B)), some (.v (.int p.1)), some (.v (.int p.2))], by simp, ?_, rfl⟩
    generalize ordD A = O1
    generalize ordD B = O2
    simp)
  rw [← zipL_ints] at c
  have ea : allD [.lst ((A.zip B).map fun p => D.bl (decide (p.1 ≤ p.2)))] = some (.bl ((A.zip B).all fun p => decide (p.1 ≤ p.2))) := by
    have e : (A.zip B).map (fun p => D.bl (decide (p.1 ≤ p.2))) = ((A.zip B).map fun p => decide (p.1 ≤ p.2)).map D.bl := by rw [List.map_map]; rfl
    rw [e]
    show (dBls _).map _ = _
    rw [bls_of]
    simp [List.all_map]
  have l1 : (A.map D.int).length = A.length := List.length_map ..
  have lz : (zipL (A.map D.int) (B.map D.int)).length = A.length := by
    rw [zipL_ints, List.length_map, List.length_zip]; omega
  have z := z16 hn
  unfold ordD at *
  generalize (A.zip B).map (fun p => D.bl (decide (p.1 ≤ p.2))) = BB at *
  generalize (A.zip B).all (fun p => decide (p.1 ≤ p.2)) = b at *
  generalize A.map D.int = X at *
  generalize B.map D.int = Y at *
  simp [u_Order_beneath, sm, c, ea, lz, z]
theorem eq_ok {A B : List Int} : F_Order_eq [.v (ordD A), .v (ordD B)] = .ok (.bl (decide (A = B))) [.v (ordD A), .v (ordD B)] := by
  have e := eqD_tup (a := A) (b := B)
  unfold ordD
  generalize decide (A = B) = b at *
  generalize A.map D.int = X at *
  generalize B.map D.int = Y at *
  simp [u_Order_eq, e, isC, List.lookup, ty_Order, cn_Order]
theorem len_ok {A : List Int} : F_Order_len [.v (ordD A)] = .ok (.int (A.length : Int)) [.v (ordD A)] := by
  have l1 : (A.map D.int).length = A.length := List.length_map ..
  unfold ordD
  generalize A.map D.int = X at *
  simp [u_Order_len, l1]
end Lw

set_option linter.all false
set_option Elab.async false
set_option maxRecDepth 100000
set_option maxHeartbeats 8000000
set_option exponentiation.threshold 5000
namespace Lw
open PySem Ue
/-! ### the rule of the kind -/
theorem rngL_map (n : Nat) : rngL 0 n = (List.range n).map fun i : Nat => D.int (i : Int) := by simp [rngL]
theorem lows_eq {L : List Int} {s : Nat} : ((List.range L.length).filter s.testBit).map (fun i => D.int (lyr L i)) = (lows L s).map D.int := by
  unfold lows daysIn
  rw [List.map_map]; rfl
theorem rule_c1 {L : List Int} {s : Nat} {x2 x3 x4 x5 x6 : Option EV} : compL [7] (tgN 7) (cmpM eqS (op2M andI (op2M shrI (varM 1) (varM 7)) (cM (.int 1))) (cM (.int 1))) (op2M ixD (varM 0) (varM 7)) (rngL 0 L.length) [some (.v (.lst (L.map D.int))), some (.v (.int (s : Int))), x2, x3, x4, x5, x6, none] = .ok ((lows L s).map D.int) [some (.v (.lst (L.map D.int))), some (.v (.int (s : Int))), x2, x3, x4, x5, x6, none] := by
  rw [rngL_map, ← lows_eq]
  refine compL_mapF _ _ s.testBit (by simp [vsOk]) (List.range L.length) fun d hd => ⟨[some (.v (.lst (L.map D.int))), some (.v (.int (s : Int))), x2, x3, x4, x5, x6, some (.v (.int (d : Int)))], [some (.v (.lst (L.map D.int))), some (.v (.int (s : Int))), x2, x3, x4, x5, x6, some (.v (.int (d : Int)))], by simp, ?_, fun _ => by simp [rest_one], fun _ => ⟨[some (.v (.lst (L.map D.int))), some (.v (.int (s : Int))), x2, x3, x4, x5, x6, some (.v (.int (d : Int)))], ?_, by simp [rest_one]⟩⟩
  · have b := bit_int s d
    generalize L.map D.int = X
    cases q : s.testBit d <;> rw [q] at b <;> simp at b <;> simp [b]
  · have e := ix_lyr (L := L) (d := d) (by simpa using hd)
    generalize L.map D.int = X at *
    generalize lyr L d = y at *
    simp [e]
theorem rule_c2 {L : List Int} {s : Nat} {x1 x3 x4 x5 x6 : Option EV} : compL [7] (tgN 7) (cmpM eqS (op2M andI (op2M shrI (varM 2) (varM 7)) (cM (.int 1))) (cM (.int 1))) (op2M ixD (varM 0) (varM 7)) (rngL 0 L.length) [some (.v (.lst (L.map D.int))), x1, some (.v (.int (s : Int))), x3, x4, x5, x6, none] = .ok ((lows L s).map D.int) [some (.v (.lst (L.map D.int))), x1, some (.v (.int (s : Int))), x3, x4, x5, x6, none] := by
  rw [rngL_map, ← lows_eq]
  refine compL_mapF _ _ s.testBit (by simp [vsOk]) (List.range L.length) fun d hd => ⟨[some (.v (.lst (L.map D.int))), x1, some (.v (.int (s : Int))), x3, x4, x5, x6, some (.v (.int (d : Int)))], [some (.v (.lst (L.map D.int))), x1, some (.v (.int (s : Int))), x3, x4, x5, x6, some (.v (.int (d : Int)))], by simp, ?_, fun _ => by simp [rest_one], fun _ => ⟨[some (.v (.lst (L.map D.int))), x1, some (.v (.int (s : Int))), x3, x4, x5, x6, some (.v (.int (d : Int)))], ?_, by simp [rest_one]⟩⟩
  · have b := bit_int s d
    generalize L.map D.int = X
    cases q : s.testBit d <;> rw [q] at b <;> simp at b <;> simp [b]
  · have e := ix_lyr (L := L) (d := d) (by simpa using hd)
    generalize L.map D.int = X at *
    generalize lyr L d = y at *
    simp [e]
theorem lows_len {L : List Int} {s : Nat} : (lows L s).length ≤ L.length := by
  unfold lows daysIn
  rw [List.length_map]
  have := List.length_filter_le s.testBit (List.range L.length)
  rwa [List.length_range] at this
def ruleB (L : List Int) (c b : Nat) : Bool := match leastO L b with
  | none => true
  | some m => match leastO L c with | none => false | some l => decide (l < m)
theorem rule_keep {L : List Int} {r : Rw} (v : Vr L.length r) : (if r.2.2 then ruleB L (r.1 &&& r.2.1) (br r.1 r.2.1) else !ruleB L (r.1 &&& r.2.1) (br r.1 r.2.1)) = kp L r := by
  obtain ⟨w, t, u⟩ := r
  obtain ⟨v1, v2, v3⟩ := v
  have e : ruleB L (w &&& t) (br w t) = keepR L w t true := by
    unfold ruleB keepR keepB
    simp only [lowN, highN, stepN, if_true]
    cases leastO L (br w t) with
    | none => rfl
    | some m =>
      cases leastO L (w &&& t) with
      | none => rfl
      | some l => exact decide_eq_decide.mpr (by omega)
  dsimp only
  rw [e]
  cases u
  · show (!keepR L w t true) = keepR L w t false
    rw [keep_not v1 v2]
  · rfl
theorem lkeeps_ok {L : List Int} {c b : Nat} {u : Bool} (hn : L.length ≤ 16) : F_law_keeps [.v (.lst (L.map D.int)), .v (.int (c : Int)), .v (.int (b : Int)), .v (.bl u)] = .ok (.bl (if u then ruleB L c b else !ruleB L c b)) [.v (.lst (L.map D.int)), .v (.int (c : Int)), .v (.int (b : Int)), .v (.bl u)] := by
  have c1 := rule_c1 (L := L) (s := c) (x2 := some (.v (.int (b : Int)))) (x3 := some (.v (.bl u))) (x4 := none) (x5 := none) (x6 := none)
  have c2 := rule_c2 (L := L) (s := b) (x1 := some (.v (.int (c : Int)))) (x3 := some (.v (.bl u))) (x4 := some (.v (.lst ((lows L c).map D.int)))) (x5 := none) (x6 := none)
  have l0 : (L.map D.int).length = L.length := List.length_map ..
  have rl : (rngL 0 L.length).length = L.length := by simp [rngL]
  have z := z16 hn
  have b62 : -(2 : Int) ^ 62 ≤ (L.length : Int) ∧ (L.length : Int) < 2 ^ 62 := by omega
  simp at b62
  unfold ruleB leastO
  cases g2 : lows L b with
  | nil =>
    rw [g2] at c2
    simp only [List.map_nil] at c2
    have l1 : ((lows L c).map D.int).length = (lows L c).length := List.length_map ..
    generalize (lows L c).map D.int = X at *
    generalize L.map D.int = Y at *
    cases u <;> simp [u_law_keeps, c1, c2, z, l0, rl, b62, eqNil, neNil]
  | cons h hs =>
    have m2 := minA_l (n := h) (ns := hs)
    rw [g2] at c2
    have n2 : ((h :: hs).map D.int).isEmpty = false := by simp
    cases g1 : lows L c with
    | nil =>
      rw [g1] at c1 c2
      simp only [List.map_nil] at c1 c2
      dsimp only
      generalize minOf (h :: hs) = mm at *
      generalize (h :: hs).map D.int = X at *
      generalize L.map D.int = Y at *
      cases u <;> simp [u_law_keeps, c1, c2, z, l0, rl, b62, n2, m2, eqNil, neNil]
    | cons l ls =>
      have m1 := minA_l (n := l) (ns := ls)
      rw [g1] at c1 c2
      have n1 : ((l :: ls).map D.int).isEmpty = false := by simp
      dsimp only
      generalize minOf (h :: hs) = mm at *
      generalize minOf (l :: ls) = ml at *
      generalize (h :: hs).map D.int = X at *
      generalize (l :: ls).map D.int = X1 at *
      generalize L.map D.int = Y at *
      cases u <;> simp [u_law_keeps, c1, c2, z, l0, rl, b62, n1, n2, m1, m2, eqNil, neNil]
/-! ### one order and one saying -/
theorem say_c {L : List Int} {s j : Nat} {F : List D} (hF : F[j]? = some (.int (s : Int))) {x0 x3 x4 x5 x6 x7 : Option EV} : compL [8] (tgN 8) (cmpM eqS (op2M andI (op2M shrI (attrM 2 j (varM 2)) (varM 8)) (cM (.int 1))) (cM (.int 1))) (op2M ixD (varM 1) (varM 8)) (rngL 0 L.length) [x0, some (.v (.lst (L.map D.int))), some (.v (.obj 2 F)), x3, x4, x5, x6, x7, none] = .ok ((lows L s).map D.int) [x0, some (.v (.lst (L.map D.int))), some (.v (.obj 2 F)), x3, x4, x5, x6, x7, none] := by
  rw [rngL_map, ← lows_eq]
  refine compL_mapF _ _ s.testBit (by simp [vsOk]) (List.range L.length) fun d hd => ⟨[x0, some (.v (.lst (L.map D.int))), some (.v (.obj 2 F)), x3, x4, x5, x6, x7, some (.v (.int (d : Int)))], [x0, some (.v (.lst (L.map D.int))), some (.v (.obj 2 F)), x3, x4, x5, x6, x7, some (.v (.int (d : Int)))], by simp, ?_, fun _ => by simp [rest_one], fun _ => ⟨[x0, some (.v (.lst (L.map D.int))), some (.v (.obj 2 F)), x3, x4, x5, x6, x7, some (.v (.int (d : Int)))], ?_, by simp [rest_one]⟩⟩
  · have b := bit_int s d
    generalize L.map D.int = X
    cases q : s.testBit d <;> rw [q] at b <;> simp at b <;> simp [hF, b]
  · have e := ix_lyr (L := L) (d := d) (by simpa using hd)
    generalize L.map D.int = X at *
    generalize lyr L d = y at *
    simp [e]
theorem lsay_ok {L : List Int} {f : Int → Int} (hf : MonoOn f L) {r : Rw} (hn : L.length ≤ 16) (v : Vr L.length r) : F_law_saying [.v (ordD (L.map f)), .v (.lst (L.map D.int)), .v (objD r), .v (.bl r.2.2)] = .ok (.bl true) [.v (ordD (L.map f)), .v (.lst (L.map D.int)), .v (objD r), .v (.bl r.2.2)] := by
  have rk := rule_keep v
  obtain ⟨w, t, u⟩ := r
  obtain ⟨v1, v2, v3⟩ := v
  dsimp only at v1 v2 v3 rk ⊢
  have lk := lkeeps_ok (L := L) (c := w &&& t) (b := br w t) (u := u) hn
  rw [rk] at lk
  have hl : (L.map f).length = L.length := List.length_map ..
  have k1 := keeps_ok (L := L.map f) (w := w) (t := t) (u := u) (by rw [hl]; exact hn) (by rw [hl]; exact v2) (by rw [hl]; exact v3)
  have k2 := keeps_ok (L := L.map f) (w := w) (t := t) (u := !u) (by rw [hl]; exact hn) (by rw [hl]; exact v2) (by rw [hl]; exact v3)
  rw [keep_map hf] at k1 k2
  rw [keep_contrary v1 v2] at k2
  have ct := contrary_ok (u := u) v1 (p16 hn v2) (p16 hn v3)
  have ek : kp L (w, t, u) = keepR L w t u := rfl
  rw [ek] at lk
  have eo : objD (w, t, u) = .obj 2 (sayF w t u) := rfl
  have f3 : (sayF w t u)[3]? = some (.int ((w &&& t : Nat) : Int)) := rfl
  have f4 : (sayF w t u)[4]? = some (.int ((br w t : Nat) : Int)) := rfl
  have f5 : (sayF w t u)[5]? = some (.int ((lowN w t u : Nat) : Int)) := rfl
  have f6 : (sayF w t u)[6]? = some (.int ((highN w t u : Nat) : Int)) := rfl
  have f7 : (sayF w t u)[7]? = some (.int (stepN u)) := rfl
  have c1 := say_c (L := L) f5 (x0 := some (.v (ordD (L.map f)))) (x3 := some (.v (.bl u))) (x4 := some (.v (.bl (keepR L w t u)))) (x5 := none) (x6 := none) (x7 := none)
  have c2 := say_c (L := L) f6 (x0 := some (.v (ordD (L.map f)))) (x3 := some (.v (.bl u))) (x4 := some (.v (.bl (keepR L w t u)))) (x5 := some (.v (.lst ((lows L (lowN w t u)).map D.int)))) (x6 := none) (x7 := none)
  have l0 : (L.map D.int).length = L.length := List.length_map ..
  have rl : (rngL 0 L.length).length = L.length := by simp [rngL]
  have z := z16 hn
  have b62 : -(2 : Int) ^ 62 ≤ (L.length : Int) ∧ (L.length : Int) < 2 ^ 62 := by omega
  simp at b62
  rw [eo]
  -- the row
  obtain ⟨B, hB, tail⟩ : ∃ B : Bool, B = keepR L w t u ∧ ∀ e0 x7, (orV (bV (cmpM eqNil (varM 6) (lstM []))) (andV (bV (cmpM neNil (varM 5) (lstM []))) (bV (cmpM geI (callM minAD [(varM 6)]) (op2M addI (callM minAD [(varM 5)]) (attrM 2 7 (varM 2)))))))  [e0, some (.v (.lst (L.map D.int))), some (.v (.obj 2 (sayF w t u))), some (.v (.bl u)), some (.v (.bl (keepR L w t u))), some (.v (.lst ((lows L (lowN w t u)).map D.int))), some (.v (.lst ((lows L (highN w t u)).map D.int))), x7, none] = .ok (.bl B) [e0, some (.v (.lst (L.map D.int))), some (.v (.obj 2 (sayF w t u))), some (.v (.bl u)), some (.v (.bl (keepR L w t u))), some (.v (.lst ((lows L (lowN w t u)).map D.int))), some (.v (.lst ((lows L (highN w t u)).map D.int))), x7, none] := by
    refine ⟨_, rfl, fun e0 x7 => ?_⟩
    generalize hK : keepR L w t u = K
    unfold keepR keepB leastO at hK
    generalize L.map D.int = Y at *
    generalize sayF w t u = F at *
    cases g2 : lows L (highN w t u) with
    | nil =>
      rw [g2] at hK
      dsimp only at hK
      subst hK
      generalize (lows L (lowN w t u)).map D.int = X at *
      simp [eqNil]
    | cons h hs =>
      have m2 := minA_l (n := h) (ns := hs)
      have n2 : ((h :: hs).map D.int).isEmpty = false := by simp
      rw [g2] at hK
      cases g1 : lows L (lowN w t u) with
      | nil =>
        rw [g1] at hK
        dsimp only at hK
        subst hK
        generalize (h :: hs).map D.int = X at *
        simp [eqNil, neNil, n2]
      | cons l ls =>
        have m1 := minA_l (n := l) (ns := ls)
        have n1 : ((l :: ls).map D.int).isEmpty = false := by simp
        rw [g1] at hK
        dsimp only at hK
        subst hK
        generalize minOf (h :: hs) = mm at *
        generalize minOf (l :: ls) = ml at *
        generalize (h :: hs).map D.int = X at *
        generalize (l :: ls).map D.int = X1 at *
        simp [eqNil, neNil, n1, n2, m1, m2, f7]
  subst hB
  have tl := tail (some (.v (ordD (L.map f)))) none
  clear tail rk ek eo hf hl
  generalize keepR L w t u = K at *
  unfold sayD ordD at *
  generalize sayF w t u = F1 at *
  generalize sayF w t (!u) = F2 at *
  generalize (lows L (lowN w t u)).map D.int = X1 at *
  generalize (lows L (highN w t u)).map D.int = X2 at *
  generalize (L.map f).map D.int = Y2 at *
  generalize L.map D.int = Y at *
  show runF _ _ _ B_law_saying' _ = _
  simp [B_law_saying', T_law_saying_1, T_law_saying_2, f3, f4, lk, l0, b62, rl, z, c1, c2]
  simp only [T_law_saying_3, seqM_s, setM_s, tl]
  cases K <;> simp [T_law_saying_4, k1, k2, ct]
end Lw

set_option linter.all false
set_option Elab.async false
set_option maxRecDepth 100000
set_option maxHeartbeats 8000000
set_option exponentiation.threshold 5000
namespace Lw
open PySem Ue
/-! ### gaps -/
abbrev GAP : Int := 100000000000000000000000000000
def plL (p : Nat → Int) (n : Nat) : List D := (List.range n).map fun j => D.int (p j)
theorem gap_step {c m k : Int} {p : Nat → Int} {i : Nat} (hi : i < 10) (x1 x4 x5 : Option EV) : ∃ (q c' m' k' : Int), 0 ≤ q ∧ q ≤ GAP ∧ L_law_spread_0 [some (.own [.int c, .int m, .int k]), x1, some (.own (plL p (i + 1))), some (.v (.int (p i))), x4, x5] = .nx [some (.own [.int c', .int m', .int k']), x1, some (.own (plL p (i + 1) ++ [.int (p i + 1 + q)])), some (.v (.int (p i + 1 + q))), x4, x5] := by
  obtain ⟨d, c', m', k', e, hd⟩ := of_ok (c := c) (m := m) (k := k) (ds := [.int 0, .int 0, .int 1, .int 7, .int GAP]) (by simp) (by simp)
  obtain ⟨q, rfl, q1, q2⟩ : ∃ q : Int, d = .int q ∧ 0 ≤ q ∧ q ≤ GAP := by
    simp only [List.mem_cons, List.not_mem_nil, or_false] at hd
    rcases hd with h | h | h | h | h <;> subst h <;> exact ⟨_, rfl, by decide, by decide⟩
  refine ⟨q, c', m', k', q1, q2, ?_⟩
  have w29 : powOk 10 29 = true := by decide
  have z5 := z_le (n := 5) (by omega)
  have zl : (plL p (i + 1)).length < sizeLine := by
    have := z_le (n := 1000) (by omega)
    simp [plL]; omega
  generalize plL p (i + 1) = P at *
  generalize p i = pi at *
  simp [L_law_spread_0, w29, z5, e, appG, zl]
theorem spread_ok {r : List Int} (h0 : r ≠ []) (hl : r.length ≤ 16) (hr : ∀ x ∈ r, 0 ≤ x ∧ x ≤ 3) (c m k : Int) : ∃ f c' m' k', MonoOn f r ∧ f 0 = 0 ∧ (∀ x ∈ r, f x ≤ HI) ∧ F_law_spread [.own [.int c, .int m, .int k], .v (.lst (r.map D.int))] = .ok (.lst ((r.map f).map D.int)) [.own [.int c', .int m', .int k'], .v (.lst (r.map D.int))] := by
  obtain ⟨a, as, rfl⟩ : ∃ a as, r = a :: as := by
    cases r with
    | nil => exact absurd rfl h0
    | cons a as => exact ⟨a, as, rfl⟩
  have mx := maxA_l (n := a) (ns := as)
  obtain ⟨g1, g2, g3⟩ := maxOf_ge as a
  have hm : ∀ x ∈ a :: as, x ≤ maxOf (a :: as) := fun x hx => by
    rcases List.mem_cons.mp hx with rfl | hx
    · exact g1
    · exact g2 x hx
  have hb : 0 ≤ maxOf (a :: as) ∧ maxOf (a :: as) ≤ 3 := by
    rcases g3 with g3 | g3
    · rw [show maxOf (a :: as) = a from g3]; exact hr a List.mem_cons_self
    · exact hr _ (List.mem_cons_of_mem _ g3)
  generalize hr' : a :: as = r at *
  generalize maxOf r = M at *
  obtain ⟨M, rfl⟩ := Int.eq_ofNat_of_zero_le hb.1
  have hM : M ≤ 3 := by omega
  obtain ⟨e2, lp, p, c2, m2, k2, x4, p0, p1, p2, rfl⟩ := forM_rng (g := tgN 4) (s := L_law_spread_0) (fun i e => ∃ (p : Nat → Int) (c m k : Int) (x4 : Option EV), p 0 = 0 ∧ (∀ j, j < i → p j < p (j + 1)) ∧ (∀ j, j ≤ i → p j ≤ (j : Int) * (1 + GAP)) ∧ e = [some (.own [.int c, .int m, .int k]), some (.v (.lst (r.map D.int))), some (.own (plL p (i + 1))), some (.v (.int (p i))), x4, none]) M [some (.own [.int c, .int m, .int k]), some (.v (.lst (r.map D.int))), some (.own [.int 0]), some (.v (.int 0)), none, none] (by
    rintro i hi e ⟨p, c, m, k, x4, p0, p1, p2, rfl⟩
    obtain ⟨q, c', m', k', q1, q2, st⟩ := gap_step (c := c) (m := m) (k := k) (p := p) (i := i) (by omega) (some (.v (.lst (r.map D.int)))) (some (.v (.int (i : Int)))) none
    refine ⟨_, _, rfl, .inl st, fun j => if j = i + 1 then p i + 1 + q else p j, c', m', k', some (.v (.int (i : Int))), by simp [p0], fun j hj => ?_, fun j hj => ?_, ?_⟩
    · show (if j = i + 1 then p i + 1 + q else p j) < (if j + 1 = i + 1 then p i + 1 + q else p (j + 1))
      rw [if_neg (by omega)]
      by_cases g : j = i
      · subst g; rw [if_pos rfl]; omega
      · rw [if_neg (by omega)]; exact p1 j (by omega)
    · show (if j = i + 1 then p i + 1 + q else p j) ≤ (j : Int) * (1 + GAP)
      by_cases g : j = i + 1
      · subst g
        rw [if_pos rfl]
        have := p2 i (Nat.le_refl _)
        have e : ((i + 1 : Nat) : Int) * (1 + GAP) = (i : Int) * (1 + GAP) + (1 + GAP) := by rw [Int.natCast_add, Int.add_mul]; simp
        rw [e]; omega
      · rw [if_neg g]; exact p2 j (by omega)
    · have e1 : plL (fun j => if j = i + 1 then p i + 1 + q else p j) (i + 1 + 1) = plL p (i + 1) ++ [.int (p i + 1 + q)] := by
        unfold plL
        rw [List.range_succ, List.map_append]
        congr 1
        · refine List.map_congr_left fun j hj => ?_
          have : j < i + 1 := by simpa using hj
          show D.int (if j = i + 1 then p i + 1 + q else p j) = D.int (p j)
          rw [if_neg (by omega)]
        · simp
      have e2 : (if i + 1 = i + 1 then p i + 1 + q else p (i + 1)) = p i + 1 + q := if_pos rfl
      rw [e1]
      dsimp only
      rw [e2]) ⟨fun _ => 0, c, m, k, none, rfl, fun j hj => absurd hj (by omega), fun j hj => by
        have : j = 0 := by omega
        subst this; simp, rfl⟩
  have mono : ∀ i j, i < j → j ≤ M → p i < p j := by
    intro i j h1 h2
    induction j with
    | zero => omega
    | succ j ih =>
      have h3 := p1 j (by omega)
      by_cases g : i = j
      · subst g; exact h3
      · have := ih (by omega) (by omega); omega
  have zl : (plL p (M + 1)).length ≤ sizeLine := by simp [plL]; exact z_le (by omega)
  have cmp := compL_map (vs := [5]) (g := tgN 5) (te := op2M ixD (ovarM 2) (varM 5)) (env := [some (.own [.int c2, .int m2, .int k2]), some (.v (.lst (r.map D.int))), some (.own (plL p (M + 1))), some (.v (.int (p M))), x4, none]) D.int (fun x => D.int (p x.toNat)) (by simp [vsOk]) r (fun x hx => by
    refine ⟨[some (.own [.int c2, .int m2, .int k2]), some (.v (.lst (r.map D.int))), some (.own (plL p (M + 1))), some (.v (.int (p M))), x4, some (.v (.int x))], [some (.own [.int c2, .int m2, .int k2]), some (.v (.lst (r.map D.int))), some (.own (plL p (M + 1))), some (.v (.int (p M))), x4, some (.v (.int x))], by simp, ?_, by simp [rest_one]⟩
    obtain ⟨x, rfl⟩ := Int.eq_ofNat_of_zero_le (hr x hx).1
    have hx2 := hm _ hx
    have ix : L2.atI (plL p (M + 1)) (x : Int) = some (.int (p x)) := atI_nat (by
      unfold plL
      rw [List.getElem?_map, List.getElem?_range (by omega)]; rfl)
    generalize plL p (M + 1) = P at *
    generalize r.map D.int = X at *
    simp [ix])
  refine ⟨fun x => p x.toNat, c2, m2, k2, fun x hx y hy e => ?_, p0, fun x hx => ?_, ?_⟩
  · have h1 := hr x hx
    have h2 := hr y hy
    have h3 := hm y hy
    exact mono _ _ (by omega) (by omega)
  · have h1 := hr x hx
    have h3 := hm x hx
    have := p2 x.toNat (by omega)
    have : p x.toNat ≤ 3 * (1 + GAP) := by
      have : ((x.toNat : Nat) : Int) * (1 + GAP) ≤ 3 * (1 + GAP) := Int.mul_le_mul_of_nonneg_right (by omega) (by decide)
      omega
    have : (3 : Int) * (1 + GAP) ≤ HI := by decide
    show p x.toNat ≤ HI
    omega
  · have em : (r.map fun x => p x.toNat).map D.int = r.map fun x => D.int (p x.toNat) := by rw [List.map_map]; rfl
    rw [em]
    have b62 : -(2 : Int) ^ 62 ≤ (M : Int) ∧ (M : Int) < 2 ^ 62 := by omega
    simp at b62
    have lr : (r.map D.int).length = r.length := List.length_map ..
    have zr := z16 hl
    have z1 := z_le (n := 1) (by omega)
    generalize (r.map fun x => D.int (p x.toNat)) = Y at *
    generalize r.map D.int = X at *
    generalize plL p (M + 1) = P at *
    simp [u_law_spread, mx, b62, lp, cmp, lr, zr, z1]
end Lw

set_option linter.all false
set_option Elab.async false
set_option maxRecDepth 100000
set_option maxHeartbeats 8000000
set_option exponentiation.threshold 5000
namespace Lw
open PySem Ue
/-! ### truth values in a list -/
theorem toPys_bls : ∀ bs : List Bool, toPys (bs.map D.bl) = some (bs.map PyData.bool)
  | [] => by simp [toPys]
  | b :: bs => by simp [toPys, toPy, toPys_bls bs]
theorem lay_bls : ∀ bs : List Bool, PyData.canLayAll0 (bs.map PyData.bool) = true
  | [] => by simp [PyData.canLayAll0]
  | b :: bs => by simp [PyData.canLayAll0, PyData.canLay0, lay_bls bs]
theorem depth_bls : ∀ bs : List Bool, PyData.depthAll (bs.map PyData.bool) = 0
  | [] => by simp [PyData.depthAll]
  | b :: bs => by simp [PyData.depthAll, PyData.depth, depth_bls bs]
theorem shaped_bls (bs : List Bool) : SeqAt.shaped (.list (bs.map PyData.bool)) = true := by
  unfold SeqAt.shaped; simp [PyData.canLay0, PyData.depth, lay_bls, depth_bls]
theorem shaped_bl (b : Bool) : SeqAt.shaped (.bool b) = true := by
  unfold SeqAt.shaped; simp [PyData.canLay0, PyData.depth]
theorem any_bls : ∀ (bs : List Bool) (b : Bool), (bs.map PyData.bool).any (fun z => PyData.eqv z (.bool b)) = decide (b ∈ bs)
  | [], b => by simp
  | x :: xs, b => by
    simp only [List.map_cons, List.any_cons, any_bls xs b, List.mem_cons, PyData.eqv, Bool.decide_or]
    cases x <;> cases b <;> simp
theorem inA_bls {bs : List Bool} {b : Bool} : inA (.bl b) (.lst (bs.map D.bl)) = some (decide (b ∈ bs)) := by
  show ((toPys (bs.map D.bl)).bind fun qs => if SeqAt.shaped (.bool b) = true ∧ SeqAt.shaped (.list qs) = true then some (qs.any fun z => PyData.eqv z (.bool b)) else none) = _
  rw [toPys_bls]
  show (if SeqAt.shaped (.bool b) = true ∧ SeqAt.shaped (.list (bs.map PyData.bool)) = true then some ((bs.map PyData.bool).any fun z => PyData.eqv z (.bool b)) else none) = _
  rw [if_pos ⟨shaped_bl b, shaped_bls bs⟩, any_bls]
/-! ### the first not kept -/
theorem first_none {L : List Int} : ∀ (rs : List Rw) (j : Nat), firstO L j rs = none ↔ ∀ r ∈ rs, kp L r = true
  | [], j => by simp [firstO]
  | r :: rs, j => by
    unfold firstO
    by_cases g : kp L r = true
    · rw [if_pos g, first_none rs (j + 1)]
      constructor
      · intro h q hq
        rcases List.mem_cons.mp hq with rfl | hq
        · exact g
        · exact h q hq
      · intro h q hq; exact h q (List.mem_cons_of_mem _ hq)
    · rw [if_neg g]
      exact ⟨(fun h => by cases h), fun h => absurd (h r List.mem_cons_self) g⟩
theorem first_find {L : List Int} : ∀ (rs : List Rw) (j : Nat), firstO L j rs = ((rs.map (kp L)).findIdx? (· == false)).map (· + j)
  | [], j => rfl
  | r :: rs, j => by
    rw [List.map_cons, List.findIdx?_cons]
    unfold firstO
    cases g : kp L r with
    | true =>
      simp only [if_true, first_find rs (j + 1)]
      cases (rs.map (kp L)).findIdx? (· == false) with
      | none => rfl
      | some i => simp; omega
    | false => simp
theorem find_mem (bs : List Bool) : decide (false ∈ bs) = (bs.findIdx? (· == false)).isSome := by
  rw [List.findIdx?_isSome]
  induction bs with
  | nil => rfl
  | cons b bs ih => cases b <;> simp_all
theorem eq_non : eqD .non .non = some true := by simp [eqD, toPy, PyData.eqv]; decide +kernel
theorem eq_optN (o : Option Nat) : eqD (optN o) (optN o) = some true := by
  cases o with
  | none => exact eq_non
  | some k => rw [show optN (some k) = .int (k : Int) from rfl, eqD_ii, decide_eq_true rfl]
def qD (r : Rw) : D := .tup [.int ((r.1 &&& r.2.1 : Nat) : Int), .int ((br r.1 r.2.1 : Nat) : Int), .bl r.2.2]
def bookD (k : Nat) (rs : List Rw) : D := .obj 3 [mkD k, .tup (rs.map objD)]
/-- the orders: without gaps -/
def Full (L : List Int) : Prop := Lay L ∧ (∀ x ∈ L, 0 ≤ x ∧ x ≤ 3) ∧ closeL L = L
theorem at_map {α : Type} {f : α → D} {xs : List α} {k : Nat} (h : k < xs.length) : L2.atI (xs.map f) (k : Int) = some (f xs[k]) := atI_nat (by rw [List.getElem?_map, List.getElem?_eq_getElem h]; rfl)
theorem keep_step {O : List (List Int)} {n kb : Nat} {rs : List Rw} (hn : n ≤ 16) (hO : ∀ L ∈ O, L.length = n) (v : ∀ r ∈ rs, Vr n r) (hr : rs.length ≤ 12) {k : Nat} (hk : k < O.length) {ks : List Int} (hks : ks.length < 900) (x0 x8 x9 x10 x13 x14 x15 x17 x18 : Option EV) : ∃ y8 y9, L_law_books_0 [x0, some (.v (.lst (O.map lD))), some (.v (.lst (O.map ordD))), some (.v (.lst (rs.map qD))), some (.v (.lst (rs.map objD))), some (.v (bookD kb rs)), some (.own (ks.map D.int)), some (.v (.int (k : Int))), x8, x9, x10, none, none, x13, x14, x15, none, x17, x18] = .nx [x0, some (.v (.lst (O.map lD))), some (.v (.lst (O.map ordD))), some (.v (.lst (rs.map qD))), some (.v (.lst (rs.map objD))), some (.v (bookD kb rs)), some (.own ((if (firstO O[k] 0 rs).isNone then ks ++ [(k : Int)] else ks).map D.int)), some (.v (.int (k : Int))), y8, y9, x10, none, none, x13, x14, x15, none, x17, x18] := by
  have hL : O[k].length = n := hO _ (List.getElem_mem hk)
  generalize hLL : O[k] = L at *
  subst hL
  have a1 := at_map (f := lD) hk
  have a2 := at_map (f := ordD) hk
  rw [hLL] at a1 a2
  have cl := call_ok (X := bookD kb rs) hn v (.inr (.inr ⟨_, rfl⟩))
  have al := all_ok (X := .lst (rs.map objD)) hn v (.inl rfl)
  have e := eq_optN (firstO L 0 rs)
  have cm := compL_map (vs := [11, 12, 16]) (g := tgT [tgN 11, tgN 12, tgN 16]) (te := fnM F_law_keeps [.p (op2M ixD (varM 1) (varM 7)), .p (varM 11), .p (varM 12), .p (varM 16)] []) (env := [x0, some (.v (.lst (O.map lD))), some (.v (.lst (O.map ordD))), some (.v (.lst (rs.map qD))), some (.v (.lst (rs.map objD))), some (.v (bookD kb rs)), some (.own (ks.map D.int)), some (.v (.int (k : Int))), x8, x9, x10, none, none, x13, x14, x15, none, x17, x18]) qD (fun r => D.bl (kp L r)) (by simp [vsOk]) rs (fun r hr => by
    have rk := rule_keep (v r hr)
    have lk := lkeeps_ok (L := L) (c := r.1 &&& r.2.1) (b := br r.1 r.2.1) (u := r.2.2) hn
    rw [rk] at lk
    refine ⟨[x0, some (.v (.lst (O.map lD))), some (.v (.lst (O.map ordD))), some (.v (.lst (rs.map qD))), some (.v (.lst (rs.map objD))), some (.v (bookD kb rs)), some (.own (ks.map D.int)), some (.v (.int (k : Int))), x8, x9, x10, some (.v (.int ((r.1 &&& r.2.1 : Nat) : Int))), some (.v (.int ((br r.1 r.2.1 : Nat) : Int))), x13, x14, x15, some (.v (.bl r.2.2)), x17, x18], [x0, some (.v (.lst (O.map lD))), some (.v (.lst (O.map ordD))), some (.v (.lst (rs.map qD))), some (.v (.lst (rs.map objD))), some (.v (bookD kb rs)), some (.own (ks.map D.int)), some (.v (.int (k : Int))), x8, x9, x10, some (.v (.int ((r.1 &&& r.2.1 : Nat) : Int))), some (.v (.int ((br r.1 r.2.1 : Nat) : Int))), x13, x14, x15, some (.v (.bl r.2.2)), x17, x18], by simp [qD], ?_, rfl⟩
    generalize ((r.1 &&& r.2.1 : Nat) : Int) = cc at *
    generalize ((br r.1 r.2.1 : Nat) : Int) = bb at *
    generalize O.map lD = Ol at *
    generalize O.map ordD = Oo at *
    generalize rs.map qD = Q at *
    generalize rs.map objD = Z at *
    generalize bookD kb rs = BK at *
    generalize ks.map D.int = KS at *
    unfold lD at a1
    generalize L.map D.int = Y at *
    simp [a1, lk])
  have em : (rs.map fun r => D.bl (kp L r)) = (rs.map (kp L)).map D.bl := by rw [List.map_map]; rfl
  rw [em] at cm
  clear em
  have ia := inA_bls (bs := rs.map (kp L)) (b := false)
  have ff := first_find (L := L) rs 0
  have fm := find_mem (rs.map (kp L))
  have ix : ∀ j, (rs.map (kp L)).findIdx? (· == false) = some j → idxD ((rs.map (kp L)).map D.bl) (.bl false) = some (.int (j : Int)) := fun j g => by
    show (dBls _).bind _ = _
    rw [bls_of]
    simp only [Option.bind_some, g]
    rfl
  have lq : (rs.map qD).length = rs.length := List.length_map ..
  have z := z16 (n := rs.length) (by omega)
  have zk : (ks.map D.int).length < sizeLine := by
    rw [List.length_map]
    have := z_le (n := 1000) (by omega)
    omega
  have ek : (ks ++ [(k : Int)]).map D.int = ks.map D.int ++ [.int (k : Int)] := by rw [List.map_append]; rfl
  generalize (rs.map (kp L)).map D.bl = BL at *
  cases g : (rs.map (kp L)).findIdx? (· == false) with
  | none =>
    rw [g] at ff fm
    have ff : firstO L 0 rs = none := ff
    rw [ff] at cl al e ⊢
    rw [fm] at ia
    simp only [optN, Option.isNone_none, Option.isSome_none] at cl al e ia
    refine ⟨some (.v (.lst BL)), some (.v .non), ?_⟩
    rw [if_pos (show (none : Option Nat).isNone = true from rfl), ek]
    generalize O.map lD = Ol at *
    generalize O.map ordD = Oo at *
    unfold ordD at a2 cl al
    generalize rs.map qD = Q at *
    generalize rs.map objD = Z at *
    generalize bookD kb rs = BK at *
    generalize ks.map D.int = KS at *
    generalize L.map D.int = Y at *
    simp [L_law_books_0, cm, ia, lq, z, a2, cl, al, e, isN, appG, zk]
  | some j =>
    have ix := ix j g
    rw [g] at ff fm
    have ff : firstO L 0 rs = some j := ff
    rw [ff] at cl al e ⊢
    rw [fm] at ia
    simp only [optN, Option.isNone_some, Option.isSome_some] at cl al e ia
    refine ⟨some (.v (.lst BL)), some (.v (.int (j : Int))), ?_⟩
    rw [if_neg (show ¬ (some j).isNone = true by simp)]
    generalize O.map lD = Ol at *
    generalize O.map ordD = Oo at *
    unfold ordD at a2 cl al
    generalize rs.map qD = Q at *
    generalize rs.map objD = Z at *
    generalize bookD kb rs = BK at *
    generalize ks.map D.int = KS at *
    generalize L.map D.int = Y at *
    simp [L_law_books_0, cm, ia, ix, lq, z, a2, cl, al, e, isN, appG, zk]
end Lw

set_option linter.all false
set_option Elab.async false
set_option maxRecDepth 100000
set_option maxHeartbeats 8000000
set_option exponentiation.threshold 5000
namespace Lw
open PySem Ue
/-! ### the lesser of two orders that keep a book -/
def TB : MS := (seqM (setM 13 (mkM 0 1 F_Order_init [.p (fnM F_law_spread [.o 0, .p (op2M ixD (varM 1) (varM 11))] [])] [])) (seqM (setM 14 (opO 0 F_Order_and (varM 13) (op2M ixD (varM 2) (varM 12)))) (seqM (setM 15 (compM [17, 18] (zipM (lstO 0 0 F_Order_len (varM 13)) (op2M ixD (varM 1) (varM 12))) (tgT [(tgN 17), (tgN 18)]) yesT (callM min2D [(varM 17), (varM 18)]))) (seqM (iffM (orT (cmpM neD (lstO 0 0 F_Order_len (varM 14)) (varM 15)) (orT (notT (trM (methM 0 F_Order_keeps_all (varM 14) [.p (varM 5)] []))) (notT (trM (methM 0 F_Order_keeps_all (methM 0 F_Order_closed (varM 14) [] []) [.p (varM 5)] []))))) (retM (cM (.bl false))) nilM) (iffM (orT (cmpM notN (methM 0 F_Order_call (varM 14) [.p (varM 4)] []) (cM .non)) (orT (notT (cmpO 0 F_Order_eq tys cns (methM 0 F_Order_closed (varM 13) [] []) (op2M ixD (varM 2) (varM 11)))) (notT (trM (methM 0 F_Order_beneath (varM 14) [.p (varM 13)] []))))) (retM (cM (.bl false))) nilM)))))
theorem L1_eq : L_law_books_1 = (pickS 6 (iffM (cmpM neNil (ovarM 6) (lstM [])) (seqM (parM 11 12 (fnM F_law_of [.o 0, .p (frzM 6)] []) (fnM F_law_of [.o 0, .p (varM 6)] [])) TB) nilM) (iffM (cmpM neNil (varM 6) (lstM [])) (seqM (parM 11 12 (fnM F_law_of [.o 0, .p (varM 6)] []) (fnM F_law_of [.o 0, .p (varM 6)] [])) TB) nilM)) := rfl
theorem minL_below : ∀ {A B : List Int} {p : Int × Int}, p ∈ (minL A B).zip A → p.1 ≤ p.2
  | [], B, p, h => by simp [minL] at h
  | a :: A, [], p, h => by simp [minL] at h
  | a :: A, b :: B, p, h => by
    have e : minL (a :: A) (b :: B) = (if b < a then b else a) :: minL A B := rfl
    rw [e, List.zip_cons_cons] at h
    rcases List.mem_cons.mp h with rfl | h
    · show (if b < a then b else a) ≤ a
      split <;> omega
    · exact minL_below h
theorem kp_map {f : Int → Int} {L : List Int} {r : Rw} (h : MonoOn f L) : kp (L.map f) r = kp L r := keep_map h
theorem full_len {L : List Int} (h : Full L) : 0 < L.length ∧ L.length ≤ 16 := cnt_pos h.1.cnt
theorem tb_step {O : List (List Int)} {n kb : Nat} {rs : List Rw} (hn : n ≤ 16) (hO : ∀ L ∈ O, L.length = n ∧ Full L) (v : ∀ r ∈ rs, Vr n r) {k1 k2 : Nat} (h1 : k1 < O.length) (h2 : k2 < O.length) (q1 : firstO O[k1] 0 rs = none) (q2 : firstO O[k2] 0 rs = none) (c m k : Int) (x3 x6 x7 x8 x9 x10 x13 x14 x15 : Option EV) : ∃ c' m' k' y13 y14 y15, TB [some (.own [.int c, .int m, .int k]), some (.v (.lst (O.map lD))), some (.v (.lst (O.map ordD))), x3, some (.v (.lst (rs.map objD))), some (.v (bookD kb rs)), x6, x7, x8, x9, x10, some (.v (.int (k1 : Int))), some (.v (.int (k2 : Int))), x13, x14, x15, none, none, none] = .nx [some (.own [.int c', .int m', .int k']), some (.v (.lst (O.map lD))), some (.v (.lst (O.map ordD))), x3, some (.v (.lst (rs.map objD))), some (.v (bookD kb rs)), x6, x7, x8, x9, x10, some (.v (.int (k1 : Int))), some (.v (.int (k2 : Int))), y13, y14, y15, none, none, none] := by
  obtain ⟨lA, fA⟩ := hO _ (List.getElem_mem h1)
  obtain ⟨lB, fB⟩ := hO _ (List.getElem_mem h2)
  have a1 := at_map (f := lD) h1
  have a2 := at_map (f := ordD) h1
  have b1 := at_map (f := lD) h2
  have b2 := at_map (f := ordD) h2
  generalize O[k1] = A at *
  generalize O[k2] = B at *
  obtain ⟨f, c1, m1, k1', mf, f0, fh, sp⟩ := spread_ok (r := A) (by intro z; rw [z] at fA; have := (full_len fA).1; simp at this) (full_len fA).2 fA.2.1 c m k
  have lG := lay_map fA.1 mf f0 fh
  have lf : (A.map f).length = A.length := List.length_map ..
  have lBA : B.length = (A.map f).length := by rw [lf, lA, lB]
  have mk := order_make lG
  have an := and_ok lG fB.1 lBA
  have lM := lay_min lG fB.1 lBA
  have mlen : (minL (A.map f) B).length = n := by rw [minL_len lBA, lf, lA]
  have kpA := (first_none rs 0).mp q1
  have kpB := (first_none rs 0).mp q2
  have kM : ∀ r ∈ rs, kp (minL (A.map f) B) r = true := fun r hr => keep_min lBA ((kp_map mf).trans (kpA r hr)) (kpB r hr)
  have kC : ∀ r ∈ rs, kp (closeL (minL (A.map f) B)) r = true := fun r hr => (kp_map (close_mono _)).trans (kM r hr)
  have fM := (first_none rs 0).mpr kM
  have fC := (first_none rs 0).mpr kC
  have clen : (closeL (minL (A.map f) B)).length = n := by unfold closeL; rw [List.length_map, mlen]
  have aM := all_ok (L := minL (A.map f) B) (rs := rs) (X := bookD kb rs) (by rw [mlen]; exact hn) (by rw [mlen]; exact v) (.inr (.inr ⟨_, rfl⟩))
  have cM := call_ok (L := minL (A.map f) B) (rs := rs) (X := .lst (rs.map objD)) (by rw [mlen]; exact hn) (by rw [mlen]; exact v) (.inl rfl)
  have aC := all_ok (L := closeL (minL (A.map f) B)) (rs := rs) (X := bookD kb rs) (by rw [clen]; exact hn) (by rw [clen]; exact v) (.inr (.inr ⟨_, rfl⟩))
  rw [fM] at aM cM
  rw [fC] at aC
  simp only [optN, Option.isNone_none] at aM cM aC
  have cl1 := closed_ok lM
  have cl2 := closed_ok lG
  rw [close_map mf, fA.2.2] at cl2
  have eq1 := eq_ok (A := A) (B := A)
  rw [decide_eq_true rfl] at eq1
  have bn := beneath_ok (A := minL (A.map f) B) (B := A.map f) (by rw [mlen, lf, lA]) (by rw [mlen]; exact hn)
  have eb : ((minL (A.map f) B).zip (A.map f)).all (fun p => decide (p.1 ≤ p.2)) = true := List.all_eq_true.mpr fun p hp => decide_eq_true (minL_below hp)
  rw [eb] at bn
  have le1 := len_ok (A := A.map f)
  have le2 := len_ok (A := minL (A.map f) B)
  rw [lf, lA] at le1
  rw [mlen] at le2
  have zn : n ≤ sizeLine := z16 hn
  have lzz : (zipL ((A.map f).map D.int) (B.map D.int)).length ≤ sizeLine := by
    rw [zipL_ints, List.length_map, List.length_zip]; omega
  have cm := fun x14 => compL_map (vs := [17, 18]) (g := tgT [tgN 17, tgN 18]) (te := callM min2D [varM 17, varM 18]) (env := [some (.own [.int c1, .int m1, .int k1']), some (.v (.lst (O.map lD))), some (.v (.lst (O.map ordD))), x3, some (.v (.lst (rs.map objD))), some (.v (bookD kb rs)), x6, x7, x8, x9, x10, some (.v (.int (k1 : Int))), some (.v (.int (k2 : Int))), some (.v (ordD (A.map f))), x14, x15, none, none, none]) (fun p : Int × Int => D.tup [.int p.1, .int p.2]) (fun p => D.int (if p.2 < p.1 then p.2 else p.1)) (by simp [vsOk]) ((A.map f).zip B) (fun p hp => by
    refine ⟨[some (.own [.int c1, .int m1, .int k1']), some (.v (.lst (O.map lD))), some (.v (.lst (O.map ordD))), x3, some (.v (.lst (rs.map objD))), some (.v (bookD kb rs)), x6, x7, x8, x9, x10, some (.v (.int (k1 : Int))), some (.v (.int (k2 : Int))), some (.v (ordD (A.map f))), x14, x15, none, some (.v (.int p.1)), some (.v (.int p.2))], [some (.own [.int c1, .int m1, .int k1']), some (.v (.lst (O.map lD))), some (.v (.lst (O.map ordD))), x3, some (.v (.lst (rs.map objD))), some (.v (bookD kb rs)), x6, x7, x8, x9, x10, some (.v (.int (k1 : Int))), some (.v (.int (k2 : Int))), some (.v (ordD (A.map f))), x14, x15, none, some (.v (.int p.1)), some (.v (.int p.2))], by simp, ?_, rfl⟩
    generalize O.map lD = Ol
    generalize O.map ordD = Oo
    generalize rs.map objD = Z
    generalize bookD kb rs = BK
    generalize ordD (A.map f) = OG
    simp)
  have em : ((A.map f).zip B).map (fun p => D.int (if p.2 < p.1 then p.2 else p.1)) = (minL (A.map f) B).map D.int := by
    unfold minL; rw [List.map_map]; rfl
  rw [em, ← zipL_ints] at cm
  clear em
  have ee := eqD_lst (a := minL (A.map f) B) (b := minL (A.map f) B)
  rw [decide_eq_true rfl] at ee
  refine ⟨c1, m1, k1', some (.v (ordD (A.map f))), some (.v (ordD (minL (A.map f) B))), some (.v (.lst ((minL (A.map f) B).map D.int))), ?_⟩
  have nf : nfD tys cns (ordD A) = true := by unfold ordD; rfl
  clear kM kC kpA kpB fM fC mf fh lG lM eb fA fB q1 q2
  have b62 : -(2 : Int) ^ 62 ≤ (n : Int) ∧ (n : Int) < 2 ^ 62 := by omega
  generalize O.map lD = Ol at *
  generalize O.map ordD = Oo at *
  generalize rs.map objD = Z at *
  generalize bookD kb rs = BK at *
  unfold lD at a1 b1
  unfold ordD at *
  generalize (closeL (minL (A.map f) B)).map D.int = CM at *
  generalize (minL (A.map f) B).map D.int = M at *
  generalize (A.map f).map D.int = AF at *
  generalize A.map D.int = AA at *
  generalize B.map D.int = BB at *
  simp [TB, a1, a2, b1, b2, sp, mk, an, le1, le2, zn, lzz, cm, ee, aM, cM, aC, cl1, cl2, eq1, bn, nf, notN, isN]
end Lw

set_option linter.all false
set_option Elab.async false
set_option maxRecDepth 100000
set_option maxHeartbeats 8000000
set_option exponentiation.threshold 5000
namespace Lw
open PySem Ue
def Kp (O : List (List Int)) (rs : List Rw) (ks : List Int) : Prop := ∀ x ∈ ks, ∃ (k : Nat) (h : k < O.length), x = (k : Int) ∧ firstO O[k] 0 rs = none
def St6 (x6 : Option EV) (ks : List Int) : Prop := x6 = some (.own (ks.map D.int)) ∨ x6 = some (.v (.lst (ks.map D.int)))
theorem turn_step {O : List (List Int)} {n kb : Nat} {rs : List Rw} (hn : n ≤ 16) (hO : ∀ L ∈ O, L.length = n ∧ Full L) (v : ∀ r ∈ rs, Vr n r) {ks : List Int} (hk : Kp O rs ks) (hl : ks.length < 900) {x6 : Option EV} (s6 : St6 x6 ks) (c m k : Int) (x3 x7 x8 x9 x10 x11 x12 x13 x14 x15 : Option EV) : ∃ c' m' k' y6 y11 y12 y13 y14 y15, St6 y6 ks ∧ L_law_books_1 [some (.own [.int c, .int m, .int k]), some (.v (.lst (O.map lD))), some (.v (.lst (O.map ordD))), x3, some (.v (.lst (rs.map objD))), some (.v (bookD kb rs)), x6, x7, x8, x9, x10, x11, x12, x13, x14, x15, none, none, none] = .nx [some (.own [.int c', .int m', .int k']), some (.v (.lst (O.map lD))), some (.v (.lst (O.map ordD))), x3, some (.v (.lst (rs.map objD))), some (.v (bookD kb rs)), y6, x7, x8, x9, x10, y11, y12, y13, y14, y15, none, none, none] := by
  rw [L1_eq]
  cases hz : ks with
  | nil =>
    subst hz
    refine ⟨c, m, k, x6, x11, x12, x13, x14, x15, s6, ?_⟩
    generalize O.map lD = Ol at *
    generalize O.map ordD = Oo at *
    generalize rs.map objD = Z at *
    generalize bookD kb rs = BK at *
    rcases s6 with rfl | rfl
    · simp [neNil]
    · simp [neNil]
  | cons a as =>
    have h0 : ks.map D.int ≠ [] := by rw [hz]; simp
    have he : (ks.map D.int).isEmpty = false := by rw [hz]; rfl
    rw [← hz]
    obtain ⟨d1, c1, m1, k1, e1, hd1⟩ := of_ok (c := c) (m := m) (k := k) (ds := ks.map D.int) h0 (by rw [List.length_map]; omega)
    obtain ⟨d2, c2, m2, k2, e2, hd2⟩ := of_ok (c := c1) (m := m1) (k := k1) (ds := ks.map D.int) h0 (by rw [List.length_map]; omega)
    obtain ⟨i1, hi1, rfl⟩ := List.mem_map.mp hd1
    obtain ⟨i2, hi2, rfl⟩ := List.mem_map.mp hd2
    obtain ⟨j1, g1, rfl, q1⟩ := hk _ hi1
    obtain ⟨j2, g2, rfl, q2⟩ := hk _ hi2
    obtain ⟨c3, m3, k3, y13, y14, y15, tb⟩ := tb_step (kb := kb) hn hO v g1 g2 q1 q2 c2 m2 k2 x3 (some (.v (.lst (ks.map D.int)))) x7 x8 x9 x10 x13 x14 x15
    refine ⟨c3, m3, k3, some (.v (.lst (ks.map D.int))), some (.v (.int (j1 : Int))), some (.v (.int (j2 : Int))), y13, y14, y15, .inr rfl, ?_⟩
    clear hk hO hd1 hd2 h0 hz
    generalize O.map lD = Ol at *
    generalize O.map ordD = Oo at *
    generalize rs.map objD = Z at *
    generalize bookD kb rs = BK at *
    rcases s6 with rfl | rfl
    · generalize ks.map D.int = KS at *
      simp [neNil, he, e1, e2, tb]
    · generalize ks.map D.int = KS at *
      simp [neNil, he, e1, e2, tb]
theorem books_ok {O : List (List Int)} {n kb : Nat} {rs : List Rw} (hn : n ≤ 16) (hO : ∀ L ∈ O, L.length = n ∧ Full L) (hol : O.length ≤ 100) (v : ∀ r ∈ rs, Vr n r) (hr : rs.length ≤ 12) (c m k : Int) : ∃ c' m' k', F_law_books [.own [.int c, .int m, .int k], .v (.lst (O.map lD)), .v (.lst (O.map ordD)), .v (.lst (rs.map qD)), .v (.lst (rs.map objD)), .v (bookD kb rs)] = .ok (.bl true) [.own [.int c', .int m', .int k'], .v (.lst (O.map lD)), .v (.lst (O.map ordD)), .v (.lst (rs.map qD)), .v (.lst (rs.map objD)), .v (bookD kb rs)] := by
  obtain ⟨e1, lp1, ks, x7, x8, x9, hk, hkl, rfl⟩ := forM_rng (g := tgN 7) (s := L_law_books_0) (fun i e => ∃ (ks : List Int) (x7 x8 x9 : Option EV), Kp O rs ks ∧ ks.length ≤ i ∧ e = [some (.own [.int c, .int m, .int k]), some (.v (.lst (O.map lD))), some (.v (.lst (O.map ordD))), some (.v (.lst (rs.map qD))), some (.v (.lst (rs.map objD))), some (.v (bookD kb rs)), some (.own (ks.map D.int)), x7, x8, x9, none, none, none, none, none, none, none, none, none]) O.length [some (.own [.int c, .int m, .int k]), some (.v (.lst (O.map lD))), some (.v (.lst (O.map ordD))), some (.v (.lst (rs.map qD))), some (.v (.lst (rs.map objD))), some (.v (bookD kb rs)), some (.own []), none, none, none, none, none, none, none, none, none, none, none, none] (by
    rintro i hi e ⟨ks, x7, x8, x9, hk, hkl, rfl⟩
    obtain ⟨y8, y9, st⟩ := keep_step (kb := kb) hn (fun L hL => (hO L hL).1) v hr hi (ks := ks) (by omega) (some (.own [.int c, .int m, .int k])) x8 x9 none none none none none none
    refine ⟨_, _, rfl, .inl st, _, _, _, _, ?_, ?_, rfl⟩
    · cases g : (firstO O[i] 0 rs).isNone with
      | false => rw [if_neg (by decide)]; exact hk
      | true =>
        rw [if_pos rfl]
        intro x hx
        rcases List.mem_append.mp hx with hx | hx
        · exact hk x hx
        · exact ⟨i, hi, List.mem_singleton.mp hx, Option.isNone_iff_eq_none.mp g⟩
    · split
      · rw [List.length_append, List.length_singleton]; omega
      · omega) ⟨[], none, none, none, (fun _ h => nomatch h), Nat.le_refl _, rfl⟩
  obtain ⟨e2, lp2, c2, m2, k2, y6, y10, y11, y12, y13, y14, y15, s6, rfl⟩ := forM_rng (g := tgN 10) (s := L_law_books_1) (fun i e => ∃ (c m k : Int) (x6 x10 x11 x12 x13 x14 x15 : Option EV), St6 x6 ks ∧ e = [some (.own [.int c, .int m, .int k]), some (.v (.lst (O.map lD))), some (.v (.lst (O.map ordD))), some (.v (.lst (rs.map qD))), some (.v (.lst (rs.map objD))), some (.v (bookD kb rs)), x6, x7, x8, x9, x10, x11, x12, x13, x14, x15, none, none, none]) 6 [some (.own [.int c, .int m, .int k]), some (.v (.lst (O.map lD))), some (.v (.lst (O.map ordD))), some (.v (.lst (rs.map qD))), some (.v (.lst (rs.map objD))), some (.v (bookD kb rs)), some (.own (ks.map D.int)), x7, x8, x9, none, none, none, none, none, none, none, none, none] (by
    rintro i hi e ⟨c, m, k, x6, x10, x11, x12, x13, x14, x15, s6, rfl⟩
    obtain ⟨c', m', k', y6, y11, y12, y13, y14, y15, t6, st⟩ := turn_step (kb := kb) hn hO v hk (by omega) s6 c m k (some (.v (.lst (rs.map qD)))) x7 x8 x9 (some (.v (.int (i : Int)))) x11 x12 x13 x14 x15
    exact ⟨_, _, rfl, .inl st, c', m', k', y6, _, y11, y12, y13, y14, y15, t6, rfl⟩) ⟨c, m, k, _, _, _, _, _, _, _, .inl rfl, rfl⟩
  have lo : (O.map lD).length = O.length := List.length_map ..
  have b62 : -(2 : Int) ^ 62 ≤ (O.length : Int) ∧ (O.length : Int) < 2 ^ 62 := by omega
  simp at b62
  refine ⟨c2, m2, k2, ?_⟩
  clear hO hk
  generalize O.map lD = Ol at *
  generalize O.map ordD = Oo at *
  generalize rs.map qD = Q at *
  generalize rs.map objD = Z at *
  generalize bookD kb rs = BK at *
  simp [u_law_books, lo, b62, lp1, lp2]
end Lw

set_option linter.all false
set_option Elab.async false
set_option maxRecDepth 100000
set_option maxHeartbeats 8000000
set_option exponentiation.threshold 5000
namespace Lw
open PySem Ue
/-! ### confirming and breaking days -/
theorem take_n {c m k : Int} {n : Nat} (h0 : 0 < n) (hn : n ≤ 1000000) : ∃ (d : Nat) (c' m' k' : Int), F_law_take [.own [.int c, .int m, .int k], .v (.int (n : Int))] = .ok (.int (d : Int)) [.own [.int c', .int m', .int k'], .v (.int (n : Int))] ∧ d < n := by
  obtain ⟨d, c', m', k', e, h1, h2⟩ := take_ok (c := c) (m := m) (k := k) (n := (n : Int)) (by omega) (mid_of (by omega) (by omega))
  obtain ⟨d, rfl⟩ := Int.eq_ofNat_of_zero_le h1
  exact ⟨d, c', m', k', e, by omega⟩
theorem lt_bit {x d : Nat} (h : x < 2 ^ d) : x.testBit d = false := Nat.testBit_lt_two_pow h
theorem dis_or {x y d : Nat} (h : x &&& y = 0) (hy : y < 2 ^ d) : (x ||| 2 ^ d) &&& y = 0 := by
  rw [and0_iff] at h ⊢
  intro i hi
  rw [Nat.testBit_or, pow_bit] at hi
  by_cases g : x.testBit i = true
  · exact h i g
  · have e : d = i := by
      cases q : decide (d = i) with
      | true => exact of_decide_eq_true q
      | false => rw [q] at hi; simp at hi; exact absurd hi g
    subst e
    exact lt_bit hy
theorem and_comm0 {x y : Nat} (h : x &&& y = 0) : y &&& x = 0 := by rw [Nat.and_comm]; exact h
theorem pow_up {x d : Nat} (h : x < 2 ^ d) : x < 2 ^ (d + 1) ∧ x + 2 ^ d < 2 ^ (d + 1) := by
  rw [Nat.pow_succ]; omega
theorem day_step {c m k : Int} {C B d : Nat} (hd : d < 16) (hC : C < 2 ^ d) (hB : B < 2 ^ d) (h : C &&& B = 0) (x0 x1 x3 x4 x5 x6 x7 x8 x9 x13 x14 x15 x16 x17 x18 : Option EV) : ∃ (C' B' : Nat) (c' m' k' : Int) (y13 : Option EV), C' < 2 ^ (d + 1) ∧ B' < 2 ^ (d + 1) ∧ C' &&& B' = 0 ∧ L_law_0 [x0, x1, some (.own [.int c, .int m, .int k]), x3, x4, x5, x6, x7, x8, x9, some (.v (.int (C : Int))), some (.v (.int (B : Int))), some (.v (.int (d : Int))), x13, x14, x15, x16, x17, x18] = .nx [x0, x1, some (.own [.int c', .int m', .int k']), x3, x4, x5, x6, x7, x8, x9, some (.v (.int (C' : Int))), some (.v (.int (B' : Int))), some (.v (.int (d : Int))), y13, x14, x15, x16, x17, x18] := by
  obtain ⟨q, c1, m1, k1, e, hq⟩ := take_n (c := c) (m := m) (k := k) (n := 3) (by omega) (by omega)
  have e : F_law_take [.own [.int c, .int m, .int k], .v (.int 3)] = .ok (.int (q : Int)) [.own [.int c1, .int m1, .int k1], .v (.int 3)] := e
  have s := shl1 (i := d) (by omega)
  have cd : ((2 ^ d : Nat) : Int) = (2 : Int) ^ d := by rw [Int.natCast_pow]; rfl
  by_cases h0 : q = 0
  · subst h0
    refine ⟨C + 2 ^ d, B, c1, m1, k1, some (.v (.int 0)), (pow_up hC).2, (pow_up hB).1, ?_, ?_⟩
    · rw [add_day (lt_bit hC)]; exact dis_or h hB
    · have ea : ((C + 2 ^ d : Nat) : Int) = (C : Int) + (2 : Int) ^ d := by rw [Int.natCast_add, cd]
      rw [ea]
      simp [L_law_0, e, s]
  · by_cases h1 : q = 1
    · subst h1
      refine ⟨C, B + 2 ^ d, c1, m1, k1, some (.v (.int 1)), (pow_up hC).1, (pow_up hB).2, ?_, ?_⟩
      · rw [add_day (lt_bit hB)]; exact and_comm0 (dis_or (and_comm0 h) hC)
      · have ea : ((B + 2 ^ d : Nat) : Int) = (B : Int) + (2 : Int) ^ d := by rw [Int.natCast_add, cd]
        rw [ea]
        simp [L_law_0, e, s]
    · refine ⟨C, B, c1, m1, k1, some (.v (.int (q : Int))), (pow_up hC).1, (pow_up hB).1, h, ?_⟩
      have h0' : ¬ (q : Int) = 0 := by omega
      have h1' : ¬ (q : Int) = 1 := by omega
      simp [L_law_0, e, s, h0, h1, h0', h1']
theorem of_days_ok {C B : Nat} {u : Bool} (h : C &&& B = 0) (h1 : 1 ≤ C ||| B) (hC : C ≤ 65535) (hB : B ≤ 65535) : F_Saying_of_days [.ex 0 [], .v (.int (C : Int)), .v (.int (B : Int)), .v (.bl u)] = .ok (objD (C ||| B, C, u)) [.ex 0 [], .v (.int (C : Int)), .v (.int (B : Int)), .v (.bl u)] := by
  have e1 := whole_i (x := (C : Int)) (lo := 0) (hi := 65535)
  have e2 := whole_i (x := (B : Int)) (lo := 0) (hi := 65535)
  rw [decide_eq_true (by omega), decide_eq_true (by omega)] at e1
  rw [decide_eq_true (by omega), decide_eq_true (by omega)] at e2
  have b1 := bAnd C B
  have b2 := bOr C B
  rw [h] at b1
  have mk := say_make (u := u) h1 (or_lt hC hB) hC
  have l8 : (sayF (C ||| B) C u).length = 8 := rfl
  unfold objD sayD
  dsimp only
  generalize sayF (C ||| B) C u = F at *
  generalize ((C ||| B : Nat) : Int) = W at *
  simp [u_Saying_of_days, e1, e2, b1, b2, mk, l8]
theorem and_or {C B : Nat} (h : C &&& B = 0) : (C ||| B) &&& C = C ∧ br (C ||| B) C = B := by
  rw [and0_iff] at h
  constructor
  · apply Nat.eq_of_testBit_eq
    intro i
    rw [Nat.testBit_and, Nat.testBit_or]
    cases C.testBit i <;> simp
  · apply Nat.eq_of_testBit_eq
    intro i
    rw [br_bit, Nat.testBit_or]
    cases q : C.testBit i with
    | false => simp
    | true => rw [h i q]; rfl
/-- one more row and saying -/
theorem row_more {n : Nat} (hn : 1 ≤ n ∧ n ≤ 16) {rs : List Rw} (hl : rs.length < 100) (c m k : Int) (x0 x1 x4 x5 x6 x9 x10 x11 x12 x13 x14 x15 x16 x17 x18 : Option EV) : ∃ (r : Rw) (c' m' k' : Int) (y10 y11 y12 y13 y14 : Option EV), Vr n r ∧ L_law_1 [x0, x1, some (.own [.int c, .int m, .int k]), some (.v (.int (n : Int))), x4, x5, x6, some (.own (rs.map qD)), some (.own (rs.map objD)), x9, x10, x11, x12, x13, x14, x15, x16, x17, x18] = .nx [x0, x1, some (.own [.int c', .int m', .int k']), some (.v (.int (n : Int))), x4, x5, x6, some (.own ((rs ++ [r]).map qD)), some (.own ((rs ++ [r]).map objD)), x9, y10, y11, y12, y13, y14, x15, x16, x17, x18] := by
  obtain ⟨e1, lp, C, B, c1, m1, k1, y12, y13, hC, hB, hd, rfl⟩ := forM_rng (g := tgN 12) (s := L_law_0) (fun i e => ∃ (C B : Nat) (c m k : Int) (x12 x13 : Option EV), C < 2 ^ i ∧ B < 2 ^ i ∧ C &&& B = 0 ∧ e = [x0, x1, some (.own [.int c, .int m, .int k]), some (.v (.int (n : Int))), x4, x5, x6, some (.own (rs.map qD)), some (.own (rs.map objD)), x9, some (.v (.int (C : Int))), some (.v (.int (B : Int))), x12, x13, x14, x15, x16, x17, x18]) n [x0, x1, some (.own [.int c, .int m, .int k]), some (.v (.int (n : Int))), x4, x5, x6, some (.own (rs.map qD)), some (.own (rs.map objD)), x9, some (.v (.int 0)), some (.v (.int 0)), x12, x13, x14, x15, x16, x17, x18] (by
    rintro i hi e ⟨C, B, c, m, k, x12, x13, hC, hB, hd, rfl⟩
    obtain ⟨C', B', c', m', k', y13, h1, h2, h3, st⟩ := day_step (c := c) (m := m) (k := k) (d := i) (by omega) hC hB hd x0 x1 (some (.v (.int (n : Int)))) x4 x5 x6 (some (.own (rs.map qD))) (some (.own (rs.map objD))) x9 x13 x14 x15 x16 x17 x18
    exact ⟨_, _, rfl, .inl st, C', B', c', m', k', _, y13, h1, h2, h3, rfl⟩) ⟨0, 0, c, m, k, x12, x13, Nat.two_pow_pos _, Nat.two_pow_pos _, rfl, rfl⟩
  obtain ⟨q, c2, m2, k2, e2, hq⟩ := take_n (c := c1) (m := m1) (k := k1) (n := 3) (by omega) (by omega)
  have e2 : F_law_take [.own [.int c1, .int m1, .int k1], .v (.int 3)] = .ok (.int (q : Int)) [.own [.int c2, .int m2, .int k2], .v (.int 3)] := e2
  -- the days that are told
  obtain ⟨C2, hC2, hd2, h1, hsel⟩ : ∃ C2 : Nat, C2 < 2 ^ n ∧ C2 &&& B = 0 ∧ 1 ≤ C2 ||| B ∧ (if decide ((0 : Int) < (C : Int) + (B : Int)) = true then (C : Int) else 1) = (C2 : Int) := by
    by_cases g : 0 < C + B
    · refine ⟨C, hC, hd, ?_, by rw [if_pos (decide_eq_true (by omega))]⟩
      have a1 : C ≤ C ||| B := Nat.left_le_or
      have a2 : B ≤ C ||| B := Nat.right_le_or
      omega
    · have b0 : B = 0 := by omega
      subst b0
      refine ⟨1, ?_, by simp, by decide, by rw [if_neg (by simp; omega)]; rfl⟩
      have := Nat.pow_le_pow_right (n := 2) (by decide) hn.1
      have e : 2 ^ 1 = 2 := rfl
      omega
  have od' := of_days_ok (C := C2) (B := B) (u := decide (0 < q)) hd2 h1 (p16 hn.2 hC2) (p16 hn.2 hB)
  refine ⟨(C2 ||| B, C2, decide (0 < q)), c2, m2, k2, some (.v (.int (C2 : Int))), some (.v (.int (B : Int))), y12, y13, some (.v (.bl (decide (0 < q)))), ⟨h1, Nat.or_lt_two_pow hC2 hB, hC2⟩, ?_⟩
  obtain ⟨a1, a2⟩ := and_or hd2
  have eq : qD (C2 ||| B, C2, decide (0 < q)) = .tup [.int (C2 : Int), .int (B : Int), .bl (decide (0 < q))] := by
    unfold qD; dsimp only; rw [a1, a2]
  have m1' : (rs ++ [(C2 ||| B, C2, decide (0 < q))]).map qD = rs.map qD ++ [.tup [.int (C2 : Int), .int (B : Int), .bl (decide (0 < q))]] := by
    rw [List.map_append, List.map_cons, List.map_nil, eq]
  have m2' : (rs ++ [(C2 ||| B, C2, decide (0 < q))]).map objD = rs.map objD ++ [objD (C2 ||| B, C2, decide (0 < q))] := by
    rw [List.map_append]; rfl
  rw [m1', m2']
  have z := z_le (n := 1000) (by omega)
  have z2 := z_le (n := 2) (by omega)
  have z3 := z_le (n := 3) (by omega)
  have l1 : (rs.map qD).length < sizeLine := by rw [List.length_map]; omega
  have l2 : (rs.map objD).length < sizeLine := by rw [List.length_map]; omega
  have b62 : -(2 : Int) ^ 62 ≤ (n : Int) ∧ (n : Int) < 2 ^ 62 := by omega
  simp at b62
  clear eq m1' m2' a1 a2 hC hB hd hd2 hC2
  generalize objD (C2 ||| B, C2, decide (0 < q)) = OB at *
  generalize hu : decide (0 < q) = uu at *
  generalize rs.map qD = Q at *
  generalize rs.map objD = Z at *
  simp at hsel
  by_cases g : (0 : Int) < (C : Int) + (B : Int)
  · rw [if_pos g] at hsel
    have hs : C2 = C := by omega
    subst hs
    simp [L_law_1, z2, z3, b62, lp, g, e2, l1, l2, appG, hu, od']
  · rw [if_neg g] at hsel
    have hs : C2 = 1 := by omega
    subst hs
    have od' : F_Saying_of_days [.ex 0 [], .v (.int 1), .v (.int (B : Int)), .v (.bl uu)] = .ok OB [.ex 0 [], .v (.int 1), .v (.int (B : Int)), .v (.bl uu)] := od'
    simp [L_law_1, z2, z3, b62, lp, g, e2, l1, l2, appG, hu, od']
end Lw

set_option linter.all false
set_option Elab.async false
set_option maxRecDepth 100000
set_option maxHeartbeats 8000000
set_option exponentiation.threshold 5000
namespace Lw
open PySem Ue
/-! ### each order, each saying -/
theorem id_mono (L : List Int) : MonoOn (fun x => x) L := fun _ _ _ _ h => h
theorem say_loop {O : List (List Int)} {n : Nat} {rs : List Rw} (hn : n ≤ 16) (hO : ∀ L ∈ O, L.length = n ∧ Full L) (v : ∀ r ∈ rs, Vr n r) {k : Nat} (hk : k < O.length) {f : Int → Int} (hf : MonoOn f O[k]) (x0 x1 x2 x3 x4 x6 x9 x10 x11 x12 x13 x14 x17 x18 : Option EV) : ∃ y17, forM (tgN 17) L_law_2 (rngL 0 rs.length) [x0, x1, x2, x3, x4, some (.v (.lst (O.map lD))), x6, some (.own (rs.map qD)), some (.own (rs.map objD)), x9, x10, x11, x12, x13, x14, some (.v (.int (k : Int))), some (.v (ordD (O[k].map f))), x17, x18] = .nx [x0, x1, x2, x3, x4, some (.v (.lst (O.map lD))), x6, some (.own (rs.map qD)), some (.own (rs.map objD)), x9, x10, x11, x12, x13, x14, some (.v (.int (k : Int))), some (.v (ordD (O[k].map f))), y17, x18] := by
  obtain ⟨e, lp, y17, rfl⟩ := forM_rng (g := tgN 17) (s := L_law_2) (fun i e => ∃ x17, e = [x0, x1, x2, x3, x4, some (.v (.lst (O.map lD))), x6, some (.own (rs.map qD)), some (.own (rs.map objD)), x9, x10, x11, x12, x13, x14, some (.v (.int (k : Int))), some (.v (ordD (O[k].map f))), x17, x18]) rs.length [x0, x1, x2, x3, x4, some (.v (.lst (O.map lD))), x6, some (.own (rs.map qD)), some (.own (rs.map objD)), x9, x10, x11, x12, x13, x14, some (.v (.int (k : Int))), some (.v (ordD (O[k].map f))), x17, x18] (by
    rintro i hi e ⟨x17, rfl⟩
    obtain ⟨lL, fL⟩ := hO _ (List.getElem_mem hk)
    have ls := lsay_ok hf (r := rs[i]) (by rw [lL]; exact hn) (by rw [lL]; exact v _ (List.getElem_mem hi))
    have a1 := at_map (f := lD) hk
    have a2 := at_map (f := objD) hi
    have a3 := at_map (f := qD) hi
    have a4 : ∀ a b : D, L2.atI [a, b, .bl rs[i].2.2] 2 = some (.bl rs[i].2.2) := fun _ _ => rfl
    refine ⟨_, _, rfl, .inl ?_, some (.v (.int (i : Int))), rfl⟩
    unfold lD at a1
    unfold qD at a3
    generalize O[k].map D.int = Y at *
    generalize ordD (O[k].map f) = OG at *
    generalize objD rs[i] = RO at *
    generalize rs[i].2.2 = uu at *
    generalize ((rs[i].1 &&& rs[i].2.1 : Nat) : Int) = q1 at *
    generalize ((br rs[i].1 rs[i].2.1 : Nat) : Int) = q2 at *
    have e1 : (O.map fun r => D.lst (r.map D.int)) = O.map lD := rfl
    have e2 : (rs.map fun r => D.tup [.int ((r.1 &&& r.2.1 : Nat) : Int), .int ((br r.1 r.2.1 : Nat) : Int), .bl r.2.2]) = rs.map qD := rfl
    rw [e1] at a1
    rw [e2] at a3
    generalize O.map lD = Ol at *
    generalize rs.map qD = Q at *
    generalize rs.map objD = Z at *
    simp [L_law_2, a1, a2, a3, a4, ls]) ⟨x17, rfl⟩
  exact ⟨y17, lp⟩
theorem order_turn {O : List (List Int)} {n : Nat} {rs : List Rw} (hn : n ≤ 16) (hO : ∀ L ∈ O, L.length = n ∧ Full L) (v : ∀ r ∈ rs, Vr n r) (hr : rs.length ≤ 12) {k : Nat} (hk : k < O.length) (c m k0 : Int) (pl : Int) (x0 x3 x4 x9 x10 x11 x12 x13 x14 x16 x17 x18 : Option EV) : ∃ c' m' k' y16 y17, L_law_3 [x0, some (.v (.int pl)), some (.own [.int c, .int m, .int k0]), x3, x4, some (.v (.lst (O.map lD))), some (.v (.lst (O.map ordD))), some (.own (rs.map qD)), some (.own (rs.map objD)), x9, x10, x11, x12, x13, x14, some (.v (.int (k : Int))), x16, x17, x18] = .nx [x0, some (.v (.int pl)), some (.own [.int c', .int m', .int k']), x3, x4, some (.v (.lst (O.map lD))), some (.v (.lst (O.map ordD))), some (.own (rs.map qD)), some (.own (rs.map objD)), x9, x10, x11, x12, x13, x14, some (.v (.int (k : Int))), y16, y17, x18] := by
  obtain ⟨lL, fL⟩ := hO _ (List.getElem_mem hk)
  have a1 := at_map (f := lD) hk
  have a2 := at_map (f := ordD) hk
  have dm : divOk (k : Int) 5 = true := divOk_mid (by decide) (mid_of (by decide) (by decide))
  have b62 : -(2 : Int) ^ 62 ≤ (rs.length : Int) ∧ (rs.length : Int) < 2 ^ 62 := by omega
  simp at b62
  have lq : (rs.map qD).length = rs.length := List.length_map ..
  by_cases g : (k : Int).fmod 5 = pl
  · obtain ⟨f, c1, m1, k1, mf, f0, fh, sp⟩ := spread_ok (r := O[k]) (by intro z; rw [z] at fL; have := (full_len fL).1; simp at this) (full_len fL).2 fL.2.1 c m k0
    have mk := order_make (lay_map fL.1 mf f0 fh)
    obtain ⟨y17, sl⟩ := say_loop hn hO v hk mf x0 (some (.v (.int pl))) (some (.own [.int c1, .int m1, .int k1])) x3 x4 (some (.v (.lst (O.map ordD)))) x9 x10 x11 x12 x13 x14 x17 x18
    refine ⟨c1, m1, k1, some (.v (ordD (O[k].map f))), y17, ?_⟩
    have eo : ordD (O[k].map f) = .obj 0 [.tup ((O[k].map f).map D.int)] := rfl
    rw [eo] at sl ⊢
    have a1' : L2.atI (O.map lD) (k : Int) = some (.lst (O[k].map D.int)) := a1
    clear hO a1 a2 mf fh fL eo
    generalize O.map lD = Ol at *
    generalize O.map ordD = Oo at *
    generalize (O[k].map f).map D.int = YG at *
    generalize O[k].map D.int = Y at *
    generalize rs.map qD = Q at *
    generalize rs.map objD = Z at *
    simp [L_law_3, dm, g, a1', sp, mk, lq, b62, sl]
  · obtain ⟨y17, sl⟩ := say_loop hn hO v hk (id_mono O[k]) x0 (some (.v (.int pl))) (some (.own [.int c, .int m, .int k0])) x3 x4 (some (.v (.lst (O.map ordD)))) x9 x10 x11 x12 x13 x14 x17 x18
    have ei : O[k].map (fun x => x) = O[k] := List.map_id' _
    rw [ei] at sl
    refine ⟨c, m, k0, some (.v (ordD O[k])), y17, ?_⟩
    clear hO fL ei
    generalize O.map lD = Ol at *
    generalize O.map ordD = Oo at *
    generalize ordD O[k] = OG at *
    generalize rs.map qD = Q at *
    generalize rs.map objD = Z at *
    simp [L_law_3, dm, g, a2, lq, b62, sl]
/-! ### the orders of two and of four days -/
theorem ords_full {n : Nat} (hn : n = 2 ∨ n = 4) : ∀ L ∈ ORDS n, L.length = n ∧ Full L := by
  have key : ∀ L ∈ ORDS n, L.length = n ∧ minOf L = 0 ∧ (∀ x ∈ L, 0 ≤ x ∧ x ≤ 3) ∧ closeL L = L := by
    rcases hn with rfl | rfl <;> decide +kernel
  intro L hL
  obtain ⟨h1, h2, h3, h4⟩ := key L hL
  refine ⟨h1, ⟨?_, fun x hx => ⟨(h3 x hx).1, ?_⟩, h2⟩, h3, h4⟩
  · rw [h1]; rcases hn with rfl | rfl <;> rfl
  · have := (h3 x hx).2
    have : (3 : Int) ≤ HI := by decide
    omega
theorem ords_len : (ORDS 2).length = 3 ∧ (ORDS 4).length = 75 := by decide +kernel
end Lw

set_option linter.all false
set_option Elab.async false
set_option maxRecDepth 100000
set_option maxHeartbeats 8000000
set_option exponentiation.threshold 5000
namespace Lw
open PySem Ue
theorem made_comp {O : List (List Int)} (hO : ∀ L ∈ O, Lay L) {x0 x1 x2 x3 x4 x5 x6 x7 x8 x9 x10 x11 x12 x13 x14 x15 x16 x17 : Option EV} : compL [18] (tgN 18) yesT (mkM 0 1 F_Order_init [.p (varM 18)] []) (O.map lD) [x0, x1, x2, x3, x4, x5, x6, x7, x8, x9, x10, x11, x12, x13, x14, x15, x16, x17, none] = .ok (O.map ordD) [x0, x1, x2, x3, x4, x5, x6, x7, x8, x9, x10, x11, x12, x13, x14, x15, x16, x17, none] := by
  refine compL_map lD ordD (by simp [vsOk]) O fun L hL => ⟨[x0, x1, x2, x3, x4, x5, x6, x7, x8, x9, x10, x11, x12, x13, x14, x15, x16, x17, some (.v (lD L))], [x0, x1, x2, x3, x4, x5, x6, x7, x8, x9, x10, x11, x12, x13, x14, x15, x16, x17, some (.v (lD L))], by simp, ?_, by simp [rest_one]⟩
  have mk := order_make (hO L hL)
  unfold lD ordD
  generalize L.map D.int = Y at *
  simp [mk]
theorem law_turn (ns : List Int) (hl : ns.length ≤ 63) {i : Nat} (x2 x3 x4 x5 x6 x7 x8 x9 x10 x11 x12 x13 x14 x15 x16 x17 : Option EV) : ∃ y2 y3 y4 y5 y6 y7 y8 y9 y10 y11 y12 y13 y14 y15 y16 y17, L_law_4 [some (.v (.scr ns)), some (.v (.int (i : Int))), x2, x3, x4, x5, x6, x7, x8, x9, x10, x11, x12, x13, x14, x15, x16, x17, none] = .nx [some (.v (.scr ns)), some (.v (.int (i : Int))), y2, y3, y4, y5, y6, y7, y8, y9, y10, y11, y12, y13, y14, y15, y16, y17, none] := by
  have z3 := z_le (n := 3) (by omega)
  have z1 := z_le (n := 1) (by omega)
  have z2 := z_le (n := 2) (by omega)
  obtain ⟨c, m, e0⟩ := bag_ok (i := i) hl
  obtain ⟨d, c1, m1, k1, e1, hd⟩ := of_ok (c := c) (m := m) (k := 0) (ds := [.int 4, .int 4, .int 2]) (by simp) (by simp)
  obtain ⟨n, kb, s, rfl, hn, hkb, hs⟩ : ∃ n kb s : Nat, d = .int n ∧ (n = 2 ∨ n = 4) ∧ n = 2 ^ kb ∧ (n = 2 ∧ kb = 1 ∧ s = 8 ∨ n = 4 ∧ kb = 2 ∧ s = 3) := by
    simp only [List.mem_cons, List.not_mem_nil, or_false] at hd
    rcases hd with h | h | h <;> subst h
    · exact ⟨4, 2, 3, rfl, .inr rfl, rfl, .inr ⟨rfl, rfl, rfl⟩⟩
    · exact ⟨4, 2, 3, rfl, .inr rfl, rfl, .inr ⟨rfl, rfl, rfl⟩⟩
    · exact ⟨2, 1, 8, rfl, .inl rfl, rfl, .inl ⟨rfl, rfl, rfl⟩⟩
  have h16 : 1 ≤ n ∧ n ≤ 16 := by omega
  have oo := orders_ok hn
  have of := ords_full hn
  have ol : (ORDS n).length ≤ 100 ∧ (ORDS n).length = if n = 2 then 3 else 75 := by
    have := ords_len
    rcases hn with rfl | rfl
    · rw [this.1]; exact ⟨by decide, rfl⟩
    · rw [this.2]; exact ⟨by decide, rfl⟩
  generalize hO : ORDS n = O at *
  have s8 : s ≤ 8 := by omega
  have mc := fun x4 x5 x7 x8 x9 x10 x11 x12 x13 x14 x15 x16 x17 => made_comp (O := O) (fun L hL => (of L hL).2.1) (x0 := some (.v (.scr ns))) (x1 := some (.v (.int (i : Int)))) (x2 := some (.own [.int c1, .int m1, .int k1])) (x3 := some (.v (.int (n : Int)))) (x4 := x4) (x5 := x5) (x6 := x6) (x7 := x7) (x8 := x8) (x9 := x9) (x10 := x10) (x11 := x11) (x12 := x12) (x13 := x13) (x14 := x14) (x15 := x15) (x16 := x16) (x17 := x17)
  obtain ⟨e5, lp1, rs, c2, m2, k2, y9, y10, y11, y12, y13, y14, hv, hls, rfl⟩ := forM_rng (g := tgN 9) (s := L_law_1) (fun j e => ∃ (rs : List Rw) (c m k : Int) (x9 x10 x11 x12 x13 x14 : Option EV), (∀ r ∈ rs, Vr n r) ∧ rs.length = j ∧ e = [some (.v (.scr ns)), some (.v (.int (i : Int))), some (.own [.int c, .int m, .int k]), some (.v (.int (n : Int))), some (.v (mkD kb)), some (.v (.lst (O.map lD))), some (.v (.lst (O.map ordD))), some (.own (rs.map qD)), some (.own (rs.map objD)), x9, x10, x11, x12, x13, x14, x15, x16, x17, none]) s [some (.v (.scr ns)), some (.v (.int (i : Int))), some (.own [.int c1, .int m1, .int k1]), some (.v (.int (n : Int))), some (.v (mkD kb)), some (.v (.lst (O.map lD))), some (.v (.lst (O.map ordD))), some (.own []), some (.own []), x9, x10, x11, x12, x13, x14, x15, x16, x17, none] (by
    rintro j hj e ⟨rs, c, m, k, x9, x10, x11, x12, x13, x14, hv, hl, rfl⟩
    obtain ⟨r, c', m', k', y10, y11, y12, y13, y14, vr, st⟩ := row_more h16 (rs := rs) (by omega) c m k (some (.v (.scr ns))) (some (.v (.int (i : Int)))) (some (.v (mkD kb))) (some (.v (.lst (O.map lD)))) (some (.v (.lst (O.map ordD)))) (some (.v (.int (j : Int)))) x10 x11 x12 x13 x14 x15 x16 x17 none
    refine ⟨_, _, rfl, .inl st, rs ++ [r], c', m', k', _, y10, y11, y12, y13, y14, fun q hq => ?_, by simp [hl], rfl⟩
    rcases List.mem_append.mp hq with hq | hq
    · exact hv q hq
    · rw [List.mem_singleton.mp hq]; exact vr) ⟨[], c1, m1, k1, x9, x10, x11, x12, x13, x14, (fun _ h => nomatch h), rfl, rfl⟩
  obtain ⟨e6, lp2, c3, m3, k3, y15, y16, y17, rfl⟩ := forM_rng (g := tgN 15) (s := L_law_3) (fun j e => ∃ (c m k : Int) (x15 x16 x17 : Option EV), e = [some (.v (.scr ns)), some (.v (.int (i : Int))), some (.own [.int c, .int m, .int k]), some (.v (.int (n : Int))), some (.v (mkD kb)), some (.v (.lst (O.map lD))), some (.v (.lst (O.map ordD))), some (.own (rs.map qD)), some (.own (rs.map objD)), y9, y10, y11, y12, y13, y14, x15, x16, x17, none]) O.length [some (.v (.scr ns)), some (.v (.int (i : Int))), some (.own [.int c2, .int m2, .int k2]), some (.v (.int (n : Int))), some (.v (mkD kb)), some (.v (.lst (O.map lD))), some (.v (.lst (O.map ordD))), some (.own (rs.map qD)), some (.own (rs.map objD)), y9, y10, y11, y12, y13, y14, x15, x16, x17, none] (by
    rintro j hj e ⟨c, m, k, x15, x16, x17, rfl⟩
    obtain ⟨c', m', k', y16, y17, st⟩ := order_turn h16.2 of hv (by omega) hj c m k (i : Int) (some (.v (.scr ns))) (some (.v (.int (n : Int)))) (some (.v (mkD kb))) y9 y10 y11 y12 y13 y14 x16 x17 none
    exact ⟨_, _, rfl, .inl st, c', m', k', _, y16, y17, rfl⟩) ⟨c2, m2, k2, x15, x16, x17, rfl⟩
  obtain ⟨c4, m4, k4, bk⟩ := books_ok (kb := kb) h16.2 of ol.1 hv (by omega) c3 m3 k3
  have bi := book_ok (k := kb) (rs := rs) (by omega) (by rw [← hkb]; exact hv)
  have lo : (O.map lD).length = O.length := List.length_map ..
  have zo : O.length ≤ sizeLine := Nat.le_trans ol.1 (z_le (by omega))
  have b62 : -(2 : Int) ^ 62 ≤ (O.length : Int) ∧ (O.length : Int) < 2 ^ 62 := by omega
  simp at b62
  refine ⟨some (.own [.int c4, .int m4, .int k4]), some (.v (.int (n : Int))), some (.v (mkD kb)), some (.v (.lst (O.map lD))), some (.v (.lst (O.map ordD))), some (.v (.lst (rs.map qD))), some (.v (.lst (rs.map objD))), y9, y10, y11, y12, y13, y14, y15, y16, y17, ?_⟩
  have ol2 := ol.2
  clear of hv hd ol
  generalize hbk : bookD kb rs = BK at *
  have ebk : BK = .obj 3 [mkD kb, .tup (rs.map objD)] := hbk.symm
  generalize rs.map qD = Q at *
  generalize rs.map objD = Z at *
  generalize O.map lD = Ol at *
  generalize O.map ordD = Oo at *
  rw [ebk] at bk
  rcases hs with ⟨rfl, rfl, rfl⟩ | ⟨rfl, rfl, rfl⟩
  · have mk := marks_1
    have l4 : (mkF 1).length = 4 := rfl
    have em : mkD 1 = .obj 1 (mkF 1) := rfl
    rw [if_pos rfl] at ol2
    rw [em] at lp1 lp2 bk bi ⊢
    clear em hbk ebk
    generalize mkF 1 = MF at *
    rw [ol2] at lp2 lo zo
    simp at e1 lp1 lp2 mc oo
    simp [L_law_4, e0, z1, z2, z3, e1, mk, l4, oo, lo, zo, mc, lp1, lp2, bk, bi]
  · have mk := marks_2
    have l4 : (mkF 2).length = 4 := rfl
    have em : mkD 2 = .obj 1 (mkF 2) := rfl
    rw [if_neg (by decide)] at ol2
    rw [em] at lp1 lp2 bk bi ⊢
    clear em hbk ebk
    generalize mkF 2 = MF at *
    rw [ol2] at lp2 lo zo
    simp at e1 lp1 lp2 mc oo
    simp [L_law_4, e0, z1, z2, z3, e1, mk, l4, oo, lo, zo, mc, lp1, lp2, bk, bi]
end Lw

set_option linter.all false
set_option Elab.async false
set_option maxRecDepth 100000
set_option maxHeartbeats 8000000
set_option exponentiation.threshold 5000
namespace Lw
open PySem Ue
theorem law_true : ∀ ns : List Int, ns.length ≤ 63 → ∃ as, F_law [.v (.scr ns)] = .ok (.bl true) as := by
  intro ns hl
  have mx : ∃ n : Nat, (if (if (ns.length : Int) < 2 then (ns.length : Int) else 2) > 1 then (if (ns.length : Int) < 2 then (ns.length : Int) else 2) else 1) = (n : Int) ∧ n ≤ 4 := by
    by_cases h : (ns.length : Int) < 2
    · by_cases h2 : (ns.length : Int) > 1
      · exact ⟨ns.length, by rw [if_pos h, if_pos h2], by omega⟩
      · exact ⟨1, by rw [if_pos h, if_neg h2]; rfl, by omega⟩
    · exact ⟨2, by rw [if_neg h]; rfl, by omega⟩
  obtain ⟨n, hn, h4⟩ := mx
  obtain ⟨e1, h1, y1, y2, y3, y4, y5, y6, y7, y8, y9, y10, y11, y12, y13, y14, y15, y16, y17, rfl⟩ := forM_rng (g := tgN 1) (s := L_law_4) (fun _ e => ∃ y1 y2 y3 y4 y5 y6 y7 y8 y9 y10 y11 y12 y13 y14 y15 y16 y17, e = [some (.v (.scr ns)), y1, y2, y3, y4, y5, y6, y7, y8, y9, y10, y11, y12, y13, y14, y15, y16, y17, none]) n [some (.v (.scr ns)), none, none, none, none, none, none, none, none, none, none, none, none, none, none, none, none, none, none] (by
    rintro i hi e ⟨y1, y2, y3, y4, y5, y6, y7, y8, y9, y10, y11, y12, y13, y14, y15, y16, y17, rfl⟩
    obtain ⟨z2, z3, z4, z5, z6, z7, z8, z9, z10, z11, z12, z13, z14, z15, z16, z17, e⟩ := law_turn ns hl (i := i) y2 y3 y4 y5 y6 y7 y8 y9 y10 y11 y12 y13 y14 y15 y16 y17
    exact ⟨_, _, rfl, .inl e, _, _, _, _, _, _, _, _, _, _, _, _, _, _, _, _, _, rfl⟩) ⟨_, _, _, _, _, _, _, _, _, _, _, _, _, _, _, _, _, rfl⟩
  have b : -(2 : Int) ^ 62 ≤ (n : Int) ∧ (n : Int) < 2 ^ 62 := by omega
  refine ⟨[.v (.scr ns)], ?_⟩
  simp only [u_law, runF_s, seqM_s, forS_s, rng1M_s, callM_s, argsM_c, argsM_n, cM_s, varM_s, List.map_cons, List.map_nil, List.length_cons, List.length_nil, List.cons_append, List.nil_append, List.getElem?_cons_zero, List.replicate_succ, List.replicate_zero, bind_ok, lenD_s, liftO_s, ii_s, hn, if_pos b, Int.toNat_natCast, toS_ok, Nat.sub_self, show (19 - (0 + 1)) = 18 from rfl, h1]
  simp
end Lw

open PySem PySem.W PySem.Calls PyProof.Rows
theorem PySem.Challenge.cw_usualdays_k10_whole_kept_in_all_orders_holds : PySem.Challenge.rw_usualdays_k10_whole_kept_in_all_orders.Holds := by
  w_on; o_law
  refine HandSHeadRun.head_any (r := OpenLaw.row PySem.Challenge.rw_usualdays_k10_whole_kept_in_all_orders) (q := view (OpenLaw.row PySem.Challenge.rw_usualdays_k10_whole_kept_in_all_orders).prog [49]) (H := Lw.hk) (ob := Lw.ob) (M := 9000) (loose := (["_wall", "days_in", "DaysError", "BadMarks", "NoMark", "NoDay", "BadSaying", "BadBook", "NoSaying", "BadLot", "OtherDays", "BadOrder", "is_whole", "COUNTS", "HIGHEST", "checked_layers", "check_days", "check_same_days", "first_not_kept", "Order", "LETTERS", "KEPT_WORDS", "MOST_MARKS", "LONGEST_NAME", "name_fault", "Marks", "ALL_BITS", "LAST_DAY", "Saying", "MOST_SAYINGS"] : List PySem.Str) ++ (["check_lot", "Book", "_law_bag", "_law_take", "_law_of", "_law_longer", "_law_orders", "_law_keeps", "_law_spread", "_law_saying", "_law_books"] : List PySem.Str)) (d := HandSHeadRun.topDef (OpenLaw.row PySem.Challenge.rw_usualdays_k10_whole_kept_in_all_orders).prog 49) (kwd := []) Lw.ob_eq (by kernel_rfl) (fun s => by kernel_rfl) Lw.run
    (by kernel_rfl) (by kernel_rfl) (by kernel_rfl) (by rfl) (by first | assumption | decide +kernel)
    (by decide +kernel) ⟨rfl, rfl, rfl, rfl, rfl, by decide +kernel⟩ ?hw ?hc
  case hw => w_witness2
  case hc =>
    refine Ue.walk_ofU (lw := PySem.Challenge.rw_usualdays_k10_whole_kept_in_all_orders) (mx := 63) (lv := 9) (x := "_law_script") rfl (by decide) (by kernel_rfl) ⟨rfl, by decide, by decide⟩ ?Z
    intro w mg f0 hp Y G hmg0
    obtain ⟨K, KX, c⟩ := Y
    have e1 : (HandSHeadRun.topDef (OpenLaw.row PySem.Challenge.rw_usualdays_k10_whole_kept_in_all_orders).prog 49).name = ("law" : PySem.Str) := by kernel_rfl
    rw [e1] at hmg0
    have e2 := hmg0.symm.trans (Lw.m_law KX G c)
    cases e2
    obtain ⟨fd, hb, hF⟩ := Lw.ok_law (P := (PySem.Challenge.rw_usualdays_k10_whole_kept_in_all_orders).prog) (w := w) KX G c
    exact ⟨Lw.tab K, fd, Lw.F_law, KX, hb, Lw.law_true, fun base _ _ => hF base⟩

