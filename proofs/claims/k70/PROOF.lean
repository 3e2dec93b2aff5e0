import PyProof.Rows.All
import Wide.All
import OpenK.AllK
import Wide.FinOn
import HandS.ForMost
import HandS.ForExc
import HandS.CallSlots
import HandS.WideBits
import HandS.SortInts
import HandS.IsInst
import HandS.Style
import HandS.Flow
import HandS.Deep
import HandS.TupAny
import HandS.Gcd
import HandS.Zip
import HandS.Rev
import HandS.Defaults
import HandS.ExcInit
import HandS.ClsMeth
import HandS.TryOnly
import HandS.ExcOwn
import HandS.Head0
import HandS.Head1
import HandS.Head2
import HandS.HeadEnd
import HandS.HeadHook1
import HandS.HeadHook2
import HandS.Head3
import HandS.Head4
import HandS.HeadHook3
import HandS.HeadHook4
import HandS.ExcField
import HandS.MakeKw
import HandS.OwnEq
import HandS.Property
import PyProof.Rows.NestShow
import PyProof.P3In
import HandS.IterVal
import KE.KOwnIter
import HandS.ExcIs
import KE.KExcIs
import KE.GoesMore
import KE.KOpsOwn
import HandS.SortKw
import KE.DataMinMax
import HandS.Strs
import HandS.More
import KE.KRevSl
import HandS.SetFor
import HandS.Dict
import HandS.Star
import PyProof.StrBlock2
import HandS.Conv
import KE.GoesZip
import HandS.TupMul
import PyProof.MaxThree
import PyProof.EqKinds
import HandS.RevRange
import HandS.Replace
import PyProof.StrLawsRepr
import PySem.Challenge.RW_usualdays_k70_looks_and_spreads
set_option linter.all false
set_option Elab.async false
set_option maxRecDepth 100000
set_option maxHeartbeats 4000000
namespace Ue
open PySem L2
inductive D where
  | non | bl (b : Bool) | int (i : Int) | str (s : Str)
  | tup (xs : List D) | lst (xs : List D)
  | obj (c : Nat) (fs : List D)
  | scr (ns : List Int)
  /-- a dict that stays -/
  | dct (kvs : List (Key × V))
  /-- a tuple known as it was made (it has no dict of its own) -/
  | tpx (xs : List D)
inductive FV where
  | d (x : D) | o (xs : List D)
inductive EV where
  | v (d : D) | own (xs : List D) | new (c : Nat) (fs : List D) | ex (c : Nat) (fs : List D) | mob (c : Nat) (fs : List FV)
def EV.isOwn : EV → Bool
  | .own _ => true | .new _ _ => true | .mob _ _ => true | _ => false
abbrev Env := List (Option EV)
structure Tab where
  K : PySem.W.Frag
  clsA : Nat → Addr
  clsF : Nat → List Str
  excA : Nat → Addr
  excF : Nat → List Str
  /-- in an except suite: the caught object, its dict, its class -/
  cur : Option (Addr × Option Addr × Value) := none
section
variable (T : Tab) (P : Hp)
mutual
def Rep : D → V → Prop
  | .non, x => x = .non
  | .bl b, x => x = .bl b
  | .int i, x => x = .int i
  | .str s, x => x = .str s
  | .tup ds, x => ∃ a vs, x = .ref a ∧ SqT T.K P a vs ∧ Reps ds vs
  | .lst ds, x => ∃ a vs, x = .ref a ∧ Rd P a (.lst vs) ∧ Reps ds vs
  | .scr ns, x => ∃ a, x = .ref a ∧ SqL T.K P a (ns.map V.int)
  | .dct kvs, x => ∃ a, x = .ref a ∧ P a = some (.dK kvs)
  | .tpx ds, x => ∃ a vs o, x = .ref a ∧ P a = some (.frz o (.tup vs)) ∧ o.dict = none ∧ Reps ds vs
  | .obj c ds, x => ∃ a dx vs, x = .ref a ∧ P a = some (.ins (T.clsA c) dx ((T.clsF c).zip vs)) ∧ vs.length = (T.clsF c).length ∧ Reps ds vs
def Reps : List D → List V → Prop
  | [], vs => vs = []
  | d :: ds, vs => ∃ v r, vs = v :: r ∧ Rep d v ∧ Reps ds r
end
end
def PSub (P H : Hp) : Prop := ∀ b o, P b = some o → H b = some o
theorem PSub.refl (P : Hp) : PSub P P := fun _ _ h => h
theorem PSub.trans {P H J : Hp} (h : PSub P H) (k : PSub H J) : PSub P J := fun b o e => k b o (h b o e)
section
variable {T : Tab} {P P' H : Hp}
theorem Rd.sub {a : Addr} {u : HO} (s : PSub P P') (h : Rd P a u) : Rd P' a u := by
  rcases h with h | ⟨o, h⟩
  · exact .inl (s _ _ h)
  · exact .inr ⟨o, s _ _ h⟩
theorem sqL_sub {K : PySem.W.Frag} {a : Addr} {xs : List V} (s : PSub P P') (h : SqL K P a xs) : SqL K P' a xs := by
  rcases h with h | h
  · exact .inl (Rd.sub s h)
  · exact .inr h
theorem sqT_sub {K : PySem.W.Frag} {a : Addr} {xs : List V} (s : PSub P P') (h : SqT K P a xs) : SqT K P' a xs := by
  rcases h with h | h
  · exact .inl (Rd.sub s h)
  · exact .inr h
mutual
theorem Rep.sub (s : PSub P P') : ∀ (d : D) (v : V), Rep T P d v → Rep T P' d v
  | .non, _, h => h
  | .bl _, _, h => h
  | .int _, _, h => h
  | .str _, _, h => h
  | .tup ds, _, h => by
    rw [Rep] at h ⊢
    obtain ⟨a, vs, e, h1, h2⟩ := h
    exact ⟨a, vs, e, sqT_sub s h1, Reps.sub s ds vs h2⟩
  | .lst ds, _, h => by
    rw [Rep] at h ⊢
    obtain ⟨a, vs, e, h1, h2⟩ := h
    exact ⟨a, vs, e, Rd.sub s h1, Reps.sub s ds vs h2⟩
  | .scr ns, _, h => by
    rw [Rep] at h ⊢
    obtain ⟨a, e, h1⟩ := h
    exact ⟨a, e, sqL_sub s h1⟩
  | .tpx ds, _, h => by
    rw [Rep] at h ⊢
    obtain ⟨a, vs, o, e, h1, h3, h2⟩ := h
    exact ⟨a, vs, o, e, s _ _ h1, h3, Reps.sub s ds vs h2⟩
  | .dct kvs, _, h => by
    rw [Rep] at h ⊢
    obtain ⟨a, e, h1⟩ := h
    exact ⟨a, e, s _ _ h1⟩
  | .obj c ds, _, h => by
    rw [Rep] at h ⊢
    obtain ⟨a, dx, vs, e, h1, hl, h2⟩ := h
    exact ⟨a, dx, vs, e, s _ _ h1, hl, Reps.sub s ds vs h2⟩
theorem Reps.sub (s : PSub P P') : ∀ (ds : List D) (vs : List V), Reps T P ds vs → Reps T P' ds vs
  | [], _, h => h
  | d :: ds, _, h => by
    rw [Reps] at h ⊢
    obtain ⟨v, r, e, h1, h2⟩ := h
    exact ⟨v, r, e, Rep.sub s d v h1, Reps.sub s ds r h2⟩
end
theorem Reps.nil : Reps T P [] [] := by rw [Reps]
theorem Reps.cons {d : D} {ds : List D} {v : V} {vs : List V} (h : Rep T P d v) (k : Reps T P ds vs) : Reps T P (d :: ds) (v :: vs) := by
  rw [Reps]; exact ⟨v, vs, rfl, h, k⟩
theorem Reps.length : ∀ {ds : List D} {vs : List V}, Reps T P ds vs → vs.length = ds.length
  | [], _, h => by rw [Reps] at h; subst h; rfl
  | _ :: _, _, h => by
    rw [Reps] at h
    obtain ⟨v, r, rfl, _, h2⟩ := h
    simp [Reps.length h2]
theorem Reps.get : ∀ {ds : List D} {vs : List V} {i : Nat} {d : D}, Reps T P ds vs → ds[i]? = some d → ∃ v, vs[i]? = some v ∧ Rep T P d v
  | [], _, _, _, _, e => by simp at e
  | _ :: _, _, 0, _, h, e => by
    rw [Reps] at h
    obtain ⟨v, r, rfl, h1, _⟩ := h
    simp at e; subst e
    exact ⟨v, rfl, h1⟩
  | _ :: _, _, i + 1, _, h, e => by
    rw [Reps] at h
    obtain ⟨v, r, rfl, _, h2⟩ := h
    have e' := e
    simp only [List.getElem?_cons_succ] at e' ⊢
    exact Reps.get h2 e'
theorem Reps.set : ∀ {ds : List D} {vs : List V} {d : D} {v : V} (i : Nat), Reps T P ds vs → Rep T P d v → Reps T P (ds.set i d) (vs.set i v)
  | [], _, _, _, i, h, _ => by rw [Reps] at h; subst h; simp; exact Reps.nil
  | _ :: _, _, _, _, 0, h, k => by
    rw [Reps] at h
    obtain ⟨v, r, rfl, h1, h2⟩ := h
    exact Reps.cons k h2
  | _ :: _, _, _, _, i + 1, h, k => by
    rw [Reps] at h
    obtain ⟨v, r, rfl, h1, h2⟩ := h
    exact Reps.cons h1 (Reps.set i h2 k)
end
def ExRep (T : Tab) (P : Hp) (c : Nat) (fs : List D) (cls : Value) (dd : Option Addr) : Prop :=
  cls = .ref (T.excA c) ∧ ((fs = [] ∧ dd = none) ∨ ∃ dx xfs vs, dd = some dx ∧ P dx = some (.xd xfs) ∧ (∀ (j : Nat) (f : Str) (v : V), (T.excF c)[j]? = some f → vs[j]? = some v → xfs.lookup f = some v) ∧ Reps T P fs vs)
def subs : List FV → List V → List Addr
  | .o _ :: fs, .ref b :: vs => b :: subs fs vs
  | _ :: fs, _ :: vs => subs fs vs
  | _, _ => []
def SubOf (fs : List FV) (x : V) (H : Hp) (b : Addr) : Prop := ∃ (a C dx : Addr) (l : List (Str × V)), x = .ref a ∧ H a = some (.ins C dx l) ∧ b ∈ subs fs (l.map Prod.snd)
def Foot (e : EV) (x : V) (H : Hp) (b : Addr) : Prop := x = .ref b ∨ match e with | .mob _ fs => SubOf fs x H b | _ => False
section
variable (T : Tab) (P H : Hp)
def FReps : List FV → List V → Prop
  | [], vs => vs = []
  | .d x :: fs, vs => ∃ v r, vs = v :: r ∧ Rep T P x v ∧ FReps fs r
  | .o xs :: fs, vs => ∃ b ws r, vs = .ref b :: r ∧ H b = some (.lst ws) ∧ P b = none ∧ Reps T P xs ws ∧ FReps fs r
def EnvRep : EV → V → Prop
  | .v d, x => Rep T P d x
  | .own ds, x => ∃ a vs, x = .ref a ∧ H a = some (.lst vs) ∧ P a = none ∧ Reps T P ds vs
  | .new c fs, x => ∃ a dx vs, x = .ref a ∧ H a = some (.ins (T.clsA c) dx ((T.clsF c).zip vs)) ∧ P a = none ∧ vs.length ≤ (T.clsF c).length ∧ Reps T P fs vs
  | .ex c fs, x => ∀ a d cls, T.cur = some (a, d, cls) → x = .ref a ∧ ExRep T P c fs cls d
  | .mob c fs, x => ∃ a dx vs, x = .ref a ∧ H a = some (.ins (T.clsA c) dx ((T.clsF c).zip vs)) ∧ P a = none ∧ vs.length ≤ (T.clsF c).length ∧ FReps T P H fs vs ∧ (a :: subs fs vs).Nodup
end
def Own (env : Env) (σ : St) (H : Hp) (b : Addr) : Prop := ∃ (i : Nat) (e : EV) (x : V), env[i]? = some (some e) ∧ EV.isOwn e = true ∧ σ[i]? = some (some x) ∧ Foot e x H b
structure Rel (T : Tab) (env : Env) (σ : St) (P H : Hp) : Prop where
  sub : PSub P H
  ent : ∀ (i : Nat) (e : EV), env[i]? = some (some e) → ∃ v, σ[i]? = some (some v) ∧ EnvRep T P H e v
  dis : ∀ (i j : Nat) (e f : EV) (x y : V) (a : Addr), i ≠ j → env[i]? = some (some e) → env[j]? = some (some f) → e.isOwn = true → f.isOwn = true → σ[i]? = some (some x) → σ[j]? = some (some y) → Foot e x H a → Foot f y H a → False
  len : env.length = σ.length
structure Fr (env : Env) (σ : St) (P H : Hp) (env' : Env) (σ' : St) (P' H' : Hp) : Prop where
  keep : ∀ b o, H b = some o → ¬ Own env σ H b → H' b = some o
  own : ∀ b, H b ≠ none → ¬ Own env σ H b → ¬ Own env' σ' H' b
  mono : PSub P P'
  new : ∀ b, P' b ≠ none → P b ≠ none ∨ H b = none ∨ Own env σ H b
  there : ∀ b, H b ≠ none → H' b ≠ none
theorem Fr.refl (env : Env) (σ : St) (P H : Hp) : Fr env σ P H env σ P H :=
  ⟨fun _ _ h _ => h, fun _ _ h => h, PSub.refl _, fun _ h => .inl h, fun _ h => h⟩
theorem Fr.trans {env env' env'' : Env} {σ σ' σ'' : St} {P H P' H' P'' H'' : Hp} (f : Fr env σ P H env' σ' P' H') (g : Fr env' σ' P' H' env'' σ'' P'' H'') : Fr env σ P H env'' σ'' P'' H'' where
  keep := fun b o h n => g.keep b o (f.keep b o h n) (f.own b (by rw [h]; exact fun z => nomatch z) n)
  own := fun b h n => g.own b (f.there b h) (f.own b h n)
  mono := f.mono.trans g.mono
  new := fun b h => by
    rcases g.new b h with h1 | h1 | h1
    · exact f.new b h1
    · exact .inr (.inl (Classical.byContradiction fun z => f.there b z h1))
    · rcases Classical.em (Own env σ H b) with o | o
      · exact .inr (.inr o)
      · exact .inr (.inl (Classical.byContradiction fun z => f.own b z o h1))
  there := fun b h => g.there b (f.there b h)
inductive R (α : Type) where
  | ok (a : α) (e : Env) | exc (c : Nat) (fs : List D) (e : Env) | stk
def R.bind {α β : Type} (r : R α) (f : α → Env → R β) : R β :=
  match r with
  | .ok a e => f a e
  | .exc c fs e => .exc c fs e
  | .stk => .stk
abbrev M := Env → R D
section
variable (T : Tab) (W : WX) (σ : St)
def After {α : Type} (env : Env) (P H : Hp) (r : R α) (Q : α → Env → Hp → Hp → Prop) : Prop :=
  match r with
  | .ok a env' => ∀ P' H', Rel T env' σ P' H' → Fr env σ P H env' σ P' H' → Q a env' P' H'
  | .exc c fs env' => ∀ P' H' cls dd, Rel T env' σ P' H' → Fr env σ P H env' σ P' H' → ExRep T P' c fs cls dd → W cls dd σ H'
  | .stk => False
end
section
variable {T : Tab} {W : WX} {σ : St} {α β : Type} {env : Env} {P H : Hp}
theorem After.bind {r : R α} {f : α → Env → R β} {Q : β → Env → Hp → Hp → Prop} (h : After T W σ env P H (r.bind f) Q) :
    After T W σ env P H r (fun a env1 P1 H1 => After T W σ env1 P1 H1 (f a env1) Q) := by
  cases r with
  | ok a env1 =>
    intro P1 H1 R1 F1
    have h' : After T W σ env P H (f a env1) Q := h
    show After T W σ env1 P1 H1 (f a env1) Q
    cases e : f a env1 with
    | ok b env2 => rw [e] at h'; intro P2 H2 R2 F2; exact h' P2 H2 R2 (F1.trans F2)
    | exc c fs env2 => rw [e] at h'; intro P2 H2 cls dd R2 F2 x; exact h' P2 H2 cls dd R2 (F1.trans F2) x
    | stk => rw [e] at h'; exact h'
  | exc c fs env1 => exact h
  | stk => exact h
theorem After.mono {r : R α} {Q Q' : α → Env → Hp → Hp → Prop} (h : After T W σ env P H r Q) (k : ∀ a env' P' H', Rel T env' σ P' H' → Fr env σ P H env' σ P' H' → Q a env' P' H' → Q' a env' P' H') : After T W σ env P H r Q' := by
  cases r with
  | ok a env1 => exact fun P1 H1 R1 F1 => k _ _ _ _ R1 F1 (h P1 H1 R1 F1)
  | exc c fs env1 => exact h
  | stk => exact h
theorem After.here {a : α} {env' : Env} {Q : α → Env → Hp → Hp → Prop} (h : After T W σ env P H (.ok a env') Q) {P' H' : Hp} (R1 : Rel T env' σ P' H') (F1 : Fr env σ P H env' σ P' H') : Q a env' P' H' := h P' H' R1 F1
end
inductive Kd where
  | pure | fresh | own (i : Nat)
def NewV (k : Kd) (H : Hp) (x : V) : Prop :=
  match k with
  | .fresh => ∃ a, x = .ref a ∧ H a = none
  | _ => True
abbrev MT := Env → R Bool
end Ue
set_option linter.all false
set_option Elab.async false
set_option maxRecDepth 100000
set_option maxHeartbeats 4000000
namespace Ue
open PySem L2
section
variable {T : Tab} {W : WX} {env env' : Env} {σ : St} {P H P' H' : Hp} {p : Addr} {o : HO}
theorem zip_snd : ∀ {ns : List Str} {vs : List V}, vs.length ≤ ns.length → (ns.zip vs).map Prod.snd = vs
  | _, [], _ => by simp
  | [], _ :: _, h => by simp at h
  | _ :: ns, v :: vs, h => by
    rw [List.zip_cons_cons, List.map_cons, zip_snd (by simpa using h)]
theorem Foot.here {e : EV} {b : Addr} : Foot e (.ref b) H b := .inl rfl
theorem Foot.plain {e : EV} {x : V} {b : Addr} (h : Foot e x H b) (n : ∀ c fs, e ≠ .mob c fs) : x = .ref b := by
  rcases h with h | h
  · exact h
  · cases e with
    | mob c fs => exact (n c fs rfl).elim
    | _ => exact h.elim
theorem Foot.own {ds : List D} {x : V} {b : Addr} (h : Foot (.own ds) x H b) : x = .ref b := h.plain fun _ _ z => nomatch z
theorem Foot.new {c : Nat} {ds : List D} {x : V} {b : Addr} (h : Foot (.new c ds) x H b) : x = .ref b := h.plain fun _ _ z => nomatch z
theorem FReps.length : ∀ {fs : List FV} {vs : List V}, FReps T P H fs vs → vs.length = fs.length
  | [], _, h => by rw [FReps] at h; subst h; rfl
  | .d _ :: _, _, h => by
    rw [FReps] at h
    obtain ⟨v, r, rfl, _, h2⟩ := h
    simp [FReps.length h2]
  | .o _ :: _, _, h => by
    rw [FReps] at h
    obtain ⟨b, ws, r, rfl, _, _, _, h2⟩ := h
    simp [FReps.length h2]
theorem FReps.at_ : ∀ {fs : List FV} {vs : List V} {b : Addr}, FReps T P H fs vs → b ∈ subs fs vs → ∃ ws, H b = some (.lst ws) ∧ P b = none
  | [], vs, b, h, m => by rw [FReps] at h; subst h; simp [subs] at m
  | .d _ :: _, _, b, h, m => by
    rw [FReps] at h
    obtain ⟨v, r, rfl, _, h2⟩ := h
    rw [subs] at m
    · exact FReps.at_ h2 m
    · intro _ _ z _; cases z
  | .o _ :: _, _, b, h, m => by
    rw [FReps] at h
    obtain ⟨b', ws, r, rfl, h1, h3, _, h2⟩ := h
    rw [subs] at m
    rcases List.mem_cons.mp m with rfl | m
    · exact ⟨ws, h1, h3⟩
    · exact FReps.at_ h2 m
theorem FReps.grow (hs : PSub P P') : ∀ {fs : List FV} {vs : List V}, FReps T P H fs vs → (∀ b o, H b = some o → P b = none → b ∈ subs fs vs → H' b = some o ∧ P' b = none) → FReps T P' H' fs vs
  | [], _, h, _ => by rw [FReps] at h ⊢; exact h
  | .d _ :: _, _, h, k => by
    rw [FReps] at h ⊢
    obtain ⟨v, r, rfl, h1, h2⟩ := h
    refine ⟨v, r, rfl, Rep.sub hs _ _ h1, FReps.grow hs h2 fun b o q1 q2 q3 => k b o q1 q2 ?_⟩
    rw [subs]
    · exact q3
    · intro _ _ z _; cases z
  | .o _ :: _, _, h, k => by
    rw [FReps] at h ⊢
    obtain ⟨b', ws, r, rfl, h1, h3, h4, h2⟩ := h
    obtain ⟨k1, k2⟩ := k b' _ h1 h3 (by rw [subs]; exact List.mem_cons_self)
    exact ⟨b', ws, r, rfl, k1, k2, Reps.sub hs _ _ h4, FReps.grow hs h2 fun b o q1 q2 q3 => k b o q1 q2 (by rw [subs]; exact List.mem_cons_of_mem _ q3)⟩
theorem EnvRep.foot {e : EV} {x : V} {b : Addr} (r : EnvRep T P H e x) (o : e.isOwn = true) (h : Foot e x H b) : ∃ u, H b = some u ∧ P b = none := by
  cases e with
  | v d => cases o
  | ex c fs => cases o
  | own ds => obtain ⟨a, vs, q, q1, q2, _⟩ := r; cases q.symm.trans h.own; exact ⟨_, q1, q2⟩
  | new c fs => obtain ⟨a, dx, vs, q, q1, q2, _⟩ := r; cases q.symm.trans h.new; exact ⟨_, q1, q2⟩
  | mob c fs =>
    obtain ⟨a, dx, vs, rfl, q1, q2, q3, q4, q5⟩ := r
    rcases h with h | ⟨a', C, dx', l, ha, hl, m⟩
    · cases h; exact ⟨_, q1, q2⟩
    · cases ha
      rw [q1] at hl; cases hl
      rw [zip_snd q3] at m
      obtain ⟨ws, w1, w2⟩ := q4.at_ m
      exact ⟨_, w1, w2⟩
theorem EnvRep.footH {e : EV} {x : V} {b : Addr} (r : EnvRep T P H e x) (k : ∀ a o, x = .ref a → e.isOwn = true → H a = some o → H' a = some o) : Foot e x H' b ↔ Foot e x H b := by
  cases e with
  | mob c fs =>
    obtain ⟨a, dx, vs, rfl, q1, q2, q3, q4, q5⟩ := r
    have q1' := k a _ rfl rfl q1
    constructor
    · rintro (h | ⟨a', C, dx', l, ha, hl, m⟩)
      · exact .inl h
      · cases ha; rw [q1'] at hl; cases hl; exact .inr ⟨a, _, _, _, rfl, q1, m⟩
    · rintro (h | ⟨a', C, dx', l, ha, hl, m⟩)
      · exact .inl h
      · cases ha; rw [q1] at hl; cases hl; exact .inr ⟨a, _, _, _, rfl, q1', m⟩
  | _ => exact Iff.rfl
theorem Rel.ownAt (R : Rel T env σ P H) {b : Addr} (h : Own env σ H b) : ∃ o, H b = some o ∧ P b = none := by
  obtain ⟨i, e, x, h1, h2, h3, h4⟩ := h
  obtain ⟨v, hv, r⟩ := R.ent i e h1
  rw [h3] at hv; cases hv
  exact r.foot h2 h4
theorem Rel.notOwn (R : Rel T env σ P H) {b : Addr} (h : H b = none) : ¬ Own env σ H b := fun z => by
  obtain ⟨o, q, _⟩ := R.ownAt z
  rw [h] at q; cases q
theorem ExRep.sub {c : Nat} {fs : List D} {cls : Value} {dd : Option Addr} (hs : PSub P P') (h : ExRep T P c fs cls dd) : ExRep T P' c fs cls dd := by
  obtain ⟨q1, q2⟩ := h
  refine ⟨q1, ?_⟩
  rcases q2 with q2 | ⟨dx, xfs, vs, w1, w2, w3, w4⟩
  · exact .inl q2
  · exact .inr ⟨dx, xfs, vs, w1, hs _ _ w2, w3, Reps.sub hs _ _ w4⟩
theorem EnvRep.grow {e : EV} {x : V} (h : EnvRep T P H e x) (hs : PSub P P') (hk : ∀ b o, H b = some o → P b = none → e.isOwn = true → Foot e x H b → H' b = some o ∧ P' b = none) : EnvRep T P' H' e x := by
  cases e with
  | v d => exact Rep.sub hs d x h
  | ex c fs =>
    intro a d cls hc
    obtain ⟨q1, q2⟩ := h a d cls hc
    exact ⟨q1, q2.sub hs⟩
  | own ds =>
    obtain ⟨a, vs, rfl, q1, q2, q3⟩ := h
    obtain ⟨k1, k2⟩ := hk a _ q1 q2 rfl .here
    exact ⟨a, vs, rfl, k1, k2, Reps.sub hs _ _ q3⟩
  | new c fs =>
    obtain ⟨a, dx, vs, rfl, q1, q2, q4, q3⟩ := h
    obtain ⟨k1, k2⟩ := hk a _ q1 q2 rfl .here
    exact ⟨a, dx, vs, rfl, k1, k2, q4, Reps.sub hs _ _ q3⟩
  | mob c fs =>
    obtain ⟨a, dx, vs, rfl, q1, q2, q3, q4, q5⟩ := h
    obtain ⟨k1, k2⟩ := hk a _ q1 q2 rfl .here
    refine ⟨a, dx, vs, rfl, k1, k2, q3, q4.grow hs fun b o w1 w2 w3 => hk b o w1 w2 rfl (.inr ⟨a, _, _, _, rfl, q1, ?_⟩), q5⟩
    rw [zip_snd q3]; exact w3
theorem Rel.reH (R : Rel T env σ P H) (hs : PSub P P') (sub : PSub P' H') (hk : ∀ b u, H b = some u → Own env σ H b → H' b = some u ∧ P' b = none) : Rel T env σ P' H' ∧ ∀ b, Own env σ H' b ↔ Own env σ H b := by
  have ft : ∀ (i : Nat) (e : EV) (x : V) (b : Addr), env[i]? = some (some e) → e.isOwn = true → σ[i]? = some (some x) → (Foot e x H' b ↔ Foot e x H b) := fun i e x b h o s => by
    obtain ⟨v, hv, r⟩ := R.ent i e h
    rw [s] at hv; cases hv
    exact r.footH fun a u ha _ hu => (hk a u hu ⟨i, e, x, h, o, s, .inl ha⟩).1
  refine ⟨⟨sub, fun i e h => ?_, fun i j e f x y a n h1 h2 o1 o2 s1 s2 t1 t2 => R.dis i j e f x y a n h1 h2 o1 o2 s1 s2 ((ft i e x a h1 o1 s1).mp t1) ((ft j f y a h2 o2 s2).mp t2), R.len⟩, fun b => ⟨fun ⟨i, e, x, h1, h2, h3, h4⟩ => ⟨i, e, x, h1, h2, h3, (ft i e x b h1 h2 h3).mp h4⟩, fun ⟨i, e, x, h1, h2, h3, h4⟩ => ⟨i, e, x, h1, h2, h3, (ft i e x b h1 h2 h3).mpr h4⟩⟩⟩
  obtain ⟨v, hv, r⟩ := R.ent i e h
  exact ⟨v, hv, r.grow hs fun b u h1 h2 h3 h4 => hk b u h1 ⟨i, e, v, h, h3, hv, h4⟩⟩
def OwnX (env : Env) (σ : St) (H : Hp) (i : Nat) (b : Addr) : Prop := ∃ (j : Nat) (f : EV) (x : V), j ≠ i ∧ env[j]? = some (some f) ∧ f.isOwn = true ∧ σ[j]? = some (some x) ∧ Foot f x H b
theorem OwnX.own {i : Nat} {b : Addr} (h : OwnX env σ H i b) : Own env σ H b := let ⟨j, f, x, _, h1, h2, h3, h4⟩ := h; ⟨j, f, x, h1, h2, h3, h4⟩
theorem OwnX.ne (R : Rel T env σ P H) {i : Nat} {g : EV} {y : V} {b : Addr} (h : OwnX env σ H i b) (e : env[i]? = some (some g)) (o : g.isOwn = true) (s : σ[i]? = some (some y)) (t : Foot g y H b) : False := by
  obtain ⟨j, f, x, n, h1, h2, h3, h4⟩ := h
  exact R.dis j i f g x y b n h1 e h2 o h3 s h4 t
end
def Rdb (T : Tab) (P H : Hp) (d : D) (x : V) : Prop := Rep T P d x ∨ ∃ a vs ds, x = .ref a ∧ H a = some (.lst vs) ∧ Reps T P ds vs ∧ d = .lst ds
def Rdbs (T : Tab) (P H : Hp) : List D → List V → Prop := Paired (Rdb T P H)
section
variable {T : Tab} {W : WX} {env env' : Env} {σ : St} {P H P' H' : Hp} {x : V}
theorem Rdb.nonE (h : Rdb T P H .non x) : x = .non := by
  rcases h with h | ⟨_, _, _, _, _, _, h⟩
  · rwa [Rep] at h
  · cases h
theorem Rdb.blE {b : Bool} (h : Rdb T P H (.bl b) x) : x = .bl b := by
  rcases h with h | ⟨_, _, _, _, _, _, h⟩
  · rwa [Rep] at h
  · cases h
theorem Rdb.intE {i : Int} (h : Rdb T P H (.int i) x) : x = .int i := by
  rcases h with h | ⟨_, _, _, _, _, _, h⟩
  · rwa [Rep] at h
  · cases h
theorem Rdb.strE {s : Str} (h : Rdb T P H (.str s) x) : x = .str s := by
  rcases h with h | ⟨_, _, _, _, _, _, h⟩
  · rwa [Rep] at h
  · cases h
def Steady (k : Kd) {α : Type} (m : Env → R α) : Prop :=
  match k with
  | .own i => ∀ env d env', m env = .ok d env' → env'[i]? = env[i]?
  | _ => True
end
theorem After.at {T : Tab} {W : WX} {σ : St} {α : Type} {env : Env} {P H : Hp} {r : R α} {Q Q' : α → Env → Hp → Hp → Prop} (h : After T W σ env P H r Q)
    (k : ∀ a env' P' H', r = .ok a env' → Rel T env' σ P' H' → Fr env σ P H env' σ P' H' → Q a env' P' H' → Q' a env' P' H') : After T W σ env P H r Q' := by
  cases r with
  | ok a env1 => exact fun P1 H1 R1 F1 => k _ _ _ _ rfl R1 F1 (h P1 H1 R1 F1)
  | exc c fs env1 => exact h
  | stk => exact h
section
variable {T : Tab} {W : WX} {X : Cx} {a b : Expr} {ka kb k : Kd} {ma mb : M} {pos : Pos}
end
section
variable {T : Tab} {W : WX} {X : Cx} {pos : Pos}
end
end Ue
set_option linter.all false
set_option Elab.async false
set_option maxRecDepth 100000
set_option maxHeartbeats 4000000
namespace Ue
open PySem L2
section
variable {T : Tab} {W : WX} {X : Cx} {a b c e : Expr} {rest : List Expr} {ka kb k : Kd} {m ma mb : M} {ta tb tc : MT} {pos : Pos} {env env' : Env} {σ : St} {P H P' H' : Hp} {x : V}
theorem Rdb.bool {d : D} {c : Bool} (h : Rdb T P H d (.bl c)) : d = .bl c := by
  cases d with
  | bl b => have := h.blE; cases this; rfl
  | non => have := h.nonE; cases this
  | int i => have := h.intE; cases this
  | str i => have := h.strE; cases this
  | tup ds =>
    rcases h with h | ⟨_, _, _, h, _⟩
    · rw [Rep] at h; obtain ⟨a, vs, h, _⟩ := h; cases h
    · cases h
  | lst ds =>
    rcases h with h | ⟨_, _, _, h, _⟩
    · rw [Rep] at h; obtain ⟨a, vs, h, _⟩ := h; cases h
    · cases h
  | obj c ds =>
    rcases h with h | ⟨_, _, _, h, _⟩
    · rw [Rep] at h; obtain ⟨a, dx, vs, h, _⟩ := h; cases h
    · cases h
  | scr ns =>
    rcases h with h | ⟨_, _, _, h, _⟩
    · rw [Rep] at h; obtain ⟨a, h, _⟩ := h; cases h
    · cases h
  | dct kvs =>
    rcases h with h | ⟨_, _, _, h, _⟩
    · rw [Rep] at h; obtain ⟨a, h, _⟩ := h; cases h
    · cases h
  | tpx ds =>
    rcases h with h | ⟨_, _, _, h, _⟩
    · rw [Rep] at h; obtain ⟨a, vs, o, h, _⟩ := h; cases h
    · cases h
end
section
variable {T : Tab} {W : WX} {X : Cx} {a b c e : Expr} {es : List Expr} {k : Kd} {ks : List Kd} {m : M} {ms : List M} {pos : Pos} {env env' : Env} {σ : St} {P H P' H' : Hp} {x : V}
end
end Ue
set_option linter.all false
set_option Elab.async false
set_option maxRecDepth 100000
set_option maxHeartbeats 4000000
namespace Ue
open PySem L2
section
variable {T : Tab} {P H : Hp}
end
section
variable {T : Tab}
end
def i2 (f : Int → Int → D) (a b : D) : Option D := match a, b with | .int i, .int j => some (f i j) | _, _ => none
def c2 (f : Int → Int → Bool) (a b : D) : Option Bool := match a, b with | .int i, .int j => some (f i j) | _, _ => none
section
variable {T : Tab}
theorem Rdb.ref {P H : Hp} {d : D} {x : V} (h : Rdb T P H d x) (hd : (∃ ds, d = .tup ds) ∨ (∃ ds, d = .lst ds) ∨ (∃ ns, d = .scr ns) ∨ ∃ c ds, d = .obj c ds) : ∃ a, x = .ref a := by
  rcases h with h | ⟨a, _, _, h, _⟩
  · rcases hd with ⟨ds, rfl⟩ | ⟨ds, rfl⟩ | ⟨ns, rfl⟩ | ⟨c, ds, rfl⟩
    · rw [Rep] at h; obtain ⟨a, vs, h, _⟩ := h; exact ⟨a, h⟩
    · rw [Rep] at h; obtain ⟨a, vs, h, _⟩ := h; exact ⟨a, h⟩
    · rw [Rep] at h; obtain ⟨a, h, _⟩ := h; exact ⟨a, h⟩
    · rw [Rep] at h; obtain ⟨a, dx, vs, h, _⟩ := h; exact ⟨a, h⟩
  · exact ⟨a, h⟩
end
section
variable {X : Cx} {T : Tab}
end
end Ue
set_option linter.all false
set_option Elab.async false
set_option maxRecDepth 100000
set_option maxHeartbeats 4000000
namespace Ue
open PySem L2
section
variable {X : Cx} {T : Tab}
end
section
variable {T : Tab}
theorem Rdbs.len {P H : Hp} : ∀ {ds : List D} {xs : List V}, Rdbs T P H ds xs → xs.length = ds.length
  | _, _, .nil => rfl
  | _, _, .cons _ t => by simp [Rdbs.len t]
end
end Ue
set_option linter.all false
set_option Elab.async false
set_option maxRecDepth 100000
set_option maxHeartbeats 4000000
namespace Ue
open PySem L2
inductive SR where
  | nx (e : Env) | brk (e : Env) | cnt (e : Env) | ret (d : D) (e : Env) | exc (c : Nat) (fs : List D) (e : Env) | stk
abbrev MS := Env → SR
def NewW (k : Kd) (env : Env) (σ : L2.St) (H : Hp) (x : V) : Prop :=
  match k with
  | .fresh => ∃ a, x = .ref a ∧ (H a = none ∨ Own env σ H a)
  | _ => True
theorem NewV.w {k : Kd} {env : Env} {σ : L2.St} {H : Hp} {x : V} (h : NewV k H x) : NewW k env σ H x := by
  cases k with
  | fresh => obtain ⟨a, e, h⟩ := h; exact ⟨a, e, .inl h⟩
  | _ => trivial
def FrP (pins : List Nat) (σ σ' : L2.St) : Prop := ∀ i ∈ pins, σ'[i]? = σ[i]?
section
variable (T : Tab) (W : WX) (kr : Kd) (pins : List Nat)
end
section
variable {T : Tab} {W : WX} {kr : Kd} {pins : List Nat} {env env' : Env} {σ σ' : L2.St} {P H P' H' : Hp} {X : Cx} {pos : Pos}
theorem FrP.refl : FrP pins σ σ := fun _ _ => rfl
theorem FrP.trans {σ'' : L2.St} (h : FrP pins σ σ') (k : FrP pins σ' σ'') : FrP pins σ σ'' := fun i hi => (k i hi).trans (h i hi)
theorem FrP.set {i : Nat} {v : Option V} (hi : i ∉ pins) : FrP pins σ (σ.set i v) := fun j hj => List.getElem?_set_ne (fun z => hi (by rw [z]; exact hj))
end
end Ue
set_option linter.all false
set_option Elab.async false
set_option maxRecDepth 100000
set_option maxHeartbeats 4000000
namespace Ue
open PySem L2
abbrev MI := Env → R (List D)
section
variable {T : Tab} {W : WX} {kr : Kd} {pins : List Nat} {env env' : Env} {σ σ' : L2.St} {P H P' H' : Hp} {X : Cx} {pos : Pos} {tg e : Expr}
abbrev TGM := D → Env → Option Env
end
end Ue
set_option linter.all false
set_option Elab.async false
set_option maxRecDepth 100000
set_option maxHeartbeats 4000000
namespace Ue
open PySem L2
section
variable {T : Tab} {W : WX} {kr : Kd} {pins : List Nat} {env env' : Env} {σ σ' : L2.St} {P H P' H' : Hp} {X : Cx} {pos : Pos} {tg e a b : Expr} {k ka kb : Kd} {m ma mb : M}
theorem Steady.bind {α β : Type} {r : Env → R α} {f : α → Env → R β} (h : Steady k r) (h2 : ∀ a, Steady k (f a)) : Steady k (fun env => (r env).bind f) := by
  cases k with
  | own i =>
    intro env b env' e
    have e : (r env).bind f = .ok b env' := e
    cases q : r env with
    | ok a e1 => rw [q] at e; exact (h2 a e1 b env' e).trans (h env a e1 q)
    | exc c fs e1 => rw [q] at e; cases e
    | stk => rw [q] at e; cases e
  | _ => trivial
end
end Ue
set_option linter.all false
set_option Elab.async false
set_option maxRecDepth 100000
set_option maxHeartbeats 4000000
namespace Ue
open PySem L2
def wipeE : Env → List Nat → Env
  | env, [] => env
  | env, v :: vs => (wipeE env vs).set v none
theorem wipeE_length (env : Env) : ∀ vs, (wipeE env vs).length = env.length
  | [] => rfl
  | v :: vs => by unfold wipeE; rw [List.length_set, wipeE_length env vs]
theorem wipeE_get {env : Env} {i : Nat} {e : EV} : ∀ {vs : List Nat}, (wipeE env vs)[i]? = some (some e) → env[i]? = some (some e) ∧ i ∉ vs
  | [], h => ⟨h, by simp⟩
  | v :: vs, h => by
    unfold wipeE at h
    by_cases q : v = i
    · subst q
      by_cases hv : v < (wipeE env vs).length
      · rw [List.getElem?_set_self hv] at h; cases h
      · rw [List.getElem?_eq_none (by simpa using hv)] at h; cases h
    · rw [List.getElem?_set_ne q] at h
      obtain ⟨h1, h2⟩ := wipeE_get h
      exact ⟨h1, by simp only [List.mem_cons, not_or]; exact ⟨fun z => q z.symm, h2⟩⟩
theorem wipeE_out {env : Env} {i : Nat} : ∀ {vs : List Nat}, i ∉ vs → (wipeE env vs)[i]? = env[i]?
  | [], _ => rfl
  | v :: vs, h => by
    unfold wipeE
    simp only [List.mem_cons, not_or] at h
    rw [List.getElem?_set_ne (fun z => h.1 z.symm), wipeE_out h.2]
def restE (env env' : Env) (vs : List Nat) : Env := (List.range env.length).map fun i => if i ∈ vs then (env[i]?).getD none else (env'[i]?).getD none
def vsOk (env : Env) (vs : List Nat) : Bool := vs.all fun i => match env[i]? with | some (some e) => !e.isOwn | _ => true
section
variable {T : Tab} {W : WX} {kr : Kd} {pins : List Nat} {env env' : Env} {σ σ' : L2.St} {P H P' H' : Hp} {X : Cx} {pos : Pos} {tg e a b : Expr} {k ka kb : Kd} {m ma mb : M} {vs : List Nat}
theorem wipe_get {i : Nat} {x : V} (h : σ[i]? = some (some x)) (hi : i ∉ vs) : (wipe σ vs)[i]? = some (some x) := by rw [wipe_out hi]; exact h
theorem Rel.wiped (RR : Rel T env σ P H) (hv : vsOk env vs = true) : Rel T (wipeE env vs) (wipe σ vs) P H ∧ (∀ J b, Own (wipeE env vs) (wipe σ vs) J b ↔ Own env σ J b) := by
  have nown : ∀ i e, env[i]? = some (some e) → e.isOwn = true → i ∉ vs := fun i e h o z => by
    have := List.all_eq_true.mp hv i z
    rw [h] at this
    simp [o] at this
  have w1 : ∀ J b, Own (wipeE env vs) (wipe σ vs) J b → Own env σ J b := fun J b ⟨i, e, x, h1, h2, h3, h4⟩ => by
    obtain ⟨g1, g2⟩ := wipeE_get h1
    exact ⟨i, e, x, g1, h2, (wipe_some h3).1, h4⟩
  have w2 : ∀ J b, Own env σ J b → Own (wipeE env vs) (wipe σ vs) J b := fun J b ⟨i, e, x, h1, h2, h3, h4⟩ => by
    have ni := nown i e h1 h2
    exact ⟨i, e, x, by rw [wipeE_out ni]; exact h1, h2, wipe_get h3 ni, h4⟩
  refine ⟨⟨RR.sub, fun i e h => ?_, fun i j e f x y a n h1 h2 o1 o2 s1 s2 t1 t2 => ?_, by rw [wipeE_length, wipe_length]; exact RR.len⟩, fun J b => ⟨w1 J b, w2 J b⟩⟩
  · obtain ⟨g1, g2⟩ := wipeE_get h
    obtain ⟨v, hv, r⟩ := RR.ent i e g1
    exact ⟨v, wipe_get hv g2, r⟩
  · exact RR.dis i j e f x y a n (wipeE_get h1).1 (wipeE_get h2).1 o1 o2 (wipe_some s1).1 (wipe_some s2).1 t1 t2
theorem restE_get {env env' : Env} {i : Nat} {e : EV} (hl : env'.length = env.length) (h : (restE env env' vs)[i]? = some (some e)) : (i ∈ vs ∧ env[i]? = some (some e)) ∨ (i ∉ vs ∧ env'[i]? = some (some e)) := by
  have hi : i < env.length := by
    rcases Nat.lt_or_ge i env.length with q | q
    · exact q
    · rw [List.getElem?_eq_none (by simpa [restE] using q)] at h; cases h
  have e1 : (restE env env' vs)[i]? = some (if i ∈ vs then (env[i]?).getD none else (env'[i]?).getD none) := by simp [restE, hi]
  rw [e1] at h
  have h := Option.some.inj h
  by_cases z : i ∈ vs
  · rw [if_pos z] at h
    rw [List.getElem?_eq_getElem hi] at h ⊢
    exact .inl ⟨z, congrArg some h⟩
  · rw [if_neg z] at h
    have hi' : i < env'.length := by omega
    rw [List.getElem?_eq_getElem hi'] at h ⊢
    exact .inr ⟨z, congrArg some h⟩
theorem Rel.rest {env2 : Env} {σ2 : L2.St} {P2 H2 : Hp} (RR : Rel T env σ P H) (hv : vsOk env vs = true) (R2 : Rel T env2 σ2 P2 H2) (F2 : Fr (wipeE env vs) (wipe σ vs) P H env2 σ2 P2 H2) (hw : wipe σ2 vs = wipe σ vs) :
    Rel T (restE env env2 vs) σ P2 H2 ∧ Fr env σ P H (restE env env2 vs) σ P2 H2 := by
  obtain ⟨R1, o1⟩ := RR.wiped hv
  have hl2 : env2.length = env.length := by
    have h1 := congrArg List.length hw
    rw [wipe_length, wipe_length] at h1
    rw [R2.len, RR.len, h1]
  have hσ : ∀ i, i ∉ vs → σ2[i]? = σ[i]? := fun i hi => by
    have q : (wipe σ2 vs)[i]? = (wipe σ vs)[i]? := by rw [hw]
    rwa [wipe_out hi, wipe_out hi] at q
  have nown : ∀ i e, env[i]? = some (some e) → i ∈ vs → e.isOwn = false := fun i e h z => by
    have := List.all_eq_true.mp hv i z
    rw [h] at this
    simpa using this
  have ob : ∀ J b, Own (restE env env2 vs) σ J b → Own env2 σ2 J b := fun J b ⟨i, e, x, h1, h2, h3, h4⟩ => by
    rcases restE_get hl2 h1 with ⟨z, q⟩ | ⟨z, q⟩
    · rw [nown i e q z] at h2; cases h2
    · exact ⟨i, e, x, q, h2, by rw [hσ i z]; exact h3, h4⟩
  refine ⟨⟨R2.sub, fun i e h => ?_, fun i j e f x y a n h1 h2 o1 o2 s1 s2 t1 t2 => ?_, by simp only [restE, List.length_map, List.length_range]; exact RR.len⟩, fun b u h n => ?_, fun b h n z => ?_, F2.mono, fun b h => ?_, F2.there⟩
  · rcases restE_get hl2 h with ⟨z, q⟩ | ⟨z, q⟩
    · obtain ⟨v, hv, r⟩ := RR.ent i e q
      refine ⟨v, hv, r.grow F2.mono fun b u _ _ o _ => ?_⟩
      rw [nown i e q z] at o; cases o
    · obtain ⟨v, hv, r⟩ := R2.ent i e q
      exact ⟨v, by rw [← hσ i z]; exact hv, r⟩
  · rcases restE_get hl2 h1 with ⟨z, q⟩ | ⟨z, q⟩
    · rw [nown i e q z] at o1; cases o1
    · rcases restE_get hl2 h2 with ⟨z', q'⟩ | ⟨z', q'⟩
      · rw [nown j f q' z'] at o2; cases o2
      · exact R2.dis i j e f x y a n q q' o1 o2 (by rw [hσ i z]; exact s1) (by rw [hσ j z']; exact s2) t1 t2
  · exact F2.keep b u h fun z => n ((o1 H b).mp z)
  · exact F2.own b h (fun z => n ((o1 H b).mp z)) (ob H2 b z)
  · rcases F2.new b h with q | q | q
    · exact .inl q
    · exact .inr (.inl q)
    · exact .inr (.inr ((o1 H b).mp q))
section
variable {i : Nat} {y : Str} {py spos : Pos} {elt iter : Expr} {ifs : List Expr} {scope : Scope} {own : List (Str × Nat)} {mi : MI} {g : TGM} {tt : MT} {te : M} {sl : List Nat}
end
end
end Ue
set_option linter.all false
set_option Elab.async false
set_option maxRecDepth 100000
set_option maxHeartbeats 4000000
namespace Ue
open PySem PySem.Spec PyProof.Rows L2
inductive CRes where
  | ok (d : D) (as : List EV) | exc (c : Nat) (fs : List D) (as : List EV) | stk
abbrev FM := List EV → CRes
section
variable {T : Tab} {pins : List Nat} {env env' : Env} {σ σ' : L2.St} {P H P' H' : Hp} {as as' : List EV} {vs : List V} {N : List Str}
structure FnG (P : Program) (w : World) (K : PySem.W.Frag) (mg : Str → Option Value) (base : Heap) (Z : CXT) (k : Nat) (f : Addr) (fd : FuncData) (ps : List Str) (sp : Sp) : Prop where
  len : ∀ vs H Q E, sp vs H Q E → vs.length = ps.length
  go : ∀ (B : Around) (o : List PySem.Env) (t : Shared) (H : Hp) (ar : Args) (us : List Value) (vs : List V) (Q : VK) (E : XK), B.guards = some [] → Room k B → Env0 P w K mg base B o t H → BindsTo t fd ar (ps.zip us) → Vals vs us → sp vs H Q E →
    codeAny (model P w) B (.call (.ref f) ar) (CR Z o P w H t Q E) t
section
variable {P : Program} {w : World} {K : PySem.W.Frag} {mg : Str → Option Value} {base : Heap} {Z : CXT} {j k : Nat} {f : Addr} {fd : FuncData} {ps N : List Str} {sp : Sp}
theorem FnG.mono (F : FnG P w K mg base Z j f fd ps sp) (h : j ≤ k) : FnG P w K mg base Z k f fd ps sp := ⟨F.len, fun B o t H ar us vs Q E g r => F.go B o t H ar us vs Q E g (r.mono h)⟩
theorem FnG.of (F : FnOk P w K mg base Z k f fd ps sp) : FnG P w K mg base Z k f fd ps sp := ⟨F.len, fun B o t H ar us vs Q E _ => F.run B o t H ar us vs Q E⟩
end
section
variable {X : Cx} {Z : CXT} {k : Nat} {f : Addr} {fd : FuncData} {ps : List Str} {sp : Sp} {dvs : List V} {ds : List Value} {x : Str} {p pos : Pos} {e : Expr} {es : List Expr} {t : TA} {pins : List (Addr × Obj)} {σ : L2.St} {H : Hp} {s : Shared} {Q : VK}
end
end
end Ue
set_option linter.all false
set_option Elab.async false
set_option maxRecDepth 100000
set_option maxHeartbeats 4000000
namespace Ue
open PySem L2
inductive Ag where
  | p (m : M) | o (i : Nat)
inductive AD where
  | d (x : D) | s (i : Nat)
def resA : List AD → Env → Option (List EV)
  | [], _ => some []
  | .d x :: as, e => (resA as e).map (.v x :: ·)
  | .s i :: as, e => match e[i]? with
    | some (some (.own ds)) => (resA as e).map (.own ds :: ·)
    | some (some (.mob c fs)) => (resA as e).map (.mob c fs :: ·)
    | _ => none
def ownIx : Nat → List AD → Option (Nat × Nat)
  | _, [] => none
  | j, .d _ :: as => ownIx (j + 1) as
  | j, .s i :: _ => some (j, i)
def fewO : List AD → Bool
  | [] => true
  | .d _ :: as => fewO as
  | .s _ :: as => as.all fun a => match a with | .d _ => true | .s _ => false
def unEx : EV → Option EV
  | .ex _ _ => none
  | a => some a
def putA (ss : List AD) (as : List EV) (e : Env) : Env := match ownIx 0 ss with
  | none => e
  | some (j, i) => match as[j]? with
    | some a => e.set i (unEx a)
    | none => e
inductive SReps (T : Tab) (σ : L2.St) (P : Hp) : List AD → List V → Prop where
  | nil : SReps T σ P [] []
  | d {x : D} {v : V} {as : List AD} {vs : List V} : Rep T P x v → SReps T σ P as vs → SReps T σ P (.d x :: as) (v :: vs)
  | s {i : Nat} {v : V} {as : List AD} {vs : List V} : σ[i]? = some (some v) → SReps T σ P as vs → SReps T σ P (.s i :: as) (v :: vs)
theorem SReps.sub {T : Tab} {σ : L2.St} {P P' : Hp} (hs : PSub P P') : ∀ {as : List AD} {vs : List V}, SReps T σ P as vs → SReps T σ P' as vs
  | _, _, .nil => .nil
  | _, _, .d h t => .d (Rep.sub hs _ _ h) (t.sub hs)
  | _, _, .s h t => .s h (t.sub hs)
section
variable {T : Tab} {W : WX} {kr : Kd} {pins : List Nat} {env env' : Env} {σ σ' : L2.St} {P H P' H' : Hp} {X : Cx} {pos : Pos} {e : Expr} {es : List Expr} {m : M} {ags : List Ag}
theorem resA_own {i : Nat} {ss : List AD} {as : List EV} {env : Env} (h : resA (.s i :: ss) env = some as) : ∃ f as2, env[i]? = some (some f) ∧ f.isOwn = true ∧ resA ss env = some as2 ∧ as = f :: as2 := by
  unfold resA at h
  cases e0 : env[i]? with
  | none => rw [e0] at h; cases h
  | some o =>
    cases o with
    | none => rw [e0] at h; cases h
    | some v =>
      cases q : resA ss env with
      | none => cases v <;> rw [e0] at h <;> (try cases h) <;> (simp only [q] at h; cases h)
      | some as2 =>
        cases v with
        | own ds => rw [e0] at h; simp only [q] at h; cases h; exact ⟨_, _, rfl, rfl, rfl, rfl⟩
        | mob c fs => rw [e0] at h; simp only [q] at h; cases h; exact ⟨_, _, rfl, rfl, rfl, rfl⟩
        | _ => rw [e0] at h; cases h
theorem resA_get : ∀ {ss : List AD} {as : List EV} {xs : List V} {j : Nat} {f : EV}, resA ss env = some as → SReps T σ P ss xs → as[j]? = some f →
    (∃ d v, f = .v d ∧ xs[j]? = some v ∧ Rep T P d v) ∨ (∃ i v, f.isOwn = true ∧ ss[j]? = some (.s i) ∧ env[i]? = some (some f) ∧ xs[j]? = some v ∧ σ[i]? = some (some v))
  | [], as, _, j, f, h, _, hf => by cases h; simp at hf
  | .d x :: ss, as, _, j, f, h, .d hr hs, hf => by
    have h : (resA ss env).map (EV.v x :: ·) = some as := h
    cases q : resA ss env with
    | none => rw [q] at h; cases h
    | some as2 =>
      rw [q] at h; cases h
      cases j with
      | zero => simp at hf; subst hf; exact .inl ⟨x, _, rfl, rfl, hr⟩
      | succ j =>
        simp only [List.getElem?_cons_succ] at hf ⊢
        exact resA_get q hs hf
  | .s i :: ss, as, _, j, f, h, .s hi hs, hf => by
    obtain ⟨g, as2, e0, o, q, rfl⟩ := resA_own h
    cases j with
    | zero => simp at hf; subst hf; exact .inr ⟨i, _, o, rfl, e0, rfl, hi⟩
    | succ j =>
      simp only [List.getElem?_cons_succ] at hf ⊢
      exact resA_get q hs hf
theorem resA_len : ∀ {ss : List AD} {as : List EV}, resA ss env = some as → as.length = ss.length
  | [], as, h => by cases h; rfl
  | .d x :: ss, as, h => by
    have h : (resA ss env).map (EV.v x :: ·) = some as := h
    cases q : resA ss env with
    | none => rw [q] at h; cases h
    | some as2 => rw [q] at h; cases h; simp [resA_len q]
  | .s i :: ss, as, h => by
    obtain ⟨g, as2, e0, o, q, rfl⟩ := resA_own h
    simp [resA_len q]
theorem SReps.len : ∀ {ss : List AD} {xs : List V}, SReps T σ P ss xs → xs.length = ss.length
  | _, _, .nil => rfl
  | _, _, .d _ t => by simp [t.len]
  | _, _, .s _ t => by simp [t.len]
theorem all_d : ∀ {as : List AD} {j i : Nat}, (as.all fun a => match a with | .d _ => true | .s _ => false) = true → as[j]? = some (.s i) → False
  | [], j, i, _, h => by simp at h
  | a :: as, 0, i, h, h2 => by simp at h2; subst h2; simp at h
  | a :: as, j + 1, i, h, h2 => by
    simp only [List.getElem?_cons_succ] at h2
    rw [List.all_cons, Bool.and_eq_true] at h
    exact all_d h.2 h2
theorem few_one : ∀ {ss : List AD} {k j i : Nat}, fewO ss = true → ss[j]? = some (.s i) → ownIx k ss = some (k + j, i) ∧ ∀ j' i', ss[j']? = some (.s i') → j' = j
  | [], k, j, i, _, h => by simp at h
  | .d x :: ss, k, 0, i, _, h => by simp at h
  | .d x :: ss, k, j + 1, i, h, h2 => by
    simp only [List.getElem?_cons_succ] at h2
    obtain ⟨a, b⟩ := few_one (k := k + 1) (show fewO ss = true from h) h2
    refine ⟨by show ownIx (k + 1) ss = _; rw [a]; congr 2; omega, fun j' i' h3 => ?_⟩
    cases j' with
    | zero => simp at h3
    | succ j' => simp only [List.getElem?_cons_succ] at h3; rw [b j' i' h3]
  | .s i0 :: ss, k, 0, i, h, h2 => by
    simp at h2; subst h2
    refine ⟨rfl, fun j' i' h3 => ?_⟩
    cases j' with
    | zero => rfl
    | succ j' => simp only [List.getElem?_cons_succ] at h3; exact (all_d (show _ = true from h) h3).elim
  | .s i0 :: ss, k, j + 1, i, h, h2 => by
    simp only [List.getElem?_cons_succ] at h2
    exact (all_d (show _ = true from h) h2).elim
theorem Rel.call {ss : List AD} {as : List EV} {xs dvs : List V} {dfl : List D} (RR : Rel T env σ P H) (hr : resA ss env = some as) (hf : fewO ss = true) (hs : SReps T σ P ss xs) (hd : Reps T P dfl dvs) :
    Rel T ((as ++ dfl.map EV.v).map some) ((xs ++ dvs).map some) P H ∧ ∀ J b, Own ((as ++ dfl.map EV.v).map some) ((xs ++ dvs).map some) J b → ∃ (j i : Nat) (f : EV) (x : V), ss[j]? = some (AD.s i) ∧ as[j]? = some f ∧ f.isOwn = true ∧ env[i]? = some (some f) ∧ σ[i]? = some (some x) ∧ Foot f x J b := by
  have la := resA_len hr
  have lx := hs.len
  have get : ∀ (j : Nat) (f : EV), ((as ++ dfl.map EV.v).map some)[j]? = some (some f) → (as[j]? = some f ∧ j < as.length) ∨ (∃ d, f = .v d ∧ dfl[j - as.length]? = some d ∧ as.length ≤ j) := fun j f h => by
    rw [List.getElem?_map] at h
    cases q : (as ++ dfl.map EV.v)[j]? with
    | none => rw [q] at h; cases h
    | some g =>
      rw [q] at h; cases h
      by_cases hj : j < as.length
      · rw [List.getElem?_append_left hj] at q; exact .inl ⟨q, hj⟩
      · rw [List.getElem?_append_right (by omega), List.getElem?_map] at q
        cases q2 : dfl[j - as.length]? with
        | none => rw [q2] at q; cases q
        | some d => rw [q2] at q; cases q; exact .inr ⟨d, rfl, rfl, by omega⟩
  have getx : ∀ (j : Nat) (v : V), xs[j]? = some v → ((xs ++ dvs).map some)[j]? = some (some v) := fun j v h => by
    have hj : j < xs.length := by
      rcases Nat.lt_or_ge j xs.length with q | q
      · exact q
      · rw [List.getElem?_eq_none q] at h; cases h
    rw [List.getElem?_map, List.getElem?_append_left hj, h]; rfl
  have ow : ∀ (j : Nat) (f : EV) (x : V), ((as ++ dfl.map EV.v).map some)[j]? = some (some f) → f.isOwn = true → ((xs ++ dvs).map some)[j]? = some (some x) → ∃ (i : Nat), ss[j]? = some (.s i) ∧ as[j]? = some f ∧ env[i]? = some (some f) ∧ σ[i]? = some (some x) := fun j f x h o s => by
    rcases get j f h with ⟨q, hj⟩ | ⟨d, rfl, _⟩
    · rcases resA_get hr hs q with ⟨d, v, rfl, _⟩ | ⟨i, v, _, q1, q2, q3, q4⟩
      · cases o
      · rw [getx j v q3] at s
        cases s
        exact ⟨i, q1, q, q2, q4⟩
    · cases o
  refine ⟨⟨RR.sub, fun j f h => ?_, fun j l f g x y b n h1 h2 o1 o2 s1 s2 _ _ => ?_, ?_⟩, fun J b ⟨j, f, x, h1, h2, h3, h4⟩ => ?_⟩
  · rcases get j f h with ⟨q, hj⟩ | ⟨d, rfl, q, hj⟩
    · rcases resA_get hr hs q with ⟨d, v, rfl, q1, q2⟩ | ⟨i, v, _, q1, q2, q3, q4⟩
      · exact ⟨v, getx j v q1, q2⟩
      · obtain ⟨u, hu, r⟩ := RR.ent i _ q2
        rw [q4] at hu; cases hu
        exact ⟨v, getx j v q3, r⟩
    · obtain ⟨v, hv, r⟩ := hd.get q
      refine ⟨v, ?_, r⟩
      rw [List.getElem?_map, List.getElem?_append_right (by omega), show j - xs.length = j - as.length by omega, hv]; rfl
  · obtain ⟨i1, a1, _, _⟩ := ow j f x h1 o1 s1
    obtain ⟨i2, a2, _, _⟩ := ow l g y h2 o2 s2
    exact n ((few_one (k := 0) hf a2).2 j i1 a1)
  · simp [la, lx, hd.length]
  · obtain ⟨i, a1, a2, a3, a4⟩ := ow j f x h1 h2 h3
    exact ⟨j, i, f, x, a1, a2, h2, a3, a4, h4⟩
end
end Ue
set_option linter.all false
set_option Elab.async false
set_option maxRecDepth 100000
set_option maxHeartbeats 4000000
namespace Ue
open PySem L2
section
variable {T : Tab} {W : WX} {kr : Kd} {pins : List Nat} {env env' : Env} {σ σ' : L2.St} {P H P' H' : Hp} {X : Cx} {pos : Pos} {e : Expr} {es : List Expr} {m : M} {ags : List Ag}
end
section
variable {P : Program} {w : World} {K : PySem.W.Frag} {mg : Str → Option Value} {base : Heap} {nm qual x msg g g1 g2 : Str} {params : Arguments} {scope : Scope} {f D C : Addr} {fd : FuncData} {p1 p2 p3 p4 p5 p6 p7 p8 p9 p10 p11 p12 p13 p14 : Pos} {j : Nat}
end
end Ue
set_option linter.all false
set_option Elab.async false
set_option maxRecDepth 100000
set_option maxHeartbeats 4000000
namespace Ue
open PySem PySem.Spec L2
section
variable {X : Cx} {pins : List (Addr × Obj)} {σ : L2.St} {H1 H2 : Hp} {Q : XK}
end
section
variable {T : Tab} {W : WX} {kr : Kd} {pins : List Nat} {env env' : Env} {σ σ' : L2.St} {P H P' H' : Hp} {X : Cx} {pos : Pos} {e e1 e2 : Expr} {es : List Expr} {m m1 m2 : M}
end
end Ue
set_option linter.all false
set_option Elab.async false
set_option maxRecDepth 100000
set_option maxHeartbeats 4000000
namespace Ue
open PySem PySem.Spec L2
section
variable {T : Tab} {W : WX} {kr : Kd} {pins : List Nat} {env env' : Env} {σ σ' : L2.St} {P H P' H' : Hp} {X : Cx} {pos : Pos}
end
end Ue
set_option linter.all false
set_option Elab.async false
set_option maxRecDepth 100000
set_option maxHeartbeats 4000000
namespace Ue
open PySem PySem.Spec L2
section
variable {T : Tab} {W : WX} {kr : Kd} {pins : List Nat} {env env' : Env} {σ σ' : L2.St} {P H P' H' : Hp} {X : Cx} {pos : Pos} {e a b c : Expr} {ka kb kc : Kd} {m ma mb mc : M}
end
end Ue
namespace Ue
open PySem PySem.Spec L2
section
variable {T : Tab} {W : WX} {env env' : Env} {σ σ' : L2.St} {P H P' H' : Hp} {X : Cx} {pos : Pos} {tg e a b c : Expr} {m : M}
def asSeq (m : M) : MI := fun env => (m env).bind fun d e => match d with | .lst ds => .ok ds e | .tup ds => .ok ds e | .scr ns => .ok (ns.map D.int) e | _ => .stk
end
end Ue
set_option linter.all false
set_option Elab.async false
set_option maxRecDepth 100000
set_option maxHeartbeats 4000000
namespace Ue
open PySem PySem.Spec L2
def oexB (K : PySem.W.Frag) (C : Addr) : Bool := (match K.lookup C with
  | some ⟨.type "type", _, .cls cd, sl⟩ => (match cd.mro, sl.toList with
    | .ref C' :: bm, [_, _, _, _, some (.builtin n), _] => C' == C && n == "ValueError.__new__" && !cd.hasDel && cd.hasDict && PySem.HandSPX.refsVE bm
    | _, _ => false)
  | _ => false) && (decide (PySem.W.findIn K (.ref C) "__setattr__" = some (some (.builtin "object.__setattr__"))) && (decide (PySem.W.subIn K (.ref C) (.type "BaseException") = some true) && (decide (PySem.W.typeIn K (.ref C) = some (.type "type")) && PySem.W.keepIn K (.ref C))))
def xdB (K : PySem.W.Frag) (D : Addr) : Bool := PySem.W.readsIn K D (.type "type") && (decide (PySem.W.specialIn K (.ref D) "__getattribute__" = some (some (.builtin "type.__getattribute__"))) && (match PySem.W.findCls K (.ref D) (.type "type") "__init__" with
  | some (.val (.builtin n)) => decide (n = "ValueError.__init__")
  | _ => false))
def xcB (K : PySem.W.Frag) (C : Addr) (fs : List Str) : Bool := oexB K C && (decide (PySem.W.findIn K (.ref C) "__init__" = some (some (.ref (He.ma K C "__init__")))) && (decide (PySem.W.typeIn K (.ref (He.ma K C "__init__")) = some (.type "function")) && fs.all fun f => decide (PySem.W.findIn K (.ref C) f = some none)))
def exmB (K : PySem.W.Frag) (A : Addr) (t : List (Addr × Bool)) : Bool := t.all fun q => decide (PySem.W.exmOne K (.ref q.1) (.ref A) = some q.2)
def cBody : Stmt → List Stmt
  | .ClassDef _ _ _ b .. => b
  | _ => []
def allB (l : List Bool) : Bool := l.all id
end Ue
namespace Ue
open PySem PySem.Spec PyProof.Rows L2
end Ue
namespace Ue
open PySem PySem.Spec PyProof.Rows L2
end Ue
namespace Ue
open PySem PySem.Spec PyProof.Rows L2
end Ue
set_option linter.all false
set_option Elab.async false
set_option maxRecDepth 100000
set_option maxHeartbeats 4000000
namespace Ue
open PySem
section
variable {α β : Type} {a : α} {e env : Env} {c : Nat} {fs : List D} {d x y : D} {i j : Nat} {m ma mb mc : M} {t ta tb : MT} {b : Bool}
variable {p q : Int}
def CRes.go (r : CRes) (ss : List AD) (e : Env) : R D := match r with
  | .ok d as' => .ok d (putA ss as' e)
  | .exc c fs as' => .exc c fs (putA ss as' e)
  | .stk => .stk
end
end Ue
set_option linter.all false
set_option Elab.async false
set_option maxRecDepth 100000
set_option maxHeartbeats 4000000
namespace Ue
open PySem
section
variable {vs : List Nat} {g : TGM} {tt : MT} {te : M} {d : D} {ds : List D} {e e1 e2 e3 e' : Env} {k : Option D → Env → R (List D)}
end
end Ue
set_option linter.all false
set_option Elab.async false
set_option maxRecDepth 100000
set_option maxHeartbeats 4000000
namespace Ue
open PySem PySem.Spec L2
section
variable {X : Cx} {C : Addr} {k : Nat} {f : Addr} {fd : FuncData} {ps : List Str} {sp : Sp} {dvs : List V} {ds : List Value} {E : L2.St → XK} {x m : Str} {p pos apos : Pos} {e o : Expr} {es : List Expr} {ta : TE} {t : TA} {CX : CXT}
end
end Ue
namespace Ue
open PySem PySem.Spec L2
section
variable {T : Tab} {W : WX} {kr : Kd} {env : Env} {σ : L2.St} {P H H0 : Hp} {X : Cx} {F : FM} {n : Nat} {dfl : List D} {dvs : List V} {xs : List V} {ss : List AD} {Q : VK}
end
end Ue
namespace Ue
open PySem PySem.Spec L2
section
variable {T : Tab} {as as' : List EV} {vs : List V} {P H P' H' P2 : Hp} {x dx : Addr} {c c' : Nat} {fs : List D}
theorem Rel.made' {g : EV} (R2 : Rel T (as.map some) (vs.map some) P H) (hx : H x = none) (hd : H dx = none) (ne : dx ≠ x) (rg : ∀ J, J x = some (.ins (T.clsA c) dx []) → P x = none → EnvRep T P J g (.ref x)) (fg : ∀ J b, Foot g (.ref x) J b → b = x ∨ ∃ l, J x = some (.ins (T.clsA c) dx l) ∧ l ≠ []) :
    Rel T ((g :: as).map some) ((V.ref x :: vs).map some) P (upd (upd H dx (.own x)) x (.ins (T.clsA c) dx [])) := by
  have up : ∀ b o, H b = some o → (upd (upd H dx (.own x)) x (.ins (T.clsA c) dx [])) b = some o := fun b o h => by
    rw [upd_ne (fun z => by subst z; rw [hx] at h; cases h), upd_ne (fun z => by subst z; rw [hd] at h; cases h)]; exact h
  have px : P x = none := by
    cases q : P x with
    | none => rfl
    | some o => have := R2.sub _ _ q; rw [hx] at this; cases this
  have fx : ∀ b, Foot g (.ref x) (upd (upd H dx (.own x)) x (.ins (T.clsA c) dx [])) b → b = x := fun b t => by
    rcases fg _ b t with q | ⟨l, q, n⟩
    · exact q
    · rw [upd_same] at q; cases q; exact (n rfl).elim
  obtain ⟨R3, w⟩ := R2.reH (P' := P) (H' := upd (upd H dx (.own x)) x (.ins (T.clsA c) dx [])) (PSub.refl _) (fun b o h => up b o (R2.sub b o h)) (fun b u h1 h2 => ⟨up b u h1, (R2.ownAt h2).choose_spec.2⟩)
  refine ⟨R3.sub, fun i e h => ?_, fun i j e f y z a n h1 h2 o1 o2 s1 s2 t1 t2 => ?_, by simpa using R2.len⟩
  · cases i with
    | zero =>
      simp at h; subst h
      exact ⟨.ref x, rfl, rg _ upd_same px⟩
    | succ i =>
      obtain ⟨v, hv, r⟩ := R3.ent i e (by simpa using h)
      exact ⟨v, by simpa using hv, r⟩
  · have at_ : ∀ (i : Nat) (e : EV) (y : V), (as.map some)[i]? = some (some e) → e.isOwn = true → (vs.map some)[i]? = some (some y) → Foot e y (upd (upd H dx (.own x)) x (.ins (T.clsA c) dx [])) x → False := fun i e y h o s t => R2.notOwn hx ((w x).mp ⟨i, e, y, h, o, s, t⟩)
    cases i with
    | zero =>
      cases j with
      | zero => exact n rfl
      | succ j =>
        simp at h1; subst h1
        simp at s1; subst s1
        cases fx a t1
        exact at_ j f z (by simpa using h2) o2 (by simpa using s2) t2
    | succ i =>
      cases j with
      | zero =>
        simp at h2; subst h2
        simp at s2; subst s2
        cases fx a t2
        exact at_ i e y (by simpa using h1) o1 (by simpa using s1) t1
      | succ j => exact R3.dis i j e f y z a (fun z => n (by rw [z])) (by simpa using h1) (by simpa using h2) o1 o2 (by simpa using s1) (by simpa using s2) t1 t2
theorem Rel.made (R2 : Rel T (as.map some) (vs.map some) P H) (hx : H x = none) (hd : H dx = none) (ne : dx ≠ x) :
    Rel T ((EV.new c [] :: as).map some) ((V.ref x :: vs).map some) P (upd (upd H dx (.own x)) x (.ins (T.clsA c) dx [])) :=
  R2.made' hx hd ne (fun J hJ px => ⟨x, dx, [], rfl, by rw [List.zip_nil_right]; exact hJ, px, Nat.zero_le _, Reps.nil⟩) fun J b t => by cases t.new; exact .inl rfl
end
end Ue
namespace Ue
open PySem PySem.Spec L2
section
variable {T : Tab} {W : WX} {kr : Kd} {env : Env} {σ : L2.St} {P H H0 : Hp} {X : Cx} {F : FM} {n nf c : Nat} {dfl : List D} {dvs : List V} {xs : List V} {ss : List AD} {Q : VK}
variable {k : Nat} {f : Addr} {fd : FuncData} {ps : List Str} {ds : List Value} {x m : Str} {p pos apos : Pos} {e o : Expr} {es : List Expr} {mo : M} {ags : List Ag}
end
end Ue
set_option linter.all false
set_option Elab.async false
set_option maxRecDepth 100000
set_option maxHeartbeats 4000000
namespace Ue
open PySem PySem.Spec L2
section
variable {T : Tab} {W : WX} {kr : Kd} {pins : List Nat} {env env' : Env} {σ σ' : L2.St} {P H P' H' : Hp} {X : Cx} {pos pos' : Pos} {o e : Expr} {m : M}
end
end Ue
set_option linter.all false
set_option Elab.async false
set_option maxRecDepth 100000
set_option maxHeartbeats 4000000
namespace Ue
open PySem PySem.Spec L2
section
variable {T T' : Tab} {W : WX} {kr : Kd} {pins : List Nat} {env env' : Env} {σ σ' : L2.St} {P H P' H' : Hp} {X : Cx} {pos : Pos} {i : Nat}
end
end Ue
set_option linter.all false
set_option Elab.async false
set_option maxRecDepth 100000
set_option maxHeartbeats 4000000
namespace Ue
open PySem PySem.Spec L2
section
variable {X : Cx} {C : Addr} {k n : Nat} {f : Addr} {fd : FuncData} {ps ks : List Str} {sp : Sp} {E : L2.St → XK} {x : Str} {p pos : Pos} {e : Expr} {es : List Expr} {kws : List Keyword} {t tk : TA} {CX : CXT} {g : List Value → List Value → List Value} {gV : List V → List V → List V}
end
section
variable {T : Tab} {W : WX} {env : Env} {σ : L2.St} {P H H0 : Hp} {X : Cx} {e : Expr} {kws : List Keyword} {m : M} {ags kgs : List Ag} {nm : Option Str} {kpos : Pos}
end
section
variable {T : Tab} {W : WX} {env : Env} {σ : L2.St} {P H : Hp} {X : Cx} {F : FM} {n nf c : Nat} {dfl : List D} {dvs : List V} {Q : VK} {ags kgs : List Ag}
end
section
variable {T : Tab} {W : WX} {X : Cx} {F : FM} {k n nf c : Nat} {dfl : List D} {dvs : List V} {ags kgs : List Ag} {f : Addr} {fd : FuncData} {ps ks : List Str} {x : Str} {p pos : Pos} {e : Expr} {es : List Expr} {kws : List Keyword} {g : List Value → List Value → List Value}
end
end Ue
set_option linter.all false
set_option Elab.async false
set_option maxRecDepth 100000
set_option maxHeartbeats 4000000
namespace Ue
open PySem PySem.Spec L2
abbrev FnA : Type := He.FnW
def seenAt (K : PySem.W.Frag) (a : Addr) : FnA := (K.lookup a).bind fun o => match o.data with
  | .func z => some (z.name, z.qualname, z.params, z.body, z.scope, z.globals, z.closure, z.builtins)
  | _ => none
structure DefG where
  ad : PySem.W.Frag → Addr
  d : He.DefD
def insB (K : PySem.W.Frag) (C : Addr) : Bool := decide (PySem.W.findIn K (.ref C) "__class__" = some (some (.builtin "object.__class__"))) && (decide (PySem.W.specialIn K (.builtin "object.__class__") "__get__" = some (some (.builtin "getset_descriptor.__get__"))) &&
  (decide (PySem.W.takesIn K (.builtin "object.__class__") = some true) && decide (PySem.W.mroIn K C (.type "object") = some true)))
def isTabB (K : PySem.W.Frag) (cA : Nat → Addr) (ans : Value → Option Bool) (tys : List (String × Bool)) (cls : List (Nat × Bool)) : Bool := (tys.all fun q => decide (ans (.type q.1) = some q.2)) && (cls.all fun q => decide (ans (.ref (cA q.1)) = some q.2) && insB K (cA q.1))
structure SaysV (fa : List He.Fa) (fn : List He.DefD) (gs : List DefG) (ex : PySem.W.Frag → Bool) (K : PySem.W.Frag) : Prop where
  d : He.SaysD fa fn K
  g : gs.map (fun g => seenAt K (g.ad K)) = gs.map fun g => g.d.val
  more : ex K = true
abbrev AlV : Type := He.AlD × List FnA × Bool
def obsKV (fa : List He.Fa) (fn : List He.DefD) (gs : List DefG) (ex : PySem.W.Frag → Bool) (K : PySem.W.Frag) : AlV := (He.obsD fa fn K, gs.map (fun g => seenAt K (g.ad K)), ex K)
def valV (fn : List He.DefD) (gs : List DefG) : AlV := (He.valD fn, gs.map (fun g => g.d.val), true)
theorem saysV_of {fa : List He.Fa} {fn : List He.DefD} {gs : List DefG} {ex : PySem.W.Frag → Bool} {K : PySem.W.Frag} (e : obsKV fa fn gs ex K = valV fn gs) : SaysV fa fn gs ex K := by
  unfold obsKV valV at e
  obtain ⟨e1, e2⟩ := Prod.mk.inj e
  obtain ⟨e3, e4⟩ := Prod.mk.inj e2
  exact ⟨e1, e3, e4⟩
end Ue
set_option linter.all false
set_option Elab.async false
set_option maxRecDepth 100000
set_option maxHeartbeats 4000000
namespace Ue
open PySem PySem.Spec L2
section
variable {X : Cx} {Z : CXT} {k n : Nat} {C g f : Addr} {fd : FuncData} {ps ks : List Str} {sp : Sp} {dvs : List V} {ds : List Value} {E : L2.St → XK} {x m : Str} {xp pos apos : Pos} {e : Expr} {es : List Expr} {kws : List Keyword} {t tk : TA} {gg : List Value → List Value → List Value} {gV : List V → List V → List V}
end
end Ue
set_option linter.all false
set_option Elab.async false
set_option maxRecDepth 100000
set_option maxHeartbeats 4000000
namespace Ue
open PySem PySem.Spec PyProof.Rows L2
end Ue
namespace Ue
open PySem PySem.Spec L2
section
variable {T : Tab} {W : WX} {kr : Kd} {pins : List Nat} {env env' : Env} {σ σ' : L2.St} {P H P' H' : Hp} {X : Cx} {pos : Pos} {a b c : Expr} {ma mb mc : M} {o o1 o2 o3 : Bool} {i j l : Nat} {d : D} {x : V}
end
end Ue
set_option linter.all false
set_option Elab.async false
set_option maxRecDepth 100000
set_option maxHeartbeats 4000000
namespace Ue
open PySem PySem.Spec L2
section
variable {T : Tab} {as as' : List EV} {vs : List V} {v : V} {P H P' H' : Hp} {c c' : Nat} {fs fs' : List D}
end
section
variable {T : Tab} {W : WX} {kr : Kd} {env : Env} {σ : L2.St} {P H H0 : Hp} {X : Cx} {F : FM} {n : Nat} {dfl : List D} {dvs : List V} {xs : List V} {ss : List AD} {Q : VK} {v0 : V}
end
section
variable {T : Tab} {W : WX} {kr : Kd} {env : Env} {σ : L2.St} {P H H0 : Hp} {X : Cx} {F : FM} {k n : Nat} {dfl : List D} {dvs : List V} {ds : List Value} {xs : List V} {ss : List AD} {Q : VK} {ags kgs : List Ag} {f C : Addr} {fd : FuncData} {ps ks : List Str} {x m : Str} {p xp pos apos : Pos} {e : Expr} {es : List Expr} {kws : List Keyword} {gg : List Value → List Value → List Value}
end
section
variable {T : Tab} {W : WX} {env : Env} {σ : L2.St} {P H : Hp} {X : Cx} {F : FM} {k c : Nat} {ma mb : M} {a b : Expr} {pos : Pos} {f : Addr} {fd : FuncData} {ps : List Str} {tys : List String} {cs : List Nat}
end
end Ue
set_option linter.all false
set_option Elab.async false
set_option maxRecDepth 100000
set_option maxHeartbeats 4000000
namespace Ue
open PySem PySem.Spec L2
section
variable {T : Tab} {W : WX} {env : Env} {σ : L2.St} {P H : Hp} {X : Cx} {ma : M} {ka : Kd} {a : Expr} {tys : List (String × Bool)} {cls : List (Nat × Bool)} {ans : Value → Option Bool} {pos p p2 p3 pt : Pos}
end
section
variable {α β : Type} {e env : Env} {c c' i j l nf : Nat} {fs gs : List D} {d : D} {m ma mb mc mo : M} {F : FM} {ags kgs : List Ag} {dfl : List D} {as : List EV} {ss : List AD}
end
end Ue
set_option linter.all false
set_option Elab.async false
set_option maxRecDepth 100000
set_option maxHeartbeats 4000000
namespace Ue
open PySem PySem.Spec L2
def tys : List String := ["NoneType", "bool", "int", "str", "tuple", "list"]
def eqCB (K : PySem.W.Frag) (cA : Nat → Addr) (c : Nat) (cs : List Nat) : Bool := (tys.all fun n => PySem.W.notFirst K (cA c) (.type n)) && cs.all fun d => PySem.W.notFirst K (cA c) (.ref (cA d)) && insB K (cA d)
end Ue
set_option linter.all false
set_option Elab.async false
set_option maxRecDepth 100000
set_option maxHeartbeats 4000000
namespace Ue
open PySem PySem.Spec PyProof.Rows L2
section
variable {X : Cx} {Z : CXT} {k n : Nat} {C g f : Addr} {fd : FuncData} {ps : List Str} {sp : Sp} {dvs : List V} {ds : List Value} {E : L2.St → XK} {x m nm : Str} {xp pos apos : Pos} {a b : Expr} {ta tb : TE} {op : Operator}
end
section
variable {T : Tab} {W : WX} {env : Env} {σ : L2.St} {P H : Hp} {X : Cx} {F : FM} {k n c : Nat} {dfl : List D} {dvs : List V} {ds : List Value} {ma mb : M} {a b : Expr} {pos xp apos : Pos} {f C : Addr} {fd : FuncData} {ps : List Str} {nm x m : Str} {op : Operator}
end
section
variable {X : Cx} {T : Tab}
end
end Ue
set_option linter.all false
set_option Elab.async false
set_option maxRecDepth 100000
set_option maxHeartbeats 4000000
namespace Ue
open PySem PySem.Spec PyProof.Rows L2
section
variable {X : Cx} {T : Tab} {W : WX} {a b : Expr} {ma mb : M} {ka kb : Kd} {pos : Pos}
end
end Ue
set_option linter.all false
set_option Elab.async false
set_option maxRecDepth 100000
set_option maxHeartbeats 4000000
namespace Ue
open PySem PySem.Spec L2
section
variable {T : Tab} {W : WX} {kr : Kd} {pins : List Nat} {env env' : Env} {σ σ' : L2.St} {P H P' H' : Hp} {X : Cx} {pos : Pos} {a b c : Expr} {ma mb mc : M} {o o1 o2 o3 : Bool} {i j l : Nat} {d : D} {x : V}
end
end Ue
set_option linter.all false
set_option Elab.async false
set_option maxRecDepth 100000
set_option maxHeartbeats 4000000
namespace Ue
open PySem PySem.Spec PyProof.Rows L2
section
variable {X : Cx} {Z : CXT} {k n : Nat} {C g f : Addr} {fd : FuncData} {ps : List Str} {sp : Sp} {E : L2.St → XK} {A1 : Around} {pins : List (Addr × Obj)} {σ : L2.St} {H : Hp} {s : Shared} {Q : VK}
theorem FnG.codeA {ar : Args} {us : List Value} {vs : List V} {E : XK} (F : FnG X.prog X.w X.K X.mg X.base Z k f fd ps sp) (gd : A1.guards = some []) (hr : Room k A1) (fr : A1.frames = X.A.frames) (hx : PassesAt Z X σ E) (I : Inv X pins σ H s) (hb : BindsTo s fd ar (ps.zip us)) (r : Vals vs us) (h : sp vs H Q E) :
    codeAny (model X.prog X.w) A1 (.call (.ref f) ar) (fun r t => match r with | .ok (.ret u) => CE X.stack X.prog X.w H s Q u t | .ok _ => False | .error er => X.xe er t) s := by
  have e0 : Env0 X.prog X.w X.K X.mg X.base A1 X.stack s H := by
    have e := I.env0
    exact ⟨by rw [fr]; exact e.frames, e.mod, e.bs, e.bsz, e.funs, e.frf, e.hok, e.bare⟩
  refine codeAny_mono (F.go A1 X.stack s H ar us vs Q E gd hr e0 hb r h) fun res t hq => ?_
  match res, hq with
  | .error er, hq => exact hx pins H s er t I hq
  | .ok (.ret u), hq => exact hq
  | .ok .next, hq => exact hq
  | .ok .brk, hq => exact hq
  | .ok .cont, hq => exact hq
theorem run1 {a : Addr} (F : FnG X.prog X.w X.K X.mg X.base Z k f fd ps sp) (gd : A1.guards = some []) (hr : Room k A1) (fr : A1.frames = X.A.frames) (hb : Binds X.K fd ps []) {E : XK} (hx : PassesAt Z X σ E) (I : Inv X pins σ H s) (h : sp [.ref a] H Q E) :
    wpAny (model X.prog X.w) A1 (call (.ref f) [.ref a]) (CE X.stack X.prog X.w H s Q) X.xe s := by
  have rr : Vals [V.ref a] [Value.ref a] := .cons rfl .nil
  exact wpAny_call (F.codeA gd hr fr hx I (hb s [.ref a] I.kIn (rr.length.symm.trans (F.len _ _ _ _ h))) rr h)
structure FnS (P : Program) (w : World) (K : PySem.W.Frag) (mg : Str → Option Value) (base : Heap) (Z : CXT) (k : Nat) (f : Addr) (fd : FuncData) (ps : List Str) (sp : Nat → Sp) : Prop where
  len : ∀ n vs H Q E, sp n vs H Q E → vs.length = ps.length
  go : ∀ (B : Around) (o : List PySem.Env) (t : Shared) (H : Hp) (ar : Args) (us : List Value) (vs : List V) (Q : VK) (E : XK), B.guards = some [] → Room k B → Env0 P w K mg base B o t H → BindsTo t fd ar (ps.zip us) → Vals vs us → sp t.heap.objs.size vs H Q E →
    codeAny (model P w) B (.call (.ref f) ar) (CR Z o P w H t Q E) t
theorem FnS.run1 {spn : Nat → Sp} {a : Addr} (F : FnS X.prog X.w X.K X.mg X.base Z k f fd ps spn) (gd : A1.guards = some []) (hr : Room k A1) (fr : A1.frames = X.A.frames) (hb : Binds X.K fd ps []) {E : XK} (hx : PassesAt Z X σ E) (I : Inv X pins σ H s) (h : spn s.heap.objs.size [.ref a] H Q E) :
    wpAny (model X.prog X.w) A1 (call (.ref f) [.ref a]) (CE X.stack X.prog X.w H s Q) X.xe s := by
  have rr : Vals [V.ref a] [Value.ref a] := .cons rfl .nil
  have e0 : Env0 X.prog X.w X.K X.mg X.base A1 X.stack s H := by
    have e := I.env0
    exact ⟨by rw [fr]; exact e.frames, e.mod, e.bs, e.bsz, e.funs, e.frf, e.hok, e.bare⟩
  refine wpAny_call (codeAny_mono (F.go A1 X.stack s H ⟨[.ref a], []⟩ [.ref a] [.ref a] Q E gd hr e0 (hb s [.ref a] I.kIn (rr.length.symm.trans (F.len _ _ _ _ _ h))) rr h) fun res t hq => ?_)
  match res, hq with
  | .error er, hq => exact hx pins H s er t I hq
  | .ok (.ret u), hq => exact hq
  | .ok .next, hq => exact hq
  | .ok .brk, hq => exact hq
  | .ok .cont, hq => exact hq
end
end Ue
set_option linter.all false
set_option Elab.async false
set_option maxRecDepth 100000
set_option maxHeartbeats 4000000
namespace Ue
open PySem PySem.Spec PyProof.Rows L2
section
variable {X : Cx} {Z : CXT} {k n : Nat} {C g f fi : Addr} {fd fdi : FuncData} {ps psi : List Str} {sp : Sp} {E : L2.St → XK} {A1 : Around} {pins : List (Addr × Obj)} {σ : L2.St} {H : Hp} {s : Shared} {Q : VK}
end
end Ue
set_option linter.all false
set_option Elab.async false
set_option maxRecDepth 100000
set_option maxHeartbeats 4000000
namespace Ue
open PySem PySem.Spec PyProof.Rows L2
section
variable {T : Tab} {W : WX} {env env' : Env} {σ : L2.St} {P H H' P' : Hp} {X : Cx} {F : FM} {k n c j : Nat} {m ma mb : M} {a b e : Expr} {pos : Pos} {f fi : Addr} {fd fdi : FuncData} {ps psi : List Str} {fl : Str}
end
end Ue
set_option linter.all false
set_option Elab.async false
set_option maxRecDepth 100000
set_option maxHeartbeats 4000000
namespace Ue
open PySem PySem.Spec PyProof.Rows L2
section
variable {T : Tab} {W : WX} {X : Cx} {i : Nat} {tab : List (Nat × Bool)} {e ce : Expr} {v : V} {cv : Value} {p pos : Pos}
end
section
variable {c j : Nat} {F : FM} {m ma mb : M} {env : Env}
end
end Ue
set_option linter.all false
set_option Elab.async false
set_option maxRecDepth 100000
set_option maxHeartbeats 4000000
namespace Ue
open PySem PySem.Spec PyProof.Rows L2
section
variable {T : Tab} {P : Hp} {a : Addr} {ws : List V}
end
section
variable {T : Tab} {W : WX} {env : Env} {σ : L2.St} {P H H' P' : Hp} {X : Cx} {i : Nat} {m : M} {e : Expr} {ds : List D} {a : Addr} {vs : List V}
end
end Ue
set_option linter.all false
set_option Elab.async false
set_option maxRecDepth 100000
set_option maxHeartbeats 4000000
namespace Ue
open PySem PySem.Spec PyProof.Rows L2
theorem FnS.mono {P : Program} {w : World} {K : PySem.W.Frag} {mg : Str → Option Value} {base : Heap} {Z : CXT} {j k : Nat} {f : Addr} {fd : FuncData} {ps : List Str} {sp : Nat → Sp} (F : FnS P w K mg base Z j f fd ps sp) (h : j ≤ k) : FnS P w K mg base Z k f fd ps sp :=
  ⟨F.len, fun B o t H ar us vs Q E g r => F.go B o t H ar us vs Q E g (r.mono h)⟩
def excCB (K : PySem.W.Frag) (D : Addr) : Bool :=
  decide (PySem.W.findIn K (.ref D) "__getattribute__" = some (some (.builtin "BaseException.__getattribute__"))) && (decide (PySem.W.findIn K (.ref D) "__getattr__" = some none) && (decide (PySem.W.subIn K (.ref D) (.type "BaseException") = some true) && (PySem.W.hasDictIn K D &&
  (decide (PySem.W.findIn K (.ref D) "__class__" = some (some (.builtin "object.__class__"))) && (decide (PySem.W.specialIn K (.builtin "object.__class__") "__get__" = some (some (.builtin "getset_descriptor.__get__"))) && (decide (PySem.W.takesIn K (.builtin "object.__class__") = some true) && decide (PySem.W.mroIn K D (.type "object") = some true)))))))
def xtB (K : PySem.W.Frag) (eA : Nat → Addr) (cv : Value) (tab : List (Nat × Bool)) : Bool := tab.all fun p => excCB K (eA p.1) && decide (PySem.W.kitOne K (.ref (eA p.1)) cv = some p.2)
end Ue
set_option linter.all false
set_option Elab.async false
set_option maxRecDepth 100000
set_option maxHeartbeats 4000000
namespace PySem
section
variable {prog : Program} {w : World} {A : Around} {E : Value → Shared → Prop} {s : Shared} {l : Addr} {xs : Array (Int × Tok)}
end
end PySem
namespace L2
open PySem PySem.Spec PyProof.Rows
section
variable {X : Cx}
end
end L2
namespace Ue
open PySem L2
section
variable {T : Tab}
end
end Ue
set_option linter.all false
set_option Elab.async false
set_option maxRecDepth 100000
set_option maxHeartbeats 4000000
namespace Ue
open PySem PySem.Spec PyProof.Rows L2 RZ
section
variable {T : Tab} {W : WX} {env : Env} {σ : L2.St} {P H : Hp} {X : Cx} {ma mb : M} {a b : Expr}
end
end Ue
set_option linter.all false
set_option Elab.async false
set_option maxRecDepth 100000
set_option maxHeartbeats 4000000
namespace PySem
open Sem (wp)
section
variable {prog : Program} {w : World} {A : Around} {E : Value → Shared → Prop} {s : Shared}
end
end PySem
set_option linter.all false
set_option Elab.async false
set_option maxRecDepth 100000
set_option maxHeartbeats 4000000
namespace PySem
section
variable {prog : Program} {w : World} {A : Around} {E : Value → Shared → Prop} {s : Shared}
end
end PySem
namespace L2
open PySem PySem.Spec PyProof.Rows
end L2
namespace Ue
open PySem PySem.Spec PyProof.Rows L2
section
variable {T : Tab} {W : WX} {env : Env} {σ : L2.St} {P H : Hp} {X : Cx} {m : M} {e : Expr}
end
end Ue
set_option linter.all false
set_option Elab.async false
set_option maxRecDepth 100000
set_option maxHeartbeats 4000000
namespace PySem
section
variable {prog : Program} {w : World} {A : Around} {E : Value → Shared → Prop} {s : Shared} {l : Addr} {xs : Array (Int × Tok)}
end
end PySem
namespace L2
open PySem PySem.Spec PyProof.Rows
section
variable {X : Cx}
end
end L2
namespace Ue
open PySem L2
section
variable {T : Tab}
end
end Ue
set_option linter.all false
set_option Elab.async false
set_option maxRecDepth 100000
set_option maxHeartbeats 4000000
namespace Ue
open PySem PySem.Spec PyProof.Rows L2
section
variable {X : Cx} {k : Nat} {C p g a dx : Addr} {fs : List (Str × V)} {f : Str} {fd : FuncData} {ps : List Str} {sp : Sp} {e : Expr} {pos : Pos} {ta : TE}
end
section
variable {T : Tab} {W : WX} {X : Cx} {F : FM} {k c : Nat} {m : M} {e : Expr} {pos : Pos} {f : Str} {p g : Addr} {fd : FuncData} {ps : List Str} {env : Env}
end
end Ue
set_option linter.all false
set_option Elab.async false
set_option maxRecDepth 100000
set_option maxHeartbeats 4000000
namespace Ue
open PySem PySem.Spec PyProof.Rows L2
section
variable {X : Cx} {Z : CXT} {k n : Nat} {C g f : Addr} {fd : FuncData} {ps : List Str} {sp : Sp} {E : L2.St → XK} {nm : Str} {pos : Pos} {a b : Expr} {ta tb : TE} {op : Operator}
end
section
variable {T : Tab} {W : WX} {env : Env} {σ : L2.St} {P H : Hp} {X : Cx} {F : FM} {k c : Nat} {ma mb : M} {a b : Expr} {pos : Pos} {f : Addr} {fd : FuncData} {ps : List Str} {nm : Str} {op : Operator}
end
end Ue
set_option linter.all false
set_option Elab.async false
set_option maxRecDepth 100000
set_option maxHeartbeats 4000000
namespace Ue
open PySem PySem.Spec PyProof.Rows L2
structure Caught (X : Cx) (pins : List (Addr × Obj)) (B : Heap) (sI s : Shared) (a : Addr) (cls : Value) (d : Option Addr) (σ : L2.St) (H : Hp) : Prop where
  inv : Inv X pins σ H sI
  ground : ∀ b o, sI.heap.get? b = some o → b ∉ frs X.stack → B.get? b = some o
  up : sI.heap.UpToSlots s.heap
  fly : HandSPX.FlyingZ B (X.env :: X.outer) a (Zc cls d) s.heap
  new : H a = none
  os : s.os = sI.os
  bare : AllBare s.gens
section
variable {X : Cx} {pins : List (Addr × Obj)} {B : Heap} {sI s : Shared} {a : Addr} {cls : Value} {d : Option Addr} {σ : L2.St} {H : Hp} {D : Ends} {w : WX}
theorem Caught.safe (C : Caught X pins B sI s a cls d σ H) : Inv X pins σ H s := C.inv.landed C.ground C.fly.1 C.up C.os C.bare
theorem Caught.obj (hf : X.env.frame = some X.env.locals) (C : Caught X pins B sI s a cls d σ H) : ∃ oe vs, s.heap.get? a = some oe ∧ Zc cls d oe ∧ oe.data = .fields vs ∧ Inv (X.suite a ((a, oe) :: (X.pn ++ pins))) [] σ H s := by
  obtain ⟨oe, vs, h1, h2, h3⟩ := C.fly.there
  have off : ∀ e : PySem.Env, e ∈ X.env :: X.outer → ∀ L, e.frame = some L → a ≠ L := fun e he L hL q => by
    obtain ⟨_, o, h4, h5⟩ := C.fly.2.2.1.mem (b := a) (List.mem_filterMap.mpr ⟨e, he, by rw [q]; exact hL⟩)
    rw [h1] at h4
    cases h4
    exact h5 _ h3
  refine ⟨oe, vs, h1, h2, h3, C.safe.suite h1 h3 C.new (off _ List.mem_cons_self _ hf) fun q => ?_⟩
  obtain ⟨e, he, hL⟩ := List.mem_filterMap.mp q
  exact off e (List.mem_cons_of_mem _ he) a hL rfl
end
end Ue
set_option linter.all false
set_option Elab.async false
set_option maxRecDepth 100000
set_option maxHeartbeats 4000000
namespace Ue
open PySem PySem.Spec L2
abbrev HM := Nat → List D → MS
section
variable {T : Tab} {W : WX} {kr : Kd} {pins : List Nat} {X : Cx} {pos : Pos} {i : Nat} {D : Ends} {w : WX} {rest : HM}
end
section
variable {e : Env} {d : D} {c : Nat} {fs : List D} {h : HM}
end
end Ue
set_option linter.all false
set_option Elab.async false
set_option maxRecDepth 100000
set_option maxHeartbeats 4000000
namespace L2
open PySem PySem.Spec PyProof.Rows
section
variable {X : Cx}
end
end L2
namespace Ue
open PySem PySem.Spec PyProof.Rows L2
section
variable {T : Tab} {W : WX} {X : Cx} {k : Nat} {ke : Kd} {m : M} {e : Expr} {p pos kp q : Pos} {j : Nat}
end
end Ue
set_option linter.all false
set_option Elab.async false
set_option maxRecDepth 100000
set_option maxHeartbeats 4000000
namespace Ue
open PySem PySem.Spec PyProof.Rows L2
section
variable {prog : Program} {w : World} {A : Around} {E : Value → Shared → Prop} {s : Shared} {K : PySem.W.Frag} {a C dx f : Addr} {us : List Value} {Q : Value → Shared → Prop} {od : Option Obj}
end
section
variable {X : Cx} {Z : CXT} {k : Nat} {C f : Addr} {fd : FuncData} {ps : List Str} {ds : List Value} {dvs : List V} {sp : Sp} {E : L2.St → XK} {x : Str} {p pos : Pos} {e : Expr} {es : List Expr} {ta : TE} {t : TA}
end
section
variable {T : Tab} {W : WX} {kr : Kd} {X : Cx} {σ : L2.St} {H : Hp} {Q : VK} {c n k : Nat} {F : FM} {mo : M} {ags : List Ag} {dfl : List D} {dvs : List V} {ds : List Value} {f : Addr} {fd : FuncData} {ps : List Str} {x : Str} {p pos : Pos} {e : Expr} {es : List Expr}
end
end Ue
set_option linter.all false
set_option Elab.async false
set_option maxRecDepth 100000
set_option maxHeartbeats 4000000
namespace PySem
open Sem (wp)
end PySem
namespace Ue
open PySem PySem.Spec PyProof.Rows L2
section
variable {X : Cx} {Z : CXT} {k : Nat} {C f : Addr} {fd : FuncData} {ps : List Str} {E : L2.St → XK}
end
end Ue
set_option linter.all false
set_option Elab.async false
set_option maxRecDepth 100000
set_option maxHeartbeats 4000000
namespace Ue
open PySem PySem.Spec PyProof.Rows L2
section
variable {T : Tab} {W : WX} {X : Cx} {σ : L2.St} {H : Hp} {c j k : Nat} {m : M} {a b : MI} {e tg : Expr} {f : Addr} {fd : FuncData} {ps : List Str} {fl : Str} {p pos tpos : Pos} {elts : List Expr} {kk : Nat}
end
end Ue
set_option linter.all false
set_option Elab.async false
set_option maxRecDepth 100000
set_option maxHeartbeats 4000000
namespace Ue
open PySem PySem.Spec PyProof.Rows L2
section
variable {X : Cx}
end
section
variable {T : Tab} {W : WX} {X : Cx} {ka : Kd} {ks : List Kd} {mo m : M} {ms : List M} {o e : Expr} {os : List Expr} {apos cpos pos : Pos} {kk : Nat}
end
end Ue
set_option linter.all false
set_option Elab.async false
set_option maxRecDepth 100000
set_option maxHeartbeats 4000000
namespace Ue
open PySem PySem.Spec PyProof.Rows L2
end Ue
set_option linter.all false
set_option Elab.async false
set_option maxRecDepth 100000
set_option maxHeartbeats 4000000
namespace Ue
open PySem PySem.Spec PyProof.Rows L2
section
variable {X : Cx} {e st : Expr} {te : TE} {pos p2 : Pos}
end
section
variable {T : Tab} {W : WX} {X : Cx} {k : Kd} {m : M} {e : Expr} {pos p2 q q2 : Pos} {j : Nat}
end
end Ue
set_option linter.all false
set_option Elab.async false
set_option maxRecDepth 100000
set_option maxHeartbeats 4000000
namespace Ue
open PySem PySem.Spec PyProof.Rows L2
section
variable {T : Tab} {W : WX} {kr : Kd} {env env' : Env} {σ : L2.St} {P H P' H' : Hp} {a : Addr} {x : EV}
end
section
variable {F : FM} {m : M} {ags : List Ag} {dfl : List D} {env e : Env} {d x : D} {c : Nat} {fs : List D} {as : List EV} {ss : List AD}
end
end Ue
set_option linter.all false
set_option Elab.async false
set_option maxRecDepth 100000
set_option maxHeartbeats 4000000
namespace Ue
open PySem PySem.Spec PyProof.Rows L2
section
variable {T : Tab} {W : WX} {X : Cx} {P H : Hp} {m : M} {e tg : Expr}
end
end Ue
set_option linter.all false
set_option Elab.async false
set_option maxRecDepth 100000
set_option maxHeartbeats 4000000
namespace L2
open PySem PySem.Spec PyProof.Rows
section
variable {X : Cx}
end
end L2
namespace Ue
open PySem PySem.Spec PyProof.Rows L2
section
variable {T : Tab} {W : WX} {X : Cx} {k : Kd} {m : M} {e : Expr} {p p2 q pos : Pos}
end
end Ue
set_option linter.all false
set_option Elab.async false
set_option maxRecDepth 100000
set_option maxHeartbeats 4000000
namespace Ue
open PySem PySem.Spec PyProof.Rows L2
section
variable {T : Tab} {W : WX} {kr : Kd} {pins : List Nat} {X : Cx} {st : List Stmt} {a b : MS} {i : Nat}
end
end Ue
set_option linter.all false
set_option Elab.async false
set_option maxRecDepth 100000
set_option maxHeartbeats 4000000
namespace Ue
open PySem PySem.Spec PyProof.Rows L2
section
variable {T : Tab} {W : WX} {X : Cx} {m : M} {e : Expr} {pos q : Pos} {ps : List (Int × Int)} {keys : List (Option Expr)} {values : List Expr}
end
end Ue
set_option linter.all false
set_option Elab.async false
set_option maxRecDepth 100000
set_option maxHeartbeats 4000000
namespace Ue
open PySem PySem.Spec PyProof.Rows L2
structure FnV (P : Program) (w : World) (K : PySem.W.Frag) (mg : Str → Option Value) (base : Heap) (Z : CXT) (k : Nat) (f : Addr) (n : Nat) (sp : Sp) : Prop where
  len : ∀ vs H Q E, sp vs H Q E → vs.length = n
  go : ∀ (B : Around) (o : List PySem.Env) (t : Shared) (H : Hp) (us : List Value) (vs : List V) (Q : VK) (E : XK), B.guards = some [] → Room k B → Env0 P w K mg base B o t H → Vals vs us → sp vs H Q E →
    codeAny (model P w) B (.call (.ref f) ⟨us, []⟩) (CR Z o P w H t Q E) t
section
variable {P : Program} {w : World} {K : PySem.W.Frag} {mg : Str → Option Value} {base : Heap} {Z : CXT} {j k n : Nat} {f : Addr} {fd : FuncData} {ps N : List Str} {sp sp2 : Sp} {pv : Str}
theorem FnV.mono (F : FnV P w K mg base Z j f n sp) (h : j ≤ k) : FnV P w K mg base Z k f n sp := ⟨F.len, fun B o t H us vs Q E g r => F.go B o t H us vs Q E g (r.mono h)⟩
end
section
variable {T : Tab} {env : Ue.Env} {σ : L2.St} {P H : Hp} {d : D} {x : V}
end
section
variable {T : Tab} {N : List Str} {pins : List Nat} {prog : Program} {w : World} {K : PySem.W.Frag} {mg : Str → Option Value} {base : Heap} {f : Addr} {ps : List Str} {k n : Nat} {fr : Bool} {m : MS}
end
section
variable {X : Cx} {Z : CXT} {k n : Nat} {f : Addr} {sp : Sp} {x : Str} {p pos : Pos} {e : Expr} {es : List Expr} {t : TA} {pins : List (Addr × Obj)} {σ : L2.St} {H : Hp} {s : Shared} {Q : VK}
end
section
variable {T : Tab} {W : WX} {kr : Kd} {X : Cx} {pos : Pos} {e : Expr} {es : List Expr} {ags : List Ag}
end
end Ue
set_option linter.all false
set_option Elab.async false
set_option maxRecDepth 100000
set_option maxHeartbeats 4000000
namespace Ue
open PySem PySem.Spec PyProof.Rows L2
end Ue
set_option linter.all false
set_option Elab.async false
set_option maxRecDepth 100000
set_option maxHeartbeats 4000000
namespace L2
open PySem PySem.Spec PyProof.Rows
section
variable {X : Cx}
end
end L2
namespace Ue
open PySem PySem.Spec PyProof.Rows L2
section
variable {T : Tab}
end
end Ue
set_option linter.all false
set_option Elab.async false
set_option maxRecDepth 100000
set_option maxHeartbeats 4000000
namespace Ue
open PySem PySem.Spec PyProof.Rows L2
def obsL (L : List Addr) (fa : List He.Fa) (fn : List He.DefD) (gs : List DefG) (ex : PySem.W.Frag → Bool) (g : Addr → Option Obj) : AlV := obsKV fa fn gs ex (He.frG g (cStatics :: L))
def hookL (L : List Addr) (fa : List He.Fa) (fn : List He.DefD) (gs : List DefG) (ex : PySem.W.Frag → Bool) : PySem.W.Hook where
  α := AlV
  obs := fun s => obsL L fa fn gs ex s.heap.get?
  val := fun _ => valV fn gs
  says := fun _ hp => ∃ K : PySem.W.Frag, K.In hp ∧ SaysV fa fn gs ex K
  of := fun _ _ e => ⟨_, He.frG_in, saysV_of e⟩
  keeps := fun _ _ _ ⟨K, q1, q2⟩ k => ⟨K, PySem.W.Frag.In.keeps q1 k, q2⟩
theorem two_parts {α A B C : Type} {r : Option α} {f : α → A} {g : α → B} {o : α → C} {a : A} {b : B} {c : C} (h1 : r.map (fun x => (f x, g x)) = some (a, b)) (h2 : r.map o = some c) : r.map (fun x => (f x, g x, o x)) = some (a, b, c) := by
  cases r with
  | none => cases h1
  | some x =>
    simp only [Option.map_some, Option.some.injEq, Prod.mk.injEq] at h1 h2 ⊢
    exact ⟨h1.1, h1.2, h2⟩
end Ue
set_option linter.all false
set_option Elab.async false
set_option maxRecDepth 100000
set_option maxHeartbeats 4000000
namespace Ue
open PySem PySem.Spec PyProof.Rows L2
variable {T : Tab} {W : World} {X : Cx} {pos : Pos}
end Ue
set_option linter.all false
set_option Elab.async false
set_option maxRecDepth 100000
set_option maxHeartbeats 4000000
namespace Ue
open PySem PySem.Spec PyProof.Rows L2
section
variable {X : Cx} {o i : Expr} {pos : Pos} {ty : TE} {q : Addr} {ps : List (Int × Int)}
end
section
variable {T : Tab} {W : WX} {X : Cx} {m : M} {e : Expr} {pos pos' : Pos} {q : Addr} {ps : List (Int × Int)} {x : Str}
end
end Ue
set_option linter.all false
set_option Elab.async false
set_option maxRecDepth 100000
set_option maxHeartbeats 4000000
namespace Ue
open PySem PySem.Spec PyProof.Rows L2
section
variable {M : Model} {prog : Program} {w : World} {A : Around} {E : Value → Shared → Prop} {s : Shared} {K : PySem.W.Frag} {x C f : Addr} {ox : Obj} {od : Option Obj}
end
section
variable {X : Cx} {k : Nat} {C f : Addr} {fd : FuncData} {ps : List Str} {sp : Sp}
end
section
variable {T : Tab} {W : WX} {σ : L2.St} {H : Hp} {X : Cx} {F : FM} {k c : Nat} {ma mb : M} {a b : Expr} {pos : Pos} {f : Addr} {fd : FuncData} {ps : List Str} {tys : List String} {cs : List Nat}
end
end Ue
set_option linter.all false
set_option Elab.async false
set_option maxRecDepth 100000
set_option maxHeartbeats 4000000
namespace Ue
open PySem PySem.Spec PyProof.Rows L2
section
variable {T : Tab} {P P' H H' : Hp}
theorem FReps.dE {x : D} {fs : List FV} {vs : List V} (h : FReps T P H (.d x :: fs) vs) : ∃ v r, vs = v :: r ∧ Rep T P x v ∧ FReps T P H fs r := by rwa [FReps] at h
theorem FReps.oE {xs : List D} {fs : List FV} {vs : List V} (h : FReps T P H (.o xs :: fs) vs) : ∃ b ws r, vs = .ref b :: r ∧ H b = some (.lst ws) ∧ P b = none ∧ Reps T P xs ws ∧ FReps T P H fs r := by rwa [FReps] at h
theorem FReps.nil : FReps T P H [] [] := by rw [FReps]
theorem FReps.getD : ∀ {fs : List FV} {vs : List V} {j : Nat} {x : D}, FReps T P H fs vs → fs[j]? = some (.d x) → ∃ v, vs[j]? = some v ∧ Rep T P x v
  | [], _, _, _, _, e => by simp at e
  | .d y :: _, _, 0, x, h, e => by
    obtain ⟨v, r, rfl, h1, _⟩ := h.dE
    simp at e; subst e
    exact ⟨v, rfl, h1⟩
  | .o y :: _, _, 0, x, h, e => by simp at e
  | .d y :: _, _, j + 1, x, h, e => by
    obtain ⟨v, r, rfl, _, h2⟩ := h.dE
    obtain ⟨w, h3, h4⟩ := FReps.getD h2 (by simpa using e)
    exact ⟨w, by simpa using h3, h4⟩
  | .o y :: _, _, j + 1, x, h, e => by
    obtain ⟨b, ws, r, rfl, _, _, _, h2⟩ := h.oE
    obtain ⟨w, h3, h4⟩ := FReps.getD h2 (by simpa using e)
    exact ⟨w, by simpa using h3, h4⟩
variable {env : Env} {σ : L2.St}
end
end Ue
set_option linter.all false
set_option Elab.async false
set_option maxRecDepth 100000
set_option maxHeartbeats 4000000
namespace Ue
open PySem PySem.Spec PyProof.Rows L2
section
variable {T : Tab} {P P2 H H2 : Hp} {S : List Addr} {C : Addr} {ok : Nat → Bool}
variable {env : Env} {σ : L2.St} {i c : Nat} {fs : List FV}
variable {W : WX} {X : Cx} {m : M} {e : Expr} {fr : Bool} {n : Nat}
end
end Ue
set_option linter.all false
set_option Elab.async false
set_option maxRecDepth 100000
set_option maxHeartbeats 4000000
namespace Ue
open PySem PySem.Spec PyProof.Rows L2
section
variable {T : Tab} {W : WX} {kr : Kd} {pins : List Nat} {env env' : Env} {σ σ' : L2.St} {P H P' H' : Hp} {X : Cx} {pos pos' : Pos} {o e : Expr} {m mi : M} {c i j : Nat} {f : Str}
end
end Ue
set_option linter.all false
set_option Elab.async false
set_option maxRecDepth 100000
set_option maxHeartbeats 4000000
namespace Ue
open PySem PySem.Spec PyProof.Rows L2
section
variable {T : Tab} {W : WX} {kr : Kd} {pins : List Nat} {env env' : Env} {σ σ' : L2.St} {P H P' H' : Hp} {X : Cx} {pos pos' : Pos} {o e : Expr} {m mi : M} {c i j n : Nat} {f : Str} {ok : Nat → Bool}
end
end Ue
set_option linter.all false
set_option Elab.async false
set_option maxRecDepth 100000
set_option maxHeartbeats 4000000
namespace Ue
open PySem PySem.Spec PyProof.Rows L2
section
variable {T : Tab} {W : WX} {kr : Kd} {pins : List Nat} {env env' : Env} {σ σ' : L2.St} {P H P' H' : Hp} {X : Cx} {F : FM} {n nf c i : Nat} {dfl : List D} {dvs : List V} {Q : VK}
variable {k : Nat} {f : Addr} {fd : FuncData} {ps : List Str} {ds : List Value} {x m : Str} {p pos apos : Pos} {e o : Expr} {es : List Expr} {ags : List Ag}
end
section
variable {T : Tab} {W : WX} {kr : Kd} {pins : List Nat} {env env' : Env} {σ σ' : L2.St} {P H P' H' : Hp} {X : Cx} {F : FM} {n nf c i : Nat} {dfl : List D} {dvs : List V} {Q : VK}
variable {k : Nat} {f : Addr} {fd : FuncData} {ps : List Str} {ds : List Value} {x y m : Str} {p pos pos' cpos : Pos} {e o : Expr} {es : List Expr} {ags : List Ag}
end
def StillR {α : Type} (r : Env → R α) : Prop := ∀ env, (∀ d e, r env = .ok d e → e = env) ∧ ∀ c fs e, r env = .exc c fs e → e = env
section
variable {m ma mb : M} {t : MT} {ms : List M}
theorem StillR.bind {α β : Type} {r : Env → R α} {f : α → Env → R β} (h : StillR r) (k : ∀ a, StillR (f a)) : StillR (fun env => (r env).bind f) := fun env => by
  constructor
  · intro d e q
    have q : (r env).bind f = .ok d e := q
    cases c : r env with
    | ok a e1 => rw [c] at q; exact ((k a e1).1 d e q).trans ((h env).1 a e1 c)
    | exc _ _ _ => rw [c] at q; cases q
    | stk => rw [c] at q; cases q
  · intro d gs e q
    have q : (r env).bind f = .exc d gs e := q
    cases c : r env with
    | ok a e1 => rw [c] at q; exact ((k a e1).2 d gs e q).trans ((h env).1 a e1 c)
    | exc c' gs' e1 => rw [c] at q; cases q; exact (h env).2 _ _ _ c
    | stk => rw [c] at q; cases q
end
end Ue
set_option linter.all false
set_option Elab.async false
set_option maxRecDepth 100000
set_option maxHeartbeats 4000000
namespace Ue
open PySem PySem.Spec PyProof.Rows L2
section
variable {c : Nat} {F : FM} {mo m1 m2 m3 : M} {dfl : List D}
end
section
variable {env : Env} {c n i j nf : Nat} {m mi : M} {ok : Nat → Bool} {fr : Bool} {F : FM} {ags : List Ag} {dfl : List D} {ss : List AD} {fs : List FV} {x : FV} {ds : List D}
end
end Ue
set_option linter.all false
set_option Elab.async false
set_option maxRecDepth 100000
set_option maxHeartbeats 4000000
namespace Ue
open PySem PySem.Spec PyProof.Rows L2
section
variable {T : Tab} {W : WX} {X : Cx} {e : Expr} {m : M} {k : Kd}
end
end Ue
set_option linter.all false
set_option Elab.async false
set_option maxRecDepth 100000
set_option maxHeartbeats 4000000
namespace Ue
open PySem PySem.Spec PyProof.Rows L2
section
variable {T : Tab} {P H P' H' : Hp}
end
section
variable {P : Program} {w : World} {K : PySem.W.Frag} {mg : Str → Option Value} {base : Heap} {Z : CXT} {j k n : Nat} {f : Addr} {fd : FuncData} {ps N : List Str} {sp sp2 : Sp} {pv : Str}
end
section
variable {N : List Str} {pins : List Nat} {prog : Program} {w : World} {K : PySem.W.Frag} {mg : Str → Option Value} {base : Heap} {f : Addr} {ps : List Str} {k n : Nat} {fr : Bool} {m : MS} {T : Tab}
end
section
variable {K : PySem.W.Frag} {f : Addr} {ps : List Str} {x qual pv : Str} {params : Arguments} {body : List Stmt} {scope : Scope} {kws : List (Str × V)} {fd : FuncData}
end
end Ue
set_option linter.all false
set_option Elab.async false
set_option maxRecDepth 100000
set_option maxHeartbeats 4000000
namespace PySem
open PySem.Spec L2
section
variable {P : Program} {w : World} {A : Around} {E : Value → Shared → Prop} {s : Shared}
end
end PySem
namespace L2
open PySem PySem.Spec PyProof.Rows
end L2
namespace Ue
open PySem PySem.Spec PyProof.Rows L2
section
variable {T : Tab} {W : WX} {X : Cx} {k : Kd} {m : M} {e : Expr} {p p2 q pos : Pos}
end
end Ue
set_option linter.all false
set_option Elab.async false
set_option maxRecDepth 100000
set_option maxHeartbeats 4000000
namespace Ue
open PySem PySem.Spec PyProof.Rows L2
structure FnVK (P : Program) (w : World) (K : PySem.W.Frag) (mg : Str → Option Value) (base : Heap) (Z : CXT) (k : Nat) (f : Addr) (n : Nat) (nm : Str) (sp : Sp) : Prop where
  len : ∀ vs H Q E, sp vs H Q E → vs.length = n + 1
  go : ∀ (B : Around) (o : List PySem.Env) (t : Shared) (H : Hp) (us : List Value) (u : Value) (vs : List V) (Q : VK) (E : XK), B.guards = some [] → Room k B → Env0 P w K mg base B o t H → Vals vs (us ++ [u]) → sp vs H Q E →
    codeAny (model P w) B (.call (.ref f) ⟨us, [(nm, u)]⟩) (CR Z o P w H t Q E) t
theorem FnVK.mono {P : Program} {w : World} {K : PySem.W.Frag} {mg : Str → Option Value} {base : Heap} {Z : CXT} {j k n : Nat} {f : Addr} {nm : Str} {sp : Sp} (F : FnVK P w K mg base Z j f n nm sp) (h : j ≤ k) : FnVK P w K mg base Z k f n nm sp := ⟨F.len, fun B o t H us u vs Q E g r => F.go B o t H us u vs Q E g (r.mono h)⟩
section
variable {P : Program} {w : World} {K : PySem.W.Frag} {mg : Str → Option Value} {base : Heap} {Z : CXT} {j k n : Nat} {f : Addr} {fd : FuncData} {ps N : List Str} {sp sp2 : Sp} {pv nm : Str}
end
section
variable {N : List Str} {pins : List Nat} {prog : Program} {w : World} {K : PySem.W.Frag} {mg : Str → Option Value} {base : Heap} {f : Addr} {ps : List Str} {k n : Nat} {fr : Bool} {m : MS} {T : Tab}
end
section
variable {X : Cx} {Z : CXT} {k n : Nat} {f : Addr} {sp : Sp} {x nm : Str} {p pos : Pos} {e : Expr} {es : List Expr} {kws : List Keyword} {t tk : TA}
end
section
variable {T : Tab} {W : WX} {kr : Kd} {σ : L2.St} {H : Hp} {X : Cx} {F : FM} {n : Nat} {Q : VK} {ags kgs : List Ag}
end
end Ue
set_option linter.all false
set_option Elab.async false
set_option maxRecDepth 100000
set_option maxHeartbeats 4000000
namespace L2
open PySem PySem.Spec PyProof.Rows
end L2
namespace L2
open PySem PySem.Spec PyProof.Rows
end L2
namespace Ue
open PySem PySem.Spec PyProof.Rows L2
section
variable {T : Tab} {W : WX} {env : Env} {σ : L2.St} {P H : Hp} {X : Cx} {ma mb : M} {a b : Expr}
end
end Ue
set_option linter.all false
set_option Elab.async false
set_option maxRecDepth 100000
set_option maxHeartbeats 4000000
namespace Ue
open PySem PySem.Spec PyProof.Rows L2
section
variable {X : Cx} {k1 k2 : Nat} {C1 C2 p1 p2 g1 g2 : Addr} {f : Str} {fd1 fd2 : FuncData} {ps1 ps2 : List Str} {sp1 sp2 : Sp} {e : Expr} {pos : Pos} {ta : TE}
end
section
variable {T : Tab} {W : WX} {X : Cx} {F1 F2 : FM} {k1 k2 c1 c2 : Nat} {m : M} {e : Expr} {pos : Pos} {f : Str} {p1 p2 g1 g2 : Addr} {fd1 fd2 : FuncData} {ps1 ps2 : List Str} {env : Env}
end
end Ue
set_option linter.all false
set_option Elab.async false
set_option maxRecDepth 100000
set_option maxHeartbeats 4000000
namespace Ue
open PySem PySem.Spec PyProof.Rows L2
section
variable {T : Tab} {W : WX} {env : Env} {σ : L2.St} {P H H' P' : Hp} {X : Cx} {i j : Nat} {m : M} {e : Expr} {ds xs : List D} {a : Addr} {vs : List V}
end
end Ue
set_option linter.all false
set_option Elab.async false
set_option maxRecDepth 100000
set_option maxHeartbeats 4000000
namespace Ue
open PySem PySem.Spec PyProof.Rows L2
end Ue
set_option linter.all false
set_option Elab.async false
set_option maxRecDepth 100000
set_option maxHeartbeats 4000000
namespace L2
open PySem PySem.Spec PyProof.Rows
end L2
namespace Ue
open PySem PySem.Spec PyProof.Rows L2
section
variable {T : Tab} {W : WX} {X : Cx} {k : Kd} {m : M} {e : Expr} {p p2 q pos : Pos}
end
end Ue
set_option linter.all false
set_option Elab.async false
set_option maxRecDepth 100000
set_option maxHeartbeats 4000000
namespace Ue
open PySem PySem.Spec PyProof.Rows L2
section
variable {T : Tab} {W : WX} {kr : Kd} {X : Cx} {pos p : Pos} {e : Expr} {es : List Expr} {m mx : M} {ms : List M}
end
section
variable {X : Cx} {Z : CXT} {k n : Nat} {f : Addr} {sp : Nat → Sp} {x : Str} {p pos : Pos} {e : Expr} {es : List Expr} {t : TA} {pins : List (Addr × Obj)} {σ : L2.St} {H : Hp} {s : Shared} {Q : VK}
end
section
variable {T : Tab} {W : WX} {kr : Kd} {X : Cx} {pos : Pos} {e : Expr} {es : List Expr} {m mx : M} {ms : List M}
end
end Ue
set_option linter.all false
set_option Elab.async false
set_option maxRecDepth 100000
set_option maxHeartbeats 4000000
namespace L2
open PySem PySem.Spec PyProof.Rows
end L2
namespace Ue
open PySem PySem.Spec PyProof.Rows L2
section
variable {T : Tab} {W : WX}
variable {X : Cx} {m : M} {e : Expr} {pos q : Pos} {ks : List Int} {ms : List M} {keys : List (Option Expr)} {values : List Expr}
end
end Ue
set_option linter.all false
set_option Elab.async false
set_option maxRecDepth 100000
set_option maxHeartbeats 4000000
namespace Ue
open PySem PySem.Spec PyProof.Rows L2
end Ue
set_option linter.all false
set_option Elab.async false
set_option maxRecDepth 100000
set_option maxHeartbeats 4000000
namespace Ue
open PySem PySem.Spec PyProof.Rows L2
section
variable {T : Tab} {W : WX} {kr : Kd} {pins : List Nat} {X : Cx} {st : List Stmt} {s1 : Stmt} {a : MS} {i : Nat}
end
end Ue
set_option linter.all false
set_option Elab.async false
set_option maxRecDepth 100000
set_option maxHeartbeats 4000000
namespace L2
open PySem PySem.Spec PyProof.Rows
end L2
namespace Ue
open PySem PySem.Spec PyProof.Rows L2
variable {T : Tab}
section
variable {W : WX} {env : Env} {σ : L2.St} {P H H' P' : Hp} {X : Cx} {i j : Nat} {m : M} {e : Expr} {ds xs : List D} {a : Addr} {vs : List V}
end
section
variable {T : Tab} {W : WX} {kr : Kd} {pins : List Nat} {X : Cx} {pos : Pos} {tg : Expr}
variable {i ia ja : Nat} {y : Str} {py spos : Pos} {elt iter : Expr} {ifs : List Expr} {scope : Scope} {own : List (Str × Nat)} {mi : MI} {g : TGM} {tt : MT} {te : M} {sl : List Nat}
end
end Ue
set_option linter.all false
set_option Elab.async false
set_option maxRecDepth 100000
set_option maxHeartbeats 4000000
namespace Ue
open PySem PySem.Spec PyProof.Rows L2
end Ue
set_option linter.all false
set_option Elab.async false
set_option maxRecDepth 100000
set_option maxHeartbeats 4000000
namespace Ue
open PySem PySem.Spec PyProof.Rows L2
section
variable {T : Tab} {W : WX} {k : Kd} {X : Cx} {e : Expr} {m : M} {apos pos : Pos}
end
end Ue
set_option linter.all false
set_option Elab.async false
set_option maxRecDepth 100000
set_option maxHeartbeats 4000000
namespace Ue
open PySem PySem.Spec PyProof.Rows L2
section
variable {T : Tab} {W : WX} {X : Cx} {pos : Pos}
end
end Ue
set_option linter.all false
set_option Elab.async false
set_option maxRecDepth 100000
set_option maxHeartbeats 4000000
namespace Ue
open PySem PySem.Spec L2
section
variable {T : Tab} {W : WX} {kr : Kd} {pins : List Nat} {env env' : Env} {σ σ' : L2.St} {P H P' H' : Hp} {X : Cx} {pos : Pos} {a b c : Expr} {ma mb mc : M} {o o1 o2 o3 : Bool} {i j l : Nat} {d : D} {x : V}
end
end Ue
set_option linter.all false
set_option Elab.async false
set_option maxRecDepth 100000
set_option maxHeartbeats 4000000
namespace L2
open PySem PySem.Spec PyProof.Rows
end L2
namespace Ue
open PySem PySem.Spec PyProof.Rows L2
section
variable {T : Tab} {W : WX} {X : Cx} {k : Kd} {m : M} {e : Expr} {p p2 q pos : Pos}
end
end Ue
set_option linter.all false
set_option Elab.async false
set_option maxRecDepth 100000
set_option maxHeartbeats 4000000
namespace L2
open PySem PySem.Spec PyProof.Rows
end L2
namespace L2
open PySem PySem.Spec PyProof.Rows
end L2
namespace Ue
open PySem PySem.Spec PyProof.Rows L2
section
variable {T : Tab} {W : WX} {env : Env} {σ : L2.St} {P H : Hp} {X : Cx} {ma mb : M} {a b : Expr}
end
end Ue
set_option linter.all false
set_option Elab.async false
set_option maxRecDepth 100000
set_option maxHeartbeats 4000000
namespace PySem.SeqAt
open AutoSeq1 (wpAny_loadPart')
open MeetsSeq
section
variable {A : Around} {s : Shared}
end
end PySem.SeqAt
namespace L2
open PySem PySem.Spec PyProof.Rows
end L2
namespace Ue
open PySem PySem.Spec PyProof.Rows L2
end Ue
set_option linter.all false
set_option Elab.async false
set_option maxRecDepth 100000
set_option maxHeartbeats 4000000
namespace Ue
open PySem PySem.Spec PyProof.Rows L2
section
variable {T : Tab} {W : WX} {env : Env} {σ : L2.St} {P H H' P' : Hp} {X : Cx} {i j : Nat} {m : M} {e : Expr} {ds xs : List D} {a : Addr} {vs : List V}
end
end Ue
set_option linter.all false
set_option Elab.async false
set_option maxRecDepth 100000
set_option maxHeartbeats 4000000
namespace L2
open PySem PySem.Spec PyProof.Rows
section
variable {X : Cx}
end
end L2
namespace Ue
open PySem PySem.Spec PyProof.Rows L2
section
variable {T : Tab} {W : WX} {env : Env} {σ : L2.St} {P H P' H' : Hp} {X : Cx} {pos : Pos} {e a b : Expr} {es : List Expr} {m m1 m2 : M}
end
end Ue
set_option linter.all false
set_option Elab.async false
set_option maxRecDepth 100000
set_option maxHeartbeats 4000000
namespace Ue
open PySem PySem.Spec PyProof.Rows L2 StX
section
variable {T : Tab} {W : WX} {env : Env} {σ : L2.St} {P H P' H' : Hp} {X : Cx} {pos : Pos} {e a b : Expr} {es : List Expr} {m m1 m2 : M}
end
end Ue
set_option linter.all false
set_option Elab.async false
set_option maxRecDepth 100000
set_option maxHeartbeats 4000000
namespace Ue
open PySem PySem.Spec PyProof.Rows L2 RZ
section
variable {T : Tab} {W : WX} {env : Env} {σ : L2.St} {P H : Hp} {X : Cx} {m ma mb : M} {a b e tg : Expr}
end
end Ue
set_option linter.all false
set_option Elab.async false
set_option maxRecDepth 100000
set_option maxHeartbeats 4000000
namespace Ue
open PySem PySem.Spec PyProof.Rows L2
section
variable {T : Tab} {W : WX} {env : Env} {σ : L2.St} {P H : Hp} {X : Cx} {m mo : M} {a b e o tg : Expr} {ko : Kd}
end
end Ue
set_option linter.all false
set_option Elab.async false
set_option maxRecDepth 100000
set_option maxHeartbeats 4000000
namespace L2
open PySem PySem.Spec PyProof.Rows
end L2
namespace Ue
open PySem PySem.Spec PyProof.Rows L2
section
variable {T : Tab} {W : WX} {X : Cx} {k : Kd} {m : M} {e : Expr} {p p2 q pos : Pos}
end
end Ue
set_option linter.all false
set_option Elab.async false
set_option maxRecDepth 100000
set_option maxHeartbeats 4000000
namespace PyProof.Rows
open PySem
section
variable {prog : Program} {w : World} {A : Around} {E : Value → Shared → Prop} {s : Shared}
end
end PyProof.Rows
namespace SrtO
open PySem PyProof.Rows Srt
section
variable {prog : Program} {w : World} {A : Around} {E : Value → Shared → Prop} {s : Shared}
end
end SrtO
namespace L2
open PySem PySem.Spec PyProof.Rows
end L2
namespace Ue
open PySem PySem.Spec PyProof.Rows L2
section
variable {T : Tab}
end
end Ue
set_option linter.all false
set_option Elab.async false
set_option maxRecDepth 100000
set_option maxHeartbeats 4000000
namespace HT
open PySem PySem.Spec PyProof.Rows
section
variable {prog : Program} {w : World} {A : Around} {E : Value → Shared → Prop} {s : Shared}
end
end HT
namespace Ue
open PySem PySem.Spec PyProof.Rows L2
section
variable {T : Tab} {W : WX}
variable {X : Cx} {m : M} {e : Expr} {pos q : Pos} {ks : List Str} {ms : List M} {keys : List (Option Expr)} {values : List Expr}
end
section
variable {X : Cx} {e st : Expr} {te : TE} {pos p2 : Pos}
end
section
variable {T : Tab} {W : WX} {X : Cx} {k : Kd} {m : M} {e : Expr} {pos p2 q q2 : Pos} {j : Nat}
end
section
variable {T : Tab} {W : WX} {X : Cx} {m : M} {e : Expr} {kr : Kd} {pins : List Nat} {pos : Pos}
end
end Ue
set_option linter.all false
set_option Elab.async false
set_option maxRecDepth 100000
set_option maxHeartbeats 4000000
namespace Ue
open PySem PySem.Spec PyProof.Rows L2
section
variable {T : Tab} {W : WX} {X : Cx} {m mk : M} {o e : Expr} {pos q : Pos} {keys : List (Option Expr)} {values : List Expr}
end
end Ue
set_option linter.all false
set_option Elab.async false
set_option maxRecDepth 100000
set_option maxHeartbeats 4000000
namespace PySem
open Sem (wp)
end PySem
namespace Ue
open PySem PySem.Spec PyProof.Rows L2 RZ
section
variable {X : Cx} {Z : CXT} {k : Nat} {C f : Addr} {fd : FuncData} {ps : List Str} {E : L2.St → XK}
end
section
variable {T : Tab} {W : WX} {X : Cx} {σ : L2.St} {H : Hp} {c j k : Nat} {ma mb : M} {a b : Expr} {f : Addr} {fd : FuncData} {ps : List Str} {fl : Str} {p pos tpos : Pos} {elts : List Expr} {kk : Nat}
end
end Ue
set_option linter.all false
set_option Elab.async false
set_option maxRecDepth 100000
set_option maxHeartbeats 4000000
namespace Ue
open PySem PySem.Spec PyProof.Rows L2
section
variable {T : Tab} {W : WX} {X : Cx} {m : M} {e : Expr} {k : Kd}
end
end Ue
set_option linter.all false
set_option Elab.async false
set_option maxRecDepth 100000
set_option maxHeartbeats 4000000
namespace L2
open PySem PySem.Spec PyProof.Rows
section
variable {X : Cx}
end
end L2
namespace Ue
open PySem PySem.Spec PyProof.Rows L2
section
variable {T : Tab} {W : WX} {X : Cx} {mo m : M} {o e : Expr} {apos cpos : Pos} {P : Hp}
end
end Ue
set_option linter.all false
set_option Elab.async false
set_option maxRecDepth 100000
set_option maxHeartbeats 4000000
namespace Ue
open PySem PySem.Spec PyProof.Rows L2
section
variable {T : Tab} {W : WX} {X : Cx} {m a b : M} {e : Expr} {k : Kd}
end
end Ue
set_option linter.all false
set_option Elab.async false
set_option maxRecDepth 100000
set_option maxHeartbeats 4000000
namespace Ue
open PySem PySem.Spec PyProof.Rows L2
section
open AutoSeq1 (wpAny_loadPart')
open MeetsSeq MeetsSeq2 MeetsSeq3 SeqRoads2 PySem.SeqAt
variable {prog : Program} {w : World} {A : Around} {E : Value → Shared → Prop} {s : Shared}
end
section
variable {X : Cx} {k : Nat} {C f : Addr} {fd : FuncData} {ps : List Str} {sp : Sp}
end
section
variable {T : Tab} {P : Hp}
variable {W : WX} {σ : L2.St} {H : Hp} {X : Cx} {F : FM} {k c : Nat} {ma mb : M} {a b : Expr} {pos : Pos} {f : Addr} {fd : FuncData} {ps : List Str}
end
end Ue
set_option linter.all false
set_option Elab.async false
set_option maxRecDepth 100000
set_option maxHeartbeats 4000000
namespace Ue
open PySem L2
section
variable {T : Tab} {W : WX} {kr : Kd} {pins : List Nat} {env env' : Env} {σ σ' : L2.St} {P H P' H' : Hp} {X : Cx} {pos : Pos} {e : Expr} {es : List Expr} {m : M} {ags : List Ag}
end
end Ue
set_option linter.all false
set_option Elab.async false
set_option maxRecDepth 100000
set_option maxHeartbeats 4000000
set_option exponentiation.threshold 5000
namespace Ue
open PySem
end Ue
set_option linter.all false
set_option Elab.async false
set_option maxRecDepth 100000
set_option maxHeartbeats 4000000
noncomputable section
namespace Lw
open PySem PySem.Spec L2 Ue
def top (i : Nat) : Stmt := PySem.Challenge.pw_usualdays_k70_looks_and_spreads.main.body.getD i (.Pass ⟨0, 0, 0, 0⟩)
abbrev s_xBadMarks : Stmt := (cBody (top 3)).getD 0 (.Pass ⟨0, 0, 0, 0⟩)
abbrev s_xNoMark : Stmt := (cBody (top 4)).getD 0 (.Pass ⟨0, 0, 0, 0⟩)
abbrev s_xNoDay : Stmt := (cBody (top 5)).getD 0 (.Pass ⟨0, 0, 0, 0⟩)
abbrev s_xOtherDays : Stmt := (cBody (top 6)).getD 0 (.Pass ⟨0, 0, 0, 0⟩)
abbrev s_xBadOrder : Stmt := (cBody (top 7)).getD 0 (.Pass ⟨0, 0, 0, 0⟩)
abbrev s_is_whole : Stmt := top 9
abbrev s_name_fault : Stmt := top 15
abbrev s_Marks_init : Stmt := (cBody (top 16)).getD 0 (.Pass ⟨0, 0, 0, 0⟩)
abbrev s_Marks_eq : Stmt := (cBody (top 16)).getD 1 (.Pass ⟨0, 0, 0, 0⟩)
abbrev s_Marks_place : Stmt := (cBody (top 16)).getD 2 (.Pass ⟨0, 0, 0, 0⟩)
abbrev s_check_names : Stmt := top 18
abbrev s_seen_days : Stmt := top 19
abbrev s_look_day : Stmt := top 20
abbrev s_look_of : Stmt := top 21
abbrev s_spread_over : Stmt := top 22
abbrev s_widened_days : Stmt := top 23
abbrev s_checked_layers : Stmt := top 29
abbrev s_Order_init : Stmt := (cBody (top 33)).getD 0 (.Pass ⟨0, 0, 0, 0⟩)
abbrev s_Order_getitem : Stmt := (cBody (top 33)).getD 1 (.Pass ⟨0, 0, 0, 0⟩)
abbrev s_Order_iter : Stmt := (cBody (top 33)).getD 2 (.Pass ⟨0, 0, 0, 0⟩)
abbrev s_Order_len : Stmt := (cBody (top 33)).getD 3 (.Pass ⟨0, 0, 0, 0⟩)
abbrev s_Order_eq : Stmt := (cBody (top 33)).getD 4 (.Pass ⟨0, 0, 0, 0⟩)
abbrev s_law_bag : Stmt := top 35
abbrev s_law_take : Stmt := top 36
abbrev s_law_of : Stmt := top 37
abbrev s_law_name : Stmt := top 38
abbrev s_law_mixed : Stmt := top 39
abbrev s_law_seen : Stmt := top 41
abbrev s_law_look : Stmt := top 42
abbrev s_law_wide : Stmt := top 43
abbrev s_law_numbers : Stmt := top 45
abbrev s_law_told : Stmt := top 46
abbrev s_law_right : Stmt := top 47
abbrev s_law_strange : Stmt := top 48
abbrev s_law_wrong : Stmt := top 49
abbrev s_law_sets : Stmt := top 50
abbrev s_law : Stmt := top 51
def FL_Marks : List Str := ["names", "count", "days", "all_days"]
def FL_Order : List Str := ["layers"]
def cns : List Nat := List.range 2
def ty_int : List (String × Bool) := [("NoneType", false), ("bool", true), ("int", true), ("str", false), ("tuple", false), ("list", false), ("dict", false)]
def cn_int : List (Nat × Bool) := [(0, false), (1, false)]
def ty_bool : List (String × Bool) := [("NoneType", false), ("bool", true), ("int", false), ("str", false), ("tuple", false), ("list", false), ("dict", false)]
def cn_bool : List (Nat × Bool) := [(0, false), (1, false)]
def ty_str : List (String × Bool) := [("NoneType", false), ("bool", false), ("int", false), ("str", true), ("tuple", false), ("list", false), ("dict", false)]
def cn_str : List (Nat × Bool) := [(0, false), (1, false)]
def ty_list_tuple : List (String × Bool) := [("NoneType", false), ("bool", false), ("int", false), ("str", false), ("tuple", true), ("list", true), ("dict", false)]
def cn_list_tuple : List (Nat × Bool) := [(0, false), (1, false)]
def ty_Marks : List (String × Bool) := [("NoneType", false), ("bool", false), ("int", false), ("str", false), ("tuple", false), ("list", false), ("dict", false)]
def cn_Marks : List (Nat × Bool) := [(0, true), (1, false)]
def ty_Order : List (String × Bool) := [("NoneType", false), ("bool", false), ("int", false), ("str", false), ("tuple", false), ("list", false), ("dict", false)]
def cn_Order : List (Nat × Bool) := [(0, false), (1, true)]
def ty_tuple : List (String × Bool) := [("NoneType", false), ("bool", false), ("int", false), ("str", false), ("tuple", true), ("list", false), ("dict", false)]
def cn_tuple : List (Nat × Bool) := [(0, false), (1, false)]
def xt_DaysError : List (Nat × Bool) := [(0, true), (1, true), (2, true), (3, true), (4, true), (5, true)]
def dx_BadMarks : He.DefD := ⟨("BadMarks", some "__init__"), "__init__", "BadMarks.__init__", defArgs s_xBadMarks, defBody s_xBadMarks, defScope s_xBadMarks, [], []⟩
def dx_NoMark : He.DefD := ⟨("NoMark", some "__init__"), "__init__", "NoMark.__init__", defArgs s_xNoMark, defBody s_xNoMark, defScope s_xNoMark, [], []⟩
def dx_NoDay : He.DefD := ⟨("NoDay", some "__init__"), "__init__", "NoDay.__init__", defArgs s_xNoDay, defBody s_xNoDay, defScope s_xNoDay, [], []⟩
def dx_OtherDays : He.DefD := ⟨("OtherDays", some "__init__"), "__init__", "OtherDays.__init__", defArgs s_xOtherDays, defBody s_xOtherDays, defScope s_xOtherDays, [], []⟩
def dx_BadOrder : He.DefD := ⟨("BadOrder", some "__init__"), "__init__", "BadOrder.__init__", defArgs s_xBadOrder, defBody s_xBadOrder, defScope s_xBadOrder, [], []⟩
def d_is_whole : He.DefD := ⟨("is_whole", none), "is_whole", "is_whole", defArgs s_is_whole, defBody s_is_whole, defScope s_is_whole, [], []⟩
def d_name_fault : He.DefD := ⟨("name_fault", none), "name_fault", "name_fault", defArgs s_name_fault, defBody s_name_fault, defScope s_name_fault, [], []⟩
def d_Marks_init : He.DefD := ⟨("Marks", some "__init__"), "__init__", "Marks.__init__", defArgs s_Marks_init, defBody s_Marks_init, defScope s_Marks_init, [], []⟩
def d_Marks_eq : He.DefD := ⟨("Marks", some "__eq__"), "__eq__", "Marks.__eq__", defArgs s_Marks_eq, defBody s_Marks_eq, defScope s_Marks_eq, [], []⟩
def d_Marks_place : He.DefD := ⟨("Marks", some "place"), "place", "Marks.place", defArgs s_Marks_place, defBody s_Marks_place, defScope s_Marks_place, [], []⟩
def d_check_names : He.DefD := ⟨("check_names", none), "check_names", "check_names", defArgs s_check_names, defBody s_check_names, defScope s_check_names, [], []⟩
def d_seen_days : He.DefD := ⟨("seen_days", none), "seen_days", "seen_days", defArgs s_seen_days, defBody s_seen_days, defScope s_seen_days, [], []⟩
def d_look_day : He.DefD := ⟨("look_day", none), "look_day", "look_day", defArgs s_look_day, defBody s_look_day, defScope s_look_day, [], []⟩
def d_look_of : He.DefD := ⟨("look_of", none), "look_of", "look_of", defArgs s_look_of, defBody s_look_of, defScope s_look_of, [], []⟩
def d_spread_over : He.DefD := ⟨("spread_over", none), "spread_over", "spread_over", defArgs s_spread_over, defBody s_spread_over, defScope s_spread_over, [], []⟩
def d_widened_days : He.DefD := ⟨("widened_days", none), "widened_days", "widened_days", defArgs s_widened_days, defBody s_widened_days, defScope s_widened_days, [], []⟩
def d_checked_layers : He.DefD := ⟨("checked_layers", none), "checked_layers", "checked_layers", defArgs s_checked_layers, defBody s_checked_layers, defScope s_checked_layers, [], []⟩
def d_Order_init : He.DefD := ⟨("Order", some "__init__"), "__init__", "Order.__init__", defArgs s_Order_init, defBody s_Order_init, defScope s_Order_init, [], []⟩
def d_Order_getitem : He.DefD := ⟨("Order", some "__getitem__"), "__getitem__", "Order.__getitem__", defArgs s_Order_getitem, defBody s_Order_getitem, defScope s_Order_getitem, [], []⟩
def d_Order_iter : He.DefD := ⟨("Order", some "__iter__"), "__iter__", "Order.__iter__", defArgs s_Order_iter, defBody s_Order_iter, defScope s_Order_iter, [], []⟩
def d_Order_len : He.DefD := ⟨("Order", some "__len__"), "__len__", "Order.__len__", defArgs s_Order_len, defBody s_Order_len, defScope s_Order_len, [], []⟩
def d_Order_eq : He.DefD := ⟨("Order", some "__eq__"), "__eq__", "Order.__eq__", defArgs s_Order_eq, defBody s_Order_eq, defScope s_Order_eq, [], []⟩
def d_law_bag : He.DefD := ⟨("_law_bag", none), "_law_bag", "_law_bag", defArgs s_law_bag, defBody s_law_bag, defScope s_law_bag, [], []⟩
def d_law_take : He.DefD := ⟨("_law_take", none), "_law_take", "_law_take", defArgs s_law_take, defBody s_law_take, defScope s_law_take, [], []⟩
def d_law_of : He.DefD := ⟨("_law_of", none), "_law_of", "_law_of", defArgs s_law_of, defBody s_law_of, defScope s_law_of, [], []⟩
def d_law_name : He.DefD := ⟨("_law_name", none), "_law_name", "_law_name", defArgs s_law_name, defBody s_law_name, defScope s_law_name, [], []⟩
def d_law_mixed : He.DefD := ⟨("_law_mixed", none), "_law_mixed", "_law_mixed", defArgs s_law_mixed, defBody s_law_mixed, defScope s_law_mixed, [], []⟩
def d_law_seen : He.DefD := ⟨("_law_seen", none), "_law_seen", "_law_seen", defArgs s_law_seen, defBody s_law_seen, defScope s_law_seen, [], []⟩
def d_law_look : He.DefD := ⟨("_law_look", none), "_law_look", "_law_look", defArgs s_law_look, defBody s_law_look, defScope s_law_look, [], []⟩
def d_law_wide : He.DefD := ⟨("_law_wide", none), "_law_wide", "_law_wide", defArgs s_law_wide, defBody s_law_wide, defScope s_law_wide, [], []⟩
def d_law_numbers : He.DefD := ⟨("_law_numbers", none), "_law_numbers", "_law_numbers", defArgs s_law_numbers, defBody s_law_numbers, defScope s_law_numbers, [], []⟩
def d_law_told : He.DefD := ⟨("_law_told", none), "_law_told", "_law_told", defArgs s_law_told, defBody s_law_told, defScope s_law_told, [], []⟩
def d_law_right : He.DefD := ⟨("_law_right", none), "_law_right", "_law_right", defArgs s_law_right, defBody s_law_right, defScope s_law_right, [], []⟩
def d_law_strange : He.DefD := ⟨("_law_strange", none), "_law_strange", "_law_strange", defArgs s_law_strange, defBody s_law_strange, defScope s_law_strange, [], []⟩
def d_law_wrong : He.DefD := ⟨("_law_wrong", none), "_law_wrong", "_law_wrong", defArgs s_law_wrong, defBody s_law_wrong, defScope s_law_wrong, [], []⟩
def d_law_sets : He.DefD := ⟨("_law_sets", none), "_law_sets", "_law_sets", defArgs s_law_sets, defBody s_law_sets, defScope s_law_sets, [], []⟩
def d_law : He.DefD := ⟨("law", none), "law", "law", defArgs s_law, defBody s_law, defScope s_law, [], []⟩
def gs : List DefG := []
def fn : List He.DefD := [dx_BadMarks, dx_NoMark, dx_NoDay, dx_OtherDays, dx_BadOrder, d_is_whole, d_name_fault, d_Marks_init, d_Marks_eq, d_Marks_place, d_check_names, d_seen_days, d_look_day, d_look_of, d_spread_over, d_widened_days, d_checked_layers, d_Order_init, d_Order_getitem, d_Order_iter, d_Order_len, d_Order_eq, d_law_bag, d_law_take, d_law_of, d_law_name, d_law_mixed, d_law_seen, d_law_look, d_law_wide, d_law_numbers, d_law_told, d_law_right, d_law_strange, d_law_wrong, d_law_sets, d_law]
def fa : List He.Fa := [.glo "is_whole", .glo "name_fault", .glo "check_names", .glo "seen_days", .glo "look_day", .glo "look_of", .glo "spread_over", .glo "widened_days", .glo "checked_layers", .glo "_law_bag", .glo "_law_take", .glo "_law_of", .glo "_law_name", .glo "_law_mixed", .glo "_law_seen", .glo "_law_look", .glo "_law_wide", .glo "_law_numbers", .glo "_law_told", .glo "_law_right", .glo "_law_strange", .glo "_law_wrong", .glo "_law_sets", .glo "law", .glo "DaysError", .glo "BadMarks", .glo "NoMark", .glo "NoDay", .glo "OtherDays", .glo "BadOrder", .glo "Marks", .glo "Order", .free "isinstance", .free "int", .free "bool", .free "str", .free "len", .free "list", .free "tuple", .free "enumerate", .free "range", .free "sum", .free "min", .free "iter", .free "abs", .free "repr", .int "LONGEST_NAME" 8, .str "LETTERS" "abcdefghijklmnopqrstuvwxyz", .glo "KEPT_WORDS", .int "MOST_MARKS" 4, .glo "COUNTS", .int "HIGHEST" 1000000000000000000000000000000, .cls "Marks", .noat "Marks" "names", .noat "Marks" "count", .noat "Marks" "days", .noat "Marks" "all_days", .meth "Marks" "__eq__", .meth "Marks" "place", .mkr "Marks", .cls "Order", .noat "Order" "layers", .meth "Order" "__getitem__", .meth "Order" "__iter__", .meth "Order" "__len__", .meth "Order" "__eq__", .mkr "Order"]
def excL (K : PySem.W.Frag) : List Addr := [He.ga K "DaysError", He.ga K "BadMarks", He.ga K "NoMark", He.ga K "NoDay", He.ga K "OtherDays", He.ga K "BadOrder"]
def clsL (K : PySem.W.Frag) : List Addr := [He.ga K "Marks", He.ga K "Order"]
def cA (K : PySem.W.Frag) (c : Nat) : Addr := (clsL K).getD c 0
def ex (K : PySem.W.Frag) : Bool := allB [xdB K (He.ga K "DaysError"), xcB K (He.ga K "BadMarks") ["what", "index"], xcB K (He.ga K "NoMark") ["name"], xcB K (He.ga K "NoDay") ["day"], xcB K (He.ga K "OtherDays") [], xcB K (He.ga K "BadOrder") ["what"], exmB K (He.ga K "NoMark") [(He.ga K "DaysError", false), (He.ga K "BadMarks", false), (He.ga K "NoMark", true), (He.ga K "NoDay", false), (He.ga K "OtherDays", false), (He.ga K "BadOrder", false)], exmB K (He.ga K "NoDay") [(He.ga K "DaysError", false), (He.ga K "BadMarks", false), (He.ga K "NoMark", false), (He.ga K "NoDay", true), (He.ga K "OtherDays", false), (He.ga K "BadOrder", false)], exmB K (He.ga K "OtherDays") [(He.ga K "DaysError", false), (He.ga K "BadMarks", false), (He.ga K "NoMark", false), (He.ga K "NoDay", false), (He.ga K "OtherDays", true), (He.ga K "BadOrder", false)], isTabB K (cA K) (fun t => PySem.W.kitOne K t (.type "int")) ty_int cn_int, isTabB K (cA K) (fun t => PySem.W.kitOne K t (.type "bool")) ty_bool cn_bool, isTabB K (cA K) (fun t => PySem.W.kitOne K t (.type "str")) ty_str cn_str, isTabB K (cA K) (fun t => PySem.W.kitAny K t [.type "list", .type "tuple"]) ty_list_tuple cn_list_tuple, isTabB K (cA K) (fun t => PySem.W.kitOne K t (.ref (He.ga K "Marks"))) ty_Marks cn_Marks, isTabB K (cA K) (fun t => PySem.W.kitOne K t (.ref (He.ga K "Order"))) ty_Order cn_Order, isTabB K (cA K) (fun t => PySem.W.kitOne K t (.type "tuple")) ty_tuple cn_tuple, eqCB K (cA K) 0 cns, eqCB K (cA K) 1 cns, xtB K (fun c => (excL K).getD c 0) (.ref (He.ga K "DaysError")) xt_DaysError, He.tupB K "KEPT_WORDS" [(.str "and"), (.str "any"), (.str "marks"), (.str "need"), (.str "never"), (.str "not"), (.str "or"), (.str "usually"), (.str "where")], He.tupB K "COUNTS" [(.int 2), (.int 4), (.int 8), (.int 16)], xfB K (He.ga K "NoDay"), xfB K (He.ga K "NoMark")]
def tab (K : PySem.W.Frag) : Tab where
  K := K
  clsA := cA K
  clsF := fun c => ([FL_Marks, FL_Order] : List (List Str)).getD c []
  excA := fun c => (excL K).getD c 0
  excF := fun c => ([[], ["what", "index"], ["name"], ["day"], [], ["what"]] : List (List Str)).getD c []
end Lw
end
set_option linter.all false
set_option Elab.async false
set_option maxRecDepth 100000
set_option maxHeartbeats 4000000
namespace Lw
open PySem PySem.Spec L2 Ue
abbrev R : PySem.W.OpenRow := PySem.W.OpenLaw.row PySem.Challenge.rw_usualdays_k70_looks_and_spreads
def AD : List Addr := [3, 31, 51, 70, 89, 108, 127, 136, 137, 144, 210, 221, 226, 233, 238, 243, 250, 258, 265, 411, 422, 429, 436, 443, 450, 464, 471, 478, 490, 497, 502, 509, 516, 521, 528, 30, 50, 69, 88, 107, 126, 135, 143, 209, 220, 225, 232, 237, 242, 249, 264, 410, 421, 428, 435, 442, 449, 463, 470, 477, 489, 496, 501, 508, 515, 520, 527, 48, 67, 86, 105, 124, 158, 165, 172, 300, 307, 314, 321, 328, 47, 66, 85, 104, 123, 157, 164, 171, 299, 306, 313, 320, 327]
abbrev hk : PySem.W.Hook := hookL AD fa fn gs ex
def ob (s : PySem.W.SharedT) : AlV := obsL AD fa fn gs ex (HandSHeadRun.getT s)
abbrev nms : List PySem.Str := ((["_wall", "DaysError", "BadMarks", "NoMark", "NoDay", "OtherDays", "BadOrder", "is_whole", "LETTERS", "KEPT_WORDS", "MOST_MARKS", "LONGEST_NAME", "name_fault", "Marks", "check_names", "seen_days", "look_day", "look_of", "spread_over", "widened_days", "days_in", "COUNTS", "HIGHEST", "checked_layers", "check_days", "check_same_days", "first_not_kept", "Order", "_law_bag", "_law_take"] : List PySem.Str) ++ (["_law_of", "_law_name", "_law_mixed", "_law_two_names", "_law_seen", "_law_look", "_law_wide", "_law_wide_saying", "_law_numbers", "_law_told", "_law_right", "_law_strange", "_law_wrong", "_law_sets"] : List PySem.Str))
open PySem.W HandSHeadRun in
noncomputable def rr (w : World) := wholeF (fun p => stepQ (denQ tabQ) p w) fenceQ 9000 R.prog
open PySem.W HandSHeadRun in
theorem run1 (w : World) : (rr w).map (fun x => (looksF R.prog x.1.heap x.2.abs, seenQ (PySem.W.view R.prog [51]) nms (importedModules R.prog.main.body) (fun s => xlAt (PySem.W.view R.prog [51]) [] s && recOk R.toRowW.records s) x.2.abs)) = some (true, openGood (PySem.W.view R.prog [51]) nms) := by
  kernel_rfl
theorem run2 (w : World) : (rr w).map (fun x => ob x.2) = some (valV fn gs) := by
  kernel_rfl
theorem run (w : World) : HandSHeadRun.RunEqI R (PySem.W.view R.prog [51]) hk ob 9000 nms w := two_parts (run1 w) (run2 w)
end Lw
set_option linter.all false
set_option Elab.async false
set_option maxRecDepth 100000
set_option maxHeartbeats 4000000
namespace Ue
open PySem L2
section
variable (T : Tab) (P : Hp)
end
section
variable {T : Tab} {P P' H : Hp}
theorem Reps.append : ∀ {ds es : List D} {vs ws : List V}, Reps T P ds vs → Reps T P es ws → Reps T P (ds ++ es) (vs ++ ws)
  | [], _, _, _, h, k => by rw [Reps] at h; subst h; exact k
  | _ :: _, _, _, _, h, k => by
    rw [Reps] at h
    obtain ⟨v, r, rfl, h1, h2⟩ := h
    exact Reps.cons h1 (Reps.append h2 k)
theorem Reps.take : ∀ {ds : List D} {vs : List V} (n : Nat), Reps T P ds vs → Reps T P (ds.take n) (vs.take n)
  | _, _, 0, _ => by simp; exact Reps.nil
  | [], _, n + 1, h => by rw [Reps] at h; subst h; simp; exact Reps.nil
  | _ :: _, _, n + 1, h => by
    rw [Reps] at h
    obtain ⟨v, r, rfl, h1, h2⟩ := h
    exact Reps.cons h1 (Reps.take n h2)
theorem Reps.drop : ∀ {ds : List D} {vs : List V} (n : Nat), Reps T P ds vs → Reps T P (ds.drop n) (vs.drop n)
  | _, _, 0, h => by simpa using h
  | [], _, n + 1, h => by rw [Reps] at h; subst h; simp; exact Reps.nil
  | _ :: _, _, n + 1, h => by
    rw [Reps] at h
    obtain ⟨v, r, rfl, h1, h2⟩ := h
    exact Reps.drop n h2
theorem Reps.reverse : ∀ {ds : List D} {vs : List V}, Reps T P ds vs → Reps T P ds.reverse vs.reverse
  | [], _, h => by rw [Reps] at h; subst h; exact Reps.nil
  | _ :: _, _, h => by
    rw [Reps] at h
    obtain ⟨v, r, rfl, h1, h2⟩ := h
    rw [List.reverse_cons, List.reverse_cons]
    exact Reps.append (Reps.reverse h2) (Reps.cons h1 Reps.nil)
theorem Reps.ints : ∀ (ns : List Int) {vs : List V}, Reps T P (ns.map D.int) vs → vs = ns.map V.int
  | [], _, h => by rw [List.map_nil, Reps] at h; exact h
  | n :: ns, _, h => by
    rw [List.map_cons, Reps] at h
    obtain ⟨v, r, rfl, h1, h2⟩ := h
    rw [Rep] at h1
    rw [Reps.ints ns h2, h1, List.map_cons]
theorem Reps.ofInts : ∀ (ns : List Int), Reps T P (ns.map D.int) (ns.map V.int)
  | [] => Reps.nil
  | n :: ns => Reps.cons (by rw [Rep]) (Reps.ofInts ns)
theorem Reps.bls : ∀ (ns : List Bool) {vs : List V}, Reps T P (ns.map D.bl) vs → vs = ns.map V.bl
  | [], _, h => by rw [List.map_nil, Reps] at h; exact h
  | n :: ns, _, h => by
    rw [List.map_cons, Reps] at h
    obtain ⟨v, r, rfl, h1, h2⟩ := h
    rw [Rep] at h1
    rw [Reps.bls ns h2, h1, List.map_cons]
end
section
variable (T : Tab) (P H : Hp)
end
section
variable (T : Tab) (W : WX) (σ : St)
end
section
variable {T : Tab} {W : WX} {σ : St} {α β : Type} {env : Env} {P H : Hp}
end
def KRep (T : Tab) (k : Kd) (env : Env) (σ : St) (P H : Hp) (d : D) (x : V) : Prop :=
  match k with
  | .pure => Rep T P d x
  | .fresh => ∃ a vs ds, x = .ref a ∧ H a = some (.lst vs) ∧ P a = none ∧ ¬ Own env σ H a ∧ Reps T P ds vs ∧ d = .lst ds
  | .own i => ∃ ds, env[i]? = some (some (.own ds)) ∧ d = .lst ds ∧ σ[i]? = some (some x)
def rdE (T : Tab) (W : WX) (k : Kd) (m : M) : TE := fun σ H Q => ∃ env P, Rel T env σ P H ∧ After T W σ env P H (m env) (fun d env' P' H' => ∀ x, KRep T k env' σ P' H' d x → NewV k H x → Q x H')
def DE (T : Tab) (W : WX) (X : Cx) (e : Expr) (k : Kd) (m : M) : Prop := PE X e (rdE T W k m)
theorem pe_imp {X : Cx} {e : Expr} {t t' : TE} (h : PE X e t) (k : ∀ σ H Q, t' σ H Q → t σ H Q) : PE X e t' := ⟨fun pins s σ H Q I q => h.run pins s σ H Q I (k σ H Q q)⟩
theorem pt_imp {X : Cx} {e : Expr} {t t' : TT} (h : PT X e t) (k : ∀ σ H Q, t' σ H Q → t σ H Q) : PT X e t' := ⟨fun pins s σ H Q I q => h.run pins s σ H Q I (k σ H Q q)⟩
theorem pw_imp {X : Cx} {e : Expr} {t t' : TT} (h : PW X e t) (k : ∀ σ H Q, t' σ H Q → t σ H Q) : PW X e t' := ⟨fun whole pins s σ H Q I q => h.run whole pins s σ H Q I (k σ H Q q)⟩
theorem pa_imp {X : Cx} {e : List Expr} {t t' : TA} (h : PA X e t) (k : ∀ σ H Q, t' σ H Q → t σ H Q) : PA X e t' := ⟨fun pos pins s σ H Q I q => h.run pos pins s σ H Q I (k σ H Q q)⟩
theorem ps_imp {X : Cx} {e : Stmt} {t t' : TS} (h : PS X e t) (k : ∀ D σ H, t' D σ H → t D σ H) : PS X e t' := ⟨fun pins s σ H D I q => h.run pins s σ H D I (k D σ H q)⟩
theorem pss_imp {X : Cx} {e : List Stmt} {t t' : TS} (h : PSs X e t) (k : ∀ D σ H, t' D σ H → t D σ H) : PSs X e t' := ⟨fun pins s σ H D I q => h.run pins s σ H D I (k D σ H q)⟩
def rdT (T : Tab) (W : WX) (m : MT) : TT := fun σ H Q => ∃ env P, Rel T env σ P H ∧ After T W σ env P H (m env) (fun b _ _ H' => Q b H')
def DT (T : Tab) (W : WX) (X : Cx) (e : Expr) (m : MT) : Prop := PT X e (rdT T W m)
end Ue
set_option linter.all false
set_option Elab.async false
set_option maxRecDepth 100000
set_option maxHeartbeats 4000000
namespace Ue
open PySem L2
section
variable {T : Tab} {W : WX} {env env' : Env} {σ : St} {P H P' H' : Hp} {p : Addr} {o : HO}
theorem Rel.pNone (R : Rel T env σ P H) {b : Addr} (h : H b = none) : P b = none := by
  cases e : P b with
  | none => rfl
  | some o => have := R.sub b o e; rw [h] at this; cases this
theorem psub_upd {P : Hp} (h : P p = none) : PSub P (upd P p o) := fun b u e => by
  rw [upd_ne (ne_of_none e h)]; exact e
theorem Rel.slot {i : Nat} {o : Option EV} {σ' : St} (R : Rel T env σ P H) (hl : σ'.length = σ.length) (hσ : ∀ j, j ≠ i → σ'[j]? = σ[j]?) (hs : PSub P P') (sub : PSub P' H') (hk : ∀ b u, H b = some u → OwnX env σ H i b → H' b = some u ∧ P' b = none)
    (hi : ∀ g, o = some g → i < env.length → ∃ y, σ'[i]? = some (some y) ∧ EnvRep T P' H' g y ∧ (g.isOwn = true → ∀ b, Foot g y H' b → ¬ OwnX env σ H i b)) :
    Rel T (env.set i o) σ' P' H' ∧ (∀ b, Own (env.set i o) σ' H' b → OwnX env σ H i b ∨ ∃ g y, o = some g ∧ g.isOwn = true ∧ σ'[i]? = some (some y) ∧ Foot g y H' b) ∧ (∀ b, OwnX env σ H i b → Own (env.set i o) σ' H' b) := by
  have key : ∀ (j : Nat) (e : EV), (env.set i o)[j]? = some (some e) → (j = i ∧ o = some e ∧ i < env.length) ∨ (j ≠ i ∧ env[j]? = some (some e)) := fun j e h => by
    by_cases q : j = i
    · subst q
      by_cases hj : j < env.length
      · rw [List.getElem?_set_self hj] at h
        exact .inl ⟨rfl, Option.some.inj h, hj⟩
      · rw [List.getElem?_eq_none (by simpa using hj)] at h; cases h
    · rw [List.getElem?_set_ne (fun z => q z.symm)] at h
      exact .inr ⟨q, h⟩
  have ft : ∀ (j : Nat) (e : EV) (x : V) (b : Addr), j ≠ i → env[j]? = some (some e) → e.isOwn = true → σ[j]? = some (some x) → (Foot e x H' b ↔ Foot e x H b) := fun j e x b n h o s => by
    obtain ⟨v, hv, r⟩ := R.ent j e h
    rw [s] at hv; cases hv
    exact r.footH fun a u ha _ hu => (hk a u hu ⟨j, e, x, n, h, o, s, .inl ha⟩).1
  refine ⟨⟨sub, fun j e h => ?_, fun j l e f x y a n h1 h2 o1 o2 s1 s2 t1 t2 => ?_, by rw [List.length_set, hl]; exact R.len⟩, fun b ⟨j, e, x, h1, h2, h3, h4⟩ => ?_, fun b ⟨j, f, x, n, h1, h2, h3, h4⟩ => ⟨j, f, x, by rw [List.getElem?_set_ne (fun z => n z.symm)]; exact h1, h2, by rw [hσ j n]; exact h3, (ft j f x b n h1 h2 h3).mpr h4⟩⟩
  · rcases key j e h with ⟨rfl, q, hj⟩ | ⟨n, q⟩
    · obtain ⟨y, hy, r, _⟩ := hi e q hj
      exact ⟨y, hy, r⟩
    · obtain ⟨v, hv, r⟩ := R.ent j e q
      exact ⟨v, by rw [hσ j n]; exact hv, r.grow hs fun b u w1 w2 w3 w4 => hk b u w1 ⟨j, e, v, n, q, w3, hv, w4⟩⟩
  · rcases key j e h1 with ⟨rfl, q, hj⟩ | ⟨n1, q⟩
    · obtain ⟨y', hy, _, no⟩ := hi e q hj
      rw [s1] at hy; cases hy
      rcases key l f h2 with ⟨rfl, _, _⟩ | ⟨n2, q2⟩
      · exact n rfl
      · rw [hσ l n2] at s2
        exact no o1 a t1 ⟨l, f, y, n2, q2, o2, s2, (ft l f y a n2 q2 o2 s2).mp t2⟩
    · rw [hσ j n1] at s1
      rcases key l f h2 with ⟨rfl, q2, hj⟩ | ⟨n2, q2⟩
      · obtain ⟨y', hy, _, no⟩ := hi f q2 hj
        rw [s2] at hy; cases hy
        exact no o2 a t2 ⟨j, e, x, n1, q, o1, s1, (ft j e x a n1 q o1 s1).mp t1⟩
      · rw [hσ l n2] at s2
        exact R.dis j l e f x y a n q q2 o1 o2 s1 s2 ((ft j e x a n1 q o1 s1).mp t1) ((ft l f y a n2 q2 o2 s2).mp t2)
  · rcases key j e h1 with ⟨rfl, q, hj⟩ | ⟨n1, q⟩
    · exact .inr ⟨e, x, q, h2, h3, h4⟩
    · rw [hσ j n1] at h3
      exact .inl ⟨j, e, x, n1, q, h2, h3, (ft j e x b n1 q h2 h3).mp h4⟩
theorem Rel.newP (R : Rel T env σ P H) (hp : H p = none) : Rel T env σ (upd P p o) (upd H p o) ∧ Fr env σ P H env σ (upd P p o) (upd H p o) := by
  have pp := R.pNone hp
  obtain ⟨R2, w⟩ := R.reH (P' := upd P p o) (H' := upd H p o) (psub_upd pp) (fun b u e => by
    by_cases hb : b = p
    · subst hb; rw [upd_same] at e ⊢; exact e
    · rw [upd_ne hb] at e ⊢; exact R.sub b u e) fun b u h1 h2 => by
    have hb : b ≠ p := ne_of_none h1 hp
    obtain ⟨_, _, h3⟩ := R.ownAt h2
    rw [upd_ne hb, upd_ne hb]; exact ⟨h1, h3⟩
  refine ⟨R2, fun b u e _ => ?_, fun b _ n z => n ((w b).mp z), psub_upd pp, fun b h => ?_, fun b h => ?_⟩
  · rw [upd_ne (ne_of_none e hp)]; exact e
  · by_cases hb : b = p
    · subst hb; exact .inr (.inl hp)
    · rw [upd_ne hb] at h; exact .inl h
  · by_cases hb : b = p
    · subst hb; rw [upd_same]; exact fun z => nomatch z
    · rw [upd_ne hb]; exact h
theorem Rel.newF (R : Rel T env σ P H) (hp : H p = none) : Rel T env σ P (upd H p o) ∧ Fr env σ P H env σ P (upd H p o) ∧ ¬ Own env σ (upd H p o) p ∧ P p = none := by
  have pp := R.pNone hp
  obtain ⟨R2, w⟩ := R.reH (P' := P) (H' := upd H p o) (PSub.refl _) (fun b u e => by
    rw [upd_ne (ne_of_none e pp)]; exact R.sub b u e) fun b u h1 h2 => by
    have hb : b ≠ p := ne_of_none h1 hp
    obtain ⟨_, _, h3⟩ := R.ownAt h2
    rw [upd_ne hb]; exact ⟨h1, h3⟩
  refine ⟨R2, ⟨fun b u e _ => ?_, fun b _ n z => n ((w b).mp z), PSub.refl _, fun b h => .inl h, fun b h => ?_⟩, fun z => R.notOwn hp ((w p).mp z), pp⟩
  · rw [upd_ne (ne_of_none e hp)]; exact e
  · by_cases hb : b = p
    · subst hb; rw [upd_same]; exact fun z => nomatch z
    · rw [upd_ne hb]; exact h
theorem Rel.freeze {a : Addr} {vs : List V} (R : Rel T env σ P H) (ha : H a = some (.lst vs)) (hp : P a = none) (no : ¬ Own env σ H a) : Rel T env σ (upd P a (.lst vs)) H :=
  (R.reH (P' := upd P a (.lst vs)) (H' := H) (psub_upd hp) (fun b u e => by
    by_cases hb : b = a
    · subst hb; rw [upd_same] at e; cases e; exact ha
    · rw [upd_ne hb] at e; exact R.sub b u e) fun b u h1 h2 => by
    obtain ⟨_, _, h3⟩ := R.ownAt h2
    have hb : b ≠ a := by rintro rfl; exact no h2
    rw [upd_ne hb]; exact ⟨h1, h3⟩).1
end
section
variable {T : Tab} {W : WX} {env env' : Env} {σ : St} {P H P' H' : Hp} {x : V}
theorem KRep.rdb {k : Kd} {d : D} (R : Rel T env σ P H) (h : KRep T k env σ P H d x) : Rdb T P H d x := by
  cases k with
  | pure => exact .inl h
  | fresh => obtain ⟨a, vs, ds, e, h1, _, _, h2, h3⟩ := h; exact .inr ⟨a, vs, ds, e, h1, h2, h3⟩
  | own i =>
    obtain ⟨ds, e, h3, hx⟩ := h
    obtain ⟨v, hv, r⟩ := R.ent i _ e
    rw [hx] at hv; cases hv
    obtain ⟨a, vs, q, q1, q2, q3⟩ := r
    exact .inr ⟨a, vs, ds, q, q1, q3, h3⟩
theorem Rdb.tupE {ds : List D} (R : PSub P H) (h : Rdb T P H (.tup ds) x) : ∃ a vs, x = .ref a ∧ SqT T.K H a vs ∧ Reps T P ds vs := by
  rcases h with h | ⟨_, _, _, _, _, _, h⟩
  · rw [Rep] at h
    obtain ⟨a, vs, e, h1, h2⟩ := h
    exact ⟨a, vs, e, sqT_sub R h1, h2⟩
  · cases h
theorem Rdb.lstE {ds : List D} (R : PSub P H) (h : Rdb T P H (.lst ds) x) : ∃ a vs, x = .ref a ∧ Rd H a (.lst vs) ∧ Reps T P ds vs := by
  rcases h with h | ⟨a, vs, es, e, h1, h2, h3⟩
  · rw [Rep] at h
    obtain ⟨a, vs, e, h1, h2⟩ := h
    exact ⟨a, vs, e, Rd.sub R h1, h2⟩
  · cases h3; exact ⟨a, vs, e, .inl h1, h2⟩
theorem Rdb.scrE {ns : List Int} (R : PSub P H) (h : Rdb T P H (.scr ns) x) : ∃ a, x = .ref a ∧ SqL T.K H a (ns.map V.int) := by
  rcases h with h | ⟨_, _, _, _, _, _, h⟩
  · rw [Rep] at h
    obtain ⟨a, e, h1⟩ := h
    exact ⟨a, e, sqL_sub R h1⟩
  · cases h
theorem Rdb.objE {c : Nat} {ds : List D} (R : PSub P H) (h : Rdb T P H (.obj c ds) x) : ∃ a dx vs, x = .ref a ∧ H a = some (.ins (T.clsA c) dx ((T.clsF c).zip vs)) ∧ vs.length = (T.clsF c).length ∧ Reps T P ds vs := by
  rcases h with h | ⟨_, _, _, _, _, _, h⟩
  · rw [Rep] at h
    obtain ⟨a, dx, vs, e, h1, hl, h2⟩ := h
    exact ⟨a, dx, vs, e, R _ _ h1, hl, h2⟩
  · cases h
theorem Rdb.seqE {ds : List D} {d : D} (R : PSub P H) (hd : d = .lst ds ∨ d = .tup ds) (h : Rdb T P H d x) : ∃ a vs, x = .ref a ∧ (SqL T.K H a vs ∨ SqT T.K H a vs) ∧ Reps T P ds vs := by
  rcases hd with rfl | rfl
  · obtain ⟨a, vs, e, h1, h2⟩ := h.lstE R; exact ⟨a, vs, e, .inl (.inl h1), h2⟩
  · obtain ⟨a, vs, e, h1, h2⟩ := h.tupE R; exact ⟨a, vs, e, .inr h1, h2⟩
theorem rep_int {i : Int} : Rep T P (.int i) (.int i) := by rw [Rep]
theorem rep_bl {i : Bool} : Rep T P (.bl i) (.bl i) := by rw [Rep]
theorem rep_non : Rep T P .non .non := by rw [Rep]
theorem rep_str {i : Str} : Rep T P (.str i) (.str i) := by rw [Rep]
theorem rep_tup {a : Addr} {vs : List V} {ds : List D} (h : P a = some (.tup vs)) (k : Reps T P ds vs) : Rep T P (.tup ds) (.ref a) := by rw [Rep]; exact ⟨a, vs, rfl, .of h, k⟩
theorem rep_lst {a : Addr} {vs : List V} {ds : List D} (h : P a = some (.lst vs)) (k : Reps T P ds vs) : Rep T P (.lst ds) (.ref a) := by rw [Rep]; exact ⟨a, vs, rfl, .inl h, k⟩
theorem KRep.carry {k : Kd} {d : D} (h : KRep T k env σ P H d x) (f : Fr env σ P H env' σ P' H') (hs : ∀ i, k = .own i → env'[i]? = env[i]?) : KRep T k env' σ P' H' d x := by
  cases k with
  | pure => exact Rep.sub f.mono d x h
  | fresh =>
    obtain ⟨a, vs, ds, e, h1, h2, h3, h4, h5⟩ := h
    have ha : H a ≠ none := by rw [h1]; exact fun z => nomatch z
    refine ⟨a, vs, ds, e, f.keep a _ h1 h3, ?_, f.own a ha h3, Reps.sub f.mono _ _ h4, h5⟩
    refine Classical.byContradiction fun z => ?_
    rcases f.new a z with q | q | q
    · exact q h2
    · exact ha q
    · exact h3 q
  | own i =>
    obtain ⟨ds, e, h3, hx⟩ := h
    exact ⟨ds, by rw [hs i rfl]; exact e, h3, hx⟩
theorem Steady.use {k : Kd} {α : Type} {m : Env → R α} (h : Steady k m) {e e' : Env} {d : α} (hm : m e = .ok d e') : ∀ i, k = .own i → e'[i]? = e[i]? := fun i hk => by
  subst hk; exact h e d e' hm
end
theorem NewV.back {k : Kd} {env env' : Env} {σ σ' : St} {P P' H H' : Hp} {x : V} (f : Fr env σ P H env' σ' P' H') (h : NewV k H' x) : NewV k H x := by
  cases k with
  | fresh => obtain ⟨a, e, h⟩ := h; exact ⟨a, e, Classical.byContradiction fun z => f.there a z h⟩
  | _ => trivial
def liftO (o : Option D) (e : Env) : R D := match o with | some d => .ok d e | none => .stk
def op2M (g : D → D → Option D) (ma mb : M) : M := fun env => (ma env).bind fun x e1 => (mb e1).bind fun y e2 => liftO (g x y) e2
def op1M (g : D → Option D) (ma : M) : M := fun env => (ma env).bind fun x e1 => liftO (g x) e1
def liftB (o : Option Bool) (e : Env) : R Bool := match o with | some d => .ok d e | none => .stk
def cmpM (g : D → D → Option Bool) (ma mb : M) : MT := fun env => (ma env).bind fun x e1 => (mb e1).bind fun y e2 => liftB (g x y) e2
def bV (m : MT) : M := fun env => (m env).bind fun b e => .ok (.bl b) e
theorem bV_cmp (g : D → D → Option Bool) (ma mb : M) (env : Env) : bV (cmpM g ma mb) env = (ma env).bind fun x e1 => (mb e1).bind fun y e2 => (liftB (g x y) e2).bind fun b e => .ok (.bl b) e := by
  unfold bV cmpM
  cases ma env with
  | ok d e1 =>
    show ((mb e1).bind fun y e2 => liftB (g d y) e2).bind _ = (mb e1).bind _
    cases mb e1 <;> rfl
  | _ => rfl
def OpD (T : Tab) (r : R2) (k : Kd) (g : D → D → Option D) : Prop :=
  ∀ (env : Env) (σ : St) (P H : Hp) (dx dy : D) (x y : V) (d : D) (Q : VK), Rel T env σ P H → Rdb T P H dx x → Rdb T P H dy y → g dx dy = some d →
    (∀ v P' H', Rel T env σ P' H' → Fr env σ P H env σ P' H' → KRep T k env σ P' H' d v → NewV k H v → Q v H') → r x y H Q
def UnD (T : Tab) (r : V → Hp → VK → Prop) (k : Kd) (g : D → Option D) : Prop :=
  ∀ (env : Env) (σ : St) (P H : Hp) (dx : D) (x : V) (d : D) (Q : VK), Rel T env σ P H → Rdb T P H dx x → g dx = some d →
    (∀ v P' H', Rel T env σ P' H' → Fr env σ P H env σ P' H' → KRep T k env σ P' H' d v → NewV k H v → Q v H') → r x H Q
def CmpD (T : Tab) (r : R2) (g : D → D → Option Bool) : Prop :=
  ∀ (P H : Hp) (dx dy : D) (x y : V) (b : Bool) (Q : VK), PSub P H → Rdb T P H dx x → Rdb T P H dy y → g dx dy = some b → Q (.bl b) H → r x y H Q
section
variable {T : Tab} {W : WX} {X : Cx} {a b : Expr} {ka kb k : Kd} {ma mb : M} {pos : Pos}
theorem rd_op2 {r : R2} {g : D → D → Option D} (hD : OpD T r k g) (hs : Steady ka mb) {σ : St} {H : Hp} {Q : VK} (h : rdE T W k (op2M g ma mb) σ H Q) : tOp r (rdE T W ka ma) (rdE T W kb mb) σ H Q := by
  obtain ⟨env, P, R, h⟩ := h
  refine ⟨env, P, R, After.at h.bind fun d1 env1 P1 H1 _ R1 F1 h1 x kx nx => ?_⟩
  refine ⟨env1, P1, R1, After.at h1.bind fun d2 env2 P2 H2 e2 R2 F2 h2 y ky ny => ?_⟩
  have kx' := kx.carry F2 (hs.use e2)
  cases e : g d1 d2 with
  | none => rw [e] at h2; exact False.elim h2
  | some d =>
    rw [e] at h2
    exact hD env2 σ P2 H2 d1 d2 x y d Q R2 (kx'.rdb R2) (ky.rdb R2) e fun v P' H' R' F' kv nv => h2 P' H' R' F' v kv (nv.back (F1.trans F2))
theorem de_op2 {op : Operator} {r : R2} {g : D → D → Option D} (ho : OpR X (binaryOp op) r) (hD : OpD T r k g) (ha : DE T W X a ka ma) (hb : DE T W X b kb mb) (hs : Steady ka mb := by trivial) :
    DE T W X (.BinOp a op b pos) k (op2M g ma mb) := pe_imp (pe_op ho ha hb) fun _ _ _ h => rd_op2 hD hs h
theorem rd_cmp {r : R2} {g : D → D → Option Bool} (hD : CmpD T r g) (hs : Steady ka mb) {σ : St} {H : Hp} {Q : Bool → Hp → Prop} (h : rdT T W (cmpM g ma mb) σ H Q) : tOp r (rdE T W ka ma) (rdE T W kb mb) σ H (fun x H' => ∃ k, x = .bl k ∧ Q k H') := by
  obtain ⟨env, P, R, h⟩ := h
  refine ⟨env, P, R, After.at h.bind fun d1 env1 P1 H1 _ R1 F1 h1 x kx nx => ?_⟩
  refine ⟨env1, P1, R1, After.at h1.bind fun d2 env2 P2 H2 e2 R2 F2 h2 y ky ny => ?_⟩
  have kx' := kx.carry F2 (hs.use e2)
  cases e : g d1 d2 with
  | none => rw [e] at h2; exact False.elim h2
  | some d =>
    rw [e] at h2
    exact hD P2 H2 d1 d2 x y d _ R2.sub (kx'.rdb R2) (ky.rdb R2) e ⟨d, rfl, h2.here R2 (Fr.refl _ _ _ _)⟩
theorem dt_cmp {op : CmpOp} {r : R2} {g : D → D → Option Bool} (ho : OpR X (compareOp op) r) (hD : CmpD T r g) (ha : DE T W X a ka ma) (hb : DE T W X b kb mb) (hm : behindInMarks op b = false := by rfl) (hs : Steady ka mb := by trivial) :
    DT T W X (.Compare a [op] [b] pos) (cmpM g ma mb) := pt_imp (pt_cmpR ho ha hb hm) fun _ _ _ h => rd_cmp hD hs h
theorem de_cmp {op : CmpOp} {r : R2} {g : D → D → Option Bool} (ho : OpR X (compareOp op) r) (hD : CmpD T r g) (ha : DE T W X a ka ma) (hb : DE T W X b kb mb) (hm : behindInMarks op b = false := by rfl) (hs : Steady ka mb := by trivial) :
    DE T W X (.Compare a [op] [b] pos) .pure (bV (cmpM g ma mb)) := by
  refine pe_imp (pe_cmpR ho ha hb hm) fun σ H Q h => ?_
  obtain ⟨env, P, RR, h⟩ := h
  rw [bV_cmp] at h
  refine ⟨env, P, RR, After.at h.bind fun d1 env1 P1 H1 _ R1 F1 h1 x kx nx => ?_⟩
  refine ⟨env1, P1, R1, After.at h1.bind fun d2 env2 P2 H2 e2 R2 F2 h2 y ky ny => ?_⟩
  have kx' := kx.carry F2 (hs.use e2)
  cases e : g d1 d2 with
  | none => rw [e] at h2; exact False.elim h2
  | some d =>
    rw [e] at h2
    exact hD P2 H2 d1 d2 x y d _ R2.sub (kx'.rdb R2) (ky.rdb R2) e (h2 P2 H2 R2 (Fr.refl _ _ _ _) _ (show Rep T P2 (.bl d) (.bl d) from rep_bl) trivial)
theorem de_un {op : UnaryOp} {r : V → Hp → VK → Prop} {g : D → Option D} (ho : UnR X (unaryOp op) r) (hD : UnD T r k g) (ha : DE T W X a ka ma) : DE T W X (.UnaryOp op a pos) k (op1M g ma) := by
  refine pe_imp (pe_un ho ha) fun σ H Q h => ?_
  obtain ⟨env, P, R, h⟩ := h
  refine ⟨env, P, R, After.at h.bind fun d1 env1 P1 H1 _ R1 F1 h1 x kx nx => ?_⟩
  cases e : g d1 with
  | none => rw [e] at h1; exact False.elim h1
  | some d =>
    rw [e] at h1
    exact hD env1 σ P1 H1 d1 x d Q R1 (kx.rdb R1) e fun v P' H' R' F' kv nv => h1 P' H' R' F' v kv (nv.back F1)
end
def varM (i : Nat) : M := fun env => match env[i]? with | some (some (.v d)) => .ok d env | _ => .stk
def ovarM (i : Nat) : M := fun env => match env[i]? with | some (some (.own ds)) => .ok (.lst ds) env | _ => .stk
def cM (d : D) : M := fun env => .ok d env
section
variable {T : Tab} {W : WX} {X : Cx} {pos : Pos}
theorem de_var {i : Nat} {x : Str} (h : PE X (.Name x pos) (tVar i)) : DE T W X (.Name x pos) .pure (varM i) := by
  refine pe_imp h fun σ H Q h => ?_
  obtain ⟨env, P, R, h⟩ := h
  unfold varM at h
  cases e : env[i]? with
  | none => rw [e] at h; exact False.elim h
  | some o =>
    cases o with
    | none => rw [e] at h; exact False.elim h
    | some v =>
      cases v with
      | v d =>
        rw [e] at h
        obtain ⟨u, hu, r⟩ := R.ent i _ e
        exact ⟨u, hu, h.here R (Fr.refl _ _ _ _) u r trivial⟩
      | own ds => rw [e] at h; exact False.elim h
      | new c fs => rw [e] at h; exact False.elim h
      | mob c fs => rw [e] at h; exact False.elim h
      | ex c fs => rw [e] at h; exact False.elim h
theorem de_ovar {i : Nat} {x : Str} (h : PE X (.Name x pos) (tVar i)) : DE T W X (.Name x pos) (.own i) (ovarM i) := by
  refine pe_imp h fun σ H Q h => ?_
  obtain ⟨env, P, R, h⟩ := h
  unfold ovarM at h
  cases e : env[i]? with
  | none => rw [e] at h; exact False.elim h
  | some o =>
    cases o with
    | none => rw [e] at h; exact False.elim h
    | some v =>
      cases v with
      | own ds =>
        rw [e] at h
        obtain ⟨u, hu, r⟩ := R.ent i _ e
        exact ⟨u, hu, h.here R (Fr.refl _ _ _ _) u ⟨ds, e, rfl, hu⟩ trivial⟩
      | v d => rw [e] at h; exact False.elim h
      | new c fs => rw [e] at h; exact False.elim h
      | mob c fs => rw [e] at h; exact False.elim h
      | ex c fs => rw [e] at h; exact False.elim h
theorem de_c {e : Expr} {v : V} {d : D} (h : PE X e (tC v)) (hd : ∀ P, Rep T P d v) : DE T W X e .pure (cM d) := by
  refine pe_imp h fun σ H Q h => ?_
  obtain ⟨env, P, R, h⟩ := h
  exact h.here R (Fr.refl _ _ _ _) v (hd P) trivial
theorem de_int {i : Int} {j : Nat} : DE T W X (.Constant (.int i) j pos) .pure (cM (.int i)) := de_c pe_int fun _ => rep_int
theorem de_bl {i : Bool} {j : Nat} : DE T W X (.Constant (.bool i) j pos) .pure (cM (.bl i)) := de_c pe_bl fun _ => rep_bl
theorem de_non {j : Nat} : DE T W X (.Constant .none j pos) .pure (cM .non) := de_c pe_non fun _ => rep_non
theorem de_str {i : Str} {j : Nat} : DE T W X (.Constant (.str i) j pos) .pure (cM (.str i)) := de_c pe_str fun _ => rep_str
theorem rd_frz {m : M} {σ : St} {H : Hp} {Q : VK} (h : rdE T W .pure m σ H Q) : rdE T W .fresh m σ H Q := by
  obtain ⟨env, P, R, h⟩ := h
  refine ⟨env, P, R, ?_⟩
  cases e : m env with
  | ok d env1 =>
    rw [e] at h
    intro P1 H1 R1 F1 x kx nx
    obtain ⟨a, vs, ds, rfl, h1, h2, h3, h4, rfl⟩ := kx
    obtain ⟨a', e', ha⟩ := nx
    cases e'
    refine h (upd P1 a (.lst vs)) H1 (R1.freeze h1 h2 h3) ?_ _ (rep_lst upd_same (Reps.sub (psub_upd h2) _ _ h4)) trivial
    refine ⟨F1.keep, F1.own, F1.mono.trans (psub_upd h2), fun b hb => ?_, F1.there⟩
    by_cases q : b = a
    · subst q; exact .inr (.inl ha)
    · rw [upd_ne q] at hb; exact F1.new b hb
  | exc c fs env1 => rw [e] at h; exact h
  | stk => rw [e] at h; exact h
theorem de_frz {e : Expr} {m : M} (h : DE T W X e .fresh m) : DE T W X e .pure m := pe_imp h fun _ _ _ h => rd_frz h
def frzM (i : Nat) : M := fun env => match env[i]? with | some (some (.own ds)) => .ok (.lst ds) (env.set i (some (.v (.lst ds)))) | _ => .stk
theorem get_set {α : Type} {l : List (Option α)} {i : Nat} {a : Option α} {b : α} (h : l[i]? = some (some b)) : i < l.length := by
  rcases Nat.lt_or_ge i l.length with q | q
  · exact q
  · rw [List.getElem?_eq_none q] at h; cases h
theorem Rel.freezeO {env : Env} {σ : St} {P H : Hp} {i : Nat} {ds : List D} (R : Rel T env σ P H) (e : env[i]? = some (some (.own ds))) :
    ∃ a vs P', σ[i]? = some (some (V.ref a)) ∧ P' a = some (.lst vs) ∧ Reps T P' ds vs ∧ Rel T (env.set i (some (.v (.lst ds)))) σ P' H ∧ Fr env σ P H (env.set i (some (.v (.lst ds)))) σ P' H := by
  obtain ⟨u, hu, r⟩ := R.ent i _ e
  obtain ⟨a, vs, rfl, h1, h2, h3⟩ := r
  have own_a : Own env σ H a := ⟨i, _, _, e, rfl, hu, .here⟩
  have h3' := Reps.sub (psub_upd (o := .lst vs) h2) _ _ h3
  obtain ⟨R2, w1, w2⟩ := R.slot (i := i) (o := some (.v (.lst ds))) (σ' := σ) (P' := upd P a (.lst vs)) (H' := H) rfl (fun _ _ => rfl) (psub_upd h2) (fun b o q => by
    by_cases hb : b = a
    · subst hb; rw [upd_same] at q; cases q; exact h1
    · rw [upd_ne hb] at q; exact R.sub b o q) (fun b u q1 q2 => by
    obtain ⟨_, _, q3⟩ := R.ownAt q2.own
    have hb : b ≠ a := by rintro rfl; exact q2.ne R e rfl hu .here
    rw [upd_ne hb]; exact ⟨q1, q3⟩) (fun g hg _ => by
    cases hg
    exact ⟨_, hu, rep_lst upd_same h3', fun z => nomatch z⟩)
  refine ⟨a, vs, upd P a (.lst vs), hu, upd_same, h3', R2, fun b o q _ => q, fun b _ n z => ?_, psub_upd h2, fun b hb => ?_, fun b h => h⟩
  · rcases w1 b z with q | ⟨g, y, q, o, _⟩
    · exact n q.own
    · cases q; cases o
  · by_cases q : b = a
    · subst q; exact .inr (.inr own_a)
    · rw [upd_ne q] at hb; exact .inl hb
theorem de_ofrz {i : Nat} {x : Str} (h : PE X (.Name x pos) (tVar i)) : DE T W X (.Name x pos) .pure (frzM i) := by
  refine pe_imp h fun σ H Q h => ?_
  obtain ⟨env, P, R, h⟩ := h
  unfold frzM at h
  cases e : env[i]? with
  | none => rw [e] at h; exact False.elim h
  | some o =>
    cases o with
    | none => rw [e] at h; exact False.elim h
    | some v =>
      cases v with
      | own ds =>
        rw [e] at h
        obtain ⟨a, vs, P', hu, hp, hr, R', F'⟩ := R.freezeO e
        exact ⟨_, hu, h.here R' F' _ (rep_lst hp hr) trivial⟩
      | v d => rw [e] at h; exact False.elim h
      | new c fs => rw [e] at h; exact False.elim h
      | mob c fs => rw [e] at h; exact False.elim h
      | ex c fs => rw [e] at h; exact False.elim h
end
end Ue
set_option linter.all false
set_option Elab.async false
set_option maxRecDepth 100000
set_option maxHeartbeats 4000000
namespace Ue
open PySem L2
def truth : D → Option Bool
  | .non => some false
  | .bl b => some b
  | .int i => some (i != 0)
  | .str s => if s.length ≤ sizeLine then some ((s.length : Int) != 0) else none
  | .lst ds => some (!ds.isEmpty)
  | .tup ds => some (!ds.isEmpty)
  | .obj _ _ => none
  | .scr ns => some (!ns.isEmpty)
  | .dct _ => none
  | .tpx _ => none
def trM (m : M) : MT := fun env => (m env).bind fun d e => liftB (truth d) e
def andT (a b : MT) : MT := fun env => (a env).bind fun x e => if x then b e else .ok false e
def orT (a b : MT) : MT := fun env => (a env).bind fun x e => if x then .ok true e else b e
def notT (a : MT) : MT := fun env => (a env).bind fun x e => .ok (!x) e
def ifM {α : Type} (t : MT) (a b : Env → R α) : Env → R α := fun env => (t env).bind fun x e => if x then a e else b e
section
variable {T : Tab} {W : WX} {X : Cx} {a b c e : Expr} {rest : List Expr} {ka kb k : Kd} {m ma mb : M} {ta tb tc : MT} {pos : Pos} {env env' : Env} {σ : St} {P H P' H' : Hp} {x : V}
theorem truV {d : D} {t : Bool} (hK : X.K = T.K) (R1 : PSub P H) (h : Rdb T P H d x) (ht : truth d = some t) : TruV X.K x H t := by
  rw [hK]
  cases d with
  | non => rw [h.nonE]; cases ht; rfl
  | bl b => rw [h.blE]; cases ht; rfl
  | int i => rw [h.intE]; cases ht; rfl
  | str s =>
    rw [h.strE]
    have ht : (if s.length ≤ sizeLine then some ((s.length : Int) != 0) else none) = some t := ht
    by_cases hl : s.length ≤ sizeLine
    · rw [if_pos hl] at ht; cases ht; exact ⟨hl, rfl⟩
    · rw [if_neg hl] at ht; cases ht
  | lst ds =>
    obtain ⟨a, vs, rfl, h1, h2⟩ := h.lstE R1
    cases ht
    refine .inl ⟨vs, .inl h1, ?_⟩
    have := h2.length
    cases ds <;> cases vs <;> simp at this ⊢
  | tup ds =>
    obtain ⟨a, vs, rfl, h1, h2⟩ := h.tupE R1
    cases ht
    refine .inr (.inl ⟨vs, h1, ?_⟩)
    have := h2.length
    cases ds <;> cases vs <;> simp at this ⊢
  | obj _ _ => cases ht
  | scr ns =>
    obtain ⟨a, rfl, h1⟩ := h.scrE R1
    cases ht
    exact .inl ⟨_, h1, by cases ns <;> rfl⟩
  | dct kvs => cases ht
  | tpx ds => cases ht
theorem dt_tr (hK : X.K = T.K) (ha : DE T W X a k m) (he : ∀ whole, isTrue a X.env whole = (do let v ← whole; standAt a.pos; holding [v] (truthy v))) : DT T W X a (trM m) := by
  refine pt_imp (pt_truth ha he) fun σ H Q h => ?_
  obtain ⟨env, P, RR, h⟩ := h
  refine ⟨env, P, RR, After.mono h.bind fun d env1 P1 H1 R1 F1 h1 x kx nx => ?_⟩
  cases e : truth d with
  | none => rw [e] at h1; exact False.elim h1
  | some t =>
    rw [e] at h1
    exact ⟨t, truV hK R1.sub (kx.rdb R1) e, h1.here R1 (Fr.refl _ _ _ _)⟩
def DW (T : Tab) (W : WX) (X : Cx) (e : Expr) (m : MT) : Prop := PW X e (rdT T W m)
theorem dw_and1 (h : DT T W X a ta) : DW T W X (.BoolOp .And [a] pos) ta := pw_and1 h
theorem dw_or1 (h : DT T W X a ta) : DW T W X (.BoolOp .Or [a] pos) ta := pw_or1 h
theorem dw_and (h : DT T W X a ta) (h' : DW T W X (.BoolOp .And (b :: rest) pos) tb) : DW T W X (.BoolOp .And (a :: b :: rest) pos) (andT ta tb) := by
  refine pw_imp (pw_and h h') fun σ H Q h => ?_
  obtain ⟨env, P, RR, h⟩ := h
  refine ⟨env, P, RR, After.mono h.bind fun d env1 P1 H1 R1 F1 h1 => ?_⟩
  cases d with
  | true => exact iteT ⟨env1, P1, R1, h1⟩
  | false => exact iteF (h1.here R1 (Fr.refl _ _ _ _))
theorem dw_or (h : DT T W X a ta) (h' : DW T W X (.BoolOp .Or (b :: rest) pos) tb) : DW T W X (.BoolOp .Or (a :: b :: rest) pos) (orT ta tb) := by
  refine pw_imp (pw_or h h') fun σ H Q h => ?_
  obtain ⟨env, P, RR, h⟩ := h
  refine ⟨env, P, RR, After.mono h.bind fun d env1 P1 H1 R1 F1 h1 => ?_⟩
  cases d with
  | true => exact iteT (h1.here R1 (Fr.refl _ _ _ _))
  | false => exact iteF ⟨env1, P1, R1, h1⟩
theorem dt_w (h : DW T W X a ta) : DT T W X a ta := PW.pt h
theorem dt_not (h : DT T W X a ta) : DT T W X (.UnaryOp .Not a pos) (notT ta) := by
  refine pt_imp (pt_not h) fun σ H Q h => ?_
  obtain ⟨env, P, RR, h⟩ := h
  exact ⟨env, P, RR, After.mono h.bind fun d env1 P1 H1 R1 F1 h1 => h1.here R1 (Fr.refl _ _ _ _)⟩
theorem de_ifExp (hc : DT T W X c tc) (ha : DE T W X a k ma) (hb : DE T W X b k mb) : DE T W X (.IfExp c a b pos) k (ifM tc ma mb) := by
  refine pe_imp (pe_ifExp hc ha hb) fun σ H Q h => ?_
  obtain ⟨env, P, RR, h⟩ := h
  refine ⟨env, P, RR, After.mono h.bind fun d env1 P1 H1 R1 F1 h1 => ?_⟩
  have nb : ∀ {m : M}, After T W σ env1 P1 H1 (m env1) (fun d env' P' H' => ∀ x, KRep T k env' σ P' H' d x → NewV k H x → Q x H') → rdE T W k m σ H1 Q :=
    fun z => ⟨env1, P1, R1, After.mono z fun _ _ _ _ _ _ q x kx nx => q x kx (nx.back F1)⟩
  cases d with
  | true => exact iteT (nb h1)
  | false => exact iteF (nb h1)
def andV (ma mb : M) : M := fun env => (ma env).bind fun d e => match d with | .bl true => mb e | .bl false => .ok (.bl false) e | _ => .stk
def orV (ma mb : M) : M := fun env => (ma env).bind fun d e => match d with | .bl true => .ok (.bl true) e | .bl false => mb e | _ => .stk
def notV (ma : M) : M := fun env => (ma env).bind fun d e => match d with | .bl b => .ok (.bl (!b)) e | _ => .stk
theorem de_and (h : DE T W X a ka ma) (h' : DE T W X (.BoolOp .And (b :: rest) pos) .pure mb) : DE T W X (.BoolOp .And (a :: b :: rest) pos) .pure (andV ma mb) := by
  refine pe_imp (pe_and h h') fun σ H Q h => ?_
  obtain ⟨env, P, RR, h⟩ := h
  refine ⟨env, P, RR, After.mono h.bind fun d env1 P1 H1 R1 F1 h1 x kx nx => ?_⟩
  cases d with
  | bl c =>
    refine ⟨c, (kx.rdb R1).blE, ?_⟩
    cases c with
    | true => exact iteT ⟨env1, P1, R1, After.mono h1 fun _ _ _ _ _ _ q x kx nx => q x kx trivial⟩
    | false => exact iteF (h1.here R1 (Fr.refl _ _ _ _) _ (show Rep T P1 _ _ from rep_bl) trivial)
  | _ => exact False.elim h1
theorem de_one {op : BoolOp} (h : DE T W X a k m) : DE T W X (.BoolOp op [a] pos) k m := pe_one h
theorem de_notV (h : DE T W X a ka ma) : DE T W X (.UnaryOp .Not a pos) .pure (notV ma) := by
  refine pe_imp (pe_not h) fun σ H Q h => ?_
  obtain ⟨env, P, RR, h⟩ := h
  refine ⟨env, P, RR, After.mono h.bind fun d env1 P1 H1 R1 F1 h1 x kx nx => ?_⟩
  cases d with
  | bl c => exact ⟨c, (kx.rdb R1).blE, h1.here R1 (Fr.refl _ _ _ _) _ (show Rep T P1 _ _ from rep_bl) trivial⟩
  | _ => exact False.elim h1
end
def argsM : List M → Env → R (List D)
  | [], env => .ok [] env
  | m :: ms, env => (m env).bind fun d e1 => (argsM ms e1).bind fun ds e2 => .ok (d :: ds) e2
inductive KReps (T : Tab) (env : Env) (σ : St) (P H : Hp) : List Kd → List D → List V → Prop where
  | nil : KReps T env σ P H [] [] []
  | cons {k : Kd} {ks : List Kd} {d : D} {ds : List D} {x : V} {xs : List V} : KRep T k env σ P H d x → KReps T env σ P H ks ds xs → KReps T env σ P H (k :: ks) (d :: ds) (x :: xs)
def rdA (T : Tab) (W : WX) (ks : List Kd) (ms : List M) : TA := fun σ H Q => ∃ env P, Rel T env σ P H ∧ After T W σ env P H (argsM ms env) (fun ds env' P' H' => ∀ xs, KReps T env' σ P' H' ks ds xs → Q xs H')
def DA (T : Tab) (W : WX) (X : Cx) (es : List Expr) (ks : List Kd) (ms : List M) : Prop := PA X es (rdA T W ks ms)
section
variable {T : Tab} {W : WX} {X : Cx} {a b c e : Expr} {es : List Expr} {k : Kd} {ks : List Kd} {m : M} {ms : List M} {pos : Pos} {env env' : Env} {σ : St} {P H P' H' : Hp} {x : V}
theorem da_nil : DA T W X [] [] [] := by
  refine pa_imp pa_nil fun σ H Q h => ?_
  obtain ⟨env, P, RR, h⟩ := h
  exact h.here RR (Fr.refl _ _ _ _) _ .nil
theorem da_cons (h : DE T W X e k m) (h' : DA T W X es ks ms) (hs : Steady k (argsM ms) := by trivial) (hst : starEach (e :: es) X.env = (false, eval e X.env) :: starEach es X.env := by rfl) : DA T W X (e :: es) (k :: ks) (m :: ms) := by
  refine pa_imp (pa_cons h h' hst) fun σ H Q h => ?_
  obtain ⟨env, P, RR, h⟩ := h
  refine ⟨env, P, RR, After.at h.bind fun d env1 P1 H1 _ R1 F1 h1 x kx nx => ?_⟩
  refine ⟨env1, P1, R1, After.at h1.bind fun ds env2 P2 H2 e2 R2 F2 h2 xs kxs => ?_⟩
  exact h2.here R2 (Fr.refl _ _ _ _) _ (.cons (kx.carry F2 (hs.use e2)) kxs)
theorem KReps.rdbs (R1 : Rel T env σ P H) : ∀ {ks : List Kd} {ds : List D} {xs : List V}, KReps T env σ P H ks ds xs → Rdbs T P H ds xs
  | _, _, _, .nil => .nil
  | _, _, _, .cons h t => .cons (h.rdb R1) (KReps.rdbs R1 t)
theorem KReps.pures : ∀ {ks : List Kd} {ds : List D} {xs : List V}, KReps T env σ P H ks ds xs → (∀ k ∈ ks, k = .pure) → Reps T P ds xs
  | _, _, _, .nil, _ => Reps.nil
  | _, _, _, .cons h t, hp => by
    have e := hp _ List.mem_cons_self
    subst e
    exact Reps.cons h (t.pures fun k hk => hp k (List.mem_cons_of_mem _ hk))
theorem pures_nil : ∀ k ∈ ([] : List Kd), k = .pure := fun _ h => nomatch h
theorem pures_cons {ks : List Kd} (h : ∀ k ∈ ks, k = .pure) : ∀ k ∈ (Kd.pure :: ks), k = .pure := fun k hk => by
  rcases List.mem_cons.mp hk with e | e
  · exact e
  · exact h k e
def CallD (T : Tab) (r : List V → Hp → VK → Prop) (k : Kd) (g : List D → Option D) : Prop :=
  ∀ (env : Env) (σ : St) (P H : Hp) (ds : List D) (xs : List V) (d : D) (Q : VK), Rel T env σ P H → Rdbs T P H ds xs → g ds = some d →
    (∀ v P' H', Rel T env σ P' H' → Fr env σ P H env σ P' H' → KRep T k env σ P' H' d v → NewV k H v → Q v H') → r xs H Q
def callM (g : List D → Option D) (ms : List M) : M := fun env => (argsM ms env).bind fun ds e => liftO (g ds) e
theorem rd_call {r : List V → Hp → VK → Prop} {g : List D → Option D} (hD : CallD T r k g) {σ : St} {H : Hp} {Q : VK} (h : rdE T W k (callM g ms) σ H Q) : tCB r (rdA T W ks ms) σ H Q := by
  obtain ⟨env, P, RR, h⟩ := h
  refine ⟨env, P, RR, After.at h.bind fun ds env1 P1 H1 _ R1 F1 h1 xs kxs => ?_⟩
  cases e : g ds with
  | none => rw [e] at h1; exact False.elim h1
  | some d =>
    rw [e] at h1
    exact hD env1 σ P1 H1 ds xs d Q R1 (kxs.rdbs R1) e fun v P' H' R' F' kv nv => h1 P' H' R' F' v kv (nv.back F1)
theorem de_callB {x : Str} {id : String} {p : Pos} {r : List V → Hp → VK → Prop} {g : List D → Option D} (hc : CallR X (.builtin id) r) (hD : CallD T r k g) (hg : Gl X x) (hm : X.mg x = none) (hv : bootBuiltins x = some (.builtin id)) (ha : DA T W X (e :: es) ks ms)
    (hn : x ≠ "__name__" := by decide) (hdb : (x == ("__debug__" : Str)) = false := by decide) (he : starEach (e :: es) X.env = (false, eval e X.env) :: starEach es X.env := by rfl) (hpl : (backTo pos (starEach es X.env)).any (·.1) = false := by rfl) : DE T W X (.Call (.Name x p) (e :: es) [] pos) k (callM g ms) :=
  pe_imp (pe_callB hc hg hm hv ha hn hdb he hpl) fun _ _ _ h => rd_call hD h
theorem de_callTy {x : Str} {id : String} {p : Pos} {r : List V → Hp → VK → Prop} {g : List D → Option D} (hc : CallR X (.type id) r) (hD : CallD T r k g) (hg : Gl X x) (hm : X.mg x = none) (hv : bootBuiltins x = some (.type id)) (ha : DA T W X (e :: es) ks ms)
    (hn : x ≠ "__name__" := by decide) (hdb : (x == ("__debug__" : Str)) = false := by decide) (he : starEach (e :: es) X.env = (false, eval e X.env) :: starEach es X.env := by rfl) (hpl : (backTo pos (starEach es X.env)).any (·.1) = false := by rfl) : DE T W X (.Call (.Name x p) (e :: es) [] pos) k (callM g ms) :=
  pe_imp (pe_callTy hc hg hm hv ha hn hdb he hpl) fun _ _ _ h => rd_call hD h
def tupM (ms : List M) : M := fun env => (argsM ms env).bind fun ds e => if ds.length ≤ sizeLine then .ok (.tup ds) e else .stk
def lstM (ms : List M) : M := fun env => (argsM ms env).bind fun ds e => if ds.length ≤ sizeLine then .ok (.lst ds) e else .stk
theorem de_tup {x1 : Nat} (h : DA T W X es ks ms) (hp : ∀ k ∈ ks, k = Kd.pure) : DE T W X (.Tuple es x1 pos) .pure (tupM ms) := by
  refine pe_imp (pe_tup h) fun σ H Q h => ?_
  obtain ⟨env, P, RR, h⟩ := h
  refine ⟨env, P, RR, After.at h.bind fun ds env1 P1 H1 _ R1 F1 h1 xs kxs => ?_⟩
  have rs := kxs.pures hp
  by_cases hl : ds.length ≤ sizeLine
  · rw [if_pos hl] at h1
    refine ⟨by rw [rs.length]; exact hl, fun p hp => ?_⟩
    obtain ⟨R2, F2⟩ := R1.newP (o := .tup xs) hp
    exact h1 _ _ R2 F2 _ (rep_tup upd_same (Reps.sub F2.mono _ _ rs)) trivial
  · rw [if_neg hl] at h1; exact False.elim h1
theorem de_lst (h : DA T W X es ks ms) (hp : ∀ k ∈ ks, k = Kd.pure) : DE T W X (.List es pos) .fresh (lstM ms) := by
  refine pe_imp (pe_lst h) fun σ H Q h => ?_
  obtain ⟨env, P, RR, h⟩ := h
  refine ⟨env, P, RR, After.at h.bind fun ds env1 P1 H1 _ R1 F1 h1 xs kxs => ?_⟩
  have rs := kxs.pures hp
  by_cases hl : ds.length ≤ sizeLine
  · rw [if_pos hl] at h1
    refine ⟨by rw [rs.length]; exact hl, fun p hp => ?_⟩
    obtain ⟨R2, F2, no, pn⟩ := R1.newF (o := .lst xs) hp
    exact h1 _ _ R2 F2 _ ⟨p, xs, ds, rfl, upd_same, pn, no, rs, rfl⟩ (NewV.back (k := .fresh) F1 ⟨p, rfl, hp⟩)
  · rw [if_neg hl] at h1; exact False.elim h1
end
end Ue
set_option linter.all false
set_option Elab.async false
set_option maxRecDepth 100000
set_option maxHeartbeats 4000000
namespace Ue
open PySem L2
mutual
def toPy : D → Option PyData
  | .non => some .none
  | .bl b => some (.bool b)
  | .int i => some (.int i)
  | .str s => some (.str s)
  | .tup ds => (toPys ds).map .tuple
  | .lst ds => (toPys ds).map .list
  | .obj _ _ => none
  | .scr _ => none
  | .dct _ => none
  | .tpx _ => none
def toPys : List D → Option (List PyData)
  | [] => some []
  | d :: ds => match toPy d, toPys ds with
    | some p, some ps => some (p :: ps)
    | _, _ => none
end
section
variable {T : Tab} {P H : Hp}
mutual
theorem dp_of (R1 : PSub P H) : ∀ (d : D) (x : V) (p : PyData), Rep T P d x → toPy d = some p → Dp T.K H x p
  | .non, x, p, h, e => by rw [Rep] at h; cases e; subst h; exact .non
  | .bl b, x, p, h, e => by rw [Rep] at h; cases e; subst h; exact .bl b
  | .int i, x, p, h, e => by rw [Rep] at h; cases e; subst h; exact .int i
  | .str s, x, p, h, e => by rw [Rep] at h; cases e; subst h; exact .str s
  | .tup ds, x, p, h, e => by
    rw [Rep] at h
    obtain ⟨a, vs, rfl, h1, h2⟩ := h
    rw [toPy] at e
    cases q : toPys ds with
    | none => rw [q] at e; cases e
    | some ps => rw [q] at e; cases e; exact .tup (sqT_sub R1 h1) (dps_of R1 ds vs ps h2 q)
  | .lst ds, x, p, h, e => by
    rw [Rep] at h
    obtain ⟨a, vs, rfl, h1, h2⟩ := h
    rw [toPy] at e
    cases q : toPys ds with
    | none => rw [q] at e; cases e
    | some ps => rw [q] at e; cases e; exact .lst (.inl (Rd.sub R1 h1)) (dps_of R1 ds vs ps h2 q)
  | .obj c ds, x, p, h, e => by rw [toPy] at e; cases e
  | .scr ns, x, p, h, e => by rw [toPy] at e; cases e
  | .dct _, x, p, h, e => by rw [toPy] at e; cases e
  | .tpx _, x, p, h, e => by rw [toPy] at e; cases e
theorem dps_of (R1 : PSub P H) : ∀ (ds : List D) (xs : List V) (ps : List PyData), Reps T P ds xs → toPys ds = some ps → DpAll T.K H xs ps
  | [], xs, ps, h, e => by rw [Reps] at h; rw [toPys] at e; cases e; subst h; exact .nil
  | d :: ds, xs, ps, h, e => by
    rw [Reps] at h
    obtain ⟨v, r, rfl, h1, h2⟩ := h
    rw [toPys] at e
    cases q1 : toPy d with
    | none => rw [q1] at e; cases e
    | some p =>
      cases q2 : toPys ds with
      | none => rw [q1, q2] at e; cases e
      | some qs => rw [q1, q2] at e; cases e; exact .cons (dp_of R1 d v p h1 q1) (dps_of R1 ds r qs h2 q2)
end
theorem Rdb.dp {d : D} {x : V} {p : PyData} (R1 : PSub P H) (h : Rdb T P H d x) (e : toPy d = some p) : Dp T.K H x p := by
  rcases h with h | ⟨a, vs, ds, rfl, h1, h2, rfl⟩
  · exact dp_of R1 d x p h e
  · rw [toPy] at e
    cases q : toPys ds with
    | none => rw [q] at e; cases e
    | some ps => rw [q] at e; cases e; exact .lst (.of h1) (dps_of R1 ds vs ps h2 q)
end
def eqD (a b : D) : Option Bool := match toPy a, toPy b with
  | some p, some q => if SeqAt.shaped p = true ∧ SeqAt.shaped q = true then some (PyData.eqv p q) else none
  | _, _ => none
def neD (a b : D) : Option Bool := (eqD a b).map (!·)
def inD (a b : D) : Option Bool := match toPy a, toPy b with
  | some p, some (.list qs) => if SeqAt.shaped p = true ∧ SeqAt.shaped (.list qs) = true then some (qs.any fun z => PyData.eqv z p) else none
  | _, _ => none
def notInD (a b : D) : Option Bool := (inD a b).map (!·)
section
variable {T : Tab}
theorem eqD_some {a b : D} {t : Bool} (h : eqD a b = some t) : ∃ p q, toPy a = some p ∧ toPy b = some q ∧ SeqAt.shaped p = true ∧ SeqAt.shaped q = true ∧ t = PyData.eqv p q := by
  unfold eqD at h
  cases ea : toPy a with
  | none => rw [ea] at h; cases h
  | some p =>
    cases eb : toPy b with
    | none => rw [ea, eb] at h; cases h
    | some q =>
      rw [ea, eb] at h
      have h : (if SeqAt.shaped p = true ∧ SeqAt.shaped q = true then some (PyData.eqv p q) else none) = some t := h
      by_cases c : SeqAt.shaped p = true ∧ SeqAt.shaped q = true
      · rw [if_pos c] at h; cases h; exact ⟨p, q, rfl, rfl, c.1, c.2, rfl⟩
      · rw [if_neg c] at h; cases h
theorem cd_eqD : CmpD T (rEqD T.K) eqD := fun P H dx dy x y b Q R1 hx hy e q => by
  obtain ⟨p, r, e1, e2, s1, s2, rfl⟩ := eqD_some e
  exact ⟨p, r, hx.dp R1 e1, hy.dp R1 e2, s1, s2, q⟩
theorem cd_neD : CmpD T (rNeD T.K) neD := fun P H dx dy x y b Q R1 hx hy e q => by
  unfold neD at e
  cases c : eqD dx dy with
  | none => rw [c] at e; cases e
  | some t =>
    rw [c] at e
    obtain ⟨p, r, e1, e2, s1, s2, rfl⟩ := eqD_some c
    cases e
    exact ⟨p, r, hx.dp R1 e1, hy.dp R1 e2, s1, s2, q⟩
end
def i2c (c : Int → Int → Bool) (f : Int → Int → D) (a b : D) : Option D := match a, b with | .int i, .int j => if c i j then some (f i j) else none | _, _ => none
section
variable {T : Tab}
theorem od_i2 {f : Int → Int → Int} : OpD T (rI0 fun i j => .int (f i j)) .pure (i2 fun i j => .int (f i j)) := fun env σ P H dx dy x y d Q R1 hx hy e k => by
  cases dx with
  | int i =>
    cases dy with
    | int j => cases e; exact ⟨i, j, hx.intE, hy.intE, k _ P H R1 (Fr.refl _ _ _ _) (show Rep T P _ _ from rep_int) trivial⟩
    | _ => cases e
  | _ => cases e
theorem od_i2c {c : Int → Int → Bool} {C : Int → Int → Prop} {f : Int → Int → Int} (hc : ∀ i j, c i j = true → C i j) : OpD T (rI C fun i j => .int (f i j)) .pure (i2c c fun i j => .int (f i j)) := fun env σ P H dx dy x y d Q R1 hx hy e k => by
  cases dx with
  | int i =>
    cases dy with
    | int j =>
      have e : (if c i j then some (D.int (f i j)) else none) = some d := e
      by_cases z : c i j = true
      · rw [if_pos z] at e; cases e
        exact ⟨i, j, hx.intE, hy.intE, hc i j z, k _ P H R1 (Fr.refl _ _ _ _) (show Rep T P _ _ from rep_int) trivial⟩
      · rw [if_neg z] at e; cases e
    | _ => cases e
  | _ => cases e
theorem cd_c2 {f : Int → Int → Bool} : CmpD T (rI0 fun i j => .bl (f i j)) (c2 f) := fun P H dx dy x y b Q R1 hx hy e q => by
  cases dx with
  | int i =>
    cases dy with
    | int j => cases e; exact ⟨i, j, hx.intE, hy.intE, q⟩
    | _ => cases e
  | _ => cases e
def eqS (a b : D) : Option Bool := match a, b with
  | .int i, .int j => some (decide (i = j))
  | .str i, .str j => some (decide (i = j))
  | .bl i, .bl j => some (decide (i = j))
  | .non, .non => some true
  | .non, .int _ => some false | .int _, .non => some false | .non, .bl _ => some false | .bl _, .non => some false | .non, .str _ => some false | .str _, .non => some false
  | .int _, .str _ => some false | .str _, .int _ => some false | .bl _, .str _ => some false | .str _, .bl _ => some false
  | _, _ => none
def neS (a b : D) : Option Bool := (eqS a b).map (!·)
theorem eqS_some {P H : Hp} {dx dy : D} {x y : V} {b : Bool} (hx : Rdb T P H dx x) (hy : Rdb T P H dy y) (e : eqS dx dy = some b) : scal x y = true ∧ decide (x = y) = b := by
  cases dx <;> cases dy <;> (try cases e) <;> (first | rw [hx.intE] | rw [hx.strE] | rw [hx.blE] | rw [hx.nonE]) <;> (first | rw [hy.intE] | rw [hy.strE] | rw [hy.blE] | rw [hy.nonE]) <;> refine ⟨rfl, ?_⟩ <;> simp
theorem cd_eqS : CmpD T rEq eqS := fun P H dx dy x y b Q R1 hx hy e q => by
  obtain ⟨h1, h2⟩ := eqS_some hx hy e
  exact ⟨h1, by rw [h2]; exact q⟩
theorem cd_neS : CmpD T rNe neS := fun P H dx dy x y b Q R1 hx hy e q => by
  unfold neS at e
  cases c : eqS dx dy with
  | none => rw [c] at e; cases e
  | some t =>
    rw [c] at e; cases e
    obtain ⟨h1, h2⟩ := eqS_some hx hy c
    exact ⟨h1, by rw [h2]; exact q⟩
def isN (a b : D) : Option Bool := match b with
  | .non => (match a with | .non => some true | .bl _ => some false | .int _ => some false | .str _ => some false | .tup _ => some false | .lst _ => some false | .obj _ _ => some false | .scr _ => some false | .dct _ => some false | .tpx _ => none)
  | _ => none
def notN (a b : D) : Option Bool := (isN a b).map (!·)
theorem Rdb.dctE {P H : Hp} {x : V} {kvs : List (Key × V)} (R : PSub P H) (h : Rdb T P H (.dct kvs) x) : ∃ a, x = .ref a ∧ H a = some (.dK kvs) := by
  rcases h with h | ⟨_, _, _, _, _, _, h⟩
  · rw [Rep] at h
    obtain ⟨a, e, h1⟩ := h
    exact ⟨a, e, R _ _ h1⟩
  · cases h
theorem Rdb.refD {P H : Hp} {x : V} {kvs : List (Key × V)} (h : Rdb T P H (.dct kvs) x) : ∃ a, x = .ref a := by
  rcases h with h | ⟨_, _, _, _, _, _, h⟩
  · rw [Rep] at h
    obtain ⟨a, e, h1⟩ := h
    exact ⟨a, e⟩
  · cases h
theorem isN_some {P H : Hp} {dx dy : D} {x y : V} {b : Bool} (hx : Rdb T P H dx x) (hy : Rdb T P H dy y) (e : isN dx dy = some b) : y = .non ∧ decide (x = .non) = b := by
  cases dy with
  | non =>
    refine ⟨hy.nonE, ?_⟩
    cases dx with
    | non => rw [hx.nonE]; cases e; rfl
    | bl i => rw [hx.blE]; cases e; rfl
    | int i => rw [hx.intE]; cases e; rfl
    | str i => rw [hx.strE]; cases e; rfl
    | tup ds => obtain ⟨a, rfl⟩ := hx.ref (.inl ⟨_, rfl⟩); cases e; rfl
    | lst ds => obtain ⟨a, rfl⟩ := hx.ref (.inr (.inl ⟨_, rfl⟩)); cases e; rfl
    | scr ns => obtain ⟨a, rfl⟩ := hx.ref (.inr (.inr (.inl ⟨_, rfl⟩))); cases e; rfl
    | obj c ds => obtain ⟨a, rfl⟩ := hx.ref (.inr (.inr (.inr ⟨_, _, rfl⟩))); cases e; rfl
    | dct kvs => obtain ⟨a, rfl⟩ := hx.refD; cases e; rfl
    | tpx ds => cases e
  | _ => cases e
theorem cd_isN : CmpD T (fun x y H Q => y = .non ∧ Q (.bl (decide (x = .non))) H) isN := fun P H dx dy x y b Q R1 hx hy e q => by
  obtain ⟨h1, h2⟩ := isN_some hx hy e
  exact ⟨h1, by rw [h2]; exact q⟩
theorem cd_notN : CmpD T (fun x y H Q => y = .non ∧ Q (.bl (!decide (x = .non))) H) notN := fun P H dx dy x y b Q R1 hx hy e q => by
  unfold notN at e
  cases c : isN dx dy with
  | none => rw [c] at e; cases e
  | some t =>
    rw [c] at e; cases e
    obtain ⟨h1, h2⟩ := isN_some hx hy c
    exact ⟨h1, by rw [h2]; exact q⟩
def isB (a b : D) : Option Bool := match a, b with | .bl i, .bl j => some (decide (i = j)) | _, _ => none
def notB (a b : D) : Option Bool := (isB a b).map (!·)
def u1 (f : Int → D) (a : D) : Option D := match a with | .int i => some (f i) | _ => none
theorem ud_u1 {f : Int → Int} : UnD T (rU fun i => .int (f i)) .pure (u1 fun i => .int (f i)) := fun env σ P H dx x d Q R1 hx e k => by
  cases dx with
  | int i => cases e; exact ⟨i, hx.intE, k _ P H R1 (Fr.refl _ _ _ _) (show Rep T P _ _ from rep_int) trivial⟩
  | _ => cases e
end
def small64 (i : Int) : Bool := decide (i.natAbs < 18446744073709551616)
def mulOk (i j : Int) : Bool := small64 i || small64 j || decide (i.natAbs.log2 + j.natAbs.log2 < 100000000)
def powOk (i j : Int) : Bool := decide (0 ≤ j) && decide (j ≤ 1000000) && small64 i
theorem mulOk_ok {i j : Int} (h : mulOk i j = true) : IntMulOk i j := by
  unfold mulOk small64 at h
  rcases Bool.or_eq_true_iff.mp h with h | h
  · have hm : CMul i j := by
      rcases Bool.or_eq_true_iff.mp h with h | h
      · have := of_decide_eq_true h; exact .inl (by omega)
      · have := of_decide_eq_true h; exact .inr (by omega)
    exact hm.ok
  · have b : ∀ x : Int, Builtin.Int.intBits x ≤ x.natAbs.log2 + 1 := fun x => by
      unfold Builtin.Int.intBits
      split <;> omega
    have h1 := b i
    have h2 := b j
    have h3 := of_decide_eq_true h
    refine CMulX.ok ?_
    unfold CMulX
    omega
def divOk (i j : Int) : Bool := decide (j ≠ 0) && (small64 j || !Builtin.divisionGoesByPylong i j)
theorem log2_64 {n : Nat} (h : n < 18446744073709551616) : n.log2 < 9000 := by
  by_cases h0 : n = 0
  · rw [h0]; decide +kernel
  · rw [Nat.log2_lt h0]; exact Nat.lt_of_lt_of_le h (by rw [show (18446744073709551616 : Nat) = 2 ^ 64 by decide]; exact Nat.pow_le_pow_right (by decide) (by decide))
theorem divOk_ok {i j : Int} (h : divOk i j = true) : j ≠ 0 ∧ Builtin.divisionGoesByPylong i j = false := by
  unfold divOk at h
  obtain ⟨h1, h2⟩ := Bool.and_eq_true_iff.mp h
  refine ⟨of_decide_eq_true h1, ?_⟩
  rcases Bool.or_eq_true_iff.mp h2 with q | q
  · exact PyProof.noPylong_of_log2 (log2_64 (of_decide_eq_true q))
  · simpa using q
section
variable {X : Cx} {T : Tab}
theorem op_mulA : OpR X (binaryOp .Mult) (rI (fun i j => mulOk i j = true) fun i j => .int (i * j)) := opI fun _ _ _ _ _ _ _ hc q => PyProof.Rows.mul_int q (mulOk_ok hc)
theorem op_fdivA : OpR X (binaryOp .FloorDiv) (rI (fun i j => divOk i j = true) fun i j => .int (i.fdiv j)) := opI fun i j _ _ _ _ _ hc q => by
  obtain ⟨h1, h2⟩ := divOk_ok hc
  exact PyProof.Rows.floordiv_int h1 q (.inl h2)
abbrev addI := i2 fun i j => .int (i + j)
abbrev subI := i2 fun i j => .int (i - j)
abbrev mulI := i2c mulOk fun i j => .int (i * j)
abbrev fdivI := i2c divOk fun i j => .int (i.fdiv j)
abbrev modI := i2c (fun _ j => decide (j ≠ 0)) fun i j => .int (i.fmod j)
abbrev powI := i2c powOk fun i j => .int (i ^ j.toNat)
def shlOk (i j : Int) : Bool := decide (0 ≤ j) && decide ((Builtin.Int.intBits i : Int) + j ≤ 2 ^ 27)
abbrev shlI := i2c shlOk fun i j => .int (i * 2 ^ j.toNat)
abbrev shrI := i2c (fun _ j => decide (0 ≤ j)) fun i j => .int (i / 2 ^ j.toNat)
abbrev andI := i2 fun i j => .int (Builtin.bitAnd i j)
abbrev orI := i2 fun i j => .int (Builtin.bitOr i j)
theorem od_add : OpD T (rI0 fun i j => .int (i + j)) .pure addI := od_i2
theorem od_sub : OpD T (rI0 fun i j => .int (i - j)) .pure subI := od_i2
theorem od_mul : OpD T (rI (fun i j => mulOk i j = true) fun i j => .int (i * j)) .pure mulI := od_i2c fun _ _ h => h
theorem od_fdiv : OpD T (rI (fun i j => divOk i j = true) fun i j => .int (i.fdiv j)) .pure fdivI := od_i2c fun _ _ h => h
theorem od_mod : OpD T (rI (fun _ j => j ≠ 0) fun i j => .int (i.fmod j)) .pure modI := od_i2c fun _ _ h => of_decide_eq_true h
theorem od_pow : OpD T (rI CPow fun i j => .int (i ^ j.toNat)) .pure powI := od_i2c fun i j h => by
  unfold powOk small64 at h
  obtain ⟨h1, h2⟩ := Bool.and_eq_true_iff.mp h
  obtain ⟨h3, h4⟩ := Bool.and_eq_true_iff.mp h1
  exact ⟨of_decide_eq_true h3, of_decide_eq_true h4, by simpa using of_decide_eq_true h2⟩
theorem od_shl : OpD T (rI CShl fun i j => .int (i * 2 ^ j.toNat)) .pure shlI := od_i2c fun i j h => by
  unfold shlOk at h
  obtain ⟨h1, h2⟩ := Bool.and_eq_true_iff.mp h
  exact ⟨of_decide_eq_true h1, of_decide_eq_true h2⟩
theorem od_shr : OpD T (rI (fun _ j => 0 ≤ j) fun i j => .int (i / 2 ^ j.toNat)) .pure shrI := od_i2c fun _ _ h => of_decide_eq_true h
theorem od_and : OpD T (rI0 fun i j => .int (Builtin.bitAnd i j)) .pure andI := od_i2
theorem od_or : OpD T (rI0 fun i j => .int (Builtin.bitOr i j)) .pure orI := od_i2
abbrev negI := u1 fun i => .int (-i)
theorem ud_neg : UnD T (rU fun i => .int (-i)) .pure negI := ud_u1
abbrev ltI := c2 fun i j => decide (i < j)
abbrev leI := c2 fun i j => decide (i ≤ j)
abbrev gtI := c2 fun i j => decide (j < i)
abbrev geI := c2 fun i j => decide (j ≤ i)
def addS (a b : D) : Option D := match a, b with | .str i, .str j => if i.length + j.length ≤ sizeLine then some (.str (i ++ j)) else none | _, _ => none
theorem od_addS : OpD T (fun x y H Q => ∃ i j, x = .str i ∧ y = .str j ∧ i.length + j.length ≤ sizeLine ∧ Q (.str (i ++ j)) H) .pure addS := fun env σ P H dx dy x y d Q R1 hx hy e k => by
  cases dx with
  | str i =>
    cases dy with
    | str j =>
      have e : (if i.length + j.length ≤ sizeLine then some (D.str (i ++ j)) else none) = some d := e
      by_cases z : i.length + j.length ≤ sizeLine
      · rw [if_pos z] at e; cases e
        exact ⟨i, j, hx.strE, hy.strE, z, k _ P H R1 (Fr.refl _ _ _ _) (show Rep T P _ _ from rep_str) trivial⟩
      · rw [if_neg z] at e; cases e
    | _ => cases e
  | _ => cases e
end
end Ue
set_option linter.all false
set_option Elab.async false
set_option maxRecDepth 100000
set_option maxHeartbeats 4000000
namespace Ue
open PySem L2
section
variable {X : Cx} {T : Tab}
def rCatL : R2 := fun x y H Q => ∃ (l b : Addr) (xs zs : List V), x = .ref l ∧ y = .ref b ∧ (Rd H l (.lst xs) ∧ Rd H b (.lst zs)) ∧ (xs.length + zs.length ≤ sizeLine ∧ ∀ p, H p = none → Q (.ref p) (upd H p (.lst (xs ++ zs))))
theorem op_catL : OpR X (binaryOp .Add) rCatL := fun pins s σ H x y v u Q I rx ry h => by
  obtain ⟨l, b, xs, zs, ex, ey, ⟨h1, h2⟩, hz, q⟩ := h
  subst ex ey
  obtain ⟨_, us, n1, r1, p1⟩ := h1.ok I.hok
  obtain ⟨_, ws, n2, r2, p2⟩ := h2.ok I.hok
  have l1 := r1.length
  have l2 := r2.length
  have v1 : v = .ref l := rx
  have v2 : u = .ref b := ry
  subst v1 v2
  refine P.add_list p1 p2 ?_ (by simp only [List.size_toArray]; omega)
  have w : us.toArray ++ ws.toArray = (us ++ ws).toArray := by simp only [List.append_toArray]
  rw [w]
  exact ⟨.ref _, _, I.lnew (t' := s.toks) (r1.append r2) (by simp only [List.length_append]; omega), rfl, q _ I.fresh⟩
def catL (a b : D) : Option D := match a, b with | .lst i, .lst j => if i.length + j.length ≤ sizeLine then some (.lst (i ++ j)) else none | _, _ => none
theorem od_catL : OpD T rCatL .fresh catL := fun env σ P H dx dy x y d Q R1 hx hy e k => by
  cases dx with
  | lst i =>
    cases dy with
    | lst j =>
      have e : (if i.length + j.length ≤ sizeLine then some (D.lst (i ++ j)) else none) = some d := e
      by_cases z : i.length + j.length ≤ sizeLine
      · rw [if_pos z] at e; cases e
        obtain ⟨a, vs, rfl, h1, h2⟩ := hx.lstE R1.sub
        obtain ⟨b, ws, rfl, h3, h4⟩ := hy.lstE R1.sub
        refine ⟨a, b, vs, ws, rfl, rfl, ⟨h1, h3⟩, by rw [h2.length, h4.length]; exact z, fun p hp => ?_⟩
        obtain ⟨R2, F2, no, pn⟩ := R1.newF (o := .lst (vs ++ ws)) hp
        exact k _ _ _ R2 F2 ⟨p, _, _, rfl, upd_same, pn, no, h2.append h4, rfl⟩ ⟨p, rfl, hp⟩
      · rw [if_neg z] at e; cases e
    | _ => cases e
  | _ => cases e
def repL (a b : D) : Option D := match a, b with | .lst i, .int k => if -(2 ^ 63) ≤ k ∧ k < 2 ^ 63 ∧ i.length * k.toNat ≤ sizeLine then some (.lst (List.replicate k.toNat i).flatten) else none | _, _ => none
theorem Reps.replicate {P : Hp} {ds : List D} {vs : List V} (h : Reps T P ds vs) : ∀ n, Reps T P (List.replicate n ds).flatten (List.replicate n vs).flatten
  | 0 => Reps.nil
  | n + 1 => by
    rw [List.replicate_succ, List.replicate_succ, List.flatten_cons, List.flatten_cons]
    exact h.append (Reps.replicate h n)
end
section
variable {T : Tab}
def lenD : List D → Option D
  | [.lst ds] => some (.int ds.length)
  | [.tup ds] => some (.int ds.length)
  | [.scr ns] => some (.int ns.length)
  | [.str s] => if s.length ≤ sizeLine then some (.int s.length) else none
  | _ => none
theorem Rdbs.one {P H : Hp} {d : D} {xs : List V} (h : Rdbs T P H [d] xs) : ∃ x, xs = [x] ∧ Rdb T P H d x := by
  cases h with
  | cons h t => cases t; exact ⟨_, rfl, h⟩
theorem Rdbs.two {P H : Hp} {d e : D} {xs : List V} (h : Rdbs T P H [d, e] xs) : ∃ x y, xs = [x, y] ∧ Rdb T P H d x ∧ Rdb T P H e y := by
  cases h with
  | cons h t =>
    cases t with
    | cons h2 t => cases t; exact ⟨_, _, rfl, h, h2⟩
theorem cd_len : CallD T (fun xs H Q => ∃ x n, xs = [x] ∧ LenV T.K x H n ∧ Q (.int n) H) .pure lenD := fun env σ P H ds xs d Q R1 hx e k => by
  have kk : ∀ n : Int, d = .int n → Q (.int n) H := fun n h => k _ P H R1 (Fr.refl _ _ _ _) (by subst h; exact (show Rep T P _ _ from rep_int)) trivial
  match ds, hx, e with
  | [.lst es], hx, e =>
    obtain ⟨x, rfl, h0⟩ := hx.one
    obtain ⟨a, vs, rfl, h1, h2⟩ := h0.lstE R1.sub
    exact ⟨_, vs.length, rfl, .inl ⟨vs, .inl h1, rfl⟩, kk _ (by cases e; rw [h2.length])⟩
  | [.tup es], hx, e =>
    obtain ⟨x, rfl, h0⟩ := hx.one
    obtain ⟨a, vs, rfl, h1, h2⟩ := h0.tupE R1.sub
    exact ⟨_, vs.length, rfl, .inr ⟨vs, h1, rfl⟩, kk _ (by cases e; rw [h2.length])⟩
  | [.scr ns], hx, e =>
    obtain ⟨x, rfl, h0⟩ := hx.one
    obtain ⟨a, rfl, h1⟩ := h0.scrE R1.sub
    exact ⟨_, ns.length, rfl, .inl ⟨_, h1, by simp⟩, kk _ (by cases e; rfl)⟩
  | [.str z], hx, e =>
    obtain ⟨x, rfl, h0⟩ := hx.one
    have e : (if z.length ≤ sizeLine then some (D.int z.length) else none) = some d := e
    by_cases c : z.length ≤ sizeLine
    · rw [if_pos c] at e; cases e
      exact ⟨V.str z, z.length, by rw [h0.strE], ⟨c, rfl⟩, kk _ rfl⟩
    · rw [if_neg c] at e; cases e
def absD : List D → Option D | [.int i] => some (.int (if i < 0 then -i else i)) | _ => none
theorem cd_abs : CallD T (fun xs H Q => ∃ i, xs = [.int i] ∧ Q (.int (if i < 0 then -i else i)) H) .pure absD := fun env σ P H ds xs d Q R1 hx e k => by
  match ds, hx, e with
  | [.int i], hx, e =>
    obtain ⟨x, rfl, h0⟩ := hx.one
    cases e
    exact ⟨i, by rw [h0.intE], k _ P H R1 (Fr.refl _ _ _ _) (show Rep T P _ _ from rep_int) trivial⟩
def intD : List D → Option D | [.int i] => some (.int i) | [.bl b] => some (.int (if b then 1 else 0)) | _ => none
theorem cd_int : CallD T (fun xs H Q => (∃ i, xs = [.int i] ∧ Q (.int i) H) ∨ ∃ k, xs = [.bl k] ∧ Q (.int (if k then 1 else 0)) H) .pure intD := fun env σ P H ds xs d Q R1 hx e k => by
  match ds, hx, e with
  | [.int i], hx, e =>
    obtain ⟨x, rfl, h0⟩ := hx.one
    cases e
    exact .inl ⟨i, by rw [h0.intE], k _ P H R1 (Fr.refl _ _ _ _) (show Rep T P _ _ from rep_int) trivial⟩
  | [.bl b], hx, e =>
    obtain ⟨x, rfl, h0⟩ := hx.one
    cases e
    exact .inr ⟨b, by rw [h0.blE], k _ P H R1 (Fr.refl _ _ _ _) (show Rep T P _ _ from rep_int) trivial⟩
def ii (f : Int → Int → Int) : List D → Option D | [.int i, .int j] => some (.int (f i j)) | _ => none
theorem cd_ii {f : Int → Int → Int} : CallD T (fun xs H Q => ∃ i j, xs = [.int i, .int j] ∧ Q (.int (f i j)) H) .pure (ii f) := fun env σ P H ds xs d Q R1 hx e k => by
  match ds, hx, e with
  | [.int i, .int j], hx, e =>
    obtain ⟨x, y, rfl, h0, hy⟩ := hx.two
    cases e
    exact ⟨i, j, by rw [h0.intE, hy.intE], k _ P H R1 (Fr.refl _ _ _ _) (show Rep T P _ _ from rep_int) trivial⟩
abbrev min2D := ii fun i j => if j < i then j else i
def dInts : List D → Option (List Int)
  | [] => some []
  | .int i :: ds => (dInts ds).map (i :: ·)
  | _ => none
theorem dInts_ok : ∀ {ds : List D} {ns : List Int}, dInts ds = some ns → ds = ns.map D.int
  | [], _, h => by cases h; rfl
  | d :: ds, ns, h => by
    cases d with
    | int i =>
      have h : (dInts ds).map (i :: ·) = some ns := h
      cases e : dInts ds with
      | none => rw [e] at h; cases h
      | some ms => rw [e] at h; cases h; rw [dInts_ok e]; rfl
    | _ => cases h
def dBls : List D → Option (List Bool)
  | [] => some []
  | .bl i :: ds => (dBls ds).map (i :: ·)
  | _ => none
theorem bls_ok : ∀ {ds : List D} {ns : List Bool}, dBls ds = some ns → ds = ns.map D.bl
  | [], _, h => by cases h; rfl
  | d :: ds, ns, h => by
    cases d with
    | bl i =>
      have h : (dBls ds).map (i :: ·) = some ns := h
      cases e : dBls ds with
      | none => rw [e] at h; cases h
      | some ms => rw [e] at h; cases h; rw [bls_ok e]; rfl
    | _ => cases h
def minOf : List Int → Int | [] => 0 | x :: xs => xs.foldl (fun a b => if b < a then b else a) x
theorem minOf_le : ∀ (xs : List Int) (x : Int), xs.foldl (fun a b => if b < a then b else a) x ≤ x ∧ (∀ y ∈ xs, xs.foldl (fun a b => if b < a then b else a) x ≤ y) ∧ (xs.foldl (fun a b => if b < a then b else a) x = x ∨ xs.foldl (fun a b => if b < a then b else a) x ∈ xs)
  | [], x => ⟨Int.le_refl _, fun _ h => (nomatch h), .inl rfl⟩
  | y :: ys, x => by
    obtain ⟨h1, h2, h3⟩ := minOf_le ys (if y < x then y else x)
    rw [List.foldl_cons]
    have hx : (if y < x then y else x) ≤ x := by split <;> omega
    have hy : (if y < x then y else x) ≤ y := by split <;> omega
    refine ⟨Int.le_trans h1 hx, fun z hz => ?_, ?_⟩
    · rcases List.mem_cons.mp hz with rfl | hz
      · exact Int.le_trans h1 hy
      · exact h2 z hz
    · rcases h3 with h3 | h3
      · rw [h3]
        by_cases c : y < x
        · rw [if_pos c]; exact .inr List.mem_cons_self
        · rw [if_neg c]; exact .inl rfl
      · exact .inr (List.mem_cons_of_mem _ h3)
def listD : List D → Option D | [.lst ds] => some (.lst ds) | [.tup ds] => some (.lst ds) | _ => none
def tupleD : List D → Option D | [.lst ds] => some (.tup ds) | [.tup ds] => some (.tup ds) | _ => none
theorem cd_list : CallD T (fun xs H Q => ∃ p ys, xs = [.ref p] ∧ (SqL T.K H p ys ∨ SqT T.K H p ys) ∧ ∀ l, H l = none → Q (.ref l) (upd H l (.lst ys))) .fresh listD := fun env σ P H ds xs d Q R1 hx e k => by
  have w : ∀ (es : List D) (x : V) (d0 : D), Rdb T P H d0 x → (d0 = .lst es ∨ d0 = .tup es) → d = .lst es → ∃ p ys, [x] = [V.ref p] ∧ (SqL T.K H p ys ∨ SqT T.K H p ys) ∧ ∀ l, H l = none → Q (.ref l) (upd H l (.lst ys)) := fun es x d0 h hd hd2 => by
    obtain ⟨a, vs, rfl, h1, h2⟩ := h.seqE R1.sub hd
    refine ⟨a, vs, rfl, h1, fun l hl => ?_⟩
    subst hd2
    obtain ⟨R2, F2, no, pn⟩ := R1.newF (o := .lst vs) hl
    exact k _ _ _ R2 F2 ⟨l, _, _, rfl, upd_same, pn, no, h2, rfl⟩ ⟨l, rfl, hl⟩
  match ds, hx, e with
  | [.lst es], hx, e => obtain ⟨x, rfl, h0⟩ := hx.one; cases e; exact w es x _ h0 (.inl rfl) rfl
  | [.tup es], hx, e => obtain ⟨x, rfl, h0⟩ := hx.one; cases e; exact w es x _ h0 (.inr rfl) rfl
theorem cd_tuple : CallD T (fun xs H Q => ∃ p ys, xs = [.ref p] ∧ ((SqL T.K H p ys ∧ ∀ l, H l = none → Q (.ref l) (upd H l (.tup ys))) ∨ (SqT T.K H p ys ∧ Q (.ref p) H))) .pure tupleD := fun env σ P H ds xs d Q R1 hx e k => by
  match ds, hx, e with
  | [.lst es], hx, e =>
    obtain ⟨x, rfl, h0⟩ := hx.one
    cases e
    obtain ⟨a, vs, rfl, h1, h2⟩ := h0.lstE R1.sub
    refine ⟨a, vs, rfl, .inl ⟨.inl h1, fun l hl => ?_⟩⟩
    obtain ⟨R2, F2⟩ := R1.newP (o := .tup vs) hl
    exact k _ _ _ R2 F2 (rep_tup upd_same (Reps.sub F2.mono _ _ h2)) trivial
  | [.tup es], hx, e =>
    obtain ⟨x, rfl, h0⟩ := hx.one
    cases e
    have repx : Rep T P (.tup es) x := h0.elim id fun ⟨_, _, _, _, _, _, q⟩ => nomatch q
    obtain ⟨a, vs, rfl, h1, h2⟩ := h0.tupE R1.sub
    exact ⟨a, vs, rfl, .inr ⟨h1, k _ P H R1 (Fr.refl _ _ _ _) repx trivial⟩⟩
end
end Ue
set_option linter.all false
set_option Elab.async false
set_option maxRecDepth 100000
set_option maxHeartbeats 4000000
namespace Ue
open PySem L2
def R.toS {α : Type} (r : R α) (f : α → Env → SR) : SR :=
  match r with
  | .ok a e => f a e
  | .exc c fs e => .exc c fs e
  | .stk => .stk
theorem NewW.back {k : Kd} {env env' : Env} {σ σ' : L2.St} {P P' H H' : Hp} {x : V} (f : Fr env σ P H env' σ' P' H') (h : NewW k env' σ' H' x) : NewW k env σ H x := by
  cases k with
  | fresh =>
    obtain ⟨a, e, h⟩ := h
    refine ⟨a, e, ?_⟩
    rcases h with h | h
    · exact .inl (Classical.byContradiction fun z => f.there a z h)
    · rcases Classical.em (H a = none) with z | z
      · exact .inl z
      · exact .inr (Classical.byContradiction fun n => f.own a z n h)
  | _ => trivial
section
variable (T : Tab) (W : WX) (kr : Kd) (pins : List Nat)
def AfterS (env : Env) (σ : L2.St) (P H : Hp) (r : SR) (D : Ends) : Prop :=
  match r with
  | .nx env' => ∀ σ' P' H', Rel T env' σ' P' H' → Fr env σ P H env' σ' P' H' → FrP pins σ σ' → D.nx σ' H'
  | .brk env' => ∀ σ' P' H', Rel T env' σ' P' H' → Fr env σ P H env' σ' P' H' → FrP pins σ σ' → D.bk σ' H'
  | .cnt env' => ∀ σ' P' H', Rel T env' σ' P' H' → Fr env σ P H env' σ' P' H' → FrP pins σ σ' → D.ct σ' H'
  | .ret d env' => ∀ σ' P' H' x, Rel T env' σ' P' H' → Fr env σ P H env' σ' P' H' → FrP pins σ σ' → KRep T kr env' σ' P' H' d x → NewW kr env σ H x → D.rt x H'
  | .exc c fs env' => ∀ σ' P' H' cls dd, Rel T env' σ' P' H' → Fr env σ P H env' σ' P' H' → FrP pins σ σ' → ExRep T P' c fs cls dd → W cls dd σ' H'
  | .stk => False
def rdS (m : MS) : TS := fun D σ H => ∃ env P, Rel T env σ P H ∧ AfterS T W kr pins env σ P H (m env) D
def DS (X : Cx) (st : Stmt) (m : MS) : Prop := PS X st (rdS T W kr pins m)
def DSs (X : Cx) (st : List Stmt) (m : MS) : Prop := PSs X st (rdS T W kr pins m)
end
section
variable {T : Tab} {W : WX} {kr : Kd} {pins : List Nat} {env env' : Env} {σ σ' : L2.St} {P H P' H' : Hp} {X : Cx} {pos : Pos}
theorem AfterS.ofR {α : Type} {r : R α} {f : α → Env → SR} {D : Ends} (h : AfterS T W kr pins env σ P H (r.toS f) D) : After T W σ env P H r (fun a env1 P1 H1 => AfterS T W kr pins env1 σ P1 H1 (f a env1) D) := by
  cases r with
  | ok a env1 =>
    intro P1 H1 R1 F1
    have h : AfterS T W kr pins env σ P H (f a env1) D := h
    show AfterS T W kr pins env1 σ P1 H1 (f a env1) D
    cases e : f a env1 with
    | nx e2 => rw [e] at h; intro σ2 P2 H2 R2 F2 p2; exact h σ2 P2 H2 R2 (F1.trans F2) p2
    | brk e2 => rw [e] at h; intro σ2 P2 H2 R2 F2 p2; exact h σ2 P2 H2 R2 (F1.trans F2) p2
    | cnt e2 => rw [e] at h; intro σ2 P2 H2 R2 F2 p2; exact h σ2 P2 H2 R2 (F1.trans F2) p2
    | ret d e2 => rw [e] at h; intro σ2 P2 H2 x R2 F2 p2 k n; exact h σ2 P2 H2 x R2 (F1.trans F2) p2 k (n.back F1)
    | exc c fs e2 => rw [e] at h; intro σ2 P2 H2 cls dd R2 F2 p2 k; exact h σ2 P2 H2 cls dd R2 (F1.trans F2) p2 k
    | stk => rw [e] at h; exact h
  | exc c fs env1 => exact fun P1 H1 cls dd R1 F1 x => h σ P1 H1 cls dd R1 F1 FrP.refl x
  | stk => exact h
theorem AfterS.step {r : SR} {D : Ends} (h : AfterS T W kr pins env σ P H r D) (F1 : Fr env σ P H env' σ' P' H') (p1 : FrP pins σ σ') : AfterS T W kr pins env' σ' P' H' r D := by
  cases r with
  | nx e2 => intro σ2 P2 H2 R2 F2 p2; exact h σ2 P2 H2 R2 (F1.trans F2) (p1.trans p2)
  | brk e2 => intro σ2 P2 H2 R2 F2 p2; exact h σ2 P2 H2 R2 (F1.trans F2) (p1.trans p2)
  | cnt e2 => intro σ2 P2 H2 R2 F2 p2; exact h σ2 P2 H2 R2 (F1.trans F2) (p1.trans p2)
  | ret d e2 => intro σ2 P2 H2 x R2 F2 p2 k n; exact h σ2 P2 H2 x R2 (F1.trans F2) (p1.trans p2) k (n.back F1)
  | exc c fs e2 => intro σ2 P2 H2 cls dd R2 F2 p2 k; exact h σ2 P2 H2 cls dd R2 (F1.trans F2) (p1.trans p2) k
  | stk => exact h
def seqM (a b : MS) : MS := fun env => match a env with | .nx e => b e | r => r
theorem AfterS.seq {a b : MS} {D : Ends} (h : AfterS T W kr pins env σ P H (seqM a b env) D) : AfterS T W kr pins env σ P H (a env) { D with nx := rdS T W kr pins b D } := by
  unfold seqM at h
  cases e : a env with
  | nx e2 => rw [e] at h; intro σ2 P2 H2 R2 F2 p2; exact ⟨e2, P2, R2, AfterS.step h F2 p2⟩
  | brk e2 => rw [e] at h; exact h
  | cnt e2 => rw [e] at h; exact h
  | ret d e2 => rw [e] at h; exact h
  | exc c fs e2 => rw [e] at h; exact h
  | stk => rw [e] at h; exact h
def nilM : MS := fun env => .nx env
theorem dss_nil : DSs T W kr pins X [] nilM := pss_imp pss_nil fun D σ H h => by
  obtain ⟨env, P, RR, h⟩ := h
  exact h σ P H RR (Fr.refl _ _ _ _) FrP.refl
theorem dss_cons {st : Stmt} {rest : List Stmt} {a b : MS} (h1 : DS T W kr pins X st a) (h2 : DSs T W kr pins X rest b) : DSs T W kr pins X (st :: rest) (seqM a b) := pss_imp (pss_cons h1 h2) fun D σ H h => by
  obtain ⟨env, P, RR, h⟩ := h
  exact ⟨env, P, RR, h.seq⟩
theorem dss_one {st : Stmt} {a : MS} (h1 : DS T W kr pins X st a) : DSs T W kr pins X [st] a := pss_one h1
def brkM : MS := fun env => .brk env
def cntM : MS := fun env => .cnt env
def retM (m : M) : MS := fun env => (m env).toS fun d e => .ret d e
theorem ds_ret {e : Expr} {m : M} (h : DE T W X e kr m) : DS T W kr pins X (.Return (some e) pos) (retM m) := ps_imp (ps_ret h) fun D σ H h => by
  obtain ⟨env, P, RR, h⟩ := h
  refine ⟨env, P, RR, ?_⟩
  unfold retM at h
  cases e1 : m env with
  | ok d env1 => rw [e1] at h; exact fun P1 H1 R1 F1 x kx nx => h σ P1 H1 x R1 F1 FrP.refl kx nx.w
  | exc c fs env1 => rw [e1] at h; exact fun P1 H1 cls dd R1 F1 q => h σ P1 H1 cls dd R1 F1 FrP.refl q
  | stk => rw [e1] at h; exact h
def retOM (i : Nat) : MS := fun env => match env[i]? with | some (some (.own ds)) => .ret (.lst ds) (env.set i none) | _ => .stk
theorem Rel.take {i : Nat} {ds : List D} (RR : Rel T env σ P H) (e : env[i]? = some (some (.own ds))) : ∃ a vs, σ[i]? = some (some (V.ref a)) ∧ H a = some (.lst vs) ∧ P a = none ∧ Reps T P ds vs ∧ Own env σ H a ∧ ¬ Own (env.set i none) σ H a ∧ Rel T (env.set i none) σ P H ∧ Fr env σ P H (env.set i none) σ P H := by
  obtain ⟨u, hu, r⟩ := RR.ent i _ e
  obtain ⟨a, vs, rfl, h1, h2, h3⟩ := r
  obtain ⟨R2, w1, _⟩ := RR.slot (i := i) (o := none) (σ' := σ) (P' := P) (H' := H) rfl (fun _ _ => rfl) (PSub.refl _) RR.sub (fun b u q1 q2 => ⟨q1, (RR.ownAt q2.own).choose_spec.2⟩) (fun g hg _ => nomatch hg)
  have w : ∀ b, Own (env.set i none) σ H b → OwnX env σ H i b := fun b z => by
    rcases w1 b z with q | ⟨g, y, q, _⟩
    · exact q
    · cases q
  exact ⟨a, vs, hu, h1, h2, h3, ⟨i, _, _, e, rfl, hu, .here⟩, fun z => (w a z).ne RR e rfl hu .here, R2, fun b o h _ => h, fun b _ n z => n (w b z).own, PSub.refl _, fun b h => .inl h, fun b h => h⟩
theorem ds_retO {i : Nat} {x : Str} {p : Pos} (h : PE X (.Name x p) (tVar i)) : DS T W .fresh pins X (.Return (some (.Name x p)) pos) (retOM i) := ps_imp (ps_ret h) fun D σ H h => by
  obtain ⟨env, P, RR, h⟩ := h
  unfold retOM at h
  cases e : env[i]? with
  | none => rw [e] at h; exact False.elim h
  | some o =>
    cases o with
    | none => rw [e] at h; exact False.elim h
    | some v =>
      cases v with
      | own ds =>
        rw [e] at h
        obtain ⟨a, vs, hu, h1, h2, h3, o1, o2, R2, F2⟩ := RR.take e
        exact ⟨_, hu, h σ P H _ R2 F2 FrP.refl ⟨a, vs, ds, rfl, h1, h2, o2, h3, rfl⟩ ⟨a, rfl, .inr o1⟩⟩
      | _ => rw [e] at h; exact False.elim h
def retNM : MS := fun env => .ret .non env
def exprM (m : M) : MS := fun env => (m env).toS fun _ e => .nx e
theorem ds_expr {e : Expr} {m : M} {k : Kd} (h : DE T W X e k m) (hs : swapsWith e none pos.line X.env = pure false := by rfl) : DS T W kr pins X (.Expr e pos) (exprM m) := ps_imp (ps_expr h hs) fun D σ H h => by
  obtain ⟨env, P, RR, h⟩ := h
  exact ⟨env, P, RR, After.mono h.ofR fun d env1 P1 H1 R1 F1 h1 x kx nx => h1 σ P1 H1 R1 (Fr.refl _ _ _ _) FrP.refl⟩
theorem Rel.setV {i : Nat} {d : D} {x : V} (RR : Rel T env σ P H) (hx : Rep T P d x) : Rel T (env.set i (some (.v d))) (σ.set i (some x)) P H ∧ Fr env σ P H (env.set i (some (.v d))) (σ.set i (some x)) P H := by
  obtain ⟨R2, w1, _⟩ := RR.slot (i := i) (o := some (.v d)) (σ' := σ.set i (some x)) (P' := P) (H' := H) (by rw [List.length_set]) (fun j n => List.getElem?_set_ne (fun z => n z.symm)) (PSub.refl _) RR.sub (fun b u q1 q2 => ⟨q1, (RR.ownAt q2.own).choose_spec.2⟩) (fun g hg hi => by
    cases hg
    exact ⟨x, List.getElem?_set_self (by rw [← RR.len]; exact hi), hx, fun z => nomatch z⟩)
  refine ⟨R2, fun b o h _ => h, fun b hb n z => ?_, PSub.refl _, fun b h => .inl h, fun b h => h⟩
  rcases w1 b z with q | ⟨g, y, q, o, _⟩
  · exact n q.own
  · cases q; cases o
def setM (i : Nat) (m : M) : MS := fun env => (m env).toS fun d e => .nx (e.set i (some (.v d)))
theorem rd_set {i : Nat} {m : M} {D : Ends} (hi : i ∉ pins) (h : rdS T W kr pins (setM i m) D σ H) : tAsg (rdE T W .pure m) (gName i) D σ H := by
  obtain ⟨env, P, RR, h⟩ := h
  refine ⟨env, P, RR, After.mono h.ofR fun d env1 P1 H1 R1 F1 h1 x kx nx => ?_⟩
  obtain ⟨R2, F2⟩ := R1.setV (i := i) (d := d) (x := x) kx
  exact h1 _ P1 H1 R2 F2 (FrP.set hi)
theorem ds_set {i : Nat} {x : Str} {e : Expr} {m : M} {pos' : Pos} (h : DE T W X e .pure m) (hN : X.N.Nodup) (hi : X.N[i]? = some x) (hx : Loc X.env.scope x) (hp : i ∉ pins := by decide) (hs : swapsWith e (some (.Name x pos')) pos.line X.env = pure false := by rfl)
    (hf : X.fn x = true ∨ X.env.scope.names.lookup x = some .local := by first | exact .inl rfl | exact .inr rfl | assumption) : DS T W kr pins X (.Assign [.Name x pos'] e pos) (setM i m) :=
  ps_imp (ps_set hN hi hx h hs hf) fun _ _ _ h => rd_set hp h
theorem Rel.setO' {i : Nat} {ds : List D} {a : Addr} {vs : List V} (RR : Rel T env σ P H) (h1 : H a = some (.lst vs)) (h2 : P a = none) (h3 : ¬ Own env σ H a) (h4 : Reps T P ds vs) : Rel T (env.set i (some (.own ds))) (σ.set i (some (.ref a))) P H ∧ ∀ b, Own (env.set i (some (.own ds))) (σ.set i (some (.ref a))) H b → b = a ∨ Own env σ H b := by
  obtain ⟨R2, w1, _⟩ := RR.slot (i := i) (o := some (.own ds)) (σ' := σ.set i (some (.ref a))) (P' := P) (H' := H) (by rw [List.length_set]) (fun j n => List.getElem?_set_ne (fun z => n z.symm)) (PSub.refl _) RR.sub (fun b u q1 q2 => ⟨q1, (RR.ownAt q2.own).choose_spec.2⟩) (fun g hg hi => by
    cases hg
    refine ⟨.ref a, List.getElem?_set_self (by rw [← RR.len]; exact hi), ⟨a, vs, rfl, h1, h2, h4⟩, fun _ b t q => ?_⟩
    cases t.own
    exact h3 q.own)
  refine ⟨R2, fun b z => ?_⟩
  rcases w1 b z with q | ⟨g, y, q, o, hy, t⟩
  · exact .inr q.own
  · cases q
    have hl : i < σ.length := by
      have := get_set (a := none) hy
      simpa using this
    rw [List.getElem?_set_self hl] at hy; cases hy
    cases t.own; exact .inl rfl
theorem Rel.setO {i : Nat} {ds : List D} {a : Addr} {vs : List V} (RR : Rel T env σ P H) (h1 : H a = some (.lst vs)) (h2 : P a = none) (h3 : ¬ Own env σ H a) (h4 : Reps T P ds vs) : Rel T (env.set i (some (.own ds))) (σ.set i (some (.ref a))) P H := (RR.setO' h1 h2 h3 h4).1
def setOM (i : Nat) (m : M) : MS := fun env => (m env).toS fun d e => match d with | .lst ds => .nx (e.set i (some (.own ds))) | _ => .stk
theorem rd_setO {i : Nat} {m : M} {D : Ends} (hi : i ∉ pins) (h : rdS T W kr pins (setOM i m) D σ H) : tAsg (rdE T W .fresh m) (gName i) D σ H := by
  obtain ⟨env, P, RR, h⟩ := h
  refine ⟨env, P, RR, ?_⟩
  unfold setOM at h
  cases e1 : m env with
  | ok d env1 =>
    rw [e1] at h
    intro P1 H1 R1 F1 x kx nx
    obtain ⟨a, vs, ds, rfl, h1, h2, h3, h4, rfl⟩ := kx
    obtain ⟨a', e', ha⟩ := nx
    cases e'
    refine h _ P1 H1 (R1.setO h1 h2 h3 h4) ⟨F1.keep, fun b hb n z => ?_, F1.mono, F1.new, F1.there⟩ (FrP.set hi)
    rcases (R1.setO' h1 h2 h3 h4).2 b z with rfl | z
    · exact hb ha
    · exact F1.own b hb n z
  | exc c fs env1 => rw [e1] at h; exact fun P1 H1 cls dd R1 F1 q => h σ P1 H1 cls dd R1 F1 FrP.refl q
  | stk => rw [e1] at h; exact h
theorem ds_setO {i : Nat} {x : Str} {e : Expr} {m : M} {pos' : Pos} (h : DE T W X e .fresh m) (hN : X.N.Nodup) (hi : X.N[i]? = some x) (hx : Loc X.env.scope x) (hp : i ∉ pins := by decide) (hs : swapsWith e (some (.Name x pos')) pos.line X.env = pure false := by rfl)
    (hf : X.fn x = true ∨ X.env.scope.names.lookup x = some .local := by first | exact .inl rfl | exact .inr rfl | assumption) : DS T W kr pins X (.Assign [.Name x pos'] e pos) (setOM i m) :=
  ps_imp (ps_set hN hi hx h hs hf) fun _ _ _ h => rd_setO hp h
def iffM (t : MT) (a b : MS) : MS := fun env => (t env).toS fun c e => if c then a e else b e
theorem ds_if {c : Expr} {a b : List Stmt} {t : MT} {ma mb : MS} (hc : DT T W X c t) (ha : DSs T W kr pins X a ma) (hb : DSs T W kr pins X b mb) : DS T W kr pins X (.If c a b pos) (iffM t ma mb) := ps_imp (ps_if hc ha hb) fun D σ H h => by
  obtain ⟨env, P, RR, h⟩ := h
  refine ⟨env, P, RR, After.mono h.ofR fun d env1 P1 H1 R1 F1 h1 => ?_⟩
  cases d with
  | true => exact iteT ⟨env1, P1, R1, h1⟩
  | false => exact iteF ⟨env1, P1, R1, h1⟩
def loopS (r : SR) (k : MS) : SR := match r with | .nx e => k e | .cnt e => k e | .brk e => .nx e | r => r
theorem AfterS.loop {r : SR} {k : MS} {D : Ends} (h : AfterS T W kr pins env σ P H (loopS r k) D) :
    AfterS T W kr pins env σ P H r { D with nx := fun σ' H' => ∃ e P', Rel T e σ' P' H' ∧ PSub P P' ∧ AfterS T W kr pins e σ' P' H' (k e) D, ct := fun σ' H' => ∃ e P', Rel T e σ' P' H' ∧ PSub P P' ∧ AfterS T W kr pins e σ' P' H' (k e) D, bk := D.nx } := by
  cases r with
  | nx e => intro σ2 P2 H2 R2 F2 p2; exact ⟨e, P2, R2, F2.mono, AfterS.step h F2 p2⟩
  | cnt e => intro σ2 P2 H2 R2 F2 p2; exact ⟨e, P2, R2, F2.mono, AfterS.step h F2 p2⟩
  | brk e => exact h
  | ret d e => exact h
  | exc c fs e => exact h
  | stk => exact h
theorem AfterS.imp {r : SR} {D D' : Ends} (h : AfterS T W kr pins env σ P H r D) (k1 : ∀ σ H, D.nx σ H → D'.nx σ H) (k2 : ∀ σ H, D.bk σ H → D'.bk σ H) (k3 : ∀ σ H, D.ct σ H → D'.ct σ H) (k4 : ∀ x H, D.rt x H → D'.rt x H) : AfterS T W kr pins env σ P H r D' := by
  cases r with
  | nx e => exact fun σ2 P2 H2 R2 F2 p2 => k1 _ _ (h σ2 P2 H2 R2 F2 p2)
  | brk e => exact fun σ2 P2 H2 R2 F2 p2 => k2 _ _ (h σ2 P2 H2 R2 F2 p2)
  | cnt e => exact fun σ2 P2 H2 R2 F2 p2 => k3 _ _ (h σ2 P2 H2 R2 F2 p2)
  | ret d e => exact fun σ2 P2 H2 x R2 F2 p2 q n => k4 _ _ (h σ2 P2 H2 x R2 F2 p2 q n)
  | exc c fs e => exact h
  | stk => exact h
end
end Ue
set_option linter.all false
set_option Elab.async false
set_option maxRecDepth 100000
set_option maxHeartbeats 4000000
namespace Ue
open PySem L2
def Grow1 (P H P' H' : Hp) : Prop := (P' = P ∧ H' = H) ∨ ∃ p o, H p = none ∧ P' = upd P p o ∧ H' = upd H p o
def Yl (T : Tab) (J : It) (P0 : Hp) (ds : List D) : Prop := ∀ P H, PSub P0 P → PSub P H →
  (∀ i d, ds[i]? = some d → J.go i H ∧ ∀ x H', J.yld i H x H' → ∃ P', Rep T P' d x ∧ Grow1 P H P' H') ∧ (∀ i, ds.length ≤ i → J.stop i H)
def rdI (T : Tab) (W : WX) (m : MI) : TI := fun σ H Q => ∃ env P, Rel T env σ P H ∧ After T W σ env P H (m env) (fun ds env' P' H' => ∀ J, Yl T J P' ds → Q J H')
def DI (T : Tab) (W : WX) (X : Cx) (tg iter : Expr) (m : MI) : Prop := PI X tg iter (rdI T W m)
theorem pi_imp {X : Cx} {tg e : Expr} {t t' : TI} (h : PI X tg e t) (k : ∀ σ H Q, t' σ H Q → t σ H Q) : PI X tg e t' := ⟨fun pins s σ H Q I q => h.run pins s σ H Q I (k σ H Q q)⟩
section
variable {T : Tab} {W : WX} {kr : Kd} {pins : List Nat} {env env' : Env} {σ σ' : L2.St} {P H P' H' : Hp} {X : Cx} {pos : Pos} {tg e : Expr}
theorem Rel.grow1 (RR : Rel T env σ P H) (g : Grow1 P H P' H') : Rel T env σ P' H' ∧ Fr env σ P H env σ P' H' := by
  rcases g with ⟨rfl, rfl⟩ | ⟨p, o, hp, rfl, rfl⟩
  · exact ⟨RR, Fr.refl _ _ _ _⟩
  · exact RR.newP hp
def asL (m : M) : MI := fun env => (m env).bind fun d e => match d with | .lst ds => .ok ds e | _ => .stk
def asT (m : M) : MI := fun env => (m env).bind fun d e => match d with | .tup ds => .ok ds e | _ => .stk
theorem yl_list {a : Addr} {vs : List V} {ds : List D} {K : PySem.W.Frag} (hK : K = T.K) (h : Rd P a (.lst vs)) (r : Reps T P ds vs) (inj : True) : Yl T (Itl K a) P ds := fun P1 H1 s1 s2 => by
  have q : SqL K H1 a vs := .inl (Rd.sub s2 (Rd.sub s1 h))
  refine ⟨fun i d hd => ?_, fun i hi => ⟨vs, q, by rw [r.length]; exact hi⟩⟩
  obtain ⟨v, hv, rv⟩ := r.get hd
  refine ⟨⟨vs, v, q, hv⟩, fun x H' y => ?_⟩
  obtain ⟨rfl, y⟩ := y
  have := y vs q
  rw [hv] at this; cases this
  exact ⟨P1, Rep.sub s1 _ _ rv, .inl ⟨rfl, rfl⟩⟩
theorem yl_tup {a : Addr} {vs : List V} {ds : List D} {K : PySem.W.Frag} (hK : K = T.K) (h : SqT T.K P a vs) (r : Reps T P ds vs) : Yl T (Itt K a) P ds := fun P1 H1 s1 s2 => by
  subst hK
  have q : SqT T.K H1 a vs := sqT_sub s2 (sqT_sub s1 h)
  refine ⟨fun i d hd => ?_, fun i hi => ⟨vs, q, by rw [r.length]; exact hi⟩⟩
  obtain ⟨v, hv, rv⟩ := r.get hd
  refine ⟨⟨vs, v, q, hv⟩, fun x H' y => ?_⟩
  obtain ⟨rfl, y⟩ := y
  have := y vs q
  rw [hv] at this; cases this
  exact ⟨P1, Rep.sub s1 _ _ rv, .inl ⟨rfl, rfl⟩⟩
theorem di_list {m : M} (hK : X.K = T.K) (h : DE T W X e .pure m) : DI T W X tg e (asL m) := pi_imp (pi_list h) fun σ H Q h => by
  obtain ⟨env, P, RR, h⟩ := h
  refine ⟨env, P, RR, After.mono h.bind fun d env1 P1 H1 R1 F1 h1 x kx nx => ?_⟩
  cases d with
  | lst ds =>
    have kx : Rep T P1 (.lst ds) x := kx
    rw [Rep] at kx
    obtain ⟨a, vs, rfl, q1, q2⟩ := kx
    exact ⟨a, rfl, ⟨vs, .inl (Rd.sub R1.sub q1)⟩, h1.here R1 (Fr.refl _ _ _ _) _ (yl_list hK q1 q2 trivial)⟩
  | _ => exact False.elim h1
theorem di_tup {m : M} (hK : X.K = T.K) (h : DE T W X e .pure m) : DI T W X tg e (asT m) := pi_imp (pi_tup h) fun σ H Q h => by
  obtain ⟨env, P, RR, h⟩ := h
  refine ⟨env, P, RR, After.mono h.bind fun d env1 P1 H1 R1 F1 h1 x kx nx => ?_⟩
  cases d with
  | tup ds =>
    have kx : Rep T P1 (.tup ds) x := kx
    rw [Rep] at kx
    obtain ⟨a, vs, rfl, q1, q2⟩ := kx
    refine ⟨a, rfl, ⟨vs, ?_⟩, h1.here R1 (Fr.refl _ _ _ _) _ (yl_tup hK q1 q2)⟩
    rw [hK]; exact sqT_sub R1.sub q1
  | _ => exact False.elim h1
def rngL (lo : Int) (n : Nat) : List D := (List.range n).map fun (i : Nat) => D.int (lo + (i : Int))
theorem yl_range (lo : Int) (n : Nat) : Yl T (Itr lo n) P (rngL lo n) := fun P1 H1 s1 s2 => by
  refine ⟨fun i d hd => ?_, fun i hi => (by simpa [rngL] using hi : n ≤ i)⟩
  have hi : i < n := by
    rcases Nat.lt_or_ge i n with q | q
    · exact q
    · rw [List.getElem?_eq_none (by simpa [rngL] using q)] at hd; cases hd
  have hd' : d = .int (lo + i) := by
    have : (rngL lo n)[i]? = some (.int (lo + i)) := by simp [rngL, hi]
    rw [this] at hd; cases hd; rfl
  subst hd'
  refine ⟨hi, fun x H' y => ?_⟩
  obtain ⟨rfl, rfl⟩ := y
  exact ⟨P1, rep_int, .inl ⟨rfl, rfl⟩⟩
def rng1M (m : M) : MI := fun env => (m env).bind fun d e => match d with | .int j => if -(2 ^ 62) ≤ j ∧ j < 2 ^ 62 then .ok (rngL 0 j.toNat) e else .stk | _ => .stk
def rng2M (ma mb : M) : MI := fun env => (ma env).bind fun d e1 => (mb e1).bind fun d' e => match d, d' with | .int i, .int j => if -(2 ^ 62) ≤ i ∧ i < 2 ^ 62 ∧ -(2 ^ 62) ≤ j ∧ j < 2 ^ 62 then .ok (rngL i (j - i).toNat) e else .stk | _, _ => .stk
theorem di_range1 {k : Kd} {a : Expr} {p : Pos} {m : M} (hg : Gl X "range") (hm : X.mg "range" = none) (h : DE T W X a k m) (hs : starEach [a] X.env = [(false, eval a X.env)] := by rfl) : DI T W X tg (.Call (.Name "range" p) [a] [] pos) (rng1M m) := pi_imp (pi_range1 hg hm (da_cons (ks := []) (ms := []) h da_nil (by cases k <;> first | trivial | (intro env d env' h; cases h; rfl)) hs) hs) fun σ H Q h => by
  obtain ⟨env, P, RR, h⟩ := h
  refine ⟨env, P, RR, ?_⟩
  have e0 : argsM [m] env = (m env).bind fun d e1 => .ok [d] e1 := by
    show ((m env).bind fun d e1 => (argsM [] e1).bind fun ds e2 => .ok (d :: ds) e2) = _
    rfl
  rw [e0]
  unfold rng1M at h
  cases e1 : m env with
  | ok d env1 =>
    rw [e1] at h
    intro P1 H1 R1 F1 xs kxs
    obtain ⟨x, rfl, hx⟩ := (kxs.rdbs R1).one
    cases d with
    | int j =>
      have h : After T W σ env P H (if -(2 ^ 62) ≤ j ∧ j < 2 ^ 62 then R.ok (rngL 0 j.toNat) env1 else R.stk) _ := h
      by_cases z : -(2 ^ 62) ≤ j ∧ j < 2 ^ 62
      · rw [if_pos z] at h
        exact ⟨j, by rw [hx.intE], z.1, z.2, h P1 H1 R1 F1 _ (yl_range 0 j.toNat)⟩
      · rw [if_neg z] at h; exact False.elim h
    | _ => exact False.elim h
  | exc c fs env1 => rw [e1] at h; exact h
  | stk => rw [e1] at h; exact h
def enumL (ds : List D) : List D := (List.range ds.length).map fun (i : Nat) => D.tup [.int (i : Int), ds.getD i .non]
theorem enumL_get {ds : List D} {i : Nat} {d : D} (h : (enumL ds)[i]? = some d) : ∃ e, ds[i]? = some e ∧ d = .tup [.int i, e] := by
  have hi : i < ds.length := by
    rcases Nat.lt_or_ge i ds.length with q | q
    · exact q
    · rw [List.getElem?_eq_none (by simpa [enumL] using q)] at h; cases h
  refine ⟨ds[i], List.getElem?_eq_getElem hi, ?_⟩
  have e : (enumL ds)[i]? = some (.tup [.int i, ds.getD i .non]) := by simp [enumL, hi]
  rw [e] at h
  have h := Option.some.inj h
  rw [← h, List.getD_eq_getElem?_getD, List.getElem?_eq_getElem hi]; rfl
def enumM (m : M) : MI := fun env => (m env).bind fun d e => match d with | .lst ds => .ok (enumL ds) e | _ => .stk
theorem di_enum {e : Expr} {p tpos : Pos} {elts : List Expr} {kk : Nat} {m : M} (hK : X.K = T.K) (hg : Gl X "enumerate") (hm : X.mg "enumerate" = none) (h : DE T W X e .pure m) (hs : starEach [e] X.env = [(false, eval e X.env)] := by rfl) :
    DI T W X (.Tuple elts kk tpos) (.Call (.Name "enumerate" p) [e] [] pos) (enumM m) := pi_imp (pi_enum hg hm (da_cons (ks := []) (ms := []) h da_nil trivial hs) hs) fun σ H Q h => by
  obtain ⟨env, P, RR, h⟩ := h
  refine ⟨env, P, RR, ?_⟩
  have e0 : argsM [m] env = (m env).bind fun d e1 => .ok [d] e1 := rfl
  rw [e0]
  unfold enumM at h
  cases e1 : m env with
  | ok d env1 =>
    rw [e1] at h
    intro P1 H1 R1 F1 xs kxs
    have rs := kxs.pures (pures_cons pures_nil)
    cases d with
    | lst ds =>
      rw [Reps] at rs
      obtain ⟨x, r, rfl, h2, h3⟩ := rs
      rw [Reps] at h3; subst h3
      rw [Rep] at h2
      obtain ⟨a, vs, rfl, q1, q2⟩ := h2
      refine ⟨a, vs, rfl, .inl (Rd.sub R1.sub q1), h P1 H1 R1 F1 _ fun P2 H2 s1 s2 => ?_⟩
      have q : SqL X.K H2 a vs := .inl (Rd.sub s2 (Rd.sub s1 q1))
      refine ⟨fun i d hd => ?_, fun i hi => ⟨vs, q, by rw [q2.length]; simpa [enumL] using hi⟩⟩
      obtain ⟨e, he, rfl⟩ := enumL_get hd
      obtain ⟨v, hv, rv⟩ := q2.get he
      refine ⟨⟨vs, v, q, hv⟩, fun x H' y => ?_⟩
      obtain ⟨t, z, rfl, ht, rfl, y⟩ := y
      have := y vs q
      rw [hv] at this; cases this
      have hp : P2 t = none := by
        cases c : P2 t with
        | none => rfl
        | some o => have := s2 t o c; rw [ht] at this; cases this
      exact ⟨upd P2 t _, rep_tup upd_same (Reps.cons rep_int (Reps.cons (Rep.sub (psub_upd hp) _ _ (Rep.sub s1 _ _ rv)) Reps.nil)), .inr ⟨t, _, ht, rfl, rfl⟩⟩
    | _ => exact False.elim h
  | exc c fs env1 => rw [e1] at h; exact h
  | stk => rw [e1] at h; exact h
def Out (sl : List Nat) (σ σ' : L2.St) : Prop := σ'.length = σ.length ∧ ∀ i, i ∉ sl → σ'[i]? = σ[i]?
def rdG (T : Tab) (sl : List Nat) (g : TGM) : TG := fun v σ H Q => ∃ env P d, Rel T env σ P H ∧ Rep T P d v ∧ ∃ env', g d env = some env' ∧ ∀ σ', Rel T env' σ' P H → Fr env σ P H env' σ' P H → Out sl σ σ' → Q σ' H
def DG (T : Tab) (sl : List Nat) (X : Cx) (tg : Expr) (g : TGM) : Prop := PG X tg (rdG T sl g)
theorem pg_imp {t t' : TG} (h : PG X tg t) (k : ∀ v σ H Q, t' v σ H Q → t v σ H Q) : PG X tg t' := ⟨fun pins s σ H v u Q I r q => h.run pins s σ H v u Q I r (k v σ H Q q)⟩
theorem pgs_imp {tgs : List Expr} {t t' : TGs} (h : PGs X tgs t) (k : ∀ v σ H Q, t' v σ H Q → t v σ H Q) : PGs X tgs t' := ⟨fun pins s σ H v u Q I r q => h.run pins s σ H v u Q I r (k v σ H Q q)⟩
def tgN (i : Nat) : TGM := fun d env => some (env.set i (some (.v d)))
theorem dg_name {i : Nat} {x : Str} (hN : X.N.Nodup) (hi : X.N[i]? = some x) (hx : Loc X.env.scope x) (hf : X.fn x = true ∨ X.env.scope.names.lookup x = some .local := by first | exact .inl rfl | exact .inr rfl | assumption) : DG T [i] X (.Name x pos) (tgN i) :=
  pg_imp (pg_name hN hi hx hf) fun v σ H Q h => by
    obtain ⟨env, P, d, RR, rx, env', e, k⟩ := h
    cases e
    obtain ⟨R2, F2⟩ := RR.setV (i := i) rx
    exact k _ R2 F2 ⟨by rw [List.length_set], fun j hj => List.getElem?_set_ne (fun z => hj (by simp [z]))⟩
def tgL : List TGM → List D → Env → Option Env
  | [], [], env => some env
  | g :: gs, d :: ds, env => (g d env).bind (tgL gs ds)
  | _, _, _ => none
def rdGs (T : Tab) (sl : List Nat) (g : List D → Env → Option Env) : TGs := fun vs σ H Q => ∃ env P ds, Rel T env σ P H ∧ Reps T P ds vs ∧ ∃ env', g ds env = some env' ∧ ∀ σ', Rel T env' σ' P H → Fr env σ P H env' σ' P H → Out sl σ σ' → Q σ' H
def DGs (T : Tab) (sl : List Nat) (X : Cx) (tgs : List Expr) (g : List D → Env → Option Env) : Prop := PGs X tgs (rdGs T sl g)
theorem dgs_nil : DGs T [] X [] (tgL []) := pgs_imp pgs_nil fun vs σ H Q h => by
  obtain ⟨env, P, ds, RR, rx, env', e, k⟩ := h
  cases ds with
  | nil => rw [Reps] at rx; cases e; exact ⟨rx, k σ RR (Fr.refl _ _ _ _) ⟨rfl, fun _ _ => rfl⟩⟩
  | cons d ds => cases e
theorem dgs_cons {sl sl' : List Nat} {a : Expr} {as : List Expr} {g : TGM} {gs : List TGM} (h : DG T sl X a g) (h' : DGs T sl' X as (tgL gs)) (hs : (assignEach (a :: as) X.env).map (·.2) = assign a X.env :: (assignEach as X.env).map (·.2) := by rfl) : DGs T (sl ++ sl') X (a :: as) (tgL (g :: gs)) :=
  pgs_imp (pgs_cons h h' hs) fun vs σ H Q hh => by
    obtain ⟨env, P, ds, RR, rx, env', e, k⟩ := hh
    cases ds with
    | nil => cases e
    | cons d ds =>
      rw [Reps] at rx
      obtain ⟨v, r, rfl, h1, h2⟩ := rx
      have e : (g d env).bind (tgL gs ds) = some env' := e
      cases c : g d env with
      | none => rw [c] at e; cases e
      | some env1 =>
        rw [c] at e
        refine ⟨v, r, rfl, env, P, d, RR, h1, env1, c, fun σ1 R1 F1 p1 => ⟨env1, P, ds, R1, h2, env', e, fun σ2 R2 F2 p2 => k σ2 R2 (F1.trans F2) ⟨p2.1.trans p1.1, fun i hi => ?_⟩⟩⟩
        rw [p2.2 i (fun z => hi (List.mem_append_right _ z)), p1.2 i (fun z => hi (List.mem_append_left _ z))]
def tgT (gs : List TGM) : TGM := fun d env => match d with | .tup ds => tgL gs ds env | _ => none
theorem tgL_len : ∀ {gs : List TGM} {ds : List D} {env env' : Env}, tgL gs ds env = some env' → ds.length = gs.length
  | [], [], _, _, _ => rfl
  | [], _ :: _, _, _, h => by cases h
  | _ :: _, [], _, _, h => by cases h
  | g :: gs, d :: ds, env, env', h => by
    have h : (g d env).bind (tgL gs ds) = some env' := h
    cases c : g d env with
    | none => rw [c] at h; cases h
    | some e1 => rw [c] at h; simp [tgL_len (show tgL gs ds e1 = some env' from h)]
theorem dg_tup {sl : List Nat} {es : List Expr} {kk n : Nat} {gs : List TGM} (hK : X.K = T.K) (hc : X.calm = true) (h : DGs T sl X es (tgL gs)) (hl : gs.length = n := by rfl) (hn : (assignEach es X.env).length = n := by rfl) (hst : (assignEach es X.env).findIdx? (·.1) = none := by rfl) : DG T sl X (.Tuple es kk pos) (tgT gs) :=
  pg_imp (pg_tup hc h hn hst) fun x σ H Q hh => by
    obtain ⟨env, P, d, RR, rx, env', e, k⟩ := hh
    cases d with
    | tup ds =>
      rw [Rep] at rx
      obtain ⟨a, vs, rfl, h1, h2⟩ := rx
      exact ⟨a, vs, rfl, by rw [hK]; exact sqT_sub RR.sub h1, by rw [h2.length, tgL_len e, hl], env, P, ds, RR, h2, env', e, k⟩
    | _ => cases e
theorem Out.frP {sl : List Nat} (h : Out sl σ σ') (hd : ∀ i ∈ pins, i ∉ sl) : FrP pins σ σ' := fun i hi => h.2 i (hd i hi)
def asgM (g : TGM) (m : M) : MS := fun env => (m env).toS fun d e => match g d e with | some e' => .nx e' | none => .stk
theorem ds_asg {sl : List Nat} {g : TGM} {m : M} (h : DE T W X e .pure m) (hg : DG T sl X tg g) (hd : ∀ i ∈ pins, i ∉ sl := by decide) (hs : swapsWithSole [tg] e pos.line X.env = pure false := by rfl) (hw : swappedStores [tg] e X.env = pure none := by rfl)
    (h1 : (assignEach [tg] X.env).map (·.2) = [assign tg X.env] := by rfl) : DS T W kr pins X (.Assign [tg] e pos) (asgM g m) := by
  refine ps_imp (ps_asg h hg hs hw h1) fun D σ H h => ?_
  obtain ⟨env, P, RR, h⟩ := h
  refine ⟨env, P, RR, After.mono h.ofR fun d env1 P1 H1 R1 F1 h1 x kx nx => ?_⟩
  cases c : g d env1 with
  | none => rw [c] at h1; exact False.elim h1
  | some env2 =>
    rw [c] at h1
    exact ⟨env1, P1, d, R1, kx, env2, c, fun σ' R2 F2 p2 => h1 σ' P1 H1 R2 F2 (p2.frP hd)⟩
def forM (g : TGM) (b : MS) : List D → MS
  | [] => fun env => .nx env
  | d :: ds => fun env => match g d env with | some e => loopS (b e) (forM g b ds) | none => .stk
def forS (mi : MI) (g : TGM) (b : MS) : MS := fun env => (mi env).toS fun ds e => forM g b ds e
theorem ds_for {sl : List Nat} {b : List Stmt} {mi : MI} {g : TGM} {mb : MS} (hp : PassesOwn (model X.prog X.w) X.A X.env X.xe) (hc : X.calm = true) (hi : DI T W X tg e mi) (hg : DG T sl X tg g) (hb : DSs T W kr pins X b mb) (hd : ∀ i ∈ pins, i ∉ sl := by decide)
    (hs : ∀ x, foldedSetIterable e X.env x = pure x := by intro _; rfl) : DS T W kr pins X (.For tg e b [] pos) (forS mi g mb) := by
  refine ps_imp (ps_for hp hc hi hg hb hs) fun D σ H h => ?_
  obtain ⟨env, P, RR, h⟩ := h
  refine ⟨env, P, RR, After.mono h.ofR fun ds env1 P1 H1 R1 F1 h1 J hJ => ?_⟩
  refine ⟨fun i m σ H => m = ds.length - i ∧ ∃ e P, Rel T e σ P H ∧ PSub P1 P ∧ AfterS T W kr pins e σ P H (forM g mb (ds.drop i) e) D, ⟨ds.length, by simp, env1, P1, R1, PSub.refl _, h1⟩, fun i m σ H hW => ?_⟩
  obtain ⟨rfl, e, P2, R2, s2, h2⟩ := hW
  obtain ⟨j1, j2⟩ := hJ P2 H s2 R2.sub
  cases c : ds[i]? with
  | none =>
    have hi : ds.length ≤ i := List.getElem?_eq_none_iff.mp c
    rw [List.drop_eq_nil_of_le hi] at h2
    exact .inl ⟨j2 i hi, h2 σ P2 H R2 (Fr.refl _ _ _ _) FrP.refl⟩
  | some d =>
    have hi : i < ds.length := by
      rcases Nat.lt_or_ge i ds.length with q | q
      · exact q
      · rw [List.getElem?_eq_none q] at c; cases c
    have ed : ds.drop i = d :: ds.drop (i + 1) := by
      rw [List.drop_eq_getElem_cons hi]
      rw [List.getElem?_eq_getElem hi] at c
      rw [Option.some.inj c]
    rw [ed] at h2
    obtain ⟨j3, j4⟩ := j1 i d c
    refine .inr ⟨j3, fun σ' H' => ∃ e P, Rel T e σ' P H' ∧ PSub P1 P ∧ AfterS T W kr pins e σ' P H' (forM g mb (ds.drop (i + 1)) e) D, fun σ' H' q => ⟨ds.length - (i + 1), by omega, rfl, q⟩, fun x H' y => ?_⟩
    obtain ⟨P3, r3, g3⟩ := j4 x H' y
    obtain ⟨R3, F3⟩ := R2.grow1 g3
    have h2 : AfterS T W kr pins e σ P2 H (match g d e with | some e' => loopS (mb e') (forM g mb (ds.drop (i + 1))) | none => .stk) D := h2
    cases c2 : g d e with
    | none => rw [c2] at h2; exact False.elim h2
    | some e4 =>
      rw [c2] at h2
      refine ⟨e, P3, d, R3, r3, e4, c2, fun σ4 R4 F4 p4 => ?_⟩
      have h4 := AfterS.step h2 (F3.trans F4) (p4.frP hd)
      have s4 : PSub P1 P3 := s2.trans F3.mono
      exact ⟨e4, P3, R4, AfterS.imp (AfterS.loop h4) (fun σ H ⟨e, P', a, b, c⟩ => ⟨e, P', a, s4.trans b, c⟩) (fun _ _ q => q) (fun σ H ⟨e, P', a, b, c⟩ => ⟨e, P', a, s4.trans b, c⟩) (fun _ _ q => q)⟩
end
end Ue
set_option linter.all false
set_option Elab.async false
set_option maxRecDepth 100000
set_option maxHeartbeats 4000000
namespace Ue
open PySem L2
theorem Reps.atI {T : Tab} {P : Hp} {ds : List D} {vs : List V} {i : Int} {d : D} (h : Reps T P ds vs) (e : atI ds i = some d) : ∃ v, L2.atI vs i = some v ∧ Rep T P d v := by
  unfold L2.atI at e ⊢
  rw [h.length]
  cases q : ixN ds.length i with
  | none => rw [q] at e; cases e
  | some j => rw [q] at e; exact h.get e
def ixD (a b : D) : Option D := match a, b with
  | .lst ds, .int i => L2.atI ds i
  | .tup ds, .int i => L2.atI ds i
  | .scr ns, .int i => (L2.atI ns i).map D.int
  | .str s, .int i => if s.length ≤ sizeLine then (L2.atI s.cps.toList i).map fun c => .str ⟨#[c]⟩ else none
  | _, _ => none
theorem od_ix {T : Tab} : OpD T (rIx T.K) .pure ixD := fun env σ P H dx dy x y d Q R1 hx hy e k => by
  cases dy with
  | int i =>
    cases dx with
    | lst ds =>
      obtain ⟨a, vs, rfl, h1, h2⟩ := hx.lstE R1.sub
      obtain ⟨v, hv, rv⟩ := h2.atI (show L2.atI ds i = some d from e)
      exact .inl ⟨a, vs, i, v, rfl, hy.intE, .inl h1, hv, k _ P H R1 (Fr.refl _ _ _ _) rv trivial⟩
    | scr ns =>
      obtain ⟨a, rfl, h1⟩ := hx.scrE R1.sub
      have e : (L2.atI ns i).map D.int = some d := e
      cases q : L2.atI ns i with
      | none => rw [q] at e; cases e
      | some n =>
        rw [q] at e; cases e
        refine .inl ⟨a, _, i, .int n, rfl, hy.intE, h1, ?_, k _ P H R1 (Fr.refl _ _ _ _) (show Rep T P _ _ from rep_int) trivial⟩
        unfold L2.atI at q ⊢
        rw [List.length_map]
        cases q2 : ixN ns.length i with
        | none => rw [q2] at q; cases q
        | some j =>
          rw [q2] at q
          have q : ns[j]? = some n := q
          show (ns.map V.int)[j]? = _
          rw [List.getElem?_map, q]; rfl
    | tup ds =>
      obtain ⟨a, vs, rfl, h1, h2⟩ := hx.tupE R1.sub
      obtain ⟨v, hv, rv⟩ := h2.atI (show L2.atI ds i = some d from e)
      exact .inr (.inl ⟨a, vs, i, v, rfl, hy.intE, h1, hv, k _ P H R1 (Fr.refl _ _ _ _) rv trivial⟩)
    | str s =>
      have e : (if s.length ≤ sizeLine then (L2.atI s.cps.toList i).map fun c => D.str ⟨#[c]⟩ else none) = some d := e
      by_cases z : s.length ≤ sizeLine
      · rw [if_pos z] at e
        cases q : L2.atI s.cps.toList i with
        | none => rw [q] at e; cases e
        | some c =>
          rw [q] at e; cases e
          exact .inr (.inr ⟨s, i, c, hx.strE, hy.intE, z, q, k _ P H R1 (Fr.refl _ _ _ _) (show Rep T P _ _ from rep_str) trivial⟩)
      · rw [if_neg z] at e; cases e
    | _ => cases e
  | _ => cases dx <;> cases e
section
variable {T : Tab} {W : WX} {kr : Kd} {pins : List Nat} {env env' : Env} {σ σ' : L2.St} {P H P' H' : Hp} {X : Cx} {pos : Pos} {tg e a b : Expr} {k ka kb : Kd} {m ma mb : M}
theorem de_ix (hK : X.K = T.K) (ha : DE T W X a ka ma) (hb : DE T W X b kb mb) (hs : PlainIx b) (hst : Steady ka mb := by trivial) : DE T W X (.Subscript a b pos) .pure (op2M ixD ma mb) :=
  pe_imp (pe_ix (r := rIx T.K) (by rw [← hK]; exact ix_seq) ha hb hs) fun _ _ _ h => rd_op2 od_ix hst h
def optM : Option M → Env → R (Option Int)
  | none, e => .ok none e
  | some m, e => (m e).bind fun d e1 => match d with | .int i => .ok (some i) e1 | _ => .stk
def rdO (T : Tab) (W : WX) (m : Option M) : TO := fun σ H Q => ∃ env P, Rel T env σ P H ∧ After T W σ env P H (optM m env) (fun o _ _ H' => Q o H')
def DO (T : Tab) (W : WX) (X : Cx) (e : Option Expr) (m : Option M) : Prop := PO X e (rdO T W m)
theorem po_imp {o : Option Expr} {t t' : TO} (h : PO X o t) (k : ∀ σ H Q, t' σ H Q → t σ H Q) : PO X o t' := ⟨fun pins s σ H Q I q => h.run pins s σ H Q I (k σ H Q q)⟩
theorem do_none : DO T W X none none := po_imp po_none fun σ H Q h => by
  obtain ⟨env, P, RR, h⟩ := h
  exact h.here RR (Fr.refl _ _ _ _)
theorem do_some (h : DE T W X e k m) : DO T W X (some e) (some m) := po_imp (po_some h) fun σ H Q h => by
  obtain ⟨env, P, RR, h⟩ := h
  refine ⟨env, P, RR, After.mono h.bind fun d env1 P1 H1 R1 F1 h1 x kx nx => ?_⟩
  cases d with
  | int i => exact ⟨i, (kx.rdb R1).intE, h1.here R1 (Fr.refl _ _ _ _)⟩
  | _ => exact False.elim h1
def cutD (ds : List D) (lo hi : Option Int) : List D := (ds.drop (HT.sIx ds.length 0 lo)).take (HT.sIx ds.length ds.length hi - HT.sIx ds.length 0 lo)
theorem Reps.cut {ds : List D} {vs : List V} (h : Reps T P ds vs) (lo hi : Option Int) : Reps T P (cutD ds lo hi) (cutV vs lo hi) := by
  unfold cutD cutV
  rw [h.length]
  exact (h.drop _).take _
def slLM (m : M) (lo hi : Option M) : M := fun env => (m env).bind fun d e => (optM lo e).bind fun l e => (optM hi e).bind fun u e => match d with | .lst ds => .ok (.lst (cutD ds l u)) e | .scr ns => .ok (.lst (cutD (ns.map D.int) l u)) e | _ => .stk
def slTM (m : M) (lo hi : Option M) : M := fun env => (m env).bind fun d e => (optM lo e).bind fun l e => (optM hi e).bind fun u e => match d with | .tup ds => .ok (.tup (cutD ds l u)) e | _ => .stk
theorem de_slL {lo hi : Option Expr} {ml mh : Option M} {p2 : Pos} (hK : X.K = T.K) (he : DE T W X e k m) (hl : DO T W X lo ml) (hh : DO T W X hi mh) (s1 : Steady k (optM ml) := by trivial) (s2 : Steady k (optM mh) := by trivial) :
    DE T W X (.Subscript e (.Slice lo hi none p2) pos) .fresh (slLM m ml mh) := by
  refine pe_imp (pe_slice (r := rSlL T.K) (by rw [← hK]; exact sl_list) he hl hh) fun σ H Q h => ?_
  obtain ⟨env, P, RR, h⟩ := h
  refine ⟨env, P, RR, After.at h.bind fun d env1 P1 H1 _ R1 F1 h1 x kx nx => ?_⟩
  refine ⟨env1, P1, R1, After.at h1.bind fun l env2 P2 H2 e2 R2 F2 h2 => ?_⟩
  refine ⟨env2, P2, R2, After.at h2.bind fun u env3 P3 H3 e3 R3 F3 h3 => ?_⟩
  have kx' := (kx.carry F2 (s1.use e2)).carry F3 (s2.use e3)
  cases d with
  | lst ds =>
    obtain ⟨a, vs, rfl, q1, q2⟩ := (kx'.rdb R3).lstE R3.sub
    refine ⟨a, vs, rfl, .inl q1, fun p hp => ?_⟩
    obtain ⟨R4, F4, no, pn⟩ := R3.newF (o := .lst (cutV vs l u)) hp
    exact h3 _ _ R4 F4 _ ⟨p, _, _, rfl, upd_same, pn, no, q2.cut l u, rfl⟩ (NewV.back (k := .fresh) (F1.trans (F2.trans F3)) ⟨p, rfl, hp⟩)
  | scr ns =>
    obtain ⟨a, rfl, q1⟩ := (kx'.rdb R3).scrE R3.sub
    refine ⟨a, _, rfl, q1, fun p hp => ?_⟩
    obtain ⟨R4, F4, no, pn⟩ := R3.newF (o := .lst (cutV (ns.map V.int) l u)) hp
    exact h3 _ _ R4 F4 _ ⟨p, _, _, rfl, upd_same, pn, no, (Reps.ofInts ns).cut l u, rfl⟩ (NewV.back (k := .fresh) (F1.trans (F2.trans F3)) ⟨p, rfl, hp⟩)
  | _ => exact False.elim h3
theorem steady_c {d : D} : Steady k (cM d) := by
  cases k with
  | own i => intro env d' env' h; cases h; rfl
  | _ => trivial
theorem steady_var {j : Nat} : Steady k (varM j) := by
  cases k with
  | own i =>
    intro env d' env' h
    unfold varM at h
    cases q : env[j]? with
    | none => rw [q] at h; cases h
    | some o =>
      rw [q] at h
      cases o with
      | none => cases h
      | some v => cases v <;> cases h <;> rfl
  | _ => trivial
theorem steady_args : ∀ {ms : List M}, (∀ m ∈ ms, Steady k m) → Steady k (argsM ms)
  | [], _ => by
    cases k with
    | own i => intro env b env' e; cases e; rfl
    | _ => trivial
  | m :: ms, h => Steady.bind (h m List.mem_cons_self) fun d => Steady.bind (steady_args fun m hm => h m (List.mem_cons_of_mem _ hm)) fun ds => by
    cases k with
    | own i => intro env b env' e; cases e; rfl
    | _ => trivial
theorem steady_nil : ∀ m ∈ ([] : List M), Steady k m := fun _ h => nomatch h
theorem Rel.updO {i : Nat} {ds ds' : List D} {a : Addr} {vs' : List V} (RR : Rel T env σ P H) (e : env[i]? = some (some (.own ds))) (hs : σ[i]? = some (some (V.ref a))) (r : Reps T P ds' vs') :
    Rel T (env.set i (some (.own ds'))) σ P (upd H a (.lst vs')) ∧ Fr env σ P H (env.set i (some (.own ds'))) σ P (upd H a (.lst vs')) := by
  have own_a : Own env σ H a := ⟨i, _, _, e, rfl, hs, .here⟩
  obtain ⟨o, ho, pa⟩ := RR.ownAt own_a
  have nx : ∀ b, OwnX env σ H i b → b ≠ a := fun b q => by rintro rfl; exact q.ne RR e rfl hs .here
  obtain ⟨R2, w1, _⟩ := RR.slot (i := i) (o := some (.own ds')) (σ' := σ) (P' := P) (H' := upd H a (.lst vs')) rfl (fun _ _ => rfl) (PSub.refl _) (fun b u h => by rw [upd_ne (ne_of_none h pa)]; exact RR.sub b u h) (fun b u q1 q2 => by
    rw [upd_ne (nx b q2)]; exact ⟨q1, (RR.ownAt q2.own).choose_spec.2⟩) (fun g hg _ => by
    cases hg
    refine ⟨_, hs, ⟨a, vs', rfl, upd_same, pa, r⟩, fun _ b t q => ?_⟩
    cases t.own
    exact nx _ q rfl)
  refine ⟨R2, fun b u h n => ?_, fun b _ n z => ?_, PSub.refl _, fun b h => .inl h, fun b h => ?_⟩
  · rw [upd_ne (fun z => n (by rw [z]; exact own_a))]; exact h
  · rcases w1 b z with q | ⟨g, y, q, o, hy, t⟩
    · exact n q.own
    · cases q
      rw [hs] at hy; cases hy
      cases t.own; exact n own_a
  · by_cases hb : b = a
    · subst hb; rw [upd_same]; exact fun z => nomatch z
    · rw [upd_ne hb]; exact h
def MtD (T : Tab) (r : V → List V → Hp → VK → Prop) (g : List D → List D → Option (D × List D)) : Prop :=
  ∀ (P H : Hp) (a : Addr) (vs : List V) (ds es : List D) (xs : List V) (d : D) (ds' : List D) (Q : VK), H a = some (.lst vs) → Reps T P ds vs → Reps T P es xs → g ds es = some (d, ds') →
    (∀ x vs', Rep T P d x → Reps T P ds' vs' → Q x (upd H a (.lst vs'))) → r (.ref a) xs H Q
def mtM (i : Nat) (g : List D → List D → Option (D × List D)) (ms : List M) : M := fun env => match env[i]? with
  | some (some (.own _)) => (argsM ms env).bind fun es e => match e[i]? with
    | some (some (.own ds)) => (match g ds es with | some (d, ds') => .ok d (e.set i (some (.own ds'))) | none => .stk)
    | _ => .stk
  | _ => .stk
theorem rd_mt {i : Nat} {r : V → List V → Hp → VK → Prop} {g : List D → List D → Option (D × List D)} {ms : List M} {ks : List Kd} (hD : MtD T r g) (hp : ∀ k ∈ ks, k = Kd.pure) {Q : VK} (h : rdE T W .pure (mtM i g ms) σ H Q) :
    tBM T.K "list" r (tVar i) (rdA T W ks ms) σ H Q := by
  obtain ⟨env, P, RR, h⟩ := h
  unfold mtM at h
  cases e0 : env[i]? with
  | none => rw [e0] at h; exact False.elim h
  | some o =>
    cases o with
    | none => rw [e0] at h; exact False.elim h
    | some v =>
      cases v with
      | own d0 =>
        rw [e0] at h
        obtain ⟨u, hu, r0⟩ := RR.ent i _ e0
        obtain ⟨a, vs0, rfl, q0, p0, _⟩ := r0
        refine ⟨_, hu, .inl ⟨rfl, vs0, .of q0⟩, env, P, RR, After.at h.bind fun es env1 P1 H1 _ R1 F1 h1 xs kxs => ?_⟩
        cases e1 : env1[i]? with
        | none => rw [e1] at h1; exact False.elim h1
        | some o =>
          cases o with
          | none => rw [e1] at h1; exact False.elim h1
          | some v =>
            cases v with
            | own ds =>
              rw [e1] at h1
              obtain ⟨u, hu2, r1⟩ := R1.ent i _ e1
              rw [hu] at hu2; cases hu2
              obtain ⟨a', vs, ea, q1, p1, w1⟩ := r1
              cases ea
              cases e2 : g ds es with
              | none => simp only [e2] at h1; exact False.elim h1
              | some p =>
                obtain ⟨d, ds'⟩ := p
                simp only [e2] at h1
                refine hD P1 H1 a vs ds es xs d ds' Q q1 w1 (kxs.pures hp) e2 fun x vs' rx rvs => ?_
                obtain ⟨R2, F2⟩ := R1.updO (vs' := vs') e1 hu rvs
                exact h1 _ _ R2 F2 x rx trivial
            | _ => rw [e1] at h1; exact False.elim h1
      | _ => rw [e0] at h; exact False.elim h
theorem de_mt {i : Nat} {x name : Str} {id : String} {r : V → List V → Hp → VK → Prop} {g : List D → List D → Option (D × List D)} {ms : List M} {ks : List Kd} {es : List Expr} {p apos cpos : Pos} (hK : X.K = T.K) (pa : PlainAttrs "list") (slot : Slot "list" name id)
    (hty : typeOf (.builtin id) = pure (.type "method_descriptor")) (hm : MtR X id r) (hD : MtD T r g) (hv : PE X (.Name x p) (tVar i)) (ha : DA T W X (e :: es) ks ms) (hp : ∀ k ∈ ks, k = Kd.pure)
    (hfew : ((backTo cpos (starEach (e :: es) X.env)).all (fun x => !x.1) && (backToKw cpos (keywordEach [] X.env)).all (fun x => x.1.isSome)
      && decide ((e :: es).length + ([] : List Keyword).length + (if ([] : List Keyword).isEmpty then 0 else 1) < 30)) = true := by rfl)
    (hline : (apos.endLine == cpos.line) = true := by rfl) (hs : starEach (e :: es) X.env = (false, eval e X.env) :: starEach es X.env := by rfl) (hplain : (backTo cpos (starEach es X.env)).any (·.1) = false := by rfl) :
    DE T W X (.Call (.Attribute (.Name x p) name apos) (e :: es) [] cpos) .pure (mtM i g ms) :=
  pe_imp (pe_bm pa slot hty hm hv ha (by rfl) hfew hline hs hplain) fun σ H Q h => by rw [hK]; exact rd_mt hD hp h
def appG (ds es : List D) : Option (D × List D) := match es with | [d] => if ds.length < sizeLine then some (.non, ds ++ [d]) else none | _ => none
theorem md_append : MtD T rAppend appG := fun P H a vs ds es xs d ds' Q h1 h2 h3 e k => by
  match es, h3, e with
  | [d0], h3, e =>
    rw [Reps] at h3
    obtain ⟨v, r, rfl, h4, h5⟩ := h3
    rw [Reps] at h5; subst h5
    have e : (if ds.length < sizeLine then some (D.non, ds ++ [d0]) else none) = some (d, ds') := e
    by_cases z : ds.length < sizeLine
    · rw [if_pos z] at e; cases e
      exact ⟨a, vs, v, rfl, rfl, h1, by rw [h2.length]; exact z, k _ _ rep_non (h2.append (Reps.cons h4 Reps.nil))⟩
    · rw [if_neg z] at e; cases e
def popAtI (ds : List D) (i : Int) : Option (D × List D) := if -(2 ^ 63) ≤ i ∧ i < 2 ^ 63 then (ixN ds.length i).bind fun j => (ds[j]?).map fun d => (d, ds.eraseIdx j) else none
def popAtG (ds es : List D) : Option (D × List D) := match es with
  | [.int i] => popAtI ds i
  | _ => none
theorem Reps.erase {ds : List D} {vs : List V} (h : Reps T P ds vs) (j : Nat) : Reps T P (ds.eraseIdx j) (vs.eraseIdx j) := by
  rw [List.eraseIdx_eq_take_drop_succ, List.eraseIdx_eq_take_drop_succ]
  exact (h.take j).append (h.drop (j + 1))
theorem popAtI_some {ds ds' : List D} {i : Int} {d : D} (h : popAtI ds i = some (d, ds')) : (-(2 ^ 63) ≤ i ∧ i < 2 ^ 63) ∧ ∃ j, ixN ds.length i = some j ∧ ds[j]? = some d ∧ ds' = ds.eraseIdx j := by
  unfold popAtI at h
  by_cases z : -(2 ^ 63) ≤ i ∧ i < 2 ^ 63
  · rw [if_pos z] at h
    refine ⟨z, ?_⟩
    cases q : ixN ds.length i with
    | none => rw [q] at h; cases h
    | some j =>
      rw [q] at h
      have h : (ds[j]?).map (fun d => (d, ds.eraseIdx j)) = some (d, ds') := h
      cases q2 : ds[j]? with
      | none => rw [q2] at h; cases h
      | some d0 => rw [q2] at h; cases h; exact ⟨j, rfl, q2, rfl⟩
  · rw [if_neg z] at h; cases h
theorem md_popAt : MtD T rPopAt popAtG := fun P H a vs ds es xs d ds' Q h1 h2 h3 e k => by
  cases es with
  | nil => cases e
  | cons d0 es =>
    cases es with
    | cons _ _ => cases d0 <;> cases e
    | nil =>
      cases d0 with
      | int i =>
        rw [Reps] at h3
        obtain ⟨v, r, rfl, h4, h5⟩ := h3
        rw [Reps] at h5; subst h5
        rw [Rep] at h4; subst h4
        obtain ⟨z, j, q, q2, rfl⟩ := popAtI_some (show popAtI ds i = some (d, ds') from e)
        obtain ⟨v, hv, rv⟩ := h2.get q2
        exact ⟨a, vs, i, j, v, rfl, rfl, h1, z.1, z.2, by rw [h2.length]; exact (ixN_seq q).1, hv, k _ _ rv (h2.erase j)⟩
      | _ => cases e
def setI2 (i : Nat) (d n : D) (e : Env) : SR := match e[i]?, n with
  | some (some (.own ds)), .int j => (match ixN ds.length j with | some q => .nx (e.set i (some (.own (ds.set q d)))) | none => .stk)
  | _, _ => .stk
def setIM (i : Nat) (m mi : M) : MS := fun env => (m env).toS fun d e => match e[i]? with
  | some (some (.own _)) => (mi e).toS fun n e => setI2 i d n e
  | _ => .stk
theorem ds_setI {i : Nat} {x : Str} {ie : Expr} {mi : M} {p tpos : Pos} {ki : Kd} (hv : PE X (.Name x p) (tVar i)) (he : DE T W X e .pure m) (hi : DE T W X ie ki mi)
    (hs : swapsWithSole [.Subscript (.Name x p) ie tpos] e pos.line X.env = pure false := by rfl) (hw : swappedStores [.Subscript (.Name x p) ie tpos] e X.env = pure none := by rfl)
    (h1 : (assignEach [.Subscript (.Name x p) ie tpos] X.env).map (·.2) = [assign (.Subscript (.Name x p) ie tpos) X.env] := by rfl)
    (ha : ∀ v, assign (.Subscript (.Name x p) ie tpos) X.env v = (do let ov ← holding [v] (eval (.Name x p) X.env); let iv ← holding [v, ov] (eval ie X.env); standAt tpos; holding [v, ov, iv] (setItem ov iv v); release [v, ov, iv] []) := by intro _; rfl) :
    DS T W kr pins X (.Assign [.Subscript (.Name x p) ie tpos] e pos) (setIM i m mi) := by
  refine ps_imp (ps_asg he (pg_sub hv hi set_list ha) hs hw h1) fun D σ H h => ?_
  obtain ⟨env, P, RR, h⟩ := h
  refine ⟨env, P, RR, After.mono h.ofR fun d env1 P1 H1 R1 F1 h1 y ky ny => ?_⟩
  cases e0 : env1[i]? with
  | none => rw [e0] at h1; exact False.elim h1
  | some o =>
    cases o with
    | none => rw [e0] at h1; exact False.elim h1
    | some v =>
      cases v with
      | own d0 =>
        rw [e0] at h1
        obtain ⟨u, hu, r0⟩ := R1.ent i _ e0
        obtain ⟨a, vs0, rfl, _, _, _⟩ := r0
        refine ⟨_, hu, env1, P1, R1, After.mono h1.ofR fun n env2 P2 H2 R2 F2 h2 z kz nz => ?_⟩
        have ky' : Rep T P2 d y := Rep.sub F2.mono d y ky
        unfold setI2 at h2
        cases e2 : env2[i]? with
        | none => rw [e2] at h2; exact False.elim h2
        | some o =>
          cases o with
          | none => rw [e2] at h2; exact False.elim h2
          | some v =>
            cases v with
            | own ds =>
              rw [e2] at h2
              cases n with
              | int j =>
                simp only at h2
                obtain ⟨u, hu2, r1⟩ := R2.ent i _ e2
                rw [hu] at hu2; cases hu2
                obtain ⟨a', vs, ea, q1, p1, w1⟩ := r1
                cases ea
                cases e3 : ixN ds.length j with
                | none => rw [e3] at h2; exact False.elim h2
                | some q =>
                  rw [e3] at h2
                  refine ⟨a, vs, j, q, rfl, (kz.rdb R2).intE, q1, by rw [w1.length]; exact e3, ?_⟩
                  obtain ⟨R3, F3⟩ := R2.updO (vs' := vs.set q y) e2 hu (w1.set q ky')
                  exact h2 σ P2 _ R3 F3 FrP.refl
              | _ => exact False.elim h2
            | _ => rw [e2] at h2; exact False.elim h2
      | _ => rw [e0] at h1; exact False.elim h1
def augM (i : Nat) (g : D → D → Option D) (m : M) : MS := fun env => match env[i]? with
  | some (some (.v d0)) => (m env).toS fun d e => (match g d0 d with | some r => .nx (e.set i (some (.v r))) | none => .stk)
  | _ => .stk
def parM (i j : Nat) (ma mb : M) : MS := fun env => (ma env).toS fun d1 e1 => (mb e1).toS fun d2 e2 => .nx ((e2.set i (some (.v d1))).set j (some (.v d2)))
theorem ds_par {i j : Nat} {x y : Str} {px py pt : Pos} {kt k2 : Nat} {pt2 : Pos} (hc : X.calm = true) (hN : X.N.Nodup) (hi : X.N[i]? = some x) (hj : X.N[j]? = some y) (hij : i ≠ j)
    (hx : X.env.scope.names.lookup x = some .local) (hy : X.env.scope.names.lookup y = some .local) (ha : DE T W X a .pure ma) (hb : DE T W X b .pure mb) (hpi : i ∉ pins := by decide) (hpj : j ∉ pins := by decide)
    (hw : swappedStores [.Tuple [.Name x px, .Name y py] kt pt] (.Tuple [a, b] k2 pt2) X.env = pure (some [x, y]) := by rfl)
    (hs : swapsWithSole [.Tuple [.Name x px, .Name y py] kt pt] (.Tuple [a, b] k2 pt2) pos.line X.env = pure false := by rfl)
    (h1 : starEach [a, b] X.env = (false, eval a X.env) :: starEach [b] X.env := by rfl) (h2 : starEach [b] X.env = (false, eval b X.env) :: starEach [] X.env := by rfl) :
    DS T W kr pins X (.Assign [.Tuple [.Name x px, .Name y py] kt pt] (.Tuple [a, b] k2 pt2) pos) (parM i j ma mb) := by
  refine ps_imp (ps_par hc hN hi hj hij hx hy (da_cons ha (da_cons hb da_nil trivial h2) trivial h1) hw hs) fun D σ H h => ?_
  obtain ⟨env, P, RR, h⟩ := h
  refine ⟨env, P, RR, ?_⟩
  have e0 : argsM [ma, mb] env = (ma env).bind fun d e1 => (mb e1).bind fun d' e2 => .ok [d, d'] e2 := by
    show ((ma env).bind fun d e1 => ((mb e1).bind fun d' e2 => (argsM [] e2).bind fun ds e3 => .ok (d' :: ds) e3).bind fun ds e2 => .ok (d :: ds) e2) = _
    cases ma env with
    | ok d e1 =>
      show ((mb e1).bind fun d' e2 => .ok [d'] e2).bind (fun ds e2 => .ok (d :: ds) e2) = (mb e1).bind fun d' e2 => .ok [d, d'] e2
      cases mb e1 <;> rfl
    | _ => rfl
  rw [e0]
  have h3 : After T W σ env P H ((ma env).bind fun d e1 => (mb e1).bind fun d' e2 => R.ok [d, d'] e2) (fun ds env' P' H' => ∃ d1 d2, ds = [d1, d2] ∧ AfterS T W kr pins env' σ P' H' (.nx ((env'.set i (some (.v d1))).set j (some (.v d2)))) D) := by
    have h4 := h.ofR
    cases q1 : ma env with
    | ok d1 env1 =>
      unfold parM at h
      rw [q1] at h
      show After T W σ env P H ((mb env1).bind fun d' e2 => R.ok [d1, d'] e2) _
      have h : AfterS T W kr pins env σ P H ((mb env1).toS fun d2 e2 => .nx ((e2.set i (some (.v d1))).set j (some (.v d2)))) D := h
      have h5 := h.ofR
      cases q2 : mb env1 with
      | ok d2 env2 => rw [q2] at h5; exact fun P2 H2 R2 F2 => ⟨d1, d2, rfl, h5 P2 H2 R2 F2⟩
      | exc c fs env2 => rw [q2] at h5; exact h5
      | stk => rw [q2] at h5; exact h5
    | exc c fs env1 => rw [q1] at h4; exact h4
    | stk => rw [q1] at h4; exact h4
  refine After.mono h3 fun ds env1 P1 H1 R1 F1 hq xs kxs => ?_
  obtain ⟨d1, d2, rfl, h6⟩ := hq
  have rs := kxs.pures (pures_cons (pures_cons pures_nil))
  rw [Reps] at rs
  obtain ⟨v, r, rfl, r1, rs⟩ := rs
  rw [Reps] at rs
  obtain ⟨w, r, rfl, r2, rs⟩ := rs
  rw [Reps] at rs; subst rs
  refine ⟨v, w, rfl, ?_⟩
  obtain ⟨R2, F2⟩ := R1.setV (i := i) r1
  obtain ⟨R3, F3⟩ := R2.setV (i := j) r2
  exact h6 _ P1 H1 R3 (F2.trans F3) ((FrP.set hpi).trans (FrP.set hpj))
end
end Ue
set_option linter.all false
set_option Elab.async false
set_option maxRecDepth 100000
set_option maxHeartbeats 4000000
namespace Ue
open PySem L2
theorem wipe_in {σ : L2.St} {i : Nat} : ∀ {vs : List Nat}, i ∈ vs → (wipe σ vs)[i]? = if i < σ.length then some none else none
  | [], h => by cases h
  | v :: vs, h => by
    unfold wipe
    by_cases q : v = i
    · subst q
      by_cases hv : v < σ.length
      · rw [List.getElem?_set_self (by rw [wipe_length]; exact hv), if_pos hv]
      · rw [List.getElem?_eq_none (by simpa [wipe_length] using hv), if_neg hv]
    · rw [List.getElem?_set_ne q]
      rcases List.mem_cons.mp h with e | e
      · exact absurd e.symm q
      · exact wipe_in e
theorem wipe_same {σ σ' : L2.St} {vs sl : List Nat} (h : Out sl σ σ') (hs : ∀ i ∈ sl, i ∈ vs) : wipe σ' vs = wipe σ vs := by
  refine List.ext_getElem? fun i => ?_
  by_cases hi : i ∈ vs
  · rw [wipe_in hi, wipe_in hi, h.1]
  · rw [wipe_out hi, wipe_out hi]
    exact h.2 i fun z => hi (hs i z)
def compL (vs : List Nat) (g : TGM) (tt : MT) (te : M) : List D → Env → R (List D)
  | [], e => .ok [] e
  | d :: ds, e => if vsOk e vs then
      (match g d (wipeE e vs) with
       | none => .stk
       | some e1 => match tt e1 with
         | .ok true e2 => (match te e2 with
           | .ok y e3 => (compL vs g tt te ds (restE e e3 vs)).bind fun ys e' => .ok (y :: ys) e'
           | _ => .stk)
         | .ok false e2 => compL vs g tt te ds (restE e e2 vs)
         | _ => .stk)
    else .stk
def compM (vs : List Nat) (mi : MI) (g : TGM) (tt : MT) (te : M) : M := fun env => (mi env).bind fun ds e => if ds.length ≤ sizeLine then (compL vs g tt te ds e).bind fun ys e' => .ok (.lst ys) e' else .stk
def yesT : MT := fun env => .ok true env
section
variable {T : Tab} {W : WX} {kr : Kd} {pins : List Nat} {env env' : Env} {σ σ' : L2.St} {P H P' H' : Hp} {X : Cx} {pos : Pos} {tg e a b : Expr} {k ka kb : Kd} {m ma mb : M} {vs : List Nat}
theorem Rel.pokeI {L : Addr} {o : HO} (RR : Rel T env σ P H) (hp : P L = none) (no : ¬ Own env σ H L) : Rel T env σ P (upd H L o) ∧ ∀ b, Own env σ (upd H L o) b ↔ Own env σ H b :=
  RR.reH (PSub.refl _) (fun b u h => by rw [upd_ne (ne_of_none h hp)]; exact RR.sub b u h) fun b u h1 h2 => by
    have hb : b ≠ L := by rintro rfl; exact no h2
    rw [upd_ne hb]; exact ⟨h1, (RR.ownAt h2).choose_spec.2⟩
theorem Rel.poke {L : Addr} {o : HO} (RR : Rel T env σ P H) (hp : P L = none) (no : ¬ Own env σ H L) : Rel T env σ P (upd H L o) := (RR.pokeI hp no).1
theorem Fr.poke {L : Addr} {o : HO} (F : Fr env σ P H env' σ' P' H') (hL : H L = none) (w : ∀ b, Own env' σ' (upd H' L o) b ↔ Own env' σ' H' b) : Fr env σ P H env' σ' P' (upd H' L o) := by
  refine ⟨fun b u h n => ?_, fun b h n z => F.own b h n ((w b).mp z), F.mono, F.new, fun b h => ?_⟩
  · rw [upd_ne (ne_of_none h hL)]; exact F.keep b u h n
  · by_cases hb : b = L
    · subst hb; rw [upd_same]; exact fun z => nomatch z
    · rw [upd_ne hb]; exact F.there b h
def LcInv (T : Tab) (W : WX) (vs : List Nat) (g : TGM) (tt : MT) (te : M) (σ : L2.St) (ds : List D) (env1 : Env) (P1 H1 : Hp) (L : Addr) (Qf : D → Env → Hp → Hp → Prop) (i : Nat) (H : Hp) : Prop :=
  ∃ (e : Env) (P2 : Hp) (vs2 : List V) (ys : List D), Rel T e σ P2 H ∧ Fr env1 σ P1 H1 e σ P2 H ∧ ¬ Own e σ H L ∧ P2 L = none ∧ H L = some (.lst vs2) ∧ Reps T P2 ys vs2 ∧ ys.length ≤ i ∧
    After T W σ env1 P1 H1 ((compL vs g tt te (ds.drop i) e).bind fun zs e' => .ok (.lst (ys ++ zs)) e') Qf
theorem rd_lc {mi : MI} {g : TGM} {tt : MT} {te : M} {sl : List Nat} (hsl : ∀ i ∈ sl, i ∈ vs) {Q : VK} (h : rdE T W .fresh (compM vs mi g tt te) σ H Q) :
    tLc (rdI T W mi) (rdG T sl g) (rdT T (fun _ _ _ _ => False) tt) (rdE T (fun _ _ _ _ => False) .pure te) vs σ H Q := by
  obtain ⟨env, P, RR, h⟩ := h
  refine ⟨env, P, RR, After.mono h.bind fun ds env1 P1 H1 R1 F1 h1 J hJ => ?_⟩
  intro L hL
  by_cases hz : ¬ ds.length ≤ sizeLine
  · rw [if_neg hz] at h1; exact False.elim h1
  have hz : ds.length ≤ sizeLine := Classical.not_not.mp hz
  rw [if_pos hz] at h1
  have hLH : H L = none := Classical.byContradiction fun z => F1.there L z hL
  refine ⟨fun i m H2 => m = ds.length - i ∧ LcInv T W vs g tt te σ ds env1 P1 H1 L (fun d env' P' H' => ∀ x, KRep T .fresh env' σ P' H' d x → NewV .fresh H x → Q x H') i H2, ?_, ?_⟩
  · obtain ⟨R2, F2, no, pn⟩ := R1.newF (o := .lst []) hL
    exact ⟨ds.length, by simp, env1, P1, [], [], R2, F2, no, pn, upd_same, Reps.nil, Nat.zero_le _, h1⟩
  · rintro i m H3 ⟨rfl, e, P3, vs3, ys, R3, F3, nownL, pL, hD, rys, hy, h3⟩
    obtain ⟨j1, j2⟩ := hJ P3 H3 F3.mono R3.sub
    cases c : ds[i]? with
    | none =>
      have hi : ds.length ≤ i := List.getElem?_eq_none_iff.mp c
      rw [List.drop_eq_nil_of_le hi] at h3
      refine .inl ⟨j2 i hi, ?_⟩
      have h3 : After T W σ env1 P1 H1 (R.ok (D.lst (ys ++ [])) e) _ := h3
      rw [List.append_nil] at h3
      exact h3 P3 H3 R3 F3 _ ⟨L, vs3, ys, rfl, hD, pL, nownL, rys, rfl⟩ ⟨L, rfl, hLH⟩
    | some d =>
      have hi : i < ds.length := by
        rcases Nat.lt_or_ge i ds.length with q | q
        · exact q
        · rw [List.getElem?_eq_none q] at c; cases c
      have ed : ds.drop i = d :: ds.drop (i + 1) := by
        rw [List.drop_eq_getElem_cons hi]
        rw [List.getElem?_eq_getElem hi] at c
        rw [Option.some.inj c]
      rw [ed] at h3
      unfold compL at h3
      by_cases hv : ¬ vsOk e vs = true
      · rw [if_neg hv] at h3; exact False.elim h3
      have hv : vsOk e vs = true := Classical.not_not.mp hv
      rw [if_pos hv] at h3
      obtain ⟨j3, j4⟩ := j1 i d c
      refine .inr ⟨j3, LcInv T W vs g tt te σ ds env1 P1 H1 L (fun d env' P' H' => ∀ x, KRep T .fresh env' σ P' H' d x → NewV .fresh H x → Q x H') (i + 1), fun H' q => ⟨ds.length - (i + 1), by omega, rfl, q⟩, fun x H' y => ?_⟩
      obtain ⟨P4, r4, g4⟩ := j4 x H' y
      obtain ⟨R4, F4⟩ := R3.grow1 g4
      obtain ⟨R5, o5⟩ := R4.wiped hv
      cases c2 : g d (wipeE e vs) with
      | none => rw [c2] at h3; exact False.elim h3
      | some e6 =>
        rw [c2] at h3
        refine ⟨wipeE e vs, P4, d, R5, r4, e6, c2, fun σ6 R6 F6 p6 => ?_⟩
        have hw0 : wipe σ6 vs = wipe (wipe σ vs) vs := wipe_same p6 hsl
        have hww : wipe (wipe σ vs) vs = wipe σ vs := by
          refine List.ext_getElem? fun j => ?_
          by_cases hj : j ∈ vs
          · rw [wipe_in hj, wipe_in hj, wipe_length]
          · rw [wipe_out hj]
        have hw : wipe σ6 vs = wipe σ vs := hw0.trans hww
        refine ⟨hw, e6, P4, R6, ?_⟩
        cases c3 : tt e6 with
        | exc _ _ _ => simp only [c3] at h3; exact False.elim h3
        | stk => simp only [c3] at h3; exact False.elim h3
        | ok b e7 =>
          intro P7 H7 R7 F7
          cases b with
          | false =>
            simp only [c3] at h3
            refine iteF ?_
            obtain ⟨R8, F8⟩ := R4.rest hv R7 (F6.trans F7) hw
            have FF := F4.trans F8
            have hD8 : H7 L = some (.lst vs3) := FF.keep L _ hD nownL
            have n8 : ¬ Own (restE e e7 vs) σ H7 L := FF.own L (by rw [hD]; exact fun z => nomatch z) nownL
            have p8 : P7 L = none := by
              refine Classical.byContradiction fun z => ?_
              rcases FF.new L z with q | q | q
              · exact q pL
              · rw [hD] at q; cases q
              · exact nownL q
            exact ⟨restE e e7 vs, P7, vs3, ys, R8, F3.trans FF, n8, p8, hD8, Reps.sub FF.mono _ _ rys, Nat.le_succ_of_le hy, h3⟩
          | true =>
            simp only [c3] at h3
            refine iteT ⟨e7, P7, R7, ?_⟩
            cases c4 : te e7 with
            | exc _ _ _ => simp only [c4] at h3; exact False.elim h3
            | stk => simp only [c4] at h3; exact False.elim h3
            | ok z e8 =>
              simp only [c4] at h3
              intro P9 H9 R9 F9 v kv nv
              have kv : Rep T P9 z v := kv
              obtain ⟨R8, F8⟩ := R4.rest hv R9 (F6.trans (F7.trans F9)) hw
              have FF := F4.trans F8
              have hD8 : H9 L = some (.lst vs3) := FF.keep L _ hD nownL
              have n8 : ¬ Own (restE e e8 vs) σ H9 L := FF.own L (by rw [hD]; exact fun z => nomatch z) nownL
              have p8 : P9 L = none := by
                refine Classical.byContradiction fun z => ?_
                rcases FF.new L z with q | q | q
                · exact q pL
                · rw [hD] at q; cases q
                · exact nownL q
              have rys9 := Reps.sub FF.mono _ _ rys
              obtain ⟨R10, w10⟩ := R8.pokeI (o := .lst (vs3 ++ [v])) p8 n8
              refine ⟨vs3, hD8, by rw [rys.length]; omega, restE e e8 vs, P9, vs3 ++ [v], ys ++ [z], R10, (F3.trans FF).poke hL w10, fun q => n8 ((w10 L).mp q), p8, upd_same, rys9.append (Reps.cons kv Reps.nil), by simp; omega, ?_⟩
              have ea : ((compL vs g tt te (List.drop (i + 1) ds) (restE e e8 vs)).bind fun ys_1 e' => (R.ok (z :: ys_1) e' : Ue.R (List D))).bind (fun zs e' => (R.ok (D.lst (ys ++ zs)) e' : Ue.R D)) = (compL vs g tt te (List.drop (i + 1) ds) (restE e e8 vs)).bind fun zs e' => R.ok (D.lst (ys ++ [z] ++ zs)) e' := by
                cases compL vs g tt te (List.drop (i + 1) ds) (restE e e8 vs) with
                | ok zs e' => show R.ok (D.lst (ys ++ (z :: zs))) e' = R.ok (D.lst (ys ++ [z] ++ zs)) e'; rw [List.append_assoc]; rfl
                | _ => rfl
              rw [ea] at h3
              exact h3
def DTs (T : Tab) (W : WX) (X : Cx) (ifs : List Expr) (m : MT) : Prop := PTs X ifs (rdT T W m)
theorem dts_nil : DTs T W X [] yesT := ⟨fun pins s σ H Q I h => pts_nil.run pins s σ H Q I (by
  obtain ⟨env, P, RR, h⟩ := h
  exact h.here RR (Fr.refl _ _ _ _))⟩
theorem dts_one {c : Expr} {t : MT} (h : DT T W X c t) : DTs T W X [c] t := pts_one h
abbrev W0 : WX := fun _ _ _ _ => False
theorem de_lc {elt iter : Expr} {ifs : List Expr} {scope : Scope} {own : List (Str × Nat)} {mi : MI} {g : TGM} {tt : MT} {te : M} {sl : List Nat} (hc : X.calm = true) (hN : X.N.Nodup) (hi : DI T W X tg iter mi) (ok : BlkOk X.N X.env.scope scope own)
    (hg : ∀ (s : Shared) (H : Hp) (C : Addr) (cl : List (Str × Addr)) (fp : List Addr), DG T sl (X.blk s H scope (compEnvC scope cl C X.env) fp) tg g)
    (ht : ∀ (s : Shared) (H : Hp) (C : Addr) (cl : List (Str × Addr)) (fp : List Addr), DTs T W0 (X.blk s H scope (compEnvC scope cl C X.env) fp) ifs tt)
    (he : ∀ (s : Shared) (H : Hp) (C : Addr) (cl : List (Str × Addr)) (fp : List Addr), DE T W0 (X.blk s H scope (compEnvC scope cl C X.env) fp) elt .pure te)
    (hsl : ∀ i ∈ sl, i ∈ own.map (·.2) := by decide) (hs : ∀ x, foldedSetIterable iter X.env x = pure x := by intro _; rfl) : DE T W X (.ListComp elt [⟨tg, iter, ifs, 0⟩] scope pos) .fresh (compM (own.map (·.2)) mi g tt te) :=
  pe_imp (pe_lc hc hN hi ok hg ht he hs) fun _ _ _ h => rd_lc hsl h
section
variable {i : Nat} {y : Str} {py spos : Pos} {elt iter : Expr} {ifs : List Expr} {scope : Scope} {own : List (Str × Nat)} {mi : MI} {g : TGM} {tt : MT} {te : M} {sl : List Nat}
theorem ds_setLc (hc : X.calm = true) (hN : X.N.Nodup) (hy : X.N[i]? = some y) (hyl : X.env.scope.names.lookup y = some .local)
    (hsw : swapsWith (.ListComp elt [⟨tg, iter, ifs, 0⟩] scope pos) (some (.Name y py)) spos.line X.env = pure true) (hi : DI T W X tg iter mi) (ok : BlkOk X.N X.env.scope scope own)
    (hg : ∀ (s : Shared) (H : Hp) (C : Addr) (cl : List (Str × Addr)) (fp : List Addr), DG T sl (X.blk s H scope (compEnvC scope cl C X.env) fp) tg g)
    (ht : ∀ (s : Shared) (H : Hp) (C : Addr) (cl : List (Str × Addr)) (fp : List Addr), DTs T W0 (X.blk s H scope (compEnvC scope cl C X.env) fp) ifs tt)
    (he : ∀ (s : Shared) (H : Hp) (C : Addr) (cl : List (Str × Addr)) (fp : List Addr), DE T W0 (X.blk s H scope (compEnvC scope cl C X.env) fp) elt .pure te)
    (hp : i ∉ pins := by decide) (hsl : ∀ i ∈ sl, i ∈ own.map (·.2) := by decide) (hs : ∀ x, foldedSetIterable iter X.env x = pure x := by intro _; rfl) :
    DS T W kr pins X (.Assign [.Name y py] (.ListComp elt [⟨tg, iter, ifs, 0⟩] scope pos) spos) (setM i (compM (own.map (·.2)) mi g tt te)) :=
  ps_imp (ps_setLc hc hN hy hyl hsw hi ok hg ht he hs) fun D σ H h => rd_lc hsl (rd_frz (rd_set hp h))
end
end
def Tab.nb (T : Tab) : Tab := { T with cur := none }
mutual
theorem rep_nb {T : Tab} {P : Hp} : ∀ (d : D) (v : V), Rep T.nb P d v = Rep T P d v
  | .non, v => by rw [Rep, Rep]
  | .bl _, v => by rw [Rep, Rep]
  | .int _, v => by rw [Rep, Rep]
  | .str _, v => by rw [Rep, Rep]
  | .scr _, v => by rw [Rep, Rep]; rfl
  | .dct _, v => by rw [Rep, Rep]
  | .tpx ds, v => by rw [Rep, Rep]; simp only [reps_nb ds]
  | .tup ds, v => by rw [Rep, Rep]; simp only [reps_nb ds]; rfl
  | .lst ds, v => by rw [Rep, Rep]; simp only [reps_nb ds]
  | .obj c ds, v => by rw [Rep, Rep]; simp only [reps_nb ds]; rfl
theorem reps_nb {T : Tab} {P : Hp} : ∀ (ds : List D) (vs : List V), Reps T.nb P ds vs = Reps T P ds vs
  | [], vs => by rw [Reps, Reps]
  | d :: ds, vs => by rw [Reps, Reps]; simp only [rep_nb d, reps_nb ds]
end
theorem freps_nb {T : Tab} {P H : Hp} : ∀ (fs : List FV) (vs : List V), FReps T.nb P H fs vs = FReps T P H fs vs
  | [], vs => by rw [FReps, FReps]
  | .d x :: fs, vs => by rw [FReps, FReps]; simp only [rep_nb, freps_nb fs]
  | .o xs :: fs, vs => by rw [FReps, FReps]; simp only [reps_nb, freps_nb fs]
theorem Rel.nb {T : Tab} {env : Env} {σ : L2.St} {P H : Hp} (h : Rel T env σ P H) : Rel T.nb env σ P H := by
  refine ⟨h.sub, fun i e q => ?_, h.dis, h.len⟩
  obtain ⟨v, hv, r⟩ := h.ent i e q
  refine ⟨v, hv, ?_⟩
  cases e with
  | v d => exact (rep_nb d v).mpr r
  | own ds =>
    obtain ⟨a, vs, q1, q2, q3, q4⟩ := r
    exact ⟨a, vs, q1, q2, q3, (reps_nb _ _).mpr q4⟩
  | new c fs =>
    obtain ⟨a, d, vs, q1, q2, q3, q4, q5⟩ := r
    exact ⟨a, d, vs, q1, q2, q3, q4, (reps_nb _ _).mpr q5⟩
  | ex c fs => exact fun a d cls hc => nomatch hc
  | mob c fs =>
    obtain ⟨a, d, vs, q1, q2, q3, q4, q5, q6⟩ := r
    exact ⟨a, d, vs, q1, q2, q3, q4, (freps_nb _ _).mpr q5, q6⟩
theorem EnvRep.bn {T : Tab} {P H : Hp} {e : EV} {x : V} (h : EnvRep T.nb P H e x) (ho : ∀ c fs, e ≠ .ex c fs) : EnvRep T P H e x := by
  cases e with
  | v d => exact (rep_nb d x).mp h
  | own ds =>
    obtain ⟨a, vs, q1, q2, q3, q4⟩ := h
    exact ⟨a, vs, q1, q2, q3, (reps_nb _ _).mp q4⟩
  | new c fs =>
    obtain ⟨a, d, vs, q1, q2, q3, q4, q5⟩ := h
    exact ⟨a, d, vs, q1, q2, q3, q4, (reps_nb _ _).mp q5⟩
  | ex c fs => exact absurd rfl (ho c fs)
  | mob c fs =>
    obtain ⟨a, d, vs, q1, q2, q3, q4, q5, q6⟩ := h
    exact ⟨a, d, vs, q1, q2, q3, q4, (freps_nb _ _).mp q5, q6⟩
theorem KRep.bn {T : Tab} {k : Kd} {env : Env} {σ : L2.St} {P H : Hp} {d : D} {x : V} (h : KRep T.nb k env σ P H d x) : KRep T k env σ P H d x := by
  cases k with
  | pure => exact (rep_nb d x).mp h
  | fresh => obtain ⟨a, vs, ds, q1, q2, q3, q4, q5, q6⟩ := h; exact ⟨a, vs, ds, q1, q2, q3, q4, (reps_nb _ _).mp q5, q6⟩
  | own i => exact h
theorem ExRep.bn {T : Tab} {P : Hp} {c : Nat} {fs : List D} {cls : Value} {dd : Option Addr} (h : ExRep T.nb P c fs cls dd) : ExRep T P c fs cls dd := by
  obtain ⟨q1, q2⟩ := h
  refine ⟨q1, ?_⟩
  rcases q2 with q2 | ⟨dx, xfs, vs, w1, w2, w3, w4⟩
  · exact .inl q2
  · exact .inr ⟨dx, xfs, vs, w1, w2, w3, (reps_nb _ _).mp w4⟩
end Ue
set_option linter.all false
set_option Elab.async false
set_option maxRecDepth 100000
set_option maxHeartbeats 4000000
namespace Ue
open PySem PySem.Spec PyProof.Rows L2
def spF (T : Tab) (kr : Kd) (n : Nat) (F : FM) : Sp := fun vs H Q E => ∃ (as : List EV) (P : Hp), Rel T.nb (as.map some) (vs.map some) P H ∧ vs.length = n ∧
  match F as with
  | .ok d as' => ∀ P' H' x, Rel T.nb (as'.map some) (vs.map some) P' H' → Fr (as.map some) (vs.map some) P H (as'.map some) (vs.map some) P' H' → KRep T.nb kr (as'.map some) (vs.map some) P' H' d x → NewV kr H x → Q x H'
  | .exc c fs as' => ∀ P' H' cls dd, Rel T.nb (as'.map some) (vs.map some) P' H' → Fr (as.map some) (vs.map some) P H (as'.map some) (vs.map some) P' H' → ExRep T.nb P' c fs cls dd → E cls dd H'
  | .stk => False
def finA (pins : List Nat) : Nat → List EV → Env → Option (List EV)
  | _, [], _ => some []
  | i, .own _ :: as, e => (if i ∈ pins then (match e[i]? with | some (some (.own ds)) => (finA pins (i + 1) as e).map (.own ds :: ·) | _ => none) else none)
  | i, .new _ _ :: as, e => (if i ∈ pins then (match e[i]? with | some (some (.new c fs)) => (finA pins (i + 1) as e).map (.new c fs :: ·) | _ => none) else none)
  | i, .mob _ _ :: as, e => (if i ∈ pins then (match e[i]? with | some (some (.mob c fs)) => (finA pins (i + 1) as e).map (.mob c fs :: ·) | _ => none) else none)
  | i, .v d :: as, e => (finA pins (i + 1) as e).map (.v d :: ·)
  | i, .ex c fs :: as, e => (finA pins (i + 1) as e).map (.ex c fs :: ·)
def envOf (n : Nat) (as : List EV) : Env := as.map some ++ List.replicate (n - as.length) none
def kdOf (fr : Bool) : Kd := if fr then .fresh else .pure
def mobIn : List EV → Bool
  | [] => false
  | .mob _ _ :: _ => true
  | _ :: as => mobIn as
def endF (fr : Bool) (pins : List Nat) (as : List EV) (r : SR) : CRes :=
  match r with
  | .nx e => if fr then .stk else (match finA pins 0 as e with | some as' => .ok .non as' | none => .stk)
  | .ret d e => (match finA pins 0 as e with | some as' => if fr && mobIn as then .stk else .ok d as' | none => .stk)
  | .exc c fs e => (match finA pins 0 as e with | some as' => .exc c fs as' | none => .stk)
  | _ => .stk
def runF (fr : Bool) (n : Nat) (pins : List Nat) (body : MS) : FM := fun as => endF fr pins as (body (envOf n as))
section
variable {T : Tab} {pins : List Nat} {env env' : Env} {σ σ' : L2.St} {P H P' H' : Hp} {as as' : List EV} {vs : List V} {N : List Str}
theorem start_get {i : Nat} {x : V} (h : (L2.start N vs)[i]? = some (some x)) : (vs.map some)[i]? = some (some x) := by
  unfold L2.start at h
  by_cases hi : i < vs.length
  · rw [List.getElem?_append_left (by simpa using hi)] at h; exact h
  · rw [List.getElem?_append_right (by simpa using hi), List.getElem?_replicate] at h
    split at h <;> cases h
theorem start_lt {i : Nat} (hi : i < vs.length) : (L2.start N vs)[i]? = (vs.map some)[i]? := by
  unfold L2.start; rw [List.getElem?_append_left (by simpa using hi)]
theorem envOf_get {n i : Nat} {e : EV} (h : (envOf n as)[i]? = some (some e)) : (as.map some)[i]? = some (some e) ∧ i < as.length := by
  unfold envOf at h
  by_cases hi : i < as.length
  · rw [List.getElem?_append_left (by simpa using hi)] at h; exact ⟨h, hi⟩
  · rw [List.getElem?_append_right (by simpa using hi), List.getElem?_replicate] at h
    split at h <;> cases h
theorem envOf_lt {n i : Nat} (hi : i < as.length) : (envOf n as)[i]? = (as.map some)[i]? := by
  unfold envOf; rw [List.getElem?_append_left (by simpa using hi)]
theorem Rel.pad (R1 : Rel T (as.map some) (vs.map some) P H) (hn : as.length ≤ N.length) : Rel T (envOf N.length as) (L2.start N vs) P H ∧ ∀ J b, Own (envOf N.length as) (L2.start N vs) J b ↔ Own (as.map some) (vs.map some) J b := by
  have hl : as.length = vs.length := by simpa using R1.len
  refine ⟨⟨R1.sub, fun i e h => ?_, fun i j e f x y a n h1 h2 o1 o2 s1 s2 t1 t2 => ?_, ?_⟩, fun J b => ⟨fun ⟨i, e, x, h1, h2, h3, h4⟩ => ⟨i, e, x, (envOf_get h1).1, h2, start_get h3, h4⟩, fun ⟨i, e, x, h1, h2, h3, h4⟩ => ?_⟩⟩
  · obtain ⟨h1, h2⟩ := envOf_get h
    obtain ⟨v, hv, r⟩ := R1.ent i e h1
    exact ⟨v, by rw [start_lt (by omega)]; exact hv, r⟩
  · exact R1.dis i j e f x y a n (envOf_get h1).1 (envOf_get h2).1 o1 o2 (start_get s1) (start_get s2) t1 t2
  · unfold envOf L2.start; simp [hl]
  · have hi : i < as.length := by
      rcases Nat.lt_or_ge i as.length with q | q
      · exact q
      · rw [List.getElem?_eq_none (by simpa using q)] at h1; cases h1
    exact ⟨i, e, x, by rw [envOf_lt hi]; exact h1, h2, by rw [start_lt (by omega)]; exact h3, h4⟩
theorem mobIn_get : ∀ {as : List EV} {j : Nat} {c : Nat} {fs : List FV}, mobIn as = false → as[j]? = some (.mob c fs) → False
  | [], j, c, fs, _, h => by simp at h
  | f :: as, 0, c, fs, h, h2 => by simp at h2; subst h2; cases h
  | f :: as, j + 1, c, fs, h, h2 => by
    refine mobIn_get (as := as) (j := j) ?_ (by simpa using h2)
    cases f with
    | mob _ _ => cases h
    | _ => exact h
theorem finA_cons {f : EV} {as as' : List EV} {j : Nat} {e : Env} (h : finA pins j (f :: as) e = some as') : ∃ g as2, as' = g :: as2 ∧ finA pins (j + 1) as e = some as2 ∧
    ((g = f ∧ f.isOwn = false) ∨ (f.isOwn = true ∧ g.isOwn = true ∧ j ∈ pins ∧ e[j]? = some (some g))) := by
  have pl : ∀ g : EV, g = f → f.isOwn = false → (finA pins (j + 1) as e).map (g :: ·) = some as' → ∃ g as2, as' = g :: as2 ∧ finA pins (j + 1) as e = some as2 ∧ ((g = f ∧ f.isOwn = false) ∨ (f.isOwn = true ∧ g.isOwn = true ∧ j ∈ pins ∧ e[j]? = some (some g))) := fun g hg ho h => by
    cases q : finA pins (j + 1) as e with
    | none => rw [q] at h; cases h
    | some as2 => rw [q] at h; cases h; exact ⟨g, as2, rfl, rfl, .inl ⟨hg, ho⟩⟩
  have ow : ∀ g : EV, f.isOwn = true → g.isOwn = true → j ∈ pins → e[j]? = some (some g) → (finA pins (j + 1) as e).map (g :: ·) = some as' → ∃ g as2, as' = g :: as2 ∧ finA pins (j + 1) as e = some as2 ∧ ((g = f ∧ f.isOwn = false) ∨ (f.isOwn = true ∧ g.isOwn = true ∧ j ∈ pins ∧ e[j]? = some (some g))) := fun g hf hg hp he h => by
    cases q : finA pins (j + 1) as e with
    | none => rw [q] at h; cases h
    | some as2 => rw [q] at h; cases h; exact ⟨g, as2, rfl, rfl, .inr ⟨hf, hg, hp, he⟩⟩
  cases f with
  | v d => exact pl _ rfl rfl h
  | ex c fs => exact pl _ rfl rfl h
  | own d0 =>
    unfold finA at h
    by_cases hp : j ∈ pins
    · rw [if_pos hp] at h
      cases q : e[j]? with
      | none => rw [q] at h; cases h
      | some o =>
        cases o with
        | none => rw [q] at h; cases h
        | some v =>
          cases v with
          | own ds => rw [q] at h; exact q ▸ ow (.own ds) rfl rfl hp q h
          | _ => rw [q] at h; cases h
    · rw [if_neg hp] at h; cases h
  | new c0 d0 =>
    unfold finA at h
    by_cases hp : j ∈ pins
    · rw [if_pos hp] at h
      cases q : e[j]? with
      | none => rw [q] at h; cases h
      | some o =>
        cases o with
        | none => rw [q] at h; cases h
        | some v =>
          cases v with
          | new c ds => rw [q] at h; exact q ▸ ow (.new c ds) rfl rfl hp q h
          | _ => rw [q] at h; cases h
    · rw [if_neg hp] at h; cases h
  | mob c0 d0 =>
    unfold finA at h
    by_cases hp : j ∈ pins
    · rw [if_pos hp] at h
      cases q : e[j]? with
      | none => rw [q] at h; cases h
      | some o =>
        cases o with
        | none => rw [q] at h; cases h
        | some v =>
          cases v with
          | mob c ds => rw [q] at h; exact q ▸ ow (.mob c ds) rfl rfl hp q h
          | _ => rw [q] at h; cases h
    · rw [if_neg hp] at h; cases h
theorem finA_get : ∀ {as as' : List EV} {j : Nat} {e : Env}, finA pins j as e = some as' → as'.length = as.length ∧ ∀ i f, as'[i]? = some f → (f.isOwn = false ∧ as[i]? = some f) ∨ (f.isOwn = true ∧ ∃ f0, f0.isOwn = true ∧ as[i]? = some f0 ∧ j + i ∈ pins ∧ e[j + i]? = some (some f))
  | [], as', j, e, h => by cases h; exact ⟨rfl, fun i f h => by simp at h⟩
  | f0 :: as, as', j, e, h => by
    obtain ⟨g, as2, rfl, h2, hg⟩ := finA_cons h
    obtain ⟨l, k⟩ := finA_get h2
    refine ⟨by simp [l], fun i f hf => ?_⟩
    cases i with
    | zero =>
      simp at hf; subst hf
      rcases hg with ⟨rfl, ho⟩ | ⟨h3, h4, h5, h6⟩
      · exact .inl ⟨ho, rfl⟩
      · exact .inr ⟨h4, f0, h3, rfl, h5, h6⟩
    | succ i =>
      simp only [List.getElem?_cons_succ] at hf ⊢
      have := k i f hf
      rwa [show j + 1 + i = j + (i + 1) by omega] at this
theorem Rel.out (R1 : Rel T (as.map some) (vs.map some) P H) (hn : as.length ≤ N.length) (hf : finA pins 0 as env' = some as') (R2 : Rel T env' σ' P' H') (F2 : Fr (envOf N.length as) (L2.start N vs) P H env' σ' P' H') (hp : FrP pins (L2.start N vs) σ') :
    Rel T (as'.map some) (vs.map some) P' H' ∧ Fr (as.map some) (vs.map some) P H (as'.map some) (vs.map some) P' H' ∧ ∀ J b, Own (as'.map some) (vs.map some) J b → Own env' σ' J b := by
  obtain ⟨hl, hk⟩ := finA_get hf
  have hlv : as.length = vs.length := by simpa using R1.len
  obtain ⟨_, o1⟩ := R1.pad hn
  have get : ∀ i e, (as'.map some)[i]? = some (some e) → as'[i]? = some e := fun i e h => by
    rw [List.getElem?_map] at h
    cases q : as'[i]? with
    | none => rw [q] at h; cases h
    | some f => rw [q] at h; cases h; rfl
  have σeq : ∀ i, i ∈ pins → i < vs.length → σ'[i]? = (vs.map some)[i]? := fun i hi hv => by rw [hp i hi, start_lt hv]
  have lt : ∀ i e, as'[i]? = some e → i < vs.length := fun i e h => by
    rcases Nat.lt_or_ge i as'.length with q | q
    · omega
    · rw [List.getElem?_eq_none q] at h; cases h
  have ow : ∀ J b, Own (as'.map some) (vs.map some) J b → Own env' σ' J b := fun J b ⟨i, e, x, h1, h2, h3, h4⟩ => by
    have h1 := get i e h1
    rcases hk i e h1 with ⟨o, _⟩ | ⟨o, f0, o0, q1, q2, q3⟩
    · rw [h2] at o; cases o
    · rw [Nat.zero_add] at q2 q3
      exact ⟨i, _, x, q3, h2, by rw [σeq i q2 (lt i _ h1)]; exact h3, h4⟩
  refine ⟨⟨R2.sub, fun i e h => ?_, fun i j e f x y a n h1 h2 o1 o2 s1 s2 t1 t2 => ?_, by simp [hl, hlv]⟩, ⟨fun b u h n => ?_, fun b h n z => ?_, F2.mono, fun b h => ?_, F2.there⟩, ow⟩
  · have h := get i e h
    have hi := lt i e h
    rcases hk i e h with ⟨o, q⟩ | ⟨o, f0, o0, q1, q2, q3⟩
    · obtain ⟨v, hv, r⟩ := R1.ent i e (by rw [List.getElem?_map, q]; rfl)
      refine ⟨v, hv, r.grow F2.mono fun b u _ _ o' _ => ?_⟩
      rw [o] at o'; cases o'
    · rw [Nat.zero_add] at q2 q3
      obtain ⟨v, hv, r⟩ := R2.ent i _ q3
      exact ⟨v, by rw [← σeq i q2 hi]; exact hv, r⟩
  · have h1 := get i e h1
    have h2 := get j f h2
    rcases hk i e h1 with ⟨o, _⟩ | ⟨o, f0, o0, q1, q2, q3⟩
    · rw [o1] at o; cases o
    · rcases hk j f h2 with ⟨o, _⟩ | ⟨o', f0', o0', w1, w2, w3⟩
      · rw [o2] at o; cases o
      · rw [Nat.zero_add] at q2 q3 w2 w3
        exact R2.dis i j _ _ x y a n q3 w3 o1 o2 (by rw [σeq i q2 (lt i _ h1)]; exact s1) (by rw [σeq j w2 (lt j _ h2)]; exact s2) t1 t2
  · exact F2.keep b u h fun z => n ((o1 H b).mp z)
  · exact F2.own b h (fun q => n ((o1 H b).mp q)) (ow H' b z)
  · rcases F2.new b h with q | q | q
    · exact .inl q
    · exact .inr (.inl q)
    · exact .inr (.inr ((o1 H b).mp q))
section
variable {P : Program} {w : World} {K : PySem.W.Frag} {mg : Str → Option Value} {base : Heap} {Z : CXT} {j k : Nat} {f : Addr} {fd : FuncData} {ps N : List Str} {sp : Sp}
theorem deeper_guards {A : Around} {e : PySem.Env} : (A.deeper e).guards = A.guards := by first | rfl | simp [Around.deeper]
theorem make_guards {A : Around} {C : Addr} {us : List Value} {kw : List (Str × Value)} : (A.under (.builtin "type.__call__" ⟨.ref C :: us, kw⟩)).guards = A.guards := by
  first | rfl | simp [Around.under, Code.guards, Code.isGuard, guardIds, pushGuards]
theorem funG {x qual : Str} {params : Arguments} {body : List Stmt} {scope : Scope} {dvs : List V} {kws : List (Str × V)} (F : FunD K x qual params body scope dvs kws f fd) (S : FnScope N ps scope) (len : ∀ vs H Q E, sp vs H Q E → vs.length = ps.length)
    (hb : ∀ (cdv : Value) (B : Around) (o : List PySem.Env) (t : Shared) (H : Hp) (vs : List V) (Q : VK) (E : XK), B.guards = some [] → Room k (B.deeper (PyProof.Rows.envOfC qual scope t.heap.objs.size f cdv)) → sp vs H Q E →
      ∃ u, PSs (cxOf Z P w K mg base N qual scope f cdv B o t H E) body u ∧ u { nx := fun _ J => Q .non J, rt := Q } (L2.start N vs) H) : FnG P w K mg base Z (k + 1) f fd ps sp := by
  obtain ⟨oc, od, dV, kV, doc, pm, an, cdv, ct, osl, rfl, at_, code, _, _⟩ := F.ex
  refine ⟨len, fun B o t H ar us vs Q E g room e0 bnd rel hsp => ?_⟩
  have lenV := len vs H Q E hsp
  have up : ∀ b u, base.get? b = some u → t.heap.get? b = some u := fun b u e => (e0.bs b u e).1
  have there := (e0.mod.kin.keeps up) _ _ at_
  have par : ∀ q ∈ ps.zip us, scope.names.lookup q.1 = some .local ∨ (scope.names.lookup q.1 = some .cell ∧ ((cellsFrom (t.heap.objs.size + 1) scope.names []).lookup q.1).isSome = true) := fun q hq =>
    (S.par q.1 (List.of_mem_zip (a := q.1) (b := q.2) hq).1).imp_right fun z => ⟨z, PySem.W.cellsFrom_some _ _ _ (.inl z)⟩
  refine codeAny_call_function room.depth there rfl S.co S.gen rfl (PySem.W.codeRec_of (e0.mod.kin.keeps up) code) (bnd _ _ _ _ ?_)
  refine wpAny_newFunctionEnv_cells S.kind par fun ev hev t1 x => ?_
  subst hev
  refine ⟨(e0.mod.nolimit.keeps up).keeps x.toInCall.keep, codeAny_func ?_⟩
  obtain ⟨u, hu, q⟩ := hb cdv B o t H vs Q E g (room.deeper _) hsp
  have fin : ∀ {σ' : L2.St} {J : Hp} {v : V} {z : Value} {t' : Shared}, Inv (cxOf Z P w K mg base N qual scope f cdv B o t H E) [] σ' J t' → RelV v z → Q v J → CE o P w H t Q z t' := fun {σ' J v z t'} I rv qv => ⟨v, J, I.os, I.bare, I.base, I.hok, rv, qv⟩
  refine wpAny_mono (hu.run [] t1 (L2.start N vs) H _ (inv_start S room.hd e0 lenV rel x) q) (fun fl t' hs => ?_) fun _ _ hs => hs
  match fl, hs with
  | .ret z, ⟨v, σ', J, I, rv, qv⟩ => exact fin I rv qv
  | .next, ⟨σ', J, I, qv⟩ => exact fin (v := V.non) (z := Value.none) I rfl qv
  | .brk, ⟨_, _, _, qv⟩ => exact False.elim qv
  | .cont, ⟨_, _, _, qv⟩ => exact False.elim qv
end
section
variable {X : Cx} {Z : CXT} {k : Nat} {f : Addr} {fd : FuncData} {ps : List Str} {sp : Sp} {dvs : List V} {ds : List Value} {x : Str} {p pos : Pos} {e : Expr} {es : List Expr} {t : TA} {pins : List (Addr × Obj)} {σ : L2.St} {H : Hp} {s : Shared} {Q : VK}
theorem FnG.code {ar : Args} {us : List Value} {vs : List V} {E : XK} (F : FnG X.prog X.w X.K X.mg X.base Z k f fd ps sp) (gd : X.A.guards = some []) (hr : Room k X.A) (hx : PassesAt Z X σ E) (I : Inv X pins σ H s) (hb : BindsTo s fd ar (ps.zip us)) (r : Vals vs us) (h : sp vs H Q E) :
    codeAny (model X.prog X.w) X.A (.call (.ref f) ar) (fun r t => match r with | .ok (.ret u) => EP X pins σ Q u t | .ok _ => False | .error er => X.xe er t) s := by
  refine codeAny_mono (F.go X.A X.stack s H ar us vs Q E gd hr I.env0 hb r h) fun res t hq => ?_
  match res, hq with
  | .error er, hq => exact hx pins H s er t I hq
  | .ok (.ret u), hq => exact I.after hq
  | .ok .next, hq => exact hq
  | .ok .brk, hq => exact hq
  | .ok .cont, hq => exact hq
theorem runG {us : List Value} {vs : List V} {E : L2.St → XK} (F : FnG X.prog X.w X.K X.mg X.base Z k f fd ps sp) (gd : X.A.guards = some []) (hr : Room k X.A) (hb : Binds X.K fd ps ds) (hd : Vals dvs ds) (hx : PassesAt Z X σ (E σ)) (I : Inv X pins σ H s) (r : Vals vs us) (h : sp (vs ++ dvs) H Q (E σ)) :
    wpAny (model X.prog X.w) X.A (call (.ref f) us) (EP X pins σ Q) X.xe s := by
  have rr : Vals (vs ++ dvs) (us ++ ds) := r.append hd
  exact wpAny_call (F.code gd hr hx I (hb s us I.kIn (rr.length.symm.trans (F.len _ _ _ _ h))) rr h)
theorem pe_callG {E : L2.St → XK} (F : FnG X.prog X.w X.K X.mg X.base Z k f fd ps sp) (gd : X.A.guards = some []) (hr : Room k X.A) (hg : Gl X x) (hm : X.mg x = some (.ref f)) (hk : PySem.W.keepIn X.K (.ref f) = true) (hb : Binds X.K fd ps ds) (hd : Vals dvs ds) (hx : ∀ σ, PassesAt Z X σ (E σ))
    (ha : PA X (e :: es) t) (hdb : (x == ("__debug__" : Str)) = false) (he : starEach (e :: es) X.env = (false, eval e X.env) :: starEach es X.env) (hpl : (backTo pos (starEach es X.env)).any (·.1) = false) :
    PE X (.Call (.Name x p) (e :: es) [] pos) (tCallSD sp dvs E t) := ⟨fun pins s σ H Q I h =>
  wpAny_Call_Name_kw (ld_glob I hg hm (PySem.W.callWith_K (h₀ := X.base) I.ok.mod.kin hk (thn (ha.run pos pins s σ H _ I h) fun us s1 ⟨vs, H1, I1, r, q⟩ => ⟨I1.kIn, runG F gd hr hb hd (hx σ) I1 r q⟩) he hpl) hdb)⟩
end
theorem fn_ok {prog : Program} {w : World} {K : PySem.W.Frag} {mg : Str → Option Value} {base : Heap} {x qual : Str} {params : Arguments} {body : List Stmt} {scope : Scope} {dvs : List V} {kws : List (Str × V)} {f : Addr} {fd : FuncData} {ps : List Str} {k : Nat} {fr : Bool} {m : MS}
    (F : FunD K x qual params body scope dvs kws f fd) (S : FnScope N ps scope) (hps : ps.length ≤ N.length) (hT : T.nb = T)
    (hb : ∀ (cdv : Value) (A : Around) (outer : List PySem.Env) (s : Shared) (H : Hp) (E : XK), A.guards = some [] → Room k (A.deeper (PyProof.Rows.envOfC qual scope s.heap.objs.size f cdv)) →
      DSs T (fun cls d _ H => E cls d H) (kdOf fr) pins (cxOf (CX prog w) prog w K mg base N qual scope f cdv A outer s H E) body m) : FnG prog w K mg base (CX prog w) (k + 1) f fd ps (spF T (kdOf fr) ps.length (runF fr N.length pins m)) := by
  refine funG F S (fun vs H Q E h => ?_) fun cdv A outer s H vs Q E hgd hr h => ?_
  · obtain ⟨as, P, _, hl, _⟩ := h
    exact hl
  · obtain ⟨as, P, R1, hl, h⟩ := h
    rw [hT] at R1 h
    have hla : as.length = vs.length := by simpa using R1.len
    have hn : as.length ≤ N.length := by omega
    refine ⟨_, hb cdv A outer s H E hgd hr, envOf N.length as, P, (R1.pad hn).1, ?_⟩
    unfold runF endF at h
    cases e1 : m (envOf N.length as) with
    | nx e2 =>
      rw [e1] at h
      cases fr with
      | true => exact False.elim h
      | false =>
      intro σ' P' H' R2 F2 p2
      cases e3 : finA pins 0 as e2 with
      | none => (simp only [e3] at h) <;> exact False.elim h
      | some as' =>
        simp only [e3] at h
        obtain ⟨R3, F3, o3⟩ := R1.out hn e3 R2 F2 p2
        exact h P' H' .non R3 F3 (show Rep T P' .non .non from rep_non) trivial
    | ret d e2 =>
      rw [e1] at h
      intro σ' P' H' x R2 F2 p2 kx nx
      cases e3 : finA pins 0 as e2 with
      | none => (simp only [e3] at h) <;> exact False.elim h
      | some as' =>
        simp only [e3] at h
        obtain ⟨R3, F3, o3⟩ := R1.out hn e3 R2 F2 p2
        cases fr with
        | false => exact h P' H' x R3 F3 kx trivial
        | true =>
          obtain ⟨a, ws, ds, q1, q2, q3, q4, q5, q6⟩ := kx
          cases hm : mobIn as with
          | true => rw [hm] at h; exact h.elim
          | false =>
          rw [hm] at h
          refine h P' H' x R3 F3 ⟨a, ws, ds, q1, q2, q3, fun z => q4 (o3 H' a z), q5, q6⟩ ⟨a, q1, ?_⟩
          obtain ⟨a', ea, ha⟩ := nx
          rw [q1] at ea; cases ea
          rcases ha with ha | ha
          · exact ha
          · obtain ⟨_, o1⟩ := R1.pad hn
            obtain ⟨j, f, x', z1, z2, z3, z4⟩ := (o1 H a).mp ha
            have nm : ∀ c fs, f ≠ .mob c fs := fun c fs e => by
              subst e
              rw [List.getElem?_map] at z1
              cases w : as[j]? with
              | none => rw [w] at z1; cases z1
              | some g => rw [w] at z1; cases z1; exact mobIn_get hm w
            have ex := z4.plain nm
            subst ex
            obtain ⟨hl2, hk2⟩ := finA_get e3
            have hj : j < as'.length := by
              rcases Nat.lt_or_ge j as.length with q | q
              · omega
              · rw [List.getElem?_eq_none (by simpa using q)] at z1; cases z1
            exfalso
            have hj2 := List.getElem?_eq_getElem hj
            rcases hk2 j _ hj2 with ⟨w1, w2⟩ | ⟨w1, f0, w0, w2, w3, w4⟩
            · rw [List.getElem?_map, w2] at z1; cases z1; rw [w1] at z2; cases z2
            · refine q4 (o3 H' a ⟨j, _, _, ?_, w1, z3, .here⟩)
              rw [List.getElem?_map, hj2]; rfl
    | exc c fs e2 =>
      rw [e1] at h
      intro σ' P' H' cls dd R2 F2 p2 x
      cases e3 : finA pins 0 as e2 with
      | none => (simp only [e3] at h) <;> exact False.elim h
      | some as' =>
        simp only [e3] at h
        obtain ⟨R3, F3, o3⟩ := R1.out hn e3 R2 F2 p2
        exact h P' H' cls dd R3 F3 x
    | brk e2 => rw [e1] at h; exact False.elim h
    | cnt e2 => rw [e1] at h; exact False.elim h
    | stk => rw [e1] at h; exact False.elim h
end
end Ue
set_option linter.all false
set_option Elab.async false
set_option maxRecDepth 100000
set_option maxHeartbeats 4000000
namespace Ue
open PySem L2
def argG : List Ag → Env → R (List AD)
  | [], e => .ok [] e
  | .p m :: as, e => (m e).bind fun d e1 => (argG as e1).bind fun ds e2 => .ok (.d d :: ds) e2
  | .o i :: as, e => match e[i]? with
    | some (some (.own _)) => (argG as e).bind fun ds e2 => .ok (.s i :: ds) e2
    | some (some (.mob _ _)) => (argG as e).bind fun ds e2 => .ok (.s i :: ds) e2
    | _ => .stk
def fnM (F : FM) (ags : List Ag) (dfl : List D) : M := fun env => (argG ags env).bind fun ss e => match resA ss e with
  | none => .stk
  | some as => if fewO ss then (match F (as ++ dfl.map EV.v) with
    | .ok d as' => .ok d (putA ss as' e)
    | .exc c fs as' => .exc c fs (putA ss as' e)
    | .stk => .stk) else .stk
def rdP (T : Tab) (W : WX) (ags : List Ag) : TA := fun σ H Q => ∃ env P, Rel T env σ P H ∧ After T W σ env P H (argG ags env) (fun ss env' P' H' => ∀ xs, SReps T σ P' ss xs → Q xs H')
def GA (T : Tab) (W : WX) (X : Cx) (es : List Expr) (ags : List Ag) : Prop := PA X es (rdP T W ags)
section
variable {T : Tab} {W : WX} {kr : Kd} {pins : List Nat} {env env' : Env} {σ σ' : L2.St} {P H P' H' : Hp} {X : Cx} {pos : Pos} {e : Expr} {es : List Expr} {m : M} {ags : List Ag}
theorem ga_nil : GA T W X [] [] := pa_imp pa_nil fun σ H Q h => by
  obtain ⟨env, P, RR, h⟩ := h
  exact h.here RR (Fr.refl _ _ _ _) _ .nil
theorem ga_p (h : DE T W X e .pure m) (h' : GA T W X es ags) (hst : starEach (e :: es) X.env = (false, eval e X.env) :: starEach es X.env := by rfl) : GA T W X (e :: es) (.p m :: ags) := pa_imp (pa_cons h h' hst) fun σ H Q h => by
  obtain ⟨env, P, RR, h⟩ := h
  refine ⟨env, P, RR, After.mono h.bind fun d env1 P1 H1 R1 F1 h1 x kx nx => ?_⟩
  refine ⟨env1, P1, R1, After.mono h1.bind fun ss env2 P2 H2 R2 F2 h2 xs kxs => ?_⟩
  exact h2.here R2 (Fr.refl _ _ _ _) _ (.d (Rep.sub F2.mono _ _ kx) kxs)
theorem ga_o {i : Nat} {x : Str} {p : Pos} (h : PE X (.Name x p) (tVar i)) (h' : GA T W X es ags) (hst : starEach ((.Name x p) :: es) X.env = (false, eval (.Name x p) X.env) :: starEach es X.env := by rfl) : GA T W X ((.Name x p) :: es) (.o i :: ags) := pa_imp (pa_cons h h' hst) fun σ H Q h => by
  obtain ⟨env, P, RR, h⟩ := h
  unfold argG at h
  cases e0 : env[i]? with
  | none => rw [e0] at h; exact False.elim h
  | some o =>
    cases o with
    | none => rw [e0] at h; exact False.elim h
    | some v =>
      cases v with
      | own ds =>
        rw [e0] at h
        obtain ⟨u, hu, _⟩ := RR.ent i _ e0
        refine ⟨u, hu, env, P, RR, After.mono h.bind fun ss env2 P2 H2 R2 F2 h2 xs kxs => ?_⟩
        exact h2.here R2 (Fr.refl _ _ _ _) _ (.s hu kxs)
      | mob c fs =>
        rw [e0] at h
        obtain ⟨u, hu, _⟩ := RR.ent i _ e0
        refine ⟨u, hu, env, P, RR, After.mono h.bind fun ss env2 P2 H2 R2 F2 h2 xs kxs => ?_⟩
        exact h2.here R2 (Fr.refl _ _ _ _) _ (.s hu kxs)
      | _ => rw [e0] at h; exact False.elim h
theorem resA_v : ∀ (ss : List AD) (as : List EV) (j : Nat) (i : Nat) (d : D), resA ss env = some as → ss[j]? = some (.s i) → as[j]? = some (.v d) → False
  | [], _, _, _, _, _, h, _ => by simp at h
  | .d x :: ss, as, j, i, d, h1, h2, h3 => by
    have h1 : (resA ss env).map (EV.v x :: ·) = some as := h1
    cases c : resA ss env with
    | none => rw [c] at h1; cases h1
    | some as2 =>
      rw [c] at h1; cases h1
      cases j with
      | zero => simp at h2
      | succ j => simp only [List.getElem?_cons_succ] at h2 h3; exact resA_v ss as2 j i d c h2 h3
  | .s i0 :: ss, as, j, i, d, h1, h2, h3 => by
    obtain ⟨g, as2, e0, o, c, rfl⟩ := resA_own h1
    cases j with
    | zero => simp at h3; subst h3; cases o
    | succ j => simp only [List.getElem?_cons_succ] at h2 h3; exact resA_v ss as2 j i d c h2 h3
theorem own_none : ∀ {ss : List AD} {k : Nat}, ownIx k ss = none → ∀ (j i : Nat), ss[j]? ≠ some (AD.s i)
  | [], k, _, j, i => by simp
  | .d x :: ss, k, h, j, i => by
    cases j with
    | zero => simp
    | succ j => simp only [List.getElem?_cons_succ]; exact own_none (show ownIx (k + 1) ss = none from h) j i
  | .s i0 :: ss, k, h, j, i => by cases h
theorem ownIx_at : ∀ (ss : List AD) (k j i : Nat), ownIx k ss = some (j, i) → k ≤ j ∧ ss[j - k]? = some (.s i)
  | [], k, j, i, h => by cases h
  | .d x :: ss, k, j, i, h => by
    obtain ⟨h1, h2⟩ := ownIx_at ss (k + 1) j i h
    refine ⟨by omega, ?_⟩
    rw [show j - k = (j - (k + 1)) + 1 by omega, List.getElem?_cons_succ]; exact h2
  | .s i0 :: ss, k, j, i, h => by cases h; simp
theorem Rel.back {ss : List AD} {as as' : List EV} {xs dvs : List V} {dfl : List D} (RR : Rel T env σ P H) (hr : resA ss env = some as) (hf : fewO ss = true) (hs : SReps T σ P ss xs) (hd : Reps T P dfl dvs)
    (R2 : Rel T.nb (as'.map some) ((xs ++ dvs).map some) P' H') (F2 : Fr ((as ++ dfl.map EV.v).map some) ((xs ++ dvs).map some) P H (as'.map some) ((xs ++ dvs).map some) P' H') :
    Rel T (putA ss as' env) σ P' H' ∧ Fr env σ P H (putA ss as' env) σ P' H' ∧ ∀ b, Own (putA ss as' env) σ H' b → Own env σ H b ∨ Own (as'.map some) ((xs ++ dvs).map some) H' b := by
  obtain ⟨R1, o1⟩ := RR.call hr hf hs hd
  have la := resA_len hr
  have lx := hs.len
  have l2 : as'.length = (xs ++ dvs).length := by simpa using R2.len
  have getx : ∀ (j : Nat) (v : V), xs[j]? = some v → ((xs ++ dvs).map some)[j]? = some (some v) := fun j v h => by
    have hj : j < xs.length := by
      rcases Nat.lt_or_ge j xs.length with q | q
      · exact q
      · rw [List.getElem?_eq_none q] at h; cases h
    rw [List.getElem?_map, List.getElem?_append_left hj, h]; rfl
  -- the slots: the one that was handed, all others
  have key : ∀ (l : Nat) (f : EV), (putA ss as' env)[l]? = some (some f) → (∃ (j : Nat) (g : EV) (v : V), ss[j]? = some (AD.s l) ∧ as'[j]? = some f ∧ g.isOwn = true ∧ env[l]? = some (some g) ∧ xs[j]? = some v ∧ σ[l]? = some (some v) ∧ ∀ c fs, f ≠ .ex c fs) ∨ (env[l]? = some (some f) ∧ ∀ (j : Nat), ss[j]? ≠ some (AD.s l)) := fun l f h => by
    unfold putA at h
    cases q : ownIx 0 ss with
    | none => rw [q] at h; exact .inr ⟨h, fun j => own_none q j l⟩
    | some p =>
      obtain ⟨j, i⟩ := p
      rw [q] at h
      have hj : ss[j]? = some (.s i) := by
        have := (ownIx_at ss 0 j i q).2
        simpa using this
      have hja : j < as.length := by
        rcases Nat.lt_or_ge j ss.length with z | z
        · omega
        · rw [List.getElem?_eq_none z] at hj; cases hj
      have hj' : j < as'.length := by rw [l2, List.length_append]; omega
      simp only [List.getElem?_eq_getElem hj'] at h
      by_cases z : l = i
      · subst z
        rcases resA_get hr hs (List.getElem?_eq_getElem hja) with ⟨d, v, e0, q1, q2⟩ | ⟨i2, v, e0, q1, q2, q3, q4⟩
        · exact (resA_v ss as j l d hr hj (by rw [List.getElem?_eq_getElem hja, e0])).elim
        · rw [hj] at q1; cases q1
          have hil : l < env.length := by
            rcases Nat.lt_or_ge l env.length with z | z
            · exact z
            · rw [List.getElem?_eq_none z] at q2; cases q2
          rw [List.getElem?_set_self hil] at h
          have h := Option.some.inj h
          have hu : some as'[j] = some f ∧ ∀ c fs, f ≠ .ex c fs := by
            cases ea : as'[j] with
            | ex c fs => rw [ea] at h; cases h
            | v d => rw [ea] at h; cases h; exact ⟨rfl, fun _ _ z => nomatch z⟩
            | own d => rw [ea] at h; cases h; exact ⟨rfl, fun _ _ z => nomatch z⟩
            | new c d => rw [ea] at h; cases h; exact ⟨rfl, fun _ _ z => nomatch z⟩
            | mob c d => rw [ea] at h; cases h; exact ⟨rfl, fun _ _ z => nomatch z⟩
          exact .inl ⟨j, _, v, hj, by rw [List.getElem?_eq_getElem hj']; exact hu.1, e0, q2, q3, q4, hu.2⟩
      · rw [List.getElem?_set_ne (fun w => z w.symm)] at h
        refine .inr ⟨h, fun j' h' => ?_⟩
        have h3 := (few_one (k := 0) hf hj).2 j' l h'
        subst h3
        rw [hj] at h'; cases h'; exact z rfl
  have low : (putA ss as' env).length = env.length := by
    unfold putA
    split
    · rfl
    · split
      · rw [List.length_set]
      · rfl
  have ownA : ∀ b, Own ((as ++ dfl.map EV.v).map some) ((xs ++ dvs).map some) H b → Own env σ H b := fun b h => by
    obtain ⟨j, i, f, x, _, _, h0, h1, h2, h3⟩ := o1 H b h
    exact ⟨i, _, _, h1, h0, h2, h3⟩
  -- a slot that was not handed: what it holds is nobody else's, and stands
  have oth : ∀ (l : Nat) (f : EV) (x : V) (b : Addr), env[l]? = some (some f) → f.isOwn = true → σ[l]? = some (some x) → (∀ (j : Nat), ss[j]? ≠ some (AD.s l)) → Foot f x H b → ¬ Own ((as ++ dfl.map EV.v).map some) ((xs ++ dvs).map some) H b := fun l f x b h o s n t z => by
    obtain ⟨j, i, f', x', c1, _, c2, c3, c4, c5⟩ := o1 H b z
    by_cases w : l = i
    · subst w; exact n j c1
    · exact RR.dis l i f f' x x' b w h c3 o c2 s c4 t c5
  have ft : ∀ (l : Nat) (f : EV) (x : V) (b : Addr), env[l]? = some (some f) → f.isOwn = true → σ[l]? = some (some x) → (∀ (j : Nat), ss[j]? ≠ some (AD.s l)) → (Foot f x H' b ↔ Foot f x H b) := fun l f x b h o s n => by
    obtain ⟨v, hv, r⟩ := RR.ent l f h
    rw [s] at hv; cases hv
    exact r.footH fun a u ha _ hu => F2.keep a u hu (oth l f x a h o s n (.inl ha))
  have hnd : ∀ (l j : Nat) (f : EV) (v : V) (b : Addr), as'[j]? = some f → f.isOwn = true → xs[j]? = some v → Foot f v H' b → Own (as'.map some) ((xs ++ dvs).map some) H' b := fun l j f v b h o s t => ⟨j, f, v, by rw [List.getElem?_map, h]; rfl, o, getx j v s, t⟩
  have ow : ∀ b, Own (putA ss as' env) σ H' b → Own env σ H b ∨ Own (as'.map some) ((xs ++ dvs).map some) H' b := fun b ⟨l, f, x, h1, h2, h3, h4⟩ => by
    rcases key l f h1 with ⟨j, g, v, a1, a2, a0, a3, a4, a5, a6⟩ | ⟨a1, a2⟩
    · rw [h3] at a5; cases a5
      exact .inr (hnd l j f x b a2 h2 a4 h4)
    · exact .inl ⟨l, f, x, a1, h2, h3, (ft l f x b a1 h2 h3 a2).mp h4⟩
  refine ⟨⟨R2.sub, fun l f h => ?_, fun l1 l2 f g x y b n h1 h2 o1' o2' s1 s2 t1 t2 => ?_, by rw [low]; exact RR.len⟩, ⟨fun b u h n => F2.keep b u h fun z => n (ownA b z), fun b h n z => ?_, F2.mono, fun b h => ?_, F2.there⟩, ow⟩
  · rcases key l f h with ⟨j, g, v, a1, a2, a0, a3, a4, a5, a6⟩ | ⟨a1, a2⟩
    · obtain ⟨u, hu, r⟩ := R2.ent j f (by rw [List.getElem?_map, a2]; rfl)
      rw [getx j v a4] at hu
      have hu := Option.some.inj (Option.some.inj hu)
      subst hu
      exact ⟨v, a5, r.bn a6⟩
    · obtain ⟨v, hv, r⟩ := RR.ent l f a1
      refine ⟨v, hv, r.grow F2.mono fun b u h1 h2 h3 h4 => ?_⟩
      have nb := oth l f v b a1 h3 hv a2 h4
      refine ⟨F2.keep b u h1 nb, Classical.byContradiction fun z => ?_⟩
      rcases F2.new b z with q | q | q
      · exact q h2
      · rw [h1] at q; cases q
      · exact nb q
  · rcases key l1 f h1 with ⟨j, g1, v, a1, a2, a0, a3, a4, a5, a6⟩ | ⟨a1, a2⟩
    · rcases key l2 g h2 with ⟨j', g1', v', b1, b2, b0, b3, b4, b5, b6⟩ | ⟨b1, b2⟩
      · have h3 := (few_one (k := 0) hf b1).2 j l1 a1
        subst h3
        rw [a1] at b1; cases b1; exact n rfl
      · rw [s1] at a5; cases a5
        have t2' := (ft l2 g y b b1 o2' s2 b2).mp t2
        have hb : H b ≠ none := by
          obtain ⟨u, hu, _⟩ := RR.ownAt ⟨l2, g, y, b1, o2', s2, t2'⟩
          rw [hu]; exact fun z => nomatch z
        exact F2.own b hb (oth l2 g y b b1 o2' s2 b2 t2') (hnd l1 j f x b a2 o1' a4 t1)
    · have t1' := (ft l1 f x b a1 o1' s1 a2).mp t1
      rcases key l2 g h2 with ⟨j', g1', v', b1, b2, b0, b3, b4, b5, b6⟩ | ⟨b1, b2⟩
      · rw [s2] at b5; cases b5
        have hb : H b ≠ none := by
          obtain ⟨u, hu, _⟩ := RR.ownAt ⟨l1, f, x, a1, o1', s1, t1'⟩
          rw [hu]; exact fun z => nomatch z
        exact F2.own b hb (oth l1 f x b a1 o1' s1 a2 t1') (hnd l2 j' g y b b2 o2' b4 t2)
      · exact RR.dis l1 l2 f g x y b n a1 b1 o1' o2' s1 s2 t1' ((ft l2 g y b b1 o2' s2 b2).mp t2)
  · rcases ow b z with q | q
    · exact n q
    · exact F2.own b h (fun w => n (ownA b w)) q
  · rcases F2.new b h with q | q | q
    · exact .inl q
    · exact .inr (.inl q)
    · exact .inr (.inr (ownA b q))
end
end Ue
set_option linter.all false
set_option Elab.async false
set_option maxRecDepth 100000
set_option maxHeartbeats 4000000
namespace Ue
open PySem L2
section
variable {T : Tab} {W : WX} {kr : Kd} {pins : List Nat} {env env' : Env} {σ σ' : L2.St} {P H P' H' : Hp} {X : Cx} {pos : Pos} {e : Expr} {es : List Expr} {m : M} {ags : List Ag}
theorem rd_fn {F : FM} {n : Nat} {dfl : List D} {dvs : List V} {Q : VK} (hkr : kr = .pure ∨ kr = .fresh) (hdr : ∀ P, Reps T P dfl dvs) (hn : ags.length + dfl.length = n) (h : rdE T W kr (fnM F ags dfl) σ H Q) :
    tCallSD (spF T kr n F) dvs (fun σ cls d H => W cls d σ H) (rdP T W ags) σ H Q := by
  obtain ⟨env, P, RR, h⟩ := h
  refine ⟨env, P, RR, After.at h.bind fun ss env1 P1 H1 es1 R1 F1 h1 xs kxs => ?_⟩
  cases e1 : resA ss env1 with
  | none => simp only [e1] at h1; exact False.elim h1
  | some as =>
    simp only [e1] at h1
    by_cases hf : ¬ fewO ss = true
    · rw [if_neg hf] at h1; exact False.elim h1
    have hf : fewO ss = true := Classical.not_not.mp hf
    rw [if_pos hf] at h1
    obtain ⟨R2, o2⟩ := R1.call e1 hf kxs (hdr P1)
    have hlen : ∀ (ags : List Ag) (env env1 : Env) (ss : List AD), argG ags env = .ok ss env1 → ss.length = ags.length := by
      intro ags
      induction ags with
      | nil => intro env env1 ss h; cases h; rfl
      | cons a ags ih =>
        intro env env1 ss h
        cases a with
        | p m =>
          have h : (m env).bind (fun d e1 => (argG ags e1).bind fun ds e2 => R.ok (AD.d d :: ds) e2) = .ok ss env1 := h
          cases c : m env with
          | ok d e1 =>
            rw [c] at h
            have h : (argG ags e1).bind (fun ds e2 => R.ok (AD.d d :: ds) e2) = .ok ss env1 := h
            cases c2 : argG ags e1 with
            | ok ds e2 => rw [c2] at h; cases h; simp [ih _ _ _ c2]
            | exc _ _ _ => rw [c2] at h; cases h
            | stk => rw [c2] at h; cases h
          | exc _ _ _ => rw [c] at h; cases h
          | stk => rw [c] at h; cases h
        | o i =>
          unfold argG at h
          cases e0 : env[i]? with
          | none => rw [e0] at h; cases h
          | some o =>
            cases o with
            | none => rw [e0] at h; cases h
            | some v =>
              cases v with
              | own ds =>
                rw [e0] at h
                have h : (argG ags env).bind (fun ds e2 => R.ok (AD.s i :: ds) e2) = .ok ss env1 := h
                cases c2 : argG ags env with
                | ok ds e2 => rw [c2] at h; cases h; simp [ih _ _ _ c2]
                | exc _ _ _ => rw [c2] at h; cases h
                | stk => rw [c2] at h; cases h
              | mob c0 d0 =>
                rw [e0] at h
                have h : (argG ags env).bind (fun ds e2 => R.ok (AD.s i :: ds) e2) = .ok ss env1 := h
                cases c2 : argG ags env with
                | ok ds e2 => rw [c2] at h; cases h; simp [ih _ _ _ c2]
                | exc _ _ _ => rw [c2] at h; cases h
                | stk => rw [c2] at h; cases h
              | _ => rw [e0] at h; cases h
    refine ⟨as ++ dfl.map EV.v, P1, R2.nb, ?_, ?_⟩
    · rw [List.length_append, kxs.len, (hdr P1).length, hlen ags env env1 ss es1]; exact hn
    · cases e2 : F (as ++ dfl.map EV.v) with
      | ok d as' =>
        simp only [e2] at h1
        intro P2 H2 x R3 F3 kx nx
        obtain ⟨R4, F4, o4⟩ := R1.back e1 hf kxs (hdr P1) R3 F3
        refine h1 P2 H2 R4 F4 x ?_ (nx.back F1)
        rcases hkr with rfl | rfl
        · exact kx.bn
        · obtain ⟨a, ws, ds, q1, q2, q3, q4, q5, q6⟩ := kx.bn
          refine ⟨a, ws, ds, q1, q2, q3, fun z => ?_, q5, q6⟩
          obtain ⟨a', ea, ha⟩ := nx
          rw [q1] at ea; cases ea
          rcases o4 a z with w | w
          · obtain ⟨o, ho, _⟩ := R1.ownAt w
            rw [ha] at ho; cases ho
          · exact q4 w
      | exc c fs as' =>
        simp only [e2] at h1
        intro P2 H2 cls dd R3 F3 x
        obtain ⟨R4, F4, o4⟩ := R1.back e1 hf kxs (hdr P1) R3 F3
        exact h1 P2 H2 cls dd R4 F4 x.bn
      | stk => simp only [e2] at h1; exact False.elim h1
theorem de_call {F : FM} {n k : Nat} {f : Addr} {fd : FuncData} {ps : List Str} {dfl : List D} {dvs : List V} {ds : List Value} {x : Str} {p : Pos} (G : FnG X.prog X.w X.K X.mg X.base (L2.CX X.prog X.w) k f fd ps (spF T kr n F)) (hkr : kr = .pure ∨ kr = .fresh) (gd : X.A.guards = some []) (hr : Room k X.A) (hg : Gl X x) (hm : X.mg x = some (.ref f))
    (hk : PySem.W.keepIn X.K (.ref f) = true) (hb : Binds X.K fd ps ds) (hd : Vals dvs ds) (hdr : ∀ P, Reps T P dfl dvs) (tk : Takes X W) (ha : GA T W X (e :: es) ags) (hn : ags.length + dfl.length = n := by rfl)
    (hdb : (x == ("__debug__" : Str)) = false := by decide) (he : starEach (e :: es) X.env = (false, eval e X.env) :: starEach es X.env := by rfl) (hpl : (backTo pos (starEach es X.env)).any (·.1) = false := by rfl) :
    DE T W X (.Call (.Name x p) (e :: es) [] pos) kr (fnM F ags dfl) :=
  pe_imp (pe_callG (E := fun σ cls d H => W cls d σ H) G gd hr hg hm hk hb hd (fun σ => passAt tk σ) ha hdb he hpl) fun _ _ _ h => rd_fn hkr hdr hn h
structure ExcC (X : Cx) (C : Addr) : Prop where
  ox : OexC X.K C
theorem pe_dinit {D : Addr} {x : Str} {ta : TA} {p1 p2 : Pos} {pl : Sem Bool} (hg : Gl X x) (hm : X.mg x = some (.ref D)) (r : ClX.CRead X.K D (.type "type")) (vV : PySem.W.findCls X.K (.ref D) (.type "type") "__init__" = some (.val (.builtin "ValueError.__init__"))) (ha : PA X (e :: es) ta)
    (hdb : (x == ("__debug__" : Str)) = false := by decide)
    (hc : eval (.Call (.Attribute (.Name x p1) "__init__" p2) (e :: es) [] pos) X.env = (do
      let ov ← eval (.Name x p1) X.env
      standAt p2.atName
      let (f, first) ← holding [ov] (getMethod ov "__init__" pl)
      callWith pos f first (backTo pos (starEach (e :: es) X.env)) (backToKw pos (keywordEach [] X.env))) := by rfl)
    (he : starEach (e :: es) X.env = (false, eval e X.env) :: starEach es X.env := by rfl) (hpl : (backTo pos (starEach es X.env)).any (·.1) = false := by rfl) :
    PE X (.Call (.Attribute (.Name x p1) "__init__" p2) (e :: es) [] pos) (tVeI X.K ta) := ⟨fun pins s σ H Q I h => by
  refine PySem.W.methodCall_KW (ld_glob I hg hm ?_ hdb) hc
  refine PySem.W.method_cls I.kIn r.ga (PySem.W.cls_value I.kIn r.rd vV (by decide +kernel) ?_)
  refine PyProof.Rows.callWith_method1 (thn (ha.run pos pins _ σ H _ (I.tok _) h) fun us s1 hh => ?_) he hpl
  obtain ⟨vs, H1, I1, r1, a, C, ws, ev, hl, TT, ea, q⟩ := hh
  subst ev
  cases r1 with
  | @cons _ u0 _ ur ra rr =>
    have e0 : u0 = Value.ref a := ra
    subst e0
    have l1 : ur.length ≤ sizeLine := by
      have l2 := Paired.length rr
      have l3 : (1000 : Nat) ≤ sizeLine := by rw [sizeLine_eq]; decide
      omega
    exact oinit_ok TT I1 ea l1 fun s2 I2 => ⟨.non, H1, I2, rfl, q⟩⟩
end
def spX0 (C : Addr) : Sp := fun vs H Q _ => ∃ a, vs = [.ref a] ∧ H a = some (exo a C none) ∧ Q .non H
def spX1 (C : Addr) (g : Str) : Sp := fun vs H Q _ => ∃ a x, vs = [.ref a, x] ∧ H a = some (exo a C none) ∧ ∀ dx, H dx = none → dx ≠ a → Q .non (upd (upd H dx (exd dx [(g, x)])) a (exo a C (some dx)))
def spX2 (C : Addr) (g1 g2 : Str) : Sp := fun vs H Q _ => ∃ a x y, vs = [.ref a, x, y] ∧ H a = some (exo a C none) ∧ ∀ dx, H dx = none → dx ≠ a → Q .non (upd (upd (upd H dx (exd dx [(g1, x)])) a (exo a C (some dx))) dx (exd dx [(g2, y), (g1, x)]))
section
variable {P : Program} {w : World} {K : PySem.W.Frag} {mg : Str → Option Value} {base : Heap} {nm qual x msg g g1 g2 : Str} {params : Arguments} {scope : Scope} {f D C : Addr} {fd : FuncData} {p1 p2 p3 p4 p5 p6 p7 p8 p9 p10 p11 p12 p13 p14 : Pos} {j : Nat}
def InitCall (e : Expr) (es : List Expr) (x : Str) (p1 p2 pos : Pos) : Prop := ∀ env : PySem.Env, ∃ pl : Sem Bool, eval (.Call (.Attribute (.Name x p1) "__init__" p2) (e :: es) [] pos) env = (do
      let ov ← eval (.Name x p1) env
      standAt p2.atName
      let (f, first) ← holding [ov] (getMethod ov "__init__" pl)
      callWith pos f first (backTo pos (starEach (e :: es) env)) (backToKw pos (keywordEach [] env)))
theorem vis_pe {X : Cx} {i : Nat} {y : Str} {pos : Pos} (hN : X.N[i]? = some y) (hv : Vis X.env.scope y) (hd : (y == ("__debug__" : Str)) = false) (hcd : (y == ("__classdict__" : Str)) = false) : PE X (.Name y pos) (tVar i) := pe_var hN hv hd hcd
structure XF (K : PySem.W.Frag) (mg : Str → Option Value) (x : Str) (D C : Addr) : Prop where
  gx : mg x = some (.ref D)
  rd : ClX.CRead K D (.type "type")
  vV : PySem.W.findCls K (.ref D) (.type "type") "__init__" = some (.val (.builtin "ValueError.__init__"))
  ox : OexC K C
def okName (y : Str) : Bool := !(y == ("__debug__" : Str)) && !(y == ("__classdict__" : Str))
theorem okName_ok {y : Str} (h : okName y = true) : (y == ("__debug__" : Str)) = false ∧ (y == ("__classdict__" : Str)) = false := by
  unfold okName at h
  simpa using h
theorem xinit0 (F : FunD K nm qual params [.Expr (.Call (.Attribute (.Name x p1) "__init__" p2) [.Name "self" p3, .Constant (.str msg) j p4] [] p5) p6] scope [] [] f fd) (S : FnScope ["self"] ["self"] scope) (hx : okName x = true)
    (hgx : scope.names.lookup x = some .globalImplicit) (vs : Vis scope "self") (ic : InitCall (.Name "self" p3) [.Constant (.str msg) j p4] x p1 p2 p5) (Z : XF K mg x D C) : FnOk P w K mg base (L2.CX P w) 1 f fd ["self"] (spX0 C) := by
  refine F.ok S (fun vs H Q E h => ?_) fun cdv A outer s H vs Q E hr h => ?_
  · obtain ⟨a, rfl, _⟩ := h; rfl
  · obtain ⟨a, rfl, ha, k⟩ := h
    obtain ⟨pl, hc⟩ := ic (PyProof.Rows.envOfC qual scope s.heap.objs.size f cdv)
    refine ⟨_, pss_one (ps_expr (pe_dinit hgx Z.gx Z.rd Z.vV (pa_cons (vis_pe (i := 0) rfl vs (by decide) (by decide)) (pa_cons pe_str pa_nil)) (okName_ok hx).1 hc)), ?_⟩
    exact ⟨_, rfl, a, C, [.str msg], rfl, by simp, Z.ox, ha, k⟩
theorem xinit1 (F : FunD K nm qual params [.Expr (.Call (.Attribute (.Name x p1) "__init__" p2) [.Name "self" p3, .Constant (.str msg) j p4] [] p5) p6, .Assign [.Attribute (.Name "self" p7) g p8] (.Name g p9) p10] scope [] [] f fd) (S : FnScope ["self", g] ["self", g] scope) (hx : okName x = true)
    (hgx : scope.names.lookup x = some .globalImplicit) (vs : Vis scope "self") (vg : Vis scope g) (hg : okName g = true) (ic : InitCall (.Name "self" p3) [.Constant (.str msg) j p4] x p1 p2 p5) (Z : XF K mg x D C) (hno : PySem.W.findIn K (.ref C) g = some none) :
    FnOk P w K mg base (L2.CX P w) 1 f fd ["self", g] (spX1 C g) := by
  refine F.ok S (fun vs H Q E h => ?_) fun cdv A outer s H vs Q E hr h => ?_
  · obtain ⟨a, y, rfl, _⟩ := h; rfl
  · obtain ⟨a, y, rfl, ha, k⟩ := h
    obtain ⟨pl, hc⟩ := ic (PyProof.Rows.envOfC qual scope s.heap.objs.size f cdv)
    refine ⟨_, pss_cons (ps_expr (pe_dinit hgx Z.gx Z.rd Z.vV (pa_cons (vis_pe (i := 0) rfl vs (by decide) (by decide)) (pa_cons pe_str pa_nil)) (okName_ok hx).1 hc))
      (pss_one (ps_ost (vis_pe (i := 0) rfl vs (by decide) (by decide)) (vis_pe (i := 1) rfl vg (okName_ok hg).1 (okName_ok hg).2))), ?_⟩
    refine ⟨_, rfl, a, C, [.str msg], rfl, by simp, Z.ox, ha, ?_⟩
    refine ⟨_, rfl, _, rfl, a, C, rfl, Z.ox, hno, .inl ⟨ha, fun dx h1 h2 => k dx h1 h2⟩⟩
theorem xinit2 (F : FunD K nm qual params [.Expr (.Call (.Attribute (.Name x p1) "__init__" p2) [.Name "self" p3, .Constant (.str msg) j p4] [] p5) p6, .Assign [.Attribute (.Name "self" p7) g1 p8] (.Name g1 p9) p10, .Assign [.Attribute (.Name "self" p11) g2 p12] (.Name g2 p13) p14] scope [] [] f fd)
    (S : FnScope ["self", g1, g2] ["self", g1, g2] scope) (hx : okName x = true) (hgx : scope.names.lookup x = some .globalImplicit) (vs : Vis scope "self") (vg1 : Vis scope g1) (hg1 : okName g1 = true) (vg2 : Vis scope g2) (hg2 : okName g2 = true)
    (ic : InitCall (.Name "self" p3) [.Constant (.str msg) j p4] x p1 p2 p5) (Z : XF K mg x D C) (hno1 : PySem.W.findIn K (.ref C) g1 = some none) (hno2 : PySem.W.findIn K (.ref C) g2 = some none) :
    FnOk P w K mg base (L2.CX P w) 1 f fd ["self", g1, g2] (spX2 C g1 g2) := by
  refine F.ok S (fun vs H Q E h => ?_) fun cdv A outer s H vs Q E hr h => ?_
  · obtain ⟨a, y, z, rfl, _⟩ := h; rfl
  · obtain ⟨a, y, z, rfl, ha, k⟩ := h
    obtain ⟨pl, hc⟩ := ic (PyProof.Rows.envOfC qual scope s.heap.objs.size f cdv)
    refine ⟨_, pss_cons (ps_expr (pe_dinit hgx Z.gx Z.rd Z.vV (pa_cons (vis_pe (i := 0) rfl vs (by decide) (by decide)) (pa_cons pe_str pa_nil)) (okName_ok hx).1 hc))
      (pss_cons (ps_ost (vis_pe (i := 0) rfl vs (by decide) (by decide)) (vis_pe (i := 1) rfl vg1 (okName_ok hg1).1 (okName_ok hg1).2))
      (pss_one (ps_ost (vis_pe (i := 0) rfl vs (by decide) (by decide)) (vis_pe (i := 2) rfl vg2 (okName_ok hg2).1 (okName_ok hg2).2)))), ?_⟩
    refine ⟨_, rfl, a, C, [.str msg], rfl, by simp, Z.ox, ha, ?_⟩
    refine ⟨_, rfl, _, rfl, a, C, rfl, Z.ox, hno1, .inl ⟨ha, fun dx h1 h2 => ?_⟩⟩
    refine ⟨_, rfl, _, rfl, a, C, rfl, Z.ox, hno2, .inr ⟨dx, [(g1, y)], upd_same, ?_, by simp, k dx h1 h2⟩⟩
    rw [upd_ne h2, upd_same]
end
end Ue
set_option linter.all false
set_option Elab.async false
set_option maxRecDepth 100000
set_option maxHeartbeats 4000000
namespace Ue
open PySem PySem.Spec L2
section
variable {X : Cx} {pins : List (Addr × Obj)} {σ : L2.St} {H1 H2 : Hp} {Q : XK}
theorem flyN {hp hp2 h2 : Heap} {g1 g2 : Array GenState} {d1 d2 : Drawn} {t1 t2 : Nat} {os1 os2 : OsState} {a C : Addr} (TT : Raises X (.ref C)) (I1 : L2.Inv X pins σ H1 ⟨hp, g1, d1, t1, os1⟩) (ha : hp.objs.size ≤ a)
    (k : ∀ b o, hp.get? b = some o → hp2.get? b = some o) (un : Un (frs X.stack) [] (upd H1 a (exo a C none)) H2 hp2 h2) (hok : HOk X.prog X.w H2 h2) (ho : os2 = os1) (hb : PyProof.Rows.AllBare g2) (ea : H2 a = some (exo a C none))
    (q : Q (.ref C) none (del H2 a)) : MkP X pins σ Q (.ref a) ⟨h2, g2, d2, t2, os2⟩ := by
  have n1 : H1 a = none := I1.hok.fresh ha
  have old : ∀ {b : Addr} {o : Obj}, hp.get? b = some o → b ≠ a := fun {b o} z => Nat.ne_of_lt (Nat.lt_of_lt_of_le (Heap.lt_size z) ha)
  have un1 : ∀ {b : Addr}, b ≠ a → H1 b = none → (upd H1 a (exo a C none)) b = none := fun {b} hb hn => (upd_ne hb).trans hn
  obtain ⟨t0, ob⟩ := exo_at hok ea
  obtain ⟨G, gin, gout⟩ := restrict h2 (fun b => !decide (b = a))
  have gk : ∀ {b : Addr}, b ≠ a → G.get? b = h2.get? b := fun {b} hb => gin b (by simp [hb])
  have gn : G.get? a = none := gout a (by simp)
  have back : ∀ {b : Addr} {o : HO}, H1 b = some o → (upd H1 a (exo a C none)) b = some o ∧ b ≠ a := fun {b o} z => ⟨(upd_ne (ne_of_none z n1)).trans z, ne_of_none z n1⟩
  have noend : (a : Addr) ∉ ([] : List Addr) := fun z => nomatch z
  have U : Un (frs X.stack) [] H1 (del H2 a) hp G := by
    constructor
    · intro b o z n hf hx
      exact (gk (old z)).trans (un.keep b o (k b o z) (un1 (old z) n) hf hx)
    · intro b o z n hf hx
      obtain ⟨sl, e⟩ := un.slot b o (k b o z) (un1 (old z) n) hf hx
      exact ⟨sl, (gk (old z)).trans e⟩
    · intro b o z n hx
      exact (del_ne (old z)).trans (un.free b o (k b o z) (un1 (old z) n) hx)
    · intro b o z hx
      obtain ⟨o', e⟩ := un.there b o (k b o z) hx
      exact ⟨o', (gk (old z)).trans e⟩
    · intro b xs z
      obtain ⟨z1, z2⟩ := back z
      exact (del_ne z2).trans (un.tups b xs z1)
    · intro b o u z
      obtain ⟨z1, z2⟩ := back z
      exact (del_ne z2).trans (un.frzs b o u z1)
    · intro b ps z
      obtain ⟨z1, z2⟩ := back z
      obtain ⟨m, e⟩ := un.tbls b ps z1
      exact ⟨m, (del_ne z2).trans e⟩
  have hok3 : HOk X.prog X.w (del H2 a) G := fun b o z => by
    have hba : b ≠ a := fun e => by subst e; rw [del_same] at z; cases z
    rw [del_ne hba] at z
    have noa : ∀ {c : Addr}, H2 c = some (.own b) → c ≠ a := fun {c} hc => at_ne ea hc exo_own
    refine (hok b o z).stay (fun c v hc y => ?_) (fun c hc => (del_ne (noa hc)).trans hc) fun c xs hc => (del_ne (at_ne ea hc exo_tup)).trans hc
    rcases hc with hc | hc
    · subst hc; exact (gk hba).trans y
    · exact (gk (noa hc)).trans y
  have J : L2.Inv X pins σ (del H2 a) ⟨G, g2, d2, t2, os2⟩ := I1.call' (ch := []) ho U hok3 hb (fun b z => nomatch z)
  refine ⟨a, _, _, ⟨G, g2, d2, t2, os2⟩, _, .ref C, none, rfl, J, fun b o z => ?_, gn, ob, ⟨rfl, rfl⟩, rfl, rfl, del_same, rfl, hb, TT, q⟩
  have hba : b ≠ a := fun e => by subst e; rw [gn] at z; cases z
  exact (gk hba).symm.trans z
def tMk0 (C : Addr) (sp : Sp) : L2.St → Hp → XK → Prop := fun σ H Q => ∀ a, H a = none → sp [.ref a] (upd H a (exo a C none)) (fun v H2 => v = .non ∧ H2 a = some (exo a C none) ∧ Q (.ref C) none (del H2 a)) (fun _ _ _ => False)
theorem pmk0 {CX : CXT} {x : Str} {p pos : Pos} {C fI : Addr} {k : Nat} {fd : FuncData} {sp : Sp} (TT : OexC X.K C) (iC : PySem.W.findIn X.K (.ref C) "__init__" = some (some (.ref fI))) (tI : PySem.W.typeIn X.K (.ref fI) = some (.type "function"))
    (F1 : FnOk X.prog X.w X.K X.mg X.base CX k fI fd ["self"] sp) (hr : Room (k + 1) X.A) (hb : Binds X.K fd ["self"] []) (hx : Passes CX X (fun _ _ _ => False)) (hg : Gl X x) (hm : X.mg x = some (.ref C)) (hdb : (x == ("__debug__" : Str)) = false := by decide) :
    PMk X (.Call (.Name x p) [] [] pos) (tMk0 C sp) := fun pins s σ H Q I h => by
  obtain ⟨nm, q, N, bs, bm, sn, sub, ab, col, dd, k0, k1, k2, k3, k5, hC, hbm⟩ := TT.cls
  refine wpAny_Call_Name_kw (ld_glob I hg hm ?_ hdb)
  refine PySem.W.callWith_K0 I.kIn TT.kC ?_
  obtain ⟨hp, g, dr, tk, os⟩ := s
  have hsz : hp.objs.size ≤ hp.objs.size + 1 := Nat.le_succ _
  have hq := h (hp.objs.size + 1) (I.hok.fresh hsz)
  have kk : ∀ b o, hp.get? b = some o → ((hp.push (PySem.W.kdv_tup [])).push (PySem.HandSPX.excO C hp.objs.size)).get? b = some o := fun b o e => Heap.get?_push_of_some _ (Heap.get?_push_of_some _ e)
  have hget : ((hp.push (PySem.W.kdv_tup [])).push (PySem.HandSPX.excO C hp.objs.size)).get? (hp.objs.size + 1) = some (PySem.HandSPX.excO C hp.objs.size) := by heap_get
  have I2 := I.laid (t' := tk) (a := hp.objs.size + 1) (o := exo (hp.objs.size + 1) C none) (h' := (hp.push (PySem.W.kdv_tup [])).push (PySem.HandSPX.excO C hp.objs.size)) kk hsz (exo_ok hget)
  have r2 : Vals [V.ref (hp.objs.size + 1)] [Value.ref (hp.objs.size + 1)] := .cons rfl .nil
  have room := hr.make C [] []
  refine wpAny_call (PySem.HandSPX.call_own PySem.F.excBase_ValueError (fun Y => PySem.HandSPX.refsVE_contains Y bm hbm) (I.kIn _ _ hC) (PySem.W.looks_findIn I.kIn iC) (fun self => PySem.W.bind_fn I.kIn self tI) (by simp) (codeAny_mono
    (F1.run _ X.stack _ _ ⟨[Value.ref (hp.objs.size + 1)], []⟩ [Value.ref (hp.objs.size + 1)] _ _ (fun _ _ _ => False) room (I2.env0.make C [] []) (hb _ [Value.ref (hp.objs.size + 1)] I2.kIn rfl) r2 hq) fun r s' hq' => ?_))
  cases r with
  | error er => exact hx pins σ _ _ er s' I2 hq'
  | ok fl =>
    cases fl with
    | ret u =>
      obtain ⟨v, H2, os2, bare2, un2, hok2, rv, ev, ea, q2⟩ := hq'
      subst ev
      obtain ⟨h2, g2, d2, t2, os'⟩ := s'
      exact ⟨rv, flyN (raises_own TT.exC TT.tyC) I hsz kk un2 hok2 os2 bare2 ea q2⟩
    | next => exact False.elim hq'
    | brk => exact False.elim hq'
    | cont => exact False.elim hq'
end
def raiseM (c : Nat) (ms : List M) : MS := fun env => (argsM ms env).toS fun ds e => .exc c ds e
section
variable {T : Tab} {W : WX} {kr : Kd} {pins : List Nat} {env env' : Env} {σ σ' : L2.St} {P H P' H' : Hp} {X : Cx} {pos : Pos} {e e1 e2 : Expr} {es : List Expr} {m m1 m2 : M}
theorem del_upd {a : Addr} {o : HO} (h : H a = none) : del (upd H a o) a = H := by
  funext b
  by_cases hb : b = a
  · subst hb; rw [del_same, h]
  · rw [del_ne hb, upd_ne hb]
theorem noPasses (hx : ∀ (pins : List (Addr × Obj)) (σ : L2.St) (H : Hp) (s : Shared) (e : Value) (s' : Shared), True) : Passes (L2.CX X.prog X.w) X (fun _ _ _ => False) := fun pins σ H s e s' I h => by
  obtain ⟨a, B, H', cls, d, _, _, _, _, _, _, _, q⟩ := h
  exact q.elim
theorem ds_raise0 {c : Nat} {x : Str} {p cpos : Pos} {fI : Addr} {k : Nat} {fd : FuncData} (hc : X.calm = true) (tk : Takes X W) (TT : OexC X.K (T.excA c)) (iC : PySem.W.findIn X.K (.ref (T.excA c)) "__init__" = some (some (.ref fI))) (tI : PySem.W.typeIn X.K (.ref fI) = some (.type "function"))
    (F1 : FnOk X.prog X.w X.K X.mg X.base (L2.CX X.prog X.w) k fI fd ["self"] (spX0 (T.excA c))) (hr : Room (k + 1) X.A) (hb : Binds X.K fd ["self"] []) (hg : Gl X x) (hm : X.mg x = some (.ref (T.excA c))) (hdb : (x == ("__debug__" : Str)) = false := by decide) :
    DS T W kr pins X (.Raise (some (.Call (.Name x p) [] [] cpos)) none pos) (raiseM c []) := by
  refine ps_imp (ps_raise hc tk (pmk0 TT iC tI F1 hr hb (noPasses fun _ _ _ _ _ _ => True.intro) hg hm hdb)) fun D σ H h => ?_
  obtain ⟨env, P, RR, h⟩ := h
  intro a ha
  refine ⟨a, rfl, upd_same, rfl, upd_same, ?_⟩
  rw [del_upd ha]
  exact h σ P H _ _ RR (Fr.refl _ _ _ _) FrP.refl ⟨rfl, .inl ⟨rfl, rfl⟩⟩
theorem put_xd' {a dx : Addr} {o u : HO} {J : Hp} (ha : H a = none) (hd : H dx = none) (hne : dx ≠ a) (hj : ∀ b, b ≠ a → b ≠ dx → J b = H b) : upd (del J a) dx o = upd H dx o := by
  funext b
  by_cases hb : b = dx
  · subst hb; rw [upd_same, upd_same]
  · rw [upd_ne hb, upd_ne hb]
    by_cases hba : b = a
    · subst hba; rw [del_same, ha]
    · rw [del_ne hba, hj b hba hb]
theorem ds_raise1 {c : Nat} {x g : Str} {p cpos : Pos} {fI : Addr} {k : Nat} {fd : FuncData} (hc : X.calm = true) (tk : Takes X W) (TT : OexC X.K (T.excA c)) (iC : PySem.W.findIn X.K (.ref (T.excA c)) "__init__" = some (some (.ref fI))) (tI : PySem.W.typeIn X.K (.ref fI) = some (.type "function"))
    (F1 : FnOk X.prog X.w X.K X.mg X.base (L2.CX X.prog X.w) k fI fd ["self", g] (spX1 (T.excA c) g)) (hr : Room (k + 1) X.A) (hb : Binds X.K fd ["self", g] []) (hg : Gl X x) (hm : X.mg x = some (.ref (T.excA c))) (hF : T.excF c = [g]) (he : DE T W X e .pure m) (hdb : (x == ("__debug__" : Str)) = false := by decide)
    (hst : starEach [e] X.env = (false, eval e X.env) :: starEach [] X.env := by rfl) (hpl : (backTo cpos (starEach [] X.env)).any (·.1) = false := by rfl) :
    DS T W kr pins X (.Raise (some (.Call (.Name x p) [e] [] cpos)) none pos) (raiseM c [m]) := by
  refine ps_imp (ps_raise hc tk (pmk_oex TT iC tI F1 hr hb .nil (noPasses fun _ _ _ _ _ _ => True.intro) hg hm (da_cons he da_nil trivial hst) hdb hst hpl)) fun D σ H h => ?_
  obtain ⟨env, P, RR, h⟩ := h
  refine ⟨env, P, RR, After.mono h.ofR fun ds env1 P1 H1 R1 F1' h1 xs kxs => ?_⟩
  have rs := kxs.pures (pures_cons pures_nil)
  cases ds with
  | nil => rw [Reps] at rs; subst rs; cases kxs
  | cons d0 ds =>
    have rs' := rs
    rw [Reps] at rs
    obtain ⟨v, r, rfl, r1, rs⟩ := rs
    have hl := kxs.rdbs R1
    cases kxs with
    | cons kx kt =>
      cases kt
      refine ⟨by simp, fun a ha => ⟨a, v, by simp, upd_same, fun dx hdx hne => ?_⟩⟩
      have hdx1 : H1 dx = none := by rw [upd_ne hne] at hdx; exact hdx
      refine ⟨rfl, dx, [(g, v)], upd_same, by rw [upd_ne hne, upd_same], hdx1, ?_⟩
      rw [put_xd' (H := H1) (u := .own 0) ha hdx1 hne (fun b h1 h2 => by rw [upd_ne h1, upd_ne h2, upd_ne h1])]
      obtain ⟨R2, F2⟩ := R1.newP (o := .xd [(g, v)]) hdx1
      refine h1 σ _ _ _ _ R2 F2 FrP.refl ⟨rfl, .inr ⟨dx, [(g, v)], [v], rfl, upd_same, fun j f w hj hw => ?_, Reps.sub F2.mono _ _ rs'⟩⟩
      rw [hF] at hj
      cases j with
      | zero => simp at hj hw; subst hj; subst hw; simp
      | succ j => simp at hj
theorem ds_raise2 {c : Nat} {x g1 g2 : Str} {p cpos : Pos} {fI : Addr} {k : Nat} {fd : FuncData} (hc : X.calm = true) (tk : Takes X W) (TT : OexC X.K (T.excA c)) (iC : PySem.W.findIn X.K (.ref (T.excA c)) "__init__" = some (some (.ref fI))) (tI : PySem.W.typeIn X.K (.ref fI) = some (.type "function"))
    (F1 : FnOk X.prog X.w X.K X.mg X.base (L2.CX X.prog X.w) k fI fd ["self", g1, g2] (spX2 (T.excA c) g1 g2)) (hr : Room (k + 1) X.A) (hb : Binds X.K fd ["self", g1, g2] []) (hg : Gl X x) (hm : X.mg x = some (.ref (T.excA c))) (hF : T.excF c = [g1, g2]) (hne12 : (g1 == g2) = false)
    (he1 : DE T W X e1 .pure m1) (he2 : DE T W X e2 .pure m2) (hdb : (x == ("__debug__" : Str)) = false := by decide)
    (hst : starEach [e1, e2] X.env = (false, eval e1 X.env) :: starEach [e2] X.env := by rfl) (hst2 : starEach [e2] X.env = (false, eval e2 X.env) :: starEach [] X.env := by rfl) (hpl : (backTo cpos (starEach [e2] X.env)).any (·.1) = false := by rfl) :
    DS T W kr pins X (.Raise (some (.Call (.Name x p) [e1, e2] [] cpos)) none pos) (raiseM c [m1, m2]) := by
  refine ps_imp (ps_raise hc tk (pmk_oex TT iC tI F1 hr hb .nil (noPasses fun _ _ _ _ _ _ => True.intro) hg hm (da_cons he1 (da_cons he2 da_nil trivial hst2) trivial hst) hdb hst hpl)) fun D σ H h => ?_
  obtain ⟨env, P, RR, h⟩ := h
  refine ⟨env, P, RR, After.mono h.ofR fun ds env1 P1 H1 R1 F1' h1 xs kxs => ?_⟩
  have rs := kxs.pures (pures_cons (pures_cons pures_nil))
  have rs' := rs
  cases kxs with
  | @cons _ _ d1 ds' v _ kx kt =>
    cases kt with
    | @cons _ _ d2 ds'' w _ ky kt =>
      cases kt
      refine ⟨by simp, fun a ha => ⟨a, v, w, by simp, upd_same, fun dx hdx hne => ?_⟩⟩
      have hdx1 : H1 dx = none := by rw [upd_ne hne] at hdx; exact hdx
      refine ⟨rfl, dx, [(g2, w), (g1, v)], by rw [upd_ne (fun z => hne z.symm), upd_same], upd_same, hdx1, ?_⟩
      rw [put_xd' (H := H1) (u := .own 0) ha hdx1 hne (fun b h1 h2 => by rw [upd_ne h2, upd_ne h1, upd_ne h2, upd_ne h1])]
      obtain ⟨R2, F2⟩ := R1.newP (o := .xd [(g2, w), (g1, v)]) hdx1
      refine h1 σ _ _ _ _ R2 F2 FrP.refl ⟨rfl, .inr ⟨dx, [(g2, w), (g1, v)], [v, w], rfl, upd_same, fun j f u hj hw => ?_, Reps.sub F2.mono _ _ rs'⟩⟩
      rw [hF] at hj
      match j, hj, hw with
      | 0, hj, hw => simp at hj hw; subst hj; subst hw; simp [List.lookup, hne12]
      | 1, hj, hw => simp at hj hw; subst hj; subst hw; simp
      | j + 2, hj, hw => simp at hj
end
end Ue
set_option linter.all false
set_option Elab.async false
set_option maxRecDepth 100000
set_option maxHeartbeats 4000000
namespace Ue
open PySem PySem.Spec L2
def tryM (body : MS) (caught : Nat → Option Bool) (suite : MS) : MS := fun env => match body env with
  | .exc c fs e => (match caught c with | some true => (match suite e with | .exc _ _ _ => .stk | r => r) | some false => .exc c fs e | none => .stk)
  | r => r
section
variable {T : Tab} {W : WX} {kr : Kd} {pins : List Nat} {env env' : Env} {σ σ' : L2.St} {P H P' H' : Hp} {X : Cx} {pos : Pos}
end
end Ue
set_option linter.all false
set_option Elab.async false
set_option maxRecDepth 100000
set_option maxHeartbeats 4000000
namespace Ue
open PySem PySem.Spec L2
section
variable {T : Tab} {W : WX} {kr : Kd} {pins : List Nat} {env env' : Env} {σ σ' : L2.St} {P H P' H' : Hp} {X : Cx} {pos : Pos} {e a b c : Expr} {ka kb kc : Kd} {m ma mb mc : M}
def chainM (g g' : D → D → Option Bool) (ma mb mc : M) : MT := fun env => (ma env).bind fun x e1 => (mb e1).bind fun y e2 => match g x y with
  | some true => (mc e2).bind fun z e3 => liftB (g' y z) e3
  | some false => .ok false e2
  | none => .stk
theorem rd_chain {r r' : R2} {g g' : D → D → Option Bool} (hD : CmpD T r g) (hD' : CmpD T r' g') {Q : Bool → Hp → Prop} (h : rdT T W (chainM g g' ma mb mc) σ H Q) :
    tChain r r' (rdE T W .pure ma) (rdE T W .pure mb) (rdE T W .pure mc) σ H (fun x H' => ∃ k, x = .bl k ∧ Q k H') := by
  obtain ⟨env, P, RR, h⟩ := h
  refine ⟨env, P, RR, After.mono h.bind fun d1 env1 P1 H1 R1 F1 h1 x kx nx => ?_⟩
  refine ⟨env1, P1, R1, After.mono h1.bind fun d2 env2 P2 H2 R2 F2 h2 y ky ny => ?_⟩
  have kx2 : Rep T P2 d1 x := Rep.sub F2.mono _ _ kx
  have ky2 : Rep T P2 d2 y := ky
  cases e : g d1 d2 with
  | none => simp only [e] at h2; exact False.elim h2
  | some b =>
    refine hD P2 H2 d1 d2 x y b _ R2.sub (.inl kx2) (.inl ky2) e ?_
    refine ⟨b, rfl, ?_⟩
    cases b with
    | false =>
      simp only [e] at h2
      exact iteF ⟨false, rfl, h2.here R2 (Fr.refl _ _ _ _)⟩
    | true =>
      simp only [e] at h2
      refine iteT ⟨env2, P2, R2, After.mono h2.bind fun d3 env3 P3 H3 R3 F3 h3 z kz nz => ?_⟩
      have ky3 : Rep T P3 d2 y := Rep.sub F3.mono _ _ ky2
      have kz3 : Rep T P3 d3 z := kz
      cases e2 : g' d2 d3 with
      | none => rw [e2] at h3; exact False.elim h3
      | some b =>
        rw [e2] at h3
        exact hD' P3 H3 d2 d3 y z b _ R3.sub (.inl ky3) (.inl kz3) e2 ⟨b, rfl, h3.here R3 (Fr.refl _ _ _ _)⟩
theorem dt_chain {op op' : CmpOp} {r r' : R2} {g g' : D → D → Option Bool} (ho : OpR X (compareOp op) r) (hD : CmpD T r g) (ho' : OpR X (compareOp op') r') (hD' : CmpD T r' g') (ha : DE T W X a .pure ma) (hb : DE T W X b .pure mb) (hc : DE T W X c .pure mc) (hm : lastMarks [op, op'] [b, c] = false := by rfl) :
    DT T W X (.Compare a [op, op'] [b, c] pos) (chainM g g' ma mb mc) := pt_imp (pt_chain ho ho' ha hb hc hm) fun _ _ _ h => rd_chain hD hD' h
theorem rd_asV {m : MT} {t : TE} {Q : VK} (k : ∀ (Q' : Bool → Hp → Prop), rdT T W m σ H Q' → t σ H (fun x H' => ∃ b, x = .bl b ∧ Q' b H')) (mono : ∀ (Q Q' : VK), (∀ x H, Q x H → Q' x H) → t σ H Q → t σ H Q') (h : rdE T W .pure (bV m) σ H Q) : t σ H Q := by
  obtain ⟨env, P, RR, h⟩ := h
  refine mono _ _ ?_ (k (fun b H' => Q (.bl b) H') ⟨env, P, RR, After.mono h.bind fun b env1 P1 H1 R1 F1 h1 => h1.here R1 (Fr.refl _ _ _ _) _ (show Rep T P1 (.bl b) (.bl b) from rep_bl) trivial⟩)
  rintro x H' ⟨c, rfl, q⟩
  exact q
theorem rdE_mono {k : Kd} {m : M} {Q Q' : VK} (h : ∀ x H, Q x H → Q' x H) (q : rdE T W k m σ H Q) : rdE T W k m σ H Q' := by
  obtain ⟨env, P, RR, q⟩ := q
  exact ⟨env, P, RR, After.mono q fun d e P' H' _ _ z x kx nx => h _ _ (z x kx nx)⟩
theorem de_chain {op op' : CmpOp} {r r' : R2} {g g' : D → D → Option Bool} (ho : OpR X (compareOp op) r) (hD : CmpD T r g) (ho' : OpR X (compareOp op') r') (hD' : CmpD T r' g') (mr : ∀ x y H Q Q', (∀ v H, Q v H → Q' v H) → r x y H Q → r x y H Q') (mr' : ∀ x y H Q Q', (∀ v H, Q v H → Q' v H) → r' x y H Q → r' x y H Q')
    (ha : DE T W X a .pure ma) (hb : DE T W X b .pure mb) (hc : DE T W X c .pure mc) (hm : lastMarks [op, op'] [b, c] = false := by rfl) :
    DE T W X (.Compare a [op, op'] [b, c] pos) .pure (bV (chainM g g' ma mb mc)) := pe_imp (pe_chain ho ho' ha hb hc hm) fun σ H Q h => by
  refine rd_asV (fun Q' q => rd_chain hD hD' q) (fun Q Q' k q => ?_) h
  refine rdE_mono (fun x H1 q => rdE_mono (fun y H2 q => mr _ _ _ _ _ (fun v H3 q => ?_) q) q) q
  obtain ⟨b, e, q⟩ := q
  refine ⟨b, e, ?_⟩
  cases b with
  | true => exact iteT (rdE_mono (fun z H4 q => mr' _ _ _ _ _ k q) q)
  | false => exact iteF (k _ _ q)
theorem mono_rI0 {f : Int → Int → V} : ∀ x y H Q Q', (∀ v H, Q v H → Q' v H) → rI0 f x y H Q → rI0 f x y H Q' := fun x y H Q Q' k ⟨i, j, h1, h2, q⟩ => ⟨i, j, h1, h2, k _ _ q⟩
def tyN : D → Option String
  | .non => some "NoneType" | .bl _ => some "bool" | .int _ => some "int" | .str _ => some "str" | .tup _ => some "tuple" | .lst _ => some "list" | .scr _ => some "list" | (.dct _) => some "dict" | .tpx _ => none | .obj _ _ => none
def isiTy (n : String) (d : D) : Option Bool := (tyN d).bind fun s => kitB s n
theorem tyx_of {d : D} {x : V} {s : String} (R1 : PSub P H) (h : Rdb T P H d x) (e : tyN d = some s) : TyX T.K H x (.type s) := by
  cases d with
  | non => cases e; rw [h.nonE]; exact .base .non
  | bl b => cases e; rw [h.blE]; exact .base (.bl b)
  | int i => cases e; rw [h.intE]; exact .base (.int i)
  | str i => cases e; rw [h.strE]; exact .base (.str i)
  | tup ds =>
    cases e
    obtain ⟨a, vs, rfl, q, _⟩ := h.tupE R1
    rcases q with (q | ⟨o, q⟩) | ⟨o, its, n, q1, q2, _⟩
    · exact .base (.tup q)
    · exact .fTuple q
    · exact .kTuple q1 q2
  | lst ds =>
    cases e
    obtain ⟨a, vs, rfl, q, _⟩ := h.lstE R1
    rcases q with q | ⟨o, q⟩
    · exact .base (.lst q)
    · exact .base (.frz q)
  | scr ns =>
    cases e
    obtain ⟨a, rfl, q⟩ := h.scrE R1
    rcases q with (q | ⟨o, q⟩) | ⟨o, its, n, q1, q2, _⟩
    · exact .base (.lst q)
    · exact .base (.frz q)
    · exact .kList q1 q2
  | tpx ds => cases e
  | dct kvs =>
    cases e
    obtain ⟨a, rfl, q⟩ := h.dctE R1
    exact .base (.dK q)
  | obj c fs => cases e
def isiM (n : String) (ma : M) : M := fun env => (ma env).bind fun d e => match isiTy n d with | some b => .ok (.bl b) e | none => .stk
theorem tk0 : Takes X W0 := fun u s' h => by
  obtain ⟨a, B, sI, pins, σ, H, cls, d, h⟩ := h
  obtain ⟨_, _, _, _, _, _, _, _, q⟩ := h
  exact q.elim
end
theorem law_sp {T : Tab} {F : FM} {n : Nat} (hF : ∀ ns : List Int, ns.length ≤ n → ∃ as, F [.v (.scr ns)] = .ok (.bl true) as) : ∀ (H : Hp) (a : Addr) (ns : List Int), ns.length ≤ n → Only H → SqL T.K H a (ns.map V.int) → spF T .pure 1 F [.ref a] H (fun v _ => v = .bl true) fun _ _ _ => False := fun H a ns hl hO hS => by
  obtain ⟨as, e⟩ := hF ns hl
  refine ⟨[.v (.scr ns)], H, ⟨PSub.refl _, fun i e h => ?_, fun i j e f x y b n h1 h2 o1 o2 => ?_, rfl⟩, rfl, ?_⟩
  · cases i with
    | zero => cases h; exact ⟨_, rfl, by show Rep T.nb H _ _; rw [Rep]; exact ⟨a, rfl, hS⟩⟩
    | succ i => simp at h
  · cases i with
    | zero => cases h1; cases o1
    | succ i => simp at h1
  · rw [e]
    intro P' H' x R2 F2 kx nx
    have kx : Rep T.nb P' (.bl true) x := kx
    rw [Rep] at kx
    exact kx
end Ue
namespace Ue
open PySem PySem.Spec L2
section
variable {T : Tab} {W : WX} {env env' : Env} {σ σ' : L2.St} {P H P' H' : Hp} {X : Cx} {pos : Pos} {tg e a b c : Expr} {m : M}
theorem pi_or {w1 w2 : TI} (h1 : PI X tg e w1) (h2 : PI X tg e w2) : PI X tg e (fun σ H Q => w1 σ H Q ∨ w2 σ H Q) := ⟨fun pins s σ H Q I h => h.elim (h1.run pins s σ H Q I) (h2.run pins s σ H Q I)⟩
theorem yl_scr {a : Addr} {ns : List Int} (h : SqL T.K P a (ns.map V.int)) : Yl T (Itl T.K a) P (ns.map D.int) := fun P1 H1 s1 s2 => by
  have q : SqL T.K H1 a (ns.map V.int) := sqL_sub s2 (sqL_sub s1 h)
  refine ⟨fun i d hd => ?_, fun i hi => ⟨_, q, by simpa using hi⟩⟩
  rw [List.getElem?_map] at hd
  cases e : ns[i]? with
  | none => rw [e] at hd; cases hd
  | some n =>
    rw [e] at hd; cases hd
    have hv : (ns.map V.int)[i]? = some (.int n) := by rw [List.getElem?_map, e]; rfl
    refine ⟨⟨_, _, q, hv⟩, fun x H' y => ?_⟩
    obtain ⟨rfl, y⟩ := y
    have := y _ q
    rw [hv] at this; cases this
    exact ⟨P1, rep_int, .inl ⟨rfl, rfl⟩⟩
theorem di_seq (hK : X.K = T.K) (h : DE T W X e .pure m) : DI T W X tg e (asSeq m) := pi_imp (pi_or (pi_list h) (pi_tup h)) fun σ H Q h => by
  obtain ⟨env, P, RR, h⟩ := h
  rw [hK]
  have hb := h.bind
  cases e1 : m env with
  | stk => rw [e1] at hb; exact hb.elim
  | exc c fs e2 =>
    refine .inl ⟨env, P, RR, ?_⟩
    rw [e1] at hb ⊢
    exact hb
  | ok d env1 =>
    cases d with
    | lst ds =>
      refine .inl ⟨env, P, RR, After.at hb fun d' env2 P1 H1 e2 R1 F1 h1 x kx nx => ?_⟩
      rw [e1] at e2; cases e2
      have kx : Rep T P1 (.lst ds) x := kx
      rw [Rep] at kx
      obtain ⟨a, vs, rfl, q1, q2⟩ := kx
      exact ⟨a, rfl, ⟨vs, .inl (Rd.sub R1.sub q1)⟩, h1.here R1 (Fr.refl _ _ _ _) _ (yl_list rfl q1 q2 trivial)⟩
    | scr ns =>
      refine .inl ⟨env, P, RR, After.at hb fun d' env2 P1 H1 e2 R1 F1 h1 x kx nx => ?_⟩
      rw [e1] at e2; cases e2
      have kx : Rep T P1 (.scr ns) x := kx
      rw [Rep] at kx
      obtain ⟨a, rfl, q1⟩ := kx
      exact ⟨a, rfl, ⟨_, sqL_sub R1.sub q1⟩, h1.here R1 (Fr.refl _ _ _ _) _ (yl_scr q1)⟩
    | tup ds =>
      refine .inr ⟨env, P, RR, After.at hb fun d' env2 P1 H1 e2 R1 F1 h1 x kx nx => ?_⟩
      rw [e1] at e2; cases e2
      have kx : Rep T P1 (.tup ds) x := kx
      rw [Rep] at kx
      obtain ⟨a, vs, rfl, q1, q2⟩ := kx
      exact ⟨a, rfl, ⟨vs, sqT_sub R1.sub q1⟩, h1.here R1 (Fr.refl _ _ _ _) _ (yl_tup rfl q1 q2)⟩
    | _ =>
      refine .inl ⟨env, P, RR, After.at hb fun d' env2 P1 H1 e2 R1 F1 h1 x kx nx => ?_⟩
      rw [e1] at e2; cases e2
      exact False.elim h1
theorem hu65 {k : Nat} {A : Around} (hr : Room k A) : A.units + 65 < cLine := by
  have := hr.un
  omega
end
end Ue
set_option linter.all false
set_option Elab.async false
set_option maxRecDepth 100000
set_option maxHeartbeats 4000000
namespace Ue
open PySem PySem.Spec L2
theorem oexB_ok {K : PySem.W.Frag} {C : Addr} (h : oexB K C = true) : OexC K C := by
  obtain ⟨q, h⟩ := He.ba h
  obtain ⟨h2, h⟩ := He.ba h
  obtain ⟨h3, h⟩ := He.ba h
  obtain ⟨h4, h5⟩ := He.ba h
  refine ⟨?_, of_decide_eq_true h2, of_decide_eq_true h3, of_decide_eq_true h4, h5⟩
  split at q
  · rename_i dd cd sl ho
    split at q
    · rename_i C' bm k0 k1 k2 k3 n k5 hm hs
      simp only [Bool.and_eq_true, beq_iff_eq, Bool.not_eq_true'] at q
      obtain ⟨⟨⟨⟨e1, e2⟩, hdel⟩, hdc⟩, ht⟩ := q
      subst e1 e2
      obtain ⟨nm, bs, mro, ns, qn, hd, sn, sub, ab, col, del⟩ := cd
      dsimp only at hm hdel hdc
      subst hm hdel hdc
      have hsl : sl = #[k0, k1, k2, k3, some (.builtin "ValueError.__new__"), k5] := by
        obtain ⟨l⟩ := sl
        simp only at hs
        rw [hs]
      subst hsl
      exact ⟨nm, qn, ns, bs, bm, sn, sub, ab, col, dd, k0, k1, k2, k3, k5, ho, ht⟩
    · exact absurd q (by decide)
  · exact absurd q (by decide)
theorem xdB_ok {K : PySem.W.Frag} {D : Addr} (h : xdB K D = true) : ClX.CRead K D (.type "type") ∧ PySem.W.findCls K (.ref D) (.type "type") "__init__" = some (.val (.builtin "ValueError.__init__")) := by
  obtain ⟨h1, h⟩ := He.ba h
  obtain ⟨h2, h3⟩ := He.ba h
  refine ⟨⟨h1, of_decide_eq_true h2⟩, ?_⟩
  split at h3
  · rename_i n e
    rw [e, of_decide_eq_true h3]
  · cases h3
structure XcF (K : PySem.W.Frag) (C : Addr) (fs : List Str) : Prop where
  o : OexC K C
  i : PySem.W.findIn K (.ref C) "__init__" = some (some (.ref (He.ma K C "__init__")))
  t : PySem.W.typeIn K (.ref (He.ma K C "__init__")) = some (.type "function")
  n : ∀ f ∈ fs, PySem.W.findIn K (.ref C) f = some none
theorem xcB_ok {K : PySem.W.Frag} {C : Addr} {fs : List Str} (h : xcB K C fs = true) : XcF K C fs := by
  obtain ⟨h1, h⟩ := He.ba h
  obtain ⟨h2, h⟩ := He.ba h
  obtain ⟨h3, h4⟩ := He.ba h
  exact ⟨oexB_ok h1, of_decide_eq_true h2, of_decide_eq_true h3, fun f hf => of_decide_eq_true (List.all_eq_true.mp h4 f hf)⟩
theorem exmB_ok {K : PySem.W.Frag} {A : Addr} {t : List (Addr × Bool)} (h : exmB K A t = true) {C : Addr} {b : Bool} (i : Nat) (e : t[i]? = some (C, b)) : PySem.W.exmOne K (.ref C) (.ref A) = some b := of_decide_eq_true (List.all_eq_true.mp h _ (List.mem_of_getElem? e))
theorem allB_ok {l : List Bool} (h : allB l = true) (i : Nat) {b : Bool} (e : l[i]? = some b) : b = true := List.all_eq_true.mp h b (List.mem_of_getElem? e)
end Ue
namespace Ue
open PySem PySem.Spec PyProof.Rows L2
def sole (a : Addr) (u : HO) : Hp := fun b => if b = a then some u else none
theorem sole_at {a : Addr} {u : HO} : sole a u a = some u := if_pos rfl
theorem sole_some {a b : Addr} {u v : HO} (h : sole a u b = some v) : b = a ∧ v = u := by
  unfold sole at h
  by_cases e : b = a
  · rw [if_pos e] at h; cases h; exact ⟨e, rfl⟩
  · rw [if_neg e] at h; cases h
theorem script_heap {P : Program} {w : World} {K : PySem.W.Frag} {h : Heap} {a : Addr} {vs : List Value} {ns : List Int} (KX : K.In h) (ha : h.get? a = some { cls := .type "list", data := .seq vs.toArray }) (hi : IntsAre vs ns) (hl : ns.length ≤ sizeLine) :
    ∃ H : Hp, Only H ∧ SqL K H a (ns.map V.int) ∧ HOk P w H h ∧ ∀ b u, H b = some u → b = a ∧ K.lookup a = none := by
  have rv := vals_ints hi
  have len := hi.length
  cases hk : K.lookup a with
  | some o =>
    obtain rfl : o = _ := Option.some.inj ((KX a o hk).symm.trans ha)
    exact ⟨fun _ => none, fun _ => .inl rfl, .inr ⟨_, vs.toArray, _, hk, rfl, rfl, rfl, by rw [List.size_toArray, len]; exact hl, by simpa using rv⟩, fun b u (z : (none : Option HO) = some u) => (nomatch z), fun b u (z : (none : Option HO) = some u) => nomatch z⟩
  | none =>
    refine ⟨sole a (.frz { cls := .type "list", data := .seq vs.toArray } (.lst (ns.map V.int))), fun b => ?_, .inl (.inr ⟨_, sole_at⟩), fun b u z => ?_, fun b u z => ⟨(sole_some z).1, rfl⟩⟩
    · cases q : sole a (.frz { cls := .type "list", data := .seq vs.toArray } (.lst (ns.map V.int))) b with
      | none => exact .inl rfl
      | some u => obtain ⟨_, rfl⟩ := sole_some q; exact .inr ⟨_, _, rfl⟩
    · obtain ⟨rfl, rfl⟩ := sole_some z
      exact ⟨ha, by rw [List.length_map]; exact hl, vs, _, rv, ha⟩
theorem law_callG {P : Program} {w : World} {K : PySem.W.Frag} {mg mb : Str → Option Value} {Z : CXT} {k : Nat} {fa a : Addr} {fd : FuncData} {x : Str} {sp : Sp} {t : Shared} {vs : List Value} {ns : List Int}
    (KX : K.In t.heap) (hm : t.heap.Ns mainGlobals mg) (hb : t.heap.Ns builtinsNs mb) (hbb : ∀ x : Str, x ≠ "__name__" → mb x = bootBuiltins x) (hlim : t.heap.NoLimit) (hgen : t.gens = #[])
    (ha : t.heap.get? a = some { cls := .type "list", data := .seq vs.toArray }) (hi : IntsAre vs ns) (hl : ns.length ≤ sizeLine) (room : Room k callerA)
    (F : ∀ base : Heap, K.In base → base.Ns mainGlobals mg → FnG P w K mg base Z k fa fd [x] sp) (bind : ∀ (s : Shared) (u : Value), BindsTo s fd ⟨[u], []⟩ [(x, u)])
    (hsp : ∀ H : Hp, Only H → SqL K H a (ns.map V.int) → sp [.ref a] H (fun v _ => v = .bl true) fun _ _ _ => False)
    (noE : ∀ H e t', Z [] H t (fun _ _ _ => False) e t' → False) :
    codeAny (model P w) callerA (.call (.ref fa) ⟨[.ref a], []⟩) (fun r t' => r = .ok (.ret (.bool true)) ∧ OldK t.heap t'.heap ∧ t'.os = t.os ∧ AllBare t'.gens) t := by
  obtain ⟨H, only, seen, hok, hA⟩ := script_heap (P := P) (w := w) KX ha hi hl
  have low : ∀ {b : Addr} {o : Obj}, t.heap.get? b = some o → H b = none → (hidT t.heap H).get? b = some o := fun e n => hidT_get e n
  have noH : ∀ {b : Addr}, b ≠ a → H b = none := fun {b} n => by
    cases q : H b with
    | none => rfl
    | some u => exact absurd (hA b u q).1 n
  have ns' : ∀ {b : Addr} {m : Str → Option Value}, t.heap.Ns b m → (hidT t.heap H).Ns b m := fun {b m} ⟨o, es, ep, e, d, r⟩ => ⟨o, es, ep, low e (noH fun z => by
    subst z
    rw [ha] at e
    cases e
    cases (show Data.seq vs.toArray _ = Data.dict es ep from d)), d, r⟩
  have inB : K.In (hidT t.heap H) := fun b o e => low (KX b o e) (by
    cases q : H b with
    | none => rfl
    | some u =>
      obtain ⟨rfl, z⟩ := hA b u q
      rw [z] at e; cases e)
  obtain ⟨mc, l1, l2⟩ := hlim
  have e0 : Env0 P w K mg (hidT t.heap H) callerA [] t H := ⟨rfl, ⟨inB, ns' hm, ⟨mb, ns' hb, hbb⟩, ⟨mc, ns' l1, l2⟩⟩, fun b o e => of_hidT e, Nat.le_of_eq (hidT_size _ _), trivial, fun b z => (List.not_mem_nil (show b ∈ ([] : List Addr) from z)).elim, hok, .of_eq hgen⟩
  refine codeAny_mono ((F _ inB (ns' hm)).go callerA [] t H ⟨[.ref a], []⟩ [.ref a] [.ref a] _ _ rfl room e0 (bind t (.ref a)) (.cons rfl .nil) (hsp H only seen)) fun res t' hq => ?_
  match res, hq with
  | .error er, hq => exact (noE H er t' hq).elim
  | .ok .next, hq => exact False.elim hq
  | .ok .brk, hq => exact False.elim hq
  | .ok .cont, hq => exact False.elim hq
  | .ok (.ret u), ⟨v, J, os, bare, un, hok', rv, qv⟩ =>
    have qv : v = .bl true := qv
    subst qv
    obtain rfl : u = Value.bool true := rv
    refine ⟨rfl, OldK.of_keep fun b o e => ?_, os, bare⟩
    rcases only b with z | ⟨ob, xs, z⟩
    · exact un.keep b o e z (List.not_mem_nil (a := b)) (List.not_mem_nil (a := b))
    · obtain ⟨e1, _⟩ := hok b _ z
      obtain ⟨e2, _⟩ := hok' b _ (un.frzs b ob _ z)
      rw [e] at e1; cases e1
      exact e2
end Ue
namespace Ue
open PySem PySem.Spec PyProof.Rows L2
theorem walk_ofU {lw : PySem.W.OpenLaw} {mx lv : Nat} {pq : Program} {ls : List Str} {XQ : (Str → Option Value) → Heap → Prop} {YQ : World → Heap → Prop} {dr : DefRec} {x : Str}
    (h1 : lw.most = some mx) (h2 : mx ≤ sizeLine) (h3 : dr.params.defaults = []) (h4 : Room lv callerA)
    (Z : ∀ (w : World) (mg : Str → Option Value) (f0 : Addr) (hp : Heap), YQ w hp → hp.Ns mainGlobals mg → mg dr.name = some (.ref f0) →
      ∃ (T : Tab) (fd : FuncData) (F : FM), T.K.In hp ∧ (∀ (s : Shared) (u : Value), BindsTo s fd ⟨[u], []⟩ [(x, u)]) ∧ (∀ ns : List Int, ns.length ≤ mx → ∃ as, F [.v (.scr ns)] = .ok (.bl true) as) ∧
        ∀ base : Heap, T.K.In base → base.Ns mainGlobals mg → FnG lw.prog w T.K mg base (L2.CX lw.prog w) lv f0 fd [x] (spF T .pure 1 F)) :
    PySem.W.WalkO pq ls XQ YQ lw.row.toRowW dr [] (fun f vs => PySem.call f vs) := by
  refine Att.attach_call h1 h3 ?_
  intro w sA sB mg mb f0 _ _ _ _ a vs ns GG YY _ _ _ hmg hobj hints hlen hg
  obtain ⟨T, fd, F, KX, hb, hF, hok⟩ := Z w mg f0 _ YY GG.T.g hmg
  refine law_callG KX GG.T.g GG.T.b GG.T.builtins GG.T.nolimit hg hobj hints (Nat.le_trans hlen h2) h4 hok hb ?_ ?_
  · exact fun H hO hS => law_sp hF H a ns hlen hO hS
  · rintro H e s' ⟨_, _, _, _, _, _, _, _, _, _, _, _, z⟩
    exact z
end Ue
namespace Ue
open PySem PySem.Spec PyProof.Rows L2
end Ue
set_option linter.all false
set_option Elab.async false
set_option maxRecDepth 100000
set_option maxHeartbeats 4000000
namespace Ue
open PySem
section
variable {α β : Type} {a : α} {e env : Env} {c : Nat} {fs : List D} {d x y : D} {i j : Nat} {m ma mb mc : M} {t ta tb : MT} {b : Bool}
def SR.th (r : SR) (k : MS) : SR := match r with | .nx e => k e | r => r
@[simp] theorem th_nx {k : MS} : (SR.nx e).th k = k e := (rfl)
@[simp] theorem th_ret {k : MS} : (SR.ret d e).th k = .ret d e := (rfl)
@[simp] theorem th_exc {k : MS} : (SR.exc c fs e).th k = .exc c fs e := (rfl)
@[simp] theorem th_brk {k : MS} : (SR.brk e).th k = .brk e := (rfl)
@[simp] theorem th_cnt {k : MS} : (SR.cnt e).th k = .cnt e := (rfl)
@[simp] theorem seqM_s (s1 s2 : MS) : seqM s1 s2 env = (s1 env).th s2 := by unfold seqM SR.th; cases s1 env <;> rfl
@[simp] theorem bind_ok {f : α → Env → R β} : (R.ok a e).bind f = f a e := (rfl)
@[simp] theorem bind_exc {f : α → Env → R β} : (R.exc c fs e : R α).bind f = .exc c fs e := (rfl)
@[simp] theorem toS_ok {f : α → Env → SR} : (R.ok a e).toS f = f a e := (rfl)
@[simp] theorem toS_exc {f : α → Env → SR} : (R.exc c fs e : R α).toS f = .exc c fs e := (rfl)
@[simp] theorem liftO_s : liftO (some d) e = .ok d e := (rfl)
@[simp] theorem liftB_s : liftB (some b) e = .ok b e := (rfl)
@[simp] theorem op2M_s {g : D → D → Option D} : op2M g ma mb env = (ma env).bind fun x e1 => (mb e1).bind fun y e2 => liftO (g x y) e2 := (rfl)
@[simp] theorem op1M_s {g : D → Option D} : op1M g ma env = (ma env).bind fun x e1 => liftO (g x) e1 := (rfl)
@[simp] theorem cmpM_s {g : D → D → Option Bool} : cmpM g ma mb env = (ma env).bind fun x e1 => (mb e1).bind fun y e2 => liftB (g x y) e2 := (rfl)
@[simp] theorem bV_s : bV t env = (t env).bind fun b e => .ok (.bl b) e := (rfl)
@[simp] theorem cM_s : cM d env = .ok d env := (rfl)
@[simp] theorem varM_s : varM i env = match env[i]? with | some (some (.v d)) => .ok d env | _ => .stk := (rfl)
@[simp] theorem ovarM_s : ovarM i env = match env[i]? with | some (some (.own ds)) => .ok (.lst ds) env | _ => .stk := (rfl)
@[simp] theorem frzM_s : frzM i env = match env[i]? with | some (some (.own ds)) => .ok (.lst ds) (env.set i (some (.v (.lst ds)))) | _ => .stk := (rfl)
@[simp] theorem trM_s : trM m env = (m env).bind fun d e => liftB (truth d) e := (rfl)
@[simp] theorem andT_s : andT ta tb env = (ta env).bind fun x e => if x then tb e else .ok false e := (rfl)
@[simp] theorem orT_s : orT ta tb env = (ta env).bind fun x e => if x then .ok true e else tb e := (rfl)
@[simp] theorem notT_s : notT ta env = (ta env).bind fun x e => .ok (!x) e := (rfl)
@[simp] theorem ifM_s {p q : Env → R α} : ifM t p q env = (t env).bind fun x e => if x then p e else q e := (rfl)
@[simp] theorem andV_s : andV ma mb env = (ma env).bind fun d e => match d with | .bl true => mb e | .bl false => .ok (.bl false) e | _ => .stk := (rfl)
@[simp] theorem orV_s : orV ma mb env = (ma env).bind fun d e => match d with | .bl true => .ok (.bl true) e | .bl false => mb e | _ => .stk := (rfl)
@[simp] theorem notV_s : notV ma env = (ma env).bind fun d e => match d with | .bl b => .ok (.bl (!b)) e | _ => .stk := (rfl)
@[simp] theorem argsM_n : argsM [] env = .ok [] env := (rfl)
@[simp] theorem argsM_c {ms : List M} : argsM (m :: ms) env = (m env).bind fun d e1 => (argsM ms e1).bind fun ds e2 => .ok (d :: ds) e2 := (rfl)
@[simp] theorem callM_s {g : List D → Option D} {ms : List M} : callM g ms env = (argsM ms env).bind fun ds e => liftO (g ds) e := (rfl)
@[simp] theorem tupM_s {ms : List M} : tupM ms env = (argsM ms env).bind fun ds e => if ds.length ≤ sizeLine then .ok (.tup ds) e else .stk := (rfl)
@[simp] theorem lstM_s {ms : List M} : lstM ms env = (argsM ms env).bind fun ds e => if ds.length ≤ sizeLine then .ok (.lst ds) e else .stk := (rfl)
@[simp] theorem chainM_s {g g' : D → D → Option Bool} : chainM g g' ma mb mc env = (ma env).bind fun x e1 => (mb e1).bind fun y e2 => match g x y with
  | some true => (mc e2).bind fun z e3 => liftB (g' y z) e3
  | some false => .ok false e2
  | none => .stk := (rfl)
@[simp] theorem isiM_s {n : String} : isiM n ma env = (ma env).bind fun d e => match isiTy n d with | some b => .ok (.bl b) e | none => .stk := (rfl)
@[simp] theorem nilM_s : nilM env = .nx env := (rfl)
@[simp] theorem brkM_s : brkM env = .brk env := (rfl)
@[simp] theorem cntM_s : cntM env = .cnt env := (rfl)
@[simp] theorem retM_s : retM m env = (m env).toS fun d e => .ret d e := (rfl)
@[simp] theorem retNM_s : retNM env = .ret .non env := (rfl)
@[simp] theorem retOM_s : retOM i env = match env[i]? with | some (some (.own ds)) => .ret (.lst ds) (env.set i none) | _ => .stk := (rfl)
@[simp] theorem exprM_s : exprM m env = (m env).toS fun _ e => .nx e := (rfl)
@[simp] theorem setM_s : setM i m env = (m env).toS fun d e => .nx (e.set i (some (.v d))) := (rfl)
@[simp] theorem setOM_s : setOM i m env = (m env).toS fun d e => match d with | .lst ds => .nx (e.set i (some (.own ds))) | _ => .stk := (rfl)
@[simp] theorem iffM_s {p q : MS} : iffM t p q env = (t env).toS fun c e => if c then p e else q e := (rfl)
@[simp] theorem raiseM_s {n : Nat} {ms : List M} : raiseM n ms env = (argsM ms env).toS fun ds e => .exc n ds e := (rfl)
@[simp] theorem asL_s : asL m env = (m env).bind fun d e => match d with | .lst ds => .ok ds e | _ => .stk := (rfl)
@[simp] theorem asT_s : asT m env = (m env).bind fun d e => match d with | .tup ds => .ok ds e | _ => .stk := (rfl)
@[simp] theorem asSeq_s : asSeq m env = (m env).bind fun d e => match d with | .lst ds => .ok ds e | .tup ds => .ok ds e | .scr ns => .ok (ns.map D.int) e | _ => .stk := (rfl)
@[simp] theorem rng1M_s : rng1M m env = (m env).bind fun d e => match d with | .int j => if -(2 ^ 62) ≤ j ∧ j < 2 ^ 62 then .ok (rngL 0 j.toNat) e else .stk | _ => .stk := (rfl)
@[simp] theorem rng2M_s : rng2M ma mb env = (ma env).bind fun d e1 => (mb e1).bind fun d' e => match d, d' with | .int i, .int j => if -(2 ^ 62) ≤ i ∧ i < 2 ^ 62 ∧ -(2 ^ 62) ≤ j ∧ j < 2 ^ 62 then .ok (rngL i (j - i).toNat) e else .stk | _, _ => .stk := (rfl)
@[simp] theorem enumM_s : enumM m env = (m env).bind fun d e => match d with | .lst ds => .ok (enumL ds) e | _ => .stk := (rfl)
@[simp] theorem tgN_s : tgN i d env = some (env.set i (some (.v d))) := (rfl)
@[simp] theorem tgT_s {gs : List TGM} {ds : List D} : tgT gs (.tup ds) env = tgL gs ds env := (rfl)
@[simp] theorem tgL_n : tgL [] [] env = some env := (rfl)
@[simp] theorem tgL_c {g : TGM} {gs : List TGM} {ds : List D} : tgL (g :: gs) (d :: ds) env = (g d env).bind (tgL gs ds) := (rfl)
@[simp] theorem asgM_s {g : TGM} : asgM g m env = (m env).toS fun d e => match g d e with | some e' => .nx e' | none => .stk := (rfl)
@[simp] theorem forM_n {g : TGM} {s : MS} : forM g s [] env = .nx env := (rfl)
theorem forM_c {g : TGM} {s : MS} {ds : List D} : forM g s (d :: ds) env = match g d env with | some e => loopS (s e) (forM g s ds) | none => .stk := (rfl)
@[simp] theorem forS_s {mi : MI} {g : TGM} {s : MS} : forS mi g s env = (mi env).toS fun ds e => forM g s ds e := (rfl)
@[simp] theorem loopS_nx {k : MS} : loopS (.nx e) k = k e := (rfl)
@[simp] theorem loopS_cnt {k : MS} : loopS (.cnt e) k = k e := (rfl)
@[simp] theorem loopS_brk {k : MS} : loopS (.brk e) k = .nx e := (rfl)
@[simp] theorem loopS_ret {k : MS} : loopS (.ret d e) k = .ret d e := (rfl)
@[simp] theorem loopS_exc {k : MS} : loopS (.exc c fs e) k = .exc c fs e := (rfl)
@[simp] theorem optM_n : optM none env = .ok none env := (rfl)
@[simp] theorem optM_c : optM (some m) env = (m env).bind fun d e1 => match d with | .int i => .ok (some i) e1 | _ => .stk := (rfl)
@[simp] theorem slLM_s {lo hi : Option M} : slLM m lo hi env = (m env).bind fun d e => (optM lo e).bind fun l e => (optM hi e).bind fun u e => match d with | .lst ds => .ok (.lst (cutD ds l u)) e | .scr ns => .ok (.lst (cutD (ns.map D.int) l u)) e | _ => .stk := (rfl)
@[simp] theorem slTM_s {lo hi : Option M} : slTM m lo hi env = (m env).bind fun d e => (optM lo e).bind fun l e => (optM hi e).bind fun u e => match d with | .tup ds => .ok (.tup (cutD ds l u)) e | _ => .stk := (rfl)
@[simp] theorem mtM_s {g : List D → List D → Option (D × List D)} {ms : List M} : mtM i g ms env = match env[i]? with
  | some (some (.own _)) => (argsM ms env).bind fun es e => match e[i]? with
    | some (some (.own ds)) => (match g ds es with | some (d, ds') => .ok d (e.set i (some (.own ds'))) | none => .stk)
    | _ => .stk
  | _ => .stk := (rfl)
@[simp] theorem setIM_s : setIM i m ma env = (m env).toS fun d e => match e[i]? with
  | some (some (.own _)) => (ma e).toS fun n e => setI2 i d n e
  | _ => .stk := (rfl)
@[simp] theorem setI2_s {n : Int} : setI2 i d (.int n) env = match env[i]? with
  | some (some (.own ds)) => (match L2.ixN ds.length n with | some q => .nx (env.set i (some (.own (ds.set q d)))) | none => .stk)
  | _ => .stk := by unfold setI2; cases h : env[i]? with
  | none => rfl
  | some o => cases o with
    | none => rfl
    | some v => cases v <;> rfl
@[simp] theorem augM_s {g : D → D → Option D} : augM i g m env = match env[i]? with
  | some (some (.v d0)) => (m env).toS fun d e => (match g d0 d with | some r => .nx (e.set i (some (.v r))) | none => .stk)
  | _ => .stk := (rfl)
@[simp] theorem parM_s : parM i j ma mb env = (ma env).toS fun d1 e1 => (mb e1).toS fun d2 e2 => .nx ((e2.set i (some (.v d1))).set j (some (.v d2))) := (rfl)
@[simp] theorem compM_s {vs : List Nat} {mi : MI} {g : TGM} {tt : MT} {te : M} : compM vs mi g tt te env = (mi env).bind fun ds e => if ds.length ≤ sizeLine then (compL vs g tt te ds e).bind fun ys e' => .ok (.lst ys) e' else .stk := (rfl)
@[simp] theorem yesT_s : yesT env = .ok true env := (rfl)
variable {p q : Int}
@[simp] theorem i2_s {f : Int → Int → D} : i2 f (.int p) (.int q) = some (f p q) := (rfl)
@[simp] theorem i2c_s {g : Int → Int → Bool} {f : Int → Int → D} : i2c g f (.int p) (.int q) = if g p q then some (f p q) else none := (rfl)
@[simp] theorem c2_s {f : Int → Int → Bool} : c2 f (.int p) (.int q) = some (f p q) := (rfl)
@[simp] theorem u1_s {f : Int → D} : u1 f (.int p) = some (f p) := (rfl)
@[simp] theorem ii_s {f : Int → Int → Int} : ii f [.int p, .int q] = some (.int (f p q)) := (rfl)
@[simp] theorem eqS_ii : eqS (.int p) (.int q) = some (decide (p = q)) := (rfl)
@[simp] theorem eqS_bb {u v : Bool} : eqS (.bl u) (.bl v) = some (decide (u = v)) := (rfl)
@[simp] theorem eqS_ss {u v : Str} : eqS (.str u) (.str v) = some (decide (u = v)) := (rfl)
@[simp] theorem neS_s : neS x y = (eqS x y).map (!·) := (rfl)
@[simp] theorem isB_s {u v : Bool} : isB (.bl u) (.bl v) = some (decide (u = v)) := (rfl)
@[simp] theorem notB_s : notB x y = (isB x y).map (!·) := (rfl)
@[simp] theorem notN_s : notN x y = (isN x y).map (!·) := (rfl)
@[simp] theorem neD_s : neD x y = (eqD x y).map (!·) := (rfl)
@[simp] theorem notInD_s : notInD x y = (inD x y).map (!·) := (rfl)
@[simp] theorem absD_s : absD [.int p] = some (.int (if p < 0 then -p else p)) := (rfl)
@[simp] theorem intD_s : intD [.int p] = some (.int p) := (rfl)
@[simp] theorem lenD_l {ds : List D} : lenD [.lst ds] = some (.int ds.length) := (rfl)
@[simp] theorem lenD_t {ds : List D} : lenD [.tup ds] = some (.int ds.length) := (rfl)
@[simp] theorem lenD_s {ns : List Int} : lenD [.scr ns] = some (.int ns.length) := (rfl)
@[simp] theorem listD_l {ds : List D} : listD [.lst ds] = some (.lst ds) := (rfl)
@[simp] theorem listD_t {ds : List D} : listD [.tup ds] = some (.lst ds) := (rfl)
@[simp] theorem tupleD_l {ds : List D} : tupleD [.lst ds] = some (.tup ds) := (rfl)
@[simp] theorem tupleD_t {ds : List D} : tupleD [.tup ds] = some (.tup ds) := (rfl)
@[simp] theorem ixD_l {ds : List D} : ixD (.lst ds) (.int p) = L2.atI ds p := (rfl)
@[simp] theorem ixD_t {ds : List D} : ixD (.tup ds) (.int p) = L2.atI ds p := (rfl)
@[simp] theorem ixD_s {ns : List Int} : ixD (.scr ns) (.int p) = (L2.atI ns p).map D.int := (rfl)
@[simp] theorem truth_i : truth (.int p) = some (p != 0) := (rfl)
@[simp] theorem truth_b {u : Bool} : truth (.bl u) = some u := (rfl)
@[simp] theorem truth_n : truth .non = some false := (rfl)
@[simp] theorem runF_s {fr : Bool} {n : Nat} {pins : List Nat} {s : MS} {as : List EV} : runF fr n pins s as = endF fr pins as (s (as.map some ++ List.replicate (n - as.length) none)) := (rfl)
@[simp] theorem endF_ret {fr : Bool} {pins : List Nat} {as : List EV} : endF fr pins as (.ret d e) = match finA pins 0 as e with | some as' => if fr && mobIn as then .stk else .ok d as' | none => .stk := (rfl)
@[simp] theorem mobIn_n : mobIn [] = false := (rfl)
@[simp] theorem mobIn_v {as : List EV} : mobIn (.v d :: as) = mobIn as := (rfl)
@[simp] theorem mobIn_o {as : List EV} {ds : List D} : mobIn (.own ds :: as) = mobIn as := (rfl)
@[simp] theorem mobIn_w {as : List EV} {ds : List D} : mobIn (.new c ds :: as) = mobIn as := (rfl)
@[simp] theorem mobIn_x {as : List EV} {ds : List D} : mobIn (.ex c ds :: as) = mobIn as := (rfl)
@[simp] theorem mobIn_m {as : List EV} {ds : List FV} : mobIn (.mob c ds :: as) = true := (rfl)
@[simp] theorem mob_if {α : Type} {a b : α} {x : Bool} : (if (false && x) = true then a else b) = b := (rfl)
@[simp] theorem endF_nx {pins : List Nat} {as : List EV} : endF false pins as (.nx e) = match finA pins 0 as e with | some as' => .ok .non as' | none => .stk := (rfl)
@[simp] theorem endF_exc {fr : Bool} {pins : List Nat} {as : List EV} : endF fr pins as (.exc c fs e) = match finA pins 0 as e with | some as' => .exc c fs as' | none => .stk := (rfl)
@[simp] theorem finA_n {pins : List Nat} : finA pins i [] e = some [] := (rfl)
@[simp] theorem finA_v {pins : List Nat} {as : List EV} : finA pins i (.v d :: as) e = (finA pins (i + 1) as e).map (.v d :: ·) := (rfl)
@[simp] theorem finA_o {pins : List Nat} {as : List EV} {ds : List D} : finA pins i (.own ds :: as) e = if i ∈ pins then (match e[i]? with | some (some (.own ds)) => (finA pins (i + 1) as e).map (.own ds :: ·) | _ => none) else none := (rfl)
@[simp] theorem argG_n : argG [] env = .ok [] env := (rfl)
@[simp] theorem argG_p {as : List Ag} : argG (.p m :: as) env = (m env).bind fun d e1 => (argG as e1).bind fun ds e2 => .ok (.d d :: ds) e2 := (rfl)
@[simp] theorem argG_o {as : List Ag} : argG (.o i :: as) env = match env[i]? with
  | some (some (.own _)) => (argG as env).bind fun ds e2 => .ok (.s i :: ds) e2
  | some (some (.mob _ _)) => (argG as env).bind fun ds e2 => .ok (.s i :: ds) e2
  | _ => .stk := (rfl)
@[simp] theorem resA_n : resA [] e = some [] := (rfl)
@[simp] theorem resA_d {as : List AD} : resA (.d x :: as) e = (resA as e).map (.v x :: ·) := (rfl)
@[simp] theorem resA_s {as : List AD} : resA (.s i :: as) e = match e[i]? with
  | some (some (.own ds)) => (resA as e).map (.own ds :: ·)
  | some (some (.mob c fs)) => (resA as e).map (.mob c fs :: ·)
  | _ => none := (rfl)
@[simp] theorem fewO_n : fewO [] = true := (rfl)
@[simp] theorem fewO_d {as : List AD} : fewO (.d x :: as) = fewO as := (rfl)
@[simp] theorem fewO_s {as : List AD} : fewO (.s i :: as) = as.all fun a => match a with | .d _ => true | .s _ => false := (rfl)
@[simp] theorem ownIx_n : ownIx j [] = none := (rfl)
@[simp] theorem ownIx_d {as : List AD} : ownIx j (.d x :: as) = ownIx (j + 1) as := (rfl)
@[simp] theorem ownIx_s {as : List AD} : ownIx j (.s i :: as) = some (j, i) := (rfl)
@[simp] theorem putA_s {ss : List AD} {as : List EV} : putA ss as e = match ownIx 0 ss with
  | none => e
  | some (j, i) => match as[j]? with
    | some a => e.set i (unEx a)
    | none => e := (rfl)
@[simp] theorem unEx_o {ds : List D} : unEx (.own ds) = some (.own ds) := rfl
@[simp] theorem unEx_m {ds : List FV} : unEx (.mob c ds) = some (.mob c ds) := rfl
@[simp] theorem finA_m {pins : List Nat} {as : List EV} {ds : List FV} : finA pins i (.mob c ds :: as) e = if i ∈ pins then (match e[i]? with | some (some (.mob c ds)) => (finA pins (i + 1) as e).map (.mob c ds :: ·) | _ => none) else none := (rfl)
@[simp] theorem unEx_v : unEx (.v d) = some (.v d) := rfl
@[simp] theorem unEx_n {ds : List D} : unEx (.new c ds) = some (.new c ds) := rfl
@[simp] theorem go_ok {ss : List AD} {as : List EV} : (CRes.ok d as).go ss e = .ok d (putA ss as e) := (rfl)
@[simp] theorem go_exc {ss : List AD} {as : List EV} : (CRes.exc c fs as).go ss e = .exc c fs (putA ss as e) := (rfl)
@[simp] theorem fnM_s {F : FM} {ags : List Ag} {dfl : List D} : fnM F ags dfl env = (argG ags env).bind fun ss e => match resA ss e with
  | none => .stk
  | some as => if fewO ss then (F (as ++ dfl.map EV.v)).go ss e else .stk := rfl
def SR.ca (r : SR) (cg : Nat → Option Bool) (s : MS) : SR := match r with
  | .exc c fs e => (match cg c with | some true => (match s e with | .exc _ _ _ => .stk | r => r) | some false => .exc c fs e | none => .stk)
  | r => r
@[simp] theorem tryM_s {s1 s2 : MS} {cg : Nat → Option Bool} : tryM s1 cg s2 env = (s1 env).ca cg s2 := (rfl)
@[simp] theorem ca_nx {s2 : MS} {cg : Nat → Option Bool} : (SR.nx e).ca cg s2 = .nx e := (rfl)
@[simp] theorem ca_ret {s2 : MS} {cg : Nat → Option Bool} : (SR.ret d e).ca cg s2 = .ret d e := (rfl)
@[simp] theorem ca_exc {s2 : MS} {cg : Nat → Option Bool} : (SR.exc c fs e).ca cg s2 = (match cg c with | some true => (match s2 e with | .exc _ _ _ => .stk | r => r) | some false => .exc c fs e | none => .stk) := (rfl)
end
theorem small_ok {i : Int} (h : i.natAbs < 18446744073709551616) : small64 i = true := decide_eq_true h
theorem mulOk_r {i j : Int} (h : j.natAbs < 18446744073709551616) : mulOk i j = true := by unfold mulOk; rw [small_ok h, Bool.or_true, Bool.true_or]
theorem mulOk_l {i j : Int} (h : i.natAbs < 18446744073709551616) : mulOk i j = true := by unfold mulOk; rw [small_ok h, Bool.true_or, Bool.true_or]
theorem log2_lt_of {n k : Nat} (hk : 0 < k) (h : n < 2 ^ k) : n.log2 < k := by
  by_cases h0 : n = 0
  · subst h0; simpa using hk
  · exact (Nat.log2_lt h0).mpr h
def Mid (i : Int) : Prop := i.natAbs < 2 ^ 900
theorem divOk_mid {i j : Int} (h0 : j ≠ 0) (hj : Mid j) : divOk i j = true := by
  have h2 := log2_lt_of (by decide) hj
  unfold divOk Builtin.divisionGoesByPylong
  have h3 : (j == 0) = false := by simpa using h0
  simp only [h3, Bool.false_eq_true, if_false, h0, ne_eq, not_false_eq_true, decide_true, Bool.true_and]
  have h4 : decide (j.natAbs.log2 / 30 + 1 > 300) = false := decide_eq_false (by omega)
  simp [h4]
end Ue
set_option linter.all false
set_option Elab.async false
set_option maxRecDepth 100000
set_option maxHeartbeats 4000000
namespace Ue
open PySem
theorem toPys_ints : ∀ ns : List Int, toPys (ns.map D.int) = some (ns.map PyData.int)
  | [] => by simp [toPys]
  | n :: ns => by simp [toPys, toPy, toPys_ints ns]
theorem lay_ints : ∀ ns : List Int, PyData.canLayAll0 (ns.map PyData.int) = true
  | [] => by simp [PyData.canLayAll0]
  | n :: ns => by simp [PyData.canLayAll0, PyData.canLay0, lay_ints ns]
theorem depth_ints : ∀ ns : List Int, PyData.depthAll (ns.map PyData.int) = 0
  | [] => by simp [PyData.depthAll]
  | n :: ns => by simp [PyData.depthAll, PyData.depth, depth_ints ns]
theorem shaped_ints (ns : List Int) : SeqAt.shaped (.list (ns.map PyData.int)) = true := by
  unfold SeqAt.shaped; simp [PyData.canLay0, PyData.depth, lay_ints, depth_ints]
theorem shaped_intsT (ns : List Int) : SeqAt.shaped (.tuple (ns.map PyData.int)) = true := by
  unfold SeqAt.shaped; simp [PyData.canLay0, PyData.depth, lay_ints, depth_ints]
theorem shaped_int (n : Int) : SeqAt.shaped (.int n) = true := by
  unfold SeqAt.shaped; simp [PyData.canLay0, PyData.depth]
theorem eqv_ints : ∀ a b : List Int, PyData.eqvAll (a.map PyData.int) (b.map PyData.int) = decide (a = b)
  | [], [] => by simp [PyData.eqvAll]
  | [], _ :: _ => by simp [PyData.eqvAll]
  | _ :: _, [] => by simp [PyData.eqvAll]
  | x :: xs, y :: ys => by
    simp only [List.map_cons, PyData.eqvAll, PyData.eqv, eqv_ints xs ys, List.cons.injEq, Bool.decide_and]
    congr 1
theorem eqD_lst {a b : List Int} : eqD (.lst (a.map D.int)) (.lst (b.map D.int)) = some (decide (a = b)) := by
  simp [eqD, toPy, toPys_ints, shaped_ints, PyData.eqv, eqv_ints]
theorem eqD_tup {a b : List Int} : eqD (.tup (a.map D.int)) (.tup (b.map D.int)) = some (decide (a = b)) := by
  simp [eqD, toPy, toPys_ints, shaped_intsT, PyData.eqv, eqv_ints]
theorem any_ints : ∀ (a : List Int) (n : Int), (a.map PyData.int).any (fun z => PyData.eqv z (.int n)) = decide (n ∈ a)
  | [], n => by simp
  | x :: xs, n => by
    simp only [List.map_cons, List.any_cons, any_ints xs n, List.mem_cons, PyData.eqv, Bool.decide_or]
    by_cases h : n = x
    · subst h; simp
    · have : (x == n) = false := by simpa using fun z => h z.symm
      simp [h, this]
theorem dInts_map : ∀ ns : List Int, dInts (ns.map D.int) = some ns
  | [] => rfl
  | n :: ns => by show (dInts (ns.map D.int)).map (n :: ·) = _; rw [dInts_map ns]; rfl
theorem atI_nat {α : Type} {xs : List α} {i : Nat} {a : α} (h : xs[i]? = some a) : L2.atI xs (i : Int) = some a := by
  have hi : i < xs.length := by
    rcases Nat.lt_or_ge i xs.length with q | q
    · exact q
    · rw [List.getElem?_eq_none q] at h; cases h
  unfold L2.atI L2.ixN
  rw [if_pos (by omega), if_pos (by omega)]
  simpa using h
theorem forM_inv {g : TGM} {s : MS} (I : Env → Prop) : ∀ (ds : List D) (env : Env), (∀ d ∈ ds, ∀ e, I e → ∃ e1 e2, g d e = some e1 ∧ (s e1 = .nx e2 ∨ s e1 = .cnt e2) ∧ I e2) → I env → ∃ e2, forM g s ds env = .nx e2 ∧ I e2
  | [], env, _, h => ⟨env, rfl, h⟩
  | d :: ds, env, k, h => by
    obtain ⟨e1, e2, q1, q2, q3⟩ := k d (by simp) env h
    obtain ⟨e3, q4, q5⟩ := forM_inv I ds e2 (fun d hd => k d (by simp [hd])) q3
    refine ⟨e3, ?_, q5⟩
    rw [forM_c, q1]
    rcases q2 with q2 | q2 <;> simp [q2, q4]
theorem forM_idx {g : TGM} {s : MS} (I : Nat → Env → Prop) : ∀ (ds : List D) (k : Nat) (env : Env), (∀ i d, ds[i]? = some d → ∀ e, I (k + i) e → ∃ e1 e2, g d e = some e1 ∧ (s e1 = .nx e2 ∨ s e1 = .cnt e2) ∧ I (k + i + 1) e2) → I k env → ∃ e2, forM g s ds env = .nx e2 ∧ I (k + ds.length) e2
  | [], k, env, _, h => ⟨env, rfl, h⟩
  | d :: ds, k, env, q, h => by
    obtain ⟨e1, e2, q1, q2, q3⟩ := q 0 d rfl env h
    obtain ⟨e3, q4, q5⟩ := forM_idx I ds (k + 1) e2 (fun i d hd e he => by
      obtain ⟨e1, e2, z1, z2, z3⟩ := q (i + 1) d hd e (by rwa [show k + (i + 1) = k + 1 + i by omega])
      exact ⟨e1, e2, z1, z2, by rwa [show k + (i + 1) + 1 = k + 1 + i + 1 by omega] at z3⟩) q3
    refine ⟨e3, ?_, by rwa [show k + (d :: ds).length = k + 1 + ds.length by simp; omega]⟩
    rw [forM_c, q1]
    rcases q2 with q2 | q2 <;> simp [q2, q4]
theorem bitAnd_nat (a b : Nat) : Builtin.bitAnd (a : Int) (b : Int) = ((a &&& b : Nat) : Int) := by
  unfold Builtin.bitAnd; simp
theorem bitOr_nat (a b : Nat) : Builtin.bitOr (a : Int) (b : Int) = ((a ||| b : Nat) : Int) := by
  unfold Builtin.bitOr Builtin.bitAnd Builtin.bitNot
  have h1 : decide (0 ≤ -(a : Int) - 1) = false := decide_eq_false (by omega)
  have h2 : decide (0 ≤ -(b : Int) - 1) = false := decide_eq_false (by omega)
  have e1 : (-(-(a : Int) - 1) - 1).toNat = a := by omega
  have e2 : (-(-(b : Int) - 1) - 1).toNat = b := by omega
  simp only [h1, h2, e1, e2, Builtin.bitNot]
  omega
def maskN (l : List Nat) : Nat := l.foldl (fun t d => t ||| 2 ^ d) 0
theorem maskF (l : List Nat) (t i : Nat) : (l.foldl (fun t d => t ||| 2 ^ d) t).testBit i = (t.testBit i || decide (i ∈ l)) := by
  induction l generalizing t with
  | nil => simp
  | cons d l ih =>
    rw [List.foldl_cons, ih, Nat.testBit_or, Nat.testBit_two_pow]
    by_cases h : d = i
    · subst h; simp
    · have : i ≠ d := fun z => h z.symm
      simp [h, this]
theorem mask_bit (l : List Nat) (i : Nat) : (maskN l).testBit i = decide (i ∈ l) := by
  unfold maskN; rw [maskF]; simp
theorem mask_lt {l : List Nat} {n : Nat} (h : ∀ d ∈ l, d < n) : maskN l < 2 ^ n := by
  apply Nat.lt_pow_two_of_testBit
  intro i hi
  rw [mask_bit]
  exact decide_eq_false fun z => by have := h i z; omega
theorem kit_NoneType_int : L2.kitB "NoneType" "int" = some false := by decide +kernel
theorem kit_bool_int : L2.kitB "bool" "int" = some true := by decide +kernel
theorem kit_int_int : L2.kitB "int" "int" = some true := by decide +kernel
theorem kit_str_int : L2.kitB "str" "int" = some false := by decide +kernel
theorem kit_tuple_int : L2.kitB "tuple" "int" = some false := by decide +kernel
theorem kit_list_int : L2.kitB "list" "int" = some false := by decide +kernel
@[simp] theorem isi_NoneType_int  : isiTy "int" .non = some false := kit_NoneType_int
@[simp] theorem isi_bool_int {b : Bool} : isiTy "int" (.bl b) = some true := kit_bool_int
@[simp] theorem isi_int_int {i : Int} : isiTy "int" (.int i) = some true := kit_int_int
@[simp] theorem isi_str_int {s : Str} : isiTy "int" (.str s) = some false := kit_str_int
@[simp] theorem isi_tuple_int {ds : List D} : isiTy "int" (.tup ds) = some false := kit_tuple_int
@[simp] theorem isi_list_int {ds : List D} : isiTy "int" (.lst ds) = some false := kit_list_int
@[simp] theorem isi_list_scr_int {ns : List Int} : isiTy "int" (.scr ns) = some false := kit_list_int
theorem kit_NoneType_bool : L2.kitB "NoneType" "bool" = some false := by decide +kernel
theorem kit_bool_bool : L2.kitB "bool" "bool" = some true := by decide +kernel
theorem kit_int_bool : L2.kitB "int" "bool" = some false := by decide +kernel
theorem kit_str_bool : L2.kitB "str" "bool" = some false := by decide +kernel
theorem kit_tuple_bool : L2.kitB "tuple" "bool" = some false := by decide +kernel
theorem kit_list_bool : L2.kitB "list" "bool" = some false := by decide +kernel
@[simp] theorem isi_NoneType_bool  : isiTy "bool" .non = some false := kit_NoneType_bool
@[simp] theorem isi_bool_bool {b : Bool} : isiTy "bool" (.bl b) = some true := kit_bool_bool
@[simp] theorem isi_int_bool {i : Int} : isiTy "bool" (.int i) = some false := kit_int_bool
@[simp] theorem isi_str_bool {s : Str} : isiTy "bool" (.str s) = some false := kit_str_bool
@[simp] theorem isi_tuple_bool {ds : List D} : isiTy "bool" (.tup ds) = some false := kit_tuple_bool
@[simp] theorem isi_list_bool {ds : List D} : isiTy "bool" (.lst ds) = some false := kit_list_bool
@[simp] theorem isi_list_scr_bool {ns : List Int} : isiTy "bool" (.scr ns) = some false := kit_list_bool
theorem kit_NoneType_str : L2.kitB "NoneType" "str" = some false := by decide +kernel
theorem kit_bool_str : L2.kitB "bool" "str" = some false := by decide +kernel
theorem kit_int_str : L2.kitB "int" "str" = some false := by decide +kernel
theorem kit_str_str : L2.kitB "str" "str" = some true := by decide +kernel
theorem kit_tuple_str : L2.kitB "tuple" "str" = some false := by decide +kernel
theorem kit_list_str : L2.kitB "list" "str" = some false := by decide +kernel
@[simp] theorem isi_NoneType_str  : isiTy "str" .non = some false := kit_NoneType_str
@[simp] theorem isi_bool_str {b : Bool} : isiTy "str" (.bl b) = some false := kit_bool_str
@[simp] theorem isi_int_str {i : Int} : isiTy "str" (.int i) = some false := kit_int_str
@[simp] theorem isi_str_str {s : Str} : isiTy "str" (.str s) = some true := kit_str_str
@[simp] theorem isi_tuple_str {ds : List D} : isiTy "str" (.tup ds) = some false := kit_tuple_str
@[simp] theorem isi_list_str {ds : List D} : isiTy "str" (.lst ds) = some false := kit_list_str
@[simp] theorem isi_list_scr_str {ns : List Int} : isiTy "str" (.scr ns) = some false := kit_list_str
theorem kit_NoneType_tuple : L2.kitB "NoneType" "tuple" = some false := by decide +kernel
theorem kit_bool_tuple : L2.kitB "bool" "tuple" = some false := by decide +kernel
theorem kit_int_tuple : L2.kitB "int" "tuple" = some false := by decide +kernel
theorem kit_str_tuple : L2.kitB "str" "tuple" = some false := by decide +kernel
theorem kit_tuple_tuple : L2.kitB "tuple" "tuple" = some true := by decide +kernel
theorem kit_list_tuple : L2.kitB "list" "tuple" = some false := by decide +kernel
@[simp] theorem isi_NoneType_tuple  : isiTy "tuple" .non = some false := kit_NoneType_tuple
@[simp] theorem isi_bool_tuple {b : Bool} : isiTy "tuple" (.bl b) = some false := kit_bool_tuple
@[simp] theorem isi_int_tuple {i : Int} : isiTy "tuple" (.int i) = some false := kit_int_tuple
@[simp] theorem isi_str_tuple {s : Str} : isiTy "tuple" (.str s) = some false := kit_str_tuple
@[simp] theorem isi_tuple_tuple {ds : List D} : isiTy "tuple" (.tup ds) = some true := kit_tuple_tuple
@[simp] theorem isi_list_tuple {ds : List D} : isiTy "tuple" (.lst ds) = some false := kit_list_tuple
@[simp] theorem isi_list_scr_tuple {ns : List Int} : isiTy "tuple" (.scr ns) = some false := kit_list_tuple
theorem kit_NoneType_list : L2.kitB "NoneType" "list" = some false := by decide +kernel
theorem kit_bool_list : L2.kitB "bool" "list" = some false := by decide +kernel
theorem kit_int_list : L2.kitB "int" "list" = some false := by decide +kernel
theorem kit_str_list : L2.kitB "str" "list" = some false := by decide +kernel
theorem kit_tuple_list : L2.kitB "tuple" "list" = some false := by decide +kernel
theorem kit_list_list : L2.kitB "list" "list" = some true := by decide +kernel
@[simp] theorem isi_NoneType_list  : isiTy "list" .non = some false := kit_NoneType_list
@[simp] theorem isi_bool_list {b : Bool} : isiTy "list" (.bl b) = some false := kit_bool_list
@[simp] theorem isi_int_list {i : Int} : isiTy "list" (.int i) = some false := kit_int_list
@[simp] theorem isi_str_list {s : Str} : isiTy "list" (.str s) = some false := kit_str_list
@[simp] theorem isi_tuple_list {ds : List D} : isiTy "list" (.tup ds) = some false := kit_tuple_list
@[simp] theorem isi_list_list {ds : List D} : isiTy "list" (.lst ds) = some true := kit_list_list
@[simp] theorem isi_list_scr_list {ns : List Int} : isiTy "list" (.scr ns) = some true := kit_list_list
def R.turn (r : R Bool) (te : M) (k : Option D → Env → R (List D)) : R (List D) := match r with
  | .ok true e2 => (match te e2 with
    | .ok y e3 => k (some y) e3
    | _ => .stk)
  | .ok false e2 => k none e2
  | _ => .stk
def turnE (r : R D) (k : Option D → Env → R (List D)) : R (List D) := match r with
  | .ok y e3 => k (some y) e3
  | _ => .stk
section
variable {vs : List Nat} {g : TGM} {tt : MT} {te : M} {d : D} {ds : List D} {e e1 e2 e3 e' : Env} {k : Option D → Env → R (List D)}
@[simp] theorem compL_n : compL vs g tt te [] e = .ok [] e := rfl
@[simp] theorem turn_t : (R.ok true e2).turn te k = turnE (te e2) k := rfl
@[simp] theorem turn_f : (R.ok false e2).turn te k = k none e2 := rfl
@[simp] theorem turnE_ok {y : D} : turnE (.ok y e3) k = k (some y) e3 := rfl
def putO (o : Option D) (r : R (List D)) : R (List D) := match o with | none => r | some y => r.bind fun ys e' => .ok (y :: ys) e'
@[simp] theorem putO_n {r : R (List D)} : putO none r = r := rfl
@[simp] theorem putO_s {y : D} {r : R (List D)} : putO (some y) r = r.bind fun ys e' => .ok (y :: ys) e' := rfl
theorem compL_c : compL vs g tt te (d :: ds) e = if vsOk e vs then (match g d (wipeE e vs) with | none => .stk | some e1 => (tt e1).turn te fun o e2 => putO o (compL vs g tt te ds (restE e e2 vs))) else .stk := by
  show (if vsOk e vs then _ else _) = _
  by_cases h : vsOk e vs = true
  · rw [if_pos h, if_pos h]
    cases g d (wipeE e vs) with
    | none => rfl
    | some e1 =>
      simp only
      cases tt e1 with
      | ok b e2 =>
        cases b with
        | true => cases h2 : te e2 <;> simp [turnE, h2]
        | false => rfl
      | exc _ _ _ => rfl
      | stk => rfl
  · rw [if_neg h, if_neg h]
theorem rest_one {i : Nat} (hl : e'.length = e.length) : restE e e' [i] = e'.set i ((e[i]?).getD none) := by
  apply List.ext_getElem?
  intro j
  unfold restE
  rw [List.getElem?_map, List.getElem?_set]
  by_cases hj : j < e.length
  · rw [List.getElem?_range hj]
    by_cases h : i = j
    · subst h; simp [hl, hj]
    · have h' : ¬ j = i := fun z => h z.symm
      simp [h, h']
      rw [List.getElem?_eq_getElem (by omega)]; rfl
  · rw [List.getElem?_eq_none (by simpa using hj), List.getElem?_eq_none (show e'.length ≤ j by omega)]
    simp
    by_cases h : i = j
    · subst h; simp; omega
    · simp [h]
@[simp] theorem wipe_n : wipeE e [] = e := rfl
@[simp] theorem wipe_c {i : Nat} : wipeE e (i :: vs) = (wipeE e vs).set i none := rfl
@[simp] theorem vsOk_n : vsOk e [] = true := rfl
@[simp] theorem vsOk_c {i : Nat} : vsOk e (i :: vs) = ((match e[i]? with | some (some x) => !x.isOwn | _ => true) && vsOk e vs) := rfl
end
theorem z_le {n : Nat} (h : n ≤ 1000) : n ≤ sizeLine := Nat.le_trans h (by rw [show sizeLine = _ from sizeLine_eq]; decide)
theorem repL_s {i : List D} {k : Int} : repL (.lst i) (.int k) = if -(2 ^ 63) ≤ k ∧ k < 2 ^ 63 ∧ i.length * k.toNat ≤ sizeLine then some (.lst (List.replicate k.toNat i).flatten) else none := rfl
end Ue
set_option linter.all false
set_option Elab.async false
set_option maxRecDepth 100000
set_option maxHeartbeats 4000000
namespace Ue
open PySem PySem.Spec L2
section
variable {X : Cx} {C : Addr} {k : Nat} {f : Addr} {fd : FuncData} {ps : List Str} {sp : Sp} {dvs : List V} {ds : List Value} {E : L2.St → XK} {x m : Str} {p pos apos : Pos} {e o : Expr} {es : List Expr} {ta : TE} {t : TA} {CX : CXT}
def tMakeS (C : Addr) (sp : Sp) (dvs : List V) (E : L2.St → XK) (t : TA) : TE := fun σ H Q => t σ H fun vs H1 => ∀ x dx, H1 x = none → H1 dx = none → dx ≠ x →
  sp (.ref x :: (vs ++ dvs)) (upd (upd H1 dx (.own x)) x (.ins C dx [])) (fun v H2 => v = .non ∧ Q (.ref x) H2) (E σ)
theorem run_makeS {pins : List (Addr × Obj)} {σ : L2.St} {H : Hp} {s : Shared} {Q : VK} {us : List Value} {vs : List V} (M : Mk X.K C f) (F : FnG X.prog X.w X.K X.mg X.base CX k f fd ps sp) (gd : X.A.guards = some []) (hr : Room (k + 1) X.A) (hb : Binds X.K fd ps ds) (hd : Vals dvs ds)
    (hx : ∀ σ, PassesAt CX X σ (E σ)) (I : Inv X pins σ H s) (r : Vals vs us)
    (h : ∀ x dx, H x = none → H dx = none → dx ≠ x → sp (.ref x :: (vs ++ dvs)) (upd (upd H dx (.own x)) x (.ins C dx [])) (fun v H2 => v = .non ∧ Q (.ref x) H2) (E σ)) :
    wpAny (model X.prog X.w) X.A (call (.ref C) us) (EP X pins σ Q) X.xe s := by
  have hq := h (s.heap.objs.size + 1) s.heap.objs.size (I.hok.fresh (Nat.le_succ _)) (I.hok.fresh (Nat.le_refl _)) (Nat.ne_of_lt (Nat.lt_succ_self _))
  have J := Inv.made (C := C) I
  have rr : Vals (V.ref (s.heap.objs.size + 1) :: (vs ++ dvs)) (Value.ref (s.heap.objs.size + 1) :: (us ++ ds)) := .cons rfl (r.append hd)
  have hl : (Value.ref (s.heap.objs.size + 1) :: us ++ ds).length = ps.length := (rr.length.symm.trans (F.len _ _ _ _ hq))
  refine wpAny_call (make_map (f := f) I.kIn M.makes M.init (beq_iff_eq.mp M.fn) (codeAny_mono (F.go _ X.stack _ _ ⟨Value.ref (s.heap.objs.size + 1) :: us, []⟩ (Value.ref (s.heap.objs.size + 1) :: (us ++ ds)) _ _ (E σ) (make_guards.trans gd) (hr.make C us []) (J.env0.make C us []) (hb _ (Value.ref (s.heap.objs.size + 1) :: us) J.kIn hl) rr hq) ?_))
  intro r s' hq'
  cases r with
  | error e => exact hx σ pins _ _ e s' J hq'
  | ok fl =>
    cases fl with
    | ret u =>
      obtain ⟨v, H', J3, rv, ev, q3⟩ := J.after hq'
      subst ev
      exact ⟨rv, V.ref (s.heap.objs.size + 1), H', J3, rfl, q3⟩
    | next => exact False.elim hq'
    | brk => exact False.elim hq'
    | cont => exact False.elim hq'
theorem pe_makeS (M : Mk X.K C f) (F : FnG X.prog X.w X.K X.mg X.base CX k f fd ps sp) (gd : X.A.guards = some []) (hr : Room (k + 1) X.A) (hg : Gl X x) (hm : X.mg x = some (.ref C)) (hb : Binds X.K fd ps ds) (hd : Vals dvs ds) (hx : ∀ σ, PassesAt CX X σ (E σ))
    (ha : PA X (e :: es) t) (hdb : (x == ("__debug__" : Str)) = false) (he : starEach (e :: es) X.env = (false, eval e X.env) :: starEach es X.env) (hp : (backTo pos (starEach es X.env)).any (·.1) = false) :
    PE X (.Call (.Name x p) (e :: es) [] pos) (tMakeS C sp dvs E t) := ⟨fun pins s σ H Q I h => by
  refine wpAny_Call_Name_kw (ld_glob I hg hm (PySem.W.callWith_K (h₀ := X.base) I.ok.mod.kin M.kp (thn (ha.run pos pins s σ H _ (I) h) ?_) he hp) hdb)
  rintro us s1 ⟨vs, H1, I1, r, q⟩
  exact ⟨I1.kIn, run_makeS M F gd hr hb hd hx I1 r q⟩⟩
end
end Ue
namespace Ue
open PySem PySem.Spec L2
def callS (F : FM) (dfl : List D) (ss : List AD) (e : Env) : R D := match resA ss e with
  | none => .stk
  | some as => if fewO ss then (F (as ++ dfl.map EV.v)).go ss e else .stk
theorem argG_len : ∀ {ags : List Ag} {env env1 : Env} {ss : List AD}, argG ags env = .ok ss env1 → ss.length = ags.length
  | [], env, env1, ss, h => by cases h; rfl
  | .p m :: as, env, env1, ss, h => by
    have h : (m env).bind (fun d e1 => (argG as e1).bind fun ds e2 => R.ok (AD.d d :: ds) e2) = .ok ss env1 := h
    cases c : m env with
    | ok d e1 =>
      rw [c] at h
      have h : (argG as e1).bind (fun ds e2 => R.ok (AD.d d :: ds) e2) = .ok ss env1 := h
      cases c2 : argG as e1 with
      | ok ds e2 => rw [c2] at h; cases h; simp [argG_len c2]
      | exc _ _ _ => rw [c2] at h; cases h
      | stk => rw [c2] at h; cases h
    | exc _ _ _ => rw [c] at h; cases h
    | stk => rw [c] at h; cases h
  | .o i :: as, env, env1, ss, h => by
    unfold argG at h
    cases e0 : env[i]? with
    | none => rw [e0] at h; cases h
    | some o =>
      cases o with
      | none => rw [e0] at h; cases h
      | some v =>
        cases v with
        | own ds =>
          rw [e0] at h
          have h : (argG as env).bind (fun ds e2 => R.ok (AD.s i :: ds) e2) = .ok ss env1 := h
          cases c2 : argG as env with
          | ok ds e2 => rw [c2] at h; cases h; simp [argG_len c2]
          | exc _ _ _ => rw [c2] at h; cases h
          | stk => rw [c2] at h; cases h
        | mob c0 d0 =>
          rw [e0] at h
          have h : (argG as env).bind (fun ds e2 => R.ok (AD.s i :: ds) e2) = .ok ss env1 := h
          cases c2 : argG as env with
          | ok ds e2 => rw [c2] at h; cases h; simp [argG_len c2]
          | exc _ _ _ => rw [c2] at h; cases h
          | stk => rw [c2] at h; cases h
        | _ => rw [e0] at h; cases h
section
variable {T : Tab} {W : WX} {kr : Kd} {env : Env} {σ : L2.St} {P H H0 : Hp} {X : Cx} {F : FM} {n : Nat} {dfl : List D} {dvs : List V} {xs : List V} {ss : List AD} {Q : VK}
theorem callS_sp (hkr : kr = .pure ∨ kr = .fresh) (hdr : ∀ P, Reps T P dfl dvs) (hn : ss.length + dfl.length = n) (R1 : Rel T env σ P H) (kxs : SReps T σ P ss xs) (nb : ∀ x, NewV kr H x → NewV kr H0 x)
    (h1 : After T W σ env P H (callS F dfl ss env) (fun d env' P' H' => ∀ x, KRep T kr env' σ P' H' d x → NewV kr H0 x → Q x H')) : spF T kr n F (xs ++ dvs) H Q (fun cls dd H' => W cls dd σ H') := by
  unfold callS at h1
  cases e1 : resA ss env with
  | none => rw [e1] at h1; exact False.elim h1
  | some as =>
    rw [e1] at h1
    simp only at h1
    by_cases hf : fewO ss = true
    · rw [if_pos hf] at h1
      obtain ⟨R2, o2⟩ := R1.call e1 hf kxs (hdr P)
      refine ⟨as ++ dfl.map EV.v, P, R2.nb, ?_, ?_⟩
      · rw [List.length_append, kxs.len, (hdr P).length]; exact hn
      · cases e2 : F (as ++ dfl.map EV.v) with
        | ok d as' =>
          rw [e2] at h1
          intro P2 H2 x R3 F3 kx nx
          obtain ⟨R4, F4, o4⟩ := R1.back e1 hf kxs (hdr P) R3 F3
          refine h1 P2 H2 R4 F4 x ?_ (nb x nx)
          rcases hkr with rfl | rfl
          · exact kx.bn
          · obtain ⟨a, ws, ds, q1, q2, q3, q4, q5, q6⟩ := kx.bn
            refine ⟨a, ws, ds, q1, q2, q3, fun z => ?_, q5, q6⟩
            obtain ⟨a', ea, ha⟩ := nx
            rw [q1] at ea; cases ea
            rcases o4 a z with w | w
            · obtain ⟨o, ho, _⟩ := R1.ownAt w
              rw [ha] at ho; cases ho
            · exact q4 w
        | exc c fs as' =>
          rw [e2] at h1
          intro P2 H2 cls dd R3 F3 x
          obtain ⟨R4, F4, o4⟩ := R1.back e1 hf kxs (hdr P) R3 F3
          exact h1 P2 H2 cls dd R4 F4 x.bn
        | stk => rw [e2] at h1; exact False.elim h1
    · rw [if_neg hf] at h1; exact False.elim h1
def methM (c : Nat) (F : FM) (mo : M) (ags : List Ag) (dfl : List D) : M := fun env => (mo env).bind fun d e1 => match d with
  | .obj c' fs => if c' = c then (argG ags e1).bind fun ss e => callS F dfl (.d (.obj c' fs) :: ss) e else .stk
  | _ => .stk
end
end Ue
namespace Ue
open PySem PySem.Spec L2
def makeS (c nf : Nat) (F : FM) (dfl : List D) (ss : List AD) (e : Env) : R D := match resA ss e with
  | none => .stk
  | some as => if fewO ss then (match F (.new c [] :: (as ++ dfl.map EV.v)) with
    | .ok .non (.new c' fs :: as') => if c' = c ∧ fs.length = nf then .ok (.obj c fs) (putA ss as' e) else .stk
    | .exc k fs (.new _ _ :: as') => .exc k fs (putA ss as' e)
    | _ => .stk) else .stk
def mkM (c nf : Nat) (F : FM) (ags : List Ag) (dfl : List D) : M := fun env => (argG ags env).bind fun ss e => makeS c nf F dfl ss e
section
variable {T : Tab} {as as' : List EV} {vs : List V} {P H P' H' P2 : Hp} {x dx : Addr} {c c' : Nat} {fs : List D}
theorem own_cons {f : EV} {v : V} {J : Hp} {b : Addr} (h : Own ((f :: as).map some) ((v :: vs).map some) J b) : (f.isOwn = true ∧ Foot f v J b) ∨ Own (as.map some) (vs.map some) J b := by
  obtain ⟨i, e, x, h1, h2, h3, h4⟩ := h
  cases i with
  | zero => simp at h1 h3; subst h1; subst h3; exact .inl ⟨h2, h4⟩
  | succ i => exact .inr ⟨i, e, x, by simpa using h1, h2, by simpa using h3, h4⟩
theorem own_tail {f : EV} {v : V} {J : Hp} {b : Addr} (h : Own (as.map some) (vs.map some) J b) : Own ((f :: as).map some) ((v :: vs).map some) J b := by
  obtain ⟨i, e, x, h1, h2, h3, h4⟩ := h
  exact ⟨i + 1, e, x, by simpa using h1, h2, by simpa using h3, h4⟩
theorem own_head {f : EV} {v : V} {J : Hp} {b : Addr} (o : f.isOwn = true) (h : Foot f v J b) : Own ((f :: as).map some) ((v :: vs).map some) J b := ⟨0, f, v, rfl, o, rfl, h⟩
theorem Rel.unmade' {g g' : EV} (hx : H x = none) (hd : H dx = none) (fx : ∀ b, Foot g (.ref x) (upd (upd H dx (.own x)) x (.ins (T.clsA c) dx [])) b → b = x) (og' : g'.isOwn = true) (R2 : Rel T (as.map some) (vs.map some) P H) (R3 : Rel T ((g' :: as').map some) ((V.ref x :: vs).map some) P' H')
    (F3 : Fr ((g :: as).map some) ((V.ref x :: vs).map some) P (upd (upd H dx (.own x)) x (.ins (T.clsA c) dx [])) ((g' :: as').map some) ((V.ref x :: vs).map some) P' H')
    (mono : PSub P' P2) (sub2 : PSub P2 H') (nx : ∀ b, ¬ Foot g' (.ref x) H' b → P2 b = P' b) : Rel T (as'.map some) (vs.map some) P2 H' ∧ Fr (as.map some) (vs.map some) P H (as'.map some) (vs.map some) P2 H' ∧ (∀ b, Foot g' (.ref x) H' b → H b = none ∨ Own (as.map some) (vs.map some) H b) ∧ (∀ b, Foot g' (.ref x) H' b → ¬ Own (as'.map some) (vs.map some) H' b) := by
  have up : ∀ b o, H b = some o → (upd (upd H dx (.own x)) x (.ins (T.clsA c) dx [])) b = some o := fun b o h => by
    rw [upd_ne (fun z => by subst z; rw [hx] at h; cases h), upd_ne (fun z => by subst z; rw [hd] at h; cases h)]; exact h
  have upn : ∀ b, H b ≠ none → (upd (upd H dx (.own x)) x (.ins (T.clsA c) dx [])) b ≠ none := fun b h => by
    cases q : H b with
    | none => exact absurd q h
    | some o => rw [up b o q]; exact fun z => nomatch z
  have w := (R2.reH (P' := P) (H' := upd (upd H dx (.own x)) x (.ins (T.clsA c) dx [])) (PSub.refl _) (fun b o h => up b o (R2.sub b o h)) (fun b u h1 h2 => ⟨up b u h1, (R2.ownAt h2).choose_spec.2⟩)).2
  have onew : ∀ b, H b ≠ none → ¬ Own (as.map some) (vs.map some) H b → ¬ Own ((g :: as).map some) ((V.ref x :: vs).map some) (upd (upd H dx (.own x)) x (.ins (T.clsA c) dx [])) b := fun b h n z => by
    rcases own_cons z with ⟨_, e⟩ | z
    · rw [fx b e] at h; exact h hx
    · exact n ((w b).mp z)
  have dj : ∀ b, Foot g' (.ref x) H' b → ¬ Own (as'.map some) (vs.map some) H' b := fun b t ⟨i, e, y, h1, h2, h3, h4⟩ =>
    R3.dis 0 (i + 1) g' e (.ref x) y b (by omega) rfl (by simpa using h1) og' h2 rfl (by simpa using h3) t h4
  have fr : ∀ b, Foot g' (.ref x) H' b → H b = none ∨ Own (as.map some) (vs.map some) H b := fun b t => by
    rcases Classical.em (H b = none) with q | q
    · exact .inl q
    · rcases Classical.em (Own (as.map some) (vs.map some) H b) with o | o
      · exact .inr o
      · exact (F3.own b (upn b q) (onew b q o) (own_head og' t)).elim
  refine ⟨⟨sub2, fun i e h => ?_, fun i j e f y z a n h1 h2 o1 o2 s1 s2 t1 t2 => R3.dis (i + 1) (j + 1) e f y z a (fun z => n (by omega)) (by simpa using h1) (by simpa using h2) o1 o2 (by simpa using s1) (by simpa using s2) t1 t2, by simpa using R3.len⟩,
    ⟨fun b o h n => F3.keep b o (up b o h) (onew b (by rw [h]; exact fun z => nomatch z) n), fun b h n z => F3.own b (upn b h) (onew b h n) (own_tail z), F3.mono.trans mono, fun b h => ?_, fun b h => F3.there b (upn b h)⟩, fr, dj⟩
  · obtain ⟨v, hv, r⟩ := R3.ent (i + 1) e (by simpa using h)
    refine ⟨v, by simpa using hv, r.grow mono fun b o h1 h2 h3 h4 => ⟨h1, ?_⟩⟩
    rw [nx b fun t => R3.dis 0 (i + 1) g' e (.ref x) v b (by omega) rfl (by simpa using h) og' h3 rfl hv t h4]
    exact h2
  · rcases Classical.em (Foot g' (.ref x) H' b) with t | t
    · exact .inr (fr b t)
    · rw [nx b t] at h
      rcases F3.new b h with q | q | q
      · exact .inl q
      · refine .inr (.inl (Classical.byContradiction fun z => upn b z q))
      · rcases own_cons q with ⟨_, e⟩ | q
        · rw [fx b e]; exact .inr (.inl hx)
        · exact .inr (.inr ((w b).mp q))
theorem Rel.unmade (hx : H x = none) (hd : H dx = none) (ne : dx ≠ x) (R2 : Rel T (as.map some) (vs.map some) P H) (R3 : Rel T ((EV.new c' fs :: as').map some) ((V.ref x :: vs).map some) P' H')
    (F3 : Fr ((EV.new c [] :: as).map some) ((V.ref x :: vs).map some) P (upd (upd H dx (.own x)) x (.ins (T.clsA c) dx [])) ((EV.new c' fs :: as').map some) ((V.ref x :: vs).map some) P' H')
    (hP : P2 = P' ∨ ∃ u, P2 = upd P' x u ∧ H' x = some u) : Rel T (as'.map some) (vs.map some) P2 H' ∧ Fr (as.map some) (vs.map some) P H (as'.map some) (vs.map some) P2 H' ∧ PSub P' P2 := by
  obtain ⟨v0, hv0, a0, d0, ws0, e0, q0, p0, _⟩ := R3.ent 0 (.new c' fs) rfl
  simp at hv0; subst hv0
  cases e0
  have nx : ∀ b, b ≠ x → P2 b = P' b := fun b h => by
    rcases hP with rfl | ⟨u, rfl, _⟩
    · rfl
    · exact upd_ne h
  have mono : PSub P' P2 := fun b o h => by rw [nx b (fun z => by subst z; rw [p0] at h; cases h)]; exact h
  obtain ⟨a1, a2, _⟩ := Rel.unmade' (g := .new c []) (g' := .new c' fs) (P2 := P2) hx hd (fun b t => by cases t.new; rfl) rfl R2 R3 F3 mono (fun b o h => by
    rcases hP with rfl | ⟨u, rfl, hu⟩
    · exact R3.sub b o h
    · by_cases hb : b = x
      · subst hb; rw [upd_same] at h; cases h; exact hu
      · rw [upd_ne hb] at h; exact R3.sub b o h) (fun b t => nx b fun z => t (by rw [z]; exact .here))
  exact ⟨a1, a2, mono⟩
end
end Ue
namespace Ue
open PySem PySem.Spec L2
section
variable {T : Tab} {W : WX} {kr : Kd} {env : Env} {σ : L2.St} {P H H0 : Hp} {X : Cx} {F : FM} {n nf c : Nat} {dfl : List D} {dvs : List V} {xs : List V} {ss : List AD} {Q : VK}
theorem makeS_sp (hnf : nf = (T.clsF c).length) (hdr : ∀ P, Reps T P dfl dvs) (hn : ss.length + 1 + dfl.length = n) (R1 : Rel T env σ P H) (kxs : SReps T σ P ss xs)
    (h1 : After T W σ env P H (makeS c nf F dfl ss env) (fun d env' P' H' => ∀ x, KRep T .pure env' σ P' H' d x → NewV .pure H0 x → Q x H')) :
    ∀ x dx, H x = none → H dx = none → dx ≠ x → spF T .pure n F (.ref x :: (xs ++ dvs)) (upd (upd H dx (.own x)) x (.ins (T.clsA c) dx [])) (fun v H2 => v = .non ∧ Q (.ref x) H2) (fun cls dd H' => W cls dd σ H') := by
  intro x dx hx hd ne
  unfold makeS at h1
  cases e1 : resA ss env with
  | none => rw [e1] at h1; exact False.elim h1
  | some as =>
    rw [e1] at h1
    simp only at h1
    by_cases hf : fewO ss = true
    · rw [if_pos hf] at h1
      obtain ⟨R2, o2⟩ := R1.call e1 hf kxs (hdr P)
      refine ⟨.new c [] :: (as ++ dfl.map EV.v), P, R2.nb.made hx hd ne, ?_, ?_⟩
      · rw [List.length_cons, List.length_append, kxs.len, (hdr P).length]; omega
      · cases e2 : F (.new c [] :: (as ++ dfl.map EV.v)) with
        | ok d as1 =>
          rw [e2] at h1
          intro P2 H2 y R3 F3 kx nx
          cases d with
          | non =>
            have ky : Rep T.nb P2 .non y := kx
            rw [Rep] at ky
            cases as1 with
            | nil => exact False.elim h1
            | cons f as' =>
              cases f with
              | new c' fs =>
                simp only at h1
                by_cases hc : c' = c ∧ fs.length = nf
                · rw [if_pos hc] at h1
                  obtain ⟨rfl, hlen⟩ := hc
                  obtain ⟨v0, hv0, a0, d0, ws0, e0, q0, p0, l0, r0⟩ := R3.ent 0 (.new c' fs) rfl
                  simp at hv0; subst hv0
                  cases e0
                  obtain ⟨R4, F4, mono⟩ := Rel.unmade (T := T.nb) hx hd ne R2.nb R3 F3 (P2 := upd P2 x (.ins (T.clsA c') d0 ((T.clsF c').zip ws0))) (.inr ⟨_, rfl, q0⟩)
                  obtain ⟨R5, F5, o5⟩ := R1.back e1 hf kxs (hdr P) R4 F4
                  refine ⟨ky, h1 _ H2 R5 F5 (.ref x) ?_ trivial⟩
                  show Rep T _ (.obj c' fs) (.ref x)
                  rw [Rep]
                  exact ⟨x, d0, ws0, rfl, upd_same, by rw [r0.length, hlen, hnf], (reps_nb _ _).mp (Reps.sub mono _ _ r0)⟩
                · rw [if_neg hc] at h1; exact False.elim h1
              | _ => exact False.elim h1
          | _ => exact False.elim h1
        | exc k gs as1 =>
          rw [e2] at h1
          intro P2 H2 cls dd R3 F3 y
          cases as1 with
          | nil => exact False.elim h1
          | cons f as' =>
            cases f with
            | new c' fs =>
              obtain ⟨R4, F4, mono⟩ := Rel.unmade (T := T.nb) hx hd ne R2.nb R3 F3 (P2 := P2) (.inl rfl)
              obtain ⟨R5, F5, o5⟩ := R1.back e1 hf kxs (hdr P) R4 F4
              exact h1 P2 H2 cls dd R5 F5 y.bn
            | _ => exact False.elim h1
        | stk => rw [e2] at h1; exact False.elim h1
    · rw [if_neg hf] at h1; exact False.elim h1
theorem rd_mk {ags : List Ag} (hnf : nf = (T.clsF c).length) (hdr : ∀ P, Reps T P dfl dvs) (hn : ags.length + 1 + dfl.length = n) (h : rdE T W .pure (mkM c nf F ags dfl) σ H Q) :
    tMakeS (T.clsA c) (spF T .pure n F) dvs (fun σ cls d H => W cls d σ H) (rdP T W ags) σ H Q := by
  obtain ⟨env, P, RR, h⟩ := h
  refine ⟨env, P, RR, After.at h.bind fun ss env1 P1 H1 es R1 F1 h1 xs kxs => ?_⟩
  exact makeS_sp hnf hdr (by rw [argG_len es]; exact hn) R1 kxs h1
variable {k : Nat} {f : Addr} {fd : FuncData} {ps : List Str} {ds : List Value} {x m : Str} {p pos apos : Pos} {e o : Expr} {es : List Expr} {mo : M} {ags : List Ag}
theorem de_make (M1 : Mk X.K (T.clsA c) f) (G : FnG X.prog X.w X.K X.mg X.base (L2.CX X.prog X.w) k f fd ps (spF T .pure n F)) (gd : X.A.guards = some []) (hr : Room (k + 1) X.A) (hg : Gl X x) (hm : X.mg x = some (.ref (T.clsA c)))
    (hb : Binds X.K fd ps ds) (hd : Vals dvs ds) (hdr : ∀ P, Reps T P dfl dvs) (tk : Takes X W) (ha : GA T W X (e :: es) ags) (hnf : nf = (T.clsF c).length := by rfl) (hn : ags.length + 1 + dfl.length = n := by rfl)
    (hdb : (x == ("__debug__" : Str)) = false := by decide) (he : starEach (e :: es) X.env = (false, eval e X.env) :: starEach es X.env := by rfl) (hp : (backTo pos (starEach es X.env)).any (·.1) = false := by rfl) :
    DE T W X (.Call (.Name x p) (e :: es) [] pos) .pure (mkM c nf F ags dfl) :=
  pe_imp (pe_makeS (E := fun σ cls d H => W cls d σ H) M1 G gd hr hg hm hb hd (fun σ => passAt tk σ) ha hdb he hp) fun _ _ _ h => rd_mk hnf hdr hn h
end
end Ue
set_option linter.all false
set_option Elab.async false
set_option maxRecDepth 100000
set_option maxHeartbeats 4000000
namespace Ue
open PySem PySem.Spec L2
section
variable {T : Tab} {W : WX} {kr : Kd} {pins : List Nat} {env env' : Env} {σ σ' : L2.St} {P H P' H' : Hp} {X : Cx} {pos pos' : Pos} {o e : Expr} {m : M}
theorem zip_look {f : Str} {v : V} : ∀ {ns : List Str} {vs : List V} {j : Nat}, ns[j]? = some f → (ns.take j).contains f = false → vs[j]? = some v → (ns.zip vs).lookup f = some v
  | [], _, _, h, _, _ => by simp at h
  | _ :: _, [], _, _, _, h => by simp at h
  | n :: ns, w :: vs, 0, h1, _, h3 => by simp at h1 h3; subst h1 h3; simp
  | n :: ns, w :: vs, j + 1, h1, h2, h3 => by
    rw [List.take_succ_cons, List.contains_cons] at h2
    obtain ⟨h4, h5⟩ := Bool.or_eq_false_iff.mp h2
    rw [List.zip_cons_cons, List.lookup_cons, h4]
    exact zip_look (by simpa using h1) h5 (by simpa using h3)
theorem zip_put {f : Str} {y : V} : ∀ {ns : List Str} {vs : List V}, ns[vs.length]? = some f → (ns.take vs.length).contains f = false → putF f y (ns.zip vs) = ns.zip (vs ++ [y])
  | [], vs, h, _ => by simp at h
  | n :: ns, [], h, _ => by simp at h; subst h; simp [putF]
  | n :: ns, w :: vs, h1, h2 => by
    rw [List.length_cons, List.take_succ_cons, List.contains_cons] at h2
    obtain ⟨h4, h5⟩ := Bool.or_eq_false_iff.mp h2
    have hne : n ≠ f := fun z => by subst z; simp at h4
    rw [List.zip_cons_cons, putF, if_neg hne, zip_put (by simpa using h1) h5]
    rfl
def attrM (c j : Nat) (m : M) : M := fun env => (m env).bind fun d e => match d with
  | .obj c' fs => if c' = c then (match fs[j]? with | some x => .ok x e | none => .stk) else .stk
  | _ => .stk
theorem rd_attr {c j : Nat} {f : Str} {Q : VK} (cl : Cls T.K (T.clsA c)) (na : NoAttr T.K (T.clsA c) f) (hj : (T.clsF c)[j]? = some f) (hn : ((T.clsF c).take j).contains f = false) (h : rdE T W .pure (attrM c j m) σ H Q) : tFld T.K (rdE T W .pure m) f σ H Q := by
  obtain ⟨env, P, RR, h⟩ := h
  refine ⟨env, P, RR, After.mono h.bind fun d env1 P1 H1 R1 F1 h1 x kx nx => ?_⟩
  cases d with
  | obj c' fs =>
    simp only at h1
    by_cases hc : c' = c
    · subst hc
      rw [if_pos rfl] at h1
      have kx : Rep T P1 (.obj c' fs) x := kx
      rw [Rep] at kx
      obtain ⟨a, dx, vs, rfl, q1, q2, q3⟩ := kx
      cases e1 : fs[j]? with
      | none => rw [e1] at h1; exact False.elim h1
      | some y =>
        rw [e1] at h1
        obtain ⟨v, hv, rv⟩ := q3.get e1
        exact ⟨a, _, dx, _, v, rfl, R1.sub _ _ q1, cl, na, zip_look hj hn hv, h1.here R1 (Fr.refl _ _ _ _) v rv trivial⟩
    · rw [if_neg hc] at h1; exact False.elim h1
  | _ => exact False.elim h1
theorem de_attr {c j : Nat} {f : Str} (hK : X.K = T.K) (h : DE T W X o .pure m) (cl : Cls T.K (T.clsA c)) (na : NoAttr T.K (T.clsA c) f) (hj : (T.clsF c)[j]? = some f := by rfl) (hn : ((T.clsF c).take j).contains f = false := by decide +kernel)
    (hb : attributeBase o f X.env (eval o X.env) = eval o X.env := by rfl) : DE T W X (.Attribute o f pos) .pure (attrM c j m) :=
  pe_imp (pe_fld h hb) fun _ _ _ h => by rw [hK]; exact rd_attr cl na hj hn h
def natM (c i j : Nat) : M := fun env => match env[i]? with
  | some (some (.new c' fs)) => if c' = c then (match fs[j]? with | some x => .ok x env | none => .stk) else .stk
  | _ => .stk
theorem de_nat {c i j : Nat} {f : Str} (hK : X.K = T.K) (h : PE X o (tVar i)) (cl : Cls T.K (T.clsA c)) (na : NoAttr T.K (T.clsA c) f) (hj : (T.clsF c)[j]? = some f := by rfl) (hn : ((T.clsF c).take j).contains f = false := by decide +kernel)
    (hb : attributeBase o f X.env (eval o X.env) = eval o X.env := by rfl) : DE T W X (.Attribute o f pos) .pure (natM c i j) := by
  refine pe_imp (pe_fld h hb) fun σ H Q h => ?_
  rw [hK]
  obtain ⟨env, P, RR, h⟩ := h
  unfold natM at h
  cases e0 : env[i]? with
  | none => rw [e0] at h; exact False.elim h
  | some o =>
    cases o with
    | none => rw [e0] at h; exact False.elim h
    | some v =>
      cases v with
      | new c' fs =>
        rw [e0] at h
        simp only at h
        by_cases hc : c' = c
        · subst hc
          rw [if_pos rfl] at h
          obtain ⟨u, hu, a, dx, vs, rfl, q1, q2, q3, q4⟩ := RR.ent i _ e0
          cases e1 : fs[j]? with
          | none => rw [e1] at h; exact False.elim h
          | some y =>
            rw [e1] at h
            obtain ⟨v, hv, rv⟩ := q4.get e1
            exact ⟨_, hu, a, _, dx, _, v, rfl, q1, cl, na, zip_look hj hn hv, h.here RR (Fr.refl _ _ _ _) v rv trivial⟩
        · rw [if_neg hc] at h; exact False.elim h
      | _ => rw [e0] at h; exact False.elim h
theorem Rel.updW {i : Nat} {g g' : EV} {a : Addr} {u : HO} (RR : Rel T env σ P H) (e : env[i]? = some (some g)) (og : g.isOwn = true) (og' : g'.isOwn = true) (hs : σ[i]? = some (some (V.ref a))) (r : EnvRep T P (upd H a u) g' (.ref a)) (ng : ∀ b, Foot g' (.ref a) (upd H a u) b → b = a := by intro b t; cases t.new; rfl) :
    Rel T (env.set i (some g')) σ P (upd H a u) ∧ Fr env σ P H (env.set i (some g')) σ P (upd H a u) := by
  have own_a : Own env σ H a := ⟨i, _, _, e, og, hs, .here⟩
  obtain ⟨o, ho, pa⟩ := RR.ownAt own_a
  have nx : ∀ b, OwnX env σ H i b → b ≠ a := fun b q => by rintro rfl; exact q.ne RR e og hs .here
  obtain ⟨R2, w1, _⟩ := RR.slot (i := i) (o := some g') (σ' := σ) (P' := P) (H' := upd H a u) rfl (fun _ _ => rfl) (PSub.refl _) (fun b u h => by rw [upd_ne (ne_of_none h pa)]; exact RR.sub b u h) (fun b u q1 q2 => by
    rw [upd_ne (nx b q2)]; exact ⟨q1, (RR.ownAt q2.own).choose_spec.2⟩) (fun g hg _ => by
    cases hg
    refine ⟨_, hs, r, fun _ b t q => ?_⟩
    cases ng b t
    exact nx _ q rfl)
  refine ⟨R2, fun b u h n => ?_, fun b _ n z => ?_, PSub.refl _, fun b h => .inl h, fun b h => ?_⟩
  · rw [upd_ne (fun z => n (by rw [z]; exact own_a))]; exact h
  · rcases w1 b z with q | ⟨g, y, q, o, hy, t⟩
    · exact n q.own
    · cases q
      rw [hs] at hy; cases hy
      cases ng b t; exact n own_a
  · by_cases hb : b = a
    · subst hb; rw [upd_same]; exact fun z => nomatch z
    · rw [upd_ne hb]; exact h
def stfM (c i j : Nat) (m : M) : MS := fun env => (m env).toS fun d e => match e[i]? with
  | some (some (.new c' fs)) => if c' = c ∧ fs.length = j then .nx (e.set i (some (.new c' (fs ++ [d])))) else .stk
  | _ => .stk
theorem ds_stf {c i j : Nat} {f : Str} (hK : X.K = T.K) (ho : PE X o (tVar i)) (hv : DE T W X e .pure m) (cl : Cls T.K (T.clsA c)) (na : NoAttr T.K (T.clsA c) f) (hj : (T.clsF c)[j]? = some f := by rfl) (hn : ((T.clsF c).take j).contains f = false := by decide +kernel) (h9 : j < 900 := by decide)
    (hs : swapsWith e (some (.Attribute o f pos')) pos.line X.env = pure false := by rfl) : DS T W kr pins X (.Assign [.Attribute o f pos'] e pos) (stfM c i j m) := by
  refine ps_imp (ps_fld ho hv hs) fun D σ H h => ?_
  rw [hK]
  obtain ⟨env, P, RR, h⟩ := h
  refine ⟨env, P, RR, After.mono h.ofR fun d env1 P1 H1 R1 F1 h1 y ky nx => ?_⟩
  cases e0 : env1[i]? with
  | none => simp only [e0] at h1; exact False.elim h1
  | some o =>
    cases o with
    | none => simp only [e0] at h1; exact False.elim h1
    | some v =>
      cases v with
      | new c' fs =>
        simp only [e0] at h1
        by_cases hc : c' = c ∧ fs.length = j
        · obtain ⟨rfl, hl⟩ := hc
          rw [if_pos ⟨rfl, hl⟩] at h1
          obtain ⟨u, hu, a, dx, vs, rfl, q1, q2, q3, q4⟩ := R1.ent i _ e0
          have hvl : vs.length = j := by rw [q4.length, hl]
          have hp : putF f y ((T.clsF c').zip vs) = (T.clsF c').zip (vs ++ [y]) := zip_put (by rw [hvl]; exact hj) (by rw [hvl]; exact hn)
          have hjl : j < (T.clsF c').length := by
            rcases Nat.lt_or_ge j (T.clsF c').length with q | q
            · exact q
            · rw [List.getElem?_eq_none q] at hj; cases hj
          refine ⟨_, hu, a, _, dx, _, rfl, q1, cl, na, ?_, ?_⟩
          · rw [List.length_zip]; omega
          · rw [hp]
            obtain ⟨R2, F2⟩ := R1.updW (u := .ins (T.clsA c') dx ((T.clsF c').zip (vs ++ [y]))) (g' := .new c' (fs ++ [d])) e0 rfl rfl hu ⟨a, dx, vs ++ [y], rfl, upd_same, q2, by simp; omega, q4.append (Reps.cons ky Reps.nil)⟩
            exact h1 σ _ _ R2 F2 FrP.refl
        · rw [if_neg hc] at h1; exact False.elim h1
      | _ => simp only [e0] at h1; exact False.elim h1
end
end Ue
set_option linter.all false
set_option Elab.async false
set_option maxRecDepth 100000
set_option maxHeartbeats 4000000
namespace Ue
open PySem PySem.Spec L2
def noEx (e : Env) : Bool := e.all fun o => match o with | some (.ex _ _) => false | _ => true
def dropE (i : Nat) (r : SR) : SR := match r with
  | .nx e => .nx (e.set i none)
  | .brk e => .brk (e.set i none)
  | .cnt e => .cnt (e.set i none)
  | .ret d e => .ret d (e.set i none)
  | _ => .stk
def tryAsM (body : MS) (caught : Nat → Option Bool) (i : Nat) (suite : MS) : MS := fun env => match body env with
  | .exc c fs e => (match caught c with | some true => if noEx e ∧ i < e.length then dropE i (suite (e.set i (some (.ex c fs)))) else .stk | some false => .exc c fs e | none => .stk)
  | r => r
section
variable {T T' : Tab} {W : WX} {kr : Kd} {pins : List Nat} {env env' : Env} {σ σ' : L2.St} {P H P' H' : Hp} {X : Cx} {pos : Pos} {i : Nat}
theorem Rel.drop (RR : Rel T env σ P H) (hl : σ'.length = σ.length) (hs : ∀ j, j ≠ i → σ'[j]? = σ[j]?) : Rel T (env.set i none) σ' P H ∧ Fr env σ P H (env.set i none) σ' P H := by
  obtain ⟨R2, w1, _⟩ := RR.slot (i := i) (o := none) (σ' := σ') (P' := P) (H' := H) hl hs (PSub.refl _) RR.sub (fun b u q1 q2 => ⟨q1, (RR.ownAt q2.own).choose_spec.2⟩) (fun g hg _ => nomatch hg)
  refine ⟨R2, fun b o h _ => h, fun b hb n z => ?_, PSub.refl _, fun b h => .inl h, fun b h => h⟩
  rcases w1 b z with q | ⟨g, y, q, _⟩
  · exact n q.own
  · cases q
theorem Rel.putEx {c : Nat} {fs : List D} {a : Addr} (RR : Rel T env σ P H) (hn : noEx env = true) (hT : T'.nb = T.nb) (hi : i < env.length) (r : EnvRep T' P H (.ex c fs) (.ref a)) :
    Rel T' (env.set i (some (.ex c fs))) (σ.set i (some (.ref a))) P H ∧ Fr env σ P H (env.set i (some (.ex c fs))) (σ.set i (some (.ref a))) P H := by
  have ne : ∀ (j : Nat) (e : EV), env[j]? = some (some e) → ∀ c fs, e ≠ .ex c fs := fun j e h c fs z => by
    subst z
    have := List.all_eq_true.mp hn _ (List.mem_of_getElem? h)
    cases this
  have key : ∀ (j : Nat) (e : EV), (env.set i (some (.ex c fs)))[j]? = some (some e) → (j = i ∧ e = .ex c fs ∧ (σ.set i (some (.ref a)))[j]? = some (some (.ref a))) ∨ (j ≠ i ∧ env[j]? = some (some e) ∧ (σ.set i (some (.ref a)))[j]? = σ[j]?) := fun j e h => by
    by_cases q : j = i
    · subst q
      rw [List.getElem?_set_self hi] at h
      cases h
      exact .inl ⟨rfl, rfl, List.getElem?_set_self (by rw [← RR.len]; exact hi)⟩
    · rw [List.getElem?_set_ne (fun z => q z.symm)] at h
      exact .inr ⟨q, h, List.getElem?_set_ne (fun z => q z.symm)⟩
  refine ⟨⟨RR.sub, fun j e h => ?_, fun j l e f x y b n h1 h2 o1 o2 s1 s2 t1 t2 => ?_, by rw [List.length_set, List.length_set]; exact RR.len⟩, fun b o h _ => h, fun b hb n z => ?_, PSub.refl _, fun b h => .inl h, fun b h => h⟩
  · rcases key j e h with ⟨rfl, rfl, q⟩ | ⟨_, q1, q2⟩
    · exact ⟨_, q, r⟩
    · rw [q2]
      obtain ⟨v, hv, rv⟩ := RR.nb.ent j e q1
      rw [← hT] at rv
      exact ⟨v, hv, rv.bn (ne j e q1)⟩
  · rcases key j e h1 with ⟨_, rfl, _⟩ | ⟨_, q1, q2⟩
    · cases o1
    · rcases key l f h2 with ⟨_, rfl, _⟩ | ⟨_, q3, q4⟩
      · cases o2
      · rw [q2] at s1; rw [q4] at s2
        exact RR.dis j l e f x y b n q1 q3 o1 o2 s1 s2 t1 t2
  · obtain ⟨j, e, x, h1, h2, h3, h4⟩ := z
    rcases key j e h1 with ⟨_, rfl, _⟩ | ⟨_, q1, q2⟩
    · cases h2
    · rw [q2] at h3; exact n ⟨j, e, x, q1, h2, h3, h4⟩
theorem ExRep.toB {c : Nat} {fs : List D} {cls : Value} {dd : Option Addr} (h : ExRep T P c fs cls dd) : ExRep T.nb P c fs cls dd := by
  obtain ⟨q1, q2⟩ := h
  refine ⟨q1, ?_⟩
  rcases q2 with q2 | ⟨dx, xfs, vs, w1, w2, w3, w4⟩
  · exact .inl q2
  · exact .inr ⟨dx, xfs, vs, w1, w2, w3, (reps_nb _ _).mpr w4⟩
theorem ds_try_as {x n : Str} {cv : Value} {body suite : List Stmt} {b₀ : Stmt} {np pos' : Pos} {mb ms : MS} {caught : Nat → Option Bool} (hT : T.nb = T) (hkr : kr = .pure ∨ kr = .fresh) (hs : X.stack = X.env :: X.outer) (hf : X.env.frame = some X.env.locals) (hN : X.N.Nodup)
    (hi : X.N[i]? = some n) (hln : X.env.kindOf n = some .local) (hc : Names X x cv) (tk : Takes X W) (hpi : i ∉ pins)
    (hx : ∀ c b, caught c = some b → PySem.W.exmOne X.K (.ref (T.excA c)) cv = some b)
    (hb : ∀ (W' : WX) (pn : List (Addr × Obj)) (xe : Value → Shared → Prop), Takes (X.tr pn xe) W' → PassesOwn (model X.prog X.w) X.A X.env xe → DSs T W' kr pins (X.tr pn xe) body mb)
    (hsu : ∀ (a : Addr) (oe : Obj) (cls : Value) (d : Option Addr) (pn : List (Addr × Obj)), Zc cls d oe → (∃ vs, oe.data = .fields vs) → DSs { T with cur := some (a, d, cls) } W0 kr pins (X.suite a ((a, oe) :: pn)) (b₀ :: suite) ms) :
    DS T W kr pins X (.Try body [.ExceptHandler (some (.Name x np)) (some n) (b₀ :: suite) pos'] [] [] pos) (tryAsM mb caught i ms) := by
  refine ps_imp (ps_try_as hs hf hN hi hln hc tk (fun W' pn xe t p => hb W' pn xe t p) (fun a oe cls d pn h1 h2 => hsu a oe cls d pn h1 h2)) fun D σ H h => ?_
  obtain ⟨env, P, RR, h⟩ := h
  refine ⟨env, P, RR, ?_⟩
  unfold tryAsM at h
  cases e : mb env with
  | exc c fs e1 =>
    simp only [e] at h
    intro σ1 P1 H1 cls dd R1 F1 p1 x1
    have x0 := x1
    obtain ⟨rfl, x2⟩ := x1
    cases q : caught c with
    | none => simp only [q] at h; exact False.elim h
    | some b =>
      simp only [q] at h
      refine ⟨b, hx c b q, fun hb a ha => ?_, fun hb => ?_⟩
      · subst hb
        simp only at h
        by_cases g : noEx e1 = true ∧ i < e1.length
        · rw [if_pos g] at h
          obtain ⟨R2, F2⟩ := R1.putEx (T' := { T with cur := some (a, dd, .ref (T.excA c)) }) (c := c) (fs := fs) (a := a) g.1 rfl g.2 (fun a' d' cls' hc => by cases hc; exact ⟨rfl, ExRep.bn (T := { T with cur := some (a, dd, .ref (T.excA c)) }) x0.toB⟩)
          refine ⟨_, P1, R2, ?_⟩
          have h := AfterS.step h F1 p1
          have back : ∀ {e3 : Env} {σ' : L2.St} {P' H' : Hp}, Rel { T with cur := some (a, dd, .ref (T.excA c)) } e3 σ' P' H' → Rel T e3 σ' P' H' := fun {e3 σ' P' H'} r => by
            have r2 : Rel T.nb e3 σ' P' H' := r.nb
            rw [hT] at r2; exact r2
          have sne : ∀ (σ' : L2.St) (j : Nat), j ≠ i → (σ'.set i none)[j]? = σ'[j]? := fun σ' j hj => List.getElem?_set_ne (fun z => hj z.symm)
          cases e2 : ms (e1.set i (some (.ex c fs))) with
          | nx e3 =>
            rw [e2] at h
            intro σ' P' H' R3 F3 p3
            obtain ⟨R4, F4⟩ := (back R3).drop (i := i) (σ' := σ'.set i none) List.length_set (sne σ')
            exact h _ P' H' R4 ((F2.trans F3).trans F4) (((FrP.set hpi).trans p3).trans (FrP.set hpi))
          | brk e3 =>
            rw [e2] at h
            intro σ' P' H' R3 F3 p3
            obtain ⟨R4, F4⟩ := (back R3).drop (i := i) (σ' := σ'.set i none) List.length_set (sne σ')
            exact h _ P' H' R4 ((F2.trans F3).trans F4) (((FrP.set hpi).trans p3).trans (FrP.set hpi))
          | cnt e3 =>
            rw [e2] at h
            intro σ' P' H' R3 F3 p3
            obtain ⟨R4, F4⟩ := (back R3).drop (i := i) (σ' := σ'.set i none) List.length_set (sne σ')
            exact h _ P' H' R4 ((F2.trans F3).trans F4) (((FrP.set hpi).trans p3).trans (FrP.set hpi))
          | ret d e3 =>
            rw [e2] at h
            intro σ' P' H' y R3 F3 p3 ky ny
            obtain ⟨R4, F4⟩ := (back R3).drop (i := i) (σ' := σ') rfl (fun _ _ => rfl)
            refine h σ' P' H' y R4 ((F2.trans F3).trans F4) ((FrP.set hpi).trans p3) ?_ ?_
            · rcases hkr with rfl | rfl
              · have k2 : Rep { T with cur := some (a, dd, .ref (T.excA c)) } P' d y := ky
                have k3 := (rep_nb d y).mpr k2
                exact (rep_nb (T := T) d y).mp k3
              · obtain ⟨b, ws, ds, q1, q2, q3, q4, q5, q6⟩ := ky
                have k3 := (reps_nb ds ws).mpr q5
                exact ⟨b, ws, ds, q1, q2, q3, F4.own b (by rw [q2]; exact fun z => nomatch z) q4, (reps_nb (T := T) ds ws).mp k3, q6⟩
            · rcases hkr with rfl | rfl
              · trivial
              · obtain ⟨b, eb, hb⟩ := ny
                refine ⟨b, eb, ?_⟩
                rcases hb with hb | hb
                · exact .inl hb
                · by_cases z : H1 b = none
                  · exact .inl z
                  · exact .inr (Classical.byContradiction fun w => F2.own b z w hb)
          | exc _ _ _ => rw [e2] at h; exact False.elim h
          | stk => rw [e2] at h; exact False.elim h
        · rw [if_neg g] at h; exact False.elim h
      · subst hb
        exact h σ1 P1 H1 _ dd R1 F1 p1 ⟨rfl, x2⟩
  | nx e3 => rw [e] at h; exact h
  | brk e3 => rw [e] at h; exact h
  | cnt e3 => rw [e] at h; exact h
  | ret d e3 => rw [e] at h; exact h
  | stk => rw [e] at h; exact h
def exfM (c i j : Nat) : M := fun env => match env[i]? with
  | some (some (.ex c' fs)) => if c' = c then (match fs[j]? with | some x => .ok x env | none => .stk) else .stk
  | _ => .stk
theorem de_exf {c j : Nat} {f : Str} {a : Addr} {oe : Obj} {cls : Value} {d : Option Addr} {pn : List (Addr × Obj)} {e : Expr} (hT : T.cur = some (a, d, cls)) (hz : Zc cls d oe) (hf : ∃ vs, oe.data = .fields vs) (C : XfC X.K (T.excA c))
    (hno : PySem.W.findIn X.K (.ref (T.excA c)) f = some none) (hj : (T.excF c)[j]? = some f) (h : PE (X.suite a ((a, oe) :: pn)) e (tVar i)) (hb : attributeBase e f X.env (eval e X.env) = eval e X.env := by rfl) :
    DE T W (X.suite a ((a, oe) :: pn)) (.Attribute e f pos) .pure (exfM c i j) := by
  refine pe_imp (pe_xf C hno hz hf h hb) fun σ H Q h => ?_
  obtain ⟨env, P, RR, h⟩ := h
  unfold exfM at h
  cases e0 : env[i]? with
  | none => rw [e0] at h; exact False.elim h
  | some o =>
    cases o with
    | none => rw [e0] at h; exact False.elim h
    | some v =>
      cases v with
      | ex c' fs =>
        rw [e0] at h
        simp only at h
        by_cases hc : c' = c
        · subst hc
          rw [if_pos rfl] at h
          obtain ⟨u, hu, r⟩ := RR.ent i _ e0
          obtain ⟨r1, r2, r3⟩ := r a d cls hT
          subst r1
          cases e1 : fs[j]? with
          | none => rw [e1] at h; exact False.elim h
          | some y =>
            rw [e1] at h
            rcases r3 with r3 | ⟨dx, xfs, vs, w1, w2, w3, w4⟩
            · obtain ⟨rfl, _⟩ := r3; simp at e1
            · obtain ⟨v, hv, rv⟩ := w4.get e1
              exact ⟨_, hu, rfl, r2, dx, xfs, v, w1, RR.sub _ _ w2, w3 j f v hj hv, h.here RR (Fr.refl _ _ _ _) v rv trivial⟩
        · rw [if_neg hc] at h; exact False.elim h
      | _ => rw [e0] at h; exact False.elim h
end
end Ue
set_option linter.all false
set_option Elab.async false
set_option maxRecDepth 100000
set_option maxHeartbeats 4000000
namespace Ue
open PySem PySem.Spec L2
section
variable {X : Cx} {C : Addr} {k n : Nat} {f : Addr} {fd : FuncData} {ps ks : List Str} {sp : Sp} {E : L2.St → XK} {x : Str} {p pos : Pos} {e : Expr} {es : List Expr} {kws : List Keyword} {t tk : TA} {CX : CXT} {g : List Value → List Value → List Value} {gV : List V → List V → List V}
end
section
variable {T : Tab} {W : WX} {env : Env} {σ : L2.St} {P H H0 : Hp} {X : Cx} {e : Expr} {kws : List Keyword} {m : M} {ags kgs : List Ag} {nm : Option Str} {kpos : Pos}
end
def mkKM (c nf : Nat) (F : FM) (ags kgs : List Ag) (dfl : List D) : M := fun env => (argG ags env).bind fun ss e => (argG kgs e).bind fun zs e2 => makeS c nf F dfl (ss ++ zs) e2
theorem SReps.append {T : Tab} {σ : L2.St} {P : Hp} : ∀ {as bs : List AD} {vs ws : List V}, SReps T σ P as vs → SReps T σ P bs ws → SReps T σ P (as ++ bs) (vs ++ ws)
  | _, _, _, _, .nil, k => k
  | _, _, _, _, .d h t, k => .d h (t.append k)
  | _, _, _, _, .s h t, k => .s h (t.append k)
section
variable {T : Tab} {W : WX} {env : Env} {σ : L2.St} {P H : Hp} {X : Cx} {F : FM} {n nf c : Nat} {dfl : List D} {dvs : List V} {Q : VK} {ags kgs : List Ag}
end
section
variable {T : Tab} {W : WX} {X : Cx} {F : FM} {k n nf c : Nat} {dfl : List D} {dvs : List V} {ags kgs : List Ag} {f : Addr} {fd : FuncData} {ps ks : List Str} {x : Str} {p pos : Pos} {e : Expr} {es : List Expr} {kws : List Keyword} {g : List Value → List Value → List Value}
end
end Ue
set_option linter.all false
set_option Elab.async false
set_option maxRecDepth 100000
set_option maxHeartbeats 4000000
namespace Ue
open PySem PySem.Spec L2
def dfunB (K : PySem.W.Frag) (d : He.DefD) : Obj → Bool
  | ⟨_, _, .func z, _⟩ => PySem.W.codeIn K z.code d.qual && (He.dflB K z.defaults (d.dvs K) && He.kwdB K z.kwdefaults (d.kws K))
  | _ => false
def DefG.okB (K : PySem.W.Frag) (g : DefG) : Bool := PySem.W.keepIn K (.ref (g.ad K)) && (K.lookup (g.ad K)).any (dfunB K g.d)
theorem DefG.funD {K : PySem.W.Frag} {g : DefG} (e : seenAt K (g.ad K) = g.d.val) (c : g.okB K = true) : ∃ fd, FunD K g.d.name g.d.qual g.d.params g.d.body g.d.scope (g.d.dvs K) (g.d.kws K) (g.ad K) fd := by
  obtain ⟨kp, c2⟩ := He.ba c
  unfold seenAt at e
  cases q : K.lookup (g.ad K) with
  | none => rw [q] at c2; cases c2
  | some o =>
    obtain ⟨oc, od, dt, osl⟩ := o
    rw [q] at c2 e
    cases dt with
    | func z =>
      obtain ⟨a1, a2, a3, a4, a5, a6, a7, dV, kV, doc, pm, an, cdv, ct, a8⟩ := z
      have e2 : (some (a1, a2, a3, a4, a5, a6, a7, a8) : FnA) = some (g.d.name, g.d.qual, g.d.params, .stmts g.d.body, g.d.scope, mainGlobals, [], builtinsNs) := e
      have e3 := Option.some.inj e2
      simp only [Prod.mk.injEq] at e3
      obtain ⟨rfl, rfl, rfl, rfl, rfl, rfl, rfl, rfl⟩ := e3
      obtain ⟨k1, k2⟩ := He.ba (show (PySem.W.codeIn K cdv g.d.qual && (He.dflB K dV (g.d.dvs K) && He.kwdB K kV (g.d.kws K))) = true from c2)
      obtain ⟨k3, k4⟩ := He.ba k2
      exact ⟨_, ⟨oc, od, dV, kV, doc, pm, an, cdv, ct, osl, rfl, q, k1, He.dflB_ok k3, He.kwdB_ok k4⟩, kp⟩
    | _ => cases c2
def recF (kind : String) (K : PySem.W.Frag) (C : Addr) (m : Str) : Addr := match PySem.W.recIn K (He.ma K C m) kind with
  | some (.ref g :: _) => g
  | _ => 0
structure MetF (kind : String) (K : PySem.W.Frag) (C : Addr) (m : Str) : Prop where
  r : ClX.CRead K C (.type "type")
  at_ : PySem.W.findCls K (.ref C) (.type "type") m = some (.get (.builtin (kind ++ ".__get__")) (.ref (He.ma K C m)) .none (.ref C))
  rc : ∃ rest, PySem.W.recIn K (He.ma K C m) kind = some (.ref (recF kind K C m) :: rest)
  fi : PySem.W.fnIn K (recF kind K C m) = true
theorem MetF.cm {K : PySem.W.Frag} {C : Addr} {m : Str} (h : MetF "classmethod" K C m) : ClX.CMet K C (.type "type") m (He.ma K C m) (recF "classmethod" K C m) := ⟨h.at_, h.rc, h.fi⟩
structure InsF (K : PySem.W.Frag) (C : Addr) : Prop where
  cl : Cls K C
  a : PySem.W.findIn K (.ref C) "__class__" = some (some (.builtin "object.__class__"))
  n : PySem.W.specialIn K (.builtin "object.__class__") "__get__" = some (some (.builtin "getset_descriptor.__get__"))
  t : PySem.W.takesIn K (.builtin "object.__class__") = some true
  m : PySem.W.mroIn K C (.type "object") = some true
theorem insB_ok {K : PySem.W.Frag} {C : Addr} (cl : Cls K C) (h : insB K C = true) : InsF K C := by
  obtain ⟨h1, h⟩ := He.ba h
  obtain ⟨h2, h⟩ := He.ba h
  obtain ⟨h3, h4⟩ := He.ba h
  exact ⟨cl, of_decide_eq_true h1, of_decide_eq_true h2, of_decide_eq_true h3, of_decide_eq_true h4⟩
def isC (tys : List (String × Bool)) (cls : List (Nat × Bool)) : D → Option Bool
  | .obj c _ => cls.lookup c
  | d => (tyN d).bind fun n => tys.lookup n
structure IsTab (K : PySem.W.Frag) (cA : Nat → Addr) (ans : Value → Option Bool) (tys : List (String × Bool)) (cls : List (Nat × Bool)) : Prop where
  t : ∀ n b, tys.lookup n = some b → ans (.type n) = some b
  c : ∀ n b, cls.lookup n = some b → ans (.ref (cA n)) = some b ∧ insB K (cA n) = true
theorem lookup_memG {α β : Type} [BEq α] [LawfulBEq α] {a : α} {b : β} : ∀ {l : List (α × β)}, l.lookup a = some b → (a, b) ∈ l
  | [], h => by cases h
  | (x, y) :: r, h => by
    rw [List.lookup_cons] at h
    cases q : (a == x) with
    | true => rw [q] at h; cases h; rw [beq_iff_eq.mp q]; exact List.mem_cons_self
    | false => rw [q] at h; exact List.mem_cons_of_mem _ (lookup_memG h)
theorem isTab_ok {K : PySem.W.Frag} {cA : Nat → Addr} {ans : Value → Option Bool} {tys : List (String × Bool)} {cls : List (Nat × Bool)} (h : isTabB K cA ans tys cls = true) : IsTab K cA ans tys cls := by
  obtain ⟨h1, h2⟩ := He.ba h
  refine ⟨fun n b e => of_decide_eq_true (List.all_eq_true.mp h1 _ (lookup_memG e)), fun n b e => ?_⟩
  obtain ⟨q1, q2⟩ := He.ba (List.all_eq_true.mp h2 _ (lookup_memG e))
  exact ⟨of_decide_eq_true q1, q2⟩
theorem SaysV.def_ {fa : List He.Fa} {fn : List He.DefD} {gs : List DefG} {ex : PySem.W.Frag → Bool} {K : PySem.W.Frag} (c : SaysV fa fn gs ex K) (i : Nat) {g : DefG} (h : gs[i]? = some g) (hk : g.okB K = true) :
    ∃ fd, FunD K g.d.name g.d.qual g.d.params g.d.body g.d.scope (g.d.dvs K) (g.d.kws K) (g.ad K) fd := by
  refine DefG.funD ?_ hk
  have e := congrArg (fun l : List FnA => l[i]?) c.g
  simp only [List.getElem?_map, h, Option.map_some] at e
  exact Option.some.inj e
end Ue
set_option linter.all false
set_option Elab.async false
set_option maxRecDepth 100000
set_option maxHeartbeats 4000000
namespace Ue
open PySem PySem.Spec L2
section
variable {X : Cx} {Z : CXT} {k n : Nat} {C g f : Addr} {fd : FuncData} {ps ks : List Str} {sp : Sp} {dvs : List V} {ds : List Value} {E : L2.St → XK} {x m : Str} {xp pos apos : Pos} {e : Expr} {es : List Expr} {kws : List Keyword} {t tk : TA} {gg : List Value → List Value → List Value} {gV : List V → List V → List V}
end
end Ue
set_option linter.all false
set_option Elab.async false
set_option maxRecDepth 100000
set_option maxHeartbeats 4000000
namespace Ue
open PySem PySem.Spec PyProof.Rows L2
def rRepr (K : PySem.W.Frag) : List V → Hp → VK → Prop := fun xs H Q => ∃ x p, xs = [x] ∧ Dp K H x p ∧ p.showable = true ∧ p.hasDict = false ∧ p.depth ≤ 60 ∧ p.shown.length ≤ sizeLine ∧ Q (.str p.shown) H
theorem call_reprG {X : Cx} (gd : X.A.guards = some []) (hu : X.A.units + 64 < cLine) : CallR X (.builtin "repr") (rRepr X.K) := by
  intro pins s σ H xs us Q I r h
  obtain ⟨x, p, rfl, dp, h1, h2, h3, h4, q⟩ := h
  cases r with
  | cons r1 r2 =>
    cases r2
    obtain ⟨as, rd⟩ := Dp.reads I p x _ dp r1
    cases rd with
    | none => exact PySem.P.repr_of_none ⟨.str _, H, I.tok _, ⟨_, rfl⟩, by simpa only [PyData.shown] using q⟩
    | bool b => exact PySem.P.repr_of_bool ⟨.str _, H, I.tok _, ⟨_, rfl⟩, by simpa only [PyData.shown] using q⟩
    | int i t => exact PySem.P.repr_of_int (of_decide_eq_true (by simpa only [PyData.showable] using h1)) ⟨.str _, H, I.tok _, ⟨_, rfl⟩, by simpa only [PyData.shown] using q⟩
    | str y t => exact PySem.P.repr_of_str ⟨.str _, H, I.tok _, ⟨_, rfl⟩, by simpa only [PyData.shown] using q⟩ (by simpa only [PyData.shown] using h4)
    | list a b c d => exact repr_of_reads' (.list a b c d) h1 (PyData.noDict_hsm h2) gd (by omega) (fun _ _ e => e) (fun h' u tk hk => ⟨.str _, H, I.kept (t' := tk) hk, ⟨_, rfl⟩, q⟩) h4
    | tuple a b c d => exact repr_of_reads' (.tuple a b c d) h1 (PyData.noDict_hsm h2) gd (by omega) (fun _ _ e => e) (fun h' u tk hk => ⟨.str _, H, I.kept (t' := tk) hk, ⟨_, rfl⟩, q⟩) h4
    | dict _ _ _ _ _ => cases h2
def reprOk (p : PyData) : Bool := p.showable && (!p.hasDict && (decide (p.depth ≤ 60) && decide (p.shown.length ≤ sizeLine)))
def reprD : List D → Option D | [d] => (toPy d).bind fun p => if reprOk p then some (.str p.shown) else none | _ => none
theorem cd_repr {T : Tab} : CallD T (rRepr T.K) .pure reprD := fun env σ P H ds xs d Q R1 hx e k => by
  match ds, hx, e with
  | [d0], hx, e =>
    obtain ⟨x, rfl, h0⟩ := hx.one
    have e : ((toPy d0).bind fun p => if reprOk p then some (D.str p.shown) else none) = some d := e
    cases e1 : toPy d0 with
    | none => rw [e1] at e; cases e
    | some p =>
      rw [e1] at e
      have e : (if reprOk p then some (D.str p.shown) else none) = some d := e
      by_cases hp : reprOk p = true
      · rw [if_pos hp] at e
        cases e
        obtain ⟨q1, q⟩ := He.ba hp
        obtain ⟨q2, q⟩ := He.ba q
        obtain ⟨q3, q4⟩ := He.ba q
        exact ⟨x, p, rfl, h0.dp R1.sub e1, q1, by simpa using q2, of_decide_eq_true q3, of_decide_eq_true q4, k _ P H R1 (Fr.refl _ _ _ _) (show Rep T P _ _ from rep_str) trivial⟩
      · rw [if_neg hp] at e; cases e
def rInA (K : PySem.W.Frag) : R2 := fun x y H Q => ∃ d ds, Dp K H x d ∧ (Dp K H y (.list ds) ∨ Dp K H y (.tuple ds)) ∧ SeqAt.shaped d = true ∧ SeqAt.shaped (.list ds) = true ∧ Q (.bl (ds.any fun z => PyData.eqv z d)) H
def rNotInA (K : PySem.W.Frag) : R2 := fun x y H Q => ∃ d ds, Dp K H x d ∧ (Dp K H y (.list ds) ∨ Dp K H y (.tuple ds)) ∧ SeqAt.shaped d = true ∧ SeqAt.shaped (.list ds) = true ∧ Q (.bl (!ds.any fun z => PyData.eqv z d)) H
theorem op_inA {X : Cx} (hu : X.A.units + 65 < cLine) : OpR X (compareOp .In) (rInA X.K) := by
  intro pins s σ H x y v u Q I rx ry h
  obtain ⟨d, ds, hd, he, sd, se, q⟩ := h
  obtain ⟨as, r1⟩ := Dp.reads I d x v hd rx
  rcases he with he | he
  · obtain ⟨bs, r2⟩ := Dp.reads I (.list ds) y u he ry
    exact SeqAt.in_list_reads r2 r1 (SeqAt.canLay_of_shaped se) (SeqAt.canLay_of_shaped sd) (room_in_shaped sd hu) ⟨.bl _, H, I, rfl, q⟩
  · obtain ⟨bs, r2⟩ := Dp.reads I (.tuple ds) y u he ry
    exact SeqAt.in_tuple_reads r2 r1 (SeqAt.canLay_of_shaped se) (SeqAt.canLay_of_shaped sd) (room_in_shaped sd hu) ⟨.bl _, H, I, rfl, q⟩
theorem op_notInA {X : Cx} (hu : X.A.units + 65 < cLine) : OpR X (compareOp .NotIn) (rNotInA X.K) := by
  intro pins s σ H x y v u Q I rx ry h
  obtain ⟨d, ds, hd, he, sd, se, q⟩ := h
  obtain ⟨as, r1⟩ := Dp.reads I d x v hd rx
  rcases he with he | he
  · obtain ⟨bs, r2⟩ := Dp.reads I (.list ds) y u he ry
    exact SeqAt.notIn_list_reads r2 r1 (SeqAt.canLay_of_shaped se) (SeqAt.canLay_of_shaped sd) (room_in_shaped sd hu) ⟨.bl _, H, I, rfl, q⟩
  · obtain ⟨bs, r2⟩ := Dp.reads I (.tuple ds) y u he ry
    exact SeqAt.notIn_tuple_reads r2 r1 (SeqAt.canLay_of_shaped se) (SeqAt.canLay_of_shaped sd) (room_in_shaped sd hu) ⟨.bl _, H, I, rfl, q⟩
def inA (a b : D) : Option Bool := match toPy a, b with
  | some p, .lst es => (toPys es).bind fun qs => if SeqAt.shaped p = true ∧ SeqAt.shaped (.list qs) = true then some (qs.any fun z => PyData.eqv z p) else none
  | some p, .tup es => (toPys es).bind fun qs => if SeqAt.shaped p = true ∧ SeqAt.shaped (.list qs) = true then some (qs.any fun z => PyData.eqv z p) else none
  | _, _ => none
def notInA (a b : D) : Option Bool := (inA a b).map (!·)
theorem inA_some {a b : D} {t : Bool} (h : inA a b = some t) : ∃ p es qs, toPy a = some p ∧ ((b = .lst es ∧ toPy b = some (.list qs)) ∨ (b = .tup es ∧ toPy b = some (.tuple qs))) ∧ SeqAt.shaped p = true ∧ SeqAt.shaped (.list qs) = true ∧ t = qs.any fun z => PyData.eqv z p := by
  unfold inA at h
  cases ea : toPy a with
  | none => rw [ea] at h; cases h
  | some p =>
    rw [ea] at h
    have key : ∀ (es : List D), ((toPys es).bind fun qs => if SeqAt.shaped p = true ∧ SeqAt.shaped (.list qs) = true then some (qs.any fun z => PyData.eqv z p) else none) = some t → ∃ qs, toPys es = some qs ∧ SeqAt.shaped p = true ∧ SeqAt.shaped (.list qs) = true ∧ t = qs.any fun z => PyData.eqv z p := fun es h => by
      cases eq : toPys es with
      | none => rw [eq] at h; cases h
      | some qs =>
        rw [eq] at h
        have h : (if SeqAt.shaped p = true ∧ SeqAt.shaped (.list qs) = true then some (qs.any fun z => PyData.eqv z p) else none) = some t := h
        by_cases c : SeqAt.shaped p = true ∧ SeqAt.shaped (.list qs) = true
        · rw [if_pos c] at h; cases h; exact ⟨qs, rfl, c.1, c.2, rfl⟩
        · rw [if_neg c] at h; cases h
    cases b with
    | lst es => obtain ⟨qs, h1, h2, h3, h4⟩ := key es h; exact ⟨p, es, qs, rfl, .inl ⟨rfl, by rw [toPy, h1]; rfl⟩, h2, h3, h4⟩
    | tup es => obtain ⟨qs, h1, h2, h3, h4⟩ := key es h; exact ⟨p, es, qs, rfl, .inr ⟨rfl, by rw [toPy, h1]; rfl⟩, h2, h3, h4⟩
    | _ => cases h
theorem cd_inA {T : Tab} : CmpD T (rInA T.K) inA := fun P H dx dy x y b Q R1 hx hy e q => by
  obtain ⟨p, es, qs, h1, h2, h3, h4, rfl⟩ := inA_some e
  refine ⟨p, qs, hx.dp R1 h1, ?_, h3, h4, q⟩
  rcases h2 with ⟨_, h2⟩ | ⟨_, h2⟩
  · exact .inl (hy.dp R1 h2)
  · exact .inr (hy.dp R1 h2)
theorem cd_notInA {T : Tab} : CmpD T (rNotInA T.K) notInA := fun P H dx dy x y b Q R1 hx hy e q => by
  unfold notInA at e
  cases c : inA dx dy with
  | none => rw [c] at e; cases e
  | some t =>
    rw [c] at e; cases e
    obtain ⟨p, es, qs, h1, h2, h3, h4, rfl⟩ := inA_some c
    refine ⟨p, qs, hx.dp R1 h1, ?_, h3, h4, q⟩
    rcases h2 with ⟨_, h2⟩ | ⟨_, h2⟩
    · exact .inl (hy.dp R1 h2)
    · exact .inr (hy.dp R1 h2)
end Ue
namespace Ue
open PySem PySem.Spec L2
def putK (o : Bool) (i : Nat) (d : D) (e : Env) : Option Env := if o then (match d with | .lst ds => some (e.set i (some (.own ds))) | _ => none) else some (e.set i (some (.v d)))
section
variable {T : Tab} {W : WX} {kr : Kd} {pins : List Nat} {env env' : Env} {σ σ' : L2.St} {P H P' H' : Hp} {X : Cx} {pos : Pos} {a b c : Expr} {ma mb mc : M} {o o1 o2 o3 : Bool} {i j l : Nat} {d : D} {x : V}
theorem Rel.putK (RR : Rel T env σ P H) (k : KRep T (kdOf o) env σ P H d x) (e : putK o i d env = some env') : Rel T env' (σ.set i (some x)) P H ∧ ∀ b, Own env' (σ.set i (some x)) H b → Own env σ H b ∨ (o = true ∧ x = .ref b) := by
  cases o with
  | false =>
    cases e
    obtain ⟨R2, F2⟩ := RR.setV (i := i) (show Rep T P d x from k)
    refine ⟨R2, fun b z => .inl ?_⟩
    obtain ⟨o, ho, _⟩ := R2.ownAt z
    exact Classical.byContradiction fun n => F2.own b (by rw [ho]; exact fun z => nomatch z) n z
  | true =>
    obtain ⟨p, vs, ds, rfl, h1, h2, h3, h4, rfl⟩ := k
    cases e
    obtain ⟨R2, w⟩ := RR.setO' (i := i) h1 h2 h3 h4
    exact ⟨R2, fun b z => (w b z).elim (fun z => .inr ⟨rfl, by rw [z]⟩) .inl⟩
theorem KRep.put {o' : Bool} {d' : D} {y : V} (k : KRep T (kdOf o') env σ P H d' y) (h : ∀ b, Own env' σ' H b → Own env σ H b ∨ (o = true ∧ x = .ref b)) (n : o = true → o' = true → x ≠ y) : KRep T (kdOf o') env' σ' P H d' y := by
  cases o' with
  | false => exact k
  | true =>
    obtain ⟨p, vs, ds, rfl, h1, h2, h3, h4, rfl⟩ := k
    refine ⟨p, vs, ds, rfl, h1, h2, fun z => ?_, h4, rfl⟩
    rcases h p z with z | ⟨ho, e⟩
    · exact h3 z
    · exact n ho rfl e
theorem kdOf_not {o : Bool} : ∀ i, kdOf o ≠ .own i := fun i h => by cases o <;> cases h
def parKM (o1 o2 : Bool) (i j : Nat) (ma mb : M) : MS := fun env => (ma env).toS fun d1 e1 => (mb e1).toS fun d2 e2 => match putK o1 i d1 e2 with
  | some e3 => (match putK o2 j d2 e3 with | some e4 => .nx e4 | none => .stk)
  | none => .stk
theorem fresh_ne {k1 : Bool} {y : V} (hx : KRep T (kdOf o) env σ P H d x) (ny : NewV (kdOf k1) H y) (ho : o = true) (hk : k1 = true) : x ≠ y := by
  subst ho hk
  obtain ⟨p, vs, ds, rfl, h1, _⟩ := hx
  obtain ⟨q, rfl, hq⟩ := ny
  intro z; cases z
  rw [h1] at hq; cases hq
theorem ds_parK {x y : Str} {px py pt : Pos} {kt k2 : Nat} {pt2 : Pos} (hc : X.calm = true) (hN : X.N.Nodup) (hi : X.N[i]? = some x) (hj : X.N[j]? = some y) (hij : i ≠ j)
    (hx : X.env.scope.names.lookup x = some .local) (hy : X.env.scope.names.lookup y = some .local) (ha : DE T W X a (kdOf o1) ma) (hb : DE T W X b (kdOf o2) mb) (hpi : i ∉ pins := by decide) (hpj : j ∉ pins := by decide)
    (hw : swappedStores [.Tuple [.Name x px, .Name y py] kt pt] (.Tuple [a, b] k2 pt2) X.env = pure (some [x, y]) := by rfl)
    (hs : swapsWithSole [.Tuple [.Name x px, .Name y py] kt pt] (.Tuple [a, b] k2 pt2) pos.line X.env = pure false := by rfl)
    (h1 : starEach [a, b] X.env = (false, eval a X.env) :: starEach [b] X.env := by rfl) (h2 : starEach [b] X.env = (false, eval b X.env) :: starEach [] X.env := by rfl) :
    DS T W kr pins X (.Assign [.Tuple [.Name x px, .Name y py] kt pt] (.Tuple [a, b] k2 pt2) pos) (parKM o1 o2 i j ma mb) := by
  refine ps_imp (ps_par hc hN hi hj hij hx hy (pa_cons ha (pa_cons hb pa_nil h2) h1) hw hs) fun D σ H h => ?_
  obtain ⟨env, P, RR, h⟩ := h
  refine ⟨env, P, RR, ?_⟩
  unfold parKM at h
  cases e1 : ma env with
  | stk => rw [e1] at h; exact h
  | exc c fs env1 => rw [e1] at h; exact fun P1 H1 cls dd R1 F1 q => h σ P1 H1 cls dd R1 F1 FrP.refl q
  | ok d1 env1 =>
    rw [e1] at h
    intro P1 H1 R1 F1 x kx nx
    refine ⟨env1, P1, R1, ?_⟩
    have h : AfterS T W kr pins env σ P H ((mb env1).toS fun d2 e2 => match Ue.putK o1 i d1 e2 with
      | some e3 => (match Ue.putK o2 j d2 e3 with | some e4 => .nx e4 | none => .stk)
      | none => .stk) D := h
    cases e2 : mb env1 with
    | stk => rw [e2] at h; exact h
    | exc c fs env2 => rw [e2] at h; exact fun P2 H2 cls dd R2 F2 q => h σ P2 H2 cls dd R2 (F1.trans F2) FrP.refl q
    | ok d2 env2 =>
      rw [e2] at h
      intro P2 H2 R2 F2 y ky ny
      have h : AfterS T W kr pins env σ P H (match Ue.putK o1 i d1 env2 with
        | some e3 => (match Ue.putK o2 j d2 e3 with | some e4 => .nx e4 | none => .stk)
        | none => .stk) D := h
      have hne : o1 = true → o2 = true → x ≠ y := fresh_ne kx ny
      have kx2 := kx.carry F2 (fun i z => absurd z (kdOf_not i))
      have F := F1.trans F2
      cases q1 : Ue.putK o1 i d1 env2 with
      | none => rw [q1] at h; exact h.elim
      | some e3 =>
        rw [q1] at h
        obtain ⟨R3, w3⟩ := R2.putK kx2 q1
        have ky3 : KRep T (kdOf o2) e3 (σ.set i (some x)) P2 H2 d2 y := ky.put w3 hne
        have h : AfterS T W kr pins env σ P H (match Ue.putK o2 j d2 e3 with | some e4 => .nx e4 | none => .stk) D := h
        cases q2 : Ue.putK o2 j d2 e3 with
        | none => rw [q2] at h; exact h.elim
        | some e4 =>
          rw [q2] at h
          obtain ⟨R4, w4⟩ := R3.putK ky3 q2
          refine ⟨x, y, rfl, h _ P2 H2 R4 ⟨F.keep, fun b hbb n z => ?_, F.mono, F.new, F.there⟩ ((FrP.set hpi).trans (FrP.set hpj))⟩
          rcases w4 b z with z | ⟨ho, ey⟩
          · rcases w3 b z with z | ⟨ho, ex⟩
            · exact F.own b hbb n z
            · subst ho; obtain ⟨p, ep, hp⟩ := nx; rw [ex] at ep; cases ep; exact hbb hp
          · subst ho; obtain ⟨p, ep, hp⟩ := ny; rw [ey] at ep; cases ep; exact F1.there b hbb hp
def parK3 (o1 o2 o3 : Bool) (i j l : Nat) (ma mb mc : M) : MS := fun env => (ma env).toS fun d1 e1 => (mb e1).toS fun d2 e2 => (mc e2).toS fun d3 e3 => match putK o1 i d1 e3 with
  | some e4 => (match putK o2 j d2 e4 with
    | some e5 => (match putK o3 l d3 e5 with | some e6 => .nx e6 | none => .stk)
    | none => .stk)
  | none => .stk
end
end Ue
set_option linter.all false
set_option Elab.async false
set_option maxRecDepth 100000
set_option maxHeartbeats 4000000
namespace Ue
open PySem PySem.Spec L2
section
variable {T : Tab} {as as' : List EV} {vs : List V} {v : V} {P H P' H' : Hp} {c c' : Nat} {fs fs' : List D}
end
def CRes.go1 (r : CRes) (ss : List AD) (e : Env) : R D := match r with
  | .ok d (.ex _ _ :: as') => .ok d (putA ss as' e)
  | .exc c fs (.ex _ _ :: as') => .exc c fs (putA ss as' e)
  | _ => .stk
def cmS (F : FM) (dfl : List D) (ss : List AD) (e : Env) : R D := match resA ss e with
  | none => .stk
  | some as => if fewO ss then (F (.ex 0 [] :: (as ++ dfl.map EV.v))).go1 ss e else .stk
section
variable {T : Tab} {W : WX} {kr : Kd} {env : Env} {σ : L2.St} {P H H0 : Hp} {X : Cx} {F : FM} {n : Nat} {dfl : List D} {dvs : List V} {xs : List V} {ss : List AD} {Q : VK} {v0 : V}
end
def cmM (F : FM) (ags : List Ag) (dfl : List D) : M := fun env => (argG ags env).bind fun ss e => cmS F dfl ss e
def cmKM (F : FM) (ags kgs : List Ag) (dfl : List D) : M := fun env => (argG ags env).bind fun ss e => (argG kgs e).bind fun zs e2 => cmS F dfl (ss ++ zs) e2
section
variable {T : Tab} {W : WX} {kr : Kd} {env : Env} {σ : L2.St} {P H H0 : Hp} {X : Cx} {F : FM} {k n : Nat} {dfl : List D} {dvs : List V} {ds : List Value} {xs : List V} {ss : List AD} {Q : VK} {ags kgs : List Ag} {f C : Addr} {fd : FuncData} {ps ks : List Str} {x m : Str} {p xp pos apos : Pos} {e : Expr} {es : List Expr} {kws : List Keyword} {gg : List Value → List Value → List Value}
end
def nfD (tys : List String) (cs : List Nat) : D → Bool
  | .obj c _ => cs.contains c
  | d => (tyN d).any fun n => tys.contains n
def cmpO (c : Nat) (F : FM) (tys : List String) (cs : List Nat) (ma mb : M) : MT := fun env => (ma env).bind fun x e1 => (mb e1).bind fun y e2 => match x with
  | .obj c' fs => if c' = c ∧ nfD tys cs y = true then (match F [.v x, .v y] with | .ok (.bl b) _ => .ok b e2 | _ => .stk) else .stk
  | _ => .stk
section
variable {T : Tab} {W : WX} {env : Env} {σ : L2.St} {P H : Hp} {X : Cx} {F : FM} {k c : Nat} {ma mb : M} {a b : Expr} {pos : Pos} {f : Addr} {fd : FuncData} {ps : List Str} {tys : List String} {cs : List Nat}
end
end Ue
set_option linter.all false
set_option Elab.async false
set_option maxRecDepth 100000
set_option maxHeartbeats 4000000
namespace Ue
open PySem PySem.Spec L2
def isTabM (tys : List (String × Bool)) (cls : List (Nat × Bool)) (ma : M) : M := fun env => (ma env).bind fun d e => match isC tys cls d with | some b => .ok (.bl b) e | none => .stk
section
variable {T : Tab} {W : WX} {env : Env} {σ : L2.St} {P H : Hp} {X : Cx} {ma : M} {ka : Kd} {a : Expr} {tys : List (String × Bool)} {cls : List (Nat × Bool)} {ans : Value → Option Bool} {pos p p2 p3 pt : Pos}
theorem isC_ty {d : D} {x : V} {b : Bool} (hI : IsTab T.K T.clsA ans tys cls) (hcl : ∀ n b, cls.lookup n = some b → Cls T.K (T.clsA n)) (R1 : PSub P H) (h : Rdb T P H d x) (e : isC tys cls d = some b) : ∃ t, TyX T.K H x t ∧ ans t = some b := by
  have ty : ∀ (s : String), tyN d = some s → ((tyN d).bind fun n => tys.lookup n) = some b → ∃ t, TyX T.K H x t ∧ ans t = some b := fun s e1 z => by
    rw [e1] at z
    exact ⟨_, tyx_of R1 h e1, hI.t s b z⟩
  cases d with
  | obj c fs =>
    obtain ⟨q1, q2⟩ := hI.c c b e
    have f := insB_ok (hcl c b e) q2
    obtain ⟨p, dx, vs, rfl, h1, _⟩ := h.objE R1
    exact ⟨_, .base (.ins h1 f.cl f.a f.n f.t f.m), q1⟩
  | tpx ds => cases (show (none : Option Bool) = some b from e)
  | _ => exact ty _ rfl e
theorem de_isT {ce : Expr} {v : V} {u : Value} (hK : X.K = T.K) (hI : IsTab T.K T.clsA (fun t => PySem.W.kitOne T.K t u) tys cls) (hcl : ∀ n b, cls.lookup n = some b → Cls T.K (T.clsA n)) (hg : Gl X "isinstance") (hm : X.mg "isinstance" = none) (ha : DE T W X a ka ma) (hc : PE X ce (tC v)) (cv : ClsV v u)
    (he : starEach [a, ce] X.env = (false, eval a X.env) :: starEach [ce] X.env := by rfl) (h2 : starEach [ce] X.env = (false, eval ce X.env) :: starEach [] X.env := by rfl) (hpl : (backTo pos (starEach [ce] X.env)).any (·.1) = false := by rfl) :
    DE T W X (.Call (.Name "isinstance" p) [a, ce] [] pos) .pure (isTabM tys cls ma) :=
  pe_imp (pe_callB call_isi hg hm (by decide +kernel) (pa_cons ha (pa_cons hc pa_nil h2) he) (by decide) (by decide) he hpl) fun σ H Q h => by
    obtain ⟨env, P, RR, h⟩ := h
    refine ⟨env, P, RR, After.mono h.bind fun d env1 P1 H1 R1 F1 h1 x kx nx => ?_⟩
    cases e : isC tys cls d with
    | none => simp only [e] at h1; exact False.elim h1
    | some b =>
      simp only [e] at h1
      obtain ⟨t, ty, an⟩ := isC_ty hI hcl R1.sub (kx.rdb R1) e
      rw [hK]
      exact ⟨x, v, t, u, b, rfl, cv, ty, an, h1.here R1 (Fr.refl _ _ _ _) _ (show Rep T P1 (.bl b) (.bl b) from rep_bl) trivial⟩
theorem de_isT2 {c1 c2 : Expr} {v1 v2 : V} {u1 u2 : Value} {kk : Nat} (hK : X.K = T.K) (hI : IsTab T.K T.clsA (fun t => PySem.W.kitAny T.K t [u1, u2]) tys cls) (hcl : ∀ n b, cls.lookup n = some b → Cls T.K (T.clsA n)) (hg : Gl X "isinstance") (hm : X.mg "isinstance" = none) (ha : DE T W X a ka ma) (hc1 : PE X c1 (tC v1)) (cv1 : ClsV v1 u1) (hc2 : PE X c2 (tC v2)) (cv2 : ClsV v2 u2)
    (hs : Steady ka (fun env => (R.ok D.non env : R D)) := by trivial)
    (he : starEach [a, .Tuple [c1, c2] kk pt] X.env = (false, eval a X.env) :: starEach [.Tuple [c1, c2] kk pt] X.env := by rfl) (h2 : starEach [.Tuple [c1, c2] kk pt] X.env = (false, eval (.Tuple [c1, c2] kk pt) X.env) :: starEach [] X.env := by rfl) (hpl : (backTo pos (starEach [.Tuple [c1, c2] kk pt] X.env)).any (·.1) = false := by rfl)
    (h3 : starEach [c1, c2] X.env = (false, eval c1 X.env) :: starEach [c2] X.env := by rfl) (h4 : starEach [c2] X.env = (false, eval c2 X.env) :: starEach [] X.env := by rfl) :
    DE T W X (.Call (.Name "isinstance" p) [a, .Tuple [c1, c2] kk pt] [] pos) .pure (isTabM tys cls ma) :=
  pe_imp (pe_callB call_isiT hg hm (by decide +kernel) (pa_cons ha (pa_cons (pe_tup (pa_cons hc1 (pa_cons hc2 pa_nil h4) h3)) pa_nil h2) he) (by decide) (by decide) he hpl) fun σ H Q h => by
    obtain ⟨env, P, RR, h⟩ := h
    refine ⟨env, P, RR, After.mono h.bind fun d env1 P1 H1 R1 F1 h1 x kx nx => ?_⟩
    refine ⟨by show 2 ≤ sizeLine; rw [sizeLine_eq]; decide, fun q hq => ?_⟩
    obtain ⟨R2, F2⟩ := R1.newP (o := .tup [v1, v2]) hq
    have kx2 := kx.carry F2 (fun i _ => rfl)
    cases e : isC tys cls d with
    | none => simp only [e] at h1; exact False.elim h1
    | some b =>
      simp only [e] at h1
      obtain ⟨t, ty, an⟩ := isC_ty hI hcl R2.sub (kx2.rdb R2) e
      rw [hK]
      exact ⟨x, q, [v1, v2], t, [u1, u2], b, rfl, upd_same, .cons cv1 (.cons cv2 .nil), ty, an, h1 _ _ R2 F2 _ (show Rep T (upd P1 q (.tup [v1, v2])) (.bl b) (.bl b) from rep_bl) trivial⟩
theorem de_gint {x : Str} {i : Int} (hg : Gl X x) (hm : ∃ t, X.mg x = some (.int i t)) (hd : (x == ("__debug__" : Str)) = false := by decide) : DE T W X (.Name x pos) .pure (cM (.int i)) := by
  obtain ⟨t, h⟩ := hm
  exact de_c (pe_glob (v := .int i) hg h ⟨t, rfl⟩ hd) fun _ => rep_int
theorem de_gstr {x z : Str} (hg : Gl X x) (hm : ∃ t, X.mg x = some (.str z t)) (hd : (x == ("__debug__" : Str)) = false := by decide) : DE T W X (.Name x pos) .pure (cM (.str z)) := by
  obtain ⟨t, h⟩ := hm
  exact de_c (pe_glob (v := .str z) hg h ⟨t, rfl⟩ hd) fun _ => rep_str
theorem de_gtup {x : Str} {q : Addr} {vs : List V} {ds : List D} (hg : Gl X x) (hm : X.mg x = some (.ref q)) (hs : ∀ P, SqT T.K P q vs) (hr : ∀ P, Reps T P ds vs) (hd : (x == ("__debug__" : Str)) = false := by decide) : DE T W X (.Name x pos) .pure (cM (.tup ds)) :=
  de_c (pe_glob (v := .ref q) hg hm rfl hd) fun P => by rw [Rep]; exact ⟨q, vs, rfl, hs P, hr P⟩
end
section
variable {α β : Type} {e env : Env} {c c' i j l nf : Nat} {fs gs : List D} {d : D} {m ma mb mc mo : M} {F : FM} {ags kgs : List Ag} {dfl : List D} {as : List EV} {ss : List AD}
@[simp] theorem attrM_s : attrM c j m env = (m env).bind fun d e => match d with
  | .obj c' fs => if c' = c then (match fs[j]? with | some x => .ok x e | none => .stk) else .stk
  | _ => .stk := (rfl)
@[simp] theorem natM_s : natM c i j env = match env[i]? with
  | some (some (.new c' fs)) => if c' = c then (match fs[j]? with | some x => .ok x env | none => .stk) else .stk
  | _ => .stk := (rfl)
@[simp] theorem stfM_s : stfM c i j m env = (m env).toS fun d e => match e[i]? with
  | some (some (.new c' fs)) => if c' = c ∧ fs.length = j then .nx (e.set i (some (.new c' (fs ++ [d])))) else .stk
  | _ => .stk := (rfl)
@[simp] theorem exfM_s : exfM c i j env = match env[i]? with
  | some (some (.ex c' fs)) => if c' = c then (match fs[j]? with | some x => .ok x env | none => .stk) else .stk
  | _ => .stk := (rfl)
def SR.caE (r : SR) (cg : Nat → Option Bool) (i : Nat) (s : MS) : SR := match r with
  | .exc c fs e => (match cg c with | some true => if noEx e ∧ i < e.length then dropE i (s (e.set i (some (.ex c fs)))) else .stk | some false => .exc c fs e | none => .stk)
  | r => r
@[simp] theorem tryAsM_s {s1 s2 : MS} {cg : Nat → Option Bool} : tryAsM s1 cg i s2 env = (s1 env).caE cg i s2 := (rfl)
@[simp] theorem caE_nx {s2 : MS} {cg : Nat → Option Bool} : (SR.nx e).caE cg i s2 = .nx e := (rfl)
@[simp] theorem caE_ret {s2 : MS} {cg : Nat → Option Bool} : (SR.ret d e).caE cg i s2 = .ret d e := (rfl)
@[simp] theorem caE_brk {s2 : MS} {cg : Nat → Option Bool} : (SR.brk e).caE cg i s2 = .brk e := (rfl)
@[simp] theorem caE_cnt {s2 : MS} {cg : Nat → Option Bool} : (SR.cnt e).caE cg i s2 = .cnt e := (rfl)
@[simp] theorem caE_exc {s2 : MS} {cg : Nat → Option Bool} : (SR.exc c fs e).caE cg i s2 = (match cg c with | some true => if noEx e ∧ i < e.length then dropE i (s2 (e.set i (some (.ex c fs)))) else .stk | some false => .exc c fs e | none => .stk) := (rfl)
@[simp] theorem dropE_nx : dropE i (.nx e) = .nx (e.set i none) := (rfl)
@[simp] theorem dropE_brk : dropE i (.brk e) = .brk (e.set i none) := (rfl)
@[simp] theorem dropE_cnt : dropE i (.cnt e) = .cnt (e.set i none) := (rfl)
@[simp] theorem dropE_ret : dropE i (.ret d e) = .ret d (e.set i none) := (rfl)
@[simp] theorem noEx_n : noEx [] = true := (rfl)
@[simp] theorem noEx_no : noEx (none :: e) = noEx e := (rfl)
@[simp] theorem noEx_v : noEx (some (.v d) :: e) = noEx e := (rfl)
@[simp] theorem noEx_o : noEx (some (.own fs) :: e) = noEx e := (rfl)
@[simp] theorem noEx_w : noEx (some (.new c fs) :: e) = noEx e := (rfl)
@[simp] theorem callS_s : callS F dfl ss e = match resA ss e with
  | none => .stk
  | some as => if fewO ss then (F (as ++ dfl.map EV.v)).go ss e else .stk := (rfl)
@[simp] theorem methM_s : methM c F mo ags dfl env = (mo env).bind fun d e1 => match d with
  | .obj c' fs => if c' = c then (argG ags e1).bind fun ss e => callS F dfl (.d (.obj c' fs) :: ss) e else .stk
  | _ => .stk := (rfl)
def CRes.mk1 (r : CRes) (c nf : Nat) (ss : List AD) (e : Env) : R D := match r with
  | .ok .non (.new c' fs :: as') => if c' = c ∧ fs.length = nf then .ok (.obj c fs) (putA ss as' e) else .stk
  | .exc k fs (.new _ _ :: as') => .exc k fs (putA ss as' e)
  | _ => .stk
@[simp] theorem makeS_s : makeS c nf F dfl ss e = match resA ss e with
  | none => .stk
  | some as => if fewO ss then (F (.new c [] :: (as ++ dfl.map EV.v))).mk1 c nf ss e else .stk := (rfl)
@[simp] theorem mk1_ok : (CRes.ok .non (.new c' fs :: as)).mk1 c nf ss e = if c' = c ∧ fs.length = nf then .ok (.obj c fs) (putA ss as e) else .stk := (rfl)
@[simp] theorem mk1_exc : (CRes.exc i gs (.new c' fs :: as)).mk1 c nf ss e = .exc i gs (putA ss as e) := (rfl)
@[simp] theorem mkM_s : mkM c nf F ags dfl env = (argG ags env).bind fun ss e => makeS c nf F dfl ss e := (rfl)
@[simp] theorem mkKM_s : mkKM c nf F ags kgs dfl env = (argG ags env).bind fun ss e => (argG kgs e).bind fun zs e2 => makeS c nf F dfl (ss ++ zs) e2 := (rfl)
@[simp] theorem cmS_s : cmS F dfl ss e = match resA ss e with
  | none => .stk
  | some as => if fewO ss then (F (.ex 0 [] :: (as ++ dfl.map EV.v))).go1 ss e else .stk := (rfl)
@[simp] theorem go1_ok : (CRes.ok d (.ex c fs :: as)).go1 ss e = .ok d (putA ss as e) := (rfl)
@[simp] theorem go1_exc : (CRes.exc i gs (.ex c fs :: as)).go1 ss e = .exc i gs (putA ss as e) := (rfl)
@[simp] theorem cmM_s : cmM F ags dfl env = (argG ags env).bind fun ss e => cmS F dfl ss e := (rfl)
@[simp] theorem cmKM_s : cmKM F ags kgs dfl env = (argG ags env).bind fun ss e => (argG kgs e).bind fun zs e2 => cmS F dfl (ss ++ zs) e2 := (rfl)
def CRes.toB (r : CRes) (e : Env) : R Bool := match r with | .ok (.bl b) _ => .ok b e | _ => .stk
@[simp] theorem toB_s {b : Bool} : (CRes.ok (.bl b) as).toB e = .ok b e := (rfl)
@[simp] theorem cmpO_s {tys : List String} {cs : List Nat} : cmpO c F tys cs ma mb env = (ma env).bind fun x e1 => (mb e1).bind fun y e2 => match x with
  | .obj c' fs => if c' = c ∧ nfD tys cs y = true then (F [.v x, .v y]).toB e2 else .stk
  | _ => .stk := (rfl)
@[simp] theorem putK_v : putK false i d e = some (e.set i (some (.v d))) := (rfl)
@[simp] theorem putK_o : putK true i (.lst fs) e = some (e.set i (some (.own fs))) := (rfl)
@[simp] theorem parKM_s {o1 o2 : Bool} : parKM o1 o2 i j ma mb env = (ma env).toS fun d1 e1 => (mb e1).toS fun d2 e2 => match putK o1 i d1 e2 with
  | some e3 => (match putK o2 j d2 e3 with | some e4 => .nx e4 | none => .stk)
  | none => .stk := (rfl)
@[simp] theorem parK3_s {o1 o2 o3 : Bool} : parK3 o1 o2 o3 i j l ma mb mc env = (ma env).toS fun d1 e1 => (mb e1).toS fun d2 e2 => (mc e2).toS fun d3 e3 => match putK o1 i d1 e3 with
  | some e4 => (match putK o2 j d2 e4 with
    | some e5 => (match putK o3 l d3 e5 with | some e6 => .nx e6 | none => .stk)
    | none => .stk)
  | none => .stk := (rfl)
@[simp] theorem isTabM_s {tys : List (String × Bool)} {cls : List (Nat × Bool)} : isTabM tys cls ma env = (ma env).bind fun d e => match isC tys cls d with | some b => .ok (.bl b) e | none => .stk := (rfl)
@[simp] theorem finA_w {pins : List Nat} : finA pins i (.new c fs :: as) e = if i ∈ pins then (match e[i]? with | some (some (.new c fs)) => (finA pins (i + 1) as e).map (.new c fs :: ·) | _ => none) else none := (rfl)
@[simp] theorem finA_e {pins : List Nat} : finA pins i (.ex c fs :: as) e = (finA pins (i + 1) as e).map (.ex c fs :: ·) := (rfl)
@[simp] theorem notInA_s {x y : D} : notInA x y = (inA x y).map (!·) := (rfl)
end
end Ue
set_option linter.all false
set_option Elab.async false
set_option maxRecDepth 100000
set_option maxHeartbeats 4000000
namespace Ue
open PySem PySem.Spec L2
end Ue
set_option linter.all false
set_option Elab.async false
set_option maxRecDepth 100000
set_option maxHeartbeats 4000000
namespace Ue
open PySem PySem.Spec PyProof.Rows L2
section
variable {X : Cx} {Z : CXT} {k n : Nat} {C g f : Addr} {fd : FuncData} {ps : List Str} {sp : Sp} {dvs : List V} {ds : List Value} {E : L2.St → XK} {x m nm : Str} {xp pos apos : Pos} {a b : Expr} {ta tb : TE} {op : Operator}
end
def opO (c : Nat) (F : FM) (ma mb : M) : M := fun env => (ma env).bind fun x e1 => (mb e1).bind fun y e2 => match x, y with
  | .obj c1 fs, .obj c2 gs => if c1 = c ∧ c2 = c then callS F [] [.d (.obj c1 fs), .d (.obj c2 gs)] e2 else .stk
  | _, _ => .stk
section
variable {T : Tab} {W : WX} {env : Env} {σ : L2.St} {P H : Hp} {X : Cx} {F : FM} {k n c : Nat} {dfl : List D} {dvs : List V} {ds : List Value} {ma mb : M} {a b : Expr} {pos xp apos : Pos} {f C : Addr} {fd : FuncData} {ps : List Str} {nm x m : Str} {op : Operator}
@[simp] theorem opO_s : opO c F ma mb env = (ma env).bind fun x e1 => (mb e1).bind fun y e2 => match x, y with
  | .obj c1 fs, .obj c2 gs => if c1 = c ∧ c2 = c then callS F [] [.d (.obj c1 fs), .d (.obj c2 gs)] e2 else .stk
  | _, _ => .stk := (rfl)
end
section
variable {X : Cx} {T : Tab}
def rEqNil (K : PySem.W.Frag) (ne : Bool) : R2 := fun x y H Q => ∃ a b xs, x = .ref a ∧ y = .ref b ∧ SqL K H a xs ∧ SqL K H b [] ∧ Q (.bl (xs.isEmpty != ne)) H
theorem op_eqNil (hu : X.A.units < cLine) : OpR X (compareOp .Eq) (rEqNil X.K false) := by
  intro pins s σ H x y v u Q I rx ry h
  obtain ⟨a, b, xs, rfl, rfl, ha, hb, q⟩ := h
  cases rx; cases ry
  obtain ⟨us, r1, p1, _⟩ := I.list ha
  obtain ⟨ws, r2, p2, _⟩ := I.list hb
  have l2 : ws = [] := by cases r2; rfl
  subst l2
  cases us with
  | nil =>
    have l1 : xs = [] := by cases r1; rfl
    subst l1
    exact SeqAt.eq_listAt (e := fun _ => true) p1.isList p2.isList rfl hu (fun j h1 _ => absurd h1 (by simp)) ⟨.bl true, H, I, rfl, q⟩
  | cons w ws =>
    have l1 : xs.isEmpty = false := by cases r1; rfl
    rw [l1] at q
    exact SeqAt.eq_list_lengthsAt p1.isList p2.isList (by simp) hu ⟨.bl false, H, I, rfl, q⟩
theorem op_neNil (hu : X.A.units < cLine) : OpR X (compareOp .NotEq) (rEqNil X.K true) := by
  intro pins s σ H x y v u Q I rx ry h
  obtain ⟨a, b, xs, rfl, rfl, ha, hb, q⟩ := h
  cases rx; cases ry
  obtain ⟨us, r1, p1, _⟩ := I.list ha
  obtain ⟨ws, r2, p2, _⟩ := I.list hb
  have l2 : ws = [] := by cases r2; rfl
  subst l2
  cases us with
  | nil =>
    have l1 : xs = [] := by cases r1; rfl
    subst l1
    exact SeqAt.RcNeAt.lists (e := fun _ => true) p1.isList p2.isList rfl hu (fun j h1 _ => absurd h1 (by simp)) _ _ _ _ ⟨.bl false, H, I, rfl, q⟩
  | cons w ws =>
    have l1 : xs.isEmpty = false := by cases r1; rfl
    rw [l1] at q
    exact SeqAt.RcNeAt.lists_lengths p1.isList p2.isList (by simp) hu _ _ _ _ ⟨.bl true, H, I, rfl, q⟩
def eqNil (a b : D) : Option Bool := match a, b with | .lst xs, .lst [] => some xs.isEmpty | _, _ => none
def neNil (a b : D) : Option Bool := match a, b with | .lst xs, .lst [] => some (!xs.isEmpty) | _, _ => none
theorem cd_eqNil : CmpD T (rEqNil T.K false) eqNil := fun P H dx dy x y b Q R1 hx hy e q => by
  cases dx with
  | lst xs =>
    cases dy with
    | lst ys =>
      cases ys with
      | nil =>
        cases e
        obtain ⟨a, vs, rfl, h1, h2⟩ := hx.lstE R1
        obtain ⟨b, ws, rfl, h3, h4⟩ := hy.lstE R1
        rw [Reps] at h4; subst h4
        have l := h2.length
        have e : vs.isEmpty = xs.isEmpty := by cases xs <;> cases vs <;> first | rfl | (simp at l)
        exact ⟨a, b, vs, rfl, rfl, .inl h1, .inl h3, by rw [e]; simpa using q⟩
      | cons _ _ => cases e
    | _ => cases e
  | _ => cases e
theorem cd_neNil : CmpD T (rEqNil T.K true) neNil := fun P H dx dy x y b Q R1 hx hy e q => by
  cases dx with
  | lst xs =>
    cases dy with
    | lst ys =>
      cases ys with
      | nil =>
        cases e
        obtain ⟨a, vs, rfl, h1, h2⟩ := hx.lstE R1
        obtain ⟨b, ws, rfl, h3, h4⟩ := hy.lstE R1
        rw [Reps] at h4; subst h4
        have l := h2.length
        have e : vs.isEmpty = xs.isEmpty := by cases xs <;> cases vs <;> first | rfl | (simp at l)
        exact ⟨a, b, vs, rfl, rfl, .inl h1, .inl h3, by rw [e]; simpa using q⟩
      | cons _ _ => cases e
    | _ => cases e
  | _ => cases e
@[simp] theorem eqNil_s {xs : List D} : eqNil (.lst xs) (.lst []) = some xs.isEmpty := (rfl)
@[simp] theorem neNil_s {xs : List D} : neNil (.lst xs) (.lst []) = some (!xs.isEmpty) := (rfl)
end
end Ue
set_option linter.all false
set_option Elab.async false
set_option maxRecDepth 100000
set_option maxHeartbeats 4000000
namespace Ue
open PySem PySem.Spec PyProof.Rows L2
section
variable {X : Cx} {T : Tab} {W : WX} {a b : Expr} {ma mb : M} {ka kb : Kd} {pos : Pos}
def rRepA : R2 := fun x y H Q => ∃ l k xs, x = .ref l ∧ y = .int k ∧ Rd H l (.lst xs) ∧ -(2 ^ 63) ≤ k ∧ k < 2 ^ 63 ∧ xs.length * k.toNat ≤ sizeLine ∧ ∀ p, H p = none → Q (.ref p) (upd H p (.lst (List.replicate k.toNat xs).flatten))
theorem flat_arr (its : List Value) (n : Nat) : List.foldl (fun x y => x ++ y) #[] (List.replicate n its.toArray) = (List.replicate n its).flatten.toArray := by
  have h := L2.foldl_rep its n []
  rw [List.nil_append] at h
  exact h
theorem op_repA : OpR X (binaryOp .Mult) rRepA := by
  intro pins s σ H x y v u Q I rx ry h
  obtain ⟨l, k, xs, rfl, rfl, hH, h1, h2, hz, q⟩ := h
  rcases hH with hH | ⟨o, hH⟩
  · exact op_rep pins s σ H (.ref l) (.int k) v u Q I rx ry ⟨l, k, xs, rfl, rfl, hH, h1, h2, hz, q⟩
  · cases rx
    obtain ⟨t, rfl⟩ := ry
    obtain ⟨eo, z, its, n, r, e⟩ := (show ObjOk X.prog X.w H s.heap l (.frz o (.lst xs)) from I.hok l _ hH)
    have len := r.length
    have size : its.toArray.size * k.toNat ≤ sizeLine := by rw [List.size_toArray, ← len]; exact hz
    have cap : ¬ its.toArray.size * k.toNat > (2 ^ 63 - 1) / 8 := by
      have : (sizeLine : Nat) ≤ (2 ^ 63 - 1) / 8 := by decide
      omega
    have fits : ¬ (!Builtin.List.listFitsIndex k) = true := by rw [fitsIndex_both h1 h2]; exact Bool.false_ne_true
    have long : ¬ Builtin.List.listTooLong (its.toArray.size * k.toNat) = true := by rw [notLongL size]; exact Bool.false_ne_true
    have made : List.foldl (fun x y => x ++ y) #[] (List.replicate (if its.toArray.isEmpty = true then 0 else k.toNat) its.toArray) = (List.replicate k.toNat its).flatten.toArray := by
      rw [flat_arr]
      cases its with
      | nil => simp
      | cons _ _ => rw [if_neg (by simp)]
    refine wpAny_binaryOp_repeat_ref (T := "list") (U := "int") (by decide) ⟨_, e, rfl⟩ (fun s' => typeIs_int s' k t) noFill_list_mul F.fills_int_mul F.slot_int_rmul repeat_list F.slot_int_index.lookup
      (call_meets F.slot_int_rmul (typeIs_int s k t) F.entry_int_rmul (F.args_int_rmul_2 _ _) (int___rmul___int_list k t l its.toArray n) ⟨e, rfl, ⟨_, e, rfl⟩, ?_⟩)
    refine call_meets F.slot_list_mul ⟨_, e, rfl⟩ F.entry_list_mul (F.args_list_mul_2 _ _) (AutoListH.list___mul___list_int_3 l its.toArray n k t fits cap long) ⟨e, ?_⟩
    rw [made]
    exact ⟨.ref _, _, I.lnew (t' := s.toks) (r.rep k.toNat) (by rw [PyProof.Rows.lm_len_rep_flat, Nat.mul_comm]; exact hz), rfl, q _ I.fresh⟩
theorem de_repA (ha : DE T W X a ka ma) (hb : DE T W X b kb mb) (hs : Steady ka mb := by trivial) : DE T W X (.BinOp a .Mult b pos) .fresh (op2M repL ma mb) := by
  refine pe_imp (pe_op op_repA ha hb) fun σ H Q h => ?_
  obtain ⟨env, P, RR, h⟩ := h
  refine ⟨env, P, RR, After.at h.bind fun d1 env1 P1 H1 _ R1 F1 h1 x kx nx => ?_⟩
  refine ⟨env1, P1, R1, After.at h1.bind fun d2 env2 P2 H2 e2 R2 F2 h2 y ky ny => ?_⟩
  have kx' := (kx.carry F2 (hs.use e2)).rdb R2
  cases d1 with
  | lst ds =>
    cases d2 with
    | int k =>
      have h2 : After T W σ env2 P2 H2 (liftO (if -(2 ^ 63) ≤ k ∧ k < 2 ^ 63 ∧ ds.length * k.toNat ≤ sizeLine then some (D.lst (List.replicate k.toNat ds).flatten) else none) env2) _ := h2
      by_cases z : -(2 ^ 63) ≤ k ∧ k < 2 ^ 63 ∧ ds.length * k.toNat ≤ sizeLine
      · rw [if_pos z] at h2
        obtain ⟨p, vs, rfl, t1, t4⟩ := kx'.lstE R2.sub
        refine ⟨p, k, vs, rfl, (ky.rdb R2).intE, t1, z.1, z.2.1, by rw [t4.length]; exact z.2.2, fun q hq => ?_⟩
        obtain ⟨R3, F3, no, pn⟩ := R2.newF (o := .lst (List.replicate k.toNat vs).flatten) hq
        exact h2 _ _ R3 F3 _ ⟨q, _, _, rfl, upd_same, pn, no, t4.replicate _, rfl⟩ (NewV.back (k := .fresh) (F1.trans F2) ⟨q, rfl, hq⟩)
      · rw [if_neg z] at h2; exact False.elim h2
    | _ => exact False.elim h2
  | _ => exact False.elim h2
end
end Ue
set_option linter.all false
set_option Elab.async false
set_option maxRecDepth 100000
set_option maxHeartbeats 4000000
namespace Ue
open PySem PySem.Spec L2
section
variable {T : Tab} {W : WX} {kr : Kd} {pins : List Nat} {env env' : Env} {σ σ' : L2.St} {P H P' H' : Hp} {X : Cx} {pos : Pos} {a b c : Expr} {ma mb mc : M} {o o1 o2 o3 : Bool} {i j l : Nat} {d : D} {x : V}
end
end Ue
set_option linter.all false
set_option Elab.async false
set_option maxRecDepth 100000
set_option maxHeartbeats 4000000
namespace Ue
open PySem PySem.Spec PyProof.Rows L2
section
variable {X : Cx} {Z : CXT} {k n : Nat} {C g f : Addr} {fd : FuncData} {ps : List Str} {sp : Sp} {E : L2.St → XK} {A1 : Around} {pins : List (Addr × Obj)} {σ : L2.St} {H : Hp} {s : Shared} {Q : VK}
theorem funS {P : Program} {w : World} {K : PySem.W.Frag} {mg : Str → Option Value} {base : Heap} {N : List Str} {x qual : Str} {params : Arguments} {body : List Stmt} {scope : Scope} {dvs : List V} {kws : List (Str × V)} {spn : Nat → Sp} (F : FunD K x qual params body scope dvs kws f fd) (S : FnScope N ps scope) (len : ∀ n vs H Q E, spn n vs H Q E → vs.length = ps.length)
    (hb : ∀ (cdv : Value) (B : Around) (o : List PySem.Env) (t : Shared) (H : Hp) (vs : List V) (Q : VK) (E : XK), B.guards = some [] → Room k (B.deeper (PyProof.Rows.envOfC qual scope t.heap.objs.size f cdv)) → spn t.heap.objs.size vs H Q E →
      ∃ u, PSs (cxOf Z P w K mg base N qual scope f cdv B o t H E) body u ∧ u { nx := fun _ J => Q .non J, rt := Q } (L2.start N vs) H) : FnS P w K mg base Z (k + 1) f fd ps spn := by
  obtain ⟨oc, od, dV, kV, doc, pm, an, cdv, ct, osl, rfl, at_, code, _, _⟩ := F.ex
  refine ⟨len, fun B o t H ar us vs Q E g room e0 bnd rel hsp => ?_⟩
  have lenV := len _ vs H Q E hsp
  have up : ∀ b u, base.get? b = some u → t.heap.get? b = some u := fun b u e => (e0.bs b u e).1
  have there := (e0.mod.kin.keeps up) _ _ at_
  have par : ∀ q ∈ ps.zip us, scope.names.lookup q.1 = some .local ∨ (scope.names.lookup q.1 = some .cell ∧ ((cellsFrom (t.heap.objs.size + 1) scope.names []).lookup q.1).isSome = true) := fun q hq =>
    (S.par q.1 (List.of_mem_zip (a := q.1) (b := q.2) hq).1).imp_right fun z => ⟨z, PySem.W.cellsFrom_some _ _ _ (.inl z)⟩
  refine codeAny_call_function room.depth there rfl S.co S.gen rfl (PySem.W.codeRec_of (e0.mod.kin.keeps up) code) (bnd _ _ _ _ ?_)
  refine wpAny_newFunctionEnv_cells S.kind par fun ev hev t1 x => ?_
  subst hev
  refine ⟨(e0.mod.nolimit.keeps up).keeps x.toInCall.keep, codeAny_func ?_⟩
  obtain ⟨u, hu, q⟩ := hb cdv B o t H vs Q E g (room.deeper _) hsp
  have fin : ∀ {σ' : L2.St} {J : Hp} {v : V} {z : Value} {t' : Shared}, Inv (cxOf Z P w K mg base N qual scope f cdv B o t H E) [] σ' J t' → RelV v z → Q v J → CE o P w H t Q z t' := fun {σ' J v z t'} I rv qv => ⟨v, J, I.os, I.bare, I.base, I.hok, rv, qv⟩
  refine wpAny_mono (hu.run [] t1 (L2.start N vs) H _ (inv_start S room.hd e0 lenV rel x) q) (fun fl t' hs => ?_) fun _ _ hs => hs
  match fl, hs with
  | .ret z, ⟨v, σ', J, I, rv, qv⟩ => exact fin I rv qv
  | .next, ⟨σ', J, I, qv⟩ => exact fin (v := V.non) (z := Value.none) I rfl qv
  | .brk, ⟨_, _, _, qv⟩ => exact False.elim qv
  | .cont, ⟨_, _, _, qv⟩ => exact False.elim qv
def tupIt (l : Addr) : Obj := { cls := .type "tuple_iterator", data := .fields #[.ref l, .int 0 0] }
def ItT (l it : Addr) : HO := .ext fun h => h.get? it = some (tupIt l)
theorem itT_ok {P : Program} {w : World} {H : Hp} {h : Heap} {l it : Addr} (e : h.get? it = some (tupIt l)) : ObjOk P w H h it (ItT l it) := ⟨e, ⟨_, e⟩, fun h1 h2 q k => k _ q⟩
def rIterT (K : PySem.W.Frag) (n : Nat) : List V → Hp → VK → Prop := fun xs H Q => ∃ (l : Addr) (zs : List V), xs = [.ref l] ∧ SqT K H l zs ∧ ∀ it, H it = none → n ≤ it → Q (.ref it) (upd H it (ItT l it))
theorem call_iterT : CallR X (.builtin "iter") (rIterT X.K X.s_0.heap.objs.size) := by
  intro pins s σ H xs us Q I r h
  obtain ⟨l, zs, rfl, hq, q⟩ := h
  obtain ⟨u, rfl, ru⟩ := r.one
  cases ru
  obtain ⟨its, rv, pl, hz⟩ := I.tuple hq
  refine Calls.call_function_entry (by decide +kernel) (by decide +kernel) PySem.W.kdk_entry_iter (PySem.W.kdk_args_iter _) ?_
  unfold Builtin.«iter»
  refine wpAny_bind (m := someArgs "iter" 1 2 _) (wpAny_of_eq (a := [Value.ref l]) (by first | rfl | kernel_rfl!) ?_)
  show wpAny _ _ (pyIter (.ref l) >>= _) _ _ _
  refine wpAny_bind (wpAny_pyIter_tuple (show s.heap.IsTuple l its.toArray from pl) ?_)
  exact wpAny_pure ⟨_, rfl, .ref s.heap.objs.size, _, I.laid (t' := s.toks) (fun b u e => Heap.get?_push_of_some _ e) (Nat.le_refl _) (itT_ok (Heap.get?_push_size _ rfl)), rfl, q _ (I.hok.fresh (Nat.le_refl _)) I.sz⟩
def spIt (K : PySem.W.Frag) (C : Addr) (fl : Str) (n : Nat) : Sp := fun vs H Q _ => ∃ a dx fs l zs, vs = [.ref a] ∧ H a = some (.ins C dx fs) ∧ fs.lookup fl = some (.ref l) ∧ SqT K H l zs ∧ ∀ it, H it = none → n ≤ it → Q (.ref it) (upd H it (ItT l it))
theorem iter_own {R : Value → Shared → Prop} {a dx l : Addr} {fs : List (Str × V)} {zs : List V} {fl : Str} {E : XK} (M : Meth X.K C "__iter__" f) (F : FnS X.prog X.w X.K X.mg X.base Z k f fd ps (spIt X.K C fl)) (gd : A1.guards = some []) (hr : Room k A1) (fr : A1.frames = X.A.frames) (hb : Binds X.K fd ps []) (hx : PassesAt Z X σ E)
    (I : Inv X pins σ H s) (ha : H a = some (.ins C dx fs)) (hl : fs.lookup fl = some (.ref l)) (hq : SqT X.K H l zs)
    (h : ∀ it s', s'.heap.IsTupleIter it l 0 → Inv X pins σ H s' → FpOk X pins H it → R (.ref it) s') : wpAny (model X.prog X.w) A1 (pyIter (.ref a)) R X.xe s := by
  obtain ⟨mA, O, _⟩ := ins_get I.hok ha
  obtain ⟨od, J, _⟩ := O.look
  obtain ⟨mm, hF⟩ := I.fr
  have hsp : spIt X.K C fl s.heap.objs.size [.ref a] H (fun v H' => ∃ it, v = .ref it ∧ H it = none ∧ s.heap.objs.size ≤ it ∧ H' = upd H it (ItT l it)) E := ⟨a, dx, fs, l, zs, rfl, ha, hl, hq, fun it hi hn => ⟨it, rfl, hi, hn, rfl⟩⟩
  refine PySem.W.owit_iter hF I.ok.mod.kin J M.at_ M.fn (thn (F.run1 gd hr fr hb hx I hsp) fun u s1 hc => ?_)
  obtain ⟨v, H', I', rv, it2, rfl, hn, hz, rfl⟩ := I.after hc
  obtain rfl : u = Value.ref it2 := rv
  have hy : X.s_0.heap.objs.size ≤ it2 := Nat.le_trans I.sz hz
  have I2 := ItX.inv_drop I' upd_same
  have fp := ItX.inv_fp I' upd_same hy
  rw [ItX.dropH_upd hn] at I2 fp
  have ho : s1.heap.get? it2 = some (tupIt l) := (I'.hok it2 _ upd_same).1
  have st : s1.heap.IsTupleIter it2 l 0 := ⟨_, ho, rfl, rfl⟩
  unfold PySem.W.OwitIt
  refine wpAny_specialOf (name := PySem.Str.ofString "__next__") st.typeIs slot_tupleiter_next.lookup ?_
  exact h it2 s1 st I2 fp
end
end Ue
set_option linter.all false
set_option Elab.async false
set_option maxRecDepth 100000
set_option maxHeartbeats 4000000
namespace Ue
open PySem PySem.Spec PyProof.Rows L2
section
variable {X : Cx} {Z : CXT} {k n : Nat} {C g f fi : Addr} {fd fdi : FuncData} {ps psi : List Str} {sp : Sp} {E : L2.St → XK} {A1 : Around} {pins : List (Addr × Obj)} {σ : L2.St} {H : Hp} {s : Shared} {Q : VK}
def noE : XK := fun _ _ _ => False
theorem passes_no {P : Program} {w : World} : PassesAt (L2.CX P w) X σ noE := fun pins H s e s' _ h => by
  obtain ⟨a, B, H', cls, d, rfl, fl, hok, ub, na, os, ag, hE⟩ := h
  exact hE.elim
theorem its_ok {P : Program} {w : World} {K : PySem.W.Frag} {mg : Str → Option Value} {base : Heap} {x qual : Str} {params : Arguments} {body : List Stmt} {scope : Scope} {dvs : List V} {kws : List (Str × V)} {fl : Str} (F : FunD K x qual params body scope dvs kws f fd) (S : FnScope ["self"] ["self"] scope) (cl : Cls K C) (na : NoAttr K C fl)
    (hb : ∀ (cdv : Value) (B : Around) (o : List PySem.Env) (t : Shared) (H : Hp) (E : XK), PSs (cxOf Z P w K mg base ["self"] qual scope f cdv B o t H E) body (tSeq (tRet (tCB (rIterT K t.heap.objs.size) (tCons (tFld K (tVar 0) fl) tNil))) tNext)) : FnS P w K mg base Z (k + 1) f fd ["self"] (spIt K C fl) :=
  funS F S (fun n vs H Q E h => by obtain ⟨a, dx, fs, l, zs, rfl, _⟩ := h; rfl) fun cdv B o t H vs Q E g r hsp => by
    obtain ⟨a, dx, fs, l, zs, rfl, ha, hl, hq, h⟩ := hsp
    exact ⟨_, hb cdv B o t H E, .ref a, rfl, a, C, dx, fs, .ref l, rfl, ha, cl, na, hl, l, zs, rfl, hq, h⟩
theorem tup_loop {H0 : Hp} {l it q : Addr} {zs : List V} {Rs : Result → Shared → Prop} (hh : A1.in1.handled = none) (h0 : H0 q = none) (hit : it ≠ q) (hq : SqT X.K H0 l zs) (hdone : ∀ s, Inv X pins σ (upd H0 q (.lst zs)) s → Rs (.ok (.ret .none)) s) :
    ∀ (m i : Nat) (s : Shared), m = zs.length - i → i ≤ zs.length → Inv X pins σ (upd H0 q (.lst (zs.take i))) s → s.heap.IsTupleIter it l i → FpOk X pins (upd H0 q (.lst (zs.take i))) it → codeAny (model X.prog X.w) A1 (.builtin "list.extend.loop" ⟨[.ref q, .ref it, .none], []⟩) Rs s := by
  intro m
  induction m with
  | zero =>
    intro i s hm hi I st hf
    have e : i = zs.length := by omega
    subst e
    rw [List.take_length] at I
    have hq2 : SqT X.K (upd H0 q (.lst zs)) l zs := sqT_sub (psub_upd h0) hq
    obtain ⟨its, rv, p, hz⟩ := I.tuple hq2
    obtain ⟨f0, f1, f2, f3, f4, f5⟩ := hf
    rw [List.take_length] at f0
    have hl := rv.length
    refine codeAny_builtin PySem.F.entry_extend_loop ?_
    rw [Around.under_plainId PySem.F.plain_extend_loop _]
    show wpAny _ A1.in1 (pyNext (.ref it) >>= _) _ _ s
    refine wpAny_bind (wpAny_pyNext_tuple_end hh st (show s.heap.IsTuple l its.toArray from p) (by simp; omega) fun h' eb => ?_)
    exact wpAny_pure (hdone _ (I.turned (t' := s.toks) (fun b o hb e => eb b o hb e) f0 f1 f3 f4 f5))
  | succ m ih =>
    intro i s hm hi I st hf
    have hlt : i < zs.length := by omega
    have hq2 : SqT X.K (upd H0 q (.lst (zs.take i))) l zs := sqT_sub (psub_upd h0) hq
    obtain ⟨its, rv, p, hz⟩ := I.tuple hq2
    obtain ⟨u, hu, ru⟩ := rv.get (List.getElem?_eq_getElem hlt)
    obtain ⟨f0, f1, f2, f3, f4, f5⟩ := hf
    refine codeAny_builtin PySem.F.entry_extend_loop ?_
    rw [Around.under_plainId PySem.F.plain_extend_loop _]
    show wpAny _ A1.in1 (pyNext (.ref it) >>= _) _ _ s
    refine wpAny_bind (wpAny_pyNext_tuple_item st (show s.heap.IsTuple l its.toArray from p) (x := u) (by simpa using hu) fun h' st' sb => ?_)
    have I1 : Inv X pins σ (upd H0 q (.lst (zs.take i))) { s with heap := h' } := I.turned (t' := s.toks) (fun b o hb e => (sb.2 b hb).trans e) f0 f1 f3 f4 f5
    show wpAny _ A1.in1 (updateSeq q (·.push u) >>= _) _ _ _
    obtain ⟨z, its', k', r2, hl, e⟩ := I1.lstM upd_same
    have e2 : zs.take (i + 1) = zs.take i ++ [zs[i]] := by rw [List.take_succ, List.getElem?_eq_getElem hlt]; rfl
    have hlen : (zs.take (i + 1)).length ≤ sizeLine := by
      rw [List.length_take]
      have := rv.length
      omega
    have hl1 : (zs.take i ++ [zs[i]]).length ≤ sizeLine := by rw [← e2]; exact hlen
    have hl2 : its'.length + 1 ≤ sizeLine := by
      have h3 := r2.length
      rw [List.length_append, List.length_singleton] at hl1
      omega
    refine wpAny_bind (wpAny_updateSeq e rfl (wpAny_pure ⟨plainId_quiet PySem.F.plain_extend_loop _, ?_⟩) (by rw [List.size_toArray]; omega) (by show (its'.toArray.push u).size ≤ sizeLine + 1; rw [Array.size_push, List.size_toArray]; omega))
    have I2 := I1.lset (its' := its' ++ [u]) (ys := zs.take i ++ [zs[i]]) (f := (·.push u)) (t' := s.toks) upd_same e (by simp) (r2.append (.cons ru .nil)) hl1
    rw [upd_upd, ← e2] at I2
    refine ih (i + 1) _ (by omega) (by omega) I2 ?_ ?_
    · obtain ⟨o, ho, hc⟩ := st'
      exact ⟨o, (Heap.get?_update_other h' _ (Ne.symm hit)).trans ho, hc⟩
    · exact ⟨by rw [upd_ne hit] at f0 ⊢; exact f0, f1, f2, f3, f4, f5⟩
theorem run1N {a : Addr} {E' : Value → Shared → Prop} (F : FnG X.prog X.w X.K X.mg X.base (L2.CX X.prog X.w) k f fd ps sp) (gd : A1.guards = some []) (hr : Room k A1) (fr : A1.frames = X.A.frames) (hb : Binds X.K fd ps []) (I : Inv X pins σ H s) (h : sp [.ref a] H Q noE) :
    wpAny (model X.prog X.w) A1 (call (.ref f) [.ref a]) (CE X.stack X.prog X.w H s Q) E' s := by
  have rr : Vals [V.ref a] [Value.ref a] := .cons rfl .nil
  have e0 : Env0 X.prog X.w X.K X.mg X.base A1 X.stack s H := by
    have e := I.env0
    exact ⟨by rw [fr]; exact e.frames, e.mod, e.bs, e.bsz, e.funs, e.frf, e.hok, e.bare⟩
  refine wpAny_call (codeAny_mono (F.go A1 X.stack s H ⟨[.ref a], []⟩ [.ref a] [.ref a] Q noE gd hr e0 (hb s [.ref a] I.kIn (rr.length.symm.trans (F.len _ _ _ _ h))) rr h) fun res t hq => ?_)
  match res, hq with
  | .error er, hq => exact (by obtain ⟨a, B, H', cls, d, rfl, fl, hok, ub, na, os, ag, hE⟩ := hq; exact hE.elim)
  | .ok (.ret u), hq => exact hq
  | .ok .next, hq => exact hq
  | .ok .brk, hq => exact hq
  | .ok .cont, hq => exact hq
theorem hint_own {a dx : Addr} {fs : List (Str × V)} {R : Bool → Shared → Prop} {Q : VK} (M : Meth X.K C "__len__" g) (F : FnG X.prog X.w X.K X.mg X.base (L2.CX X.prog X.w) k g fd ps sp) (gd : A1.guards = some []) (hr : Room (k + 1) A1) (fr : A1.frames = X.A.frames) (hb : Binds X.K fd ps []) (I : Inv X pins σ H s) (ha : H a = some (.ins C dx fs))
    (h : sp [.ref a] H (fun v H2 => ∃ n : Int, v = .int n ∧ 0 ≤ n ∧ n.toNat ≤ sizeLine ∧ Q .non H2) noE) (hR : ∀ b s1 t u, CE X.stack X.prog X.w H s (fun _ H2 => Q .non H2) u s1 → R b { s1 with toks := t }) : wpAny (model X.prog X.w) A1 (Builtin.List.listLengthHint (.ref a)) R X.xe s := by
  obtain ⟨mA, O, _⟩ := ins_get I.hok ha
  obtain ⟨od, J, _⟩ := O.look
  obtain ⟨mm, hF⟩ := I.fr
  unfold Builtin.List.listLengthHint
  refine wpAny_bind (wpAny_bind (J.type.here ((PySem.W.looks_findIn I.kIn M.at_).here ?_)))
  refine PySem.W.KFB.if_not rfl ?_
  refine wpAny_bind (wpAny_rule ?_)
  refine wpAny_bind (wpAny_attempt (PySem.W.len_K hF I.ok.mod.kin J M.at_ M.fn (wpAny_mono (run1N (A1 := A1.in1) F gd hr.in1 fr hb I h) (fun u s1 hc => ?_) fun _ _ z => z)))
  obtain ⟨v, H', os, bare, un, hok, rv, n, rfl, h0, h1, q⟩ := hc
  obtain ⟨t, rfl⟩ := rv
  have hz : n.toNat ≤ 16777216 := by rw [← sizeLine_eq]; exact h1
  refine ⟨⟨h0, by omega⟩, ?_⟩
  have c : CE X.stack X.prog X.w H s (fun _ H2 => Q .non H2) (.int n t) s1 := ⟨.int n, H', os, bare, un, hok, ⟨_, rfl⟩, q⟩
  refine wpAny_bind (wpAny_of_eq (a := some n) (by first | rfl | kernel_rfl) ?_)
  refine PySem.W.KFB.if_not (by unfold Builtin.List.listTooLong; simp; rw [sizeLine_eq]; omega) ?_
  exact wpAny_pure (hR _ s1 _ _ c)
def rLstIt (K : PySem.W.Frag) (C : Addr) (fl : Str) (sp : Sp) : List V → Hp → VK → Prop := fun xs H Q => ∃ a dx fs l zs, xs = [.ref a] ∧ H a = some (.ins C dx fs) ∧ fs.lookup fl = some (.ref l) ∧ SqT K H l zs ∧
  ∀ q, H q = none → sp [.ref a] (upd H q (.lst [])) (fun v H2 => ∃ n : Int, v = .int n ∧ 0 ≤ n ∧ n.toNat ≤ sizeLine ∧ H2 q = some (.lst []) ∧ SqT K H2 l zs ∧ Q (.ref q) (upd H2 q (.lst zs))) noE
theorem upd_drop {H : Hp} {q : Addr} {u v : HO} (h : H q = some v) : upd (ItX.dropH H q) q u = upd H q u := by
  funext b
  by_cases hb : b = q
  · rw [hb, upd_same, upd_same]
  · rw [upd_ne hb, upd_ne hb, ItX.dropH_ne hb]
theorem upd_own {H : Hp} {q : Addr} {v : HO} (h : H q = some v) : upd H q v = H := by
  funext b
  by_cases hb : b = q
  · rw [hb, upd_same, h]
  · rw [upd_ne hb]
theorem sqT_dropL {K : PySem.W.Frag} {H : Hp} {q l : Addr} {zs : List V} {xs : List V} (h : SqT K H l zs) (hq : H q = some (.lst xs)) : SqT K (ItX.dropH H q) l zs := by
  rcases h with h | h
  · have hne : l ≠ q := fun z => by
      subst z
      rcases h with h | ⟨o, h⟩ <;> rw [hq] at h <;> cases h
    refine .inl ?_
    rcases h with h | ⟨o, h⟩
    · exact .inl (by rw [ItX.dropH_ne hne]; exact h)
    · exact .inr ⟨o, by rw [ItX.dropH_ne hne]; exact h⟩
  · exact .inr h
theorem call_listIt {fl : Str} (hc : X.calm = true) (M : Meth X.K C "__iter__" fi) (FI : FnS X.prog X.w X.K X.mg X.base (L2.CX X.prog X.w) k fi fdi psi (spIt X.K C fl)) (bI : Binds X.K fdi psi []) (ML : Meth X.K C "__len__" g) (FL : FnG X.prog X.w X.K X.mg X.base (L2.CX X.prog X.w) k g fd ps sp) (bL : Binds X.K fd ps []) (gd : X.A.guards = some []) (hr : Room (k + 3) X.A) :
    CallR X (.type "list") (rLstIt X.K C fl sp) := by
  intro pins s σ H xs us Q I rv h
  obtain ⟨a, dx, fs, l, zs, rfl, ha, hl, hz, h⟩ := h
  obtain ⟨u, rfl, ru⟩ := rv.one
  cases ru
  refine callType_codes (Q₁ := fun obj s₁ => obj = .ref s.heap.objs.size ∧ s₁ = { s with heap := s.heap.push { cls := .type "list", data := .seq #[] } }) PySem.F.called_list (PySem.F.typeCall_list_1 _) PySem.F.entry_list_init
    (code_list_new _ ⟨rfl, rfl⟩) fun obj s₁ h₁ => ?_
  obtain ⟨rfl, rfl⟩ := h₁
  have hS : (s.heap.push { cls := .type "list", data := .seq #[] }).get? s.heap.objs.size = some { cls := .type "list", data := .seq #[] } := Heap.get?_push_size _ rfl
  refine ⟨⟨_, hS, rfl⟩, PySem.F.args_list_init_2 _ _, ?_⟩
  have fr : H s.heap.objs.size = none := I.hok.fresh (Nat.le_refl _)
  have hsp := h _ fr
  have I1 : Inv X pins σ (upd H s.heap.objs.size (.lst [])) { s with heap := s.heap.push { cls := .type "list", data := .seq #[] } } := I.lnew (its := []) (t' := s.toks) .nil (Nat.zero_le _)
  show wpAny _ _ (do let old ← Builtin.List.listItems (.ref s.heap.objs.size); Builtin.List.listUpdate (.ref s.heap.objs.size) (fun _ => #[]); letGo old.toList.reverse; Builtin.List.listExtendWith (.ref s.heap.objs.size) (.ref a) .none) _ _ _
  refine wpAny_bind ?_
  unfold Builtin.List.listItems
  refine wpAny_bind (wpAny_seqItems hS rfl (wpAny_pure ?_))
  show wpAny _ _ (updateSeq s.heap.objs.size (fun _ => #[]) >>= fun _ => letGo (#[] : Array Value).toList.reverse >>= fun _ => Builtin.List.listExtendWith (.ref s.heap.objs.size) (.ref a) .none) _ _ _
  refine wpAny_bind (wpAny_updateSeq hS rfl ?_)
  have I2 := I1.lset (f := fun _ => #[]) (its := []) (its' := []) (ys := []) (t' := s.toks) upd_same hS rfl .nil (Nat.zero_le _)
  rw [upd_upd] at I2
  refine wpAny_bind (wpAny_letGo ?_)
  have ha2 : upd H s.heap.objs.size (.lst []) a = some (.ins C dx fs) := by rw [upd_ne (ne_of_none ha fr)]; exact ha
  have hz2 : SqT X.K (upd H s.heap.objs.size (.lst [])) l zs := by
    rcases hz with hz | hz
    · have hne : l ≠ s.heap.objs.size := fun z => by
        subst z
        rcases hz with hz | ⟨o, hz⟩ <;> rw [fr] at hz <;> cases hz
      rcases hz with hz | ⟨o, hz⟩
      · exact .inl (.inl (by rw [upd_ne hne]; exact hz))
      · exact .inl (.inr ⟨o, by rw [upd_ne hne]; exact hz⟩)
    · exact .inr hz
  generalize s.heap.objs.size = q at *
  have hq2 : upd H q (.lst []) q = some (.lst []) := upd_same
  generalize upd H q (.lst []) = HH at *
  have hne : q ≠ a := ne_of hq2 ha2 (fun z => nomatch z)
  unfold Builtin.List.listExtendWith
  obtain ⟨mA, O, _⟩ := ins_get I2.hok ha2
  obtain ⟨od, J, _⟩ := O.look
  refine wpAny_bind (J.type.here ?_)
  have h1 : Builtin.List.listSameRef (.ref q) (.ref a) = false := by simp [Builtin.List.listSameRef, hne]
  have h2 : (Value.ref C == Value.type "list") = false := rfl
  have h3 : (Value.ref C == Value.type "tuple") = false := rfl
  simp only [h1, h2, h3, Bool.or_false, Bool.false_eq_true, if_false]
  have hd : X.A.handled = none := I.ok.hd hc
  refine wpAny_bind (iter_own (E := noE) M FI gd (hr.in1.in1.mono (by omega)) rfl bI passes_no I2 ha2 hl hz2 fun it s2 st I3 fp => ?_)
  refine wpAny_bind (wpAny_holding (hint_own (Q := fun _ H2 => H2 q = some (.lst []) ∧ SqT X.K H2 l zs ∧ Q (.ref q) (upd H2 q (.lst zs))) ML FL gd hr.in1.in1 rfl bL I3 ha2 hsp fun b s3 t u c => ?_))
  obtain ⟨v, H2, os, bare, un, hok, rvv, q1, q2, q3⟩ := c
  have c2 : CE X.stack X.prog X.w HH s2 (fun _ H3 => H3 = H2) u s3 := ⟨v, H2, os, bare, un, hok, rvv, rfl⟩
  obtain ⟨_, H3, I4, _, e9⟩ := I3.after c2
  rw [e9] at I4
  have st0 := st
  obtain ⟨o, ho, hoc⟩ := st
  have k1 := un.keep it o ho fp.1 (fun z => (List.mem_cons.mp (I3.stkSub it z)).elim fp.2.1 fp.2.2.1) (by simp)
  have fp4 : FpOk X pins H2 it := ⟨un.free it o ho fp.1 (by simp), fp.2⟩
  have st4 : s3.heap.IsTupleIter it l 0 := ⟨o, k1, hoc⟩
  have hit : it ≠ q := fun z => by
    have := fp4.1
    rw [z, q1] at this; cases this
  -- the loop, from any state with the empty list at q
  have loop : ∀ s4 : Shared, L2.Inv X pins σ (upd (ItX.dropH H2 q) q (.lst (zs.take 0))) s4 → s4.heap.IsTupleIter it l 0 → codeAny (model X.prog X.w) X.A.in1 (.builtin "list.extend.loop" ⟨[.ref q, .ref it, .none], []⟩) (wants (fun r s₂ => r = .none ∧ EP X pins σ Q (.ref q) s₂) X.xe) s4 := fun s4 I5 st5 =>
    tup_loop (A1 := X.A.in1) hd ItX.dropH_same hit (sqT_dropL q2 q1) (fun s5 I6 => ⟨rfl, .ref q, _, I6, rfl, by rw [upd_drop q1]; exact q3⟩) zs.length 0 s4 rfl (Nat.zero_le _) I5 st5 ⟨by rw [upd_ne hit, ItX.dropH_ne hit]; exact fp4.1, fp4.2⟩
  have e0 : upd (ItX.dropH H2 q) q (.lst (zs.take 0)) = H2 := by rw [upd_drop q1, List.take_zero]; exact upd_own q1
  rw [e0] at loop
  have I4 : L2.Inv X pins σ H2 { s3 with toks := t } := I4.kept (t' := t) (fun b o e => e)
  refine wpAny_ite_split (fun _ => ?_) (fun _ => wpAny_pure ⟨plainId_quiet PySem.F.plain_extend_loop _, loop _ I4 st4⟩)
  refine wpAny_bind (wpAny_rule ?_)
  refine wpAny_bind ?_
  show wpAny _ _ (updateSeq q (·.push .none) >>= fun _ => updateSeq q (·.pop)) _ _ _
  obtain ⟨z, its, k', r3, hl3, e3⟩ := I4.lstM q1
  cases r3
  refine wpAny_bind (wpAny_updateSeq e3 rfl ?_)
  have I5 := I4.lset (f := (·.push Value.none)) (its' := [Value.none]) (ys := [.non]) (t' := t) q1 e3 (by simp) (.cons rfl .nil) (by rw [List.length_singleton, sizeLine_eq]; decide)
  obtain ⟨z4, its4, k4, r4, hl4, e4⟩ := I5.lstM upd_same
  obtain ⟨u4, rfl, ru4⟩ := r4.one
  refine wpAny_updateSeq e4 rfl ?_ (by show 1 ≤ sizeLine; rw [sizeLine_eq]; decide) (by show 0 ≤ sizeLine + 1; exact Nat.zero_le _)
  have I6 := I5.lset (f := (·.pop)) (its := [u4]) (its' := []) (ys := []) (t' := t) upd_same e4 (by rfl) .nil (Nat.zero_le _)
  rw [upd_upd, upd_own q1] at I6
  refine wpAny_pure ⟨plainId_quiet PySem.F.plain_extend_loop _, loop _ I6 ?_⟩
  obtain ⟨o2, ho2, hc2⟩ := st4
  exact ⟨o2, (Heap.get?_update_other _ _ (Ne.symm hit)).trans ((Heap.get?_update_other _ _ (Ne.symm hit)).trans ho2), hc2⟩
end
end Ue
set_option linter.all false
set_option Elab.async false
set_option maxRecDepth 100000
set_option maxHeartbeats 4000000
namespace Ue
open PySem PySem.Spec PyProof.Rows L2
def lenO (c : Nat) (F : FM) (m : M) : M := fun env => (m env).bind fun d e => match d with
  | .obj c1 fs => if c1 = c then (callS F [] [.d (.obj c1 fs)] e).bind fun v e' => (match v with | .int n => if 0 ≤ n ∧ n < 2 ^ 63 then .ok (.int n) e' else .stk | _ => .stk) else .stk
  | _ => .stk
def getO (c : Nat) (F : FM) (ma mb : M) : M := fun env => (ma env).bind fun x e1 => (mb e1).bind fun y e2 => match x with
  | .obj c1 fs => if c1 = c then callS F [] [.d (.obj c1 fs), .d y] e2 else .stk
  | _ => .stk
def asO (c j : Nat) (m : M) : MI := fun env => (m env).bind fun d e => match d with
  | .obj c1 fs => if c1 = c then (match fs[j]? with | some (.tup ds) => .ok ds e | _ => .stk) else .stk
  | _ => .stk
def lstO (c j : Nat) (F : FM) (m : M) : M := fun env => (m env).bind fun d e => match d with
  | .obj c1 fs => if c1 = c then (match fs[j]?, callS F [] [.d (.obj c1 fs)] e with
    | some (.tup ys), .ok (.int n) e' => if 0 ≤ n ∧ n.toNat ≤ sizeLine then .ok (.lst ys) e' else .stk
    | _, _ => .stk) else .stk
  | _ => .stk
section
variable {T : Tab} {W : WX} {env env' : Env} {σ : L2.St} {P H H' P' : Hp} {X : Cx} {F : FM} {k n c j : Nat} {m ma mb : M} {a b e : Expr} {pos : Pos} {f fi : Addr} {fd fdi : FuncData} {ps psi : List Str} {fl : Str}
theorem args1 {Q : List D → Env → Hp → Hp → Prop} (h1 : ∀ d env1, m env = .ok d env1 → After T W σ env P H (.ok [d] env1) Q) (h2 : ∀ c fs env1, m env = .exc c fs env1 → After T W σ env P H (.exc c fs env1) Q) (h3 : m env = .stk → After T W σ env P H (.stk : R (List D)) Q) : After T W σ env P H (argsM [m] env) Q := by
  cases e1 : m env with
  | ok d env1 =>
    have e0 : argsM [m] env = .ok [d] env1 := by show (m env).bind _ = _; rw [e1]; rfl
    rw [e0]; exact h1 d env1 e1
  | exc c fs env1 =>
    have e0 : argsM [m] env = .exc c fs env1 := by show (m env).bind _ = _; rw [e1]; rfl
    rw [e0]; exact h2 c fs env1 e1
  | stk =>
    have e0 : argsM [m] env = .stk := by show (m env).bind _ = _; rw [e1]; rfl
    rw [e0]; exact h3 e1
theorem obj_rep {fs : List D} {x : V} (h : Rep T P (.obj c fs) x) : ∃ a dx vs, x = .ref a ∧ P a = some (.ins (T.clsA c) dx ((T.clsF c).zip vs)) ∧ Reps T P fs vs := by
  rw [Rep] at h
  obtain ⟨a, dx, vs, rfl, q1, q2, q3⟩ := h
  exact ⟨a, dx, vs, rfl, q1, q3⟩
theorem cd_lstO {Q : VK} (hK : X.K = T.K) (hj : (T.clsF c)[j]? = some fl) (hn : ((T.clsF c).take j).contains fl = false) (h : rdE T W .fresh (lstO c j F m) σ H Q) : tCB (rLstIt X.K (T.clsA c) fl (spF T .pure 1 F)) (rdA T W [.pure] [m]) σ H Q := by
  obtain ⟨env, P, RR, h⟩ := h
  refine ⟨env, P, RR, ?_⟩
  have h := h.bind
  refine args1 (fun d env1 e1 => ?_) (fun c fs env1 e1 => ?_) (fun e1 => ?_)
  · intro P1 H1 R1 F1 xs kxs
    rw [e1] at h
    have h1 := h P1 H1 R1 F1
    have rs := kxs.pures (pures_cons pures_nil)
    obtain ⟨c1, fs, rfl⟩ : ∃ c1 fs, d = .obj c1 fs := by
      cases d with
      | obj c1 fs => exact ⟨c1, fs, rfl⟩
      | _ => exact h1.elim
    simp only at h1
    by_cases hc : c1 = c
    · rw [if_pos hc] at h1
      subst hc
      rw [Reps] at rs
      obtain ⟨x, r, rfl, h2, h3⟩ := rs
      rw [Reps] at h3; subst h3
      have kx := h2
      obtain ⟨p, dx, vs, rfl, q1, q3⟩ := obj_rep h2
      cases e1 : fs[j]? with
      | none => rw [e1] at h1; exact h1.elim
      | some y =>
        rw [e1] at h1
        obtain ⟨v, hv, rv⟩ := q3.get e1
        cases y with
        | tup ys =>
          have rv0 := rv
          rw [Rep] at rv
          obtain ⟨l, zs, rfl, z1, z2⟩ := rv
          refine ⟨p, dx, _, l, zs, rfl, R1.sub _ _ q1, zip_look hj hn hv, by rw [hK]; exact sqT_sub R1.sub z1, fun q hq => ?_⟩
          obtain ⟨R2, F2, no, pn⟩ := R1.newF (o := .lst []) hq
          have k2 : SReps T σ P1 [.d (.obj c1 fs)] [.ref p] := .d kx .nil
          cases e2 : callS F [] [.d (.obj c1 fs)] env1 with
          | ok w env2 =>
            rw [e2] at h1
            cases w with
            | int n =>
              simp only at h1
              by_cases hz : 0 ≤ n ∧ n.toNat ≤ sizeLine
              · rw [if_pos hz] at h1
                have sp := callS_sp (T := T) (W := fun _ _ _ _ => False) (kr := .pure) (n := 1) (F := F) (dfl := []) (dvs := []) (xs := [.ref p]) (ss := [.d (.obj c1 fs)]) (H0 := H1) (Q := fun v H2 => ∃ n : Int, v = .int n ∧ 0 ≤ n ∧ n.toNat ≤ sizeLine ∧ H2 q = some (.lst []) ∧ SqT X.K H2 l zs ∧ Q (.ref q) (upd H2 q (.lst zs))) (.inl rfl) (fun _ => Reps.nil) rfl R2 k2 (fun _ _ => trivial) (by
                  rw [e2]
                  intro P3 H3 R3 F3 x kx3 _
                  have kx3 : Rep T P3 (.int n) x := kx3
                  rw [Rep] at kx3
                  have hq3 : H3 q = some (.lst []) := F3.keep q _ upd_same no
                  have no3 : ¬ Own env2 σ H3 q := F3.own q (by rw [upd_same]; exact fun z => nomatch z) no
                  have pq3 : P3 q = none := by
                    cases cq : P3 q with
                    | none => rfl
                    | some o =>
                      rcases F3.new q (by rw [cq]; exact fun z => nomatch z) with z | z | z
                      · exact absurd pn z
                      · rw [upd_same] at z; cases z
                      · exact absurd z no
                  refine ⟨n, kx3, hz.1, hz.2, hq3, by rw [hK]; exact sqT_sub (fun b u e => R3.sub b u (F3.mono b u e)) z1, ?_⟩
                  obtain ⟨R4, w4⟩ := R3.pokeI (o := .lst zs) pq3 no3
                  have F23 := F2.trans F3
                  refine h1 P3 _ R4 ⟨fun b o hb n => ?_, fun b hb n z => F23.own b hb n ((w4 b).mp z), F23.mono, F23.new, fun b hb => ?_⟩ (.ref q) ⟨q, zs, ys, rfl, upd_same, pq3, fun z => no3 ((w4 q).mp z), Reps.sub F3.mono _ _ z2, rfl⟩ ⟨q, rfl, ?_⟩
                  · have hbq : b ≠ q := fun z => by rw [z, hq] at hb; cases hb
                    rw [upd_ne hbq]; exact F23.keep b o hb n
                  · by_cases hbq : b = q
                    · rw [hbq, upd_same]; exact fun z => nomatch z
                    · rw [upd_ne hbq]; exact F23.there b hb
                  · cases cq : H q with
                    | none => rfl
                    | some o => exact absurd hq (F1.there q (by rw [cq]; exact fun z => nomatch z)))
                exact sp
              · rw [if_neg hz] at h1; exact h1.elim
            | _ => exact h1.elim
          | _ => rw [e2] at h1; exact h1.elim
        | _ => exact h1.elim
    · rw [if_neg hc] at h1; exact h1.elim
  · rw [e1] at h; exact h
  · rw [e1] at h; exact h.elim
theorem de_lstO {p : Pos} (hK : X.K = T.K) (hc : X.calm = true) (hj : (T.clsF c)[j]? = some fl) (hn : ((T.clsF c).take j).contains fl = false) (M : Meth X.K (T.clsA c) "__iter__" fi) (FI : FnS X.prog X.w X.K X.mg X.base (L2.CX X.prog X.w) k fi fdi psi (spIt X.K (T.clsA c) fl)) (bI : Binds X.K fdi psi []) (ML : Meth X.K (T.clsA c) "__len__" f)
    (G : FnG X.prog X.w X.K X.mg X.base (L2.CX X.prog X.w) k f fd ps (spF T .pure 1 F)) (bL : Binds X.K fd ps []) (gd : X.A.guards = some []) (hr : Room (k + 3) X.A) (hg : Gl X "list") (hm : X.mg "list" = none) (h : DE T W X e .pure m) (hst : starEach [e] X.env = (false, eval e X.env) :: starEach [] X.env := by rfl) (hpl : (backTo pos (starEach [] X.env)).any (·.1) = false := by rfl) :
    DE T W X (.Call (.Name "list" p) [e] [] pos) .fresh (lstO c j F m) :=
  pe_imp (pe_callTy (call_listIt hc M FI bI ML G bL gd hr) hg hm (by decide +kernel) (da_cons (ks := []) (ms := []) h da_nil trivial hst) (by decide) (by decide) hst hpl) fun _ _ _ h => cd_lstO hK hj hn h
end
end Ue
set_option linter.all false
set_option Elab.async false
set_option maxRecDepth 100000
set_option maxHeartbeats 4000000
namespace Ue
open PySem PySem.Spec PyProof.Rows L2
def rIsX (K : PySem.W.Frag) (a : Addr) (cls : Value) (d : Option Addr) : List V → Hp → VK → Prop := fun xs H Q => ∃ (c : V) (cv : Value) (D : Addr) (b : Bool), xs = [.ref a, c] ∧ (∀ u, RelV c u → u = cv) ∧ cls = .ref D ∧ (d = none ∨ ∃ dx xfs, d = some dx ∧ H dx = some (.xd xfs)) ∧ L2.ExcC K D ∧ PySem.W.kitOne K (.ref D) cv = some b ∧ Q (.bl b) H
theorem call_isX {X : Cx} {a : Addr} {oe : Obj} {cls : Value} {d : Option Addr} {pn : List (Addr × Obj)} (hz : Zc cls d oe) (hf : ∃ vs, oe.data = .fields vs) : CallR (X.suite a ((a, oe) :: pn)) (.builtin "isinstance") (rIsX X.K a cls d)
  | pins, s, σ, H, xs, us, Q, I, r, h => by
    obtain ⟨c, cv, D, b, rfl, hcv, rfl, hd, C, e, q⟩ := h
    obtain ⟨u, t, rfl, rx, rt⟩ : ∃ u t, us = [u, t] ∧ RelV (.ref a) u ∧ RelV c t := by
      cases r with | cons p r => cases r with | cons p2 r => cases r; exact ⟨_, _, rfl, p, p2⟩
    cases rx
    obtain rfl := hcv _ rt
    have there := (I.pin (a, oe) (List.mem_append.mpr (.inl List.mem_cons_self))).1
    obtain ⟨vs, hv⟩ := hf
    have nc : PySem.W.notCls oe = true := by unfold PySem.W.notCls; rw [hv] <;> rfl
    obtain ⟨od, J⟩ : ∃ od, PySem.W.InstAt s.heap a oe D od := by
      rcases hd with rfl | ⟨dx, xfs, rfl, hx⟩
      · exact ⟨none, there, hz.1, nc, by rw [hz.2]; trivial⟩
      · obtain ⟨mA, hns, _⟩ := (I.hok dx _ hx : ObjOk X.prog X.w H s.heap dx (.xd xfs))
        obtain ⟨od, ho, _⟩ := lookIn_ns hns
        exact ⟨some od, there, hz.1, nc, by rw [hz.2]; exact ho⟩
    have cl : (PySem.W.clsIn X.K D).isSome = true := by
      obtain ⟨_, h1, _⟩ := PySem.W.any_some C.hd
      rw [h1]; rfl
    exact PySem.W.kia_one (PySem.W.kitx_exc cl C.hg C.hk C.hs C.ha C.hn C.ht C.hm) I.kIn J e (fun z => nomatch z) fun tk => ⟨.bl b, H, I.kept (t' := tk) fun _ _ z => z, rfl, q⟩
def isXM (i : Nat) (tab : List (Nat × Bool)) : M := fun env => match env[i]? with
  | some (some (.ex c _)) => (match tab.lookup c with | some b => .ok (.bl b) env | none => .stk)
  | _ => .stk
def XTab (T : Tab) (cv : Value) (tab : List (Nat × Bool)) : Prop := ∀ c b, tab.lookup c = some b → L2.ExcC T.K (T.excA c) ∧ PySem.W.kitOne T.K (.ref (T.excA c)) cv = some b
section
variable {T : Tab} {W : WX} {X : Cx} {i : Nat} {tab : List (Nat × Bool)} {e ce : Expr} {v : V} {cv : Value} {p pos : Pos}
theorem de_isX {a : Addr} {oe : Obj} {cls : Value} {d : Option Addr} {pn : List (Addr × Obj)} (hK : X.K = T.K) (hT : T.cur = some (a, d, cls)) (hz : Zc cls d oe) (hf : ∃ vs, oe.data = .fields vs) (hI : XTab T cv tab) (hcv : ∀ u, RelV v u → u = cv)
    (hg : Gl (X.suite a ((a, oe) :: pn)) "isinstance") (hm : (X.suite a ((a, oe) :: pn)).mg "isinstance" = none) (h : PE (X.suite a ((a, oe) :: pn)) e (tVar i)) (hc : PE (X.suite a ((a, oe) :: pn)) ce (tC v))
    (he : starEach [e, ce] X.env = (false, eval e X.env) :: starEach [ce] X.env := by rfl) (h2 : starEach [ce] X.env = (false, eval ce X.env) :: starEach [] X.env := by rfl) (hpl : (backTo pos (starEach [ce] X.env)).any (·.1) = false := by rfl) :
    DE T W (X.suite a ((a, oe) :: pn)) (.Call (.Name "isinstance" p) [e, ce] [] pos) .pure (isXM i tab) :=
  pe_imp (pe_callB (call_isX hz hf) hg hm (by decide +kernel) (pa_cons h (pa_cons hc pa_nil h2) he) (by decide) (by decide) he hpl) fun σ H Q h => by
    obtain ⟨env, P, RR, h⟩ := h
    unfold isXM at h
    cases e0 : env[i]? with
    | none => rw [e0] at h; exact h.elim
    | some o =>
      cases o with
      | none => rw [e0] at h; exact h.elim
      | some w =>
        cases w with
        | ex c fs =>
          rw [e0] at h
          simp only at h
          cases e1 : tab.lookup c with
          | none => rw [e1] at h; exact h.elim
          | some b =>
            rw [e1] at h
            obtain ⟨u, hu, r⟩ := RR.ent i _ e0
            obtain ⟨rfl, r2, r3⟩ := r a d cls hT
            obtain ⟨q1, q2⟩ := hI c b e1
            have dd : d = none ∨ ∃ dx xfs, d = some dx ∧ H dx = some (.xd xfs) := by
              rcases r3 with ⟨_, r3⟩ | ⟨dx, xfs, vs, w1, w2, _⟩
              · exact .inl r3
              · exact .inr ⟨dx, xfs, w1, RR.sub _ _ w2⟩
            exact ⟨_, hu, v, cv, _, b, rfl, hcv, r2, dd, by rw [hK]; exact q1, by rw [hK]; exact q2, h.here RR (Fr.refl _ _ _ _) _ (show Rep T P (.bl b) (.bl b) from rep_bl) trivial⟩
        | _ => rw [e0] at h; exact h.elim
@[simp] theorem isXM_s {env : Env} : isXM i tab env = match env[i]? with
  | some (some (.ex c _)) => (match tab.lookup c with | some b => .ok (.bl b) env | none => .stk)
  | _ => .stk := (rfl)
end
section
variable {c j : Nat} {F : FM} {m ma mb : M} {env : Env}
@[simp] theorem lenO_s : lenO c F m env = (m env).bind fun d e => match d with
  | .obj c1 fs => if c1 = c then (callS F [] [.d (.obj c1 fs)] e).bind fun v e' => (match v with | .int n => if 0 ≤ n ∧ n < 2 ^ 63 then .ok (.int n) e' else .stk | _ => .stk) else .stk
  | _ => .stk := (rfl)
@[simp] theorem getO_s : getO c F ma mb env = (ma env).bind fun x e1 => (mb e1).bind fun y e2 => match x with
  | .obj c1 fs => if c1 = c then callS F [] [.d (.obj c1 fs), .d y] e2 else .stk
  | _ => .stk := (rfl)
@[simp] theorem asO_s : asO c j m env = (m env).bind fun d e => match d with
  | .obj c1 fs => if c1 = c then (match fs[j]? with | some (.tup ds) => .ok ds e | _ => .stk) else .stk
  | _ => .stk := (rfl)
@[simp] theorem lstO_s : lstO c j F m env = (m env).bind fun d e => match d with
  | .obj c1 fs => if c1 = c then (match fs[j]?, callS F [] [.d (.obj c1 fs)] e with
    | some (.tup ys), .ok (.int n) e' => if 0 ≤ n ∧ n.toNat ≤ sizeLine then .ok (.lst ys) e' else .stk
    | _, _ => .stk) else .stk
  | _ => .stk := (rfl)
end
end Ue
set_option linter.all false
set_option Elab.async false
set_option maxRecDepth 100000
set_option maxHeartbeats 4000000
namespace Ue
open PySem PySem.Spec PyProof.Rows L2
mutual
def noL : D → Bool
  | .lst _ => false
  | .scr _ => false
  | .dct _ => false
  | .tpx ds => noLs ds
  | .tup ds => noLs ds
  | .obj _ ds => noLs ds
  | .non => true
  | .bl _ => true
  | .int _ => true
  | .str _ => true
def noLs : List D → Bool
  | [] => true
  | d :: ds => noL d && noLs ds
end
section
variable {T : Tab} {P : Hp} {a : Addr} {ws : List V}
theorem drop_ne {b : Addr} {u : HO} (ha : P a = some (.lst ws)) (h : P b = some u) (n : ∀ zs, u ≠ .lst zs) : ItX.dropH P a b = some u := by
  have hb : b ≠ a := fun z => by
    subst z; rw [ha] at h; exact n _ (Option.some.inj h).symm
  rw [ItX.dropH_ne hb]; exact h
mutual
theorem Rep.dropL (ha : P a = some (.lst ws)) : ∀ (d : D) (v : V), noL d = true → Rep T P d v → Rep T (ItX.dropH P a) d v
  | .non, _, _, h => h
  | .bl _, _, _, h => h
  | .int _, _, _, h => h
  | .str _, _, _, h => h
  | .tup ds, _, n, h => by
    rw [Rep] at h ⊢
    rw [noL] at n
    obtain ⟨b, vs, e, h1, h2⟩ := h
    refine ⟨b, vs, e, ?_, Reps.dropL ha ds vs n h2⟩
    rcases h1 with h1 | h1
    · refine .inl ?_
      rcases h1 with h1 | ⟨o, h1⟩
      · exact .inl (drop_ne ha h1 fun _ z => nomatch z)
      · exact .inr ⟨o, drop_ne ha h1 fun _ z => nomatch z⟩
    · exact .inr h1
  | .lst ds, _, n, h => by rw [noL] at n; cases n
  | .scr ns, _, n, h => by rw [noL] at n; cases n
  | .dct _, _, n, h => by rw [noL] at n; cases n
  | .tpx ds, _, n, h => by
    rw [Rep] at h ⊢
    rw [noL] at n
    obtain ⟨b, vs, o, e, h1, h3, h2⟩ := h
    exact ⟨b, vs, o, e, drop_ne ha h1 (fun _ z => nomatch z), h3, Reps.dropL ha ds vs n h2⟩
  | .obj c ds, _, n, h => by
    rw [Rep] at h ⊢
    rw [noL] at n
    obtain ⟨b, dx, vs, e, h1, hl, h2⟩ := h
    exact ⟨b, dx, vs, e, drop_ne ha h1 (fun _ z => nomatch z), hl, Reps.dropL ha ds vs n h2⟩
theorem Reps.dropL (ha : P a = some (.lst ws)) : ∀ (ds : List D) (vs : List V), noLs ds = true → Reps T P ds vs → Reps T (ItX.dropH P a) ds vs
  | [], _, _, h => h
  | d :: ds, _, n, h => by
    rw [Reps] at h ⊢
    rw [noLs, Bool.and_eq_true] at n
    obtain ⟨v, r, e, h1, h2⟩ := h
    exact ⟨v, r, e, Rep.dropL ha d v n.1 h1, Reps.dropL ha ds r n.2 h2⟩
end
end
def ownL : Option EV → Bool
  | some (.own ds) => noLs ds
  | some (.new _ fs) => noLs fs
  | some (.mob _ _) => false
  | _ => true
def lendM (i : Nat) (m : M) : M := fun env => match env[i]? with
  | some (some (.own ds)) => if (env.set i none).all ownL then (match m (env.set i (some (.v (.lst ds)))) with
    | .ok d _ => if noL d then .ok d env else .stk
    | .exc c fs _ => if noLs fs then .exc c fs env else .stk
    | .stk => .stk) else .stk
  | _ => .stk
section
variable {T : Tab} {W : WX} {env : Env} {σ : L2.St} {P H H' P' : Hp} {X : Cx} {i : Nat} {m : M} {e : Expr} {ds : List D} {a : Addr} {vs : List V}
end
end Ue
set_option linter.all false
set_option Elab.async false
set_option maxRecDepth 100000
set_option maxHeartbeats 4000000
namespace Ue
open PySem PySem.Spec PyProof.Rows L2
@[simp] theorem lendM_s {i : Nat} {m : M} {env : Env} : lendM i m env = match env[i]? with
  | some (some (.own ds)) => if (env.set i none).all ownL then (match m (env.set i (some (.v (.lst ds)))) with
    | .ok d _ => if noL d then .ok d env else .stk
    | .exc c fs _ => if noLs fs then .exc c fs env else .stk
    | .stk => .stk) else .stk
  | _ => .stk := (rfl)
theorem excCB_ok {K : PySem.W.Frag} {D : Addr} (h : excCB K D = true) : L2.ExcC K D := by
  unfold excCB at h
  simp only [Bool.and_eq_true, decide_eq_true_eq] at h
  obtain ⟨h1, h2, h3, h4, h5, h6, h7, h8⟩ := h
  exact ⟨h1, h2, h3, h4, h5, h6, h7, h8⟩
theorem xtB_ok {T : Tab} {cv : Value} {tab : List (Nat × Bool)} (h : xtB T.K T.excA cv tab = true) : XTab T cv tab := fun c b e => by
  have : (c, b) ∈ tab := by
    clear h
    induction tab with
    | nil => simp at e
    | cons p tab ih =>
      obtain ⟨k, v⟩ := p
      rw [List.lookup_cons] at e
      by_cases hk : c == k
      · rw [hk] at e
        have : c = k := by simpa using hk
        subst this; cases e; exact List.mem_cons_self
      · simp only [hk] at e
        exact List.mem_cons_of_mem _ (ih e)
  have := List.all_eq_true.mp h _ this
  simp only [Bool.and_eq_true, decide_eq_true_eq] at this
  exact ⟨excCB_ok this.1, this.2⟩
end Ue
set_option linter.all false
set_option Elab.async false
set_option maxRecDepth 100000
set_option maxHeartbeats 4000000
namespace PySem
section
variable {prog : Program} {w : World} {A : Around} {E : Value → Shared → Prop} {s : Shared} {l : Addr} {xs : Array (Int × Tok)}
theorem ue_iterT {Q : Value → Shared → Prop} (hl : s.heap.IsTuple l (intItems xs))
    (h : ∀ s₂ : Shared, s₂ = { s with heap := s.heap.push { cls := .type "tuple_iterator", data := .fields #[.ref l, .int 0 0] } } →
      (s₂.heap.IsTupleIter s.heap.objs.size l 0 ∧ s₂.heap.IsTuple l (intItems xs)) → (∀ b ∈ [s.heap.objs.size, l], b < s₂.heap.objs.size) → l ≠ s.heap.objs.size → Q (.ref s.heap.objs.size) s₂) :
    wpAny (model prog w) A (pyIter (.ref l)) Q E s := by
  have hlt : l < s.heap.objs.size := by obtain ⟨_, e, _⟩ := hl; exact Heap.lt_size e
  refine wpAny_pyIter_tuple hl (h _ rfl ⟨⟨_, Heap.get?_push_size _ rfl, rfl, rfl⟩, hl.push _⟩ (fun b hb => ?_) (Nat.ne_of_lt hlt))
  show b < (s.heap.push _).objs.size
  rw [Heap.size_push]
  rcases List.mem_cons.mp hb with rfl | hb
  · exact Nat.lt_succ_self _
  · rcases List.mem_cons.mp hb with rfl | hb
    · exact Nat.lt_succ_of_lt hlt
    · cases hb
theorem ue_kept {h' : Heap} (hk : ∀ b o, b ∉ [s.heap.objs.size] → (s.heap.push { cls := .type "tuple_iterator", data := .fields #[.ref l, .int 0 0] }).get? b = some o → h'.get? b = some o) :
    ∀ b o, s.heap.get? b = some o → h'.get? b = some o := fun b o e => by
  refine hk b o (fun hm => ?_) (Heap.get?_push_of_some _ e)
  rcases List.mem_cons.mp hm with e1 | hm
  · exact absurd (e1 ▸ Heap.lt_size e) (Nat.lt_irrefl _)
  · cases hm
theorem ue_minT {Q : Value → Shared → Prop} (hh : A.handled = none) (hl : s.heap.IsTuple l (intItems xs)) (hne : 0 < xs.size)
    (h : ∀ v h' tk, (intItems xs)[argBest (fun i j => decide (numAt xs i < numAt xs j)) (xs.size - 1)]? = some v → (∀ b o, s.heap.get? b = some o → h'.get? b = some o) → Q v { s with heap := h', toks := tk }) :
    wpAny (model prog w) A (call (.builtin "min") [.ref l]) Q E s := by
  refine call_min_walk (ue_iterT hl fun s₂ e st hfp hlI => ?_)
  subst e
  refine ⟨_, _, _, _, _, _, _, rfl, Walks.tuple (A := A.in1) hh _ l hlI (intItems xs), st, hfp, by simpa [intItems] using hne, CmpOf.ints_lt (numAt xs) (fun _ _ => intItems_at), fun v h' tk hP hk => ?_⟩
  exact h v h' tk (by simpa [intItems] using hP) (ue_kept hk)
end
end PySem
namespace L2
open PySem PySem.Spec PyProof.Rows
section
variable {X : Cx}
def rMinT (K : PySem.W.Frag) : List V → Hp → VK → Prop := fun vs H Q => ∃ (a : Addr) (ns : List Int), vs = [V.ref a] ∧ (SqL K H a (ns.map V.int) ∨ SqT K H a (ns.map V.int)) ∧ 0 < ns.length ∧ ∀ m, m ∈ ns → (∀ y, y ∈ ns → m ≤ y) → Q (.int m) H
theorem cr_minT (hc : X.calm = true) : CallR X (.builtin "min") (rMinT X.K) := by
  intro pins s σ H vs us Q I r h
  obtain ⟨a, ns, e, hs, hne, q⟩ := h
  rcases hs with hs | hs
  · exact cr_min hc pins s σ H vs us Q I r ⟨a, ns, e, hs, hne, q⟩
  subst e
  obtain ⟨its, rv, hl, _⟩ := I.tuple hs
  rw [Vals.ref1 r]
  have hl : s.heap.IsTuple a its.toArray := hl
  have hi := rv.ints
  obtain ⟨xs, e⟩ := hi.allInts.items
  have hn : numsOf (intItems xs).toList = ns := by rw [← e]; exact hi.numsOf
  rw [nums_intItems] at hn
  subst hn
  rw [e] at hl
  have hsz : 0 < xs.size := by simpa using hne
  refine PySem.ue_minT (I.ok.hd hc) hl hsz fun v h' tk hv hk => ?_
  obtain ⟨t, rfl⟩ := intItems_at hv
  obtain ⟨h1, h2⟩ := argBest_lt (numAt xs) (xs.size - 1)
  refine ⟨.int _, H, I.kept hk, ⟨_, rfl⟩, q _ ?_ fun a ha => ?_⟩
  · rw [numAt_eq]; exact PySem.getD_mem (by rw [List.length_map, Array.length_toList]; omega)
  · obtain ⟨j, hj, rfl⟩ := mem_getD ha
    rw [List.length_map, Array.length_toList] at hj
    rw [← numAt_eq]; exact h2 j (by omega)
end
end L2
namespace Ue
open PySem L2
def listOf1 : List D → Option (List D) | [.lst ds] => some ds | [.tup ds] => some ds | _ => none
def minAD (ds : List D) : Option D := (listOf1 ds).bind fun es => match dInts es with | some (n :: ns) => some (.int (minOf (n :: ns))) | _ => none
section
variable {T : Tab}
theorem listOf1_some {P H : Hp} {ds es : List D} {ns : List Int} {xs : List V} (R1 : PSub P H) (hx : Rdbs T P H ds xs) (e : listOf1 ds = some es) (q : dInts es = some ns) : ∃ a, xs = [.ref a] ∧ (SqL T.K H a (ns.map V.int) ∨ SqT T.K H a (ns.map V.int)) := by
  have key : ∀ d x, Rdb T P H d x → (d = .lst es ∨ d = .tup es) → ∃ a, [x] = [V.ref a] ∧ (SqL T.K H a (ns.map V.int) ∨ SqT T.K H a (ns.map V.int)) := fun d x h hd => by
    obtain ⟨a, vs, rfl, h1, h2⟩ := h.seqE R1 hd
    rw [dInts_ok q] at h2
    rw [Reps.ints ns h2] at h1
    exact ⟨a, rfl, h1⟩
  cases ds with
  | nil => cases e
  | cons d ds =>
    cases ds with
    | nil =>
      obtain ⟨x, rfl, h0⟩ := hx.one
      cases d with
      | lst fs => cases e; exact key _ x h0 (.inl rfl)
      | tup fs => cases e; exact key _ x h0 (.inr rfl)
      | _ => cases e
    | cons d2 ds => cases d <;> cases e
theorem cd_minA : CallD T (rMinT T.K) .pure minAD := fun env σ P H ds xs d Q R1 hx e k => by
  unfold minAD at e
  cases e1 : listOf1 ds with
  | none => rw [e1] at e; cases e
  | some es =>
    rw [e1] at e
    have e : (match dInts es with | some (n :: ns) => some (D.int (minOf (n :: ns))) | _ => none) = some d := e
    cases q : dInts es with
    | none => rw [q] at e; cases e
    | some ns =>
      rw [q] at e
      obtain ⟨a, rfl, h⟩ := listOf1_some R1.sub hx e1 q
      cases ns with
      | nil => cases e
      | cons n ns =>
        cases e
        refine ⟨a, _, rfl, h, Nat.succ_pos _, fun m hm hle => ?_⟩
        obtain ⟨h1, h2, h3⟩ := minOf_le ns n
        have em : m = minOf (n :: ns) := by
          have m1 : minOf (n :: ns) ≤ m := by
            rcases List.mem_cons.mp hm with rfl | hm
            · exact h1
            · exact h2 m hm
          have m2 : m ≤ minOf (n :: ns) := by
            rcases h3 with h3 | h3
            · rw [show minOf (n :: ns) = n from h3]; exact hle n List.mem_cons_self
            · exact hle _ (List.mem_cons_of_mem _ h3)
          omega
        rw [em]
        exact k _ P H R1 (Fr.refl _ _ _ _) (show Rep T P _ _ from rep_int) trivial
end
end Ue
set_option linter.all false
set_option Elab.async false
set_option maxRecDepth 100000
set_option maxHeartbeats 4000000
namespace Ue
open PySem PySem.Spec PyProof.Rows L2 RZ
def zipL (xs ys : List D) : List D := (List.range (min xs.length ys.length)).map fun i => D.tup [xs.getD i .non, ys.getD i .non]
section
variable {T : Tab} {W : WX} {env : Env} {σ : L2.St} {P H : Hp} {X : Cx} {ma mb : M} {a b : Expr}
def zipM (ma mb : M) : MI := fun env => (ma env).bind fun x e1 => (mb e1).bind fun y e2 => match x, y with
  | .lst xs, .lst ys => .ok (zipL xs ys) e2
  | .tup xs, .tup ys => .ok (zipL xs ys) e2
  | _, _ => .stk
@[simp] theorem zipM_s : zipM ma mb env = (ma env).bind fun x e1 => (mb e1).bind fun y e2 => match x, y with
  | .lst xs, .lst ys => .ok (zipL xs ys) e2
  | .tup xs, .tup ys => .ok (zipL xs ys) e2
  | _, _ => .stk := (rfl)
end
end Ue
set_option linter.all false
set_option Elab.async false
set_option maxRecDepth 100000
set_option maxHeartbeats 4000000
namespace PySem
open Sem (wp)
theorem ue_enumNew (l : Addr) (items : Array Value) (n : Nat) (dct : Option Addr) (sl : Array (Option Value)) :
    Meets (Builtin.«enumerate.__new__» ⟨[.type "enumerate", .ref l], []⟩) (fun _ R s => s.heap.get? l = some ⟨.type "tuple", dct, .seq items n, sl⟩ ∧
      R (.ok (.ret (.ref (s.heap.push { cls := .type "tuple_iterator", data := .fields #[.ref l, .int 0 0] }).objs.size)))
        { s with heap := (s.heap.push { cls := .type "tuple_iterator", data := .fields #[.ref l, .int 0 0] }).push { cls := .type "enumerate", data := .fields #[.none, .bool false, .ref s.heap.objs.size, rawInt 0, .none, .none] } }) :=
  .of_wp fun prog w A R s h => by
    obtain ⟨hp, g, d, tk, os⟩ := s; obtain ⟨hl, h⟩ := h
    have hsub := sub_enumerate
    have hL : Heap.IsTuple (Shared.heap ⟨hp, g, d, tk, os⟩) l items := ⟨_, hl, rfl, n, rfl⟩
    wp_walk using wpAny_loadPart' hl
    refine wpAny_stack_any fun st => wpAny_pure ?_
    split
    · rename_i c _ _ _ _ _
      cases (c == Value.type "enumerate")
      · wp_walk using wpAny_loadPart' hl, wpAny_pyIter_tuple hL
        exact ⟨_, rfl, h⟩
      · wp_walk using wpAny_loadPart' hl, wpAny_pyIter_tuple hL
        exact ⟨_, rfl, h⟩
    · wp_walk using wpAny_loadPart' hl, wpAny_pyIter_tuple hL
      exact ⟨_, rfl, h⟩
section
variable {prog : Program} {w : World} {A : Around} {E : Value → Shared → Prop} {s : Shared}
theorem ue_enumT {l : Addr} {items : Array Value} {Q : Value → Shared → Prop} (hL : s.heap.IsTuple l items)
    (h : ∀ h', IsEnum h' (s.heap.objs.size + 1) s.heap.objs.size 0 .none → h'.IsTupleIter s.heap.objs.size l 0 → h'.objs.size = s.heap.objs.size + 2 →
      (∀ b o, s.heap.get? b = some o → h'.get? b = some o) → Q (.ref (s.heap.objs.size + 1)) { s with heap := h' }) :
    wpAny (model prog w) A (call (.type "enumerate") [.ref l]) Q E s := by
  obtain ⟨⟨c, dct, dt, sl⟩, hl, hc, n, hd⟩ := hL
  replace hc : c = .type "tuple" := hc
  replace hd : dt = .seq items n := hd
  subst hc hd
  refine callType_new F.called_enumerate (by decide) (F.typeCall_enumerate_1 _) (F.newCall_enumerate_1 _) (fun obj => F.args_object_init_2 obj _) F.entry_enumerate_new
    (ue_enumNew l items n dct sl) ⟨hl, ?_⟩
  have hz : (s.heap.push { cls := .type "tuple_iterator", data := .fields #[.ref l, .int 0 0] }).objs.size = s.heap.objs.size + 1 := Heap.size_push ..
  show _ ∧ _
  rw [hz]
  have he : IsEnum ((s.heap.push { cls := .type "tuple_iterator", data := .fields #[.ref l, .int 0 0] }).push
      { cls := .type "enumerate", data := .fields #[.none, .bool false, .ref s.heap.objs.size, rawInt 0, .none, .none] }) (s.heap.objs.size + 1) s.heap.objs.size 0 .none := by
    have := Heap.get?_push_size (s.heap.push { cls := .type "tuple_iterator", data := .fields #[.ref l, .int 0 0] })
      (o := { cls := .type "enumerate", data := .fields #[.none, .bool false, .ref s.heap.objs.size, rawInt 0, .none, .none] }) rfl
    rw [hz] at this; exact this
  refine ⟨⟨_, he, rfl⟩, h _ he ⟨_, Heap.get?_push_of_some _ (Heap.get?_push_size _ rfl), rfl, rfl⟩ (by rw [Heap.size_push, hz]) fun b o x => Heap.get?_push_of_some _ (Heap.get?_push_of_some _ x)⟩
end
end PySem
set_option linter.all false
set_option Elab.async false
set_option maxRecDepth 100000
set_option maxHeartbeats 4000000
namespace PySem
section
variable {prog : Program} {w : World} {A : Around} {E : Value → Shared → Prop} {s : Shared}
theorem ue_enumEnd {e it l : Addr} {i : Int} {j : Nat} {items : Array Value} {old : Value} {Q : Option Value → Shared → Prop} (hh : A.handled = none)
    (he : IsEnum s.heap e it i old) (hit : s.heap.IsTupleIter it l j) (hl : s.heap.IsTuple l items) (hx : items[j]? = none)
    (hQ : ∀ h', Heap.ExtBut it s.heap h' → Q none { s with heap := h' }) : wpAny (model prog w) A (pyNext (.ref e)) Q E s := by
  have hT : s.TypeIs (.ref e) "enumerate" := ⟨_, he, rfl⟩
  unfold pyNext
  refine wpAny_bind (wpAny_attempt (wpAny_callSpecial?_slot (name := Str.ofString "__next__") hT F.slot_enumerate_next
    (wpAny_call_entry F.slot_enumerate_next hT F.entry_enumerate_next ?_ (F.args_enumerate_next_1 _))))
  show wpAny _ _ (field (.ref e) 2 >>= _) _ _ _
  refine wpAny_bind (wpAny_field he rfl (x := .ref it) rfl ?_)
  refine wpAny_bind (wpAny_nextOf_tuple_end (A := A.in1) hh hit hl hx fun h' x he' hx' => ?_)
  obtain ⟨o, ho, hc⟩ := hx'
  refine wpAny_bind (wpAny_isInstance (T := "StopIteration") (b := true) ⟨o, ho, hc⟩ isSubtype_stop ?_)
  exact wpAny_pure (hQ _ he')
end
end PySem
namespace L2
open PySem PySem.Spec PyProof.Rows
def IteT (K : PySem.W.Frag) (a : Addr) : It :=
  ⟨fun i H => ∃ (xs : List V) (x : V), SqT K H a xs ∧ xs[i]? = some x, fun i H v H' => ∃ T x, v = .ref T ∧ H T = none ∧ H' = upd H T (.tup [.int (i : Nat), x]) ∧ ∀ xs, SqT K H a xs → xs[i]? = some x, fun i H => ∃ xs : List V, SqT K H a xs ∧ xs.length ≤ i⟩
theorem ue_turnEnumT {P : Program} {w : World} {K : PySem.W.Frag} {elts : List Expr} {kk : Nat} {tpos : Pos} (a e it : Addr) :
    Turn P w K (.Tuple elts kk tpos) (IteT K a) [e, it] e (fun i h => (∃ old, IsEnum h e it ((i : Nat) : Int) old) ∧ h.IsTupleIter it a i ∧ e ≠ it ∧ a ≠ it ∧ e ≠ a) where
  mem := by simp
  obj := fun i h st b hb => by
    obtain ⟨⟨old, he⟩, ⟨o, ho, hc, hd⟩, _⟩ := st
    have e' : b = e ∨ b = it := by simpa using hb
    rcases e' with z | z
    · rw [z]; exact ⟨_, he, fun v q => nomatch q⟩
    · rw [z]; exact ⟨o, ho, fun v q => by rw [hd] at q; cases q⟩
  keep := fun i h h' st k => let ⟨⟨old, he⟩, hi, hne⟩ := st; ⟨⟨old, k e (by simp) _ he⟩, hi.at fun o q => k it (by simp) o q, hne⟩
  item := by
    intro X hP hw hK hc i pins s σ H E I hf st hg
    subst hP hw hK
    obtain ⟨⟨old, he⟩, hit, hne, hai, hea⟩ := st
    obtain ⟨xs, x, hq, hx⟩ := hg
    obtain ⟨its, rv, p, hz⟩ := I.tuple hq
    have p : s.heap.IsTuple a its.toArray := p
    obtain ⟨u, hu, ru⟩ := rv.get hx
    have hel : e < s.heap.objs.size := Heap.lt_size he
    have hil : it < s.heap.objs.size := by obtain ⟨_, q, _⟩ := hit; exact Heap.lt_size q
    have hi : i < its.toArray.size := by
      rcases Nat.lt_or_ge i its.toArray.size with q | q
      · exact q
      · rw [List.size_toArray] at q; rw [List.getElem?_eq_none q] at hu; cases hu
    refine wpAny_pyNext_enum_itemD (Draws.tuple (A := X.A.in1) (I.ok.hd hc) it a hai its.toArray) he ⟨hit, p⟩ hi hne (by simp [hne, hea]) fun v h' tk hv ho hst hT hsz hk => ?_
    have hv : its[i]? = some v := by simpa using hv
    rw [hu] at hv; cases hv
    obtain ⟨hit', _⟩ := hst
    refine ⟨_, rfl, wpAny_letOwnedTupleGo_enum (s := { s with heap := h', toks := tk + 1 }) ho fun h'' he' sb => ?_⟩
    have hT2 : h''.get? s.heap.objs.size = some { cls := .type "tuple", data := .seq #[.int i tk, u] } := (sb.2 _ (Nat.ne_of_gt hel)).trans hT
    have new : ObjOk X.prog X.w (upd H s.heap.objs.size (.tup [.int (i : Nat), x])) h'' s.heap.objs.size (.tup [.int (i : Nat), x]) :=
      ⟨by show 2 ≤ sizeLine; decide, [.int i tk, u], .cons ⟨_, rfl⟩ (.cons ru .nil), ⟨_, hT2, rfl, _, rfl⟩⟩
    have I1 : Inv X pins σ (upd H s.heap.objs.size (.tup [.int (i : Nat), x])) { s with heap := h'', toks := tk + 1 } :=
      I.turnedNew (ch := [e, it]) (fun b ob hb q => (sb.2 b (fun z => hb (by simp [z]))).trans (hk b ob (fun z => hb (by simp [z])) (fun z => hb (by simp [z])) q)) hf (Nat.le_refl _) new
    refine ⟨.ref s.heap.objs.size, _, I1, rfl, ⟨_, x, rfl, I.hok.fresh (Nat.le_refl _), rfl, fun ys hy => by rw [I.tuple_inj hy hq]; exact hx⟩, ⟨⟨u, ?_⟩, hit'.at fun o q => (sb.2 it (Ne.symm hne)).trans q, hne, hai, hea⟩, fun b hb => ?_⟩
    · have e1 : ((i + 1 : Nat) : Int) = (i : Int) + 1 := by omega
      rw [e1]; exact he'
    · have hb' : b < s.heap.objs.size := by
        have e' : b = e ∨ b = it := by simpa using hb
        rcases e' with z | z
        · rw [z]; exact hel
        · rw [z]; exact hil
      rw [upd_ne (Nat.ne_of_lt hb')]
      exact (hf b hb).1
  done := by
    intro X hP hw hK hc i pins s σ H E I hf st hg
    subst hP hw hK
    obtain ⟨⟨old, he⟩, hit, hne, hai, hea⟩ := st
    obtain ⟨xs, hq, hx⟩ := hg
    obtain ⟨its, rv, p, hz⟩ := I.tuple hq
    have p : s.heap.IsTuple a its.toArray := p
    obtain ⟨f0, f1, f2, f3, f4, f5⟩ := hf it (by simp)
    have hl := rv.length
    exact ue_enumEnd (I.ok.hd hc) he hit p (by simp; omega) fun h' eb => ⟨rfl, I.turned (t' := s.toks) (fun b o hb q => eb b o hb q) f0 f1 f3 f4 f5⟩
  self := fun A i s Q E st h => let ⟨⟨_, he⟩, _⟩ := st; wpAny_pyIter_enum he h
def iEnumA (K : PySem.W.Frag) (ta : TA) : TI := fun σ H R => ta σ H fun vs H1 => ∃ a xs, vs = [.ref a] ∧ ((SqL K H1 a xs ∧ R (Ite K a) H1) ∨ (SqT K H1 a xs ∧ R (IteT K a) H1))
theorem pi_enumA {X : Cx} {e : Expr} {ta : TA} {p pos tpos : Pos} {elts : List Expr} {kk : Nat} (hg : Gl X "enumerate") (hm : X.mg "enumerate" = none) (ha : PA X [e] ta) (hs : starEach [e] X.env = [(false, eval e X.env)] := by rfl) :
    PI X (.Tuple elts kk tpos) (.Call (.Name "enumerate" p) [e] [] pos) (iEnumA X.K ta) := by
  refine ⟨fun pins s σ H R I h => ?_⟩
  refine Call_ (ld_blt I hg hm boot_enumerate (PyProof.Rows.callWith_type1 (thn (ha.run pos pins s σ H _ I h) fun us s1 ⟨vs, H1, I1, r1, q1⟩ => ?_) hs rfl))
  obtain ⟨a, xs, ex, q⟩ := q1
  subst ex
  cases r1 with
  | cons r rr =>
    cases rr
    cases r
    have fp : ∀ b, (b = s1.heap.objs.size + 1 ∨ b = s1.heap.objs.size) → FpOk X pins H1 b := fun b e' => by
      have hle : s1.heap.objs.size ≤ b := by
        rcases e' with z | z
        · rw [z]; exact Nat.le_add_right _ _
        · rw [z]; exact Nat.le_refl _
      exact I1.fpOk hle (I1.hok.fresh hle)
    rcases q with ⟨hq, q⟩ | ⟨hq, q⟩
    · obtain ⟨its, rv, p', hz⟩ := I1.list hq
      refine call_enumerate_list p'.isList fun h' he hit hsz hk => wpAny_pyIter_enum he ?_
      have I2 : Inv X pins σ H1 { s1 with heap := h' } := I1.kept (t' := s1.toks) hk
      exact ⟨s1.heap.objs.size + 1, [s1.heap.objs.size + 1, s1.heap.objs.size], _, _, H1, rfl, I2, turn_enum a (s1.heap.objs.size + 1) s1.heap.objs.size, ⟨⟨.none, he⟩, hit, Nat.succ_ne_self _⟩, fun b hb => fp b (by simpa using hb), q⟩
    · obtain ⟨its, rv, p', hz⟩ := I1.tuple hq
      have p' : s1.heap.IsTuple a its.toArray := p'
      have hla : a < s1.heap.objs.size := by obtain ⟨_, q, _⟩ := p'; exact Heap.lt_size q
      refine ue_enumT p' fun h' he hit hsz hk => wpAny_pyIter_enum he ?_
      have I2 : Inv X pins σ H1 { s1 with heap := h' } := I1.kept (t' := s1.toks) hk
      exact ⟨s1.heap.objs.size + 1, [s1.heap.objs.size + 1, s1.heap.objs.size], _, _, H1, rfl, I2, ue_turnEnumT a (s1.heap.objs.size + 1) s1.heap.objs.size, ⟨⟨.none, he⟩, hit, Nat.succ_ne_self _, Nat.ne_of_lt hla, (Nat.ne_of_lt (Nat.lt_succ_of_lt hla)).symm⟩, fun b hb => fp b (by simpa using hb), q⟩
end L2
namespace Ue
open PySem PySem.Spec PyProof.Rows L2
def enumAM (m : M) : MI := fun env => (m env).bind fun d e => match d with | .lst ds => .ok (enumL ds) e | .tup ds => .ok (enumL ds) e | _ => .stk
section
variable {T : Tab} {W : WX} {env : Env} {σ : L2.St} {P H : Hp} {X : Cx} {m : M} {e : Expr}
theorem yl_enumL {K : PySem.W.Frag} {a : Addr} {vs : List V} {ds : List D} (h : Rd P a (.lst vs)) (r : Reps T P ds vs) : Yl T (Ite K a) P (enumL ds) := fun P1 H1 s1 s2 => by
  have q : SqL K H1 a vs := .inl (Rd.sub s2 (Rd.sub s1 h))
  refine ⟨fun i d hd => ?_, fun i hi => ⟨vs, q, by rw [r.length]; simpa [enumL] using hi⟩⟩
  obtain ⟨e, he, rfl⟩ := enumL_get hd
  obtain ⟨v, hv, rv⟩ := r.get he
  refine ⟨⟨vs, v, q, hv⟩, fun x H' y => ?_⟩
  obtain ⟨t, z, rfl, ht, rfl, y⟩ := y
  have := y vs q
  rw [hv] at this; cases this
  have hp : P1 t = none := by
    cases c : P1 t with
    | none => rfl
    | some o => have := s2 t o c; rw [ht] at this; cases this
  exact ⟨upd P1 t _, rep_tup upd_same (Reps.cons rep_int (Reps.cons (Rep.sub (psub_upd hp) _ _ (Rep.sub s1 _ _ rv)) Reps.nil)), .inr ⟨t, _, ht, rfl, rfl⟩⟩
theorem yl_enumT {K : PySem.W.Frag} {a : Addr} {vs : List V} {ds : List D} (hK : K = T.K) (h : SqT T.K P a vs) (r : Reps T P ds vs) : Yl T (IteT K a) P (enumL ds) := fun P1 H1 s1 s2 => by
  subst hK
  have q : SqT T.K H1 a vs := sqT_sub s2 (sqT_sub s1 h)
  refine ⟨fun i d hd => ?_, fun i hi => ⟨vs, q, by rw [r.length]; simpa [enumL] using hi⟩⟩
  obtain ⟨e, he, rfl⟩ := enumL_get hd
  obtain ⟨v, hv, rv⟩ := r.get he
  refine ⟨⟨vs, v, q, hv⟩, fun x H' y => ?_⟩
  obtain ⟨t, z, rfl, ht, rfl, y⟩ := y
  have := y vs q
  rw [hv] at this; cases this
  have hp : P1 t = none := by
    cases c : P1 t with
    | none => rfl
    | some o => have := s2 t o c; rw [ht] at this; cases this
  exact ⟨upd P1 t _, rep_tup upd_same (Reps.cons rep_int (Reps.cons (Rep.sub (psub_upd hp) _ _ (Rep.sub s1 _ _ rv)) Reps.nil)), .inr ⟨t, _, ht, rfl, rfl⟩⟩
theorem di_enumA {p tpos pos : Pos} {elts : List Expr} {kk : Nat} (hK : X.K = T.K) (hg : Gl X "enumerate") (hm : X.mg "enumerate" = none) (h : DE T W X e .pure m) (hs : starEach [e] X.env = [(false, eval e X.env)] := by rfl) :
    DI T W X (.Tuple elts kk tpos) (.Call (.Name "enumerate" p) [e] [] pos) (enumAM m) := pi_imp (pi_enumA hg hm (pa_cons h pa_nil hs) hs) fun σ H Q h => by
  obtain ⟨env, P, RR, h⟩ := h
  refine ⟨env, P, RR, After.mono h.bind fun d env1 P1 H1 R1 F1 h1 x kx nx => ?_⟩
  cases d with
  | lst ds =>
    have kx : Rep T P1 (.lst ds) x := kx
    rw [Rep] at kx
    obtain ⟨a, vs, rfl, q1, q2⟩ := kx
    exact ⟨a, vs, rfl, .inl ⟨.inl (Rd.sub R1.sub q1), h1.here R1 (Fr.refl _ _ _ _) _ (yl_enumL q1 q2)⟩⟩
  | tup ds =>
    have kx : Rep T P1 (.tup ds) x := kx
    rw [Rep] at kx
    obtain ⟨a, vs, rfl, q1, q2⟩ := kx
    exact ⟨a, vs, rfl, .inr ⟨by rw [hK]; exact sqT_sub R1.sub q1, h1.here R1 (Fr.refl _ _ _ _) _ (yl_enumT hK q1 q2)⟩⟩
  | _ => exact h1.elim
@[simp] theorem enumAM_s : enumAM m env = (m env).bind fun d e => match d with | .lst ds => .ok (enumL ds) e | .tup ds => .ok (enumL ds) e | _ => .stk := (rfl)
end
end Ue
set_option linter.all false
set_option Elab.async false
set_option maxRecDepth 100000
set_option maxHeartbeats 4000000
namespace PySem
section
variable {prog : Program} {w : World} {A : Around} {E : Value → Shared → Prop} {s : Shared} {l : Addr} {xs : Array (Int × Tok)}
theorem ue_sumT {Q : Value → Shared → Prop} (hh : A.handled = none) (hl : s.heap.IsTuple l (intItems xs))
    (h : ∀ h' tk t', (∀ b o, s.heap.get? b = some o → h'.get? b = some o) → Q (.int (preSum (numAt xs) xs.size) t') { s with heap := h', toks := tk }) :
    wpAny (model prog w) A (call (.builtin "sum") [.ref l]) Q E s := by
  refine call_sum_walkG (ue_iterT hl fun s₂ e st hfp hlI => ?_)
  subst e
  refine ⟨_, _, _, _, _, _, numAt xs, rfl, Walks.tuple (A := A.in1) hh _ l hlI (intItems xs), st, hfp, (fun _ _ => intItems_at), fun h' tk t' hk => ?_⟩
  have := h h' tk t' (ue_kept hk)
  simpa [intItems] using this
end
end PySem
namespace L2
open PySem PySem.Spec PyProof.Rows
section
variable {X : Cx}
def rSumT (K : PySem.W.Frag) : List V → Hp → VK → Prop := fun vs H Q => ∃ (a : Addr) (ns : List Int), vs = [V.ref a] ∧ (SqL K H a (ns.map V.int) ∨ SqT K H a (ns.map V.int)) ∧ Q (.int ns.sum) H
theorem cr_sumT (hc : X.calm = true) : CallR X (.builtin "sum") (rSumT X.K) := by
  intro pins s σ H vs us Q I r h
  obtain ⟨a, ns, e, hs, q⟩ := h
  rcases hs with hs | hs
  · exact cr_sum hc pins s σ H vs us Q I r ⟨a, ns, e, hs, q⟩
  subst e
  obtain ⟨its, rv, hl, _⟩ := I.tuple hs
  rw [Vals.ref1 r]
  have hl : s.heap.IsTuple a its.toArray := hl
  have hi := rv.ints
  obtain ⟨xs, e⟩ := hi.allInts.items
  have hn : numsOf (intItems xs).toList = ns := by rw [← e]; exact hi.numsOf
  rw [nums_intItems] at hn
  rw [e] at hl
  refine PySem.ue_sumT (I.ok.hd hc) hl fun h' tk t' hk => ?_
  refine ⟨.int ns.sum, H, I.kept hk, ⟨t', ?_⟩, q⟩
  rw [preSum_eq, List.take_of_length_le (by simp), hn]
end
end L2
namespace Ue
open PySem L2
def sumAD (ds : List D) : Option D := (listOf1 ds).bind fun es => (dInts es).map fun ns => .int ns.sum
section
variable {T : Tab}
theorem cd_sumA : CallD T (rSumT T.K) .pure sumAD := fun env σ P H ds xs d Q R1 hx e k => by
  unfold sumAD at e
  cases e1 : listOf1 ds with
  | none => rw [e1] at e; cases e
  | some es =>
    rw [e1] at e
    have e : ((dInts es).map fun ns => D.int ns.sum) = some d := e
    cases q : dInts es with
    | none => rw [q] at e; cases e
    | some ns =>
      rw [q] at e
      cases e
      obtain ⟨a, rfl, h⟩ := listOf1_some R1.sub hx e1 q
      exact ⟨a, ns, rfl, h, k _ P H R1 (Fr.refl _ _ _ _) (show Rep T P _ _ from rep_int) trivial⟩
end
end Ue
set_option linter.all false
set_option Elab.async false
set_option maxRecDepth 100000
set_option maxHeartbeats 4000000
namespace Ue
open PySem PySem.Spec PyProof.Rows L2
section
variable {X : Cx} {k : Nat} {C p g a dx : Addr} {fs : List (Str × V)} {f : Str} {fd : FuncData} {ps : List Str} {sp : Sp} {e : Expr} {pos : Pos} {ta : TE}
end
def propM (c : Nat) (F : FM) (m : M) : M := fun env => (m env).bind fun d e => match d with
  | .obj c1 fs => if c1 = c then (match callS F [] [.d (.obj c1 fs)] e with | .ok v e' => .ok v e' | _ => .stk) else .stk
  | _ => .stk
section
variable {T : Tab} {W : WX} {X : Cx} {F : FM} {k c : Nat} {m : M} {e : Expr} {pos : Pos} {f : Str} {p g : Addr} {fd : FuncData} {ps : List Str} {env : Env}
@[simp] theorem propM_s : propM c F m env = (m env).bind fun d e => match d with
  | .obj c1 fs => if c1 = c then (match callS F [] [.d (.obj c1 fs)] e with | .ok v e' => .ok v e' | _ => .stk) else .stk
  | _ => .stk := (rfl)
end
end Ue
set_option linter.all false
set_option Elab.async false
set_option maxRecDepth 100000
set_option maxHeartbeats 4000000
namespace Ue
open PySem PySem.Spec PyProof.Rows L2
section
variable {X : Cx} {Z : CXT} {k n : Nat} {C g f : Addr} {fd : FuncData} {ps : List Str} {sp : Sp} {E : L2.St → XK} {nm : Str} {pos : Pos} {a b : Expr} {ta tb : TE} {op : Operator}
end
def immD : D → Bool | .int _ => true | .bl _ => true | .non => true | .str _ => true | _ => false
def opI (c : Nat) (F : FM) (ma mb : M) : M := fun env => (ma env).bind fun x e1 => (mb e1).bind fun y e2 => match x with
  | .obj c1 fs => if c1 = c ∧ immD y = true then callS F [] [.d (.obj c1 fs), .d y] e2 else .stk
  | _ => .stk
section
variable {T : Tab} {W : WX} {env : Env} {σ : L2.St} {P H : Hp} {X : Cx} {F : FM} {k c : Nat} {ma mb : M} {a b : Expr} {pos : Pos} {f : Addr} {fd : FuncData} {ps : List Str} {nm : Str} {op : Operator}
@[simp] theorem opI_s : opI c F ma mb env = (ma env).bind fun x e1 => (mb e1).bind fun y e2 => match x with
  | .obj c1 fs => if c1 = c ∧ immD y = true then callS F [] [.d (.obj c1 fs), .d y] e2 else .stk
  | _ => .stk := (rfl)
@[simp] theorem immD_i {i : Int} : immD (.int i) = true := (rfl)
@[simp] theorem immD_b {i : Bool} : immD (.bl i) = true := (rfl)
@[simp] theorem immD_n : immD .non = true := (rfl)
@[simp] theorem immD_s {i : Str} : immD (.str i) = true := (rfl)
end
end Ue
set_option linter.all false
set_option Elab.async false
set_option maxRecDepth 100000
set_option maxHeartbeats 4000000
namespace Ue
open PySem PySem.Spec PyProof.Rows L2
def Cl (X : Cx) (pins : List (Addr × Obj)) (D : Ends) (hds : List ExceptHandler) (w : WX) : Prop :=
  ∀ (B : Heap) (sI s : Shared) (a : Addr) (cls : Value) (d : Option Addr) (σ : L2.St) (H : Hp), Caught X pins B sI s a cls d σ H → w cls d σ H → wpAny (model X.prog X.w) X.A (handleBy (.ref a) X.env hds) (SP X pins D) X.xe s
section
variable {X : Cx} {pins : List (Addr × Obj)} {B : Heap} {sI s : Shared} {a : Addr} {cls : Value} {d : Option Addr} {σ : L2.St} {H : Hp} {D : Ends} {w : WX}
theorem Caught.moved {h : Heap} (C : Caught X pins B sI s a cls d σ H) (f : HandSPX.FlyingZ B (X.env :: X.outer) a (Zc cls d) h) (u : s.heap.UpToSlots h) : Caught X pins B sI { s with heap := h } a cls d σ H :=
  ⟨C.inv, C.ground, C.up.trans u, f, C.new, C.os, C.bare⟩
theorem cl_nil (hs : X.stack = X.env :: X.outer) (hf : X.env.frame = some X.env.locals) (tk : Takes X w) : Cl X pins D [] w := fun B sI s a cls d σ H C hw => by
  obtain ⟨_, _, _, oe, vs, t, _, _, g1, _, g2, g3, _⟩ := id C.fly
  have out : wpAny (model X.prog X.w) X.A (setFlight (.ref a) X.env.frame) (fun _ s1 => wpAny (model X.prog X.w) X.A (throw (.ref a) : Sem Flow) (SP X pins D) X.xe s1) X.xe s := by
    rw [hf]
    refine HandSPX.setFlight_upZ C.fly fun h1 held u => wpAny_throw (tk _ _ ⟨a, B, sI, pins, σ, H, cls, d, rfl, C.inv, C.ground, C.up.trans u, .inr (.inr ?_), C.new, C.os, C.bare, hw⟩)
    rw [hs]
    exact held
  refine wpAny_handleBy_nil ?_
  unfold PySem.passOn
  refine wpAny_bind (wpAny_field g1 g2 g3 ?_)
  rw [if_neg (by simp : ¬ ((Value.ref t == Value.none) = true))]
  first | exact wpAny_bind (wpAny_pure (wpAny_bind out)) | exact wpAny_bind out
def EndOf (X : Cx) (pins : List (Addr × Obj)) (D : Ends) (nm : Option Str) (pos : Pos) (r : Result) (s1 : Shared) : Prop := match r with
  | .ok f => (match nm with
    | none => SP X pins D f s1
    | some n => wpAny (model X.prog X.w) X.A (do bindName X.env n .none; unbindBehindTheSuite X.env n pos) (fun _ s2 => SP X pins D f s2) X.xe s1)
  | .error y => cameBackBy (model X.prog X.w) X.A X.env X.xe y s1
theorem cl_test (hf : X.env.frame = some X.env.locals) {x : Str} {c : Value} {nm : Option Str} {np pos : Pos} {b₀ : Stmt} {suite : List Stmt} {rest : List ExceptHandler} (hc : Names X x c) {b : Bool}
    (C : Caught X pins B sI s a cls d σ H) (hb : PySem.W.exmOne X.K cls c = some b)
    (no : b = false → wpAny (model X.prog X.w) X.A (handleBy (.ref a) X.env rest) (SP X pins D) X.xe s)
    (yes : b = true → codeAny (model X.prog X.w) (X.A.mark (some (.ref a))) (.handlers (.ref a) [.ExceptHandler none nm (b₀ :: suite) pos] X.env) (EndOf X pins D nm pos) s) :
    wpAny (model X.prog X.w) X.A (handleBy (.ref a) X.env (.ExceptHandler (some (.Name x np)) nm (b₀ :: suite) pos :: rest)) (SP X pins D) X.xe s := by
  obtain ⟨oe, vs, h1, h2, h3, S⟩ := C.obj hf
  have kind : PySem.W.Looks (model X.prog X.w) s.heap (typeOf (.ref a)) cls := fun A Q E t k q => wpAny_typeOf_ref (k _ _ h1) (by rw [h2.1]; exact q)
  have ask := PySem.W.exm_one (M := model X.prog X.w) C.safe.kIn kind hb
  refine wpAny_handleBy_cons (codeAny_handlers_test ?_) (fun q => nomatch q)
  have name : ∀ {Q E : Value → Shared → Prop}, Q c s → wpAny (model X.prog X.w) (X.A.mark (some (.ref a))) (eval (.Name x np) X.env) Q E s := fun q => by
    obtain ⟨hg, hn, hm | ⟨hm, hv, hq⟩⟩ := hc
    · exact ld_glob (X := X.suite a ((a, oe) :: (X.pn ++ pins))) S hg hm q hn
    · exact ld_blt (X := X.suite a ((a, oe) :: (X.pn ++ pins))) S hg hm hv q hq hn
  refine name (ask.here ?_)
  cases b with
  | false => exact no rfl
  | true => exact yes rfl
def goneE (i : Nat) (D : Ends) : Ends := { nx := fun σ' H' => D.nx (σ'.set i none) H', rt := D.rt, bk := fun σ' H' => D.bk (σ'.set i none) H', ct := fun σ' H' => D.ct (σ'.set i none) H' }
theorem cl_as {x n : Str} {c : Value} {i : Nat} {np pos : Pos} {b₀ : Stmt} {suite : List Stmt} {rest : List ExceptHandler} {ts : Addr → Value → Option Addr → TS} (hf : X.env.frame = some X.env.locals) (hN : X.N.Nodup) (hi : X.N[i]? = some n) (hln : X.env.kindOf n = some .local) (hc : Names X x c)
    (hsu : ∀ (a : Addr) (oe : Obj) (cls : Value) (d : Option Addr) (pn : List (Addr × Obj)), Zc cls d oe → (∃ vs, oe.data = .fields vs) → PSs (X.suite a ((a, oe) :: pn)) (b₀ :: suite) (ts a cls d))
    (hr : Cl X pins D rest w) : Cl X pins D (.ExceptHandler (some (.Name x np)) (some n) (b₀ :: suite) pos :: rest) (wAs X.K c i ts w D) := fun B sI s a cls d σ H C ⟨b, hb, hit, miss⟩ => by
  refine cl_test hf hc C hb (fun q => hr B sI s a cls d σ H C (miss q)) fun q => codeAny_handlers_suite_as (HandSPX.lands_againZ C.fly fun h1 f1 u1 => ?_)
  obtain ⟨oe, vs, g1, g2, g3, S⟩ := (C.moved f1 u1).obj hf
  refine store_ok (X := X.suite a ((a, oe) :: (X.pn ++ pins))) (v := .ref a) S hN hi (.inl hln) rfl (fun s2 S2 => ?_) (.inr hln)
  refine wpAny_mono ((hsu a oe cls d (X.pn ++ pins) g2 ⟨_, g3⟩).run [] s2 _ H (goneE i D) S2 (hit q a C.new)) (fun f s3 h3 => ?_) (fun _ _ z => z.elim)
  show wpAny (model X.prog X.w) X.A (do bindName X.env n .none; unbindBehindTheSuite X.env n pos) (fun _ s4 => SP X pins D f s4) X.xe s3
  cases f with
  | ret u =>
    obtain ⟨v, σ3, H3, S3, r3, e3⟩ := h3
    exact gone_ok (S3.unsuite C.inv.ok) hN hi hln fun s4 S4 => ⟨v, _, H3, S4, r3, e3⟩
  | _ =>
    obtain ⟨σ3, H3, S3, e3⟩ := h3
    exact gone_ok (S3.unsuite C.inv.ok) hN hi hln fun s4 S4 => ⟨_, H3, S4, e3⟩
theorem ps_try_cl {body : List Stmt} {h₀ : ExceptHandler} {hds : List ExceptHandler} {pos : Pos} {tb : WX → TS} {wc : Ends → WX} (hs : X.stack = X.env :: X.outer) (hf : X.env.frame = some X.env.locals)
    (hb : ∀ (W : WX) (pn : List (Addr × Obj)) (xe : Value → Shared → Prop), Takes (X.tr pn xe) W → PassesOwn (model X.prog X.w) X.A X.env xe → PSs (X.tr pn xe) body (tb W))
    (hc : ∀ pins D, Cl X pins D (h₀ :: hds) (wc D)) : PS X (.Try body (h₀ :: hds) [] [] pos) (fun D σ H => tb (wc D) D σ H) := by
  refine ⟨fun pins s σ H D I h => wpAny_Try_except ?_⟩
  have ok := I.ok
  refine wpAny_mono ((hb (wc D) (X.pn ++ pins) (fun e s1 => wpAny (model X.prog X.w) X.A (noteFrame e X.env) (fun _ s2 => wpAny (model X.prog X.w) X.A (setFlight e none) (fun _ s3 =>
    wpAny (model X.prog X.w) X.A (handleBy e X.env (h₀ :: hds)) (SP X pins D) X.xe s3) X.xe s2) X.xe s1) (fun u s1 q => ?_) PassesOwn.looking).run [] s σ H D (I.toTry _) h) (fun f s1 q => ?_) (fun _ _ q => q)
  · obtain ⟨a, B, sI, p1, σ1, H1, cls, d, rfl, J, g, up, sky, na, os, ag, hw⟩ := q
    have sky1 : Sky B (X.env :: X.outer) a (Zc cls d) X.env.locals s1.heap := hs ▸ sky
    exact Sky.land Zc.steady (by rw [ok.frames, hs]) hf sky1 fun h2 f2 u2 => hc pins D B sI { s1 with heap := h2 } a cls d σ1 H1 ⟨J.ofTry ok, g, up.trans u2, f2, na, os, ag⟩ hw
  · cases f with
    | next =>
      obtain ⟨σ1, H1, J, e⟩ := q
      exact wpAny_execs_nil ⟨σ1, H1, J.ofTry ok, e⟩
    | ret u =>
      obtain ⟨v, σ1, H1, J, r, e⟩ := q
      exact ⟨v, σ1, H1, J.ofTry ok, r, e⟩
    | _ =>
      obtain ⟨σ1, H1, J, e⟩ := q
      exact ⟨σ1, H1, J.ofTry ok, e⟩
end
end Ue
set_option linter.all false
set_option Elab.async false
set_option maxRecDepth 100000
set_option maxHeartbeats 4000000
namespace Ue
open PySem PySem.Spec L2
def hNil : HM := fun c fs e => .exc c fs e
def hAs (caught : Nat → Option Bool) (i : Nat) (suite : MS) (rest : HM) : HM := fun c fs e => match caught c with
  | some true => if noEx e ∧ i < e.length then dropE i (suite (e.set i (some (.ex c fs)))) else .stk
  | some false => rest c fs e
  | none => .stk
def hPl (caught : Nat → Option Bool) (suite : MS) (rest : HM) : HM := fun c fs e => match caught c with
  | some true => (match suite e with | .exc _ _ _ => .stk | r => r)
  | some false => rest c fs e
  | none => .stk
def tryC (body : MS) (h : HM) : MS := fun env => match body env with
  | .exc c fs e => h c fs e
  | r => r
section
variable {T : Tab} {W : WX} {kr : Kd} {pins : List Nat} {X : Cx} {pos : Pos} {i : Nat} {D : Ends} {w : WX} {rest : HM}
def HandD (T : Tab) (W : WX) (kr : Kd) (pins : List Nat) (D : Ends) (w : WX) (h : HM) : Prop :=
  ∀ (env : Env) (σ : L2.St) (P H : Hp) (c : Nat) (fs : List Ue.D) (dd : Option Addr), Rel T env σ P H → ExRep T P c fs (.ref (T.excA c)) dd → AfterS T W kr pins env σ P H (h c fs env) D → w (.ref (T.excA c)) dd σ H
theorem hand_nil : HandD T W kr pins D W hNil := fun env σ P H c fs dd R1 x h => h σ P H _ dd R1 (Fr.refl _ _ _ _) FrP.refl x
theorem hand_as {cv : Value} {caught : Nat → Option Bool} {ms : MS} (hT : T.nb = T) (hkr : kr = .pure ∨ kr = .fresh) (hpi : i ∉ pins) (hx : ∀ c b, caught c = some b → PySem.W.exmOne X.K (.ref (T.excA c)) cv = some b) (hr : HandD T W kr pins D w rest) :
    HandD T W kr pins D (wAs X.K cv i (fun a cls d => rdS { T with cur := some (a, d, cls) } W0 kr pins ms) w D) (hAs caught i ms rest) := fun env σ P H c fs dd R1 x h => by
  unfold hAs at h
  cases q : caught c with
  | none => rw [q] at h; exact h.elim
  | some b =>
    rw [q] at h
    refine ⟨b, hx c b q, fun hb a ha => ?_, fun hb => ?_⟩
    · subst hb
      simp only at h
      by_cases g : noEx env ∧ i < env.length
      · rw [if_pos g] at h
        obtain ⟨R2, F2⟩ := R1.putEx (T' := { T with cur := some (a, dd, .ref (T.excA c)) }) (c := c) (fs := fs) (a := a) g.1 rfl g.2 (fun a' d' cls' hc => by cases hc; exact ⟨rfl, ExRep.bn (T := { T with cur := some (a, dd, .ref (T.excA c)) }) x.toB⟩)
        refine ⟨_, P, R2, ?_⟩
        have back : ∀ {e3 : Env} {σ' : L2.St} {P' H' : Hp}, Rel { T with cur := some (a, dd, .ref (T.excA c)) } e3 σ' P' H' → Rel T e3 σ' P' H' := fun {e3 σ' P' H'} r => by
          have r2 : Rel T.nb e3 σ' P' H' := r.nb
          rw [hT] at r2; exact r2
        have gone : ∀ {e3 : Env} {σ' : L2.St} {P' H' : Hp}, Rel { T with cur := some (a, dd, .ref (T.excA c)) } e3 σ' P' H' → Fr (env.set i (some (.ex c fs))) (σ.set i (some (.ref a))) P H e3 σ' P' H' → FrP pins (σ.set i (some (.ref a))) σ' →
            Rel T (e3.set i none) (σ'.set i none) P' H' ∧ Fr env σ P H (e3.set i none) (σ'.set i none) P' H' ∧ FrP pins σ (σ'.set i none) := fun {e3 σ' P' H'} R3 F3 p3 => by
          obtain ⟨R4, F4⟩ := (back R3).drop (i := i) (σ' := σ'.set i none) List.length_set fun j hj => List.getElem?_set_ne (fun z => hj z.symm)
          exact ⟨R4, (F2.trans F3).trans F4, ((FrP.set hpi).trans p3).trans (FrP.set hpi)⟩
        cases e2 : ms (env.set i (some (.ex c fs))) with
        | nx e3 => rw [e2] at h; exact fun σ' P' H' R3 F3 p3 => h _ P' H' (gone R3 F3 p3).1 (gone R3 F3 p3).2.1 (gone R3 F3 p3).2.2
        | brk e3 => rw [e2] at h; exact fun σ' P' H' R3 F3 p3 => h _ P' H' (gone R3 F3 p3).1 (gone R3 F3 p3).2.1 (gone R3 F3 p3).2.2
        | cnt e3 => rw [e2] at h; exact fun σ' P' H' R3 F3 p3 => h _ P' H' (gone R3 F3 p3).1 (gone R3 F3 p3).2.1 (gone R3 F3 p3).2.2
        | ret d e3 =>
          rw [e2] at h
          intro σ' P' H' y R3 F3 p3 ky ny
          obtain ⟨R4, F4⟩ := (back R3).drop (i := i) (σ' := σ') rfl (fun _ _ => rfl)
          refine h σ' P' H' y R4 ((F2.trans F3).trans F4) ((FrP.set hpi).trans p3) ?_ ?_
          · rcases hkr with rfl | rfl
            · have k2 : Rep { T with cur := some (a, dd, .ref (T.excA c)) } P' d y := ky
              have k3 := (rep_nb d y).mpr k2
              exact (rep_nb (T := T) d y).mp k3
            · obtain ⟨b, ws, ds, q1, q2, q3, q4, q5, q6⟩ := ky
              have k3 := (reps_nb ds ws).mpr q5
              exact ⟨b, ws, ds, q1, q2, q3, F4.own b (by rw [q2]; exact fun z => nomatch z) q4, (reps_nb (T := T) ds ws).mp k3, q6⟩
          · rcases hkr with rfl | rfl
            · trivial
            · obtain ⟨b, eb, hb⟩ := ny
              refine ⟨b, eb, ?_⟩
              rcases hb with hb | hb
              · exact .inl hb
              · by_cases z : H b = none
                · exact .inl z
                · exact .inr (Classical.byContradiction fun w => F2.own b z w hb)
        | exc _ _ _ => rw [e2] at h; exact h.elim
        | stk => rw [e2] at h; exact h.elim
      · rw [if_neg g] at h; exact h.elim
    · subst hb
      exact hr env σ P H c fs dd R1 x h
def ClD (T : Tab) (W : WX) (kr : Kd) (pins : List Nat) (X : Cx) (hds : List ExceptHandler) (h : HM) : Prop :=
  ∃ wc : Ends → WX, (∀ pn D, Cl X pn D hds (wc D)) ∧ ∀ D, HandD T W kr pins D (wc D) h
theorem clD_nil (hs : X.stack = X.env :: X.outer) (hf : X.env.frame = some X.env.locals) (tk : Takes X W) : ClD T W kr pins X [] hNil := ⟨fun _ => W, fun _ _ => cl_nil hs hf tk, fun _ => hand_nil⟩
theorem clD_as {x n : Str} {cv : Value} {np pos : Pos} {b₀ : Stmt} {suite : List Stmt} {hds : List ExceptHandler} {h : HM} {caught : Nat → Option Bool} {ms : MS} (hT : T.nb = T) (hkr : kr = .pure ∨ kr = .fresh) (hf : X.env.frame = some X.env.locals) (hN : X.N.Nodup) (hi : X.N[i]? = some n) (hln : X.env.kindOf n = some .local)
    (hc : Names X x cv) (hpi : i ∉ pins) (hx : ∀ c b, caught c = some b → PySem.W.exmOne X.K (.ref (T.excA c)) cv = some b)
    (hsu : ∀ (a : Addr) (oe : Obj) (cls : Value) (d : Option Addr) (pn : List (Addr × Obj)), Zc cls d oe → (∃ vs, oe.data = .fields vs) → DSs { T with cur := some (a, d, cls) } W0 kr pins (X.suite a ((a, oe) :: pn)) (b₀ :: suite) ms)
    (r : ClD T W kr pins X hds h) : ClD T W kr pins X (.ExceptHandler (some (.Name x np)) (some n) (b₀ :: suite) pos :: hds) (hAs caught i ms h) := by
  obtain ⟨wc, r1, r2⟩ := r
  exact ⟨fun D => wAs X.K cv i (fun a cls d => rdS { T with cur := some (a, d, cls) } W0 kr pins ms) (wc D) D, fun pn D => cl_as (ts := fun a cls d => rdS { T with cur := some (a, d, cls) } W0 kr pins ms) hf hN hi hln hc (fun a oe cls d pn h1 h2 => hsu a oe cls d pn h1 h2) (r1 pn D), fun D => hand_as hT hkr hpi hx (r2 D)⟩
theorem ds_tryC {body : List Stmt} {h₀ : ExceptHandler} {hds : List ExceptHandler} {mb : MS} {h : HM} (hs : X.stack = X.env :: X.outer) (hf : X.env.frame = some X.env.locals)
    (hb : ∀ (W' : WX) (pn : List (Addr × Obj)) (xe : Value → Shared → Prop), Takes (X.tr pn xe) W' → PassesOwn (model X.prog X.w) X.A X.env xe → DSs T W' kr pins (X.tr pn xe) body mb)
    (r : ClD T W kr pins X (h₀ :: hds) h) : DS T W kr pins X (.Try body (h₀ :: hds) [] [] pos) (tryC mb h) := by
  obtain ⟨wc, hc, hd⟩ := r
  refine ps_imp (ps_try_cl hs hf (fun W' pn xe t p => hb W' pn xe t p) hc) fun D σ H h0 => ?_
  obtain ⟨env, P, RR, h0⟩ := h0
  refine ⟨env, P, RR, ?_⟩
  unfold tryC at h0
  cases e : mb env with
  | exc c fs e1 =>
    rw [e] at h0
    intro σ1 P1 H1 cls dd R1 F1 p1 x1
    have x0 := x1
    obtain ⟨rfl, _⟩ := x1
    exact hd D e1 σ1 P1 H1 c fs dd R1 x0 (AfterS.step h0 F1 p1)
  | _ => rw [e] at h0; exact h0
end
def SR.caC (r : SR) (h : HM) : SR := match r with | .exc c fs e => h c fs e | r => r
section
variable {e : Env} {d : D} {c : Nat} {fs : List D} {h : HM}
@[simp] theorem tryC_s {s : MS} {env : Env} : tryC s h env = (s env).caC h := (rfl)
@[simp] theorem caC_nx : (SR.nx e).caC h = .nx e := (rfl)
@[simp] theorem caC_ret : (SR.ret d e).caC h = .ret d e := (rfl)
@[simp] theorem caC_exc : (SR.exc c fs e).caC h = h c fs e := (rfl)
@[simp] theorem hNil_s : hNil c fs e = .exc c fs e := (rfl)
@[simp] theorem hAs_s {caught : Nat → Option Bool} {i : Nat} {s : MS} {rest : HM} : hAs caught i s rest c fs e = match caught c with
  | some true => if noEx e ∧ i < e.length then dropE i (s (e.set i (some (.ex c fs)))) else .stk
  | some false => rest c fs e
  | none => .stk := (rfl)
@[simp] theorem hPl_s {caught : Nat → Option Bool} {s : MS} {rest : HM} : hPl caught s rest c fs e = match caught c with
  | some true => (match s e with | .exc _ _ _ => .stk | r => r)
  | some false => rest c fs e
  | none => .stk := (rfl)
end
end Ue
set_option linter.all false
set_option Elab.async false
set_option maxRecDepth 100000
set_option maxHeartbeats 4000000
namespace L2
open PySem PySem.Spec PyProof.Rows
section
variable {X : Cx}
end
end L2
namespace Ue
open PySem PySem.Spec PyProof.Rows L2
def minDM (m : M) : M := fun env => (m env).bind fun d e => match d with
  | .lst ds => (match dInts ds with | some [] => .ok .non e | some (n :: ns) => .ok (.int (minOf (n :: ns))) e | none => .stk)
  | _ => .stk
section
variable {T : Tab} {W : WX} {X : Cx} {k : Nat} {ke : Kd} {m : M} {e : Expr} {p pos kp q : Pos} {j : Nat}
end
@[simp] theorem minDM_s {m : M} {env : Env} : minDM m env = (m env).bind fun d e => match d with
  | .lst ds => (match dInts ds with | some [] => .ok .non e | some (n :: ns) => .ok (.int (minOf (n :: ns))) e | none => .stk)
  | _ => .stk := (rfl)
end Ue
set_option linter.all false
set_option Elab.async false
set_option maxRecDepth 100000
set_option maxHeartbeats 4000000
namespace Ue
open PySem PySem.Spec PyProof.Rows L2
section
variable {prog : Program} {w : World} {A : Around} {E : Value → Shared → Prop} {s : Shared} {K : PySem.W.Frag} {a C dx f : Addr} {us : List Value} {Q : Value → Shared → Prop} {od : Option Obj}
end
section
variable {X : Cx} {Z : CXT} {k : Nat} {C f : Addr} {fd : FuncData} {ps : List Str} {ds : List Value} {dvs : List V} {sp : Sp} {E : L2.St → XK} {x : Str} {p pos : Pos} {e : Expr} {es : List Expr} {ta : TE} {t : TA}
end
section
variable {T : Tab} {W : WX} {kr : Kd} {X : Cx} {σ : L2.St} {H : Hp} {Q : VK} {c n k : Nat} {F : FM} {mo : M} {ags : List Ag} {dfl : List D} {dvs : List V} {ds : List Value} {f : Addr} {fd : FuncData} {ps : List Str} {x : Str} {p pos : Pos} {e : Expr} {es : List Expr}
end
end Ue
set_option linter.all false
set_option Elab.async false
set_option maxRecDepth 100000
set_option maxHeartbeats 4000000
namespace PySem
open Sem (wp)
end PySem
namespace Ue
open PySem PySem.Spec PyProof.Rows L2
section
variable {X : Cx} {Z : CXT} {k : Nat} {C f : Addr} {fd : FuncData} {ps : List Str} {E : L2.St → XK}
end
end Ue
set_option linter.all false
set_option Elab.async false
set_option maxRecDepth 100000
set_option maxHeartbeats 4000000
namespace Ue
open PySem PySem.Spec PyProof.Rows L2
def pickI (m : M) (a b : MI) : MI := fun env => match m env with | .ok (.obj _ _) _ => a env | _ => b env
def enumO (c j : Nat) (m : M) : MI := fun env => (m env).bind fun d e => match d with
  | .obj c1 fs => if c1 = c then (match fs[j]? with | some (.tup ds) => .ok (enumL ds) e | _ => .stk) else .stk
  | _ => .stk
section
variable {T : Tab} {W : WX} {X : Cx} {σ : L2.St} {H : Hp} {c j k : Nat} {m : M} {a b : MI} {e tg : Expr} {f : Addr} {fd : FuncData} {ps : List Str} {fl : Str} {p pos tpos : Pos} {elts : List Expr} {kk : Nat}
@[simp] theorem enumO_s {env : Env} : enumO c j m env = (m env).bind fun d e => match d with
  | .obj c1 fs => if c1 = c then (match fs[j]? with | some (.tup ds) => .ok (enumL ds) e | _ => .stk) else .stk
  | _ => .stk := (rfl)
@[simp] theorem pickI_s {env : Env} : pickI m a b env = match m env with | .ok (.obj _ _) _ => a env | _ => b env := (rfl)
end
end Ue
set_option linter.all false
set_option Elab.async false
set_option maxRecDepth 100000
set_option maxHeartbeats 4000000
namespace Ue
open PySem PySem.Spec PyProof.Rows L2
section
variable {X : Cx}
def rIndexT (K : PySem.W.Frag) : V → List V → Hp → VK → Prop := fun x xs H Q => ∃ (a : Addr) (ys : List V) (y : V) (j : Nat), x = V.ref a ∧ xs = [y] ∧ SqT K H a ys ∧ flatV y = true ∧ ys.all flatV = true ∧ (∃ h : j < ys.length, eqV ys[j] y = true) ∧ (∀ (m : Nat) (h : m < ys.length), m < j → eqV ys[m] y = false) ∧ Q (.int (j : Nat)) H
theorem mt_indexT : MtR X "tuple.index" (rIndexT X.K) := by
  rintro pins s σ H x xs v us Q I rx rxs ⟨a, ys, y, j, rfl, rfl, hq, fy, fys, ⟨hj, hit⟩, hno, q⟩
  obtain ⟨u, rfl, ry⟩ := rxs.one
  obtain rfl : v = Value.ref a := rx
  obtain ⟨its, rv, ⟨⟨c, dd, dt, sl⟩, ho, hc, n, hd⟩, hz⟩ := I.tuple hq
  cases hc
  cases hd
  have len : its.toArray.size = ys.length := by rw [List.size_toArray]; exact rv.length.symm
  have same : ∀ (m : Nat) (h : m < its.toArray.size), eqU y its.toArray[m] = eqV (ys[m]'(by omega)) y := fun m h => by
    have hm : m < ys.length := by omega
    obtain ⟨u2, h2, r2⟩ := rv.get (List.getElem?_eq_getElem hm)
    have e : its.toArray[m] = u2 := by
      rw [List.getElem?_eq_getElem (by simpa using h)] at h2
      simpa using h2
    rw [e]
    exact eqU_of r2 (flat_at fys (List.getElem?_eq_getElem hm))
  refine call_meets PySem.F.slot_tuple_index ⟨_, ho, rfl⟩ PySem.F.entry_tuple_index (PySem.F.args_tuple_index_2 _ _) (TI.tuple_indexAt a its.toArray n dd sl u (eqU y) j (by omega) ?_ fun m h hm => ?_)
    ⟨ho, fun u' hu' => mem_eqAt ry fy rv fys u' (by simpa using hu'), .int (j : Nat), H, I.tok _, ⟨_, rfl⟩, q⟩
  · rw [same j (by omega)]; exact hit
  · rw [same m h]; exact hno m (by omega) hm
end
def dStrs : List D → Option (List Str)
  | [] => some []
  | .str s :: ds => (dStrs ds).map (s :: ·)
  | _ :: _ => none
theorem dStrs_ok : ∀ {ds : List D} {ns : List Str}, dStrs ds = some ns → ds = ns.map D.str
  | [], ns, h => by cases h; rfl
  | d :: ds, ns, h => by
    cases d with
    | str s =>
      unfold dStrs at h
      cases e : dStrs ds with
      | none => rw [e] at h; cases h
      | some r => rw [e] at h; cases h; rw [dStrs_ok e]; rfl
    | _ => cases h
theorem strs_of : ∀ ns : List Str, dStrs (ns.map D.str) = some ns
  | [] => rfl
  | s :: ns => by show (dStrs (ns.map D.str)).map (s :: ·) = _; rw [strs_of ns]; rfl
theorem Reps.strs {T : Tab} {P : Hp} : ∀ (ns : List Str) {vs : List V}, Reps T P (ns.map D.str) vs → vs = ns.map V.str
  | [], vs, h => by rw [List.map_nil, Reps] at h; exact h
  | n :: ns, vs, h => by
    rw [List.map_cons, Reps] at h
    obtain ⟨v, r, rfl, h1, h2⟩ := h
    rw [Rep] at h1
    rw [h1, Reps.strs ns h2, List.map_cons]
def idxD (ds : List D) (y : D) : Option D := match y with
  | .int n => (dInts ds).bind fun ns => (ns.findIdx? (· == n)).map fun j => .int (j : Int)
  | .str n => (dStrs ds).bind fun ns => (ns.findIdx? (· == n)).map fun j => .int (j : Int)
  | .bl n => (dBls ds).bind fun ns => (ns.findIdx? (· == n)).map fun j => .int (j : Int)
  | _ => none
theorem first_of {α : Type} {f : α → V} {ns : List α} {p : α → Bool} {y : V} {j : Nat} (hf : ∀ a, flatV (f a) = true) (hp : ∀ a, eqV (f a) y = p a) (h : ns.findIdx? p = some j) :
    (ns.map f).all flatV = true ∧ (∃ h : j < (ns.map f).length, eqV (ns.map f)[j] y = true) ∧ ∀ (m : Nat) (h : m < (ns.map f).length), m < j → eqV (ns.map f)[m] y = false := by
  rw [List.findIdx?_eq_some_iff_getElem] at h
  obtain ⟨h1, h2, h3⟩ := h
  refine ⟨by rw [List.all_map]; exact List.all_eq_true.mpr fun a _ => hf a, ⟨by rw [List.length_map]; exact h1, ?_⟩, fun m hm hj => ?_⟩
  · rw [List.getElem_map, hp]; exact h2
  · rw [List.getElem_map, hp]
    have := h3 m hj
    simpa using this
def FirstV (vs : List V) (v : V) (j : Nat) : Prop := flatV v = true ∧ vs.all flatV = true ∧ (∃ h : j < vs.length, eqV vs[j] v = true) ∧ ∀ (m : Nat) (h : m < vs.length), m < j → eqV vs[m] v = false
theorem first_d {α : Type} {f : α → V} {ns : List α} {p : α → Bool} {v : V} {vs : List V} {d : D} (e : vs = ns.map f) (fv : flatV v = true) (hf : ∀ a, flatV (f a) = true) (hp : ∀ a, eqV (f a) v = p a) (h : ((ns.findIdx? p).map fun j => D.int (j : Int)) = some d) : ∃ j : Nat, d = .int (j : Int) ∧ FirstV vs v j := by
  cases q : ns.findIdx? p with
  | none => rw [q] at h; cases h
  | some j =>
    rw [q] at h
    cases h
    subst e
    exact ⟨j, rfl, fv, first_of hf hp q⟩
theorem idxD_v {T : Tab} {P : Hp} {ds : List D} {vs : List V} {y d : D} {v : V} (h : idxD ds y = some d) (r : Reps T P ds vs) (ry : Rep T P y v) : ∃ j : Nat, d = .int (j : Int) ∧ FirstV vs v j := by
  cases y with
  | int n =>
    rw [Rep] at ry; subst ry
    unfold idxD at h
    cases q : dInts ds with
    | none => simp only [q] at h; cases h
    | some ns =>
      simp only [q] at h
      have := dInts_ok q
      subst this
      exact first_d (Reps.ints ns r) rfl (fun _ => rfl) (fun _ => rfl) h
  | str n =>
    rw [Rep] at ry; subst ry
    unfold idxD at h
    cases q : dStrs ds with
    | none => simp only [q] at h; cases h
    | some ns =>
      simp only [q] at h
      have := dStrs_ok q
      subst this
      exact first_d (Reps.strs ns r) rfl (fun _ => rfl) (fun _ => rfl) h
  | bl n =>
    rw [Rep] at ry; subst ry
    unfold idxD at h
    cases q : dBls ds with
    | none => simp only [q] at h; cases h
    | some ns =>
      simp only [q] at h
      have := bls_ok q
      subst this
      exact first_d (Reps.bls ns r) rfl (fun _ => rfl) (fun _ => rfl) h
  | _ => cases h
def idxLM (mo m : M) : M := fun env => (mo env).bind fun d e1 => match d with | .lst ds => (m e1).bind fun y e2 => liftO (idxD ds y) e2 | _ => .stk
def idxTM (ms : List M) (m : M) : M := fun env => (argsM ms env).bind fun ds e1 => if ds.length ≤ sizeLine then (m e1).bind fun y e2 => liftO (idxD ds y) e2 else .stk
section
variable {T : Tab} {W : WX} {X : Cx} {ka : Kd} {ks : List Kd} {mo m : M} {ms : List M} {o e : Expr} {os : List Expr} {apos cpos pos : Pos} {kk : Nat}
theorem de_idxL (hK : X.K = T.K) (ho : DE T W X o ka mo) (he : DE T W X e .pure m) (hst : Steady ka m := by trivial)
    (hbase : attributeBase o "index" X.env (eval o X.env) = eval o X.env := by rfl)
    (hfew : ((backTo cpos (starEach [e] X.env)).all (fun x => !x.1) && (backToKw cpos (keywordEach [] X.env)).all (fun x => x.1.isSome)
      && decide ([e].length + ([] : List Keyword).length + (if ([] : List Keyword).isEmpty then 0 else 1) < 30)) = true := by rfl)
    (hline : (apos.endLine == cpos.line) = true := by rfl) (hs : starEach [e] X.env = (false, eval e X.env) :: starEach [] X.env := by rfl) (hplain : (backTo cpos (starEach [] X.env)).any (·.1) = false := by rfl) :
    DE T W X (.Call (.Attribute o "index" apos) [e] [] cpos) .pure (idxLM mo m) := by
  refine pe_imp (pe_bm PySem.F.plainAttrs_list PySem.F.slot_list_index PySem.F.type_list_index mt_index ho (pa_cons he pa_nil hs) hbase hfew hline hs hplain) fun σ H Q h => ?_
  obtain ⟨env, P, RR, h⟩ := h
  refine ⟨env, P, RR, After.mono h.bind fun d env1 P1 H1 R1 F1 h1 x kx nx => ?_⟩
  cases d with
  | lst ds =>
    obtain ⟨a, vs, rfl, q1, q2⟩ := (kx.rdb R1).lstE R1.sub
    refine ⟨.inl ⟨rfl, vs, .inl q1⟩, env1, P1, R1, After.at h1.bind fun y env2 P2 H2 e2 R2 F2 h2 z kz nz => ?_⟩
    obtain ⟨b, ws, eb, w1, w2⟩ := ((kx.carry F2 (hst.use e2)).rdb R2).lstE R2.sub
    cases eb
    cases q : idxD ds y with
    | none => rw [q] at h2; exact h2.elim
    | some d =>
      rw [q] at h2
      obtain ⟨j, rfl, f1, f2, ⟨hj, f3⟩, f4⟩ := idxD_v q w2 kz
      refine ⟨a, ws, z, j, ws[j], rfl, rfl, .inl w1, f1, f2, List.getElem?_eq_getElem hj, f3, fun i z' hi e => ?_, h2.here R2 (Fr.refl _ _ _ _) _ (show Rep T P2 (.int _) (.int _) from rep_int) trivial⟩
      obtain ⟨hi2, rfl⟩ := List.getElem?_eq_some_iff.mp e
      exact f4 i hi2 hi
  | _ => exact h1.elim
theorem After.step {α : Type} {σ : L2.St} {env : Env} {P H P' H' : Hp} {r : R α} {Q : α → Env → Hp → Hp → Prop} (h : After T W σ env P H r Q) (F1 : Fr env σ P H env σ P' H') : After T W σ env P' H' r Q := by
  cases r with
  | ok a e => exact fun P2 H2 R2 F2 => h P2 H2 R2 (F1.trans F2)
  | exc c fs e => exact fun P2 H2 cls dd R2 F2 x => h P2 H2 cls dd R2 (F1.trans F2) x
  | stk => exact h
@[simp] theorem idxLM_s {env : Env} : idxLM mo m env = (mo env).bind fun d e1 => match d with | .lst ds => (m e1).bind fun y e2 => liftO (idxD ds y) e2 | _ => .stk := (rfl)
@[simp] theorem idxTM_s {env : Env} : idxTM ms m env = (argsM ms env).bind fun ds e1 => if ds.length ≤ sizeLine then (m e1).bind fun y e2 => liftO (idxD ds y) e2 else .stk := (rfl)
end
end Ue
set_option linter.all false
set_option Elab.async false
set_option maxRecDepth 100000
set_option maxHeartbeats 4000000
namespace Ue
open PySem PySem.Spec PyProof.Rows L2
def insG (ds es : List D) : Option (D × List D) := match es with
  | [.int i, d] => if ds.length < sizeLine ∧ 0 ≤ i ∧ i < 2 ^ 63 then some (.non, ds.take i.toNat ++ [d] ++ ds.drop i.toNat) else none
  | _ => none
@[simp] theorem insG_s {ds : List D} {i : Int} {d : D} : insG ds [.int i, d] = if ds.length < sizeLine ∧ 0 ≤ i ∧ i < 2 ^ 63 then some (.non, ds.take i.toNat ++ [d] ++ ds.drop i.toNat) else none := (rfl)
end Ue
set_option linter.all false
set_option Elab.async false
set_option maxRecDepth 100000
set_option maxHeartbeats 4000000
namespace Ue
open PySem PySem.Spec PyProof.Rows L2
section
variable {X : Cx} {e st : Expr} {te : TE} {pos p2 : Pos}
end
def revM (m : M) : M := fun env => (m env).bind fun d e => match d with | .lst ds => .ok (.lst ds.reverse) e | _ => .stk
section
variable {T : Tab} {W : WX} {X : Cx} {k : Kd} {m : M} {e : Expr} {pos p2 q q2 : Pos} {j : Nat}
@[simp] theorem revM_s {env : Env} : revM m env = (m env).bind fun d e => match d with | .lst ds => .ok (.lst ds.reverse) e | _ => .stk := (rfl)
end
end Ue
set_option linter.all false
set_option Elab.async false
set_option maxRecDepth 100000
set_option maxHeartbeats 4000000
namespace Ue
open PySem PySem.Spec PyProof.Rows L2
def noSl (ss : List AD) : Bool := ss.all fun a => match a with | .d _ => true | .s _ => false
def fnNM (F : FM) (m : M) (ags : List Ag) (dfl : List D) : M := fun env => (m env).bind fun d e1 => match d with
  | .lst ds => (argG ags e1).bind fun ss e2 => (match resA ss e2 with
    | some as => if noSl ss then (match F (.own ds :: (as ++ dfl.map EV.v)) with | .ok d _ => .ok d e2 | .exc c fs _ => .exc c fs e2 | .stk => .stk) else .stk
    | none => .stk)
  | _ => .stk
section
variable {T : Tab} {W : WX} {kr : Kd} {env env' : Env} {σ : L2.St} {P H P' H' : Hp} {a : Addr} {x : EV}
theorem Rel.snoc {vs : List V} {ds : List D} (R1 : Rel T env σ P H) (ha : H a = some (.lst vs)) (hp : P a = none) (no : ¬ Own env σ H a) (r : Reps T P ds vs) : Rel T (env ++ [some (.own ds)]) (σ ++ [some (.ref a)]) P H := by
  have key : ∀ (i : Nat) (e : EV), (env ++ [some (.own ds)])[i]? = some (some e) → (env[i]? = some (some e) ∧ (σ ++ [some (V.ref a)])[i]? = σ[i]?) ∨ (i = env.length ∧ e = .own ds ∧ (σ ++ [some (V.ref a)])[i]? = some (some (V.ref a))) := fun i e h => by
    rcases Nat.lt_or_ge i env.length with q | q
    · rw [List.getElem?_append_left q] at h
      exact .inl ⟨h, List.getElem?_append_left (by rw [← R1.len]; exact q)⟩
    · rw [List.getElem?_append_right q] at h
      have h0 : i - env.length = 0 := by
        rcases Nat.eq_zero_or_pos (i - env.length) with z | z
        · exact z
        · rw [List.getElem?_eq_none (by simp; omega)] at h; cases h
      rw [h0] at h
      cases h
      refine .inr ⟨by omega, rfl, ?_⟩
      rw [List.getElem?_append_right (by rw [← R1.len]; exact q), ← R1.len, h0]; rfl
  refine ⟨R1.sub, fun i e h => ?_, fun i j e f x y b n h1 h2 o1 o2 s1 s2 t1 t2 => ?_, by simp [R1.len]⟩
  · rcases key i e h with ⟨h1, h2⟩ | ⟨_, rfl, h2⟩
    · rw [h2]; exact R1.ent i e h1
    · exact ⟨_, h2, a, vs, rfl, ha, hp, r⟩
  · rcases key i e h1 with ⟨g1, g2⟩ | ⟨g0, rfl, g2⟩
    · rcases key j f h2 with ⟨g3, g4⟩ | ⟨_, rfl, g4⟩
      · rw [g2] at s1; rw [g4] at s2
        exact R1.dis i j e f x y b n g1 g3 o1 o2 s1 s2 t1 t2
      · rw [g2] at s1; rw [g4] at s2; cases s2
        cases t2.own
        exact no ⟨i, e, x, g1, o1, s1, t1⟩
    · rcases key j f h2 with ⟨g3, g4⟩ | ⟨g5, rfl, g4⟩
      · rw [g2] at s1; rw [g4] at s2; cases s1
        cases t1.own
        exact no ⟨j, f, y, g3, o2, s2, t2⟩
      · omega
theorem Rel.init {y : Option EV} {v : Option V} (hl : env.length = σ.length) (R1 : Rel T (env ++ [y]) (σ ++ [v]) P H) : Rel T env σ P H := by
  have lt : ∀ {i : Nat} {e : EV}, env[i]? = some (some e) → i < env.length := fun {i e} h => by
    rcases Nat.lt_or_ge i env.length with q | q
    · exact q
    · rw [List.getElem?_eq_none q] at h; cases h
  have up : ∀ {i : Nat} {e : EV}, env[i]? = some (some e) → (env ++ [y])[i]? = some (some e) ∧ (σ ++ [v])[i]? = σ[i]? := fun {i e} h => ⟨by rw [List.getElem?_append_left (lt h)]; exact h, List.getElem?_append_left (by have := lt h; omega)⟩
  refine ⟨R1.sub, fun i e h => ?_, fun i j e f x y b n h1 h2 o1 o2 s1 s2 t1 t2 => ?_, hl⟩
  · obtain ⟨w, h3, h4⟩ := R1.ent i e (up h).1
    exact ⟨w, by rw [← (up h).2]; exact h3, h4⟩
  · exact R1.dis i j e f x y b n (up h1).1 (up h2).1 o1 o2 (by rw [(up h1).2]; exact s1) (by rw [(up h2).2]; exact s2) t1 t2
end
def CRes.goN (r : CRes) (e : Env) : R D := match r with | .ok d _ => .ok d e | .exc c fs _ => .exc c fs e | .stk => .stk
section
variable {F : FM} {m : M} {ags : List Ag} {dfl : List D} {env e : Env} {d x : D} {c : Nat} {fs : List D} {as : List EV} {ss : List AD}
@[simp] theorem goN_ok : (CRes.ok d as).goN e = .ok d e := (rfl)
@[simp] theorem goN_exc : (CRes.exc c fs as).goN e = .exc c fs e := (rfl)
@[simp] theorem noSl_n : noSl [] = true := (rfl)
@[simp] theorem noSl_d : noSl (.d x :: ss) = noSl ss := by simp [noSl]
@[simp] theorem fnNM_s : fnNM F m ags dfl env = (m env).bind fun d e1 => match d with
  | .lst ds => (argG ags e1).bind fun ss e2 => (match resA ss e2 with
    | some as => if noSl ss then (F (.own ds :: (as ++ dfl.map EV.v))).goN e2 else .stk
    | none => .stk)
  | _ => .stk := (rfl)
end
end Ue
set_option linter.all false
set_option Elab.async false
set_option maxRecDepth 100000
set_option maxHeartbeats 4000000
namespace Ue
open PySem PySem.Spec PyProof.Rows L2
def inStr (x y : D) : Option Bool := match x, y with | .str i, .str j => some (!(Builtin.Str.occurrences j i 0 j.length 1).isEmpty) | _, _ => none
def notInStr (x y : D) : Option Bool := (inStr x y).map (!·)
section
variable {T : Tab} {W : WX} {X : Cx} {P H : Hp} {m : M} {e tg : Expr}
theorem inStr_some {x y : D} {b : Bool} (h : inStr x y = some b) : ∃ i j, x = .str i ∧ y = .str j ∧ b = !(Builtin.Str.occurrences j i 0 j.length 1).isEmpty := by
  cases x with
  | str i => cases y with
    | str j => cases h; exact ⟨i, j, rfl, rfl, rfl⟩
    | _ => cases h
  | _ => cases y <;> cases h
theorem cd_notInStr : CmpD T (fun x y H Q => ∃ i j, x = .str i ∧ y = .str j ∧ Q (.bl (!(!(Builtin.Str.occurrences j i 0 j.length 1).isEmpty))) H) notInStr := fun P H dx dy x y b Q R1 hx hy e q => by
  unfold notInStr at e
  cases z : inStr dx dy with
  | none => rw [z] at e; cases e
  | some c =>
    rw [z] at e
    cases e
    obtain ⟨i, j, rfl, rfl, rfl⟩ := inStr_some z
    exact ⟨i, j, hx.strE, hy.strE, q⟩
def signs (z : Str) : List D := z.cps.toList.map fun c => D.str ⟨#[c]⟩
def asStr (m : M) : MI := fun env => (m env).bind fun d e => match d with | .str z => .ok (signs z) e | _ => .stk
theorem yl_str {z : Str} : Yl T (Its z) P (signs z) := fun P1 H1 s1 s2 => by
  refine ⟨fun i d hd => ?_, fun i hi => (show z.cps.size ≤ i by simpa [signs] using hi)⟩
  unfold signs at hd
  rw [List.getElem?_map] at hd
  cases q : z.cps.toList[i]? with
  | none => rw [q] at hd; cases hd
  | some c =>
    rw [q] at hd
    cases hd
    have hi : i < z.cps.size := by
      rcases Nat.lt_or_ge i z.cps.size with w | w
      · exact w
      · rw [List.getElem?_eq_none (by simpa using w)] at q; cases q
    refine ⟨hi, fun x H' ⟨e1, c2, e2, e3⟩ => ⟨P1, ?_, .inl ⟨rfl, e1⟩⟩⟩
    have : c2 = c := by
      have q2 : z.cps[i]? = some c := by simpa using q
      rw [q2] at e2
      exact (Option.some.inj e2).symm
    rw [e3, this]
    exact rep_str
theorem di_str (h : DE T W X e .pure m) : DI T W X tg e (asStr m) := pi_imp (pi_str h) fun σ H Q h => by
  obtain ⟨env, P, RR, h⟩ := h
  refine ⟨env, P, RR, After.mono h.bind fun d env1 P1 H1 R1 F1 h1 x kx nx => ?_⟩
  cases d with
  | str z =>
    have kx : Rep T P1 (.str z) x := kx
    rw [Rep] at kx
    exact ⟨z, kx, h1.here R1 (Fr.refl _ _ _ _) _ yl_str⟩
  | _ => exact h1.elim
@[simp] theorem asStr_s {env : Env} : asStr m env = (m env).bind fun d e => match d with | .str z => .ok (signs z) e | _ => .stk := (rfl)
@[simp] theorem notInStr_s {x y : D} : notInStr x y = (inStr x y).map (!·) := (rfl)
end
end Ue
set_option linter.all false
set_option Elab.async false
set_option maxRecDepth 100000
set_option maxHeartbeats 4000000
namespace L2
open PySem PySem.Spec PyProof.Rows
section
variable {X : Cx}
end
end L2
namespace Ue
open PySem PySem.Spec PyProof.Rows L2
def insU (a : Int) : List Int → List Int
  | [] => [a]
  | b :: l => if a < b then a :: b :: l else if a = b then b :: l else b :: insU a l
def sortU (ns : List Int) : List Int := ns.foldr insU []
def sortSetM (m : M) : M := fun env => (m env).bind fun d e => match d with
  | .tup ds => (match dInts ds with | some ns => if ns.length < 60 then .ok (.lst ((sortU ns).map D.int)) e else .stk | none => .stk)
  | _ => .stk
def lenSetM (m : M) : M := fun env => (m env).bind fun d e => match d with
  | .lst ds => (match dInts ds with | some ns => if ns.length < 60 then .ok (.int ((sortU ns).length : Int)) e else .stk | none => .stk)
  | _ => .stk
section
variable {T : Tab} {W : WX} {X : Cx} {k : Kd} {m : M} {e : Expr} {p p2 q pos : Pos}
end
@[simp] theorem sortSetM_s {m : M} {env : Env} : sortSetM m env = (m env).bind fun d e => match d with
  | .tup ds => (match dInts ds with | some ns => if ns.length < 60 then .ok (.lst ((sortU ns).map D.int)) e else .stk | none => .stk)
  | _ => .stk := (rfl)
@[simp] theorem lenSetM_s {m : M} {env : Env} : lenSetM m env = (m env).bind fun d e => match d with
  | .lst ds => (match dInts ds with | some ns => if ns.length < 60 then .ok (.int ((sortU ns).length : Int)) e else .stk | none => .stk)
  | _ => .stk := (rfl)
end Ue
set_option linter.all false
set_option Elab.async false
set_option maxRecDepth 100000
set_option maxHeartbeats 4000000
namespace Ue
open PySem PySem.Spec PyProof.Rows L2
def pickS (i : Nat) (a b : MS) : MS := fun env => match env[i]? with | some (some (.own _)) => a env | _ => b env
section
variable {T : Tab} {W : WX} {kr : Kd} {pins : List Nat} {X : Cx} {st : List Stmt} {a b : MS} {i : Nat}
end
@[simp] theorem pickS_s {i : Nat} {a b : MS} {env : Ue.Env} : pickS i a b env = match env[i]? with | some (some (.own _)) => a env | _ => b env := (rfl)
end Ue
set_option linter.all false
set_option Elab.async false
set_option maxRecDepth 100000
set_option maxHeartbeats 4000000
namespace Ue
open PySem PySem.Spec PyProof.Rows L2
def kvsOf (ps : List (Int × Int)) : List (Key × V) := ps.map fun p => (Sum.inl p.1, V.int p.2)
def askI (ps : List (Int × Int)) (n : Int) : Option Int := match L2.valV (mergeK [] (kvsOf ps)) (Sum.inl n) with | some (.int v) => some v | _ => none
def dictIxM (ps : List (Int × Int)) (m : M) : M := fun env => (m env).bind fun d e => match d with
  | .int n => (match askI ps n with | some v => .ok (.int v) e | none => .stk)
  | _ => .stk
section
variable {T : Tab} {W : WX} {X : Cx} {m : M} {e : Expr} {pos q : Pos} {ps : List (Int × Int)} {keys : List (Option Expr)} {values : List Expr}
end
@[simp] theorem dictIxM_s {ps : List (Int × Int)} {m : M} {env : Ue.Env} : dictIxM ps m env = (m env).bind fun d e => match d with
  | .int n => (match askI ps n with | some v => .ok (.int v) e | none => .stk)
  | _ => .stk := (rfl)
end Ue
set_option linter.all false
set_option Elab.async false
set_option maxRecDepth 100000
set_option maxHeartbeats 4000000
namespace Ue
open PySem PySem.Spec PyProof.Rows L2
section
variable {P : Program} {w : World} {K : PySem.W.Frag} {mg : Str → Option Value} {base : Heap} {Z : CXT} {j k n : Nat} {f : Addr} {fd : FuncData} {ps N : List Str} {sp sp2 : Sp} {pv : Str}
end
def initV (n : Nat) (as : List EV) : Option (List EV) := match as.reverse with
  | .v _ :: rs => if rs.length = n then some rs.reverse else none
  | _ => none
def starF (G : FM) : FM := fun as => match G (as ++ [.v (.tup [])]) with
  | .ok d bs => (match initV as.length bs with | some cs => .ok d cs | none => .stk)
  | .exc c fs bs => (match initV as.length bs with | some cs => .exc c fs cs | none => .stk)
  | .stk => .stk
section
variable {T : Tab} {env : Ue.Env} {σ : L2.St} {P H : Hp} {d : D} {x : V}
end
section
variable {T : Tab} {N : List Str} {pins : List Nat} {prog : Program} {w : World} {K : PySem.W.Frag} {mg : Str → Option Value} {base : Heap} {f : Addr} {ps : List Str} {k n : Nat} {fr : Bool} {m : MS}
end
section
variable {X : Cx} {Z : CXT} {k n : Nat} {f : Addr} {sp : Sp} {x : Str} {p pos : Pos} {e : Expr} {es : List Expr} {t : TA} {pins : List (Addr × Obj)} {σ : L2.St} {H : Hp} {s : Shared} {Q : VK}
end
section
variable {T : Tab} {W : WX} {kr : Kd} {X : Cx} {pos : Pos} {e : Expr} {es : List Expr} {ags : List Ag}
end
@[simp] theorem starF_s {G : FM} {as : List EV} : starF G as = match G (as ++ [.v (.tup [])]) with
  | .ok d bs => (match initV as.length bs with | some cs => .ok d cs | none => .stk)
  | .exc c fs bs => (match initV as.length bs with | some cs => .exc c fs cs | none => .stk)
  | .stk => .stk := (rfl)
end Ue
set_option linter.all false
set_option Elab.async false
set_option maxRecDepth 100000
set_option maxHeartbeats 4000000
namespace Ue
open PySem PySem.Spec PyProof.Rows L2
def enumZM (ma mb : M) : MI := fun env => (zipM ma mb env).bind fun ds e => .ok (enumL ds) e
@[simp] theorem enumZM_s {ma mb : M} {env : Ue.Env} : enumZM ma mb env = (zipM ma mb env).bind fun ds e => .ok (enumL ds) e := (rfl)
end Ue
set_option linter.all false
set_option Elab.async false
set_option maxRecDepth 100000
set_option maxHeartbeats 4000000
namespace L2
open PySem PySem.Spec PyProof.Rows
section
variable {X : Cx}
end
end L2
namespace Ue
open PySem PySem.Spec PyProof.Rows L2
def mulS (a b : D) : Option D := match a, b with
  | .str z, .int n => if n ≤ 30 ∧ -30 < n ∧ z.length ≤ 30 then some (.str (Txt.mul z n)) else none
  | _, _ => none
section
variable {T : Tab}
end
@[simp] theorem mulS_s {z : Str} {n : Int} : mulS (.str z) (.int n) = if n ≤ 30 ∧ -30 < n ∧ z.length ≤ 30 then some (.str (Txt.mul z n)) else none := (rfl)
end Ue
set_option linter.all false
set_option Elab.async false
set_option maxRecDepth 100000
set_option maxHeartbeats 4000000
namespace Ue
open PySem PySem.Spec PyProof.Rows L2
theorem obsL_eq {L : List Addr} {fa : List He.Fa} {fn : List He.DefD} {gs : List DefG} {ex : PySem.W.Frag → Bool} {g : Addr → Option Obj} {s : Shared} (q : ∀ a, g a = s.heap.get? a) : obsL L fa fn gs ex g = (hookL L fa fn gs ex).obs s := by
  have e : g = s.heap.get? := funext q
  subst e; rfl
end Ue
set_option linter.all false
set_option Elab.async false
set_option maxRecDepth 100000
set_option maxHeartbeats 4000000
namespace Ue
open PySem PySem.Spec PyProof.Rows L2
variable {T : Tab} {W : World} {X : Cx} {pos : Pos}
def tgQ (gs : List TGM) : TGM := fun d env => match d with | .lst ds => tgL gs ds env | _ => none
@[simp] theorem tgQ_s {gs : List TGM} {ds : List D} {env : Ue.Env} : tgQ gs (.lst ds) env = tgL gs ds env := (rfl)
end Ue
set_option linter.all false
set_option Elab.async false
set_option maxRecDepth 100000
set_option maxHeartbeats 4000000
namespace Ue
open PySem PySem.Spec PyProof.Rows L2
def askJ : List (Int × Int) → Int → Option Int
  | [], _ => none
  | p :: ps, n => if p.1 = n then some p.2 else askJ ps n
def getJM (ps : List (Int × Int)) (m : M) : M := fun env => (m env).bind fun d e => match d with
  | .int n => (match askJ ps n with | some v => .ok (.int v) e | none => .stk)
  | _ => .stk
def notJM (ps : List (Int × Int)) (m : M) : MT := fun env => (m env).bind fun d e => match d with
  | .int n => .ok (!(askJ ps n).isSome) e
  | _ => .stk
section
variable {X : Cx} {o i : Expr} {pos : Pos} {ty : TE} {q : Addr} {ps : List (Int × Int)}
end
section
variable {T : Tab} {W : WX} {X : Cx} {m : M} {e : Expr} {pos pos' : Pos} {q : Addr} {ps : List (Int × Int)} {x : Str}
end
@[simp] theorem getJM_s {ps : List (Int × Int)} {m : M} {env : Ue.Env} : getJM ps m env = (m env).bind fun d e => match d with
  | .int n => (match askJ ps n with | some v => .ok (.int v) e | none => .stk)
  | _ => .stk := (rfl)
@[simp] theorem notJM_s {ps : List (Int × Int)} {m : M} {env : Ue.Env} : notJM ps m env = (m env).bind fun d e => match d with
  | .int n => .ok (!(askJ ps n).isSome) e
  | _ => .stk := (rfl)
end Ue
set_option linter.all false
set_option Elab.async false
set_option maxRecDepth 100000
set_option maxHeartbeats 4000000
namespace Ue
open PySem PySem.Spec PyProof.Rows L2
section
variable {M : Model} {prog : Program} {w : World} {A : Around} {E : Value → Shared → Prop} {s : Shared} {K : PySem.W.Frag} {x C f : Addr} {ox : Obj} {od : Option Obj}
end
section
variable {X : Cx} {k : Nat} {C f : Addr} {fd : FuncData} {ps : List Str} {sp : Sp}
end
def cmpN (c : Nat) (F : FM) (tys : List String) (cs : List Nat) (ma mb : M) : MT := fun env => (cmpO c F tys cs ma mb env).bind fun b e => .ok (!b) e
section
variable {T : Tab} {W : WX} {σ : L2.St} {H : Hp} {X : Cx} {F : FM} {k c : Nat} {ma mb : M} {a b : Expr} {pos : Pos} {f : Addr} {fd : FuncData} {ps : List Str} {tys : List String} {cs : List Nat}
end
@[simp] theorem cmpN_s {c : Nat} {F : FM} {tys : List String} {cs : List Nat} {ma mb : M} {env : Ue.Env} : cmpN c F tys cs ma mb env = (cmpO c F tys cs ma mb env).bind fun b e => .ok (!b) e := (rfl)
end Ue
set_option linter.all false
set_option Elab.async false
set_option maxRecDepth 100000
set_option maxHeartbeats 4000000
namespace Ue
open PySem PySem.Spec PyProof.Rows L2
section
variable {T : Tab} {P P' H H' : Hp}
theorem subs_d {x : D} {fs : List FV} {v : V} {vs : List V} : subs (.d x :: fs) (v :: vs) = subs fs vs := by
  rw [subs]; intro _ _ z _; cases z
theorem subs_o {xs : List D} {fs : List FV} {b : Addr} {vs : List V} : subs (.o xs :: fs) (.ref b :: vs) = b :: subs fs vs := by rw [subs]
theorem FReps.consD {x : D} {fs : List FV} {v : V} {r : List V} (h : Rep T P x v) (k : FReps T P H fs r) : FReps T P H (.d x :: fs) (v :: r) := by rw [FReps]; exact ⟨v, r, rfl, h, k⟩
theorem FReps.consO {xs : List D} {fs : List FV} {b : Addr} {ws r : List V} (h1 : H b = some (.lst ws)) (h2 : P b = none) (h3 : Reps T P xs ws) (k : FReps T P H fs r) : FReps T P H (.o xs :: fs) (.ref b :: r) := by rw [FReps]; exact ⟨b, ws, r, rfl, h1, h2, h3, k⟩
theorem FReps.getO : ∀ {fs : List FV} {vs : List V} {j : Nat} {xs : List D}, FReps T P H fs vs → fs[j]? = some (.o xs) → ∃ b ws, vs[j]? = some (.ref b) ∧ H b = some (.lst ws) ∧ P b = none ∧ Reps T P xs ws ∧ b ∈ subs fs vs
  | [], _, _, _, _, e => by simp at e
  | .o y :: _, _, 0, x, h, e => by
    obtain ⟨b, ws, r, rfl, h1, h3, h4, _⟩ := h.oE
    simp at e; subst e
    exact ⟨b, ws, rfl, h1, h3, h4, by rw [subs_o]; exact List.mem_cons_self⟩
  | .d y :: _, _, 0, x, h, e => by simp at e
  | .d y :: _, _, j + 1, x, h, e => by
    obtain ⟨v, r, rfl, _, h2⟩ := h.dE
    obtain ⟨b, ws, h3, h4, h5, h6, h7⟩ := FReps.getO h2 (by simpa using e)
    exact ⟨b, ws, by simpa using h3, h4, h5, h6, by rw [subs_d]; exact h7⟩
  | .o y :: _, _, j + 1, x, h, e => by
    obtain ⟨b', ws', r, rfl, _, _, _, h2⟩ := h.oE
    obtain ⟨b, ws, h3, h4, h5, h6, h7⟩ := FReps.getO h2 (by simpa using e)
    exact ⟨b, ws, by simpa using h3, h4, h5, h6, by rw [subs_o]; exact List.mem_cons_of_mem _ h7⟩
theorem FReps.setO : ∀ {fs : List FV} {vs : List V} {j : Nat} {xs : List D} {b : Addr} {ws : List V}, FReps T P H fs vs → H b = some (.lst ws) → P b = none → Reps T P xs ws → j < fs.length → b ∉ subs fs vs → (subs fs vs).Nodup →
    FReps T P H (fs.set j (.o xs)) (vs.set j (.ref b)) ∧ (subs (fs.set j (.o xs)) (vs.set j (.ref b))).Nodup ∧ ∀ c ∈ subs (fs.set j (.o xs)) (vs.set j (.ref b)), c = b ∨ c ∈ subs fs vs
  | [], _, _, _, _, _, _, _, _, _, l, _, _ => by simp at l
  | .d z :: fs, _, 0, x, b, ws, h, k1, k2, k3, _, nb, nd => by
    obtain ⟨v, s, rfl, h1, h2⟩ := h.dE
    rw [subs_d] at nb nd
    rw [List.set_cons_zero, List.set_cons_zero, subs_o, subs_d]
    exact ⟨.consO k1 k2 k3 h2, List.nodup_cons.mpr ⟨nb, nd⟩, fun c hc => List.mem_cons.mp hc⟩
  | .o z :: fs, _, 0, x, b, ws, h, k1, k2, k3, _, nb, nd => by
    obtain ⟨b', ws', s, rfl, h1, h3, h4, h2⟩ := h.oE
    rw [subs_o] at nb nd
    rw [List.set_cons_zero, List.set_cons_zero, subs_o, subs_o]
    exact ⟨.consO k1 k2 k3 h2, List.nodup_cons.mpr ⟨fun q => nb (List.mem_cons_of_mem _ q), (List.nodup_cons.mp nd).2⟩, fun c hc => (List.mem_cons.mp hc).imp_right (List.mem_cons_of_mem _)⟩
  | .d z :: fs, _, j + 1, x, b, ws, h, k1, k2, k3, l, nb, nd => by
    obtain ⟨v, s, rfl, h1, h2⟩ := h.dE
    rw [subs_d] at nb nd
    obtain ⟨a1, a2, a3⟩ := FReps.setO (j := j) h2 k1 k2 k3 (by simpa using l) nb nd
    rw [List.set_cons_succ, List.set_cons_succ, subs_d, subs_d]
    exact ⟨.consD h1 a1, a2, a3⟩
  | .o z :: fs, _, j + 1, x, b, ws, h, k1, k2, k3, l, nb, nd => by
    obtain ⟨b', ws', s, rfl, h1, h3, h4, h2⟩ := h.oE
    rw [subs_o] at nb nd
    obtain ⟨n1, n2⟩ := List.nodup_cons.mp nd
    obtain ⟨a1, a2, a3⟩ := FReps.setO (j := j) h2 k1 k2 k3 (by simpa using l) (fun q => nb (List.mem_cons_of_mem _ q)) n2
    rw [List.set_cons_succ, List.set_cons_succ, subs_o, subs_o]
    refine ⟨.consO h1 h3 h4 a1, List.nodup_cons.mpr ⟨fun q => ?_, a2⟩, fun c hc => ?_⟩
    · rcases a3 _ q with q | q
      · exact nb (by rw [q]; exact List.mem_cons_self)
      · exact n1 q
    · rcases List.mem_cons.mp hc with q | q
      · exact .inr (by rw [q]; exact List.mem_cons_self)
      · exact (a3 _ q).imp_right (List.mem_cons_of_mem _)
theorem Foot.mobE {c : Nat} {fs : List FV} {C dx a b : Addr} {ns : List Str} {vs : List V} (q1 : H a = some (.ins C dx (ns.zip vs))) (q3 : vs.length ≤ ns.length) : Foot (.mob c fs) (.ref a) H b ↔ b ∈ (a :: subs fs vs) := by
  rw [List.mem_cons]
  constructor
  · rintro (h | ⟨a', C', dx', l, ha, hl, m⟩)
    · cases h; exact .inl rfl
    · cases ha; rw [q1] at hl; cases hl
      rw [zip_snd q3] at m; exact .inr m
  · rintro (rfl | m)
    · exact .here
    · exact .inr ⟨a, _, _, _, rfl, q1, by rw [zip_snd q3]; exact m⟩
variable {env : Env} {σ : L2.St}
end
end Ue
set_option linter.all false
set_option Elab.async false
set_option maxRecDepth 100000
set_option maxHeartbeats 4000000
namespace Ue
open PySem PySem.Spec PyProof.Rows L2
def FV.toD : FV → D | .d x => x | .o xs => .lst xs
def frzS (P H : Hp) (S : List Addr) : Hp := fun b => if b ∈ S then H b else P b
def dropS (P : Hp) (S : List Addr) : Hp := fun b => if b ∈ S then none else P b
mutual
def noB (ok : Nat → Bool) : D → Bool
  | .lst _ => false
  | .scr _ => false
  | .dct _ => false
  | .tpx ds => noBs ok ds
  | .tup ds => noBs ok ds
  | .obj c ds => ok c && noBs ok ds
  | .non => true
  | .bl _ => true
  | .int _ => true
  | .str _ => true
def noBs (ok : Nat → Bool) : List D → Bool
  | [] => true
  | d :: ds => noB ok d && noBs ok ds
end
def ownB (ok : Nat → Bool) : Option EV → Bool
  | some (.own ds) => noBs ok ds
  | some (.new _ fs) => noBs ok fs
  | some (.mob _ _) => false
  | _ => true
def freeD (fr : Bool) (ok : Nat → Bool) (d : D) : Bool := if fr then (match d with | .lst ds => noBs ok ds | _ => false) else noB ok d
def borM (fr : Bool) (ok : Nat → Bool) (c n i : Nat) (m : M) : M := fun env => match env[i]? with
  | some (some (.mob c' fs)) => if c' = c ∧ fs.length = n ∧ (env.set i none).all (ownB ok) = true then (match m (env.set i (some (.v (.obj c' (fs.map FV.toD))))) with
    | .ok d _ => if freeD fr ok d then .ok d env else .stk
    | .exc k gs _ => if noBs ok gs then .exc k gs env else .stk
    | .stk => .stk) else .stk
  | _ => .stk
section
variable {T : Tab} {P P2 H H2 : Hp} {S : List Addr} {C : Addr} {ok : Nat → Bool}
theorem frzS_in {b : Addr} (h : b ∈ S) : frzS P H S b = H b := by unfold frzS; rw [if_pos h]
theorem frzS_out {b : Addr} (h : b ∉ S) : frzS P H S b = P b := by unfold frzS; rw [if_neg h]
theorem dropS_out {b : Addr} (h : b ∉ S) : dropS P S b = P b := by unfold dropS; rw [if_neg h]
theorem dropS_keep {b : Addr} {u : HO} (hS : ∀ b ∈ S, (∃ ws, P b = some (.lst ws)) ∨ ∃ dx l, P b = some (.ins C dx l)) (h : P b = some u) (n1 : ∀ ws, u ≠ .lst ws) (n2 : ∀ dx l, u ≠ .ins C dx l) : dropS P S b = some u := by
  rw [dropS_out fun z => ?_]; · exact h
  rcases hS b z with ⟨ws, q⟩ | ⟨dx, l, q⟩
  · rw [h] at q; exact n1 _ (Option.some.inj q)
  · rw [h] at q; exact n2 _ _ (Option.some.inj q)
mutual
theorem Rep.dropS (hS : ∀ b ∈ S, (∃ ws, P b = some (.lst ws)) ∨ ∃ dx l, P b = some (.ins C dx l)) (hok : ∀ k, ok k = true → T.clsA k ≠ C) : ∀ (d : D) (v : V), noB ok d = true → Rep T P d v → Rep T (Ue.dropS P S) d v
  | .non, _, _, h => by rw [Rep] at h ⊢; exact h
  | .bl _, _, _, h => by rw [Rep] at h ⊢; exact h
  | .int _, _, _, h => by rw [Rep] at h ⊢; exact h
  | .str _, _, _, h => by rw [Rep] at h ⊢; exact h
  | .tup ds, _, n, h => by
    rw [Rep] at h ⊢
    rw [noB] at n
    obtain ⟨b, vs, e, h1, h2⟩ := h
    refine ⟨b, vs, e, ?_, Reps.dropS hS hok ds vs n h2⟩
    rcases h1 with h1 | h1
    · refine .inl ?_
      rcases h1 with h1 | ⟨o, h1⟩
      · exact .inl (dropS_keep hS h1 (fun _ z => nomatch z) (fun _ _ z => nomatch z))
      · exact .inr ⟨o, dropS_keep hS h1 (fun _ z => nomatch z) (fun _ _ z => nomatch z)⟩
    · exact .inr h1
  | .lst ds, _, n, h => by rw [noB] at n; cases n
  | .scr ns, _, n, h => by rw [noB] at n; cases n
  | .dct _, _, n, h => by rw [noB] at n; cases n
  | .tpx ds, _, n, h => by
    rw [Rep] at h ⊢
    rw [noB] at n
    obtain ⟨b, vs, o, e, h1, h3, h2⟩ := h
    exact ⟨b, vs, o, e, dropS_keep hS h1 (fun _ z => nomatch z) (fun _ _ z => nomatch z), h3, Reps.dropS hS hok ds vs n h2⟩
  | .obj c ds, _, n, h => by
    rw [Rep] at h ⊢
    rw [noB, Bool.and_eq_true] at n
    obtain ⟨b, dx, vs, e, h1, hl, h2⟩ := h
    exact ⟨b, dx, vs, e, dropS_keep hS h1 (fun _ z => nomatch z) (fun _ _ z => hok c n.1 (by injection z)), hl, Reps.dropS hS hok ds vs n.2 h2⟩
theorem Reps.dropS (hS : ∀ b ∈ S, (∃ ws, P b = some (.lst ws)) ∨ ∃ dx l, P b = some (.ins C dx l)) (hok : ∀ k, ok k = true → T.clsA k ≠ C) : ∀ (ds : List D) (vs : List V), noBs ok ds = true → Reps T P ds vs → Reps T (Ue.dropS P S) ds vs
  | [], _, _, h => by rw [Reps] at h ⊢; exact h
  | d :: ds, _, n, h => by
    rw [Reps] at h ⊢
    rw [noBs, Bool.and_eq_true] at n
    obtain ⟨v, r, e, h1, h2⟩ := h
    exact ⟨v, r, e, Rep.dropS hS hok d v n.1 h1, Reps.dropS hS hok ds r n.2 h2⟩
end
theorem FReps.toReps : ∀ {fs : List FV} {vs : List V}, FReps T P H fs vs → PSub P P2 → (∀ b ∈ subs fs vs, P2 b = H b) → Reps T P2 (fs.map FV.toD) vs
  | [], _, h, _, _ => by rw [FReps] at h; subst h; exact Reps.nil
  | .d x :: fs, _, h, s, k => by
    obtain ⟨v, r, rfl, h1, h2⟩ := h.dE
    exact Reps.cons (Rep.sub s _ _ h1) (h2.toReps s fun b hb => k b (by rw [subs_d]; exact hb))
  | .o xs :: fs, _, h, s, k => by
    obtain ⟨b, ws, r, rfl, h1, h3, h4, h2⟩ := h.oE
    exact Reps.cons (show Rep T P2 (.lst xs) (.ref b) from rep_lst (by rw [k b (by rw [subs_o]; exact List.mem_cons_self)]; exact h1) (Reps.sub s _ _ h4)) (h2.toReps s fun c hc => k c (by rw [subs_o]; exact List.mem_cons_of_mem _ hc))
variable {env : Env} {σ : L2.St} {i c : Nat} {fs : List FV}
theorem Rel.lendM (R : Rel T env σ P H) (e : env[i]? = some (some (.mob c fs))) (hl : fs.length = (T.clsF c).length) : ∃ a dx vs, σ[i]? = some (some (.ref a)) ∧ H a = some (.ins (T.clsA c) dx ((T.clsF c).zip vs)) ∧ FReps T P H fs vs ∧ (a :: subs fs vs).Nodup ∧ P a = none ∧ vs.length ≤ (T.clsF c).length ∧
    Rep T (frzS P H (a :: subs fs vs)) (.obj c (fs.map FV.toD)) (.ref a) ∧ Rel T (env.set i (some (.v (.obj c (fs.map FV.toD))))) σ (frzS P H (a :: subs fs vs)) H ∧ Fr env σ P H (env.set i (some (.v (.obj c (fs.map FV.toD))))) σ (frzS P H (a :: subs fs vs)) H := by
  obtain ⟨u, hu, a, dx, vs, rfl, q1, q2, q3, q4, q5⟩ := R.ent i _ e
  have hvl := q4.length
  have nS : ∀ b ∈ a :: subs fs vs, P b = none ∧ ∃ o, H b = some o := fun b hb => by
    rcases List.mem_cons.mp hb with rfl | hb
    · exact ⟨q2, _, q1⟩
    · obtain ⟨ws, w1, w2⟩ := q4.at_ hb; exact ⟨w2, _, w1⟩
  have ps : PSub P (frzS P H (a :: subs fs vs)) := fun b o h => by
    rw [frzS_out fun z => ?_]; · exact h
    rw [(nS b z).1] at h; cases h
  have rep : Rep T (frzS P H (a :: subs fs vs)) (.obj c (fs.map FV.toD)) (.ref a) := by
    rw [Rep]
    exact ⟨a, dx, vs, rfl, by rw [frzS_in List.mem_cons_self]; exact q1, by omega, q4.toReps ps fun b hb => frzS_in (List.mem_cons_of_mem _ hb)⟩
  have nx : ∀ b, OwnX env σ H i b → b ∉ a :: subs fs vs := fun b q z => q.ne R e rfl hu ((Foot.mobE q1 q3).mpr z)
  obtain ⟨R2, w1, _⟩ := R.slot (i := i) (o := some (.v (.obj c (fs.map FV.toD)))) (σ' := σ) (P' := frzS P H (a :: subs fs vs)) (H' := H) rfl (fun _ _ => rfl) ps (fun b o h => by
    by_cases hb : b ∈ a :: subs fs vs
    · rw [frzS_in hb] at h; exact h
    · rw [frzS_out hb] at h; exact R.sub b o h) (fun b u h1 h2 => ⟨h1, by rw [frzS_out (nx b h2)]; exact (R.ownAt h2.own).choose_spec.2⟩) (fun g hg _ => by
    cases hg
    exact ⟨_, hu, rep, fun z => nomatch z⟩)
  refine ⟨a, dx, vs, hu, q1, q4, q5, q2, q3, rep, R2, fun b o h _ => h, fun b _ n z => ?_, ps, fun b h => ?_, fun b h => h⟩
  · rcases w1 b z with q | ⟨g, y, q, o, _⟩
    · exact n q.own
    · cases q; cases o
  · by_cases hb : b ∈ a :: subs fs vs
    · exact .inr (.inr ⟨i, _, _, e, rfl, hu, (Foot.mobE q1 q3).mpr hb⟩)
    · rw [frzS_out hb] at h; exact .inl h
variable {W : WX} {X : Cx} {m : M} {e : Expr} {fr : Bool} {n : Nat}
def frzNM (c n i : Nat) : M := fun env => match env[i]? with
  | some (some (.mob c' fs)) => if c' = c ∧ fs.length = n then .ok (.obj c' (fs.map FV.toD)) (env.set i (some (.v (.obj c' (fs.map FV.toD))))) else .stk
  | _ => .stk
end
end Ue
set_option linter.all false
set_option Elab.async false
set_option maxRecDepth 100000
set_option maxHeartbeats 4000000
namespace Ue
open PySem PySem.Spec PyProof.Rows L2
def putFs (fs : List FV) (j : Nat) (x : FV) : List FV := if j < fs.length then fs.set j x else fs ++ [x]
def matM (c i j : Nat) : M := fun env => match env[i]? with
  | some (some (.mob c' fs)) => if c' = c then (match fs[j]? with | some (.d x) => .ok x env | _ => .stk) else .stk
  | _ => .stk
def mstM (c i j : Nat) (m : M) : MS := fun env => (m env).toS fun d e => match e[i]? with
  | some (some (.mob c' fs)) => if c' = c ∧ j ≤ fs.length then .nx (e.set i (some (.mob c' (putFs fs j (.d d))))) else .stk
  | _ => .stk
def mstOM (c i j : Nat) (m : M) : MS := fun env => (m env).toS fun d e => match e[i]?, d with
  | some (some (.mob c' fs)), .lst ds => if c' = c ∧ j ≤ fs.length then .nx (e.set i (some (.mob c' (putFs fs j (.o ds))))) else .stk
  | _, _ => .stk
section
variable {T : Tab} {W : WX} {kr : Kd} {pins : List Nat} {env env' : Env} {σ σ' : L2.St} {P H P' H' : Hp} {X : Cx} {pos pos' : Pos} {o e : Expr} {m mi : M} {c i j : Nat} {f : Str}
end
end Ue
set_option linter.all false
set_option Elab.async false
set_option maxRecDepth 100000
set_option maxHeartbeats 4000000
namespace Ue
open PySem PySem.Spec PyProof.Rows L2
section
variable {T : Tab} {W : WX} {kr : Kd} {pins : List Nat} {env env' : Env} {σ σ' : L2.St} {P H P' H' : Hp} {X : Cx} {pos pos' : Pos} {o e : Expr} {m mi : M} {c i j n : Nat} {f : Str} {ok : Nat → Bool}
def msiM (ok : Nat → Bool) (c n i j : Nat) (m mi : M) : MS := fun env => (m env).toS fun d e => match e[i]? with
  | some (some (.mob c' fs)) => if c' = c ∧ fs.length = n ∧ (e.set i none).all (ownB ok) = true then (match fs[j]?, mi (e.set i (some (.v (.obj c' (fs.map FV.toD))))) with
    | some (.o ds), .ok (.int k) _ => (match ixN ds.length k with | some q => .nx (e.set i (some (.mob c' (fs.set j (.o (ds.set q d)))))) | none => .stk)
    | _, _ => .stk) else .stk
  | _ => .stk
def mgiM (ok : Nat → Bool) (c n i j : Nat) (mi : M) : M := fun env => match env[i]? with
  | some (some (.mob c' fs)) => if c' = c ∧ fs.length = n ∧ (env.set i none).all (ownB ok) = true then (match fs[j]?, mi (env.set i (some (.v (.obj c' (fs.map FV.toD))))) with
    | some (.o ds), .ok (.int k) _ => (match L2.atI ds k with | some d => .ok d env | none => .stk)
    | _, _ => .stk) else .stk
  | _ => .stk
def mfzM (c i j : Nat) : M := fun env => match env[i]? with
  | some (some (.mob c' fs)) => if c' = c then (match fs[j]? with | some (.o ds) => .ok (.lst ds) (env.set i (some (.mob c' (fs.set j (.d (.lst ds)))))) | _ => .stk) else .stk
  | _ => .stk
def mapM (ok : Nat → Bool) (c n i j : Nat) (m : M) : M := fun env => match env[i]? with
  | some (some (.mob c' fs)) => if c' = c ∧ fs.length = n ∧ (env.set i none).all (ownB ok) = true then (match fs[j]?, m (env.set i (some (.v (.obj c' (fs.map FV.toD))))) with
    | some (.o ds), .ok d _ => if noB ok d = true ∧ ds.length < sizeLine then .ok .non (env.set i (some (.mob c' (fs.set j (.o (ds ++ [d])))))) else .stk
    | _, _ => .stk) else .stk
  | _ => .stk
end
end Ue
set_option linter.all false
set_option Elab.async false
set_option maxRecDepth 100000
set_option maxHeartbeats 4000000
namespace Ue
open PySem PySem.Spec PyProof.Rows L2
def mmethM (c i : Nat) (F : FM) (ags : List Ag) (dfl : List D) : M := fun env => match env[i]? with
  | some (some (.mob c' _)) => if c' = c then (argG ags env).bind fun ss e => callS F dfl (.s i :: ss) e else .stk
  | _ => .stk
section
variable {T : Tab} {W : WX} {kr : Kd} {pins : List Nat} {env env' : Env} {σ σ' : L2.St} {P H P' H' : Hp} {X : Cx} {F : FM} {n nf c i : Nat} {dfl : List D} {dvs : List V} {Q : VK}
variable {k : Nat} {f : Addr} {fd : FuncData} {ps : List Str} {ds : List Value} {x m : Str} {p pos apos : Pos} {e o : Expr} {es : List Expr} {ags : List Ag}
end
def makeN (c nf i : Nat) (F : FM) (dfl : List D) (ss : List AD) (e : Env) : SR := match resA ss e with
  | none => .stk
  | some as => if noSl ss then (match F (.mob c [] :: (as ++ dfl.map EV.v)) with
    | .ok .non (.mob c' fs :: _) => if c' = c ∧ fs.length = nf then .nx (e.set i (some (.mob c fs))) else .stk
    | .exc k gs (.mob _ _ :: _) => .exc k gs e
    | _ => .stk) else .stk
def setNM (c nf i : Nat) (F : FM) (ags : List Ag) (dfl : List D) : MS := fun env => (argG ags env).toS fun ss e => makeN c nf i F dfl ss e
section
variable {T : Tab} {W : WX} {kr : Kd} {pins : List Nat} {env env' : Env} {σ σ' : L2.St} {P H P' H' : Hp} {X : Cx} {F : FM} {n nf c i : Nat} {dfl : List D} {dvs : List V} {Q : VK}
variable {k : Nat} {f : Addr} {fd : FuncData} {ps : List Str} {ds : List Value} {x y m : Str} {p pos pos' cpos : Pos} {e o : Expr} {es : List Expr} {ags : List Ag}
end
section
variable {m ma mb : M} {t : MT} {ms : List M}
end
end Ue
set_option linter.all false
set_option Elab.async false
set_option maxRecDepth 100000
set_option maxHeartbeats 4000000
namespace Ue
open PySem PySem.Spec PyProof.Rows L2
section
variable {c : Nat} {F : FM} {mo m1 m2 m3 : M} {dfl : List D}
end
section
variable {env : Env} {c n i j nf : Nat} {m mi : M} {ok : Nat → Bool} {fr : Bool} {F : FM} {ags : List Ag} {dfl : List D} {ss : List AD} {fs : List FV} {x : FV} {ds : List D}
@[simp] theorem toD_d {d : D} : FV.toD (.d d) = d := (rfl)
@[simp] theorem toD_o : FV.toD (.o ds) = .lst ds := (rfl)
@[simp] theorem putFs_s : putFs fs j x = if j < fs.length then fs.set j x else fs ++ [x] := (rfl)
@[simp] theorem matM_s : matM c i j env = match env[i]? with
  | some (some (.mob c' fs)) => if c' = c then (match fs[j]? with | some (.d x) => .ok x env | _ => .stk) else .stk
  | _ => .stk := (rfl)
@[simp] theorem mstM_s : mstM c i j m env = (m env).toS fun d e => match e[i]? with
  | some (some (.mob c' fs)) => if c' = c ∧ j ≤ fs.length then .nx (e.set i (some (.mob c' (putFs fs j (.d d))))) else .stk
  | _ => .stk := (rfl)
@[simp] theorem mstOM_s : mstOM c i j m env = (m env).toS fun d e => match e[i]?, d with
  | some (some (.mob c' fs)), .lst ds => if c' = c ∧ j ≤ fs.length then .nx (e.set i (some (.mob c' (putFs fs j (.o ds))))) else .stk
  | _, _ => .stk := (rfl)
@[simp] theorem msiM_s : msiM ok c n i j m mi env = (m env).toS fun d e => match e[i]? with
  | some (some (.mob c' fs)) => if c' = c ∧ fs.length = n ∧ (e.set i none).all (ownB ok) = true then (match fs[j]?, mi (e.set i (some (.v (.obj c' (fs.map FV.toD))))) with
    | some (.o ds), .ok (.int k) _ => (match ixN ds.length k with | some q => .nx (e.set i (some (.mob c' (fs.set j (.o (ds.set q d)))))) | none => .stk)
    | _, _ => .stk) else .stk
  | _ => .stk := (rfl)
@[simp] theorem mgiM_s : mgiM ok c n i j mi env = match env[i]? with
  | some (some (.mob c' fs)) => if c' = c ∧ fs.length = n ∧ (env.set i none).all (ownB ok) = true then (match fs[j]?, mi (env.set i (some (.v (.obj c' (fs.map FV.toD))))) with
    | some (.o ds), .ok (.int k) _ => (match L2.atI ds k with | some d => .ok d env | none => .stk)
    | _, _ => .stk) else .stk
  | _ => .stk := (rfl)
@[simp] theorem mfzM_s : mfzM c i j env = match env[i]? with
  | some (some (.mob c' fs)) => if c' = c then (match fs[j]? with | some (.o ds) => .ok (.lst ds) (env.set i (some (.mob c' (fs.set j (.d (.lst ds)))))) | _ => .stk) else .stk
  | _ => .stk := (rfl)
@[simp] theorem mapM_s : mapM ok c n i j m env = match env[i]? with
  | some (some (.mob c' fs)) => if c' = c ∧ fs.length = n ∧ (env.set i none).all (ownB ok) = true then (match fs[j]?, m (env.set i (some (.v (.obj c' (fs.map FV.toD))))) with
    | some (.o ds), .ok d _ => if noB ok d = true ∧ ds.length < sizeLine then .ok .non (env.set i (some (.mob c' (fs.set j (.o (ds ++ [d])))))) else .stk
    | _, _ => .stk) else .stk
  | _ => .stk := (rfl)
@[simp] theorem mmethM_s : mmethM c i F ags dfl env = match env[i]? with
  | some (some (.mob c' _)) => if c' = c then (argG ags env).bind fun ss e => callS F dfl (.s i :: ss) e else .stk
  | _ => .stk := (rfl)
@[simp] theorem makeN_s {e : Env} : makeN c nf i F dfl ss e = match resA ss e with
  | none => .stk
  | some as => if noSl ss then (match F (.mob c [] :: (as ++ dfl.map EV.v)) with
    | .ok .non (.mob c' fs :: _) => if c' = c ∧ fs.length = nf then .nx (e.set i (some (.mob c fs))) else .stk
    | .exc k gs (.mob _ _ :: _) => .exc k gs e
    | _ => .stk) else .stk := (rfl)
@[simp] theorem setNM_s : setNM c nf i F ags dfl env = (argG ags env).toS fun ss e => makeN c nf i F dfl ss e := (rfl)
@[simp] theorem borM_s : borM fr ok c n i m env = match env[i]? with
  | some (some (.mob c' fs)) => if c' = c ∧ fs.length = n ∧ (env.set i none).all (ownB ok) = true then (match m (env.set i (some (.v (.obj c' (fs.map FV.toD))))) with
    | .ok d _ => if freeD fr ok d then .ok d env else .stk
    | .exc k gs _ => if noBs ok gs then .exc k gs env else .stk
    | .stk => .stk) else .stk
  | _ => .stk := (rfl)
@[simp] theorem frzNM_s : frzNM c n i env = match env[i]? with
  | some (some (.mob c' fs)) => if c' = c ∧ fs.length = n then .ok (.obj c' (fs.map FV.toD)) (env.set i (some (.v (.obj c' (fs.map FV.toD))))) else .stk
  | _ => .stk := (rfl)
@[simp] theorem ownB_v {d : D} : ownB ok (some (.v d)) = true := (rfl)
@[simp] theorem ownB_n : ownB ok none = true := (rfl)
@[simp] theorem ownB_o : ownB ok (some (.own ds)) = noBs ok ds := (rfl)
@[simp] theorem ownB_x {k : Nat} : ownB ok (some (.ex k ds)) = true := (rfl)
@[simp] theorem freeD_t : freeD true ok (.lst ds) = noBs ok ds := (rfl)
@[simp] theorem freeD_f {d : D} : freeD false ok d = noB ok d := (rfl)
@[simp] theorem noBs_n : noBs ok [] = true := (rfl)
@[simp] theorem noBs_c {d : D} : noBs ok (d :: ds) = (noB ok d && noBs ok ds) := (rfl)
@[simp] theorem noB_i {k : Int} : noB ok (.int k) = true := (rfl)
@[simp] theorem noB_b {k : Bool} : noB ok (.bl k) = true := (rfl)
@[simp] theorem noB_s {k : Str} : noB ok (.str k) = true := (rfl)
@[simp] theorem noB_n : noB ok .non = true := (rfl)
@[simp] theorem noB_t : noB ok (.tup ds) = noBs ok ds := (rfl)
@[simp] theorem noB_o : noB ok (.obj c ds) = (ok c && noBs ok ds) := (rfl)
end
end Ue
set_option linter.all false
set_option Elab.async false
set_option maxRecDepth 100000
set_option maxHeartbeats 4000000
namespace Ue
open PySem PySem.Spec PyProof.Rows L2
def lrgM (m : M) : M := fun env => (m env).bind fun d e => match d with
  | .int n => if 0 ≤ n ∧ n ≤ 16777216 then .ok (.lst (rngL 0 n.toNat)) e else .stk
  | _ => .stk
@[simp] theorem lrgM_s {m : M} {env : Env} : lrgM m env = (m env).bind fun d e => match d with
  | .int n => if 0 ≤ n ∧ n ≤ 16777216 then .ok (.lst (rngL 0 n.toNat)) e else .stk
  | _ => .stk := (rfl)
section
variable {T : Tab} {W : WX} {X : Cx} {e : Expr} {m : M} {k : Kd}
end
end Ue
set_option linter.all false
set_option Elab.async false
set_option maxRecDepth 100000
set_option maxHeartbeats 4000000
namespace Ue
open PySem PySem.Spec PyProof.Rows L2
def dataL : List EV → Option (List D)
  | [] => some []
  | .v d :: as => (dataL as).map (d :: ·)
  | _ :: _ => none
@[simp] theorem dataL_n : dataL [] = some [] := (rfl)
@[simp] theorem dataL_v {d : D} {as : List EV} : dataL (.v d :: as) = (dataL as).map (d :: ·) := (rfl)
def starD (n j : Nat) (dfl : List D) (G : FM) : FM := fun as => match dataL as with
  | some ds => (match G ((ds.take n ++ (dfl ++ [D.tup (ds.drop n)])).map EV.v) with
    | .ok d _ => .ok d as
    | .exc c fs _ => .exc c fs as
    | .stk => .stk)
  | none => .stk
@[simp] theorem starD_s {n j : Nat} {dfl : List D} {G : FM} {as : List EV} : starD n j dfl G as = match dataL as with
  | some ds => (match G ((ds.take n ++ (dfl ++ [D.tup (ds.drop n)])).map EV.v) with
    | .ok d _ => .ok d as
    | .exc c fs _ => .exc c fs as
    | .stk => .stk)
  | none => .stk := (rfl)
section
variable {T : Tab} {P H P' H' : Hp}
end
section
variable {P : Program} {w : World} {K : PySem.W.Frag} {mg : Str → Option Value} {base : Heap} {Z : CXT} {j k n : Nat} {f : Addr} {fd : FuncData} {ps N : List Str} {sp sp2 : Sp} {pv : Str}
end
section
variable {N : List Str} {pins : List Nat} {prog : Program} {w : World} {K : PySem.W.Frag} {mg : Str → Option Value} {base : Heap} {f : Addr} {ps : List Str} {k n : Nat} {fr : Bool} {m : MS} {T : Tab}
end
section
variable {K : PySem.W.Frag} {f : Addr} {ps : List Str} {x qual pv : Str} {params : Arguments} {body : List Stmt} {scope : Scope} {kws : List (Str × V)} {fd : FuncData}
end
end Ue
set_option linter.all false
set_option Elab.async false
set_option maxRecDepth 100000
set_option maxHeartbeats 4000000
namespace PySem
open PySem.Spec L2
section
variable {P : Program} {w : World} {A : Around} {E : Value → Shared → Prop} {s : Shared}
end
end PySem
namespace L2
open PySem PySem.Spec PyProof.Rows
end L2
namespace Ue
open PySem PySem.Spec PyProof.Rows L2
def sortLSM (m : M) : M := fun env => (m env).bind fun d e => match d with
  | .lst ds => (match dInts ds with | some ns => if ns.length < 60 then .ok (.lst ((sortU ns).map D.int)) e else .stk | none => .stk)
  | _ => .stk
@[simp] theorem sortLSM_s {m : M} {env : Env} : sortLSM m env = (m env).bind fun d e => match d with
  | .lst ds => (match dInts ds with | some ns => if ns.length < 60 then .ok (.lst ((sortU ns).map D.int)) e else .stk | none => .stk)
  | _ => .stk := (rfl)
section
variable {T : Tab} {W : WX} {X : Cx} {k : Kd} {m : M} {e : Expr} {p p2 q pos : Pos}
end
end Ue
set_option linter.all false
set_option Elab.async false
set_option maxRecDepth 100000
set_option maxHeartbeats 4000000
namespace Ue
open PySem PySem.Spec PyProof.Rows L2
def starK (n j : Nat) (G : FM) : FM := fun as => match dataL as with
  | some ds => (match G ((ds.take n ++ (ds.drop (n + j) ++ [D.tup ((ds.drop n).take j)])).map EV.v) with
    | .ok d _ => .ok d as
    | .exc c fs _ => .exc c fs as
    | .stk => .stk)
  | none => .stk
@[simp] theorem starK_s {n j : Nat} {G : FM} {as : List EV} : starK n j G as = match dataL as with
  | some ds => (match G ((ds.take n ++ (ds.drop (n + j) ++ [D.tup ((ds.drop n).take j)])).map EV.v) with
    | .ok d _ => .ok d as
    | .exc c fs _ => .exc c fs as
    | .stk => .stk)
  | none => .stk := (rfl)
section
variable {P : Program} {w : World} {K : PySem.W.Frag} {mg : Str → Option Value} {base : Heap} {Z : CXT} {j k n : Nat} {f : Addr} {fd : FuncData} {ps N : List Str} {sp sp2 : Sp} {pv nm : Str}
end
section
variable {N : List Str} {pins : List Nat} {prog : Program} {w : World} {K : PySem.W.Frag} {mg : Str → Option Value} {base : Heap} {f : Addr} {ps : List Str} {k n : Nat} {fr : Bool} {m : MS} {T : Tab}
end
section
variable {X : Cx} {Z : CXT} {k n : Nat} {f : Addr} {sp : Sp} {x nm : Str} {p pos : Pos} {e : Expr} {es : List Expr} {kws : List Keyword} {t tk : TA}
end
def fnKM (F : FM) (ags kgs : List Ag) : M := fun env => (argG ags env).bind fun ss e => (argG kgs e).bind fun zs e2 => callS F [] (ss ++ zs) e2
@[simp] theorem fnKM_s {F : FM} {ags kgs : List Ag} {env : Env} : fnKM F ags kgs env = (argG ags env).bind fun ss e => (argG kgs e).bind fun zs e2 => callS F [] (ss ++ zs) e2 := (rfl)
section
variable {T : Tab} {W : WX} {kr : Kd} {σ : L2.St} {H : Hp} {X : Cx} {F : FM} {n : Nat} {Q : VK} {ags kgs : List Ag}
end
end Ue
set_option linter.all false
set_option Elab.async false
set_option maxRecDepth 100000
set_option maxHeartbeats 4000000
namespace L2
open PySem PySem.Spec PyProof.Rows
end L2
namespace L2
open PySem PySem.Spec PyProof.Rows
end L2
namespace Ue
open PySem PySem.Spec PyProof.Rows L2
def zipTL (ma mb : M) : MI := fun env => (ma env).bind fun x e1 => (mb e1).bind fun y e2 => match x, y with
  | .tup xs, .lst ys => .ok (zipL xs ys) e2
  | _, _ => .stk
section
variable {T : Tab} {W : WX} {env : Env} {σ : L2.St} {P H : Hp} {X : Cx} {ma mb : M} {a b : Expr}
@[simp] theorem zipTL_s : zipTL ma mb env = (ma env).bind fun x e1 => (mb e1).bind fun y e2 => match x, y with
  | .tup xs, .lst ys => .ok (zipL xs ys) e2
  | _, _ => .stk := (rfl)
end
end Ue
set_option linter.all false
set_option Elab.async false
set_option maxRecDepth 100000
set_option maxHeartbeats 4000000
namespace Ue
open PySem PySem.Spec PyProof.Rows L2
section
variable {X : Cx} {k1 k2 : Nat} {C1 C2 p1 p2 g1 g2 : Addr} {f : Str} {fd1 fd2 : FuncData} {ps1 ps2 : List Str} {sp1 sp2 : Sp} {e : Expr} {pos : Pos} {ta : TE}
end
def propUM (c1 : Nat) (F1 : FM) (c2 : Nat) (F2 : FM) (m : M) : M := fun env => (m env).bind fun d e => match d with
  | .obj c fs => if c = c1 then (match callS F1 [] [.d (.obj c1 fs)] e with | .ok v e' => .ok v e' | _ => .stk) else if c = c2 then (match callS F2 [] [.d (.obj c2 fs)] e with | .ok v e' => .ok v e' | _ => .stk) else .stk
  | _ => .stk
section
variable {T : Tab} {W : WX} {X : Cx} {F1 F2 : FM} {k1 k2 c1 c2 : Nat} {m : M} {e : Expr} {pos : Pos} {f : Str} {p1 p2 g1 g2 : Addr} {fd1 fd2 : FuncData} {ps1 ps2 : List Str} {env : Env}
@[simp] theorem propUM_s : propUM c1 F1 c2 F2 m env = (m env).bind fun d e => match d with
  | .obj c fs => if c = c1 then (match callS F1 [] [.d (.obj c1 fs)] e with | .ok v e' => .ok v e' | _ => .stk) else if c = c2 then (match callS F2 [] [.d (.obj c2 fs)] e with | .ok v e' => .ok v e' | _ => .stk) else .stk
  | _ => .stk := (rfl)
end
end Ue
set_option linter.all false
set_option Elab.async false
set_option maxRecDepth 100000
set_option maxHeartbeats 4000000
namespace Ue
open PySem PySem.Spec PyProof.Rows L2
def lendF (i j : Nat) (m : M) : M := fun env => match env[i]? with
  | some (some (.own ds)) => if i ≠ j ∧ (env.set i none).all ownL = true then (match m (env.set i (some (.v (.lst ds)))) with
    | .ok (.lst es) e => (match e[j]? with
      | some (some (.own xs)) => if noLs es = true ∧ noLs xs = true then .ok (.lst es) (env.set j (some (.own xs))) else .stk
      | _ => .stk)
    | _ => .stk) else .stk
  | _ => .stk
@[simp] theorem lendF_s {i j : Nat} {m : M} {env : Env} : lendF i j m env = match env[i]? with
  | some (some (.own ds)) => if i ≠ j ∧ (env.set i none).all ownL = true then (match m (env.set i (some (.v (.lst ds)))) with
    | .ok (.lst es) e => (match e[j]? with
      | some (some (.own xs)) => if noLs es = true ∧ noLs xs = true then .ok (.lst es) (env.set j (some (.own xs))) else .stk
      | _ => .stk)
    | _ => .stk) else .stk
  | _ => .stk := (rfl)
section
variable {T : Tab} {W : WX} {env : Env} {σ : L2.St} {P H H' P' : Hp} {X : Cx} {i j : Nat} {m : M} {e : Expr} {ds xs : List D} {a : Addr} {vs : List V}
end
end Ue
set_option linter.all false
set_option Elab.async false
set_option maxRecDepth 100000
set_option maxHeartbeats 4000000
namespace Ue
open PySem PySem.Spec PyProof.Rows L2
def repT (a b : D) : Option D := match a, b with
  | .tup (d :: i), .int k => if 2 ≤ k ∧ k ≤ 1000 ∧ i.length < 1000 then some (.tup (List.replicate k.toNat (d :: i)).flatten) else none
  | _, _ => none
@[simp] theorem repT_s {d : D} {i : List D} {k : Int} : repT (.tup (d :: i)) (.int k) = if 2 ≤ k ∧ k ≤ 1000 ∧ i.length < 1000 then some (.tup (List.replicate k.toNat (d :: i)).flatten) else none := (rfl)
end Ue
set_option linter.all false
set_option Elab.async false
set_option maxRecDepth 100000
set_option maxHeartbeats 4000000
namespace L2
open PySem PySem.Spec PyProof.Rows
end L2
namespace Ue
open PySem PySem.Spec PyProof.Rows L2
def sortASM (m : M) : M := fun env => (m env).bind fun d e => match d with
  | .lst ds => (match dInts ds with | some ns => if ns.length < 60 then .ok (.lst ((sortU ns).map D.int)) e else .stk | none => .stk)
  | .tup ds => (match dInts ds with | some ns => if ns.length < 60 then .ok (.lst ((sortU ns).map D.int)) e else .stk | none => .stk)
  | _ => .stk
@[simp] theorem sortASM_s {m : M} {env : Env} : sortASM m env = (m env).bind fun d e => match d with
  | .lst ds => (match dInts ds with | some ns => if ns.length < 60 then .ok (.lst ((sortU ns).map D.int)) e else .stk | none => .stk)
  | .tup ds => (match dInts ds with | some ns => if ns.length < 60 then .ok (.lst ((sortU ns).map D.int)) e else .stk | none => .stk)
  | _ => .stk := (rfl)
section
variable {T : Tab} {W : WX} {X : Cx} {k : Kd} {m : M} {e : Expr} {p p2 q pos : Pos}
end
end Ue
set_option linter.all false
set_option Elab.async false
set_option maxRecDepth 100000
set_option maxHeartbeats 4000000
namespace Ue
open PySem PySem.Spec PyProof.Rows L2
def argX : List M → M → Env → R (List D)
  | [], mx => fun e => (mx e).bind fun d e2 => match d with
    | .tup xs => .ok xs e2
    | .lst xs => .ok xs e2
    | _ => .stk
  | m :: ms, mx => fun e => (m e).bind fun d e1 => (argX ms mx e1).bind fun ds e2 => .ok (d :: ds) e2
def fnXM (F : Nat → FM) (n : Nat) (ms : List M) (mx : M) : M := fun env => (argX ms mx env).bind fun ds e =>
  if n ≤ ds.length ∧ ds.length ≤ n + 4000 then (match F (ds.length - n) (ds.map EV.v) with
    | .ok d _ => .ok d e
    | .exc c fs _ => .exc c fs e
    | .stk => .stk) else .stk
@[simp] theorem argX_n {mx : M} {e : Env} : argX [] mx e = (mx e).bind fun d e2 => match d with
    | .tup xs => .ok xs e2
    | .lst xs => .ok xs e2
    | _ => .stk := (rfl)
@[simp] theorem argX_c {m : M} {ms : List M} {mx : M} {e : Env} : argX (m :: ms) mx e = (m e).bind fun d e1 => (argX ms mx e1).bind fun ds e2 => .ok (d :: ds) e2 := (rfl)
@[simp] theorem fnXM_s {F : Nat → FM} {n : Nat} {ms : List M} {mx : M} {env : Env} : fnXM F n ms mx env = (argX ms mx env).bind fun ds e =>
  if n ≤ ds.length ∧ ds.length ≤ n + 4000 then (match F (ds.length - n) (ds.map EV.v) with
    | .ok d _ => .ok d e
    | .exc c fs _ => .exc c fs e
    | .stk => .stk) else .stk := (rfl)
section
variable {T : Tab} {W : WX} {kr : Kd} {X : Cx} {pos p : Pos} {e : Expr} {es : List Expr} {m mx : M} {ms : List M}
end
section
variable {X : Cx} {Z : CXT} {k n : Nat} {f : Addr} {sp : Nat → Sp} {x : Str} {p pos : Pos} {e : Expr} {es : List Expr} {t : TA} {pins : List (Addr × Obj)} {σ : L2.St} {H : Hp} {s : Shared} {Q : VK}
end
section
variable {T : Tab} {W : WX} {kr : Kd} {X : Cx} {pos : Pos} {e : Expr} {es : List Expr} {m mx : M} {ms : List M}
end
end Ue
set_option linter.all false
set_option Elab.async false
set_option maxRecDepth 100000
set_option maxHeartbeats 4000000
namespace L2
open PySem PySem.Spec PyProof.Rows
end L2
namespace Ue
open PySem PySem.Spec PyProof.Rows L2
def atK : List Int → List D → Int → Option D
  | k :: ks, d :: ds, n => if k = n then some d else atK ks ds n
  | _, _, _ => none
def dictDM (ks : List Int) (ms : List M) (m : M) : M := fun env => (argsM ms env).bind fun ds e1 => (m e1).bind fun d e => match d with
  | .int n => (match atK ks ds n with | some v => .ok v e | none => .stk)
  | _ => .stk
@[simp] theorem dictDM_s {ks : List Int} {ms : List M} {m : M} {env : Ue.Env} : dictDM ks ms m env = (argsM ms env).bind fun ds e1 => (m e1).bind fun d e => match d with
  | .int n => (match atK ks ds n with | some v => .ok v e | none => .stk)
  | _ => .stk := (rfl)
@[simp] theorem atK_c {k n : Int} {ks : List Int} {d : D} {ds : List D} : atK (k :: ks) (d :: ds) n = if k = n then some d else atK ks ds n := (rfl)
section
variable {T : Tab} {W : WX}
theorem Fr.put {env env' : Env} {σ σ' : L2.St} {P H P' H' : Hp} {p : Addr} {o : HO} (F : Fr env σ P H env' σ' P' H') (hp : H p = none) (hw : ∀ b, Own env' σ' (upd H' p o) b ↔ Own env' σ' H' b) : Fr env σ P H env' σ' P' (upd H' p o) :=
  ⟨fun b u e n => by rw [upd_ne (ne_of_none e hp)]; exact F.keep b u e n, fun b h n z => F.own b h n ((hw b).mp z), F.mono, F.new, fun b h => by
    by_cases e : b = p
    · subst e; rw [upd_same]; exact fun z => nomatch z
    · rw [upd_ne e]; exact F.there b h⟩
variable {X : Cx} {m : M} {e : Expr} {pos q : Pos} {ks : List Int} {ms : List M} {keys : List (Option Expr)} {values : List Expr}
end
end Ue
set_option linter.all false
set_option Elab.async false
set_option maxRecDepth 100000
set_option maxHeartbeats 4000000
namespace Ue
open PySem PySem.Spec PyProof.Rows L2
end Ue
set_option linter.all false
set_option Elab.async false
set_option maxRecDepth 100000
set_option maxHeartbeats 4000000
namespace Ue
open PySem PySem.Spec PyProof.Rows L2
def stayS (i : Nat) : MS := fun env => match env[i]? with | some (some (.own ds)) => .nx (env.set i (some (.v (.lst ds)))) | _ => .nx env
section
variable {T : Tab} {W : WX} {kr : Kd} {pins : List Nat} {X : Cx} {st : List Stmt} {s1 : Stmt} {a : MS} {i : Nat}
end
@[simp] theorem stayS_s {i : Nat} {env : Ue.Env} : stayS i env = match env[i]? with | some (some (.own ds)) => .nx (env.set i (some (.v (.lst ds)))) | _ => .nx env := (rfl)
end Ue
set_option linter.all false
set_option Elab.async false
set_option maxRecDepth 100000
set_option maxHeartbeats 4000000
namespace L2
open PySem PySem.Spec PyProof.Rows
end L2
namespace Ue
open PySem PySem.Spec PyProof.Rows L2
variable {T : Tab}
section
variable {W : WX} {env : Env} {σ : L2.St} {P H H' P' : Hp} {X : Cx} {i j : Nat} {m : M} {e : Expr} {ds xs : List D} {a : Addr} {vs : List V}
end
section
variable {T : Tab} {W : WX} {kr : Kd} {pins : List Nat} {X : Cx} {pos : Pos} {tg : Expr}
variable {i ia ja : Nat} {y : Str} {py spos : Pos} {elt iter : Expr} {ifs : List Expr} {scope : Scope} {own : List (Str × Nat)} {mi : MI} {g : TGM} {tt : MT} {te : M} {sl : List Nat}
end
end Ue
set_option linter.all false
set_option Elab.async false
set_option maxRecDepth 100000
set_option maxHeartbeats 4000000
namespace Ue
open PySem PySem.Spec PyProof.Rows L2
def tgX (gs : List TGM) : TGM := fun d env => match d with | .lst ds => tgL gs ds env | .tup ds => tgL gs ds env | _ => none
@[simp] theorem tgX_l {gs : List TGM} {ds : List D} {env : Ue.Env} : tgX gs (.lst ds) env = tgL gs ds env := (rfl)
@[simp] theorem tgX_t {gs : List TGM} {ds : List D} {env : Ue.Env} : tgX gs (.tup ds) env = tgL gs ds env := (rfl)
end Ue
set_option linter.all false
set_option Elab.async false
set_option maxRecDepth 100000
set_option maxHeartbeats 4000000
namespace Ue
open PySem PySem.Spec PyProof.Rows L2
def bitsI (d : D) : Option D := match d with | .int i => some (.int ((Builtin.Int.intBits i : Nat) : Int)) | _ => none
@[simp] theorem bitsI_i {i : Int} : bitsI (.int i) = some (.int ((Builtin.Int.intBits i : Nat) : Int)) := (rfl)
section
variable {T : Tab} {W : WX} {k : Kd} {X : Cx} {e : Expr} {m : M} {apos pos : Pos}
end
end Ue
set_option linter.all false
set_option Elab.async false
set_option maxRecDepth 100000
set_option maxHeartbeats 4000000
namespace Ue
open PySem PySem.Spec PyProof.Rows L2
section
variable {T : Tab} {W : WX} {X : Cx} {pos : Pos}
end
end Ue
set_option linter.all false
set_option Elab.async false
set_option maxRecDepth 100000
set_option maxHeartbeats 4000000
namespace Ue
open PySem PySem.Spec L2
section
variable {T : Tab} {W : WX} {kr : Kd} {pins : List Nat} {env env' : Env} {σ σ' : L2.St} {P H P' H' : Hp} {X : Cx} {pos : Pos} {a b c : Expr} {ma mb mc : M} {o o1 o2 o3 : Bool} {i j l : Nat} {d : D} {x : V}
end
end Ue
set_option linter.all false
set_option Elab.async false
set_option maxRecDepth 100000
set_option maxHeartbeats 4000000
namespace L2
open PySem PySem.Spec PyProof.Rows
end L2
namespace Ue
open PySem PySem.Spec PyProof.Rows L2
def sortLS2M (m : M) : M := fun env => (m env).bind fun d e => match d with
  | .lst ds => (match dInts ds with | some ns => if ns.length < 4000 ∧ (sortU ns).length < 60 then .ok (.lst ((sortU ns).map D.int)) e else .stk | none => .stk)
  | _ => .stk
@[simp] theorem sortLS2M_s {m : M} {env : Env} : sortLS2M m env = (m env).bind fun d e => match d with
  | .lst ds => (match dInts ds with | some ns => if ns.length < 4000 ∧ (sortU ns).length < 60 then .ok (.lst ((sortU ns).map D.int)) e else .stk | none => .stk)
  | _ => .stk := (rfl)
section
variable {T : Tab} {W : WX} {X : Cx} {k : Kd} {m : M} {e : Expr} {p p2 q pos : Pos}
end
end Ue
set_option linter.all false
set_option Elab.async false
set_option maxRecDepth 100000
set_option maxHeartbeats 4000000
namespace L2
open PySem PySem.Spec PyProof.Rows
end L2
namespace L2
open PySem PySem.Spec PyProof.Rows
end L2
namespace Ue
open PySem PySem.Spec PyProof.Rows L2
def zipLT (ma mb : M) : MI := fun env => (ma env).bind fun x e1 => (mb e1).bind fun y e2 => match x, y with
  | .lst xs, .tup ys => .ok (zipL xs ys) e2
  | _, _ => .stk
section
variable {T : Tab} {W : WX} {env : Env} {σ : L2.St} {P H : Hp} {X : Cx} {ma mb : M} {a b : Expr}
@[simp] theorem zipLT_s : zipLT ma mb env = (ma env).bind fun x e1 => (mb e1).bind fun y e2 => match x, y with
  | .lst xs, .tup ys => .ok (zipL xs ys) e2
  | _, _ => .stk := (rfl)
end
end Ue
set_option linter.all false
set_option Elab.async false
set_option maxRecDepth 100000
set_option maxHeartbeats 4000000
namespace PySem.SeqAt
open AutoSeq1 (wpAny_loadPart')
open MeetsSeq
section
variable {A : Around} {s : Shared}
end
end PySem.SeqAt
namespace L2
open PySem PySem.Spec PyProof.Rows
end L2
namespace Ue
open PySem PySem.Spec PyProof.Rows L2
def eqX (a b : D) : Option Bool := match a with
  | .dct _ => (match b with | .lst _ => some false | _ => none)
  | _ => eqD a b
@[simp] theorem eqX_dct {ds : List D} {kvs : List (Key × V)} : eqX (.dct kvs) (.lst ds) = some false := (rfl)
end Ue
set_option linter.all false
set_option Elab.async false
set_option maxRecDepth 100000
set_option maxHeartbeats 4000000
namespace Ue
open PySem PySem.Spec PyProof.Rows L2
def lendP (i j : Nat) (m : M) : M := fun env => match env[i]? with
  | some (some (.own ds)) => if i ≠ j ∧ (env.set i none).all ownL = true then (match m (env.set i (some (.v (.lst ds)))) with
    | .ok d e => (match e[j]? with
      | some (some (.own xs)) => if noL d = true ∧ noLs xs = true then .ok d (env.set j (some (.own xs))) else .stk
      | _ => .stk)
    | _ => .stk) else .stk
  | _ => .stk
@[simp] theorem lendP_s {i j : Nat} {m : M} {env : Env} : lendP i j m env = match env[i]? with
  | some (some (.own ds)) => if i ≠ j ∧ (env.set i none).all ownL = true then (match m (env.set i (some (.v (.lst ds)))) with
    | .ok d e => (match e[j]? with
      | some (some (.own xs)) => if noL d = true ∧ noLs xs = true then .ok d (env.set j (some (.own xs))) else .stk
      | _ => .stk)
    | _ => .stk) else .stk
  | _ => .stk := (rfl)
section
variable {T : Tab} {W : WX} {env : Env} {σ : L2.St} {P H H' P' : Hp} {X : Cx} {i j : Nat} {m : M} {e : Expr} {ds xs : List D} {a : Addr} {vs : List V}
end
end Ue
set_option linter.all false
set_option Elab.async false
set_option maxRecDepth 100000
set_option maxHeartbeats 4000000
namespace L2
open PySem PySem.Spec PyProof.Rows
section
variable {X : Cx}
end
end L2
namespace Ue
open PySem PySem.Spec PyProof.Rows L2
section
variable {T : Tab} {W : WX} {env : Env} {σ : L2.St} {P H P' H' : Hp} {X : Cx} {pos : Pos} {e a b : Expr} {es : List Expr} {m m1 m2 : M}
def extG (ds es : List D) : Option (D × List D) := match es with | [.lst zs] => if ds.length + zs.length ≤ sizeLine then some (.non, ds ++ zs) else none | _ => none
@[simp] theorem extG_s {ds zs : List D} : extG ds [.lst zs] = if ds.length + zs.length ≤ sizeLine then some (.non, ds ++ zs) else none := (rfl)
end
end Ue
set_option linter.all false
set_option Elab.async false
set_option maxRecDepth 100000
set_option maxHeartbeats 4000000
namespace Ue
open PySem PySem.Spec PyProof.Rows L2 StX
section
variable {T : Tab} {W : WX} {env : Env} {σ : L2.St} {P H P' H' : Hp} {X : Cx} {pos : Pos} {e a b : Expr} {es : List Expr} {m m1 m2 : M}
def lstSM (m1 m2 : M) : M := fun env => (m1 env).bind fun d e1 => match d with
  | .tup ds => (m2 e1).bind fun y e2 => if ds.length + 1 ≤ sizeLine then .ok (.lst (ds ++ [y])) e2 else .stk
  | _ => .stk
@[simp] theorem lstSM_s : lstSM m1 m2 env = (m1 env).bind fun d e1 => match d with
  | .tup ds => (m2 e1).bind fun y e2 => if ds.length + 1 ≤ sizeLine then .ok (.lst (ds ++ [y])) e2 else .stk
  | _ => .stk := (rfl)
end
end Ue
set_option linter.all false
set_option Elab.async false
set_option maxRecDepth 100000
set_option maxHeartbeats 4000000
namespace Ue
open PySem PySem.Spec PyProof.Rows L2 RZ
section
variable {T : Tab} {W : WX} {env : Env} {σ : L2.St} {P H : Hp} {X : Cx} {m ma mb : M} {a b e tg : Expr}
def revI (m : M) : MI := fun env => (m env).bind fun d e => match d with | .lst ds => .ok ds.reverse e | _ => .stk
@[simp] theorem revI_s : revI m env = (m env).bind fun d e => match d with | .lst ds => .ok ds.reverse e | _ => .stk := (rfl)
def zipX (ma mb : M) : MI := fun env => (ma env).bind fun x e1 => (mb e1).bind fun y e2 => match x, y with
  | .lst xs, .lst ys => .ok (zipL xs ys) e2
  | .tup xs, .tup ys => .ok (zipL xs ys) e2
  | .tup xs, .lst ys => .ok (zipL xs ys) e2
  | .lst xs, .tup ys => .ok (zipL xs ys) e2
  | _, _ => .stk
@[simp] theorem zipX_s : zipX ma mb env = (ma env).bind fun x e1 => (mb e1).bind fun y e2 => match x, y with
  | .lst xs, .lst ys => .ok (zipL xs ys) e2
  | .tup xs, .tup ys => .ok (zipL xs ys) e2
  | .tup xs, .lst ys => .ok (zipL xs ys) e2
  | .lst xs, .tup ys => .ok (zipL xs ys) e2
  | _, _ => .stk := (rfl)
def nevM : MS := fun _ => .stk
@[simp] theorem nevM_s : nevM env = .stk := (rfl)
open Classical in
noncomputable def lendE (i : Nat) (m : M) : M := fun env => match env[i]? with
  | some (some (.own ds)) => if (env.set i none).all ownL then (match m (env.set i (some (.v (.lst ds)))) with
    | .ok d e => if noL d = true ∧ e = env.set i (some (.v (.lst ds))) then .ok d env else .stk
    | _ => .stk) else .stk
  | _ => .stk
open Classical in
@[simp] theorem lendE_s {i : Nat} {m : M} {env : Env} : lendE i m env = match env[i]? with
  | some (some (.own ds)) => if (env.set i none).all ownL then (match m (env.set i (some (.v (.lst ds)))) with
    | .ok d e => if noL d = true ∧ e = env.set i (some (.v (.lst ds))) then .ok d env else .stk
    | _ => .stk) else .stk
  | _ => .stk := (rfl)
end
end Ue
set_option linter.all false
set_option Elab.async false
set_option maxRecDepth 100000
set_option maxHeartbeats 4000000
namespace Ue
open PySem PySem.Spec PyProof.Rows L2
section
variable {T : Tab} {W : WX} {env : Env} {σ : L2.St} {P H : Hp} {X : Cx} {m mo : M} {a b e o tg : Expr} {ko : Kd}
def rrgL (n : Nat) : List D := (List.range n).map fun (i : Nat) => D.int ((n : Int) - 1 - (i : Int))
def rrgM (m : M) : MI := fun env => (m env).bind fun d e => match d with | .int j => if -(2 ^ 62) ≤ j ∧ j < 2 ^ 62 then .ok (rrgL j.toNat) e else .stk | _ => .stk
@[simp] theorem rrgM_s : rrgM m env = (m env).bind fun d e => match d with | .int j => if -(2 ^ 62) ≤ j ∧ j < 2 ^ 62 then .ok (rrgL j.toNat) e else .stk | _ => .stk := (rfl)
def sidxD (x y : D) : Option D := match x, y with
  | .str a, .str b => (match Builtin.Str.occurrences a b 0 a.length 1 with | i :: _ => some (.int (i : Nat)) | [] => none)
  | _, _ => none
@[simp] theorem sidxD_s {a b : Str} : sidxD (.str a) (.str b) = (match Builtin.Str.occurrences a b 0 a.length 1 with | i :: _ => some (.int (i : Nat)) | [] => none) := (rfl)
def sidxM (mo m : M) : M := fun env => (mo env).bind fun d e1 => match d with | .str s => (m e1).bind fun y e2 => liftO (sidxD (.str s) y) e2 | _ => .stk
@[simp] theorem sidxM_s : sidxM mo m env = (mo env).bind fun d e1 => match d with | .str s => (m e1).bind fun y e2 => liftO (sidxD (.str s) y) e2 | _ => .stk := (rfl)
def slSM (m : M) (lo hi : Option M) : M := fun env => (m env).bind fun d e => (optM lo e).bind fun l e => (optM hi e).bind fun u e => match d with | .str z => if z.length ≤ sizeLine then .ok (.str (cutS z l u)) e else .stk | _ => .stk
@[simp] theorem slSM_s {lo hi : Option M} : slSM m lo hi env = (m env).bind fun d e => (optM lo e).bind fun l e => (optM hi e).bind fun u e => match d with | .str z => if z.length ≤ sizeLine then .ok (.str (cutS z l u)) e else .stk | _ => .stk := (rfl)
def trgM (m : M) : M := fun env => (m env).bind fun d e => match d with
  | .int n => if 0 ≤ n ∧ n ≤ 16777216 then .ok (.tup (rngL 0 n.toNat)) e else .stk
  | _ => .stk
@[simp] theorem trgM_s : trgM m env = (m env).bind fun d e => match d with
  | .int n => if 0 ≤ n ∧ n ≤ 16777216 then .ok (.tup (rngL 0 n.toNat)) e else .stk
  | _ => .stk := (rfl)
end
end Ue
set_option linter.all false
set_option Elab.async false
set_option maxRecDepth 100000
set_option maxHeartbeats 4000000
namespace L2
open PySem PySem.Spec PyProof.Rows
end L2
namespace Ue
open PySem PySem.Spec PyProof.Rows L2
def lenSetTM (m : M) : M := fun env => (m env).bind fun d e => match d with
  | .tup ds => (match dInts ds with | some ns => if ns.length < 60 then .ok (.int ((sortU ns).length : Int)) e else .stk | none => .stk)
  | _ => .stk
@[simp] theorem lenSetTM_s {m : M} {env : Env} : lenSetTM m env = (m env).bind fun d e => match d with
  | .tup ds => (match dInts ds with | some ns => if ns.length < 60 then .ok (.int ((sortU ns).length : Int)) e else .stk | none => .stk)
  | _ => .stk := (rfl)
section
variable {T : Tab} {W : WX} {X : Cx} {k : Kd} {m : M} {e : Expr} {p p2 q pos : Pos}
end
end Ue
set_option linter.all false
set_option Elab.async false
set_option maxRecDepth 100000
set_option maxHeartbeats 4000000
namespace PyProof.Rows
open PySem
section
variable {prog : Program} {w : World} {A : Around} {E : Value → Shared → Prop} {s : Shared}
end
end PyProof.Rows
namespace SrtO
open PySem PyProof.Rows Srt
section
variable {prog : Program} {w : World} {A : Around} {E : Value → Shared → Prop} {s : Shared}
end
end SrtO
namespace L2
open PySem PySem.Spec PyProof.Rows
end L2
namespace Ue
open PySem PySem.Spec PyProof.Rows L2
section
variable {T : Tab}
end
end Ue
set_option linter.all false
set_option Elab.async false
set_option maxRecDepth 100000
set_option maxHeartbeats 4000000
namespace HT
open PySem PySem.Spec PyProof.Rows
section
variable {prog : Program} {w : World} {A : Around} {E : Value → Shared → Prop} {s : Shared}
end
end HT
namespace Ue
open PySem PySem.Spec PyProof.Rows L2
def atS : List Str → List D → Str → Option D
  | k :: ks, d :: ds, n => if k = n then some d else atS ks ds n
  | _, _, _ => none
def dictSM (ks : List Str) (ms : List M) (m : M) : M := fun env => (argsM ms env).bind fun ds e1 => (m e1).bind fun d e => match d with
  | .str n => (match atS ks ds n with | some v => .ok v e | none => .stk)
  | _ => .stk
@[simp] theorem dictSM_s {ks : List Str} {ms : List M} {m : M} {env : Ue.Env} : dictSM ks ms m env = (argsM ms env).bind fun ds e1 => (m e1).bind fun d e => match d with
  | .str n => (match atS ks ds n with | some v => .ok v e | none => .stk)
  | _ => .stk := (rfl)
@[simp] theorem atS_c {k n : Str} {ks : List Str} {d : D} {ds : List D} : atS (k :: ks) (d :: ds) n = if k = n then some d else atS ks ds n := (rfl)
section
variable {T : Tab} {W : WX}
variable {X : Cx} {m : M} {e : Expr} {pos q : Pos} {ks : List Str} {ms : List M} {keys : List (Option Expr)} {values : List Expr}
end
section
variable {X : Cx} {e st : Expr} {te : TE} {pos p2 : Pos}
end
def revTM (m : M) : M := fun env => (m env).bind fun d e => match d with | .tup ds => .ok (.tup ds.reverse) e | _ => .stk
@[simp] theorem revTM_s {m : M} {env : Env} : revTM m env = (m env).bind fun d e => match d with | .tup ds => .ok (.tup ds.reverse) e | _ => .stk := (rfl)
section
variable {T : Tab} {W : WX} {X : Cx} {k : Kd} {m : M} {e : Expr} {pos p2 q q2 : Pos} {j : Nat}
end
def set2IM (i j q : Nat) (m : M) : MS := fun env => (m env).toS fun d e => match d, e[i]?, e[j]?, e[q]? with
  | .tup [d1, d2], some (some (.own ds)), some (some (.own es)), some (some (.v (.int n))) => (match ixN ds.length n, ixN es.length n with
    | some a, some b => .nx ((e.set i (some (.own (ds.set a d1)))).set j (some (.own (es.set b d2))))
    | _, _ => .stk)
  | _, _, _, _ => .stk
@[simp] theorem set2IM_s {i j q : Nat} {m : M} {env : Env} : set2IM i j q m env = (m env).toS fun d e => match d, e[i]?, e[j]?, e[q]? with
  | .tup [d1, d2], some (some (.own ds)), some (some (.own es)), some (some (.v (.int n))) => (match ixN ds.length n, ixN es.length n with
    | some a, some b => .nx ((e.set i (some (.own (ds.set a d1)))).set j (some (.own (es.set b d2))))
    | _, _ => .stk)
  | _, _, _, _ => .stk := (rfl)
section
variable {T : Tab} {W : WX} {X : Cx} {m : M} {e : Expr} {kr : Kd} {pins : List Nat} {pos : Pos}
end
end Ue
set_option linter.all false
set_option Elab.async false
set_option maxRecDepth 100000
set_option maxHeartbeats 4000000
namespace Ue
open PySem PySem.Spec PyProof.Rows L2
def keyD : D → Option Key | .int i => some (Sum.inl i) | .str s => some (Sum.inr s) | _ => none
def vD : V → Option D | .non => some .non | .bl b => some (.bl b) | .int i => some (.int i) | .str s => some (.str s) | _ => none
def askD (d k : D) : Option D := match d with
  | .dct kvs => (keyD k).bind fun key => (L2.valV kvs key).bind vD
  | _ => none
def dgetM (m mk : M) : M := fun env => (m env).bind fun d e1 => (mk e1).bind fun k e => liftO (askD d k) e
@[simp] theorem dgetM_s {m mk : M} {env : Env} : dgetM m mk env = (m env).bind fun d e1 => (mk e1).bind fun k e => liftO (askD d k) e := (rfl)
section
variable {T : Tab} {W : WX} {X : Cx} {m mk : M} {o e : Expr} {pos q : Pos} {keys : List (Option Expr)} {values : List Expr}
end
end Ue
set_option linter.all false
set_option Elab.async false
set_option maxRecDepth 100000
set_option maxHeartbeats 4000000
namespace PySem
open Sem (wp)
end PySem
namespace Ue
open PySem PySem.Spec PyProof.Rows L2 RZ
section
variable {X : Cx} {Z : CXT} {k : Nat} {C f : Addr} {fd : FuncData} {ps : List Str} {E : L2.St → XK}
end
def zipOT (c j : Nat) (ma mb : M) : MI := fun env => (ma env).bind fun x e1 => (mb e1).bind fun y e2 => match x, y with
  | .obj c1 fs, .tup ys => if c1 = c then (match fs[j]? with | some (.tup xs) => .ok (zipL xs ys) e2 | _ => .stk) else .stk
  | _, _ => .stk
section
variable {T : Tab} {W : WX} {X : Cx} {σ : L2.St} {H : Hp} {c j k : Nat} {ma mb : M} {a b : Expr} {f : Addr} {fd : FuncData} {ps : List Str} {fl : Str} {p pos tpos : Pos} {elts : List Expr} {kk : Nat}
@[simp] theorem zipOT_s {env : Env} : zipOT c j ma mb env = (ma env).bind fun x e1 => (mb e1).bind fun y e2 => match x, y with
  | .obj c1 fs, .tup ys => if c1 = c then (match fs[j]? with | some (.tup xs) => .ok (zipL xs ys) e2 | _ => .stk) else .stk
  | _, _ => .stk := (rfl)
end
end Ue
set_option linter.all false
set_option Elab.async false
set_option maxRecDepth 100000
set_option maxHeartbeats 4000000
namespace Ue
open PySem PySem.Spec PyProof.Rows L2
def attrUM (c1 j1 c2 j2 : Nat) (m : M) : M := fun env => (m env).bind fun d e => match d with
  | .obj c fs => if c = c1 then (match fs[j1]? with | some x => .ok x e | none => .stk) else if c = c2 then (match fs[j2]? with | some x => .ok x e | none => .stk) else .stk
  | _ => .stk
@[simp] theorem attrUM_s {c1 j1 c2 j2 : Nat} {m : M} {env : Env} : attrUM c1 j1 c2 j2 m env = (m env).bind fun d e => match d with
  | .obj c fs => if c = c1 then (match fs[j1]? with | some x => .ok x e | none => .stk) else if c = c2 then (match fs[j2]? with | some x => .ok x e | none => .stk) else .stk
  | _ => .stk := (rfl)
section
variable {T : Tab} {W : WX} {X : Cx} {m : M} {e : Expr} {k : Kd}
theorem pe_two {t1 t2 : TE} (h1 : PE X e t1) (h2 : PE X e t2) : PE X e (fun σ H Q => t1 σ H Q ∨ t2 σ H Q) := ⟨fun pins s σ H Q I h => h.elim (h1.run pins s σ H Q I) (h2.run pins s σ H Q I)⟩
end
end Ue
set_option linter.all false
set_option Elab.async false
set_option maxRecDepth 100000
set_option maxHeartbeats 4000000
namespace L2
open PySem PySem.Spec PyProof.Rows
section
variable {X : Cx}
theorem call_tuple_ex : CallR X (.type "tuple") (fun xs H Q => ∃ p ys, xs = [.ref p] ∧ SqL X.K H p ys ∧ ∀ l o, H l = none → o.dict = none → Q (.ref l) (upd H l (.frz o (.tup ys)))) := by
  intro pins s σ H xs us Q I r h
  obtain ⟨p, ys, rfl, hq, q⟩ := h
  obtain ⟨u, hu, rx⟩ : ∃ u, us = [u] ∧ RelV (.ref p) u := by
    cases r with
    | cons r rr => cases rr; exact ⟨_, rfl, r⟩
  subst hu
  cases rx
  obtain ⟨its, r', pl, hz⟩ := I.list hq
  have hlen := r'.length
  refine call_tuple_list pl.isList (fun h' kp => ?_) (by simp only [List.size_toArray] <;> omega)
  have I1 : Inv X pins σ H { s with heap := h' } := I.kept (t' := s.toks) kp
  have I2 : Inv X pins σ (upd H h'.objs.size (.frz { cls := .type "tuple", data := .seq its.toArray } (.tup ys))) { s with heap := h'.push { cls := .type "tuple", data := .seq its.toArray } } :=
    I1.laid (t' := s.toks) (fun b o e => Heap.get?_push_of_some _ e) (Nat.le_refl _) (show ObjOk X.prog X.w _ _ _ (.frz _ (.tup ys)) from ⟨Heap.get?_push_size _ rfl, hz, its, r', IsTup.new _ _⟩)
  exact ⟨.ref h'.objs.size, _, I2, rfl, q _ _ (I1.hok.fresh (Nat.le_refl _)) rfl⟩
def tyW (x : V) (H : Hp) : Prop := ∃ a vs o, x = .ref a ∧ H a = some (.frz o (.tup vs)) ∧ o.dict = none
theorem tyW_is {pins : List (Addr × Obj)} {σ : St} {H : Hp} {s : Shared} {x : V} {v : Value} (I : Inv X pins σ H s) (r : RelV x v) (ty : tyW x H) :
    s.TypeIs v "tuple" ∧ ∀ a, v = .ref a → ∃ ob, s.heap.get? a = some ob ∧ ob.dict = none := by
  obtain ⟨a, vs, o, rfl, ha, hd⟩ := ty
  cases r
  obtain ⟨e, _, its, _, o', e', c, _⟩ := I.hok a _ ha
  rw [e] at e'
  cases e'
  exact ⟨⟨o, e, c⟩, fun b q => by cases q; exact ⟨o, e, hd⟩⟩
theorem pe_tpxM {o e : Expr} {es : List Expr} {to : TE} {t : TA} {name : Str} {apos cpos : Pos} {id : String} {r : V → List V → Hp → VK → Prop} (pa : PlainAttrs "tuple") (slot : Slot "tuple" name id) (hty : typeOf (.builtin id) = pure (.type "method_descriptor")) (hm : MtR X id r) (ho : PE X o to) (ha : PA X (e :: es) t)
    (hbase : attributeBase o name X.env (eval o X.env) = eval o X.env := by rfl)
    (hfew : ((backTo cpos (starEach (e :: es) X.env)).all (fun x => !x.1) && (backToKw cpos (keywordEach [] X.env)).all (fun x => x.1.isSome)
      && decide ((e :: es).length + ([] : List Keyword).length + (if ([] : List Keyword).isEmpty then 0 else 1) < 30)) = true := by rfl)
    (hline : (apos.endLine == cpos.line) = true := by rfl) (hs : starEach (e :: es) X.env = (false, eval e X.env) :: starEach es X.env := by rfl) (hplain : (backTo cpos (starEach es X.env)).any (·.1) = false := by rfl) :
    PE X (.Call (.Attribute o name apos) (e :: es) [] cpos) (fun σ H Q => to σ H fun x H1 => tyW x H1 ∧ t σ H1 fun ys H2 => r x ys H2 Q) := by
  refine ⟨fun pins s σ H Q I h => ?_⟩
  refine wpAny_Call_method_late hbase hfew hline rfl (thn (ho.run pins s σ H _ I h) fun v s1 ⟨x, H1, I1, r1, ty, q1⟩ => ?_)
  obtain ⟨h1, h2⟩ := tyW_is I1 r1 ty
  refine ⟨"tuple", id, pa, slot, hty, h1, h2, ?_⟩
  have hA := ha.run cpos pins s1 σ H1 _ I1 q1
  rw [hs] at hA ⊢
  refine Calls.callWith_builtin (by show (false || (backTo cpos (starEach es X.env)).any (·.1)) = false; rw [hplain] <;> rfl) (Calls.evalArgs_plain ?_)
  exact thn hA fun us s2 ⟨vs, H2, I2, r2, q2⟩ => hm pins s2 σ H2 x vs v us Q I2 r1 r2 q2
end
end L2
namespace Ue
open PySem PySem.Spec PyProof.Rows L2
def tupXD : List D → Option D | [.lst ds] => some (.tpx ds) | _ => none
@[simp] theorem tupXD_l {ds : List D} : tupXD [.lst ds] = some (.tpx ds) := (rfl)
def unxD : D → D | .tpx ds => .tup ds | d => d
@[simp] theorem unxD_t {ds : List D} : unxD (.tpx ds) = .tup ds := (rfl)
def unxM (m : M) : M := fun env => (m env).bind fun d e => .ok (unxD d) e
@[simp] theorem unxM_s {m : M} {env : Env} : unxM m env = (m env).bind fun d e => .ok (unxD d) e := (rfl)
def idxXM (mo m : M) : M := fun env => (mo env).bind fun d e1 => match d with | .tpx ds => (m e1).bind fun y e2 => liftO (idxD ds y) e2 | _ => .stk
@[simp] theorem idxXM_s {mo m : M} {env : Env} : idxXM mo m env = (mo env).bind fun d e1 => match d with | .tpx ds => (m e1).bind fun y e2 => liftO (idxD ds y) e2 | _ => .stk := (rfl)
section
variable {T : Tab} {W : WX} {X : Cx} {mo m : M} {o e : Expr} {apos cpos : Pos} {P : Hp}
theorem cd_tupX : CallD T (fun xs H Q => ∃ p ys, xs = [.ref p] ∧ SqL T.K H p ys ∧ ∀ l o, H l = none → o.dict = none → Q (.ref l) (upd H l (.frz o (.tup ys)))) .pure tupXD := fun env σ P H ds xs d Q R1 hx e k => by
  match ds, hx, e with
  | [.lst es], hx, e =>
    obtain ⟨x, rfl, h0⟩ := hx.one
    cases e
    obtain ⟨a, vs, rfl, h1, h2⟩ := h0.lstE R1.sub
    refine ⟨a, vs, rfl, .inl h1, fun l o hl ho => ?_⟩
    obtain ⟨R2, F2⟩ := R1.newP (o := .frz o (.tup vs)) hl
    exact k _ _ _ R2 F2 (show Rep T _ (.tpx es) (.ref l) by rw [Rep]; exact ⟨l, vs, o, rfl, upd_same, ho, Reps.sub F2.mono _ _ h2⟩) trivial
theorem rep_unx {d : D} {x : V} (h : Rep T P d x) : Rep T P (unxD d) x := by
  cases d with
  | tpx ds =>
    show Rep T P (.tup ds) x
    rw [Rep] at h
    obtain ⟨a, vs, o, e, h1, _, h2⟩ := h
    rw [Rep]
    exact ⟨a, vs, e, .inl (.inr ⟨o, h1⟩), h2⟩
  | _ => exact h
theorem de_unx (h : DE T W X e .pure m) : DE T W X e .pure (unxM m) := pe_imp h fun σ H Q h => by
  obtain ⟨env, P, RR, h⟩ := h
  refine ⟨env, P, RR, After.mono h.bind fun d env1 P1 H1 R1 F1 h1 x kx nx => ?_⟩
  exact h1.here R1 (Fr.refl _ _ _ _) x (rep_unx (show Rep T P1 d x from kx)) trivial
theorem de_idxX (hK : X.K = T.K) (ho : DE T W X o .pure mo) (he : DE T W X e .pure m)
    (hbase : attributeBase o "index" X.env (eval o X.env) = eval o X.env := by rfl)
    (hfew : ((backTo cpos (starEach [e] X.env)).all (fun x => !x.1) && (backToKw cpos (keywordEach [] X.env)).all (fun x => x.1.isSome)
      && decide ([e].length + ([] : List Keyword).length + (if ([] : List Keyword).isEmpty then 0 else 1) < 30)) = true := by rfl)
    (hline : (apos.endLine == cpos.line) = true := by rfl) (hs : starEach [e] X.env = (false, eval e X.env) :: starEach [] X.env := by rfl) (hplain : (backTo cpos (starEach [] X.env)).any (·.1) = false := by rfl) :
    DE T W X (.Call (.Attribute o "index" apos) [e] [] cpos) .pure (idxXM mo m) := by
  refine pe_imp (pe_tpxM PySem.F.plainAttrs_tuple PySem.F.slot_tuple_index PySem.F.type_tuple_index mt_indexT ho (pa_cons he pa_nil hs) hbase hfew hline hs hplain) fun σ H Q h => ?_
  obtain ⟨env, P, RR, h⟩ := h
  refine ⟨env, P, RR, After.mono h.bind fun d env1 P1 H1 R1 F1 h1 x kx nx => ?_⟩
  cases d with
  | tpx ds =>
    have kx : Rep T P1 (.tpx ds) x := kx
    rw [Rep] at kx
    obtain ⟨a, vs, ob, rfl, q1, q3, q2⟩ := kx
    refine ⟨⟨a, vs, ob, rfl, R1.sub _ _ q1, q3⟩, env1, P1, R1, After.at h1.bind fun y env2 P2 H2 e2 R2 F2 h2 z kz nz => ?_⟩
    cases q : idxD ds y with
    | none => rw [q] at h2; exact h2.elim
    | some d =>
      rw [q] at h2
      obtain ⟨j, rfl, f1, f2, ⟨hj, f3⟩, f4⟩ := idxD_v q (Reps.sub F2.mono _ _ q2) kz
      have st : SqT X.K H2 a vs := .inl (.inr ⟨ob, R2.sub _ _ (F2.mono _ _ q1)⟩)
      exact ⟨a, vs, z, j, rfl, rfl, st, f1, f2, ⟨hj, f3⟩, f4, h2.here R2 (Fr.refl _ _ _ _) _ (show Rep T P2 (.int _) (.int _) from rep_int) trivial⟩
  | _ => exact h1.elim
end
end Ue
set_option linter.all false
set_option Elab.async false
set_option maxRecDepth 100000
set_option maxHeartbeats 4000000
namespace Ue
open PySem PySem.Spec PyProof.Rows L2
def pickM (m a b : M) : M := fun env => match m env with | .ok (.obj _ _) _ => a env | _ => b env
@[simp] theorem pickM_s {m a b : M} {env : Env} : pickM m a b env = match m env with | .ok (.obj _ _) _ => a env | _ => b env := (rfl)
section
variable {T : Tab} {W : WX} {X : Cx} {m a b : M} {e : Expr} {k : Kd}
theorem de_pick (h1 : DE T W X e k a) (h2 : DE T W X e k b) : DE T W X e k (pickM m a b) := by
  refine pe_imp (pe_two h1 h2) fun σ H Q h => ?_
  obtain ⟨env, P, RR, h⟩ := h
  have q : pickM m a b env = a env ∨ pickM m a b env = b env := by
    unfold pickM
    cases m env with
    | ok d e => cases d <;> first | exact .inl rfl | exact .inr rfl
    | _ => exact .inr rfl
  rcases q with q | q
  · rw [q] at h; exact .inl ⟨env, P, RR, h⟩
  · rw [q] at h; exact .inr ⟨env, P, RR, h⟩
end
end Ue
set_option linter.all false
set_option Elab.async false
set_option maxRecDepth 100000
set_option maxHeartbeats 4000000
namespace Ue
open PySem PySem.Spec PyProof.Rows L2
section
open AutoSeq1 (wpAny_loadPart')
open MeetsSeq MeetsSeq2 MeetsSeq3 SeqRoads2 PySem.SeqAt
variable {prog : Program} {w : World} {A : Around} {E : Value → Shared → Prop} {s : Shared}
end
section
variable {X : Cx} {k : Nat} {C f : Addr} {fd : FuncData} {ps : List Str} {sp : Sp}
end
def flat1 : D → Bool
  | .non => true
  | .bl _ => true
  | .int _ => true
  | .str _ => true
  | _ => false
def flatB : List D → Bool
  | [] => true
  | d :: ds => flat1 d && flatB ds
def pairB (c : Nat) (F : FM) (d e : D) : Option Bool := match d, e with
  | .obj c1 fs, .obj c2 gs => if c1 = c ∧ c2 = c ∧ flatB fs = true ∧ flatB gs = true then (match F [.v d, .v e], F [.v d, .v d] with | .ok (.bl b) _, .ok (.bl true) _ => some b | _, _ => none) else none
  | _, _ => none
def pairsB (c : Nat) (F : FM) : List D → List D → Option (List Bool)
  | d :: ds, e :: es => (pairB c F d e).bind fun b => (pairsB c F ds es).map (b :: ·)
  | _, _ => some []
def cmpTO (c : Nat) (F : FM) (ma mb : M) : MT := fun env => (ma env).bind fun x e1 => (mb e1).bind fun y e2 => match x, y with
  | .tup ds, .tup es => (match pairsB c F ds es with | some bs => .ok (bs.all id && ds.length == es.length) e2 | none => .stk)
  | _, _ => .stk
@[simp] theorem cmpTO_s {c : Nat} {F : FM} {ma mb : M} {env : Ue.Env} : cmpTO c F ma mb env = (ma env).bind fun x e1 => (mb e1).bind fun y e2 => match x, y with
  | .tup ds, .tup es => (match pairsB c F ds es with | some bs => .ok (bs.all id && ds.length == es.length) e2 | none => .stk)
  | _, _ => .stk := (rfl)
section
variable {T : Tab} {P : Hp}
variable {W : WX} {σ : L2.St} {H : Hp} {X : Cx} {F : FM} {k c : Nat} {ma mb : M} {a b : Expr} {pos : Pos} {f : Addr} {fd : FuncData} {ps : List Str}
end
end Ue
set_option linter.all false
set_option Elab.async false
set_option maxRecDepth 100000
set_option maxHeartbeats 4000000
namespace Ue
open PySem L2
def slotsO : List AD → List Nat
  | [] => []
  | .d _ :: as => slotsO as
  | .s i :: as => i :: slotsO as
def fewN (ss : List AD) : Bool := decide (slotsO ss).Nodup
def putN : List AD → List EV → Env → Env
  | .d _ :: ss, _ :: as, e => putN ss as e
  | .s i :: ss, a :: as, e => (putN ss as e).set i (unEx a)
  | _, _, e => e
theorem slots_mem : ∀ {ss : List AD} {j i : Nat}, ss[j]? = some (.s i) → i ∈ slotsO ss
  | [], j, i, h => by simp at h
  | .d _ :: ss, 0, i, h => by simp at h
  | .d _ :: ss, j + 1, i, h => slots_mem (ss := ss) (j := j) (by simpa using h)
  | .s i0 :: ss, 0, i, h => by simp at h; subst h; exact List.mem_cons_self ..
  | .s i0 :: ss, j + 1, i, h => List.mem_cons_of_mem _ (slots_mem (ss := ss) (j := j) (by simpa using h))
theorem few_nod : ∀ {ss : List AD} {j j' i : Nat}, fewN ss = true → ss[j]? = some (.s i) → ss[j']? = some (.s i) → j = j'
  | [], j, j', i, _, h, _ => by simp at h
  | .d _ :: ss, 0, j', i, _, h, _ => by simp at h
  | .d _ :: ss, j + 1, 0, i, _, _, h => by simp at h
  | .d _ :: ss, j + 1, j' + 1, i, hf, h, h2 => congrArg (· + 1) (few_nod (ss := ss) (show fewN ss = true from hf) (by simpa using h) (by simpa using h2))
  | .s i0 :: ss, 0, 0, i, _, _, _ => rfl
  | .s i0 :: ss, 0, j' + 1, i, hf, h, h2 => by
    simp at h; subst h
    exact absurd (slots_mem (ss := ss) (j := j') (by simpa using h2)) (List.nodup_cons.mp (of_decide_eq_true hf)).1
  | .s i0 :: ss, j + 1, 0, i, hf, h, h2 => by
    simp at h2; subst h2
    exact absurd (slots_mem (ss := ss) (j := j) (by simpa using h)) (List.nodup_cons.mp (of_decide_eq_true hf)).1
  | .s i0 :: ss, j + 1, j' + 1, i, hf, h, h2 => congrArg (· + 1) (few_nod (ss := ss) (decide_eq_true (List.nodup_cons.mp (of_decide_eq_true hf)).2) (by simpa using h) (by simpa using h2))
theorem putN_len : ∀ (ss : List AD) (as : List EV) (e : Env), (putN ss as e).length = e.length
  | [], as, e => by cases as <;> rfl
  | .d _ :: ss, [], e => rfl
  | .d _ :: ss, _ :: as, e => putN_len ss as e
  | .s i :: ss, [], e => rfl
  | .s i :: ss, a :: as, e => by
    show ((putN ss as e).set i (unEx a)).length = _
    rw [List.length_set, putN_len ss as e]
theorem unEx_some {a f : EV} (h : unEx a = some f) : a = f ∧ ∀ c fs, f ≠ .ex c fs := by
  cases a with
  | ex c fs => cases h
  | v d => cases h; exact ⟨rfl, fun _ _ z => nomatch z⟩
  | own d => cases h; exact ⟨rfl, fun _ _ z => nomatch z⟩
  | new c d => cases h; exact ⟨rfl, fun _ _ z => nomatch z⟩
  | mob c d => cases h; exact ⟨rfl, fun _ _ z => nomatch z⟩
theorem putN_get : ∀ (ss : List AD) (as : List EV) (e : Env) (l : Nat) (f : EV), fewN ss = true → (putN ss as e)[l]? = some (some f) → (∃ j : Nat, ss[j]? = some (AD.s l) ∧ as[j]? = some f ∧ ∀ c fs, f ≠ EV.ex c fs) ∨ (e[l]? = some (some f) ∧ ∀ j : Nat, ss[j]? = some (AD.s l) → j < as.length → False)
  | [], as, e, l, f, _, h => .inr ⟨by cases as <;> exact h, fun j hj => by simp at hj⟩
  | .d _ :: ss, [], e, l, f, _, h => .inr ⟨h, fun j _ hl => absurd hl (Nat.not_lt_zero j)⟩
  | .s _ :: ss, [], e, l, f, _, h => .inr ⟨h, fun j _ hl => absurd hl (Nat.not_lt_zero j)⟩
  | .d _ :: ss, _ :: as, e, l, f, hf, h => by
    rcases putN_get ss as e l f hf h with ⟨j, h1, h2, h3⟩ | ⟨h1, h2⟩
    · exact .inl ⟨j + 1, by simpa using h1, by simpa using h2, h3⟩
    · refine .inr ⟨h1, fun j hj hl => ?_⟩
      cases j with
      | zero => simp at hj
      | succ j => exact h2 j (by simpa using hj) (by simpa using hl)
  | .s i :: ss, a :: as, e, l, f, hf, h => by
    have hf2 : fewN ss = true := decide_eq_true (List.nodup_cons.mp (of_decide_eq_true hf)).2
    have hn := (List.nodup_cons.mp (of_decide_eq_true hf)).1
    have h : ((putN ss as e).set i (unEx a))[l]? = some (some f) := h
    by_cases z : i = l
    · subst z
      have hil : i < (putN ss as e).length := by
        rcases Nat.lt_or_ge i (putN ss as e).length with q | q
        · exact q
        · rw [List.getElem?_eq_none (by rw [List.length_set]; exact q)] at h; cases h
      rw [List.getElem?_set_self hil] at h
      obtain ⟨rfl, hx⟩ := unEx_some (Option.some.inj h)
      exact .inl ⟨0, rfl, rfl, hx⟩
    · rw [List.getElem?_set_ne z] at h
      rcases putN_get ss as e l f hf2 h with ⟨j, h1, h2, h3⟩ | ⟨h1, h2⟩
      · exact .inl ⟨j + 1, by simpa using h1, by simpa using h2, h3⟩
      · refine .inr ⟨h1, fun j hj hl => ?_⟩
        cases j with
        | zero => simp at hj; exact z hj
        | succ j => exact h2 j (by simpa using hj) (by simpa using hl)
def fnQ (F : FM) (ags : List Ag) (dfl : List D) : M := fun env => (argG ags env).bind fun ss e => match resA ss e with
  | none => .stk
  | some as => if fewN ss then (match F (as ++ dfl.map EV.v) with
    | .ok d as' => .ok d (putN ss as' e)
    | .exc c fs as' => .exc c fs (putN ss as' e)
    | .stk => .stk) else .stk
section
variable {T : Tab} {W : WX} {kr : Kd} {pins : List Nat} {env env' : Env} {σ σ' : L2.St} {P H P' H' : Hp} {X : Cx} {pos : Pos} {e : Expr} {es : List Expr} {m : M} {ags : List Ag}
theorem Rel.callQ {ss : List AD} {as : List EV} {xs dvs : List V} {dfl : List D} (RR : Rel T env σ P H) (hr : resA ss env = some as) (hf : fewN ss = true) (hs : SReps T σ P ss xs) (hd : Reps T P dfl dvs) :
    Rel T ((as ++ dfl.map EV.v).map some) ((xs ++ dvs).map some) P H ∧ ∀ J b, Own ((as ++ dfl.map EV.v).map some) ((xs ++ dvs).map some) J b → ∃ (j i : Nat) (f : EV) (x : V), ss[j]? = some (AD.s i) ∧ as[j]? = some f ∧ f.isOwn = true ∧ env[i]? = some (some f) ∧ σ[i]? = some (some x) ∧ Foot f x J b := by
  have la := resA_len hr
  have lx := hs.len
  have get : ∀ (j : Nat) (f : EV), ((as ++ dfl.map EV.v).map some)[j]? = some (some f) → (as[j]? = some f ∧ j < as.length) ∨ (∃ d, f = .v d ∧ dfl[j - as.length]? = some d ∧ as.length ≤ j) := fun j f h => by
    rw [List.getElem?_map] at h
    cases q : (as ++ dfl.map EV.v)[j]? with
    | none => rw [q] at h; cases h
    | some g =>
      rw [q] at h; cases h
      by_cases hj : j < as.length
      · rw [List.getElem?_append_left hj] at q; exact .inl ⟨q, hj⟩
      · rw [List.getElem?_append_right (by omega), List.getElem?_map] at q
        cases q2 : dfl[j - as.length]? with
        | none => rw [q2] at q; cases q
        | some d => rw [q2] at q; cases q; exact .inr ⟨d, rfl, rfl, by omega⟩
  have getx : ∀ (j : Nat) (v : V), xs[j]? = some v → ((xs ++ dvs).map some)[j]? = some (some v) := fun j v h => by
    have hj : j < xs.length := by
      rcases Nat.lt_or_ge j xs.length with q | q
      · exact q
      · rw [List.getElem?_eq_none q] at h; cases h
    rw [List.getElem?_map, List.getElem?_append_left hj, h]; rfl
  have ow : ∀ (j : Nat) (f : EV) (x : V), ((as ++ dfl.map EV.v).map some)[j]? = some (some f) → f.isOwn = true → ((xs ++ dvs).map some)[j]? = some (some x) → ∃ (i : Nat), ss[j]? = some (.s i) ∧ as[j]? = some f ∧ env[i]? = some (some f) ∧ σ[i]? = some (some x) := fun j f x h o s => by
    rcases get j f h with ⟨q, hj⟩ | ⟨d, rfl, _⟩
    · rcases resA_get hr hs q with ⟨d, v, rfl, _⟩ | ⟨i, v, _, q1, q2, q3, q4⟩
      · cases o
      · rw [getx j v q3] at s
        cases s
        exact ⟨i, q1, q, q2, q4⟩
    · cases o
  refine ⟨⟨RR.sub, fun j f h => ?_, fun j l f g x y b n h1 h2 o1 o2 s1 s2 t1 t2 => ?_, ?_⟩, fun J b ⟨j, f, x, h1, h2, h3, h4⟩ => ?_⟩
  · rcases get j f h with ⟨q, hj⟩ | ⟨d, rfl, q, hj⟩
    · rcases resA_get hr hs q with ⟨d, v, rfl, q1, q2⟩ | ⟨i, v, _, q1, q2, q3, q4⟩
      · exact ⟨v, getx j v q1, q2⟩
      · obtain ⟨u, hu, r⟩ := RR.ent i _ q2
        rw [q4] at hu; cases hu
        exact ⟨v, getx j v q3, r⟩
    · obtain ⟨v, hv, r⟩ := hd.get q
      refine ⟨v, ?_, r⟩
      rw [List.getElem?_map, List.getElem?_append_right (by omega), show j - xs.length = j - as.length by omega, hv]; rfl
  · obtain ⟨i1, a1, _, q1, p1⟩ := ow j f x h1 o1 s1
    obtain ⟨i2, a2, _, q2, p2⟩ := ow l g y h2 o2 s2
    exact RR.dis i1 i2 f g x y b (fun e => n (few_nod hf a1 (e ▸ a2))) q1 q2 o1 o2 p1 p2 t1 t2
  · simp [la, lx, hd.length]
  · obtain ⟨i, a1, a2, a3, a4⟩ := ow j f x h1 h2 h3
    exact ⟨j, i, f, x, a1, a2, h2, a3, a4, h4⟩
theorem Rel.backQ {ss : List AD} {as as' : List EV} {xs dvs : List V} {dfl : List D} (RR : Rel T env σ P H) (hr : resA ss env = some as) (hf : fewN ss = true) (hs : SReps T σ P ss xs) (hd : Reps T P dfl dvs)
    (R2 : Rel T.nb (as'.map some) ((xs ++ dvs).map some) P' H') (F2 : Fr ((as ++ dfl.map EV.v).map some) ((xs ++ dvs).map some) P H (as'.map some) ((xs ++ dvs).map some) P' H') :
    Rel T (putN ss as' env) σ P' H' ∧ Fr env σ P H (putN ss as' env) σ P' H' ∧ ∀ b, Own (putN ss as' env) σ H' b → Own env σ H b ∨ Own (as'.map some) ((xs ++ dvs).map some) H' b := by
  obtain ⟨R1, o1⟩ := RR.callQ hr hf hs hd
  have la := resA_len hr
  have lx := hs.len
  have l2 : as'.length = (xs ++ dvs).length := by simpa using R2.len
  have getx : ∀ (j : Nat) (v : V), xs[j]? = some v → ((xs ++ dvs).map some)[j]? = some (some v) := fun j v h => by
    have hj : j < xs.length := by
      rcases Nat.lt_or_ge j xs.length with q | q
      · exact q
      · rw [List.getElem?_eq_none q] at h; cases h
    rw [List.getElem?_map, List.getElem?_append_left hj, h]; rfl
  -- the slots: the one that was handed, all others
  have key : ∀ (l : Nat) (f : EV), (putN ss as' env)[l]? = some (some f) → (∃ (j : Nat) (g : EV) (v : V), ss[j]? = some (AD.s l) ∧ as'[j]? = some f ∧ g.isOwn = true ∧ env[l]? = some (some g) ∧ xs[j]? = some v ∧ σ[l]? = some (some v) ∧ ∀ c fs, f ≠ .ex c fs) ∨ (env[l]? = some (some f) ∧ ∀ (j : Nat), ss[j]? ≠ some (AD.s l)) := fun l f h => by
    have hle : as.length ≤ as'.length := by rw [l2, List.length_append]; omega
    rcases putN_get ss as' env l f hf h with ⟨j, q1, q2, q3⟩ | q
    · have hja : j < as.length := by
        rcases Nat.lt_or_ge j ss.length with z | z
        · omega
        · rw [List.getElem?_eq_none z] at q1; cases q1
      rcases resA_get hr hs (List.getElem?_eq_getElem hja) with ⟨d, v, e0, w1, w2⟩ | ⟨i2, v, e0, w1, w2, w3, w4⟩
      · exact (resA_v ss as j l d hr q1 (by rw [List.getElem?_eq_getElem hja, e0])).elim
      · rw [q1] at w1; cases w1
        exact .inl ⟨j, _, v, q1, q2, e0, w2, w3, w4, q3⟩
    · refine .inr ⟨q.1, fun j hj => ?_⟩
      have hjs : j < ss.length := by
        rcases Nat.lt_or_ge j ss.length with z | z
        · exact z
        · rw [List.getElem?_eq_none z] at hj; cases hj
      exact q.2 j hj (by omega)
  have low : (putN ss as' env).length = env.length := putN_len ss as' env
  have ownA : ∀ b, Own ((as ++ dfl.map EV.v).map some) ((xs ++ dvs).map some) H b → Own env σ H b := fun b h => by
    obtain ⟨j, i, f, x, _, _, h0, h1, h2, h3⟩ := o1 H b h
    exact ⟨i, _, _, h1, h0, h2, h3⟩
  -- a slot that was not handed: what it holds is nobody else's, and stands
  have oth : ∀ (l : Nat) (f : EV) (x : V) (b : Addr), env[l]? = some (some f) → f.isOwn = true → σ[l]? = some (some x) → (∀ (j : Nat), ss[j]? ≠ some (AD.s l)) → Foot f x H b → ¬ Own ((as ++ dfl.map EV.v).map some) ((xs ++ dvs).map some) H b := fun l f x b h o s n t z => by
    obtain ⟨j, i, f', x', c1, _, c2, c3, c4, c5⟩ := o1 H b z
    by_cases w : l = i
    · subst w; exact n j c1
    · exact RR.dis l i f f' x x' b w h c3 o c2 s c4 t c5
  have ft : ∀ (l : Nat) (f : EV) (x : V) (b : Addr), env[l]? = some (some f) → f.isOwn = true → σ[l]? = some (some x) → (∀ (j : Nat), ss[j]? ≠ some (AD.s l)) → (Foot f x H' b ↔ Foot f x H b) := fun l f x b h o s n => by
    obtain ⟨v, hv, r⟩ := RR.ent l f h
    rw [s] at hv; cases hv
    exact r.footH fun a u ha _ hu => F2.keep a u hu (oth l f x a h o s n (.inl ha))
  have hnd : ∀ (l j : Nat) (f : EV) (v : V) (b : Addr), as'[j]? = some f → f.isOwn = true → xs[j]? = some v → Foot f v H' b → Own (as'.map some) ((xs ++ dvs).map some) H' b := fun l j f v b h o s t => ⟨j, f, v, by rw [List.getElem?_map, h]; rfl, o, getx j v s, t⟩
  have ow : ∀ b, Own (putN ss as' env) σ H' b → Own env σ H b ∨ Own (as'.map some) ((xs ++ dvs).map some) H' b := fun b ⟨l, f, x, h1, h2, h3, h4⟩ => by
    rcases key l f h1 with ⟨j, g, v, a1, a2, a0, a3, a4, a5, a6⟩ | ⟨a1, a2⟩
    · rw [h3] at a5; cases a5
      exact .inr (hnd l j f x b a2 h2 a4 h4)
    · exact .inl ⟨l, f, x, a1, h2, h3, (ft l f x b a1 h2 h3 a2).mp h4⟩
  refine ⟨⟨R2.sub, fun l f h => ?_, fun l1 l2 f g x y b n h1 h2 o1' o2' s1 s2 t1 t2 => ?_, by rw [low]; exact RR.len⟩, ⟨fun b u h n => F2.keep b u h fun z => n (ownA b z), fun b h n z => ?_, F2.mono, fun b h => ?_, F2.there⟩, ow⟩
  · rcases key l f h with ⟨j, g, v, a1, a2, a0, a3, a4, a5, a6⟩ | ⟨a1, a2⟩
    · obtain ⟨u, hu, r⟩ := R2.ent j f (by rw [List.getElem?_map, a2]; rfl)
      rw [getx j v a4] at hu
      have hu := Option.some.inj (Option.some.inj hu)
      subst hu
      exact ⟨v, a5, r.bn a6⟩
    · obtain ⟨v, hv, r⟩ := RR.ent l f a1
      refine ⟨v, hv, r.grow F2.mono fun b u h1 h2 h3 h4 => ?_⟩
      have nb := oth l f v b a1 h3 hv a2 h4
      refine ⟨F2.keep b u h1 nb, Classical.byContradiction fun z => ?_⟩
      rcases F2.new b z with q | q | q
      · exact q h2
      · rw [h1] at q; cases q
      · exact nb q
  · rcases key l1 f h1 with ⟨j, g1, v, a1, a2, a0, a3, a4, a5, a6⟩ | ⟨a1, a2⟩
    · rcases key l2 g h2 with ⟨j', g1', v', b1, b2, b0, b3, b4, b5, b6⟩ | ⟨b1, b2⟩
      · have nj : j ≠ j' := fun e => by
          subst e
          rw [a1] at b1; cases b1; exact n rfl
        rw [s1] at a5; cases a5
        rw [s2] at b5; cases b5
        exact R2.dis j j' f g x y b nj (by rw [List.getElem?_map, a2]; rfl) (by rw [List.getElem?_map, b2]; rfl) o1' o2' (getx j x a4) (getx j' y b4) t1 t2
      · rw [s1] at a5; cases a5
        have t2' := (ft l2 g y b b1 o2' s2 b2).mp t2
        have hb : H b ≠ none := by
          obtain ⟨u, hu, _⟩ := RR.ownAt ⟨l2, g, y, b1, o2', s2, t2'⟩
          rw [hu]; exact fun z => nomatch z
        exact F2.own b hb (oth l2 g y b b1 o2' s2 b2 t2') (hnd l1 j f x b a2 o1' a4 t1)
    · have t1' := (ft l1 f x b a1 o1' s1 a2).mp t1
      rcases key l2 g h2 with ⟨j', g1', v', b1, b2, b0, b3, b4, b5, b6⟩ | ⟨b1, b2⟩
      · rw [s2] at b5; cases b5
        have hb : H b ≠ none := by
          obtain ⟨u, hu, _⟩ := RR.ownAt ⟨l1, f, x, a1, o1', s1, t1'⟩
          rw [hu]; exact fun z => nomatch z
        exact F2.own b hb (oth l1 f x b a1 o1' s1 a2 t1') (hnd l2 j' g y b b2 o2' b4 t2)
      · exact RR.dis l1 l2 f g x y b n a1 b1 o1' o2' s1 s2 t1' ((ft l2 g y b b1 o2' s2 b2).mp t2)
  · rcases ow b z with q | q
    · exact n q
    · exact F2.own b h (fun w => n (ownA b w)) q
  · rcases F2.new b h with q | q | q
    · exact .inl q
    · exact .inr (.inl q)
    · exact .inr (.inr (ownA b q))
theorem rd_fnQ {F : FM} {n : Nat} {dfl : List D} {dvs : List V} {Q : VK} (hkr : kr = .pure ∨ kr = .fresh) (hdr : ∀ P, Reps T P dfl dvs) (hn : ags.length + dfl.length = n) (h : rdE T W kr (fnQ F ags dfl) σ H Q) :
    tCallSD (spF T kr n F) dvs (fun σ cls d H => W cls d σ H) (rdP T W ags) σ H Q := by
  obtain ⟨env, P, RR, h⟩ := h
  refine ⟨env, P, RR, After.at h.bind fun ss env1 P1 H1 es1 R1 F1 h1 xs kxs => ?_⟩
  cases e1 : resA ss env1 with
  | none => simp only [e1] at h1; exact False.elim h1
  | some as =>
    simp only [e1] at h1
    by_cases hf : ¬ fewN ss = true
    · rw [if_neg hf] at h1; exact False.elim h1
    have hf : fewN ss = true := Classical.not_not.mp hf
    rw [if_pos hf] at h1
    obtain ⟨R2, o2⟩ := R1.callQ e1 hf kxs (hdr P1)
    have hlen : ∀ (ags : List Ag) (env env1 : Env) (ss : List AD), argG ags env = .ok ss env1 → ss.length = ags.length := by
      intro ags
      induction ags with
      | nil => intro env env1 ss h; cases h; rfl
      | cons a ags ih =>
        intro env env1 ss h
        cases a with
        | p m =>
          have h : (m env).bind (fun d e1 => (argG ags e1).bind fun ds e2 => R.ok (AD.d d :: ds) e2) = .ok ss env1 := h
          cases c : m env with
          | ok d e1 =>
            rw [c] at h
            have h : (argG ags e1).bind (fun ds e2 => R.ok (AD.d d :: ds) e2) = .ok ss env1 := h
            cases c2 : argG ags e1 with
            | ok ds e2 => rw [c2] at h; cases h; simp [ih _ _ _ c2]
            | exc _ _ _ => rw [c2] at h; cases h
            | stk => rw [c2] at h; cases h
          | exc _ _ _ => rw [c] at h; cases h
          | stk => rw [c] at h; cases h
        | o i =>
          unfold argG at h
          cases e0 : env[i]? with
          | none => rw [e0] at h; cases h
          | some o =>
            cases o with
            | none => rw [e0] at h; cases h
            | some v =>
              cases v with
              | own ds =>
                rw [e0] at h
                have h : (argG ags env).bind (fun ds e2 => R.ok (AD.s i :: ds) e2) = .ok ss env1 := h
                cases c2 : argG ags env with
                | ok ds e2 => rw [c2] at h; cases h; simp [ih _ _ _ c2]
                | exc _ _ _ => rw [c2] at h; cases h
                | stk => rw [c2] at h; cases h
              | mob c0 d0 =>
                rw [e0] at h
                have h : (argG ags env).bind (fun ds e2 => R.ok (AD.s i :: ds) e2) = .ok ss env1 := h
                cases c2 : argG ags env with
                | ok ds e2 => rw [c2] at h; cases h; simp [ih _ _ _ c2]
                | exc _ _ _ => rw [c2] at h; cases h
                | stk => rw [c2] at h; cases h
              | _ => rw [e0] at h; cases h
    refine ⟨as ++ dfl.map EV.v, P1, R2.nb, ?_, ?_⟩
    · rw [List.length_append, kxs.len, (hdr P1).length, hlen ags env env1 ss es1]; exact hn
    · cases e2 : F (as ++ dfl.map EV.v) with
      | ok d as' =>
        simp only [e2] at h1
        intro P2 H2 x R3 F3 kx nx
        obtain ⟨R4, F4, o4⟩ := R1.backQ e1 hf kxs (hdr P1) R3 F3
        refine h1 P2 H2 R4 F4 x ?_ (nx.back F1)
        rcases hkr with rfl | rfl
        · exact kx.bn
        · obtain ⟨a, ws, ds, q1, q2, q3, q4, q5, q6⟩ := kx.bn
          refine ⟨a, ws, ds, q1, q2, q3, fun z => ?_, q5, q6⟩
          obtain ⟨a', ea, ha⟩ := nx
          rw [q1] at ea; cases ea
          rcases o4 a z with w | w
          · obtain ⟨o, ho, _⟩ := R1.ownAt w
            rw [ha] at ho; cases ho
          · exact q4 w
      | exc c fs as' =>
        simp only [e2] at h1
        intro P2 H2 cls dd R3 F3 x
        obtain ⟨R4, F4, o4⟩ := R1.backQ e1 hf kxs (hdr P1) R3 F3
        exact h1 P2 H2 cls dd R4 F4 x.bn
      | stk => simp only [e2] at h1; exact False.elim h1
theorem de_callQ {F : FM} {n k : Nat} {f : Addr} {fd : FuncData} {ps : List Str} {dfl : List D} {dvs : List V} {ds : List Value} {x : Str} {p : Pos} (G : FnG X.prog X.w X.K X.mg X.base (L2.CX X.prog X.w) k f fd ps (spF T kr n F)) (hkr : kr = .pure ∨ kr = .fresh) (gd : X.A.guards = some []) (hr : Room k X.A) (hg : Gl X x) (hm : X.mg x = some (.ref f))
    (hk : PySem.W.keepIn X.K (.ref f) = true) (hb : Binds X.K fd ps ds) (hd : Vals dvs ds) (hdr : ∀ P, Reps T P dfl dvs) (tk : Takes X W) (ha : GA T W X (e :: es) ags) (hn : ags.length + dfl.length = n := by rfl)
    (hdb : (x == ("__debug__" : Str)) = false := by decide) (he : starEach (e :: es) X.env = (false, eval e X.env) :: starEach es X.env := by rfl) (hpl : (backTo pos (starEach es X.env)).any (·.1) = false := by rfl) :
    DE T W X (.Call (.Name x p) (e :: es) [] pos) kr (fnQ F ags dfl) :=
  pe_imp (pe_callG (E := fun σ cls d H => W cls d σ H) G gd hr hg hm hk hb hd (fun σ => passAt tk σ) ha hdb he hpl) fun _ _ _ h => rd_fnQ hkr hdr hn h
end
def CRes.goQ (r : CRes) (ss : List AD) (e : Env) : R D := match r with
  | .ok d as' => .ok d (putN ss as' e)
  | .exc c fs as' => .exc c fs (putN ss as' e)
  | .stk => .stk
@[simp] theorem goQ_ok {ss : List AD} {as : List EV} {d : D} {e : Ue.Env} : (CRes.ok d as).goQ ss e = .ok d (putN ss as e) := (rfl)
@[simp] theorem goQ_exc {ss : List AD} {as : List EV} {c : Nat} {fs : List D} {e : Ue.Env} : (CRes.exc c fs as).goQ ss e = .exc c fs (putN ss as e) := (rfl)
@[simp] theorem fnQ_s {F : FM} {ags : List Ag} {dfl : List D} {env : Ue.Env} : fnQ F ags dfl env = (argG ags env).bind fun ss e => match resA ss e with
  | none => .stk
  | some as => if fewN ss then (F (as ++ dfl.map EV.v)).goQ ss e else .stk := rfl
@[simp] theorem fewN_two {i j : Nat} : fewN [.s i, .s j] = decide (i ≠ j) := by simp [fewN, slotsO]
@[simp] theorem putN_n {as : List EV} {e : Ue.Env} : putN [] as e = e := by cases as <;> rfl
@[simp] theorem putN_d {x : D} {a : EV} {ss : List AD} {as : List EV} {e : Ue.Env} : putN (.d x :: ss) (a :: as) e = putN ss as e := (rfl)
@[simp] theorem putN_s {i : Nat} {a : EV} {ss : List AD} {as : List EV} {e : Ue.Env} : putN (.s i :: ss) (a :: as) e = (putN ss as e).set i (unEx a) := (rfl)
end Ue
set_option linter.all false
set_option Elab.async false
set_option maxRecDepth 100000
set_option maxHeartbeats 4000000
set_option exponentiation.threshold 5000
namespace Ue
open PySem
theorem toPys_strs : ∀ ns : List Str, toPys (ns.map D.str) = some (ns.map PyData.str)
  | [] => by simp [toPys]
  | n :: ns => by simp [toPys, toPy, toPys_strs ns]
theorem lay_strs : ∀ ns : List Str, ns.all PyData.strOk = true → PyData.canLayAll0 (ns.map PyData.str) = true
  | [], _ => by simp [PyData.canLayAll0]
  | n :: ns, h => by
    simp only [List.all_cons, Bool.and_eq_true] at h
    simp [PyData.canLayAll0, PyData.canLay0, lay_strs ns h.2, h.1]
theorem depth_strs : ∀ ns : List Str, PyData.depthAll (ns.map PyData.str) = 0
  | [] => by simp [PyData.depthAll]
  | n :: ns => by simp [PyData.depthAll, PyData.depth, depth_strs ns]
theorem shaped_strs {ns : List Str} (h : ns.all PyData.strOk = true) : SeqAt.shaped (.list (ns.map PyData.str)) = true := by
  unfold SeqAt.shaped; simp [PyData.canLay0, PyData.depth, lay_strs ns h, depth_strs]
theorem shaped_str {n : Str} (h : PyData.strOk n = true) : SeqAt.shaped (.str n) = true := by
  unfold SeqAt.shaped; simp [PyData.canLay0, PyData.depth, h]
theorem eqv_strs : ∀ a b : List Str, PyData.eqvAll (a.map PyData.str) (b.map PyData.str) = decide (a = b)
  | [], [] => by simp [PyData.eqvAll]
  | [], _ :: _ => by simp [PyData.eqvAll]
  | _ :: _, [] => by simp [PyData.eqvAll]
  | x :: xs, y :: ys => by
    simp only [List.map_cons, PyData.eqvAll, PyData.eqv, eqv_strs xs ys, List.cons.injEq, Bool.decide_and]
    congr 1
theorem eqD_strs {a b : List Str} (ha : a.all PyData.strOk = true) (hb : b.all PyData.strOk = true) : eqD (.lst (a.map D.str)) (.lst (b.map D.str)) = some (decide (a = b)) := by
  simp [eqD, toPy, toPys_strs, shaped_strs ha, shaped_strs hb, PyData.eqv, eqv_strs]
theorem any_strs : ∀ (a : List Str) (n : Str), (a.map PyData.str).any (fun z => PyData.eqv z (.str n)) = decide (n ∈ a)
  | [], n => by simp
  | x :: xs, n => by
    simp only [List.map_cons, List.any_cons, any_strs xs n, List.mem_cons, PyData.eqv, Bool.decide_or]
    by_cases h : n = x
    · subst h; simp
    · have : (x == n) = false := by simpa using fun z => h z.symm
      simp [h, this]
theorem inA_strs {a : List Str} {n : Str} (h1 : PyData.strOk n = true) (h2 : a.all PyData.strOk = true) : inA (.str n) (.lst (a.map D.str)) = some (decide (n ∈ a)) := by
  show ((toPys (a.map D.str)).bind fun qs => if SeqAt.shaped (.str n) = true ∧ SeqAt.shaped (.list qs) = true then some (qs.any fun z => PyData.eqv z (.str n)) else none) = _
  rw [toPys_strs]
  show (if SeqAt.shaped (.str n) = true ∧ SeqAt.shaped (.list (a.map PyData.str)) = true then some ((a.map PyData.str).any fun z => PyData.eqv z (.str n)) else none) = _
  rw [if_pos ⟨shaped_str h1, shaped_strs h2⟩, any_strs]
theorem inA_strsT {a : List Str} {n : Str} (h1 : PyData.strOk n = true) (h2 : a.all PyData.strOk = true) : inA (.str n) (.tup (a.map D.str)) = some (decide (n ∈ a)) := inA_strs h1 h2
theorem inA_ints {a : List Int} {n : Int} : inA (.int n) (.tup (a.map D.int)) = some (decide (n ∈ a)) := by
  show ((toPys (a.map D.int)).bind fun qs => if SeqAt.shaped (.int n) = true ∧ SeqAt.shaped (.list qs) = true then some (qs.any fun z => PyData.eqv z (.int n)) else none) = _
  rw [toPys_ints]
  show (if SeqAt.shaped (.int n) = true ∧ SeqAt.shaped (.list (a.map PyData.int)) = true then some ((a.map PyData.int).any fun z => PyData.eqv z (.int n)) else none) = _
  rw [if_pos ⟨shaped_int n, shaped_ints a⟩, any_ints]
theorem mid_of {i : Int} (h1 : -2 ^ 800 < i) (h2 : i < 2 ^ 800) : Mid i := by
  unfold Mid
  have : i.natAbs < 2 ^ 800 := by omega
  exact Nat.lt_of_lt_of_le this (Nat.pow_le_pow_right (by decide) (by decide))
theorem bOr (w t : Nat) : Builtin.bitOr (w : Int) (t : Int) = ((w ||| t : Nat) : Int) := bitOr_nat w t
theorem bit_int (w d : Nat) : Builtin.bitAnd ((w : Int) / 2 ^ d) 1 = if w.testBit d then 1 else 0 := by
  have e : ((w / 2 ^ d : Nat) : Int) = (w : Int) / 2 ^ d := by simp
  have h := bitAnd_nat (w / 2 ^ d) 1
  rw [Nat.and_one_is_mod] at h
  rw [← e, Nat.testBit_eq_decide_div_mod_eq]
  rcases Nat.mod_two_eq_zero_or_one (w / 2 ^ d) with q | q <;> rw [q] at h ⊢ <;> simpa using h
theorem hi_bit {n k i : Nat} (h : n < 2 ^ k) (hi : k ≤ i) : n.testBit i = false := Nat.testBit_lt_two_pow (Nat.lt_of_lt_of_le h (Nat.pow_le_pow_right (by decide) hi))
theorem shl1 {i : Nat} (h : i < 64) : shlOk 1 (i : Int) = true := by
  unfold shlOk
  rw [show Builtin.Int.intBits 1 = 1 by decide]
  simp; omega
theorem forM_rng {g : TGM} {s : MS} (I : Nat → Env → Prop) (n : Nat) (env : Env) (h : ∀ i < n, ∀ e, I i e → ∃ e1 e2, g (.int (i : Int)) e = some e1 ∧ (s e1 = .nx e2 ∨ s e1 = .cnt e2) ∧ I (i + 1) e2) (h0 : I 0 env) : ∃ e2, forM g s (rngL 0 n) env = .nx e2 ∧ I n e2 := by
  have hl : (rngL 0 n).length = n := by simp [rngL]
  obtain ⟨e2, q, r⟩ := forM_idx (g := g) (s := s) I (rngL 0 n) 0 env (by
    intro i d hd e he
    have hi : i < n := by
      rcases Nat.lt_or_ge i n with q | q
      · exact q
      · rw [List.getElem?_eq_none (by omega)] at hd; cases hd
    have : d = .int (i : Int) := by
      simp only [rngL, List.getElem?_map] at hd
      rw [List.getElem?_range (by omega)] at hd
      simp at hd; exact hd.symm
    subst this
    rw [Nat.zero_add] at he ⊢
    exact h i hi e he) h0
  rw [hl, Nat.zero_add] at r
  exact ⟨e2, q, r⟩
theorem cutD_to {ds : List D} {n : Nat} : cutD ds none (some (n : Int)) = ds.take n := by
  show (ds.drop 0).take (HT.sIx ds.length ds.length (some (n : Int)) - 0) = _
  rw [HT.sIx_nat, List.drop_zero, Nat.sub_zero]
  rcases Nat.le_total n ds.length with h | h
  · rw [Nat.min_eq_left h]
  · rw [Nat.min_eq_right h, List.take_length, List.take_of_length_le h]
theorem compL_map {α : Type} {vs : List Nat} {g : TGM} {te : M} {env : Env} (h f : α → D) (hv : vsOk env vs = true) : ∀ (xs : List α),
    (∀ x ∈ xs, ∃ e1 e3, g (h x) (wipeE env vs) = some e1 ∧ te e1 = .ok (f x) e3 ∧ restE env e3 vs = env) → compL vs g yesT te (xs.map h) env = .ok (xs.map f) env
  | [], _ => rfl
  | x :: xs, k => by
    obtain ⟨e1, e3, q1, q2, q3⟩ := k x (by simp)
    have ih := compL_map h f hv xs fun d hd => k d (by simp [hd])
    rw [List.map_cons, compL_c, if_pos hv, q1]
    simp [q2, q3, ih]
theorem compL_mapF {α : Type} {vs : List Nat} {g : TGM} {tt : MT} {te : M} {env : Env} (h f : α → D) (p : α → Bool) (hv : vsOk env vs = true) : ∀ (xs : List α),
    (∀ x ∈ xs, ∃ e1 e2, g (h x) (wipeE env vs) = some e1 ∧ tt e1 = .ok (p x) e2 ∧ (p x = false → restE env e2 vs = env) ∧ (p x = true → ∃ e3, te e2 = .ok (f x) e3 ∧ restE env e3 vs = env)) → compL vs g tt te (xs.map h) env = .ok ((xs.filter p).map f) env
  | [], _ => rfl
  | x :: xs, k => by
    obtain ⟨e1, e2, q1, q2, q3, q4⟩ := k x (by simp)
    have ih := compL_mapF h f p hv xs fun d hd => k d (by simp [hd])
    rw [List.map_cons, compL_c, if_pos hv, q1]
    cases hp : p x with
    | false => rw [hp] at q2; simp [q2, q3 hp, ih, hp]
    | true =>
      obtain ⟨e3, q5, q6⟩ := q4 hp
      rw [hp] at q2; simp [q2, q5, q6, ih, hp]
end Ue
set_option linter.all false
set_option Elab.async false
set_option maxRecDepth 100000
set_option maxHeartbeats 4000000
noncomputable section
namespace Lw
open PySem PySem.Spec L2 Ue
theorem fx_Marks_names : (FL_Marks.take 0).contains "names" = false := by decide +kernel
theorem fx_Marks_count : (FL_Marks.take 1).contains "count" = false := by decide +kernel
theorem fx_Marks_days : (FL_Marks.take 2).contains "days" = false := by decide +kernel
theorem fx_Marks_all_days : (FL_Marks.take 3).contains "all_days" = false := by decide +kernel
theorem fx_Order_layers : (FL_Order.take 0).contains "layers" = false := by decide +kernel
@[simp] theorem is_int_non : isC ty_int cn_int .non = some false := (rfl)
@[simp] theorem is_int_bl {x : Bool} : isC ty_int cn_int (.bl x) = some true := (rfl)
@[simp] theorem is_int_int {x : Int} : isC ty_int cn_int (.int x) = some true := (rfl)
@[simp] theorem is_int_str {x : Str} : isC ty_int cn_int (.str x) = some false := (rfl)
@[simp] theorem is_int_tup {x : List D} : isC ty_int cn_int (.tup x) = some false := (rfl)
@[simp] theorem is_int_lst {x : List D} : isC ty_int cn_int (.lst x) = some false := (rfl)
@[simp] theorem is_int_scr {x : List Int} : isC ty_int cn_int (.scr x) = some false := (rfl)
@[simp] theorem is_int_dct {x : List (Key × V)} : isC ty_int cn_int (.dct x) = some false := (rfl)
@[simp] theorem is_int_o0 {x : List D} : isC ty_int cn_int (.obj 0 x) = some false := (rfl)
@[simp] theorem is_int_o1 {x : List D} : isC ty_int cn_int (.obj 1 x) = some false := (rfl)
@[simp] theorem is_bool_non : isC ty_bool cn_bool .non = some false := (rfl)
@[simp] theorem is_bool_bl {x : Bool} : isC ty_bool cn_bool (.bl x) = some true := (rfl)
@[simp] theorem is_bool_int {x : Int} : isC ty_bool cn_bool (.int x) = some false := (rfl)
@[simp] theorem is_bool_str {x : Str} : isC ty_bool cn_bool (.str x) = some false := (rfl)
@[simp] theorem is_bool_tup {x : List D} : isC ty_bool cn_bool (.tup x) = some false := (rfl)
@[simp] theorem is_bool_lst {x : List D} : isC ty_bool cn_bool (.lst x) = some false := (rfl)
@[simp] theorem is_bool_scr {x : List Int} : isC ty_bool cn_bool (.scr x) = some false := (rfl)
@[simp] theorem is_bool_dct {x : List (Key × V)} : isC ty_bool cn_bool (.dct x) = some false := (rfl)
@[simp] theorem is_bool_o0 {x : List D} : isC ty_bool cn_bool (.obj 0 x) = some false := (rfl)
@[simp] theorem is_bool_o1 {x : List D} : isC ty_bool cn_bool (.obj 1 x) = some false := (rfl)
@[simp] theorem is_str_non : isC ty_str cn_str .non = some false := (rfl)
@[simp] theorem is_str_bl {x : Bool} : isC ty_str cn_str (.bl x) = some false := (rfl)
@[simp] theorem is_str_int {x : Int} : isC ty_str cn_str (.int x) = some false := (rfl)
@[simp] theorem is_str_str {x : Str} : isC ty_str cn_str (.str x) = some true := (rfl)
@[simp] theorem is_str_tup {x : List D} : isC ty_str cn_str (.tup x) = some false := (rfl)
@[simp] theorem is_str_lst {x : List D} : isC ty_str cn_str (.lst x) = some false := (rfl)
@[simp] theorem is_str_scr {x : List Int} : isC ty_str cn_str (.scr x) = some false := (rfl)
@[simp] theorem is_str_dct {x : List (Key × V)} : isC ty_str cn_str (.dct x) = some false := (rfl)
@[simp] theorem is_str_o0 {x : List D} : isC ty_str cn_str (.obj 0 x) = some false := (rfl)
@[simp] theorem is_str_o1 {x : List D} : isC ty_str cn_str (.obj 1 x) = some false := (rfl)
@[simp] theorem is_list_tuple_non : isC ty_list_tuple cn_list_tuple .non = some false := (rfl)
@[simp] theorem is_list_tuple_bl {x : Bool} : isC ty_list_tuple cn_list_tuple (.bl x) = some false := (rfl)
@[simp] theorem is_list_tuple_int {x : Int} : isC ty_list_tuple cn_list_tuple (.int x) = some false := (rfl)
@[simp] theorem is_list_tuple_str {x : Str} : isC ty_list_tuple cn_list_tuple (.str x) = some false := (rfl)
@[simp] theorem is_list_tuple_tup {x : List D} : isC ty_list_tuple cn_list_tuple (.tup x) = some true := (rfl)
@[simp] theorem is_list_tuple_lst {x : List D} : isC ty_list_tuple cn_list_tuple (.lst x) = some true := (rfl)
@[simp] theorem is_list_tuple_scr {x : List Int} : isC ty_list_tuple cn_list_tuple (.scr x) = some true := (rfl)
@[simp] theorem is_list_tuple_dct {x : List (Key × V)} : isC ty_list_tuple cn_list_tuple (.dct x) = some false := (rfl)
@[simp] theorem is_list_tuple_o0 {x : List D} : isC ty_list_tuple cn_list_tuple (.obj 0 x) = some false := (rfl)
@[simp] theorem is_list_tuple_o1 {x : List D} : isC ty_list_tuple cn_list_tuple (.obj 1 x) = some false := (rfl)
@[simp] theorem is_Marks_non : isC ty_Marks cn_Marks .non = some false := (rfl)
@[simp] theorem is_Marks_bl {x : Bool} : isC ty_Marks cn_Marks (.bl x) = some false := (rfl)
@[simp] theorem is_Marks_int {x : Int} : isC ty_Marks cn_Marks (.int x) = some false := (rfl)
@[simp] theorem is_Marks_str {x : Str} : isC ty_Marks cn_Marks (.str x) = some false := (rfl)
@[simp] theorem is_Marks_tup {x : List D} : isC ty_Marks cn_Marks (.tup x) = some false := (rfl)
@[simp] theorem is_Marks_lst {x : List D} : isC ty_Marks cn_Marks (.lst x) = some false := (rfl)
@[simp] theorem is_Marks_scr {x : List Int} : isC ty_Marks cn_Marks (.scr x) = some false := (rfl)
@[simp] theorem is_Marks_dct {x : List (Key × V)} : isC ty_Marks cn_Marks (.dct x) = some false := (rfl)
@[simp] theorem is_Marks_o0 {x : List D} : isC ty_Marks cn_Marks (.obj 0 x) = some true := (rfl)
@[simp] theorem is_Marks_o1 {x : List D} : isC ty_Marks cn_Marks (.obj 1 x) = some false := (rfl)
@[simp] theorem is_Order_non : isC ty_Order cn_Order .non = some false := (rfl)
@[simp] theorem is_Order_bl {x : Bool} : isC ty_Order cn_Order (.bl x) = some false := (rfl)
@[simp] theorem is_Order_int {x : Int} : isC ty_Order cn_Order (.int x) = some false := (rfl)
@[simp] theorem is_Order_str {x : Str} : isC ty_Order cn_Order (.str x) = some false := (rfl)
@[simp] theorem is_Order_tup {x : List D} : isC ty_Order cn_Order (.tup x) = some false := (rfl)
@[simp] theorem is_Order_lst {x : List D} : isC ty_Order cn_Order (.lst x) = some false := (rfl)
@[simp] theorem is_Order_scr {x : List Int} : isC ty_Order cn_Order (.scr x) = some false := (rfl)
@[simp] theorem is_Order_dct {x : List (Key × V)} : isC ty_Order cn_Order (.dct x) = some false := (rfl)
@[simp] theorem is_Order_o0 {x : List D} : isC ty_Order cn_Order (.obj 0 x) = some false := (rfl)
@[simp] theorem is_Order_o1 {x : List D} : isC ty_Order cn_Order (.obj 1 x) = some true := (rfl)
@[simp] theorem is_tuple_non : isC ty_tuple cn_tuple .non = some false := (rfl)
@[simp] theorem is_tuple_bl {x : Bool} : isC ty_tuple cn_tuple (.bl x) = some false := (rfl)
@[simp] theorem is_tuple_int {x : Int} : isC ty_tuple cn_tuple (.int x) = some false := (rfl)
@[simp] theorem is_tuple_str {x : Str} : isC ty_tuple cn_tuple (.str x) = some false := (rfl)
@[simp] theorem is_tuple_tup {x : List D} : isC ty_tuple cn_tuple (.tup x) = some true := (rfl)
@[simp] theorem is_tuple_lst {x : List D} : isC ty_tuple cn_tuple (.lst x) = some false := (rfl)
@[simp] theorem is_tuple_scr {x : List Int} : isC ty_tuple cn_tuple (.scr x) = some false := (rfl)
@[simp] theorem is_tuple_dct {x : List (Key × V)} : isC ty_tuple cn_tuple (.dct x) = some false := (rfl)
@[simp] theorem is_tuple_o0 {x : List D} : isC ty_tuple cn_tuple (.obj 0 x) = some false := (rfl)
@[simp] theorem is_tuple_o1 {x : List D} : isC ty_tuple cn_tuple (.obj 1 x) = some false := (rfl)
theorem scx_BadMarks : FnScope ["self", "what", "index"] ["self", "what", "index"] (defScope s_xBadMarks) := ⟨rfl, rfl, rfl, by decide +kernel, rfl, by decide +kernel, by decide +kernel⟩
theorem scx_NoMark : FnScope ["self", "name"] ["self", "name"] (defScope s_xNoMark) := ⟨rfl, rfl, rfl, by decide +kernel, rfl, by decide +kernel, by decide +kernel⟩
theorem scx_NoDay : FnScope ["self", "day"] ["self", "day"] (defScope s_xNoDay) := ⟨rfl, rfl, rfl, by decide +kernel, rfl, by decide +kernel, by decide +kernel⟩
theorem scx_OtherDays : FnScope ["self"] ["self"] (defScope s_xOtherDays) := ⟨rfl, rfl, rfl, by decide +kernel, rfl, by decide +kernel, by decide +kernel⟩
theorem scx_BadOrder : FnScope ["self", "what"] ["self", "what"] (defScope s_xBadOrder) := ⟨rfl, rfl, rfl, by decide +kernel, rfl, by decide +kernel, by decide +kernel⟩
abbrev N_is_whole : List Str := ["thing", "low", "high"]
theorem sc_is_whole : FnScope N_is_whole ["thing", "low", "high"] (defScope s_is_whole) := ⟨rfl, rfl, rfl, by decide +kernel, rfl, by decide +kernel, by decide +kernel⟩
abbrev N_name_fault : List Str := ["thing", "character"]
theorem sc_name_fault : FnScope N_name_fault ["thing"] (defScope s_name_fault) := ⟨rfl, rfl, rfl, by decide +kernel, rfl, by decide +kernel, by decide +kernel⟩
abbrev N_Marks_init : List Str := ["self", "names", "kept", "index", "name", "fault"]
theorem sc_Marks_init : FnScope N_Marks_init ["self", "names"] (defScope s_Marks_init) := ⟨rfl, rfl, rfl, by decide +kernel, rfl, by decide +kernel, by decide +kernel⟩
abbrev N_check_names : List Str := ["marks", "names", "name"]
theorem sc_check_names : FnScope N_check_names ["marks", "names"] (defScope s_check_names) := ⟨rfl, rfl, rfl, by decide +kernel, rfl, by decide +kernel, by decide +kernel⟩
abbrev N_seen_days : List Str := ["marks", "names", "places", "name", "day", "at", "place"]
theorem sc_seen_days : FnScope N_seen_days ["marks", "names"] (defScope s_seen_days) := ⟨rfl, rfl, rfl, by decide +kernel, rfl, by decide +kernel, by decide +kernel⟩
abbrev N_look_day : List Str := ["marks", "day", "names"]
theorem sc_look_day : FnScope N_look_day ["marks", "day", "names"] (defScope s_look_day) := ⟨rfl, rfl, rfl, by decide +kernel, rfl, by decide +kernel, by decide +kernel⟩
abbrev N_look_of : List Str := ["marks", "layers", "names", "given", "ground", "found", "target", "day"]
theorem sc_look_of : FnScope N_look_of ["marks", "layers", "names"] (defScope s_look_of) := ⟨rfl, rfl, rfl, by decide +kernel, rfl, by decide +kernel, by decide +kernel⟩
abbrev N_spread_over : List Str := ["marks", "layers", "names", "given", "target"]
theorem sc_spread_over : FnScope N_spread_over ["marks", "layers", "names"] (defScope s_spread_over) := ⟨rfl, rfl, rfl, by decide +kernel, rfl, by decide +kernel, by decide +kernel⟩
abbrev N_widened_days : List Str := ["marks", "day_set", "more", "found", "day", "target"]
theorem sc_widened_days : FnScope N_widened_days ["marks", "day_set", "more"] (defScope s_widened_days) := ⟨rfl, rfl, rfl, by decide +kernel, rfl, by decide +kernel, by decide +kernel⟩
abbrev N_checked_layers : List Str := ["layers", "layer"]
theorem sc_checked_layers : FnScope N_checked_layers ["layers"] (defScope s_checked_layers) := ⟨rfl, rfl, rfl, by decide +kernel, rfl, by decide +kernel, by decide +kernel⟩
abbrev N_Order_init : List Str := ["self", "layers"]
theorem sc_Order_init : FnScope N_Order_init ["self", "layers"] (defScope s_Order_init) := ⟨rfl, rfl, rfl, by decide +kernel, rfl, by decide +kernel, by decide +kernel⟩
abbrev N_Order_iter : List Str := ["self"]
theorem sc_Order_iter : FnScope N_Order_iter ["self"] (defScope s_Order_iter) := ⟨rfl, rfl, rfl, by decide +kernel, rfl, by decide +kernel, by decide +kernel⟩
abbrev N_Order_len : List Str := ["self"]
theorem sc_Order_len : FnScope N_Order_len ["self"] (defScope s_Order_len) := ⟨rfl, rfl, rfl, by decide +kernel, rfl, by decide +kernel, by decide +kernel⟩
abbrev N_law_bag : List Str := ["_law_script", "_law_at", "_law_cell", "_law_mix", "_law_k", "_law_each"]
theorem sc_law_bag : FnScope N_law_bag ["_law_script", "_law_at"] (defScope s_law_bag) := ⟨rfl, rfl, rfl, by decide +kernel, rfl, by decide +kernel, by decide +kernel⟩
abbrev N_law_take : List Str := ["_law_bag_here", "_law_many", "_law_digit"]
theorem sc_law_take : FnScope N_law_take ["_law_bag_here", "_law_many"] (defScope s_law_take) := ⟨rfl, rfl, rfl, by decide +kernel, rfl, by decide +kernel, by decide +kernel⟩
abbrev N_law_of : List Str := ["_law_bag_here", "_law_some"]
theorem sc_law_of : FnScope N_law_of ["_law_bag_here", "_law_some"] (defScope s_law_of) := ⟨rfl, rfl, rfl, by decide +kernel, rfl, by decide +kernel, by decide +kernel⟩
abbrev N_law_name : List Str := ["_law_bag_here", "_law_taken", "_law_letters", "_law_name_here", "_law_k"]
theorem sc_law_name : FnScope N_law_name ["_law_bag_here", "_law_taken"] (defScope s_law_name) := ⟨rfl, rfl, rfl, by decide +kernel, rfl, by decide +kernel, by decide +kernel⟩
abbrev N_law_mixed : List Str := ["_law_bag_here", "_law_some", "_law_left", "_law_found", "_law_k"]
theorem sc_law_mixed : FnScope N_law_mixed ["_law_bag_here", "_law_some"] (defScope s_law_mixed) := ⟨rfl, rfl, rfl, by decide +kernel, rfl, by decide +kernel, by decide +kernel⟩
abbrev N_law_seen : List Str := ["_law_names", "_law_day", "_law_some", "_law_found", "_law_at", "_law_name_here"]
theorem sc_law_seen : FnScope N_law_seen ["_law_names", "_law_day", "_law_some"] (defScope s_law_seen) := ⟨rfl, rfl, rfl, by decide +kernel, rfl, by decide +kernel, by decide +kernel⟩
abbrev N_law_look : List Str := ["_law_names", "_law_layers", "_law_some", "_law_found", "_law_day", "_law_seen_here"]
theorem sc_law_look : FnScope N_law_look ["_law_names", "_law_layers", "_law_some"] (defScope s_law_look) := ⟨rfl, rfl, rfl, by decide +kernel, rfl, by decide +kernel, by decide +kernel⟩
abbrev N_law_wide : List Str := ["_law_names", "_law_day_set", "_law_more", "_law_found", "_law_day"]
theorem sc_law_wide : FnScope N_law_wide ["_law_names", "_law_day_set", "_law_more"] (defScope s_law_wide) := ⟨rfl, rfl, rfl, by decide +kernel, rfl, by decide +kernel, by decide +kernel⟩
abbrev N_law_numbers : List Str := ["_law_bag_here", "_law_many", "_law_size", "_law_k"]
theorem sc_law_numbers : FnScope N_law_numbers ["_law_bag_here", "_law_many"] (defScope s_law_numbers) := ⟨rfl, rfl, rfl, by decide +kernel, rfl, by decide +kernel, by decide +kernel⟩
abbrev N_law_told : List Str := ["_law_which", "_law_marks", "_law_thing", "_law_names", "_law_found", "e"]
theorem sc_law_told : FnScope N_law_told ["_law_which", "_law_marks", "_law_thing", "_law_names"] (defScope s_law_told) := ⟨rfl, rfl, rfl, by decide +kernel, rfl, by decide +kernel, by decide +kernel⟩
abbrev N_law_right : List Str := ["_law_bag_here", "_law_taken", "_law_some", "_law_marks", "_law_days", "_law_day", "_law_told_here", "_law_layers", "_law_ground", "_law_lowest", "_law_kept", "_law_due", "_law_rows", "_law_order", "_law_wide_here", "_law_layer"]
theorem sc_law_right : FnScope N_law_right ["_law_bag_here", "_law_taken", "_law_some"] (defScope s_law_right) := ⟨rfl, rfl, rfl, by decide +kernel, rfl, by decide +kernel, by decide +kernel⟩
abbrev N_law_strange : List Str := ["_law_bag_here", "_law_taken"]
theorem sc_law_strange : FnScope N_law_strange ["_law_bag_here", "_law_taken"] (defScope s_law_strange) := ⟨rfl, rfl, rfl, by decide +kernel, rfl, by decide +kernel, by decide +kernel⟩
abbrev N_law_wrong : List Str := ["_law_bag_here", "_law_taken", "_law_some", "_law_marks", "_law_days", "_law_odd", "_law_at", "_law_names", "_law_bad", "_law_short", "_law_which", "_law_thing"]
theorem sc_law_wrong : FnScope N_law_wrong ["_law_bag_here", "_law_taken", "_law_some"] (defScope s_law_wrong) := ⟨rfl, rfl, rfl, by decide +kernel, rfl, by decide +kernel, by decide +kernel⟩
abbrev N_law_sets : List Str := ["_law_bag_here", "_law_taken", "_law_some", "_law_fewer", "_law_marks", "_law_days", "_law_told_here", "_law_lacking", "_law_found", "_law_word", "e", "_law_name_here"]
theorem sc_law_sets : FnScope N_law_sets ["_law_bag_here", "_law_taken", "_law_some"] (defScope s_law_sets) := ⟨rfl, rfl, rfl, by decide +kernel, rfl, by decide +kernel, by decide +kernel⟩
abbrev N_law : List Str := ["_law_script", "_law_k", "_law_bag_here", "_law_taken", "_law_j", "_law_mixed_here", "_law_some"]
theorem sc_law : FnScope N_law ["_law_script"] (defScope s_law) := ⟨rfl, rfl, rfl, by decide +kernel, rfl, by decide +kernel, by decide +kernel⟩
def caught_NoMark (c : Nat) : Option Bool := [false, false, true, false, false, false][c]?
def caught_NoDay (c : Nat) : Option Bool := [false, false, false, true, false, false][c]?
def caught_OtherDays (c : Nat) : Option Bool := [false, false, false, false, true, false][c]?
end Lw
end
set_option linter.all false
set_option Elab.async false
set_option maxRecDepth 100000
set_option maxHeartbeats 4000000
namespace Lw
open PySem PySem.Spec L2 Ue
theorem ob_eq (s : PySem.W.SharedT) : ob s = hk.obs s.abs := obsL_eq (HandSHeadRun.getT_eq s)
end Lw
set_option linter.all false
set_option Elab.async false
set_option maxRecDepth 100000
set_option maxHeartbeats 4000000
noncomputable section
namespace Lw
open PySem PySem.Spec L2 Ue
def B_is_whole' : MS := (retM (andV (isTabM ty_int cn_int (varM 0)) (andV (notV (isTabM ty_bool cn_bool (varM 0))) (bV (chainM leI leI (varM 1) (varM 0) (varM 2))))))
def F_is_whole : FM := runF false 3 [] B_is_whole'
theorem u_is_whole (as : List EV) : F_is_whole as = runF false 3 [] (retM (andV (isTabM ty_int cn_int (varM 0)) (andV (notV (isTabM ty_bool cn_bool (varM 0))) (bV (chainM leI leI (varM 1) (varM 0) (varM 2)))))) as := rfl
def L_name_fault_0 : MS := (iffM (cmpM notInStr (varM 1) (cM (.str "abcdefghijklmnopqrstuvwxyz"))) (retM (cM (.str "name"))) nilM)
def T_name_fault_2 : MS := (retM (ifM (cmpM inA (varM 0) (cM (.tup [(.str "and"), (.str "any"), (.str "marks"), (.str "need"), (.str "never"), (.str "not"), (.str "or"), (.str "usually"), (.str "where")]))) (cM (.str "kept")) (cM .non)))
def T_name_fault_1 : MS := (seqM (forS (asStr (varM 0)) (tgN 1) L_name_fault_0) T_name_fault_2)
def B_name_fault' : MS := (seqM (iffM (orT (notT (trM (isTabM ty_str cn_str (varM 0)))) (notT (chainM leI leI (cM (.int 1)) (callM lenD [(varM 0)]) (cM (.int 8))))) (retM (cM (.str "name"))) nilM) T_name_fault_1)
def F_name_fault : FM := runF false 2 [] B_name_fault'
theorem u_name_fault (as : List EV) : F_name_fault as = runF false 2 [] (seqM (iffM (orT (notT (trM (isTabM ty_str cn_str (varM 0)))) (notT (chainM leI leI (cM (.int 1)) (callM lenD [(varM 0)]) (cM (.int 8))))) (retM (cM (.str "name"))) nilM) (seqM (forS (asStr (varM 0)) (tgN 1) L_name_fault_0) (retM (ifM (cmpM inA (varM 0) (cM (.tup [(.str "and"), (.str "any"), (.str "marks"), (.str "need"), (.str "never"), (.str "not"), (.str "or"), (.str "usually"), (.str "where")]))) (cM (.str "kept")) (cM .non))))) as := rfl
def L_Marks_init_0 : MS := (seqM (setM 5 (fnM F_name_fault [.p (varM 4)] [])) (seqM (iffM (andT (cmpM isN (varM 5) (cM .non)) (cmpM inA (varM 4) (ovarM 2))) (setM 5 (cM (.str "twice"))) nilM) (seqM (iffM (cmpM notN (varM 5) (cM .non)) (raiseM 1 [(varM 5), (varM 3)]) nilM) (exprM (mtM 2 appG [(varM 4)])))))
def T_Marks_init_6 : MS := (stfM 0 0 3 (op2M subI (op2M shlI (cM (.int 1)) (natM 0 0 2)) (cM (.int 1))))
def T_Marks_init_5 : MS := (seqM (stfM 0 0 2 (op2M shlI (cM (.int 1)) (callM lenD [(varM 2)]))) T_Marks_init_6)
def T_Marks_init_4 : MS := (seqM (stfM 0 0 1 (callM lenD [(varM 2)])) T_Marks_init_5)
def T_Marks_init_3 : MS := (seqM (stfM 0 0 0 (callM tupXD [(frzM 2)])) T_Marks_init_4)
def T_Marks_init_2 : MS := (seqM (forS (enumAM (varM 1)) (tgT [(tgN 3), (tgN 4)]) L_Marks_init_0) T_Marks_init_3)
def T_Marks_init_1 : MS := (seqM (setOM 2 (lstM [])) T_Marks_init_2)
def B_Marks_init' : MS := (seqM (iffM (orT (notT (trM (isTabM ty_list_tuple cn_list_tuple (varM 1)))) (notT (chainM leI leI (cM (.int 1)) (callM lenD [(varM 1)]) (cM (.int 4))))) (raiseM 1 [(cM (.str "count")), (cM .non)]) nilM) T_Marks_init_1)
def F_Marks_init : FM := runF false 6 [0] B_Marks_init'
theorem u_Marks_init (as : List EV) : F_Marks_init as = runF false 6 [0] (seqM (iffM (orT (notT (trM (isTabM ty_list_tuple cn_list_tuple (varM 1)))) (notT (chainM leI leI (cM (.int 1)) (callM lenD [(varM 1)]) (cM (.int 4))))) (raiseM 1 [(cM (.str "count")), (cM .non)]) nilM) (seqM (setOM 2 (lstM [])) (seqM (forS (enumAM (varM 1)) (tgT [(tgN 3), (tgN 4)]) L_Marks_init_0) (seqM (stfM 0 0 0 (callM tupXD [(frzM 2)])) (seqM (stfM 0 0 1 (callM lenD [(varM 2)])) (seqM (stfM 0 0 2 (op2M shlI (cM (.int 1)) (callM lenD [(varM 2)]))) (stfM 0 0 3 (op2M subI (op2M shlI (cM (.int 1)) (natM 0 0 2)) (cM (.int 1)))))))))) as := rfl
def L_check_names_0 : MS := (iffM (cmpM notInA (varM 2) (unxM (attrM 0 0 (varM 0)))) (raiseM 2 [(varM 2)]) nilM)
def B_check_names' : MS := (forS (asSeq (varM 1)) (tgN 2) L_check_names_0)
def F_check_names : FM := runF false 3 [] B_check_names'
theorem u_check_names (as : List EV) : F_check_names as = runF false 3 [] (forS (asSeq (varM 1)) (tgN 2) L_check_names_0) as := rfl
def B_seen_days' : MS := (seqM (setM 2 (compM [3] (asSeq (varM 1)) (tgN 3) yesT (idxXM (attrM 0 0 (varM 0)) (varM 3)))) (retM (compM [4] (rng1M (attrM 0 2 (varM 0))) (tgN 4) yesT (callM sumAD [(compM [5, 6] (enumM (varM 2)) (tgT [(tgN 5), (tgN 6)]) yesT (op2M shlI (op2M andI (op2M shrI (varM 4) (varM 6)) (cM (.int 1))) (varM 5)))]))))
def F_seen_days : FM := runF true 7 [] B_seen_days'
theorem u_seen_days (as : List EV) : F_seen_days as = runF true 7 [] (seqM (setM 2 (compM [3] (asSeq (varM 1)) (tgN 3) yesT (idxXM (attrM 0 0 (varM 0)) (varM 3)))) (retM (compM [4] (rng1M (attrM 0 2 (varM 0))) (tgN 4) yesT (callM sumAD [(compM [5, 6] (enumM (varM 2)) (tgT [(tgN 5), (tgN 6)]) yesT (op2M shlI (op2M andI (op2M shrI (varM 4) (varM 6)) (cM (.int 1))) (varM 5)))])))) as := rfl
def T_look_day_2 : MS := (retM (op2M ixD (fnM F_seen_days [.p (varM 0), .p (varM 2)] []) (varM 1)))
def T_look_day_1 : MS := (seqM (iffM (notT (trM (fnM F_is_whole [.p (varM 1), .p (cM (.int 0)), .p (op2M subI (attrM 0 2 (varM 0)) (cM (.int 1)))] []))) (raiseM 3 [(varM 1)]) nilM) T_look_day_2)
def B_look_day' : MS := (seqM (exprM (fnM F_check_names [.p (varM 0), .p (varM 2)] [])) T_look_day_1)
def F_look_day : FM := runF false 3 [] B_look_day'
theorem u_look_day (as : List EV) : F_look_day as = runF false 3 [] (seqM (exprM (fnM F_check_names [.p (varM 0), .p (varM 2)] [])) (seqM (iffM (notT (trM (fnM F_is_whole [.p (varM 1), .p (cM (.int 0)), .p (op2M subI (attrM 0 2 (varM 0)) (cM (.int 1)))] []))) (raiseM 3 [(varM 1)]) nilM) (retM (op2M ixD (fnM F_seen_days [.p (varM 0), .p (varM 2)] []) (varM 1))))) as := rfl
def B_Order_len' : MS := (retM (callM lenD [(attrM 1 0 (varM 0))]))
def F_Order_len : FM := runF false 1 [] B_Order_len'
theorem u_Order_len (as : List EV) : F_Order_len as = runF false 1 [] (retM (callM lenD [(attrM 1 0 (varM 0))])) as := rfl
def L_look_of_0 : MS := (exprM (mtM 5 appG [(callM minAD [(compM [7] (rng1M (attrM 0 2 (varM 0))) (tgN 7) (cmpM eqS (op2M ixD (varM 4) (varM 7)) (varM 6)) (op2M ixD (varM 3) (varM 7)))])]))
def T_look_of_6 : MS := (retM (callM tupleD [(frzM 5)]))
def T_look_of_5 : MS := (seqM (forS (rng1M (op2M shlI (cM (.int 1)) (callM lenD [(varM 2)]))) (tgN 6) L_look_of_0) T_look_of_6)
def T_look_of_4 : MS := (seqM (setOM 5 (lstM [])) T_look_of_5)
def T_look_of_3 : MS := (seqM (setM 4 (fnM F_seen_days [.p (varM 0), .p (varM 2)] [])) T_look_of_4)
def T_look_of_2 : MS := (seqM (iffM (cmpM neS (callM lenD [(varM 3)]) (attrM 0 2 (varM 0))) (raiseM 4 []) nilM) T_look_of_3)
def T_look_of_1 : MS := (seqM (setM 3 (pickM (varM 1) (lstO 1 0 F_Order_len (varM 1)) (callM listD [(varM 1)]))) T_look_of_2)
def B_look_of' : MS := (seqM (exprM (fnM F_check_names [.p (varM 0), .p (varM 2)] [])) T_look_of_1)
def F_look_of : FM := runF false 8 [] B_look_of'
theorem u_look_of (as : List EV) : F_look_of as = runF false 8 [] (seqM (exprM (fnM F_check_names [.p (varM 0), .p (varM 2)] [])) (seqM (setM 3 (pickM (varM 1) (lstO 1 0 F_Order_len (varM 1)) (callM listD [(varM 1)]))) (seqM (iffM (cmpM neS (callM lenD [(varM 3)]) (attrM 0 2 (varM 0))) (raiseM 4 []) nilM) (seqM (setM 4 (fnM F_seen_days [.p (varM 0), .p (varM 2)] [])) (seqM (setOM 5 (lstM [])) (seqM (forS (rng1M (op2M shlI (cM (.int 1)) (callM lenD [(varM 2)]))) (tgN 6) L_look_of_0) (retM (callM tupleD [(frzM 5)])))))))) as := rfl
def T_spread_over_3 : MS := (retM (callM tupleD [(compM [4] (asL (fnM F_seen_days [.p (varM 0), .p (varM 2)] [])) (tgN 4) yesT (op2M ixD (varM 3) (varM 4)))]))
def T_spread_over_2 : MS := (seqM (iffM (cmpM neS (callM lenD [(varM 3)]) (op2M shlI (cM (.int 1)) (callM lenD [(varM 2)]))) (raiseM 4 []) nilM) T_spread_over_3)
def T_spread_over_1 : MS := (seqM (setM 3 (pickM (varM 1) (lstO 1 0 F_Order_len (varM 1)) (callM listD [(varM 1)]))) T_spread_over_2)
def B_spread_over' : MS := (seqM (exprM (fnM F_check_names [.p (varM 0), .p (varM 2)] [])) T_spread_over_1)
def F_spread_over : FM := runF false 5 [] B_spread_over'
theorem u_spread_over (as : List EV) : F_spread_over as = runF false 5 [] (seqM (exprM (fnM F_check_names [.p (varM 0), .p (varM 2)] [])) (seqM (setM 3 (pickM (varM 1) (lstO 1 0 F_Order_len (varM 1)) (callM listD [(varM 1)]))) (seqM (iffM (cmpM neS (callM lenD [(varM 3)]) (op2M shlI (cM (.int 1)) (callM lenD [(varM 2)]))) (raiseM 4 []) nilM) (retM (callM tupleD [(compM [4] (asL (fnM F_seen_days [.p (varM 0), .p (varM 2)] [])) (tgN 4) yesT (op2M ixD (varM 3) (varM 4)))]))))) as := rfl
def L_widened_days_0 : MS := (iffM (cmpM eqS (op2M andI (op2M shrI (varM 1) (varM 5)) (cM (.int 1))) (cM (.int 1))) (setM 3 (op2M orI (varM 3) (op2M shlI (cM (.int 1)) (varM 4)))) nilM)
def T_widened_days_3 : MS := (retM (varM 3))
def T_widened_days_2 : MS := (seqM (forS (enumM (fnM F_seen_days [.p (varM 2), .p (unxM (attrM 0 0 (varM 0)))] [])) (tgT [(tgN 4), (tgN 5)]) L_widened_days_0) T_widened_days_3)
def T_widened_days_1 : MS := (seqM (setM 3 (cM (.int 0))) T_widened_days_2)
def B_widened_days' : MS := (seqM (exprM (fnM F_check_names [.p (varM 2), .p (unxM (attrM 0 0 (varM 0)))] [])) T_widened_days_1)
def F_widened_days : FM := runF false 6 [] B_widened_days'
theorem u_widened_days (as : List EV) : F_widened_days as = runF false 6 [] (seqM (exprM (fnM F_check_names [.p (varM 2), .p (unxM (attrM 0 0 (varM 0)))] [])) (seqM (setM 3 (cM (.int 0))) (seqM (forS (enumM (fnM F_seen_days [.p (varM 2), .p (unxM (attrM 0 0 (varM 0)))] [])) (tgT [(tgN 4), (tgN 5)]) L_widened_days_0) (retM (varM 3))))) as := rfl
def L_checked_layers_0 : MS := (iffM (notT (trM (fnM F_is_whole [.p (varM 1), .p (cM (.int 0)), .p (cM (.int 1000000000000000000000000000000))] []))) (raiseM 5 [(cM (.str "number"))]) nilM)
def T_checked_layers_2 : MS := (retM (callM tupleD [(varM 0)]))
def T_checked_layers_1 : MS := (seqM (forS (asSeq (varM 0)) (tgN 1) L_checked_layers_0) T_checked_layers_2)
def B_checked_layers' : MS := (seqM (iffM (orT (notT (trM (isTabM ty_list_tuple cn_list_tuple (varM 0)))) (cmpM notInA (callM lenD [(varM 0)]) (cM (.tup [(.int 2), (.int 4), (.int 8), (.int 16)])))) (raiseM 5 [(cM (.str "count"))]) nilM) T_checked_layers_1)
def F_checked_layers : FM := runF false 2 [] B_checked_layers'
theorem u_checked_layers (as : List EV) : F_checked_layers as = runF false 2 [] (seqM (iffM (orT (notT (trM (isTabM ty_list_tuple cn_list_tuple (varM 0)))) (cmpM notInA (callM lenD [(varM 0)]) (cM (.tup [(.int 2), (.int 4), (.int 8), (.int 16)])))) (raiseM 5 [(cM (.str "count"))]) nilM) (seqM (forS (asSeq (varM 0)) (tgN 1) L_checked_layers_0) (retM (callM tupleD [(varM 0)])))) as := rfl
def B_Order_init' : MS := (seqM (stfM 1 0 0 (fnM F_checked_layers [.p (varM 1)] [])) (iffM (cmpM gtI (callM minAD [(natM 1 0 0)]) (cM (.int 0))) (raiseM 5 [(cM (.str "bottom"))]) nilM))
def F_Order_init : FM := runF false 2 [0] B_Order_init'
theorem u_Order_init (as : List EV) : F_Order_init as = runF false 2 [0] (seqM (stfM 1 0 0 (fnM F_checked_layers [.p (varM 1)] [])) (iffM (cmpM gtI (callM minAD [(natM 1 0 0)]) (cM (.int 0))) (raiseM 5 [(cM (.str "bottom"))]) nilM)) as := rfl
def L_law_bag_0 : MS := (setM 3 (op2M modI (callM intD [(op2M addI (op2M addI (op2M mulI (varM 3) (cM (.int 40692))) (op2M modI (callM intD [(varM 5)]) (cM (.int 2147483399)))) (op2M mulI (cM (.int 113)) (varM 4)))]) (cM (.int 2147483423))))
def T_law_bag_3 : MS := (retM (lstM [(ifM (cmpM geI (varM 2) (op2M powI (cM (.int 10)) (cM (.int 18)))) (varM 2) (cM (.int 0))), (varM 3), (cM (.int 0))]))
def T_law_bag_2 : MS := (seqM (forS (enumM (slLM (varM 0) none (some (cM (.int 63))))) (tgT [(tgN 4), (tgN 5)]) L_law_bag_0) T_law_bag_3)
def T_law_bag_1 : MS := (seqM (setM 3 (op2M addI (cM (.int 60013)) (op2M mulI (cM (.int 7013)) (varM 1)))) T_law_bag_2)
def B_law_bag' : MS := (seqM (setM 2 (ifM (cmpM ltI (varM 1) (callM lenD [(varM 0)])) (callM absD [(op2M ixD (varM 0) (varM 1))]) (cM (.int 0)))) T_law_bag_1)
def F_law_bag : FM := runF true 6 [] B_law_bag'
theorem u_law_bag (as : List EV) : F_law_bag as = runF true 6 [] (seqM (setM 2 (ifM (cmpM ltI (varM 1) (callM lenD [(varM 0)])) (callM absD [(op2M ixD (varM 0) (varM 1))]) (cM (.int 0)))) (seqM (setM 3 (op2M addI (cM (.int 60013)) (op2M mulI (cM (.int 7013)) (varM 1)))) (seqM (forS (enumM (slLM (varM 0) none (some (cM (.int 63))))) (tgT [(tgN 4), (tgN 5)]) L_law_bag_0) (retM (lstM [(ifM (cmpM geI (varM 2) (op2M powI (cM (.int 10)) (cM (.int 18)))) (varM 2) (cM (.int 0))), (varM 3), (cM (.int 0))]))))) as := rfl
def T_law_take_3 : MS := (retM (op2M modI (op2M fdivI (op2M modI (callM intD [(op2M mulI (op2M ixD (ovarM 0) (cM (.int 1))) (cM (.int 39373)))]) (cM (.int 2147483587))) (cM (.int 64))) (varM 1)))
def T_law_take_2 : MS := (seqM (setIM 0 (op2M modI (callM intD [(op2M addI (op2M addI (op2M mulI (op2M ixD (ovarM 0) (cM (.int 1))) (cM (.int 48271))) (op2M mulI (cM (.int 13)) (op2M ixD (ovarM 0) (cM (.int 2))))) (cM (.int 5)))]) (cM (.int 2147483647))) (cM (.int 1))) T_law_take_3)
def T_law_take_1 : MS := (seqM (setIM 0 (op2M addI (op2M ixD (ovarM 0) (cM (.int 2))) (cM (.int 1))) (cM (.int 2))) T_law_take_2)
def B_law_take' : MS := (seqM (iffM (cmpM gtI (op2M ixD (ovarM 0) (cM (.int 0))) (cM (.int 0))) (seqM (setM 2 (op2M modI (callM intD [(op2M ixD (ovarM 0) (cM (.int 0)))]) (varM 1))) (seqM (setIM 0 (op2M fdivI (op2M ixD (ovarM 0) (cM (.int 0))) (varM 1)) (cM (.int 0))) (retM (varM 2)))) nilM) T_law_take_1)
def F_law_take : FM := runF false 3 [0] B_law_take'
theorem u_law_take (as : List EV) : F_law_take as = runF false 3 [0] (seqM (iffM (cmpM gtI (op2M ixD (ovarM 0) (cM (.int 0))) (cM (.int 0))) (seqM (setM 2 (op2M modI (callM intD [(op2M ixD (ovarM 0) (cM (.int 0)))]) (varM 1))) (seqM (setIM 0 (op2M fdivI (op2M ixD (ovarM 0) (cM (.int 0))) (varM 1)) (cM (.int 0))) (retM (varM 2)))) nilM) (seqM (setIM 0 (op2M addI (op2M ixD (ovarM 0) (cM (.int 2))) (cM (.int 1))) (cM (.int 2))) (seqM (setIM 0 (op2M modI (callM intD [(op2M addI (op2M addI (op2M mulI (op2M ixD (ovarM 0) (cM (.int 1))) (cM (.int 48271))) (op2M mulI (cM (.int 13)) (op2M ixD (ovarM 0) (cM (.int 2))))) (cM (.int 5)))]) (cM (.int 2147483647))) (cM (.int 1))) (retM (op2M modI (op2M fdivI (op2M modI (callM intD [(op2M mulI (op2M ixD (ovarM 0) (cM (.int 1))) (cM (.int 39373)))]) (cM (.int 2147483587))) (cM (.int 64))) (varM 1)))))) as := rfl
def B_law_of' : MS := (retM (op2M ixD (varM 1) (fnM F_law_take [.o 0, .p (callM lenD [(varM 1)])] [])))
def F_law_of : FM := runF false 2 [0] B_law_of'
theorem u_law_of (as : List EV) : F_law_of as = runF false 2 [0] (retM (op2M ixD (varM 1) (fnM F_law_take [.o 0, .p (callM lenD [(varM 1)])] []))) as := rfl
def L_law_name_0 : MS := (setM 3 (op2M addS (varM 3) (op2M ixD (varM 2) (fnM F_law_take [.o 0, .p (cM (.int 26))] []))))
def L_law_name_1 : MS := (iffM (orT (cmpM inA (varM 3) (ovarM 1)) (cmpM inA (varM 3) (lstM [(cM (.str "and")), (cM (.str "any")), (cM (.str "not")), (cM (.str "or"))]))) (setM 3 (op2M addS (varM 3) (cM (.str "q")))) nilM)
def T_law_name_4 : MS := (retM (varM 3))
def T_law_name_3 : MS := (seqM (exprM (mtM 1 appG [(varM 3)])) T_law_name_4)
def T_law_name_2 : MS := (seqM (forS (rng1M (cM (.int 6))) (tgN 4) L_law_name_1) T_law_name_3)
def T_law_name_1 : MS := (seqM (forS (rng1M (op2M addI (cM (.int 1)) (fnM F_law_take [.o 0, .p (cM (.int 3))] []))) (tgN 4) L_law_name_0) T_law_name_2)
def B_law_name' : MS := (seqM (asgM (tgT [(tgN 2), (tgN 3)]) (tupM [(cM (.str "abcdefghijklmnopqrstuvwxyz")), (cM (.str ""))])) T_law_name_1)
def F_law_name : FM := runF false 5 [0, 1] B_law_name'
theorem u_law_name (as : List EV) : F_law_name as = runF false 5 [0, 1] (seqM (asgM (tgT [(tgN 2), (tgN 3)]) (tupM [(cM (.str "abcdefghijklmnopqrstuvwxyz")), (cM (.str ""))])) (seqM (forS (rng1M (op2M addI (cM (.int 1)) (fnM F_law_take [.o 0, .p (cM (.int 3))] []))) (tgN 4) L_law_name_0) (seqM (forS (rng1M (cM (.int 6))) (tgN 4) L_law_name_1) (seqM (exprM (mtM 1 appG [(varM 3)])) (retM (varM 3)))))) as := rfl
def L_law_mixed_0 : MS := (exprM (mtM 3 appG [(mtM 2 popAtG [(fnM F_law_take [.o 0, .p (callM lenD [(ovarM 2)])] [])])]))
def T_law_mixed_2 : MS := (retOM 3)
def T_law_mixed_1 : MS := (seqM (forS (rng1M (callM lenD [(varM 1)])) (tgN 4) L_law_mixed_0) T_law_mixed_2)
def B_law_mixed' : MS := (seqM (parKM true true 2 3 (callM listD [(varM 1)]) (lstM [])) T_law_mixed_1)
def F_law_mixed : FM := runF true 5 [0] B_law_mixed'
theorem u_law_mixed (as : List EV) : F_law_mixed as = runF true 5 [0] (seqM (parKM true true 2 3 (callM listD [(varM 1)]) (lstM [])) (seqM (forS (rng1M (callM lenD [(varM 1)])) (tgN 4) L_law_mixed_0) (retOM 3))) as := rfl
def L_law_seen_0 : MS := (setM 3 (op2M addI (varM 3) (op2M mulI (op2M andI (op2M shrI (varM 1) (idxLM (varM 0) (varM 5))) (cM (.int 1))) (op2M shlI (cM (.int 1)) (varM 4)))))
def T_law_seen_2 : MS := (retM (varM 3))
def T_law_seen_1 : MS := (seqM (forS (enumM (varM 2)) (tgT [(tgN 4), (tgN 5)]) L_law_seen_0) T_law_seen_2)
def B_law_seen' : MS := (seqM (setM 3 (cM (.int 0))) T_law_seen_1)
def F_law_seen : FM := runF false 6 [] B_law_seen'
theorem u_law_seen (as : List EV) : F_law_seen as = runF false 6 [] (seqM (setM 3 (cM (.int 0))) (seqM (forS (enumM (varM 2)) (tgT [(tgN 4), (tgN 5)]) L_law_seen_0) (retM (varM 3)))) as := rfl
def L_law_look_0 : MS := (seqM (setM 5 (fnM F_law_seen [.p (varM 0), .p (varM 4), .p (varM 2)] [])) (setIM 3 (ifM (cmpM isN (op2M ixD (ovarM 3) (varM 5)) (cM .non)) (op2M ixD (varM 1) (varM 4)) (callM min2D [(op2M ixD (ovarM 3) (varM 5)), (op2M ixD (varM 1) (varM 4))])) (varM 5)))
def T_law_look_2 : MS := (retOM 3)
def T_law_look_1 : MS := (seqM (forS (rng1M (callM lenD [(varM 1)])) (tgN 4) L_law_look_0) T_law_look_2)
def B_law_look' : MS := (seqM (setOM 3 (op2M repL (lstM [(cM .non)]) (op2M shlI (cM (.int 1)) (callM lenD [(varM 2)])))) T_law_look_1)
def F_law_look : FM := runF true 6 [] B_law_look'
theorem u_law_look (as : List EV) : F_law_look as = runF true 6 [] (seqM (setOM 3 (op2M repL (lstM [(cM .non)]) (op2M shlI (cM (.int 1)) (callM lenD [(varM 2)])))) (seqM (forS (rng1M (callM lenD [(varM 1)])) (tgN 4) L_law_look_0) (retOM 3))) as := rfl
def L_law_wide_0 : MS := (iffM (cmpM eqS (op2M andI (op2M shrI (varM 1) (fnM F_law_seen [.p (varM 2), .p (varM 4), .p (varM 0)] [])) (cM (.int 1))) (cM (.int 1))) (setM 3 (op2M orI (varM 3) (op2M shlI (cM (.int 1)) (varM 4)))) nilM)
def T_law_wide_2 : MS := (retM (varM 3))
def T_law_wide_1 : MS := (seqM (forS (rng1M (op2M shlI (cM (.int 1)) (callM lenD [(varM 2)]))) (tgN 4) L_law_wide_0) T_law_wide_2)
def B_law_wide' : MS := (seqM (setM 3 (cM (.int 0))) T_law_wide_1)
def F_law_wide : FM := runF false 5 [] B_law_wide'
theorem u_law_wide (as : List EV) : F_law_wide as = runF false 5 [] (seqM (setM 3 (cM (.int 0))) (seqM (forS (rng1M (op2M shlI (cM (.int 1)) (callM lenD [(varM 2)]))) (tgN 4) L_law_wide_0) (retM (varM 3)))) as := rfl
def B_law_numbers' : MS := (seqM (setM 2 (fnM F_law_of [.o 0, .p (lstM [(cM (.int 2)), (cM (.int 4)), (cM (.int 9)), (op2M addI (op2M powI (cM (.int 10)) (cM (.int 30))) (cM (.int 1)))])] [])) (retM (compM [3] (rng1M (varM 1)) (tgN 3) yesT (fnM F_law_take [.o 0, .p (varM 2)] []))))
def F_law_numbers : FM := runF true 4 [0] B_law_numbers'
theorem u_law_numbers (as : List EV) : F_law_numbers as = runF true 4 [0] (seqM (setM 2 (fnM F_law_of [.o 0, .p (lstM [(cM (.int 2)), (cM (.int 4)), (cM (.int 9)), (op2M addI (op2M powI (cM (.int 10)) (cM (.int 30))) (cM (.int 1)))])] [])) (retM (compM [3] (rng1M (varM 1)) (tgN 3) yesT (fnM F_law_take [.o 0, .p (varM 2)] [])))) as := rfl
def B_law_told' : MS := (seqM (tryC (iffM (cmpM eqS (varM 0) (cM (.int 0))) (setM 4 (fnM F_look_day [.p (varM 1), .p (varM 2), .p (varM 3)] [])) (iffM (cmpM eqS (varM 0) (cM (.int 1))) (setM 4 (fnM F_look_of [.p (varM 1), .p (varM 2), .p (varM 3)] [])) (setM 4 (fnM F_spread_over [.p (varM 1), .p (varM 2), .p (varM 3)] [])))) (hAs caught_NoMark 5 (retM (lstM [(cM (.str "mark")), (exfM 2 5 0)])) (hAs caught_NoDay 5 (retM (lstM [(cM (.str "day")), (exfM 3 5 0)])) (hAs caught_OtherDays 5 (retM (lstM [(cM (.str "days"))])) hNil)))) (retM (varM 4)))
def F_law_told : FM := runF false 6 [] B_law_told'
theorem u_law_told (as : List EV) : F_law_told as = runF false 6 [] (seqM (tryC (iffM (cmpM eqS (varM 0) (cM (.int 0))) (setM 4 (fnM F_look_day [.p (varM 1), .p (varM 2), .p (varM 3)] [])) (iffM (cmpM eqS (varM 0) (cM (.int 1))) (setM 4 (fnM F_look_of [.p (varM 1), .p (varM 2), .p (varM 3)] [])) (setM 4 (fnM F_spread_over [.p (varM 1), .p (varM 2), .p (varM 3)] [])))) (hAs caught_NoMark 5 (retM (lstM [(cM (.str "mark")), (exfM 2 5 0)])) (hAs caught_NoDay 5 (retM (lstM [(cM (.str "day")), (exfM 3 5 0)])) (hAs caught_OtherDays 5 (retM (lstM [(cM (.str "days"))])) hNil)))) (retM (varM 4))) as := rfl
def L_law_right_0 : MS := (seqM (setM 6 (fnM F_law_told [.p (cM (.int 0)), .p (varM 3), .p (varM 5), .p (varM 2)] [])) (iffM (orT (trM (isTabM ty_bool cn_bool (varM 6))) (cmpM neD (varM 6) (fnM F_law_seen [.p (varM 1), .p (varM 5), .p (varM 2)] []))) (retM (cM (.bl false))) nilM))
def L_law_right_1 : MS := (seqM (setM 6 (fnM F_law_told [.p (cM (.int 1)), .p (varM 3), .p (varM 12), .p (callM tupleD [(varM 2)])] [])) (iffM (orT (notT (trM (isTabM ty_tuple cn_tuple (varM 6)))) (cmpM neD (varM 6) (varM 11))) (retM (cM (.bl false))) nilM))
def T_law_right_10 : MS := (retM (bV (cmpM eqD (fnM F_law_told [.p (cM (.int 1)), .p (varM 3), .p (varM 14), .p (varM 2)] []) (callM tupleD [(varM 8)]))))
def T_law_right_9 : MS := (seqM (iffM (orT (notT (trM (isTabM ty_tuple cn_tuple (varM 14)))) (cmpM neD (varM 14) (callM tupleD [(compM [5] (rng1M (varM 4)) (tgN 5) yesT (op2M ixD (varM 8) (fnM F_law_seen [.p (varM 1), .p (varM 5), .p (varM 2)] [])))]))) (retM (cM (.bl false))) nilM) T_law_right_10)
def T_law_right_8 : MS := (seqM (setM 14 (fnM F_law_told [.p (cM (.int 2)), .p (varM 3), .p (varM 8), .p (varM 2)] [])) T_law_right_9)
def T_law_right_7 : MS := (seqM (iffM (orT (cmpM neD (fnM F_law_told [.p (cM (.int 1)), .p (varM 3), .p (varM 13), .p (varM 2)] []) (callM tupleD [(compM [15] (asT (varM 11)) (tgN 15) yesT (op2M subI (varM 15) (varM 9)))])) (cmpM neD (varM 7) (varM 10))) (retM (cM (.bl false))) nilM) T_law_right_8)
def T_law_right_6 : MS := (seqM (setM 13 (mkM 1 1 F_Order_init [.p (compM [15] (asL (varM 7)) (tgN 15) yesT (op2M subI (varM 15) (varM 9)))] [])) T_law_right_7)
def T_law_right_5 : MS := (seqM (forS (asL (lstM [(varM 7), (callM tupleD [(varM 7)])])) (tgN 12) L_law_right_1) T_law_right_6)
def T_law_right_4 : MS := (seqM (setM 11 (callM tupleD [(fnM F_law_look [.p (varM 1), .p (varM 7), .p (varM 2)] [])])) T_law_right_5)
def T_law_right_3 : MS := (seqM (asgM (tgT [(tgN 9), (tgN 10)]) (tupM [(callM minAD [(varM 7)]), (callM listD [(varM 7)])])) T_law_right_4)
def T_law_right_2 : MS := (seqM (asgM (tgT [(tgN 7), (tgN 8)]) (tupM [(fnM F_law_numbers [.o 0, .p (varM 4)] []), (fnM F_law_numbers [.o 0, .p (op2M shlI (cM (.int 1)) (callM lenD [(varM 2)]))] [])])) T_law_right_3)
def T_law_right_1 : MS := (seqM (forS (rng1M (varM 4)) (tgN 5) L_law_right_0) T_law_right_2)
def B_law_right' : MS := (seqM (parM 3 4 (mkM 0 4 F_Marks_init [.p (varM 1)] []) (op2M shlI (cM (.int 1)) (callM lenD [(varM 1)]))) T_law_right_1)
def F_law_right : FM := runF false 16 [0] B_law_right'
theorem u_law_right (as : List EV) : F_law_right as = runF false 16 [0] (seqM (parM 3 4 (mkM 0 4 F_Marks_init [.p (varM 1)] []) (op2M shlI (cM (.int 1)) (callM lenD [(varM 1)]))) (seqM (forS (rng1M (varM 4)) (tgN 5) L_law_right_0) (seqM (asgM (tgT [(tgN 7), (tgN 8)]) (tupM [(fnM F_law_numbers [.o 0, .p (varM 4)] []), (fnM F_law_numbers [.o 0, .p (op2M shlI (cM (.int 1)) (callM lenD [(varM 2)]))] [])])) (seqM (asgM (tgT [(tgN 9), (tgN 10)]) (tupM [(callM minAD [(varM 7)]), (callM listD [(varM 7)])])) (seqM (setM 11 (callM tupleD [(fnM F_law_look [.p (varM 1), .p (varM 7), .p (varM 2)] [])])) (seqM (forS (asL (lstM [(varM 7), (callM tupleD [(varM 7)])])) (tgN 12) L_law_right_1) (seqM (setM 13 (mkM 1 1 F_Order_init [.p (compM [15] (asL (varM 7)) (tgN 15) yesT (op2M subI (varM 15) (varM 9)))] [])) (seqM (iffM (orT (cmpM neD (fnM F_law_told [.p (cM (.int 1)), .p (varM 3), .p (varM 13), .p (varM 2)] []) (callM tupleD [(compM [15] (asT (varM 11)) (tgN 15) yesT (op2M subI (varM 15) (varM 9)))])) (cmpM neD (varM 7) (varM 10))) (retM (cM (.bl false))) nilM) (seqM (setM 14 (fnM F_law_told [.p (cM (.int 2)), .p (varM 3), .p (varM 8), .p (varM 2)] [])) (seqM (iffM (orT (notT (trM (isTabM ty_tuple cn_tuple (varM 14)))) (cmpM neD (varM 14) (callM tupleD [(compM [5] (rng1M (varM 4)) (tgN 5) yesT (op2M ixD (varM 8) (fnM F_law_seen [.p (varM 1), .p (varM 5), .p (varM 2)] [])))]))) (retM (cM (.bl false))) nilM) (retM (bV (cmpM eqD (fnM F_law_told [.p (cM (.int 1)), .p (varM 3), .p (varM 14), .p (varM 2)] []) (callM tupleD [(varM 8)])))))))))))))) as := rfl
def B_law_strange' : MS := (retM (fnM F_law_of [.o 0, .p (lstM [(op2M addS (op2M addS (op2M addS (cM (.str "x")) (op2M ixD (varM 1) (cM (.int 0)))) (op2M ixD (varM 1) (op1M negI (cM (.int 1))))) (cM (.str "x"))), (cM (.str "")), (cM .non), (cM (.int 0)), (cM (.bl true)), (tupM [(op2M ixD (varM 1) (cM (.int 0)))]), (lstM [(op2M ixD (varM 1) (cM (.int 0)))]), (op2M addS (op2M ixD (varM 1) (cM (.int 0))) (cM (.str "A")))])] []))
def F_law_strange : FM := runF false 2 [0] B_law_strange'
theorem u_law_strange (as : List EV) : F_law_strange as = runF false 2 [0] (retM (fnM F_law_of [.o 0, .p (lstM [(op2M addS (op2M addS (op2M addS (cM (.str "x")) (op2M ixD (varM 1) (cM (.int 0)))) (op2M ixD (varM 1) (op1M negI (cM (.int 1))))) (cM (.str "x"))), (cM (.str "")), (cM .non), (cM (.int 0)), (cM (.bl true)), (tupM [(op2M ixD (varM 1) (cM (.int 0)))]), (lstM [(op2M ixD (varM 1) (cM (.int 0)))]), (op2M addS (op2M ixD (varM 1) (cM (.int 0))) (cM (.str "A")))])] [])) as := rfl
def L_law_wrong_0 : MS := (iffM (cmpM neS (callM reprD [(fnM F_law_told [.p (varM 10), .p (varM 3), .p (varM 11), .p (varM 7)] [])]) (callM reprD [(lstM [(cM (.str "mark")), (varM 5)])])) (retM (cM (.bl false))) nilM)
def T_law_wrong_9 : MS := (retM (bV (cmpM eqD (fnM F_law_told [.p (cM (.int 2)), .p (varM 3), .p (op2M repL (lstM [(cM (.int 0))]) (op2M addI (op2M shlI (cM (.int 1)) (callM lenD [(varM 2)])) (cM (.int 1)))), .p (varM 2)] []) (lstM [(cM (.str "days"))]))))
def T_law_wrong_8 : MS := (seqM (iffM (cmpM neD (fnM F_law_told [.p (cM (.int 1)), .p (varM 3), .p (varM 9), .p (varM 2)] []) (lstM [(cM (.str "days"))])) (retM (cM (.bl false))) nilM) T_law_wrong_9)
def T_law_wrong_7 : MS := (seqM (forS (asL (lstM [(tupM [(cM (.int 0)), (varM 8)]), (tupM [(cM (.int 0)), (cM (.int 0))]), (tupM [(cM (.int 1)), (varM 9)]), (tupM [(cM (.int 1)), (op2M repL (lstM [(cM (.int 0))]) (varM 4))]), (tupM [(cM (.int 2)), (varM 9)])])) (tgT [(tgN 10), (tgN 11)]) L_law_wrong_0) T_law_wrong_8)
def T_law_wrong_6 : MS := (seqM (iffM (cmpM neS (callM reprD [(fnM F_law_told [.p (cM (.int 0)), .p (varM 3), .p (varM 8), .p (varM 2)] [])]) (callM reprD [(lstM [(cM (.str "day")), (varM 8)])])) (retM (cM (.bl false))) nilM) T_law_wrong_7)
def T_law_wrong_5 : MS := (seqM (setM 9 (ifM (cmpM eqS (fnM F_law_take [.o 0, .p (cM (.int 2))] []) (cM (.int 0))) (op2M repL (lstM [(cM (.int 0))]) (op2M subI (varM 4) (cM (.int 1)))) (op2M repL (lstM [(cM (.int 0))]) (op2M mulI (cM (.int 2)) (varM 4))))) T_law_wrong_6)
def T_law_wrong_4 : MS := (seqM (setM 8 (fnM F_law_of [.o 0, .p (lstM [(op1M negI (cM (.int 1))), (varM 4), (op2M addI (varM 4) (fnM F_law_take [.o 0, .p (op2M powI (cM (.int 10)) (cM (.int 20)))] [])), (cM .non), (cM (.str "0")), (cM (.bl true)), (tupM [(cM (.int 0))]), (lstM [(cM (.int 0))])])] [])) T_law_wrong_5)
def T_law_wrong_3 : MS := (seqM (setM 7 (op2M catL (op2M catL (slLM (varM 2) none (some (varM 6))) (lstM [(varM 5)])) (slLM (varM 2) (some (varM 6)) none))) T_law_wrong_4)
def T_law_wrong_2 : MS := (seqM (setM 6 (fnM F_law_take [.o 0, .p (op2M addI (callM lenD [(varM 2)]) (cM (.int 1)))] [])) T_law_wrong_3)
def T_law_wrong_1 : MS := (seqM (setM 5 (fnM F_law_strange [.o 0, .p (varM 1)] [])) T_law_wrong_2)
def B_law_wrong' : MS := (seqM (parM 3 4 (mkM 0 4 F_Marks_init [.p (varM 1)] []) (op2M shlI (cM (.int 1)) (callM lenD [(varM 1)]))) T_law_wrong_1)
def F_law_wrong : FM := runF false 12 [0] B_law_wrong'
theorem u_law_wrong (as : List EV) : F_law_wrong as = runF false 12 [0] (seqM (parM 3 4 (mkM 0 4 F_Marks_init [.p (varM 1)] []) (op2M shlI (cM (.int 1)) (callM lenD [(varM 1)]))) (seqM (setM 5 (fnM F_law_strange [.o 0, .p (varM 1)] [])) (seqM (setM 6 (fnM F_law_take [.o 0, .p (op2M addI (callM lenD [(varM 2)]) (cM (.int 1)))] [])) (seqM (setM 7 (op2M catL (op2M catL (slLM (varM 2) none (some (varM 6))) (lstM [(varM 5)])) (slLM (varM 2) (some (varM 6)) none))) (seqM (setM 8 (fnM F_law_of [.o 0, .p (lstM [(op1M negI (cM (.int 1))), (varM 4), (op2M addI (varM 4) (fnM F_law_take [.o 0, .p (op2M powI (cM (.int 10)) (cM (.int 20)))] [])), (cM .non), (cM (.str "0")), (cM (.bl true)), (tupM [(cM (.int 0))]), (lstM [(cM (.int 0))])])] [])) (seqM (setM 9 (ifM (cmpM eqS (fnM F_law_take [.o 0, .p (cM (.int 2))] []) (cM (.int 0))) (op2M repL (lstM [(cM (.int 0))]) (op2M subI (varM 4) (cM (.int 1)))) (op2M repL (lstM [(cM (.int 0))]) (op2M mulI (cM (.int 2)) (varM 4))))) (seqM (iffM (cmpM neS (callM reprD [(fnM F_law_told [.p (cM (.int 0)), .p (varM 3), .p (varM 8), .p (varM 2)] [])]) (callM reprD [(lstM [(cM (.str "day")), (varM 8)])])) (retM (cM (.bl false))) nilM) (seqM (forS (asL (lstM [(tupM [(cM (.int 0)), (varM 8)]), (tupM [(cM (.int 0)), (cM (.int 0))]), (tupM [(cM (.int 1)), (varM 9)]), (tupM [(cM (.int 1)), (op2M repL (lstM [(cM (.int 0))]) (varM 4))]), (tupM [(cM (.int 2)), (varM 9)])])) (tgT [(tgN 10), (tgN 11)]) L_law_wrong_0) (seqM (iffM (cmpM neD (fnM F_law_told [.p (cM (.int 1)), .p (varM 3), .p (varM 9), .p (varM 2)] []) (lstM [(cM (.str "days"))])) (retM (cM (.bl false))) nilM) (retM (bV (cmpM eqD (fnM F_law_told [.p (cM (.int 2)), .p (varM 3), .p (op2M repL (lstM [(cM (.int 0))]) (op2M addI (op2M shlI (cM (.int 1)) (callM lenD [(varM 2)])) (cM (.int 1)))), .p (varM 2)] []) (lstM [(cM (.str "days"))]))))))))))))) as := rfl
def T_law_sets_7 : MS := (retM (bV (cmpM eqD (varM 9) (ifM (cmpM neNil (varM 7) (lstM [])) (op2M ixD (varM 7) (cM (.int 0))) (cM .non)))))
def T_law_sets_6 : MS := (seqM (tryAsM (seqM (setM 8 (fnM F_widened_days [.p (varM 4), .p (cM (.int 1)), .p (varM 3)] [])) (setM 9 (cM .non))) caught_NoMark 10 (setM 9 (ifM (trM (isXM 10 xt_DaysError)) (exfM 2 10 0) (cM (.str ""))))) T_law_sets_7)
def T_law_sets_5 : MS := (seqM (setM 7 (compM [11] (asL (varM 1)) (tgN 11) (cmpM notInA (varM 11) (varM 2)) (varM 11))) T_law_sets_6)
def T_law_sets_4 : MS := (seqM (iffM (orT (trM (isTabM ty_bool cn_bool (varM 6))) (cmpM neS (varM 6) (fnM F_law_wide [.p (varM 2), .p (varM 5), .p (varM 1)] []))) (retM (cM (.bl false))) nilM) T_law_sets_5)
def T_law_sets_3 : MS := (seqM (setM 6 (fnM F_widened_days [.p (varM 3), .p (varM 5), .p (varM 4)] [])) T_law_sets_4)
def T_law_sets_2 : MS := (seqM (setM 5 (fnM F_law_take [.o 0, .p (op2M shlI (cM (.int 1)) (op2M shlI (cM (.int 1)) (callM lenD [(varM 2)])))] [])) T_law_sets_3)
def T_law_sets_1 : MS := (seqM (parM 3 4 (mkM 0 4 F_Marks_init [.p (varM 2)] []) (mkM 0 4 F_Marks_init [.p (varM 1)] [])) T_law_sets_2)
def B_law_sets' : MS := (seqM (iffM (cmpM eqNil (varM 2) (lstM [])) (retM (cM (.bl true))) nilM) T_law_sets_1)
def F_law_sets : FM := runF false 12 [0] B_law_sets'
theorem u_law_sets (as : List EV) : F_law_sets as = runF false 12 [0] (seqM (iffM (cmpM eqNil (varM 2) (lstM [])) (retM (cM (.bl true))) nilM) (seqM (parM 3 4 (mkM 0 4 F_Marks_init [.p (varM 2)] []) (mkM 0 4 F_Marks_init [.p (varM 1)] [])) (seqM (setM 5 (fnM F_law_take [.o 0, .p (op2M shlI (cM (.int 1)) (op2M shlI (cM (.int 1)) (callM lenD [(varM 2)])))] [])) (seqM (setM 6 (fnM F_widened_days [.p (varM 3), .p (varM 5), .p (varM 4)] [])) (seqM (iffM (orT (trM (isTabM ty_bool cn_bool (varM 6))) (cmpM neS (varM 6) (fnM F_law_wide [.p (varM 2), .p (varM 5), .p (varM 1)] []))) (retM (cM (.bl false))) nilM) (seqM (setM 7 (compM [11] (asL (varM 1)) (tgN 11) (cmpM notInA (varM 11) (varM 2)) (varM 11))) (seqM (tryAsM (seqM (setM 8 (fnM F_widened_days [.p (varM 4), .p (cM (.int 1)), .p (varM 3)] [])) (setM 9 (cM .non))) caught_NoMark 10 (setM 9 (ifM (trM (isXM 10 xt_DaysError)) (exfM 2 10 0) (cM (.str ""))))) (retM (bV (cmpM eqD (varM 9) (ifM (cmpM neNil (varM 7) (lstM [])) (op2M ixD (varM 7) (cM (.int 0))) (cM .non)))))))))))) as := rfl
def L_law_0 : MS := (exprM (fnQ F_law_name [.o 2, .o 3] []))
def L_law_1 : MS := (seqM (parKM true true 2 3 (fnM F_law_bag [.p (varM 0), .p (varM 1)] []) (lstM [])) (seqM (forS (rng1M (fnM F_law_of [.o 2, .p (lstM [(cM (.int 1)), (cM (.int 2)), (cM (.int 2)), (cM (.int 3)), (cM (.int 3)), (cM (.int 4))])] [])) (tgN 4) L_law_0) (seqM (setM 5 (fnM F_law_mixed [.o 2, .p (frzM 3)] [])) (seqM (setM 6 (slLM (varM 5) none (some (fnM F_law_take [.o 2, .p (op2M addI (callM lenD [(varM 5)]) (cM (.int 1)))] [])))) (iffM (notT (andT (trM (fnM F_law_right [.o 2, .p (varM 3), .p (varM 6)] [])) (andT (trM (fnM F_law_wrong [.o 2, .p (varM 3), .p (varM 6)] [])) (trM (fnM F_law_sets [.o 2, .p (varM 3), .p (varM 6)] []))))) (retM (cM (.bl false))) nilM)))))
def B_law' : MS := (seqM (forS (rng1M (cM (.int 3))) (tgN 1) L_law_1) (retM (cM (.bl true))))
def F_law : FM := runF false 7 [] B_law'
theorem u_law (as : List EV) : F_law as = runF false 7 [] (seqM (forS (rng1M (cM (.int 3))) (tgN 1) L_law_1) (retM (cM (.bl true)))) as := rfl
section
variable {P : Program} {w : World} {K : PySem.W.Frag} {h : Heap} {mg : Str → Option Value} {base : Heap}
theorem m_is_whole (KX : K.In h) (G : h.Ns mainGlobals mg) (c : SaysV fa fn gs ex K) : mg "is_whole" = some (.ref (He.ga K "is_whole")) := He.glo_ok KX G (c.d.fact 0 rfl)
theorem m_name_fault (KX : K.In h) (G : h.Ns mainGlobals mg) (c : SaysV fa fn gs ex K) : mg "name_fault" = some (.ref (He.ga K "name_fault")) := He.glo_ok KX G (c.d.fact 1 rfl)
theorem m_check_names (KX : K.In h) (G : h.Ns mainGlobals mg) (c : SaysV fa fn gs ex K) : mg "check_names" = some (.ref (He.ga K "check_names")) := He.glo_ok KX G (c.d.fact 2 rfl)
theorem m_seen_days (KX : K.In h) (G : h.Ns mainGlobals mg) (c : SaysV fa fn gs ex K) : mg "seen_days" = some (.ref (He.ga K "seen_days")) := He.glo_ok KX G (c.d.fact 3 rfl)
theorem m_look_day (KX : K.In h) (G : h.Ns mainGlobals mg) (c : SaysV fa fn gs ex K) : mg "look_day" = some (.ref (He.ga K "look_day")) := He.glo_ok KX G (c.d.fact 4 rfl)
theorem m_look_of (KX : K.In h) (G : h.Ns mainGlobals mg) (c : SaysV fa fn gs ex K) : mg "look_of" = some (.ref (He.ga K "look_of")) := He.glo_ok KX G (c.d.fact 5 rfl)
theorem m_spread_over (KX : K.In h) (G : h.Ns mainGlobals mg) (c : SaysV fa fn gs ex K) : mg "spread_over" = some (.ref (He.ga K "spread_over")) := He.glo_ok KX G (c.d.fact 6 rfl)
theorem m_widened_days (KX : K.In h) (G : h.Ns mainGlobals mg) (c : SaysV fa fn gs ex K) : mg "widened_days" = some (.ref (He.ga K "widened_days")) := He.glo_ok KX G (c.d.fact 7 rfl)
theorem m_checked_layers (KX : K.In h) (G : h.Ns mainGlobals mg) (c : SaysV fa fn gs ex K) : mg "checked_layers" = some (.ref (He.ga K "checked_layers")) := He.glo_ok KX G (c.d.fact 8 rfl)
theorem m__law_bag (KX : K.In h) (G : h.Ns mainGlobals mg) (c : SaysV fa fn gs ex K) : mg "_law_bag" = some (.ref (He.ga K "_law_bag")) := He.glo_ok KX G (c.d.fact 9 rfl)
theorem m__law_take (KX : K.In h) (G : h.Ns mainGlobals mg) (c : SaysV fa fn gs ex K) : mg "_law_take" = some (.ref (He.ga K "_law_take")) := He.glo_ok KX G (c.d.fact 10 rfl)
theorem m__law_of (KX : K.In h) (G : h.Ns mainGlobals mg) (c : SaysV fa fn gs ex K) : mg "_law_of" = some (.ref (He.ga K "_law_of")) := He.glo_ok KX G (c.d.fact 11 rfl)
theorem m__law_name (KX : K.In h) (G : h.Ns mainGlobals mg) (c : SaysV fa fn gs ex K) : mg "_law_name" = some (.ref (He.ga K "_law_name")) := He.glo_ok KX G (c.d.fact 12 rfl)
theorem m__law_mixed (KX : K.In h) (G : h.Ns mainGlobals mg) (c : SaysV fa fn gs ex K) : mg "_law_mixed" = some (.ref (He.ga K "_law_mixed")) := He.glo_ok KX G (c.d.fact 13 rfl)
theorem m__law_seen (KX : K.In h) (G : h.Ns mainGlobals mg) (c : SaysV fa fn gs ex K) : mg "_law_seen" = some (.ref (He.ga K "_law_seen")) := He.glo_ok KX G (c.d.fact 14 rfl)
theorem m__law_look (KX : K.In h) (G : h.Ns mainGlobals mg) (c : SaysV fa fn gs ex K) : mg "_law_look" = some (.ref (He.ga K "_law_look")) := He.glo_ok KX G (c.d.fact 15 rfl)
theorem m__law_wide (KX : K.In h) (G : h.Ns mainGlobals mg) (c : SaysV fa fn gs ex K) : mg "_law_wide" = some (.ref (He.ga K "_law_wide")) := He.glo_ok KX G (c.d.fact 16 rfl)
theorem m__law_numbers (KX : K.In h) (G : h.Ns mainGlobals mg) (c : SaysV fa fn gs ex K) : mg "_law_numbers" = some (.ref (He.ga K "_law_numbers")) := He.glo_ok KX G (c.d.fact 17 rfl)
theorem m__law_told (KX : K.In h) (G : h.Ns mainGlobals mg) (c : SaysV fa fn gs ex K) : mg "_law_told" = some (.ref (He.ga K "_law_told")) := He.glo_ok KX G (c.d.fact 18 rfl)
theorem m__law_right (KX : K.In h) (G : h.Ns mainGlobals mg) (c : SaysV fa fn gs ex K) : mg "_law_right" = some (.ref (He.ga K "_law_right")) := He.glo_ok KX G (c.d.fact 19 rfl)
theorem m__law_strange (KX : K.In h) (G : h.Ns mainGlobals mg) (c : SaysV fa fn gs ex K) : mg "_law_strange" = some (.ref (He.ga K "_law_strange")) := He.glo_ok KX G (c.d.fact 20 rfl)
theorem m__law_wrong (KX : K.In h) (G : h.Ns mainGlobals mg) (c : SaysV fa fn gs ex K) : mg "_law_wrong" = some (.ref (He.ga K "_law_wrong")) := He.glo_ok KX G (c.d.fact 21 rfl)
theorem m__law_sets (KX : K.In h) (G : h.Ns mainGlobals mg) (c : SaysV fa fn gs ex K) : mg "_law_sets" = some (.ref (He.ga K "_law_sets")) := He.glo_ok KX G (c.d.fact 22 rfl)
theorem m_law (KX : K.In h) (G : h.Ns mainGlobals mg) (c : SaysV fa fn gs ex K) : mg "law" = some (.ref (He.ga K "law")) := He.glo_ok KX G (c.d.fact 23 rfl)
theorem m_DaysError (KX : K.In h) (G : h.Ns mainGlobals mg) (c : SaysV fa fn gs ex K) : mg "DaysError" = some (.ref (He.ga K "DaysError")) := He.glo_ok KX G (c.d.fact 24 rfl)
theorem m_BadMarks (KX : K.In h) (G : h.Ns mainGlobals mg) (c : SaysV fa fn gs ex K) : mg "BadMarks" = some (.ref (He.ga K "BadMarks")) := He.glo_ok KX G (c.d.fact 25 rfl)
theorem m_NoMark (KX : K.In h) (G : h.Ns mainGlobals mg) (c : SaysV fa fn gs ex K) : mg "NoMark" = some (.ref (He.ga K "NoMark")) := He.glo_ok KX G (c.d.fact 26 rfl)
theorem m_NoDay (KX : K.In h) (G : h.Ns mainGlobals mg) (c : SaysV fa fn gs ex K) : mg "NoDay" = some (.ref (He.ga K "NoDay")) := He.glo_ok KX G (c.d.fact 27 rfl)
theorem m_OtherDays (KX : K.In h) (G : h.Ns mainGlobals mg) (c : SaysV fa fn gs ex K) : mg "OtherDays" = some (.ref (He.ga K "OtherDays")) := He.glo_ok KX G (c.d.fact 28 rfl)
theorem m_BadOrder (KX : K.In h) (G : h.Ns mainGlobals mg) (c : SaysV fa fn gs ex K) : mg "BadOrder" = some (.ref (He.ga K "BadOrder")) := He.glo_ok KX G (c.d.fact 29 rfl)
theorem m_Marks (KX : K.In h) (G : h.Ns mainGlobals mg) (c : SaysV fa fn gs ex K) : mg "Marks" = some (.ref (He.ga K "Marks")) := He.glo_ok KX G (c.d.fact 30 rfl)
theorem m_Order (KX : K.In h) (G : h.Ns mainGlobals mg) (c : SaysV fa fn gs ex K) : mg "Order" = some (.ref (He.ga K "Order")) := He.glo_ok KX G (c.d.fact 31 rfl)
theorem m_isinstance (KX : K.In h) (G : h.Ns mainGlobals mg) (c : SaysV fa fn gs ex K) : mg "isinstance" = none := He.free_ok KX G (c.d.fact 32 rfl)
theorem m_int (KX : K.In h) (G : h.Ns mainGlobals mg) (c : SaysV fa fn gs ex K) : mg "int" = none := He.free_ok KX G (c.d.fact 33 rfl)
theorem m_bool (KX : K.In h) (G : h.Ns mainGlobals mg) (c : SaysV fa fn gs ex K) : mg "bool" = none := He.free_ok KX G (c.d.fact 34 rfl)
theorem m_str (KX : K.In h) (G : h.Ns mainGlobals mg) (c : SaysV fa fn gs ex K) : mg "str" = none := He.free_ok KX G (c.d.fact 35 rfl)
theorem m_len (KX : K.In h) (G : h.Ns mainGlobals mg) (c : SaysV fa fn gs ex K) : mg "len" = none := He.free_ok KX G (c.d.fact 36 rfl)
theorem m_list (KX : K.In h) (G : h.Ns mainGlobals mg) (c : SaysV fa fn gs ex K) : mg "list" = none := He.free_ok KX G (c.d.fact 37 rfl)
theorem m_tuple (KX : K.In h) (G : h.Ns mainGlobals mg) (c : SaysV fa fn gs ex K) : mg "tuple" = none := He.free_ok KX G (c.d.fact 38 rfl)
theorem m_enumerate (KX : K.In h) (G : h.Ns mainGlobals mg) (c : SaysV fa fn gs ex K) : mg "enumerate" = none := He.free_ok KX G (c.d.fact 39 rfl)
theorem m_range (KX : K.In h) (G : h.Ns mainGlobals mg) (c : SaysV fa fn gs ex K) : mg "range" = none := He.free_ok KX G (c.d.fact 40 rfl)
theorem m_sum (KX : K.In h) (G : h.Ns mainGlobals mg) (c : SaysV fa fn gs ex K) : mg "sum" = none := He.free_ok KX G (c.d.fact 41 rfl)
theorem m_min (KX : K.In h) (G : h.Ns mainGlobals mg) (c : SaysV fa fn gs ex K) : mg "min" = none := He.free_ok KX G (c.d.fact 42 rfl)
theorem m_iter (KX : K.In h) (G : h.Ns mainGlobals mg) (c : SaysV fa fn gs ex K) : mg "iter" = none := He.free_ok KX G (c.d.fact 43 rfl)
theorem m_abs (KX : K.In h) (G : h.Ns mainGlobals mg) (c : SaysV fa fn gs ex K) : mg "abs" = none := He.free_ok KX G (c.d.fact 44 rfl)
theorem m_repr (KX : K.In h) (G : h.Ns mainGlobals mg) (c : SaysV fa fn gs ex K) : mg "repr" = none := He.free_ok KX G (c.d.fact 45 rfl)
theorem m_LONGEST_NAME (KX : K.In h) (G : h.Ns mainGlobals mg) (c : SaysV fa fn gs ex K) : ∃ t, mg "LONGEST_NAME" = some (.int 8 t) := He.int_ok KX G (c.d.fact 46 rfl)
theorem m_LETTERS (KX : K.In h) (G : h.Ns mainGlobals mg) (c : SaysV fa fn gs ex K) : ∃ t, mg "LETTERS" = some (.str "abcdefghijklmnopqrstuvwxyz" t) := He.str_ok KX G (c.d.fact 47 rfl)
theorem m_KEPT_WORDS (KX : K.In h) (G : h.Ns mainGlobals mg) (c : SaysV fa fn gs ex K) : mg "KEPT_WORDS" = some (.ref (He.ga K "KEPT_WORDS")) := He.glo_ok KX G (c.d.fact 48 rfl)
theorem m_MOST_MARKS (KX : K.In h) (G : h.Ns mainGlobals mg) (c : SaysV fa fn gs ex K) : ∃ t, mg "MOST_MARKS" = some (.int 4 t) := He.int_ok KX G (c.d.fact 49 rfl)
theorem m_COUNTS (KX : K.In h) (G : h.Ns mainGlobals mg) (c : SaysV fa fn gs ex K) : mg "COUNTS" = some (.ref (He.ga K "COUNTS")) := He.glo_ok KX G (c.d.fact 50 rfl)
theorem m_HIGHEST (KX : K.In h) (G : h.Ns mainGlobals mg) (c : SaysV fa fn gs ex K) : ∃ t, mg "HIGHEST" = some (.int 1000000000000000000000000000000 t) := He.int_ok KX G (c.d.fact 51 rfl)
theorem cl_Marks (c : SaysV fa fn gs ex K) : Cls K (He.ga K "Marks") := He.cls_ok (c.d.fact 52 rfl)
theorem na_Marks_names (c : SaysV fa fn gs ex K) : NoAttr K (He.ga K "Marks") "names" := He.noat_ok (c.d.fact 53 rfl)
theorem na_Marks_count (c : SaysV fa fn gs ex K) : NoAttr K (He.ga K "Marks") "count" := He.noat_ok (c.d.fact 54 rfl)
theorem na_Marks_days (c : SaysV fa fn gs ex K) : NoAttr K (He.ga K "Marks") "days" := He.noat_ok (c.d.fact 55 rfl)
theorem na_Marks_all_days (c : SaysV fa fn gs ex K) : NoAttr K (He.ga K "Marks") "all_days" := He.noat_ok (c.d.fact 56 rfl)
theorem mk_Marks (c : SaysV fa fn gs ex K) : Mk K (He.ga K "Marks") (He.ma K (He.ga K "Marks") "__init__") := He.mkr_ok (c.d.fact 59 rfl)
theorem cl_Order (c : SaysV fa fn gs ex K) : Cls K (He.ga K "Order") := He.cls_ok (c.d.fact 60 rfl)
theorem na_Order_layers (c : SaysV fa fn gs ex K) : NoAttr K (He.ga K "Order") "layers" := He.noat_ok (c.d.fact 61 rfl)
theorem me_Order___iter__ (c : SaysV fa fn gs ex K) : Meth K (He.ga K "Order") "__iter__" (He.ma K (He.ga K "Order") "__iter__") := He.meth_ok (c.d.fact 63 rfl)
theorem me_Order___len__ (c : SaysV fa fn gs ex K) : Meth K (He.ga K "Order") "__len__" (He.ma K (He.ga K "Order") "__len__") := He.meth_ok (c.d.fact 64 rfl)
theorem mk_Order (c : SaysV fa fn gs ex K) : Mk K (He.ga K "Order") (He.ma K (He.ga K "Order") "__init__") := He.mkr_ok (c.d.fact 66 rfl)
theorem xd_DaysError (c : SaysV fa fn gs ex K) : ClX.CRead K (He.ga K "DaysError") (.type "type") ∧ PySem.W.findCls K (.ref (He.ga K "DaysError")) (.type "type") "__init__" = some (.val (.builtin "ValueError.__init__")) := xdB_ok (allB_ok c.more 0 rfl)
theorem xc_BadMarks (c : SaysV fa fn gs ex K) : XcF K (He.ga K "BadMarks") ["what", "index"] := xcB_ok (allB_ok c.more 1 rfl)
theorem xc_NoMark (c : SaysV fa fn gs ex K) : XcF K (He.ga K "NoMark") ["name"] := xcB_ok (allB_ok c.more 2 rfl)
theorem xc_NoDay (c : SaysV fa fn gs ex K) : XcF K (He.ga K "NoDay") ["day"] := xcB_ok (allB_ok c.more 3 rfl)
theorem xc_OtherDays (c : SaysV fa fn gs ex K) : XcF K (He.ga K "OtherDays") [] := xcB_ok (allB_ok c.more 4 rfl)
theorem xc_BadOrder (c : SaysV fa fn gs ex K) : XcF K (He.ga K "BadOrder") ["what"] := xcB_ok (allB_ok c.more 5 rfl)
theorem cok_NoMark (c : SaysV fa fn gs ex K) : ∀ q b, caught_NoMark q = some b → PySem.W.exmOne K (.ref ((tab K).excA q)) (.ref (He.ga K "NoMark")) = some b := fun q b e => match q, e with
  | 0, e => by cases e; exact exmB_ok (allB_ok c.more 6 rfl) 0 rfl
  | 1, e => by cases e; exact exmB_ok (allB_ok c.more 6 rfl) 1 rfl
  | 2, e => by cases e; exact exmB_ok (allB_ok c.more 6 rfl) 2 rfl
  | 3, e => by cases e; exact exmB_ok (allB_ok c.more 6 rfl) 3 rfl
  | 4, e => by cases e; exact exmB_ok (allB_ok c.more 6 rfl) 4 rfl
  | 5, e => by cases e; exact exmB_ok (allB_ok c.more 6 rfl) 5 rfl
  | _ + 6, e => by cases e
theorem cok_NoDay (c : SaysV fa fn gs ex K) : ∀ q b, caught_NoDay q = some b → PySem.W.exmOne K (.ref ((tab K).excA q)) (.ref (He.ga K "NoDay")) = some b := fun q b e => match q, e with
  | 0, e => by cases e; exact exmB_ok (allB_ok c.more 7 rfl) 0 rfl
  | 1, e => by cases e; exact exmB_ok (allB_ok c.more 7 rfl) 1 rfl
  | 2, e => by cases e; exact exmB_ok (allB_ok c.more 7 rfl) 2 rfl
  | 3, e => by cases e; exact exmB_ok (allB_ok c.more 7 rfl) 3 rfl
  | 4, e => by cases e; exact exmB_ok (allB_ok c.more 7 rfl) 4 rfl
  | 5, e => by cases e; exact exmB_ok (allB_ok c.more 7 rfl) 5 rfl
  | _ + 6, e => by cases e
theorem cok_OtherDays (c : SaysV fa fn gs ex K) : ∀ q b, caught_OtherDays q = some b → PySem.W.exmOne K (.ref ((tab K).excA q)) (.ref (He.ga K "OtherDays")) = some b := fun q b e => match q, e with
  | 0, e => by cases e; exact exmB_ok (allB_ok c.more 8 rfl) 0 rfl
  | 1, e => by cases e; exact exmB_ok (allB_ok c.more 8 rfl) 1 rfl
  | 2, e => by cases e; exact exmB_ok (allB_ok c.more 8 rfl) 2 rfl
  | 3, e => by cases e; exact exmB_ok (allB_ok c.more 8 rfl) 3 rfl
  | 4, e => by cases e; exact exmB_ok (allB_ok c.more 8 rfl) 4 rfl
  | 5, e => by cases e; exact exmB_ok (allB_ok c.more 8 rfl) 5 rfl
  | _ + 6, e => by cases e
theorem it_int (KX : K.In h) (G : h.Ns mainGlobals mg) (c : SaysV fa fn gs ex K) : IsTab K (cA K) (fun t => PySem.W.kitOne K t (.type "int")) ty_int cn_int := isTab_ok (allB_ok c.more 9 rfl)
theorem ca_int (c : SaysV fa fn gs ex K) : ∀ (n : Nat) (b : Bool), cn_int.lookup n = some b → Cls K (cA K n) := fun n b e => match n, e with
  | 0, _ => cl_Marks c
  | 1, _ => cl_Order c
  | _ + 2, e => absurd e (by simp [cn_int, List.lookup])
theorem it_bool (KX : K.In h) (G : h.Ns mainGlobals mg) (c : SaysV fa fn gs ex K) : IsTab K (cA K) (fun t => PySem.W.kitOne K t (.type "bool")) ty_bool cn_bool := isTab_ok (allB_ok c.more 10 rfl)
theorem ca_bool (c : SaysV fa fn gs ex K) : ∀ (n : Nat) (b : Bool), cn_bool.lookup n = some b → Cls K (cA K n) := fun n b e => match n, e with
  | 0, _ => cl_Marks c
  | 1, _ => cl_Order c
  | _ + 2, e => absurd e (by simp [cn_bool, List.lookup])
theorem it_str (KX : K.In h) (G : h.Ns mainGlobals mg) (c : SaysV fa fn gs ex K) : IsTab K (cA K) (fun t => PySem.W.kitOne K t (.type "str")) ty_str cn_str := isTab_ok (allB_ok c.more 11 rfl)
theorem ca_str (c : SaysV fa fn gs ex K) : ∀ (n : Nat) (b : Bool), cn_str.lookup n = some b → Cls K (cA K n) := fun n b e => match n, e with
  | 0, _ => cl_Marks c
  | 1, _ => cl_Order c
  | _ + 2, e => absurd e (by simp [cn_str, List.lookup])
theorem it_list_tuple (KX : K.In h) (G : h.Ns mainGlobals mg) (c : SaysV fa fn gs ex K) : IsTab K (cA K) (fun t => PySem.W.kitAny K t [.type "list", .type "tuple"]) ty_list_tuple cn_list_tuple := isTab_ok (allB_ok c.more 12 rfl)
theorem ca_list_tuple (c : SaysV fa fn gs ex K) : ∀ (n : Nat) (b : Bool), cn_list_tuple.lookup n = some b → Cls K (cA K n) := fun n b e => match n, e with
  | 0, _ => cl_Marks c
  | 1, _ => cl_Order c
  | _ + 2, e => absurd e (by simp [cn_list_tuple, List.lookup])
theorem it_tuple (KX : K.In h) (G : h.Ns mainGlobals mg) (c : SaysV fa fn gs ex K) : IsTab K (cA K) (fun t => PySem.W.kitOne K t (.type "tuple")) ty_tuple cn_tuple := isTab_ok (allB_ok c.more 15 rfl)
theorem ca_tuple (c : SaysV fa fn gs ex K) : ∀ (n : Nat) (b : Bool), cn_tuple.lookup n = some b → Cls K (cA K n) := fun n b e => match n, e with
  | 0, _ => cl_Marks c
  | 1, _ => cl_Order c
  | _ + 2, e => absurd e (by simp [cn_tuple, List.lookup])
theorem xi_DaysError (c : SaysV fa fn gs ex K) : XTab (tab K) (.ref (He.ga K "DaysError")) xt_DaysError := xtB_ok (T := tab K) (allB_ok c.more 18 rfl)
theorem t_KEPT_WORDS (c : SaysV fa fn gs ex K) : ∀ P, SqT K P (He.ga K "KEPT_WORDS") [(.str "and"), (.str "any"), (.str "marks"), (.str "need"), (.str "never"), (.str "not"), (.str "or"), (.str "usually"), (.str "where")] := fun P => He.tupB_ok (allB_ok c.more 19 rfl) P
theorem t_COUNTS (c : SaysV fa fn gs ex K) : ∀ P, SqT K P (He.ga K "COUNTS") [(.int 2), (.int 4), (.int 8), (.int 16)] := fun P => He.tupB_ok (allB_ok c.more 20 rfl) P
theorem xf_NoDay (c : SaysV fa fn gs ex K) : XfC K (He.ga K "NoDay") := xfB_ok (allB_ok c.more 21 rfl)
theorem xf_NoMark (c : SaysV fa fn gs ex K) : XfC K (He.ga K "NoMark") := xfB_ok (allB_ok c.more 22 rfl)
theorem xn_NoDay_day (c : SaysV fa fn gs ex K) : PySem.W.findIn K (.ref (He.ga K "NoDay")) "day" = some none := (xc_NoDay c).n _ (by simp)
theorem xn_NoMark_name (c : SaysV fa fn gs ex K) : PySem.W.findIn K (.ref (He.ga K "NoMark")) "name" = some none := (xc_NoMark c).n _ (by simp)
theorem okx_BadMarks (KX : K.In h) (G : h.Ns mainGlobals mg) (c : SaysV fa fn gs ex K) : ∃ fd, FnOk P w K mg base (L2.CX P w) 1 (He.ma K (He.ga K "BadMarks") "__init__") fd ["self", "what", "index"] (spX2 ((tab K).excA 1) "what" "index") ∧ Binds K fd ["self", "what", "index"] [] := by
  obtain ⟨fd, F⟩ := c.d.def_ 0 (d := dx_BadMarks) rfl
  have Z : XF K mg "DaysError" (He.ga K "DaysError") ((tab K).excA 1) := ⟨m_DaysError KX G c, (xd_DaysError c).1, (xd_DaysError c).2, (xc_BadMarks c).o⟩
  exact ⟨fd, xinit2 F scx_BadMarks rfl rfl (by first | exact Or.inl rfl | exact Or.inr rfl) (by first | exact Or.inl rfl | exact Or.inr rfl) rfl (by first | exact Or.inl rfl | exact Or.inr rfl) rfl (fun env => ⟨_, rfl⟩) Z ((xc_BadMarks c).n _ (by simp)) ((xc_BadMarks c).n _ (by simp)), F.bindsN fun _ _ _ _ _ _ us hl => match us, hl with | [_, _, _], _ => rfl⟩
theorem okx_NoMark (KX : K.In h) (G : h.Ns mainGlobals mg) (c : SaysV fa fn gs ex K) : ∃ fd, FnOk P w K mg base (L2.CX P w) 1 (He.ma K (He.ga K "NoMark") "__init__") fd ["self", "name"] (spX1 ((tab K).excA 2) "name") ∧ Binds K fd ["self", "name"] [] := by
  obtain ⟨fd, F⟩ := c.d.def_ 1 (d := dx_NoMark) rfl
  have Z : XF K mg "DaysError" (He.ga K "DaysError") ((tab K).excA 2) := ⟨m_DaysError KX G c, (xd_DaysError c).1, (xd_DaysError c).2, (xc_NoMark c).o⟩
  exact ⟨fd, xinit1 F scx_NoMark rfl rfl (by first | exact Or.inl rfl | exact Or.inr rfl) (by first | exact Or.inl rfl | exact Or.inr rfl) rfl (fun env => ⟨_, rfl⟩) Z ((xc_NoMark c).n _ (by simp)), F.bindsN fun _ _ _ _ _ _ us hl => match us, hl with | [_, _], _ => rfl⟩
theorem okx_NoDay (KX : K.In h) (G : h.Ns mainGlobals mg) (c : SaysV fa fn gs ex K) : ∃ fd, FnOk P w K mg base (L2.CX P w) 1 (He.ma K (He.ga K "NoDay") "__init__") fd ["self", "day"] (spX1 ((tab K).excA 3) "day") ∧ Binds K fd ["self", "day"] [] := by
  obtain ⟨fd, F⟩ := c.d.def_ 2 (d := dx_NoDay) rfl
  have Z : XF K mg "DaysError" (He.ga K "DaysError") ((tab K).excA 3) := ⟨m_DaysError KX G c, (xd_DaysError c).1, (xd_DaysError c).2, (xc_NoDay c).o⟩
  exact ⟨fd, xinit1 F scx_NoDay rfl rfl (by first | exact Or.inl rfl | exact Or.inr rfl) (by first | exact Or.inl rfl | exact Or.inr rfl) rfl (fun env => ⟨_, rfl⟩) Z ((xc_NoDay c).n _ (by simp)), F.bindsN fun _ _ _ _ _ _ us hl => match us, hl with | [_, _], _ => rfl⟩
theorem okx_OtherDays (KX : K.In h) (G : h.Ns mainGlobals mg) (c : SaysV fa fn gs ex K) : ∃ fd, FnOk P w K mg base (L2.CX P w) 1 (He.ma K (He.ga K "OtherDays") "__init__") fd ["self"] (spX0 ((tab K).excA 4)) ∧ Binds K fd ["self"] [] := by
  obtain ⟨fd, F⟩ := c.d.def_ 3 (d := dx_OtherDays) rfl
  have Z : XF K mg "DaysError" (He.ga K "DaysError") ((tab K).excA 4) := ⟨m_DaysError KX G c, (xd_DaysError c).1, (xd_DaysError c).2, (xc_OtherDays c).o⟩
  exact ⟨fd, xinit0 F scx_OtherDays rfl rfl (by first | exact Or.inl rfl | exact Or.inr rfl) (fun env => ⟨_, rfl⟩) Z, F.bindsN fun _ _ _ _ _ _ us hl => match us, hl with | [_], _ => rfl⟩
theorem okx_BadOrder (KX : K.In h) (G : h.Ns mainGlobals mg) (c : SaysV fa fn gs ex K) : ∃ fd, FnOk P w K mg base (L2.CX P w) 1 (He.ma K (He.ga K "BadOrder") "__init__") fd ["self", "what"] (spX1 ((tab K).excA 5) "what") ∧ Binds K fd ["self", "what"] [] := by
  obtain ⟨fd, F⟩ := c.d.def_ 4 (d := dx_BadOrder) rfl
  have Z : XF K mg "DaysError" (He.ga K "DaysError") ((tab K).excA 5) := ⟨m_DaysError KX G c, (xd_DaysError c).1, (xd_DaysError c).2, (xc_BadOrder c).o⟩
  exact ⟨fd, xinit1 F scx_BadOrder rfl rfl (by first | exact Or.inl rfl | exact Or.inr rfl) (by first | exact Or.inl rfl | exact Or.inr rfl) rfl (fun env => ⟨_, rfl⟩) Z ((xc_BadOrder c).n _ (by simp)), F.bindsN fun _ _ _ _ _ _ us hl => match us, hl with | [_, _], _ => rfl⟩
theorem ok_is_whole (KX : K.In h) (G : h.Ns mainGlobals mg) (c : SaysV fa fn gs ex K) : ∃ fd, FnG P w K mg base (L2.CX P w) 1 (He.ga K "is_whole") fd ["thing", "low", "high"] (spF (tab K) (kdOf false) 3 F_is_whole) ∧ PySem.W.keepIn K (.ref (He.ga K "is_whole")) = true ∧ Binds K fd ["thing", "low", "high"] [] := by
  obtain ⟨fd, F⟩ := c.d.def_ 5 (d := d_is_whole) rfl
  refine ⟨fd, fn_ok F sc_is_whole (by decide) rfl fun cdv A outer s H E hgd hr => ?_, F.kp, F.bindsN fun _ _ _ _ _ _ us hl => match us, hl with | [_, _, _], _ => rfl⟩
  have gd : (cxOf (L2.CX P w) P w K mg base N_is_whole "is_whole" (defScope s_is_whole) (He.ga K "is_whole") cdv A outer s H E).A.guards = some [] := deeper_guards.trans hgd
  have tk := L2.takes_of (X := cxOf (L2.CX P w) P w K mg base N_is_whole "is_whole" (defScope s_is_whole) (He.ga K "is_whole") cdv A outer s H E) rfl rfl rfl rfl
  have hp := L2.passes_of (X := cxOf (L2.CX P w) P w K mg base N_is_whole "is_whole" (defScope s_is_whole) (He.ga K "is_whole") cdv A outer s H E) rfl
  exact (dss_one (ds_ret (de_and (de_isT rfl (it_int KX G c) (ca_int c) rfl (m_isinstance KX G c) (de_var (pv 0)) (pe_bltn (v := .ty "int") rfl (m_int KX G c) rfl rfl) (.ty _)) (de_and (de_notV (de_isT rfl (it_bool KX G c) (ca_bool c) rfl (m_isinstance KX G c) (de_var (pv 0)) (pe_bltn (v := .ty "bool") rfl (m_bool KX G c) rfl rfl) (.ty _))) (de_one (de_chain op_le cd_c2 op_le cd_c2 mono_rI0 mono_rI0 (de_var (pv 1)) (de_var (pv 0)) (de_var (pv 2))))))))
theorem ok_name_fault (KX : K.In h) (G : h.Ns mainGlobals mg) (c : SaysV fa fn gs ex K) : ∃ fd, FnG P w K mg base (L2.CX P w) 1 (He.ga K "name_fault") fd ["thing"] (spF (tab K) (kdOf false) 1 F_name_fault) ∧ PySem.W.keepIn K (.ref (He.ga K "name_fault")) = true ∧ Binds K fd ["thing"] [] := by
  obtain ⟨fd, F⟩ := c.d.def_ 6 (d := d_name_fault) rfl
  refine ⟨fd, fn_ok F sc_name_fault (by decide) rfl fun cdv A outer s H E hgd hr => ?_, F.kp, F.bindsN fun _ _ _ _ _ _ us hl => match us, hl with | [_], _ => rfl⟩
  have gd : (cxOf (L2.CX P w) P w K mg base N_name_fault "name_fault" (defScope s_name_fault) (He.ga K "name_fault") cdv A outer s H E).A.guards = some [] := deeper_guards.trans hgd
  have tk := L2.takes_of (X := cxOf (L2.CX P w) P w K mg base N_name_fault "name_fault" (defScope s_name_fault) (He.ga K "name_fault") cdv A outer s H E) rfl rfl rfl rfl
  have hp := L2.passes_of (X := cxOf (L2.CX P w) P w K mg base N_name_fault "name_fault" (defScope s_name_fault) (He.ga K "name_fault") cdv A outer s H E) rfl
  exact (dss_cons (ds_if (dt_w (dw_or (dt_not (dt_tr rfl (de_isT rfl (it_str KX G c) (ca_str c) rfl (m_isinstance KX G c) (de_var (pv 0)) (pe_bltn (v := .ty "str") rfl (m_str KX G c) rfl rfl) (.ty _)) (by intro _; rfl))) (dw_or1 (dt_not (dt_chain op_le cd_c2 op_le cd_c2 de_int (de_callB call_len cd_len rfl (m_len KX G c) boot_len (da_cons (de_var (pv 0)) da_nil)) (de_gint rfl (m_LONGEST_NAME KX G c))))))) (dss_one (ds_ret de_str)) dss_nil) (dss_cons (ds_for hp rfl (di_str (de_var (pv 0))) (dg_name (i := 1) sc_name_fault.nd rfl (by first | exact Or.inl rfl | exact Or.inr rfl)) (dss_one (ds_if (dt_cmp op_notin_str cd_notInStr (de_var (pv 1)) (de_gstr rfl (m_LETTERS KX G c))) (dss_one (ds_ret de_str)) dss_nil))) (dss_one (ds_ret (de_ifExp (dt_cmp (op_inA (hu65 hr)) cd_inA (de_var (pv 0)) (de_gtup rfl (m_KEPT_WORDS KX G c) (t_KEPT_WORDS c) (fun _ => (Reps.cons rep_str (Reps.cons rep_str (Reps.cons rep_str (Reps.cons rep_str (Reps.cons rep_str (Reps.cons rep_str (Reps.cons rep_str (Reps.cons rep_str (Reps.cons rep_str Reps.nil)))))))))))) de_str de_non)))))
theorem ok_Marks_init (KX : K.In h) (G : h.Ns mainGlobals mg) (c : SaysV fa fn gs ex K) : ∃ fd, FnG P w K mg base (L2.CX P w) 3 (He.ma K (He.ga K "Marks") "__init__") fd ["self", "names"] (spF (tab K) (kdOf false) 2 F_Marks_init) ∧ PySem.W.keepIn K (.ref (He.ma K (He.ga K "Marks") "__init__")) = true ∧ Binds K fd ["self", "names"] [] := by
  obtain ⟨fd, F⟩ := c.d.def_ 7 (d := d_Marks_init) rfl
  obtain ⟨fd_name_fault, G_name_fault, K_name_fault, B_name_fault⟩ := ok_name_fault (P := P) (w := w) (base := base) KX G c
  obtain ⟨fdx_BadMarks, G_BadMarks, B_BadMarks⟩ := okx_BadMarks (P := P) (w := w) (base := base) KX G c
  have O_BadMarks := (xc_BadMarks c).o; have I_BadMarks := (xc_BadMarks c).i; have Ty_BadMarks := (xc_BadMarks c).t
  refine ⟨fd, fn_ok F sc_Marks_init (by decide) rfl fun cdv A outer s H E hgd hr => ?_, F.kp, F.bindsN fun _ _ _ _ _ _ us hl => match us, hl with | [_, _], _ => rfl⟩
  have gd : (cxOf (L2.CX P w) P w K mg base N_Marks_init "Marks.__init__" (defScope s_Marks_init) (He.ma K (He.ga K "Marks") "__init__") cdv A outer s H E).A.guards = some [] := deeper_guards.trans hgd
  have tk := L2.takes_of (X := cxOf (L2.CX P w) P w K mg base N_Marks_init "Marks.__init__" (defScope s_Marks_init) (He.ma K (He.ga K "Marks") "__init__") cdv A outer s H E) rfl rfl rfl rfl
  have hp := L2.passes_of (X := cxOf (L2.CX P w) P w K mg base N_Marks_init "Marks.__init__" (defScope s_Marks_init) (He.ma K (He.ga K "Marks") "__init__") cdv A outer s H E) rfl
  exact (dss_cons (ds_if (dt_w (dw_or (dt_not (dt_tr rfl (de_isT2 rfl (it_list_tuple KX G c) (ca_list_tuple c) rfl (m_isinstance KX G c) (de_var (pv 1)) (pe_bltn (v := .ty "list") rfl (m_list KX G c) rfl rfl) (.ty _) (pe_bltn (v := .ty "tuple") rfl (m_tuple KX G c) rfl rfl) (.ty _)) (by intro _; rfl))) (dw_or1 (dt_not (dt_chain op_le cd_c2 op_le cd_c2 de_int (de_callB call_len cd_len rfl (m_len KX G c) boot_len (da_cons (de_var (pv 1)) da_nil)) (de_gint rfl (m_MOST_MARKS KX G c))))))) (dss_one (ds_raise2 (c := 1) rfl tk O_BadMarks I_BadMarks Ty_BadMarks G_BadMarks (hr.mono (by decide)) B_BadMarks rfl (m_BadMarks KX G c) rfl (by decide) de_str de_non)) dss_nil) (dss_cons (ds_setO (i := 2) (de_lst da_nil pures_nil) sc_Marks_init.nd rfl (by first | exact Or.inl rfl | exact Or.inr rfl)) (dss_cons (ds_for hp rfl (di_enumA rfl rfl (m_enumerate KX G c) (de_var (pv 1))) (dg_tup rfl rfl (dgs_cons (dg_name (i := 3) sc_Marks_init.nd rfl (by first | exact Or.inl rfl | exact Or.inr rfl)) (dgs_cons (dg_name (i := 4) sc_Marks_init.nd rfl (by first | exact Or.inl rfl | exact Or.inr rfl)) dgs_nil))) (dss_cons (ds_set (i := 5) (de_call G_name_fault (.inl rfl) gd (hr.mono (by decide)) rfl (m_name_fault KX G c) K_name_fault B_name_fault .nil (fun _ => Reps.nil) tk (ga_p (de_var (pv 4)) ga_nil)) sc_Marks_init.nd rfl (by first | exact Or.inl rfl | exact Or.inr rfl)) (dss_cons (ds_if (dt_w (dw_and (dt_cmp op_isN cd_isN (de_var (pv 5)) de_non) (dw_and1 (dt_cmp (op_inA (hu65 hr)) cd_inA (de_var (pv 4)) (de_ovar (pv 2)))))) (dss_one (ds_set (i := 5) de_str sc_Marks_init.nd rfl (by first | exact Or.inl rfl | exact Or.inr rfl))) dss_nil) (dss_cons (ds_if (dt_cmp op_notN cd_notN (de_var (pv 5)) de_non) (dss_one (ds_raise2 (c := 1) rfl tk O_BadMarks I_BadMarks Ty_BadMarks G_BadMarks (hr.mono (by decide)) B_BadMarks rfl (m_BadMarks KX G c) rfl (by decide) (de_var (pv 5)) (de_var (pv 3)))) dss_nil) (dss_one (ds_expr (de_mt (i := 2) rfl PySem.F.plainAttrs_list PySem.F.slot_list_append PySem.F.type_list_append mt_append md_append (pv 2) (da_cons (de_var (pv 4)) da_nil) (pures_cons pures_nil)))))))) (dss_cons (ds_stf (c := 0) (j := 0) rfl (pv 0) (de_callTy call_tuple_ex cd_tupX rfl (m_tuple KX G c) (by decide +kernel) (da_cons (de_ofrz (pv 2)) da_nil)) (cl_Marks c) (na_Marks_names c) rfl fx_Marks_names) (dss_cons (ds_stf (c := 0) (j := 1) rfl (pv 0) (de_callB call_len cd_len rfl (m_len KX G c) boot_len (da_cons (de_var (pv 2)) da_nil)) (cl_Marks c) (na_Marks_count c) rfl fx_Marks_count) (dss_cons (ds_stf (c := 0) (j := 2) rfl (pv 0) (de_op2 op_shlW od_shl de_int (de_callB call_len cd_len rfl (m_len KX G c) boot_len (da_cons (de_var (pv 2)) da_nil))) (cl_Marks c) (na_Marks_days c) rfl fx_Marks_days) (dss_one (ds_stf (c := 0) (j := 3) rfl (pv 0) (de_op2 op_sub od_sub (de_op2 op_shlW od_shl de_int (de_nat (c := 0) (j := 2) rfl (pv 0) (cl_Marks c) (na_Marks_days c) rfl fx_Marks_days)) de_int) (cl_Marks c) (na_Marks_all_days c) rfl fx_Marks_all_days))))))))
theorem ok_check_names (KX : K.In h) (G : h.Ns mainGlobals mg) (c : SaysV fa fn gs ex K) : ∃ fd, FnG P w K mg base (L2.CX P w) 3 (He.ga K "check_names") fd ["marks", "names"] (spF (tab K) (kdOf false) 2 F_check_names) ∧ PySem.W.keepIn K (.ref (He.ga K "check_names")) = true ∧ Binds K fd ["marks", "names"] [] := by
  obtain ⟨fd, F⟩ := c.d.def_ 10 (d := d_check_names) rfl
  obtain ⟨fdx_NoMark, G_NoMark, B_NoMark⟩ := okx_NoMark (P := P) (w := w) (base := base) KX G c
  have O_NoMark := (xc_NoMark c).o; have I_NoMark := (xc_NoMark c).i; have Ty_NoMark := (xc_NoMark c).t
  refine ⟨fd, fn_ok F sc_check_names (by decide) rfl fun cdv A outer s H E hgd hr => ?_, F.kp, F.bindsN fun _ _ _ _ _ _ us hl => match us, hl with | [_, _], _ => rfl⟩
  have gd : (cxOf (L2.CX P w) P w K mg base N_check_names "check_names" (defScope s_check_names) (He.ga K "check_names") cdv A outer s H E).A.guards = some [] := deeper_guards.trans hgd
  have tk := L2.takes_of (X := cxOf (L2.CX P w) P w K mg base N_check_names "check_names" (defScope s_check_names) (He.ga K "check_names") cdv A outer s H E) rfl rfl rfl rfl
  have hp := L2.passes_of (X := cxOf (L2.CX P w) P w K mg base N_check_names "check_names" (defScope s_check_names) (He.ga K "check_names") cdv A outer s H E) rfl
  exact (dss_one (ds_for hp rfl (di_seq rfl (de_var (pv 1))) (dg_name (i := 2) sc_check_names.nd rfl (by first | exact Or.inl rfl | exact Or.inr rfl)) (dss_one (ds_if (dt_cmp (op_notInA (hu65 hr)) cd_notInA (de_var (pv 2)) (de_unx (de_attr (c := 0) (j := 0) rfl (de_var (pv 0)) (cl_Marks c) (na_Marks_names c) rfl fx_Marks_names))) (dss_one (ds_raise1 (c := 2) rfl tk O_NoMark I_NoMark Ty_NoMark G_NoMark (hr.mono (by decide)) B_NoMark rfl (m_NoMark KX G c) rfl (de_var (pv 2)))) dss_nil))))
theorem ok_seen_days (KX : K.In h) (G : h.Ns mainGlobals mg) (c : SaysV fa fn gs ex K) : ∃ fd, FnG P w K mg base (L2.CX P w) 1 (He.ga K "seen_days") fd ["marks", "names"] (spF (tab K) (kdOf true) 2 F_seen_days) ∧ PySem.W.keepIn K (.ref (He.ga K "seen_days")) = true ∧ Binds K fd ["marks", "names"] [] := by
  obtain ⟨fd, F⟩ := c.d.def_ 11 (d := d_seen_days) rfl
  refine ⟨fd, fn_ok F sc_seen_days (by decide) rfl fun cdv A outer s H E hgd hr => ?_, F.kp, F.bindsN fun _ _ _ _ _ _ us hl => match us, hl with | [_, _], _ => rfl⟩
  have gd : (cxOf (L2.CX P w) P w K mg base N_seen_days "seen_days" (defScope s_seen_days) (He.ga K "seen_days") cdv A outer s H E).A.guards = some [] := deeper_guards.trans hgd
  have tk := L2.takes_of (X := cxOf (L2.CX P w) P w K mg base N_seen_days "seen_days" (defScope s_seen_days) (He.ga K "seen_days") cdv A outer s H E) rfl rfl rfl rfl
  have hp := L2.passes_of (X := cxOf (L2.CX P w) P w K mg base N_seen_days "seen_days" (defScope s_seen_days) (He.ga K "seen_days") cdv A outer s H E) rfl
  exact (dss_cons (ds_set (i := 2) (de_frz (de_lc (own := [("name", 3)]) rfl sc_seen_days.nd (di_seq rfl (de_var (pv 1))) (blkOk_by (by first | rfl | decide +kernel)) (fun _ _ _ _ _ => (dg_name (i := 3) sc_seen_days.nd rfl (by first | exact Or.inl rfl | exact Or.inr rfl))) (fun _ _ _ _ _ => dts_nil) (fun _ _ _ _ _ => (de_idxX rfl (de_attr (c := 0) (j := 0) rfl (de_var (pv 0)) (cl_Marks c) (na_Marks_names c) rfl fx_Marks_names) (de_var (pv 3)))))) sc_seen_days.nd rfl (by first | exact Or.inl rfl | exact Or.inr rfl)) (dss_one (ds_ret (de_lc (own := [("day", 4)]) rfl sc_seen_days.nd (di_range1 rfl (m_range KX G c) (de_attr (c := 0) (j := 2) rfl (de_var (pv 0)) (cl_Marks c) (na_Marks_days c) rfl fx_Marks_days)) (blkOk_by (by first | rfl | decide +kernel)) (fun _ _ _ _ _ => (dg_name (i := 4) sc_seen_days.nd rfl (by first | exact Or.inl rfl | exact Or.inr rfl))) (fun _ _ _ _ _ => dts_nil) (fun _ _ _ _ _ => (de_callB (cr_sumT rfl) cd_sumA rfl (m_sum KX G c) (by decide +kernel) (da_cons (de_lc (own := [("at", 5), ("place", 6)]) rfl sc_seen_days.nd (di_enum rfl rfl (m_enumerate KX G c) (de_var (pv 2))) (blkOk_by (by first | rfl | decide +kernel)) (fun _ _ _ _ _ => (dg_tup rfl rfl (dgs_cons (dg_name (i := 5) sc_seen_days.nd rfl (by first | exact Or.inl rfl | exact Or.inr rfl)) (dgs_cons (dg_name (i := 6) sc_seen_days.nd rfl (by first | exact Or.inl rfl | exact Or.inr rfl)) dgs_nil)))) (fun _ _ _ _ _ => dts_nil) (fun _ _ _ _ _ => (de_op2 op_shlW od_shl (de_op2 op_and od_and (de_op2 op_shr od_shr (de_var (pv 4)) (de_var (pv 6))) de_int) (de_var (pv 5))))) da_nil)))))))
theorem ok_look_day (KX : K.In h) (G : h.Ns mainGlobals mg) (c : SaysV fa fn gs ex K) : ∃ fd, FnG P w K mg base (L2.CX P w) 4 (He.ga K "look_day") fd ["marks", "day", "names"] (spF (tab K) (kdOf false) 3 F_look_day) ∧ PySem.W.keepIn K (.ref (He.ga K "look_day")) = true ∧ Binds K fd ["marks", "day", "names"] [] := by
  obtain ⟨fd, F⟩ := c.d.def_ 12 (d := d_look_day) rfl
  obtain ⟨fd_check_names, G_check_names, K_check_names, B_check_names⟩ := ok_check_names (P := P) (w := w) (base := base) KX G c
  obtain ⟨fd_is_whole, G_is_whole, K_is_whole, B_is_whole⟩ := ok_is_whole (P := P) (w := w) (base := base) KX G c
  obtain ⟨fd_seen_days, G_seen_days, K_seen_days, B_seen_days⟩ := ok_seen_days (P := P) (w := w) (base := base) KX G c
  obtain ⟨fdx_NoDay, G_NoDay, B_NoDay⟩ := okx_NoDay (P := P) (w := w) (base := base) KX G c
  have O_NoDay := (xc_NoDay c).o; have I_NoDay := (xc_NoDay c).i; have Ty_NoDay := (xc_NoDay c).t
  refine ⟨fd, fn_ok F sc_look_day (by decide) rfl fun cdv A outer s H E hgd hr => ?_, F.kp, F.bindsN fun _ _ _ _ _ _ us hl => match us, hl with | [_, _, _], _ => rfl⟩
  have gd : (cxOf (L2.CX P w) P w K mg base N_look_day "look_day" (defScope s_look_day) (He.ga K "look_day") cdv A outer s H E).A.guards = some [] := deeper_guards.trans hgd
  have tk := L2.takes_of (X := cxOf (L2.CX P w) P w K mg base N_look_day "look_day" (defScope s_look_day) (He.ga K "look_day") cdv A outer s H E) rfl rfl rfl rfl
  have hp := L2.passes_of (X := cxOf (L2.CX P w) P w K mg base N_look_day "look_day" (defScope s_look_day) (He.ga K "look_day") cdv A outer s H E) rfl
  exact (dss_cons (ds_expr (de_call G_check_names (.inl rfl) gd (hr.mono (by decide)) rfl (m_check_names KX G c) K_check_names B_check_names .nil (fun _ => Reps.nil) tk (ga_p (de_var (pv 0)) (ga_p (de_var (pv 2)) ga_nil)))) (dss_cons (ds_if (dt_not (dt_tr rfl (de_call G_is_whole (.inl rfl) gd (hr.mono (by decide)) rfl (m_is_whole KX G c) K_is_whole B_is_whole .nil (fun _ => Reps.nil) tk (ga_p (de_var (pv 1)) (ga_p de_int (ga_p (de_op2 op_sub od_sub (de_attr (c := 0) (j := 2) rfl (de_var (pv 0)) (cl_Marks c) (na_Marks_days c) rfl fx_Marks_days) de_int) ga_nil)))) (by intro _; rfl))) (dss_one (ds_raise1 (c := 3) rfl tk O_NoDay I_NoDay Ty_NoDay G_NoDay (hr.mono (by decide)) B_NoDay rfl (m_NoDay KX G c) rfl (de_var (pv 1)))) dss_nil) (dss_one (ds_ret (de_ix rfl (de_call G_seen_days (.inr rfl) gd (hr.mono (by decide)) rfl (m_seen_days KX G c) K_seen_days B_seen_days .nil (fun _ => Reps.nil) tk (ga_p (de_var (pv 0)) (ga_p (de_var (pv 2)) ga_nil))) (de_var (pv 1)) (fun _ _ => rfl))))))
theorem ok_Order_iter (KX : K.In h) (G : h.Ns mainGlobals mg) (c : SaysV fa fn gs ex K) : ∃ fd, FnS P w K mg base (L2.CX P w) 1 (He.ma K (He.ga K "Order") "__iter__") fd ["self"] (spIt K (He.ga K "Order") "layers") ∧ Binds K fd ["self"] [] := by
  obtain ⟨fd, F⟩ := c.d.def_ 19 (d := d_Order_iter) rfl
  exact ⟨fd, its_ok F sc_Order_iter (cl_Order c) (na_Order_layers c) fun cdv A outer s H E => pss_cons (ps_ret (pe_callB call_iterT rfl (m_iter KX G c) (by decide +kernel) (pa_cons (pe_fld (pv 0) rfl) pa_nil))) pss_nil, F.bindsN fun _ _ _ _ _ _ us hl => match us, hl with | [_], _ => rfl⟩
theorem ok_Order_len (KX : K.In h) (G : h.Ns mainGlobals mg) (c : SaysV fa fn gs ex K) : ∃ fd, FnG P w K mg base (L2.CX P w) 1 (He.ma K (He.ga K "Order") "__len__") fd ["self"] (spF (tab K) (kdOf false) 1 F_Order_len) ∧ PySem.W.keepIn K (.ref (He.ma K (He.ga K "Order") "__len__")) = true ∧ Binds K fd ["self"] [] := by
  obtain ⟨fd, F⟩ := c.d.def_ 20 (d := d_Order_len) rfl
  refine ⟨fd, fn_ok F sc_Order_len (by decide) rfl fun cdv A outer s H E hgd hr => ?_, F.kp, F.bindsN fun _ _ _ _ _ _ us hl => match us, hl with | [_], _ => rfl⟩
  have gd : (cxOf (L2.CX P w) P w K mg base N_Order_len "Order.__len__" (defScope s_Order_len) (He.ma K (He.ga K "Order") "__len__") cdv A outer s H E).A.guards = some [] := deeper_guards.trans hgd
  have tk := L2.takes_of (X := cxOf (L2.CX P w) P w K mg base N_Order_len "Order.__len__" (defScope s_Order_len) (He.ma K (He.ga K "Order") "__len__") cdv A outer s H E) rfl rfl rfl rfl
  have hp := L2.passes_of (X := cxOf (L2.CX P w) P w K mg base N_Order_len "Order.__len__" (defScope s_Order_len) (He.ma K (He.ga K "Order") "__len__") cdv A outer s H E) rfl
  exact (dss_one (ds_ret (de_callB call_len cd_len rfl (m_len KX G c) boot_len (da_cons (de_attr (c := 1) (j := 0) rfl (de_var (pv 0)) (cl_Order c) (na_Order_layers c) rfl fx_Order_layers) da_nil))))
theorem ok_look_of (KX : K.In h) (G : h.Ns mainGlobals mg) (c : SaysV fa fn gs ex K) : ∃ fd, FnG P w K mg base (L2.CX P w) 5 (He.ga K "look_of") fd ["marks", "layers", "names"] (spF (tab K) (kdOf false) 3 F_look_of) ∧ PySem.W.keepIn K (.ref (He.ga K "look_of")) = true ∧ Binds K fd ["marks", "layers", "names"] [] := by
  obtain ⟨fd, F⟩ := c.d.def_ 13 (d := d_look_of) rfl
  obtain ⟨fd_Order_iter, S_Order_iter, B_Order_iter⟩ := ok_Order_iter (P := P) (w := w) (base := base) KX G c
  obtain ⟨fd_Order_len, G_Order_len, K_Order_len, B_Order_len⟩ := ok_Order_len (P := P) (w := w) (base := base) KX G c
  obtain ⟨fd_check_names, G_check_names, K_check_names, B_check_names⟩ := ok_check_names (P := P) (w := w) (base := base) KX G c
  obtain ⟨fd_seen_days, G_seen_days, K_seen_days, B_seen_days⟩ := ok_seen_days (P := P) (w := w) (base := base) KX G c
  obtain ⟨fdx_OtherDays, G_OtherDays, B_OtherDays⟩ := okx_OtherDays (P := P) (w := w) (base := base) KX G c
  have O_OtherDays := (xc_OtherDays c).o; have I_OtherDays := (xc_OtherDays c).i; have Ty_OtherDays := (xc_OtherDays c).t
  refine ⟨fd, fn_ok F sc_look_of (by decide) rfl fun cdv A outer s H E hgd hr => ?_, F.kp, F.bindsN fun _ _ _ _ _ _ us hl => match us, hl with | [_, _, _], _ => rfl⟩
  have gd : (cxOf (L2.CX P w) P w K mg base N_look_of "look_of" (defScope s_look_of) (He.ga K "look_of") cdv A outer s H E).A.guards = some [] := deeper_guards.trans hgd
  have tk := L2.takes_of (X := cxOf (L2.CX P w) P w K mg base N_look_of "look_of" (defScope s_look_of) (He.ga K "look_of") cdv A outer s H E) rfl rfl rfl rfl
  have hp := L2.passes_of (X := cxOf (L2.CX P w) P w K mg base N_look_of "look_of" (defScope s_look_of) (He.ga K "look_of") cdv A outer s H E) rfl
  exact (dss_cons (ds_expr (de_call G_check_names (.inl rfl) gd (hr.mono (by decide)) rfl (m_check_names KX G c) K_check_names B_check_names .nil (fun _ => Reps.nil) tk (ga_p (de_var (pv 0)) (ga_p (de_var (pv 2)) ga_nil)))) (dss_cons (ds_set (i := 3) (de_frz (de_pick (de_lstO (k := 1) (c := 1) (j := 0) rfl rfl rfl fx_Order_layers (me_Order___iter__ c) (S_Order_iter.mono (by decide)) B_Order_iter (me_Order___len__ c) G_Order_len B_Order_len gd (hr.mono (by decide)) rfl (m_list KX G c) (de_var (pv 1))) (de_callTy call_list_of cd_list rfl (m_list KX G c) (by decide +kernel) (da_cons (de_var (pv 1)) da_nil)))) sc_look_of.nd rfl (by first | exact Or.inl rfl | exact Or.inr rfl)) (dss_cons (ds_if (dt_cmp op_ne cd_neS (de_callB call_len cd_len rfl (m_len KX G c) boot_len (da_cons (de_var (pv 3)) da_nil)) (de_attr (c := 0) (j := 2) rfl (de_var (pv 0)) (cl_Marks c) (na_Marks_days c) rfl fx_Marks_days)) (dss_one (ds_raise0 (c := 4) rfl tk O_OtherDays I_OtherDays Ty_OtherDays G_OtherDays (hr.mono (by decide)) B_OtherDays rfl (m_OtherDays KX G c))) dss_nil) (dss_cons (ds_set (i := 4) (de_frz (de_call G_seen_days (.inr rfl) gd (hr.mono (by decide)) rfl (m_seen_days KX G c) K_seen_days B_seen_days .nil (fun _ => Reps.nil) tk (ga_p (de_var (pv 0)) (ga_p (de_var (pv 2)) ga_nil)))) sc_look_of.nd rfl (by first | exact Or.inl rfl | exact Or.inr rfl)) (dss_cons (ds_setO (i := 5) (de_lst da_nil pures_nil) sc_look_of.nd rfl (by first | exact Or.inl rfl | exact Or.inr rfl)) (dss_cons (ds_for hp rfl (di_range1 rfl (m_range KX G c) (de_op2 op_shlW od_shl de_int (de_callB call_len cd_len rfl (m_len KX G c) boot_len (da_cons (de_var (pv 2)) da_nil)))) (dg_name (i := 6) sc_look_of.nd rfl (by first | exact Or.inl rfl | exact Or.inr rfl)) (dss_one (ds_expr (de_mt (i := 5) rfl PySem.F.plainAttrs_list PySem.F.slot_list_append PySem.F.type_list_append mt_append md_append (pv 5) (da_cons (de_callB (cr_minT rfl) cd_minA rfl (m_min KX G c) (by decide +kernel) (da_cons (de_lc (own := [("day", 7)]) rfl sc_look_of.nd (di_range1 rfl (m_range KX G c) (de_attr (c := 0) (j := 2) rfl (de_var (pv 0)) (cl_Marks c) (na_Marks_days c) rfl fx_Marks_days)) (blkOk_by (by first | rfl | decide +kernel)) (fun _ _ _ _ _ => (dg_name (i := 7) sc_look_of.nd rfl (by first | exact Or.inl rfl | exact Or.inr rfl))) (fun _ _ _ _ _ => (dts_one (dt_cmp op_eq cd_eqS (de_ix rfl (de_var (pv 4)) (de_var (pv 7)) (fun _ _ => rfl)) (de_var (pv 6))))) (fun _ _ _ _ _ => (de_ix rfl (de_var (pv 3)) (de_var (pv 7)) (fun _ _ => rfl)))) da_nil)) da_nil) (pures_cons pures_nil))))) (dss_one (ds_ret (de_callTy call_tuple_of cd_tuple rfl (m_tuple KX G c) (by decide +kernel) (da_cons (de_ofrz (pv 5)) da_nil))))))))))
theorem ok_spread_over (KX : K.In h) (G : h.Ns mainGlobals mg) (c : SaysV fa fn gs ex K) : ∃ fd, FnG P w K mg base (L2.CX P w) 5 (He.ga K "spread_over") fd ["marks", "layers", "names"] (spF (tab K) (kdOf false) 3 F_spread_over) ∧ PySem.W.keepIn K (.ref (He.ga K "spread_over")) = true ∧ Binds K fd ["marks", "layers", "names"] [] := by
  obtain ⟨fd, F⟩ := c.d.def_ 14 (d := d_spread_over) rfl
  obtain ⟨fd_Order_iter, S_Order_iter, B_Order_iter⟩ := ok_Order_iter (P := P) (w := w) (base := base) KX G c
  obtain ⟨fd_Order_len, G_Order_len, K_Order_len, B_Order_len⟩ := ok_Order_len (P := P) (w := w) (base := base) KX G c
  obtain ⟨fd_check_names, G_check_names, K_check_names, B_check_names⟩ := ok_check_names (P := P) (w := w) (base := base) KX G c
  obtain ⟨fd_seen_days, G_seen_days, K_seen_days, B_seen_days⟩ := ok_seen_days (P := P) (w := w) (base := base) KX G c
  obtain ⟨fdx_OtherDays, G_OtherDays, B_OtherDays⟩ := okx_OtherDays (P := P) (w := w) (base := base) KX G c
  have O_OtherDays := (xc_OtherDays c).o; have I_OtherDays := (xc_OtherDays c).i; have Ty_OtherDays := (xc_OtherDays c).t
  refine ⟨fd, fn_ok F sc_spread_over (by decide) rfl fun cdv A outer s H E hgd hr => ?_, F.kp, F.bindsN fun _ _ _ _ _ _ us hl => match us, hl with | [_, _, _], _ => rfl⟩
  have gd : (cxOf (L2.CX P w) P w K mg base N_spread_over "spread_over" (defScope s_spread_over) (He.ga K "spread_over") cdv A outer s H E).A.guards = some [] := deeper_guards.trans hgd
  have tk := L2.takes_of (X := cxOf (L2.CX P w) P w K mg base N_spread_over "spread_over" (defScope s_spread_over) (He.ga K "spread_over") cdv A outer s H E) rfl rfl rfl rfl
  have hp := L2.passes_of (X := cxOf (L2.CX P w) P w K mg base N_spread_over "spread_over" (defScope s_spread_over) (He.ga K "spread_over") cdv A outer s H E) rfl
  exact (dss_cons (ds_expr (de_call G_check_names (.inl rfl) gd (hr.mono (by decide)) rfl (m_check_names KX G c) K_check_names B_check_names .nil (fun _ => Reps.nil) tk (ga_p (de_var (pv 0)) (ga_p (de_var (pv 2)) ga_nil)))) (dss_cons (ds_set (i := 3) (de_frz (de_pick (de_lstO (k := 1) (c := 1) (j := 0) rfl rfl rfl fx_Order_layers (me_Order___iter__ c) (S_Order_iter.mono (by decide)) B_Order_iter (me_Order___len__ c) G_Order_len B_Order_len gd (hr.mono (by decide)) rfl (m_list KX G c) (de_var (pv 1))) (de_callTy call_list_of cd_list rfl (m_list KX G c) (by decide +kernel) (da_cons (de_var (pv 1)) da_nil)))) sc_spread_over.nd rfl (by first | exact Or.inl rfl | exact Or.inr rfl)) (dss_cons (ds_if (dt_cmp op_ne cd_neS (de_callB call_len cd_len rfl (m_len KX G c) boot_len (da_cons (de_var (pv 3)) da_nil)) (de_op2 op_shlW od_shl de_int (de_callB call_len cd_len rfl (m_len KX G c) boot_len (da_cons (de_var (pv 2)) da_nil)))) (dss_one (ds_raise0 (c := 4) rfl tk O_OtherDays I_OtherDays Ty_OtherDays G_OtherDays (hr.mono (by decide)) B_OtherDays rfl (m_OtherDays KX G c))) dss_nil) (dss_one (ds_ret (de_callTy call_tuple_of cd_tuple rfl (m_tuple KX G c) (by decide +kernel) (da_cons (de_lc (own := [("target", 4)]) rfl sc_spread_over.nd (di_list rfl (de_frz (de_call G_seen_days (.inr rfl) gd (hr.mono (by decide)) rfl (m_seen_days KX G c) K_seen_days B_seen_days .nil (fun _ => Reps.nil) tk (ga_p (de_var (pv 0)) (ga_p (de_var (pv 2)) ga_nil))))) (blkOk_by (by first | rfl | decide +kernel)) (fun _ _ _ _ _ => (dg_name (i := 4) sc_spread_over.nd rfl (by first | exact Or.inl rfl | exact Or.inr rfl))) (fun _ _ _ _ _ => dts_nil) (fun _ _ _ _ _ => (de_ix rfl (de_var (pv 3)) (de_var (pv 4)) (fun _ _ => rfl)))) da_nil)))))))
theorem ok_widened_days (KX : K.In h) (G : h.Ns mainGlobals mg) (c : SaysV fa fn gs ex K) : ∃ fd, FnG P w K mg base (L2.CX P w) 4 (He.ga K "widened_days") fd ["marks", "day_set", "more"] (spF (tab K) (kdOf false) 3 F_widened_days) ∧ PySem.W.keepIn K (.ref (He.ga K "widened_days")) = true ∧ Binds K fd ["marks", "day_set", "more"] [] := by
  obtain ⟨fd, F⟩ := c.d.def_ 15 (d := d_widened_days) rfl
  obtain ⟨fd_check_names, G_check_names, K_check_names, B_check_names⟩ := ok_check_names (P := P) (w := w) (base := base) KX G c
  obtain ⟨fd_seen_days, G_seen_days, K_seen_days, B_seen_days⟩ := ok_seen_days (P := P) (w := w) (base := base) KX G c
  refine ⟨fd, fn_ok F sc_widened_days (by decide) rfl fun cdv A outer s H E hgd hr => ?_, F.kp, F.bindsN fun _ _ _ _ _ _ us hl => match us, hl with | [_, _, _], _ => rfl⟩
  have gd : (cxOf (L2.CX P w) P w K mg base N_widened_days "widened_days" (defScope s_widened_days) (He.ga K "widened_days") cdv A outer s H E).A.guards = some [] := deeper_guards.trans hgd
  have tk := L2.takes_of (X := cxOf (L2.CX P w) P w K mg base N_widened_days "widened_days" (defScope s_widened_days) (He.ga K "widened_days") cdv A outer s H E) rfl rfl rfl rfl
  have hp := L2.passes_of (X := cxOf (L2.CX P w) P w K mg base N_widened_days "widened_days" (defScope s_widened_days) (He.ga K "widened_days") cdv A outer s H E) rfl
  exact (dss_cons (ds_expr (de_call G_check_names (.inl rfl) gd (hr.mono (by decide)) rfl (m_check_names KX G c) K_check_names B_check_names .nil (fun _ => Reps.nil) tk (ga_p (de_var (pv 2)) (ga_p (de_unx (de_attr (c := 0) (j := 0) rfl (de_var (pv 0)) (cl_Marks c) (na_Marks_names c) rfl fx_Marks_names)) ga_nil)))) (dss_cons (ds_set (i := 3) de_int sc_widened_days.nd rfl (by first | exact Or.inl rfl | exact Or.inr rfl)) (dss_cons (ds_for hp rfl (di_enum rfl rfl (m_enumerate KX G c) (de_frz (de_call G_seen_days (.inr rfl) gd (hr.mono (by decide)) rfl (m_seen_days KX G c) K_seen_days B_seen_days .nil (fun _ => Reps.nil) tk (ga_p (de_var (pv 2)) (ga_p (de_unx (de_attr (c := 0) (j := 0) rfl (de_var (pv 0)) (cl_Marks c) (na_Marks_names c) rfl fx_Marks_names)) ga_nil))))) (dg_tup rfl rfl (dgs_cons (dg_name (i := 4) sc_widened_days.nd rfl (by first | exact Or.inl rfl | exact Or.inr rfl)) (dgs_cons (dg_name (i := 5) sc_widened_days.nd rfl (by first | exact Or.inl rfl | exact Or.inr rfl)) dgs_nil))) (dss_one (ds_if (dt_cmp op_eq cd_eqS (de_op2 op_and od_and (de_op2 op_shr od_shr (de_var (pv 1)) (de_var (pv 5))) de_int) de_int) (dss_one (ds_set (i := 3) (de_op2 op_or od_or (de_var (pv 3)) (de_op2 op_shlW od_shl de_int (de_var (pv 4)))) sc_widened_days.nd rfl (by first | exact Or.inl rfl | exact Or.inr rfl))) dss_nil))) (dss_one (ds_ret (de_var (pv 3)))))))
theorem ok_checked_layers (KX : K.In h) (G : h.Ns mainGlobals mg) (c : SaysV fa fn gs ex K) : ∃ fd, FnG P w K mg base (L2.CX P w) 3 (He.ga K "checked_layers") fd ["layers"] (spF (tab K) (kdOf false) 1 F_checked_layers) ∧ PySem.W.keepIn K (.ref (He.ga K "checked_layers")) = true ∧ Binds K fd ["layers"] [] := by
  obtain ⟨fd, F⟩ := c.d.def_ 16 (d := d_checked_layers) rfl
  obtain ⟨fd_is_whole, G_is_whole, K_is_whole, B_is_whole⟩ := ok_is_whole (P := P) (w := w) (base := base) KX G c
  obtain ⟨fdx_BadOrder, G_BadOrder, B_BadOrder⟩ := okx_BadOrder (P := P) (w := w) (base := base) KX G c
  have O_BadOrder := (xc_BadOrder c).o; have I_BadOrder := (xc_BadOrder c).i; have Ty_BadOrder := (xc_BadOrder c).t
  refine ⟨fd, fn_ok F sc_checked_layers (by decide) rfl fun cdv A outer s H E hgd hr => ?_, F.kp, F.bindsN fun _ _ _ _ _ _ us hl => match us, hl with | [_], _ => rfl⟩
  have gd : (cxOf (L2.CX P w) P w K mg base N_checked_layers "checked_layers" (defScope s_checked_layers) (He.ga K "checked_layers") cdv A outer s H E).A.guards = some [] := deeper_guards.trans hgd
  have tk := L2.takes_of (X := cxOf (L2.CX P w) P w K mg base N_checked_layers "checked_layers" (defScope s_checked_layers) (He.ga K "checked_layers") cdv A outer s H E) rfl rfl rfl rfl
  have hp := L2.passes_of (X := cxOf (L2.CX P w) P w K mg base N_checked_layers "checked_layers" (defScope s_checked_layers) (He.ga K "checked_layers") cdv A outer s H E) rfl
  exact (dss_cons (ds_if (dt_w (dw_or (dt_not (dt_tr rfl (de_isT2 rfl (it_list_tuple KX G c) (ca_list_tuple c) rfl (m_isinstance KX G c) (de_var (pv 0)) (pe_bltn (v := .ty "list") rfl (m_list KX G c) rfl rfl) (.ty _) (pe_bltn (v := .ty "tuple") rfl (m_tuple KX G c) rfl rfl) (.ty _)) (by intro _; rfl))) (dw_or1 (dt_cmp (op_notInA (hu65 hr)) cd_notInA (de_callB call_len cd_len rfl (m_len KX G c) boot_len (da_cons (de_var (pv 0)) da_nil)) (de_gtup rfl (m_COUNTS KX G c) (t_COUNTS c) (fun _ => (Reps.cons rep_int (Reps.cons rep_int (Reps.cons rep_int (Reps.cons rep_int Reps.nil)))))))))) (dss_one (ds_raise1 (c := 5) rfl tk O_BadOrder I_BadOrder Ty_BadOrder G_BadOrder (hr.mono (by decide)) B_BadOrder rfl (m_BadOrder KX G c) rfl de_str)) dss_nil) (dss_cons (ds_for hp rfl (di_seq rfl (de_var (pv 0))) (dg_name (i := 1) sc_checked_layers.nd rfl (by first | exact Or.inl rfl | exact Or.inr rfl)) (dss_one (ds_if (dt_not (dt_tr rfl (de_call G_is_whole (.inl rfl) gd (hr.mono (by decide)) rfl (m_is_whole KX G c) K_is_whole B_is_whole .nil (fun _ => Reps.nil) tk (ga_p (de_var (pv 1)) (ga_p de_int (ga_p (de_gint rfl (m_HIGHEST KX G c)) ga_nil)))) (by intro _; rfl))) (dss_one (ds_raise1 (c := 5) rfl tk O_BadOrder I_BadOrder Ty_BadOrder G_BadOrder (hr.mono (by decide)) B_BadOrder rfl (m_BadOrder KX G c) rfl de_str)) dss_nil))) (dss_one (ds_ret (de_callTy call_tuple_of cd_tuple rfl (m_tuple KX G c) (by decide +kernel) (da_cons (de_var (pv 0)) da_nil))))))
theorem ok_Order_init (KX : K.In h) (G : h.Ns mainGlobals mg) (c : SaysV fa fn gs ex K) : ∃ fd, FnG P w K mg base (L2.CX P w) 4 (He.ma K (He.ga K "Order") "__init__") fd ["self", "layers"] (spF (tab K) (kdOf false) 2 F_Order_init) ∧ PySem.W.keepIn K (.ref (He.ma K (He.ga K "Order") "__init__")) = true ∧ Binds K fd ["self", "layers"] [] := by
  obtain ⟨fd, F⟩ := c.d.def_ 17 (d := d_Order_init) rfl
  obtain ⟨fd_checked_layers, G_checked_layers, K_checked_layers, B_checked_layers⟩ := ok_checked_layers (P := P) (w := w) (base := base) KX G c
  obtain ⟨fdx_BadOrder, G_BadOrder, B_BadOrder⟩ := okx_BadOrder (P := P) (w := w) (base := base) KX G c
  have O_BadOrder := (xc_BadOrder c).o; have I_BadOrder := (xc_BadOrder c).i; have Ty_BadOrder := (xc_BadOrder c).t
  refine ⟨fd, fn_ok F sc_Order_init (by decide) rfl fun cdv A outer s H E hgd hr => ?_, F.kp, F.bindsN fun _ _ _ _ _ _ us hl => match us, hl with | [_, _], _ => rfl⟩
  have gd : (cxOf (L2.CX P w) P w K mg base N_Order_init "Order.__init__" (defScope s_Order_init) (He.ma K (He.ga K "Order") "__init__") cdv A outer s H E).A.guards = some [] := deeper_guards.trans hgd
  have tk := L2.takes_of (X := cxOf (L2.CX P w) P w K mg base N_Order_init "Order.__init__" (defScope s_Order_init) (He.ma K (He.ga K "Order") "__init__") cdv A outer s H E) rfl rfl rfl rfl
  have hp := L2.passes_of (X := cxOf (L2.CX P w) P w K mg base N_Order_init "Order.__init__" (defScope s_Order_init) (He.ma K (He.ga K "Order") "__init__") cdv A outer s H E) rfl
  exact (dss_cons (ds_stf (c := 1) (j := 0) rfl (pv 0) (de_call G_checked_layers (.inl rfl) gd (hr.mono (by decide)) rfl (m_checked_layers KX G c) K_checked_layers B_checked_layers .nil (fun _ => Reps.nil) tk (ga_p (de_var (pv 1)) ga_nil)) (cl_Order c) (na_Order_layers c) rfl fx_Order_layers) (dss_one (ds_if (dt_cmp op_gt cd_c2 (de_callB (cr_minT rfl) cd_minA rfl (m_min KX G c) (by decide +kernel) (da_cons (de_nat (c := 1) (j := 0) rfl (pv 0) (cl_Order c) (na_Order_layers c) rfl fx_Order_layers) da_nil)) de_int) (dss_one (ds_raise1 (c := 5) rfl tk O_BadOrder I_BadOrder Ty_BadOrder G_BadOrder (hr.mono (by decide)) B_BadOrder rfl (m_BadOrder KX G c) rfl de_str)) dss_nil)))
theorem ok_law_bag (KX : K.In h) (G : h.Ns mainGlobals mg) (c : SaysV fa fn gs ex K) : ∃ fd, FnG P w K mg base (L2.CX P w) 1 (He.ga K "_law_bag") fd ["_law_script", "_law_at"] (spF (tab K) (kdOf true) 2 F_law_bag) ∧ PySem.W.keepIn K (.ref (He.ga K "_law_bag")) = true ∧ Binds K fd ["_law_script", "_law_at"] [] := by
  obtain ⟨fd, F⟩ := c.d.def_ 22 (d := d_law_bag) rfl
  refine ⟨fd, fn_ok F sc_law_bag (by decide) rfl fun cdv A outer s H E hgd hr => ?_, F.kp, F.bindsN fun _ _ _ _ _ _ us hl => match us, hl with | [_, _], _ => rfl⟩
  have gd : (cxOf (L2.CX P w) P w K mg base N_law_bag "_law_bag" (defScope s_law_bag) (He.ga K "_law_bag") cdv A outer s H E).A.guards = some [] := deeper_guards.trans hgd
  have tk := L2.takes_of (X := cxOf (L2.CX P w) P w K mg base N_law_bag "_law_bag" (defScope s_law_bag) (He.ga K "_law_bag") cdv A outer s H E) rfl rfl rfl rfl
  have hp := L2.passes_of (X := cxOf (L2.CX P w) P w K mg base N_law_bag "_law_bag" (defScope s_law_bag) (He.ga K "_law_bag") cdv A outer s H E) rfl
  exact (dss_cons (ds_set (i := 2) (de_ifExp (dt_cmp op_lt cd_c2 (de_var (pv 1)) (de_callB call_len cd_len rfl (m_len KX G c) boot_len (da_cons (de_var (pv 0)) da_nil))) (de_callB call_abs cd_abs rfl (m_abs KX G c) (by decide +kernel) (da_cons (de_ix rfl (de_var (pv 0)) (de_var (pv 1)) (fun _ _ => rfl)) da_nil)) de_int) sc_law_bag.nd rfl (by first | exact Or.inl rfl | exact Or.inr rfl)) (dss_cons (ds_set (i := 3) (de_op2 op_add od_add de_int (de_op2 op_mulA od_mul de_int (de_var (pv 1)))) sc_law_bag.nd rfl (by first | exact Or.inl rfl | exact Or.inr rfl)) (dss_cons (ds_for hp rfl (di_enum rfl rfl (m_enumerate KX G c) (de_frz (de_slL rfl (de_var (pv 0)) do_none (do_some de_int)))) (dg_tup rfl rfl (dgs_cons (dg_name (i := 4) sc_law_bag.nd rfl (by first | exact Or.inl rfl | exact Or.inr rfl)) (dgs_cons (dg_name (i := 5) sc_law_bag.nd rfl (by first | exact Or.inl rfl | exact Or.inr rfl)) dgs_nil))) (dss_one (ds_set (i := 3) (de_op2 op_modN od_mod (de_callTy call_int1 cd_int rfl (m_int KX G c) (by decide +kernel) (da_cons (de_op2 op_add od_add (de_op2 op_add od_add (de_op2 op_mulA od_mul (de_var (pv 3)) de_int) (de_op2 op_modN od_mod (de_callTy call_int1 cd_int rfl (m_int KX G c) (by decide +kernel) (da_cons (de_var (pv 5)) da_nil)) de_int)) (de_op2 op_mulA od_mul de_int (de_var (pv 4)))) da_nil)) de_int) sc_law_bag.nd rfl (by first | exact Or.inl rfl | exact Or.inr rfl)))) (dss_one (ds_ret (de_lst (da_cons (de_ifExp (dt_cmp op_ge cd_c2 (de_var (pv 2)) (de_op2 op_pow od_pow de_int de_int)) (de_var (pv 2)) de_int) (da_cons (de_var (pv 3)) (da_cons de_int da_nil))) (pures_cons (pures_cons (pures_cons pures_nil)))))))))
theorem ok_law_take (KX : K.In h) (G : h.Ns mainGlobals mg) (c : SaysV fa fn gs ex K) : ∃ fd, FnG P w K mg base (L2.CX P w) 1 (He.ga K "_law_take") fd ["_law_bag_here", "_law_many"] (spF (tab K) (kdOf false) 2 F_law_take) ∧ PySem.W.keepIn K (.ref (He.ga K "_law_take")) = true ∧ Binds K fd ["_law_bag_here", "_law_many"] [] := by
  obtain ⟨fd, F⟩ := c.d.def_ 23 (d := d_law_take) rfl
  refine ⟨fd, fn_ok F sc_law_take (by decide) rfl fun cdv A outer s H E hgd hr => ?_, F.kp, F.bindsN fun _ _ _ _ _ _ us hl => match us, hl with | [_, _], _ => rfl⟩
  have gd : (cxOf (L2.CX P w) P w K mg base N_law_take "_law_take" (defScope s_law_take) (He.ga K "_law_take") cdv A outer s H E).A.guards = some [] := deeper_guards.trans hgd
  have tk := L2.takes_of (X := cxOf (L2.CX P w) P w K mg base N_law_take "_law_take" (defScope s_law_take) (He.ga K "_law_take") cdv A outer s H E) rfl rfl rfl rfl
  have hp := L2.passes_of (X := cxOf (L2.CX P w) P w K mg base N_law_take "_law_take" (defScope s_law_take) (He.ga K "_law_take") cdv A outer s H E) rfl
  exact (dss_cons (ds_if (dt_cmp op_gt cd_c2 (de_ix rfl (de_ovar (pv 0)) de_int (fun _ _ => rfl) (hst := steady_c)) de_int) (dss_cons (ds_set (i := 2) (de_op2 op_modN od_mod (de_callTy call_int1 cd_int rfl (m_int KX G c) (by decide +kernel) (da_cons (de_ix rfl (de_ovar (pv 0)) de_int (fun _ _ => rfl) (hst := steady_c)) da_nil)) (de_var (pv 1))) sc_law_take.nd rfl (by first | exact Or.inl rfl | exact Or.inr rfl)) (dss_cons (ds_setI (pv 0) (de_op2 op_fdivA od_fdiv (de_ix rfl (de_ovar (pv 0)) de_int (fun _ _ => rfl) (hst := steady_c)) (de_var (pv 1))) de_int) (dss_one (ds_ret (de_var (pv 2)))))) dss_nil) (dss_cons (ds_setI (pv 0) (de_op2 op_add od_add (de_ix rfl (de_ovar (pv 0)) de_int (fun _ _ => rfl) (hst := steady_c)) de_int) de_int) (dss_cons (ds_setI (pv 0) (de_op2 op_modN od_mod (de_callTy call_int1 cd_int rfl (m_int KX G c) (by decide +kernel) (da_cons (de_op2 op_add od_add (de_op2 op_add od_add (de_op2 op_mulA od_mul (de_ix rfl (de_ovar (pv 0)) de_int (fun _ _ => rfl) (hst := steady_c)) de_int) (de_op2 op_mulA od_mul de_int (de_ix rfl (de_ovar (pv 0)) de_int (fun _ _ => rfl) (hst := steady_c)))) de_int) da_nil)) de_int) de_int) (dss_one (ds_ret (de_op2 op_modN od_mod (de_op2 op_fdivA od_fdiv (de_op2 op_modN od_mod (de_callTy call_int1 cd_int rfl (m_int KX G c) (by decide +kernel) (da_cons (de_op2 op_mulA od_mul (de_ix rfl (de_ovar (pv 0)) de_int (fun _ _ => rfl) (hst := steady_c)) de_int) da_nil)) de_int) de_int) (de_var (pv 1))))))))
theorem ok_law_of (KX : K.In h) (G : h.Ns mainGlobals mg) (c : SaysV fa fn gs ex K) : ∃ fd, FnG P w K mg base (L2.CX P w) 2 (He.ga K "_law_of") fd ["_law_bag_here", "_law_some"] (spF (tab K) (kdOf false) 2 F_law_of) ∧ PySem.W.keepIn K (.ref (He.ga K "_law_of")) = true ∧ Binds K fd ["_law_bag_here", "_law_some"] [] := by
  obtain ⟨fd, F⟩ := c.d.def_ 24 (d := d_law_of) rfl
  obtain ⟨fd_law_take, G_law_take, K_law_take, B_law_take⟩ := ok_law_take (P := P) (w := w) (base := base) KX G c
  refine ⟨fd, fn_ok F sc_law_of (by decide) rfl fun cdv A outer s H E hgd hr => ?_, F.kp, F.bindsN fun _ _ _ _ _ _ us hl => match us, hl with | [_, _], _ => rfl⟩
  have gd : (cxOf (L2.CX P w) P w K mg base N_law_of "_law_of" (defScope s_law_of) (He.ga K "_law_of") cdv A outer s H E).A.guards = some [] := deeper_guards.trans hgd
  have tk := L2.takes_of (X := cxOf (L2.CX P w) P w K mg base N_law_of "_law_of" (defScope s_law_of) (He.ga K "_law_of") cdv A outer s H E) rfl rfl rfl rfl
  have hp := L2.passes_of (X := cxOf (L2.CX P w) P w K mg base N_law_of "_law_of" (defScope s_law_of) (He.ga K "_law_of") cdv A outer s H E) rfl
  exact (dss_one (ds_ret (de_ix rfl (de_var (pv 1)) (de_call G_law_take (.inl rfl) gd (hr.mono (by decide)) rfl (m__law_take KX G c) K_law_take B_law_take .nil (fun _ => Reps.nil) tk (ga_o (pv 0) (ga_p (de_callB call_len cd_len rfl (m_len KX G c) boot_len (da_cons (de_var (pv 1)) da_nil)) ga_nil))) (fun _ _ => rfl))))
theorem ok_law_name (KX : K.In h) (G : h.Ns mainGlobals mg) (c : SaysV fa fn gs ex K) : ∃ fd, FnG P w K mg base (L2.CX P w) 2 (He.ga K "_law_name") fd ["_law_bag_here", "_law_taken"] (spF (tab K) (kdOf false) 2 F_law_name) ∧ PySem.W.keepIn K (.ref (He.ga K "_law_name")) = true ∧ Binds K fd ["_law_bag_here", "_law_taken"] [] := by
  obtain ⟨fd, F⟩ := c.d.def_ 25 (d := d_law_name) rfl
  obtain ⟨fd_law_take, G_law_take, K_law_take, B_law_take⟩ := ok_law_take (P := P) (w := w) (base := base) KX G c
  refine ⟨fd, fn_ok F sc_law_name (by decide) rfl fun cdv A outer s H E hgd hr => ?_, F.kp, F.bindsN fun _ _ _ _ _ _ us hl => match us, hl with | [_, _], _ => rfl⟩
  have gd : (cxOf (L2.CX P w) P w K mg base N_law_name "_law_name" (defScope s_law_name) (He.ga K "_law_name") cdv A outer s H E).A.guards = some [] := deeper_guards.trans hgd
  have tk := L2.takes_of (X := cxOf (L2.CX P w) P w K mg base N_law_name "_law_name" (defScope s_law_name) (He.ga K "_law_name") cdv A outer s H E) rfl rfl rfl rfl
  have hp := L2.passes_of (X := cxOf (L2.CX P w) P w K mg base N_law_name "_law_name" (defScope s_law_name) (He.ga K "_law_name") cdv A outer s H E) rfl
  exact (dss_cons (ds_asg (de_tup (da_cons de_str (da_cons de_str da_nil)) (pures_cons (pures_cons pures_nil))) (dg_tup rfl rfl (dgs_cons (dg_name (i := 2) sc_law_name.nd rfl (by first | exact Or.inl rfl | exact Or.inr rfl)) (dgs_cons (dg_name (i := 3) sc_law_name.nd rfl (by first | exact Or.inl rfl | exact Or.inr rfl)) dgs_nil)))) (dss_cons (ds_for hp rfl (di_range1 rfl (m_range KX G c) (de_op2 op_add od_add de_int (de_call G_law_take (.inl rfl) gd (hr.mono (by decide)) rfl (m__law_take KX G c) K_law_take B_law_take .nil (fun _ => Reps.nil) tk (ga_o (pv 0) (ga_p de_int ga_nil))))) (dg_name (i := 4) sc_law_name.nd rfl (by first | exact Or.inl rfl | exact Or.inr rfl)) (dss_one (ds_set (i := 3) (de_op2 op_add_str od_addS (de_var (pv 3)) (de_ix rfl (de_var (pv 2)) (de_call G_law_take (.inl rfl) gd (hr.mono (by decide)) rfl (m__law_take KX G c) K_law_take B_law_take .nil (fun _ => Reps.nil) tk (ga_o (pv 0) (ga_p de_int ga_nil))) (fun _ _ => rfl))) sc_law_name.nd rfl (by first | exact Or.inl rfl | exact Or.inr rfl)))) (dss_cons (ds_for hp rfl (di_range1 rfl (m_range KX G c) de_int) (dg_name (i := 4) sc_law_name.nd rfl (by first | exact Or.inl rfl | exact Or.inr rfl)) (dss_one (ds_if (dt_w (dw_or (dt_cmp (op_inA (hu65 hr)) cd_inA (de_var (pv 3)) (de_ovar (pv 1))) (dw_or1 (dt_cmp (op_inA (hu65 hr)) cd_inA (de_var (pv 3)) (de_lst (da_cons de_str (da_cons de_str (da_cons de_str (da_cons de_str da_nil)))) (pures_cons (pures_cons (pures_cons (pures_cons pures_nil))))))))) (dss_one (ds_set (i := 3) (de_op2 op_add_str od_addS (de_var (pv 3)) de_str) sc_law_name.nd rfl (by first | exact Or.inl rfl | exact Or.inr rfl))) dss_nil))) (dss_cons (ds_expr (de_mt (i := 1) rfl PySem.F.plainAttrs_list PySem.F.slot_list_append PySem.F.type_list_append mt_append md_append (pv 1) (da_cons (de_var (pv 3)) da_nil) (pures_cons pures_nil))) (dss_one (ds_ret (de_var (pv 3))))))))
theorem ok_law_mixed (KX : K.In h) (G : h.Ns mainGlobals mg) (c : SaysV fa fn gs ex K) : ∃ fd, FnG P w K mg base (L2.CX P w) 2 (He.ga K "_law_mixed") fd ["_law_bag_here", "_law_some"] (spF (tab K) (kdOf true) 2 F_law_mixed) ∧ PySem.W.keepIn K (.ref (He.ga K "_law_mixed")) = true ∧ Binds K fd ["_law_bag_here", "_law_some"] [] := by
  obtain ⟨fd, F⟩ := c.d.def_ 26 (d := d_law_mixed) rfl
  obtain ⟨fd_law_take, G_law_take, K_law_take, B_law_take⟩ := ok_law_take (P := P) (w := w) (base := base) KX G c
  refine ⟨fd, fn_ok F sc_law_mixed (by decide) rfl fun cdv A outer s H E hgd hr => ?_, F.kp, F.bindsN fun _ _ _ _ _ _ us hl => match us, hl with | [_, _], _ => rfl⟩
  have gd : (cxOf (L2.CX P w) P w K mg base N_law_mixed "_law_mixed" (defScope s_law_mixed) (He.ga K "_law_mixed") cdv A outer s H E).A.guards = some [] := deeper_guards.trans hgd
  have tk := L2.takes_of (X := cxOf (L2.CX P w) P w K mg base N_law_mixed "_law_mixed" (defScope s_law_mixed) (He.ga K "_law_mixed") cdv A outer s H E) rfl rfl rfl rfl
  have hp := L2.passes_of (X := cxOf (L2.CX P w) P w K mg base N_law_mixed "_law_mixed" (defScope s_law_mixed) (He.ga K "_law_mixed") cdv A outer s H E) rfl
  exact (dss_cons (ds_parK (o1 := true) (o2 := true) (i := 2) (j := 3) rfl sc_law_mixed.nd rfl rfl (by decide) rfl rfl (de_callTy call_list_of cd_list rfl (m_list KX G c) (by decide +kernel) (da_cons (de_var (pv 1)) da_nil)) (de_lst da_nil pures_nil)) (dss_cons (ds_for hp rfl (di_range1 rfl (m_range KX G c) (de_callB call_len cd_len rfl (m_len KX G c) boot_len (da_cons (de_var (pv 1)) da_nil))) (dg_name (i := 4) sc_law_mixed.nd rfl (by first | exact Or.inl rfl | exact Or.inr rfl)) (dss_one (ds_expr (de_mt (i := 3) rfl PySem.F.plainAttrs_list PySem.F.slot_list_append PySem.F.type_list_append mt_append md_append (pv 3) (da_cons (de_mt (i := 2) rfl PySem.F.plainAttrs_list PySem.F.slot_list_pop PySem.F.type_list_pop mt_popAt md_popAt (pv 2) (da_cons (de_call G_law_take (.inl rfl) gd (hr.mono (by decide)) rfl (m__law_take KX G c) K_law_take B_law_take .nil (fun _ => Reps.nil) tk (ga_o (pv 0) (ga_p (de_callB call_len cd_len rfl (m_len KX G c) boot_len (da_cons (de_ovar (pv 2)) da_nil (steady_args steady_nil))) ga_nil))) da_nil) (pures_cons pures_nil)) da_nil) (pures_cons pures_nil))))) (dss_one (ds_retO (pv 3)))))
theorem ok_law_seen (KX : K.In h) (G : h.Ns mainGlobals mg) (c : SaysV fa fn gs ex K) : ∃ fd, FnG P w K mg base (L2.CX P w) 1 (He.ga K "_law_seen") fd ["_law_names", "_law_day", "_law_some"] (spF (tab K) (kdOf false) 3 F_law_seen) ∧ PySem.W.keepIn K (.ref (He.ga K "_law_seen")) = true ∧ Binds K fd ["_law_names", "_law_day", "_law_some"] [] := by
  obtain ⟨fd, F⟩ := c.d.def_ 27 (d := d_law_seen) rfl
  refine ⟨fd, fn_ok F sc_law_seen (by decide) rfl fun cdv A outer s H E hgd hr => ?_, F.kp, F.bindsN fun _ _ _ _ _ _ us hl => match us, hl with | [_, _, _], _ => rfl⟩
  have gd : (cxOf (L2.CX P w) P w K mg base N_law_seen "_law_seen" (defScope s_law_seen) (He.ga K "_law_seen") cdv A outer s H E).A.guards = some [] := deeper_guards.trans hgd
  have tk := L2.takes_of (X := cxOf (L2.CX P w) P w K mg base N_law_seen "_law_seen" (defScope s_law_seen) (He.ga K "_law_seen") cdv A outer s H E) rfl rfl rfl rfl
  have hp := L2.passes_of (X := cxOf (L2.CX P w) P w K mg base N_law_seen "_law_seen" (defScope s_law_seen) (He.ga K "_law_seen") cdv A outer s H E) rfl
  exact (dss_cons (ds_set (i := 3) de_int sc_law_seen.nd rfl (by first | exact Or.inl rfl | exact Or.inr rfl)) (dss_cons (ds_for hp rfl (di_enum rfl rfl (m_enumerate KX G c) (de_var (pv 2))) (dg_tup rfl rfl (dgs_cons (dg_name (i := 4) sc_law_seen.nd rfl (by first | exact Or.inl rfl | exact Or.inr rfl)) (dgs_cons (dg_name (i := 5) sc_law_seen.nd rfl (by first | exact Or.inl rfl | exact Or.inr rfl)) dgs_nil))) (dss_one (ds_set (i := 3) (de_op2 op_add od_add (de_var (pv 3)) (de_op2 op_mulA od_mul (de_op2 op_and od_and (de_op2 op_shr od_shr (de_var (pv 1)) (de_idxL rfl (de_var (pv 0)) (de_var (pv 5)))) de_int) (de_op2 op_shlW od_shl de_int (de_var (pv 4))))) sc_law_seen.nd rfl (by first | exact Or.inl rfl | exact Or.inr rfl)))) (dss_one (ds_ret (de_var (pv 3))))))
theorem ok_law_look (KX : K.In h) (G : h.Ns mainGlobals mg) (c : SaysV fa fn gs ex K) : ∃ fd, FnG P w K mg base (L2.CX P w) 2 (He.ga K "_law_look") fd ["_law_names", "_law_layers", "_law_some"] (spF (tab K) (kdOf true) 3 F_law_look) ∧ PySem.W.keepIn K (.ref (He.ga K "_law_look")) = true ∧ Binds K fd ["_law_names", "_law_layers", "_law_some"] [] := by
  obtain ⟨fd, F⟩ := c.d.def_ 28 (d := d_law_look) rfl
  obtain ⟨fd_law_seen, G_law_seen, K_law_seen, B_law_seen⟩ := ok_law_seen (P := P) (w := w) (base := base) KX G c
  refine ⟨fd, fn_ok F sc_law_look (by decide) rfl fun cdv A outer s H E hgd hr => ?_, F.kp, F.bindsN fun _ _ _ _ _ _ us hl => match us, hl with | [_, _, _], _ => rfl⟩
  have gd : (cxOf (L2.CX P w) P w K mg base N_law_look "_law_look" (defScope s_law_look) (He.ga K "_law_look") cdv A outer s H E).A.guards = some [] := deeper_guards.trans hgd
  have tk := L2.takes_of (X := cxOf (L2.CX P w) P w K mg base N_law_look "_law_look" (defScope s_law_look) (He.ga K "_law_look") cdv A outer s H E) rfl rfl rfl rfl
  have hp := L2.passes_of (X := cxOf (L2.CX P w) P w K mg base N_law_look "_law_look" (defScope s_law_look) (He.ga K "_law_look") cdv A outer s H E) rfl
  exact (dss_cons (ds_setO (i := 3) (de_repA (de_lst (da_cons de_non da_nil) (pures_cons pures_nil)) (de_op2 op_shlW od_shl de_int (de_callB call_len cd_len rfl (m_len KX G c) boot_len (da_cons (de_var (pv 2)) da_nil)))) sc_law_look.nd rfl (by first | exact Or.inl rfl | exact Or.inr rfl)) (dss_cons (ds_for hp rfl (di_range1 rfl (m_range KX G c) (de_callB call_len cd_len rfl (m_len KX G c) boot_len (da_cons (de_var (pv 1)) da_nil))) (dg_name (i := 4) sc_law_look.nd rfl (by first | exact Or.inl rfl | exact Or.inr rfl)) (dss_cons (ds_set (i := 5) (de_call G_law_seen (.inl rfl) gd (hr.mono (by decide)) rfl (m__law_seen KX G c) K_law_seen B_law_seen .nil (fun _ => Reps.nil) tk (ga_p (de_var (pv 0)) (ga_p (de_var (pv 4)) (ga_p (de_var (pv 2)) ga_nil)))) sc_law_look.nd rfl (by first | exact Or.inl rfl | exact Or.inr rfl)) (dss_one (ds_setI (pv 3) (de_ifExp (dt_cmp op_isN cd_isN (de_ix rfl (de_ovar (pv 3)) (de_var (pv 5)) (fun _ _ => rfl) (hst := steady_var)) de_non) (de_ix rfl (de_var (pv 1)) (de_var (pv 4)) (fun _ _ => rfl)) (de_callB (call_min2 rfl) cd_ii rfl (m_min KX G c) (by decide +kernel) (da_cons (de_ix rfl (de_ovar (pv 3)) (de_var (pv 5)) (fun _ _ => rfl) (hst := steady_var)) (da_cons (de_ix rfl (de_var (pv 1)) (de_var (pv 4)) (fun _ _ => rfl)) da_nil)))) (de_var (pv 5)))))) (dss_one (ds_retO (pv 3)))))
theorem ok_law_wide (KX : K.In h) (G : h.Ns mainGlobals mg) (c : SaysV fa fn gs ex K) : ∃ fd, FnG P w K mg base (L2.CX P w) 2 (He.ga K "_law_wide") fd ["_law_names", "_law_day_set", "_law_more"] (spF (tab K) (kdOf false) 3 F_law_wide) ∧ PySem.W.keepIn K (.ref (He.ga K "_law_wide")) = true ∧ Binds K fd ["_law_names", "_law_day_set", "_law_more"] [] := by
  obtain ⟨fd, F⟩ := c.d.def_ 29 (d := d_law_wide) rfl
  obtain ⟨fd_law_seen, G_law_seen, K_law_seen, B_law_seen⟩ := ok_law_seen (P := P) (w := w) (base := base) KX G c
  refine ⟨fd, fn_ok F sc_law_wide (by decide) rfl fun cdv A outer s H E hgd hr => ?_, F.kp, F.bindsN fun _ _ _ _ _ _ us hl => match us, hl with | [_, _, _], _ => rfl⟩
  have gd : (cxOf (L2.CX P w) P w K mg base N_law_wide "_law_wide" (defScope s_law_wide) (He.ga K "_law_wide") cdv A outer s H E).A.guards = some [] := deeper_guards.trans hgd
  have tk := L2.takes_of (X := cxOf (L2.CX P w) P w K mg base N_law_wide "_law_wide" (defScope s_law_wide) (He.ga K "_law_wide") cdv A outer s H E) rfl rfl rfl rfl
  have hp := L2.passes_of (X := cxOf (L2.CX P w) P w K mg base N_law_wide "_law_wide" (defScope s_law_wide) (He.ga K "_law_wide") cdv A outer s H E) rfl
  exact (dss_cons (ds_set (i := 3) de_int sc_law_wide.nd rfl (by first | exact Or.inl rfl | exact Or.inr rfl)) (dss_cons (ds_for hp rfl (di_range1 rfl (m_range KX G c) (de_op2 op_shlW od_shl de_int (de_callB call_len cd_len rfl (m_len KX G c) boot_len (da_cons (de_var (pv 2)) da_nil)))) (dg_name (i := 4) sc_law_wide.nd rfl (by first | exact Or.inl rfl | exact Or.inr rfl)) (dss_one (ds_if (dt_cmp op_eq cd_eqS (de_op2 op_and od_and (de_op2 op_shr od_shr (de_var (pv 1)) (de_call G_law_seen (.inl rfl) gd (hr.mono (by decide)) rfl (m__law_seen KX G c) K_law_seen B_law_seen .nil (fun _ => Reps.nil) tk (ga_p (de_var (pv 2)) (ga_p (de_var (pv 4)) (ga_p (de_var (pv 0)) ga_nil))))) de_int) de_int) (dss_one (ds_set (i := 3) (de_op2 op_or od_or (de_var (pv 3)) (de_op2 op_shlW od_shl de_int (de_var (pv 4)))) sc_law_wide.nd rfl (by first | exact Or.inl rfl | exact Or.inr rfl))) dss_nil))) (dss_one (ds_ret (de_var (pv 3))))))
theorem ok_law_numbers (KX : K.In h) (G : h.Ns mainGlobals mg) (c : SaysV fa fn gs ex K) : ∃ fd, FnG P w K mg base (L2.CX P w) 3 (He.ga K "_law_numbers") fd ["_law_bag_here", "_law_many"] (spF (tab K) (kdOf true) 2 F_law_numbers) ∧ PySem.W.keepIn K (.ref (He.ga K "_law_numbers")) = true ∧ Binds K fd ["_law_bag_here", "_law_many"] [] := by
  obtain ⟨fd, F⟩ := c.d.def_ 30 (d := d_law_numbers) rfl
  obtain ⟨fd_law_of, G_law_of, K_law_of, B_law_of⟩ := ok_law_of (P := P) (w := w) (base := base) KX G c
  obtain ⟨fd_law_take, G_law_take, K_law_take, B_law_take⟩ := ok_law_take (P := P) (w := w) (base := base) KX G c
  refine ⟨fd, fn_ok F sc_law_numbers (by decide) rfl fun cdv A outer s H E hgd hr => ?_, F.kp, F.bindsN fun _ _ _ _ _ _ us hl => match us, hl with | [_, _], _ => rfl⟩
  have gd : (cxOf (L2.CX P w) P w K mg base N_law_numbers "_law_numbers" (defScope s_law_numbers) (He.ga K "_law_numbers") cdv A outer s H E).A.guards = some [] := deeper_guards.trans hgd
  have tk := L2.takes_of (X := cxOf (L2.CX P w) P w K mg base N_law_numbers "_law_numbers" (defScope s_law_numbers) (He.ga K "_law_numbers") cdv A outer s H E) rfl rfl rfl rfl
  have hp := L2.passes_of (X := cxOf (L2.CX P w) P w K mg base N_law_numbers "_law_numbers" (defScope s_law_numbers) (He.ga K "_law_numbers") cdv A outer s H E) rfl
  exact (dss_cons (ds_set (i := 2) (de_call G_law_of (.inl rfl) gd (hr.mono (by decide)) rfl (m__law_of KX G c) K_law_of B_law_of .nil (fun _ => Reps.nil) tk (ga_o (pv 0) (ga_p (de_frz (de_lst (da_cons de_int (da_cons de_int (da_cons de_int (da_cons (de_op2 op_add od_add (de_op2 op_pow od_pow de_int de_int) de_int) da_nil)))) (pures_cons (pures_cons (pures_cons (pures_cons pures_nil)))))) ga_nil))) sc_law_numbers.nd rfl (by first | exact Or.inl rfl | exact Or.inr rfl)) (dss_one (ds_ret (de_lc (own := [("_law_k", 3)]) rfl sc_law_numbers.nd (di_range1 rfl (m_range KX G c) (de_var (pv 1))) (blkOk_by (by first | rfl | decide +kernel)) (fun _ _ _ _ _ => (dg_name (i := 3) sc_law_numbers.nd rfl (by first | exact Or.inl rfl | exact Or.inr rfl))) (fun _ _ _ _ _ => dts_nil) (fun _ _ _ _ _ => (de_call G_law_take (.inl rfl) gd (hr.mono (by decide)) rfl (m__law_take KX G c) K_law_take B_law_take .nil (fun _ => Reps.nil) tk0 (ga_o (pv 0) (ga_p (de_var (pv 2)) ga_nil))))))))
theorem ok_law_told (KX : K.In h) (G : h.Ns mainGlobals mg) (c : SaysV fa fn gs ex K) : ∃ fd, FnG P w K mg base (L2.CX P w) 6 (He.ga K "_law_told") fd ["_law_which", "_law_marks", "_law_thing", "_law_names"] (spF (tab K) (kdOf false) 4 F_law_told) ∧ PySem.W.keepIn K (.ref (He.ga K "_law_told")) = true ∧ Binds K fd ["_law_which", "_law_marks", "_law_thing", "_law_names"] [] := by
  obtain ⟨fd, F⟩ := c.d.def_ 31 (d := d_law_told) rfl
  obtain ⟨fd_look_day, G_look_day, K_look_day, B_look_day⟩ := ok_look_day (P := P) (w := w) (base := base) KX G c
  obtain ⟨fd_look_of, G_look_of, K_look_of, B_look_of⟩ := ok_look_of (P := P) (w := w) (base := base) KX G c
  obtain ⟨fd_spread_over, G_spread_over, K_spread_over, B_spread_over⟩ := ok_spread_over (P := P) (w := w) (base := base) KX G c
  refine ⟨fd, fn_ok F sc_law_told (by decide) rfl fun cdv A outer s H E hgd hr => ?_, F.kp, F.bindsN fun _ _ _ _ _ _ us hl => match us, hl with | [_, _, _, _], _ => rfl⟩
  have gd : (cxOf (L2.CX P w) P w K mg base N_law_told "_law_told" (defScope s_law_told) (He.ga K "_law_told") cdv A outer s H E).A.guards = some [] := deeper_guards.trans hgd
  have tk := L2.takes_of (X := cxOf (L2.CX P w) P w K mg base N_law_told "_law_told" (defScope s_law_told) (He.ga K "_law_told") cdv A outer s H E) rfl rfl rfl rfl
  have hp := L2.passes_of (X := cxOf (L2.CX P w) P w K mg base N_law_told "_law_told" (defScope s_law_told) (He.ga K "_law_told") cdv A outer s H E) rfl
  exact (dss_cons (ds_tryC rfl rfl (fun W' pn xe tk' hp' => (dss_one (ds_if (dt_cmp op_eq cd_eqS (de_var (pv 0)) de_int) (dss_one (ds_set (i := 4) (de_call G_look_day (.inl rfl) gd (hr.mono (by decide)) rfl (m_look_day KX G c) K_look_day B_look_day .nil (fun _ => Reps.nil) tk' (ga_p (de_var (pv 1)) (ga_p (de_var (pv 2)) (ga_p (de_var (pv 3)) ga_nil)))) sc_law_told.nd rfl (by first | exact Or.inl rfl | exact Or.inr rfl))) (dss_one (ds_if (dt_cmp op_eq cd_eqS (de_var (pv 0)) de_int) (dss_one (ds_set (i := 4) (de_call G_look_of (.inl rfl) gd (hr.mono (by decide)) rfl (m_look_of KX G c) K_look_of B_look_of .nil (fun _ => Reps.nil) tk' (ga_p (de_var (pv 1)) (ga_p (de_var (pv 2)) (ga_p (de_var (pv 3)) ga_nil)))) sc_law_told.nd rfl (by first | exact Or.inl rfl | exact Or.inr rfl))) (dss_one (ds_set (i := 4) (de_call G_spread_over (.inl rfl) gd (hr.mono (by decide)) rfl (m_spread_over KX G c) K_spread_over B_spread_over .nil (fun _ => Reps.nil) tk' (ga_p (de_var (pv 1)) (ga_p (de_var (pv 2)) (ga_p (de_var (pv 3)) ga_nil)))) sc_law_told.nd rfl (by first | exact Or.inl rfl | exact Or.inr rfl)))))))) (clD_as (i := 5) rfl (.inl rfl) rfl sc_law_told.nd rfl rfl ⟨rfl, by decide, .inl (m_NoMark KX G c)⟩ (by decide) (cok_NoMark c) (fun a oe cls d pn hz hf => (dss_one (ds_ret (de_frz (de_lst (da_cons de_str (da_cons (de_exf (c := 2) (j := 0) rfl hz hf (xf_NoMark c) (xn_NoMark_name c) rfl (pv 5)) da_nil)) (pures_cons (pures_cons pures_nil))))))) (clD_as (i := 5) rfl (.inl rfl) rfl sc_law_told.nd rfl rfl ⟨rfl, by decide, .inl (m_NoDay KX G c)⟩ (by decide) (cok_NoDay c) (fun a oe cls d pn hz hf => (dss_one (ds_ret (de_frz (de_lst (da_cons de_str (da_cons (de_exf (c := 3) (j := 0) rfl hz hf (xf_NoDay c) (xn_NoDay_day c) rfl (pv 5)) da_nil)) (pures_cons (pures_cons pures_nil))))))) (clD_as (i := 5) rfl (.inl rfl) rfl sc_law_told.nd rfl rfl ⟨rfl, by decide, .inl (m_OtherDays KX G c)⟩ (by decide) (cok_OtherDays c) (fun a oe cls d pn hz hf => (dss_one (ds_ret (de_frz (de_lst (da_cons de_str da_nil) (pures_cons pures_nil)))))) (clD_nil rfl rfl tk))))) (dss_one (ds_ret (de_var (pv 4)))))
theorem ok_law_right (KX : K.In h) (G : h.Ns mainGlobals mg) (c : SaysV fa fn gs ex K) : ∃ fd, FnG P w K mg base (L2.CX P w) 7 (He.ga K "_law_right") fd ["_law_bag_here", "_law_taken", "_law_some"] (spF (tab K) (kdOf false) 3 F_law_right) ∧ PySem.W.keepIn K (.ref (He.ga K "_law_right")) = true ∧ Binds K fd ["_law_bag_here", "_law_taken", "_law_some"] [] := by
  obtain ⟨fd, F⟩ := c.d.def_ 32 (d := d_law_right) rfl
  obtain ⟨fd_Marks_init, G_Marks_init, K_Marks_init, B_Marks_init⟩ := ok_Marks_init (P := P) (w := w) (base := base) KX G c
  obtain ⟨fd_Order_init, G_Order_init, K_Order_init, B_Order_init⟩ := ok_Order_init (P := P) (w := w) (base := base) KX G c
  obtain ⟨fd_law_look, G_law_look, K_law_look, B_law_look⟩ := ok_law_look (P := P) (w := w) (base := base) KX G c
  obtain ⟨fd_law_numbers, G_law_numbers, K_law_numbers, B_law_numbers⟩ := ok_law_numbers (P := P) (w := w) (base := base) KX G c
  obtain ⟨fd_law_seen, G_law_seen, K_law_seen, B_law_seen⟩ := ok_law_seen (P := P) (w := w) (base := base) KX G c
  obtain ⟨fd_law_told, G_law_told, K_law_told, B_law_told⟩ := ok_law_told (P := P) (w := w) (base := base) KX G c
  refine ⟨fd, fn_ok F sc_law_right (by decide) rfl fun cdv A outer s H E hgd hr => ?_, F.kp, F.bindsN fun _ _ _ _ _ _ us hl => match us, hl with | [_, _, _], _ => rfl⟩
  have gd : (cxOf (L2.CX P w) P w K mg base N_law_right "_law_right" (defScope s_law_right) (He.ga K "_law_right") cdv A outer s H E).A.guards = some [] := deeper_guards.trans hgd
  have tk := L2.takes_of (X := cxOf (L2.CX P w) P w K mg base N_law_right "_law_right" (defScope s_law_right) (He.ga K "_law_right") cdv A outer s H E) rfl rfl rfl rfl
  have hp := L2.passes_of (X := cxOf (L2.CX P w) P w K mg base N_law_right "_law_right" (defScope s_law_right) (He.ga K "_law_right") cdv A outer s H E) rfl
  exact (dss_cons (ds_par (i := 3) (j := 4) rfl sc_law_right.nd rfl rfl (by decide) rfl rfl (de_make (T := tab K) (c := 0) (mk_Marks c) G_Marks_init gd (hr.mono (by decide)) rfl (m_Marks KX G c) B_Marks_init .nil (fun _ => Reps.nil) tk (ga_p (de_var (pv 1)) ga_nil)) (de_op2 op_shlW od_shl de_int (de_callB call_len cd_len rfl (m_len KX G c) boot_len (da_cons (de_var (pv 1)) da_nil)))) (dss_cons (ds_for hp rfl (di_range1 rfl (m_range KX G c) (de_var (pv 4))) (dg_name (i := 5) sc_law_right.nd rfl (by first | exact Or.inl rfl | exact Or.inr rfl)) (dss_cons (ds_set (i := 6) (de_call G_law_told (.inl rfl) gd (hr.mono (by decide)) rfl (m__law_told KX G c) K_law_told B_law_told .nil (fun _ => Reps.nil) tk (ga_p de_int (ga_p (de_var (pv 3)) (ga_p (de_var (pv 5)) (ga_p (de_var (pv 2)) ga_nil))))) sc_law_right.nd rfl (by first | exact Or.inl rfl | exact Or.inr rfl)) (dss_one (ds_if (dt_w (dw_or (dt_tr rfl (de_isT rfl (it_bool KX G c) (ca_bool c) rfl (m_isinstance KX G c) (de_var (pv 6)) (pe_bltn (v := .ty "bool") rfl (m_bool KX G c) rfl rfl) (.ty _)) (by intro _; rfl)) (dw_or1 (dt_cmp (op_neD hr.units) cd_neD (de_var (pv 6)) (de_call G_law_seen (.inl rfl) gd (hr.mono (by decide)) rfl (m__law_seen KX G c) K_law_seen B_law_seen .nil (fun _ => Reps.nil) tk (ga_p (de_var (pv 1)) (ga_p (de_var (pv 5)) (ga_p (de_var (pv 2)) ga_nil)))))))) (dss_one (ds_ret de_bl)) dss_nil)))) (dss_cons (ds_asg (de_tup (da_cons (de_frz (de_call G_law_numbers (.inr rfl) gd (hr.mono (by decide)) rfl (m__law_numbers KX G c) K_law_numbers B_law_numbers .nil (fun _ => Reps.nil) tk (ga_o (pv 0) (ga_p (de_var (pv 4)) ga_nil)))) (da_cons (de_frz (de_call G_law_numbers (.inr rfl) gd (hr.mono (by decide)) rfl (m__law_numbers KX G c) K_law_numbers B_law_numbers .nil (fun _ => Reps.nil) tk (ga_o (pv 0) (ga_p (de_op2 op_shlW od_shl de_int (de_callB call_len cd_len rfl (m_len KX G c) boot_len (da_cons (de_var (pv 2)) da_nil))) ga_nil)))) da_nil)) (pures_cons (pures_cons pures_nil))) (dg_tup rfl rfl (dgs_cons (dg_name (i := 7) sc_law_right.nd rfl (by first | exact Or.inl rfl | exact Or.inr rfl)) (dgs_cons (dg_name (i := 8) sc_law_right.nd rfl (by first | exact Or.inl rfl | exact Or.inr rfl)) dgs_nil)))) (dss_cons (ds_asg (de_tup (da_cons (de_callB (cr_minT rfl) cd_minA rfl (m_min KX G c) (by decide +kernel) (da_cons (de_var (pv 7)) da_nil)) (da_cons (de_frz (de_callTy call_list_of cd_list rfl (m_list KX G c) (by decide +kernel) (da_cons (de_var (pv 7)) da_nil))) da_nil)) (pures_cons (pures_cons pures_nil))) (dg_tup rfl rfl (dgs_cons (dg_name (i := 9) sc_law_right.nd rfl (by first | exact Or.inl rfl | exact Or.inr rfl)) (dgs_cons (dg_name (i := 10) sc_law_right.nd rfl (by first | exact Or.inl rfl | exact Or.inr rfl)) dgs_nil)))) (dss_cons (ds_set (i := 11) (de_callTy call_tuple_of cd_tuple rfl (m_tuple KX G c) (by decide +kernel) (da_cons (de_call G_law_look (.inr rfl) gd (hr.mono (by decide)) rfl (m__law_look KX G c) K_law_look B_law_look .nil (fun _ => Reps.nil) tk (ga_p (de_var (pv 1)) (ga_p (de_var (pv 7)) (ga_p (de_var (pv 2)) ga_nil)))) da_nil)) sc_law_right.nd rfl (by first | exact Or.inl rfl | exact Or.inr rfl)) (dss_cons (ds_for hp rfl (di_list rfl (de_frz (de_lst (da_cons (de_var (pv 7)) (da_cons (de_callTy call_tuple_of cd_tuple rfl (m_tuple KX G c) (by decide +kernel) (da_cons (de_var (pv 7)) da_nil)) da_nil)) (pures_cons (pures_cons pures_nil))))) (dg_name (i := 12) sc_law_right.nd rfl (by first | exact Or.inl rfl | exact Or.inr rfl)) (dss_cons (ds_set (i := 6) (de_call G_law_told (.inl rfl) gd (hr.mono (by decide)) rfl (m__law_told KX G c) K_law_told B_law_told .nil (fun _ => Reps.nil) tk (ga_p de_int (ga_p (de_var (pv 3)) (ga_p (de_var (pv 12)) (ga_p (de_callTy call_tuple_of cd_tuple rfl (m_tuple KX G c) (by decide +kernel) (da_cons (de_var (pv 2)) da_nil)) ga_nil))))) sc_law_right.nd rfl (by first | exact Or.inl rfl | exact Or.inr rfl)) (dss_one (ds_if (dt_w (dw_or (dt_not (dt_tr rfl (de_isT rfl (it_tuple KX G c) (ca_tuple c) rfl (m_isinstance KX G c) (de_var (pv 6)) (pe_bltn (v := .ty "tuple") rfl (m_tuple KX G c) rfl rfl) (.ty _)) (by intro _; rfl))) (dw_or1 (dt_cmp (op_neD hr.units) cd_neD (de_var (pv 6)) (de_var (pv 11)))))) (dss_one (ds_ret de_bl)) dss_nil)))) (dss_cons (ds_set (i := 13) (de_make (T := tab K) (c := 1) (mk_Order c) G_Order_init gd (hr.mono (by decide)) rfl (m_Order KX G c) B_Order_init .nil (fun _ => Reps.nil) tk (ga_p (de_frz (de_lc (own := [("_law_layer", 15)]) rfl sc_law_right.nd (di_list rfl (de_var (pv 7))) (blkOk_by (by first | rfl | decide +kernel)) (fun _ _ _ _ _ => (dg_name (i := 15) sc_law_right.nd rfl (by first | exact Or.inl rfl | exact Or.inr rfl))) (fun _ _ _ _ _ => dts_nil) (fun _ _ _ _ _ => (de_op2 op_sub od_sub (de_var (pv 15)) (de_var (pv 9)))))) ga_nil)) sc_law_right.nd rfl (by first | exact Or.inl rfl | exact Or.inr rfl)) (dss_cons (ds_if (dt_w (dw_or (dt_cmp (op_neD hr.units) cd_neD (de_call G_law_told (.inl rfl) gd (hr.mono (by decide)) rfl (m__law_told KX G c) K_law_told B_law_told .nil (fun _ => Reps.nil) tk (ga_p de_int (ga_p (de_var (pv 3)) (ga_p (de_var (pv 13)) (ga_p (de_var (pv 2)) ga_nil))))) (de_callTy call_tuple_of cd_tuple rfl (m_tuple KX G c) (by decide +kernel) (da_cons (de_lc (own := [("_law_layer", 15)]) rfl sc_law_right.nd (di_tup rfl (de_var (pv 11))) (blkOk_by (by first | rfl | decide +kernel)) (fun _ _ _ _ _ => (dg_name (i := 15) sc_law_right.nd rfl (by first | exact Or.inl rfl | exact Or.inr rfl))) (fun _ _ _ _ _ => dts_nil) (fun _ _ _ _ _ => (de_op2 op_sub od_sub (de_var (pv 15)) (de_var (pv 9))))) da_nil))) (dw_or1 (dt_cmp (op_neD hr.units) cd_neD (de_var (pv 7)) (de_var (pv 10)))))) (dss_one (ds_ret de_bl)) dss_nil) (dss_cons (ds_set (i := 14) (de_call G_law_told (.inl rfl) gd (hr.mono (by decide)) rfl (m__law_told KX G c) K_law_told B_law_told .nil (fun _ => Reps.nil) tk (ga_p de_int (ga_p (de_var (pv 3)) (ga_p (de_var (pv 8)) (ga_p (de_var (pv 2)) ga_nil))))) sc_law_right.nd rfl (by first | exact Or.inl rfl | exact Or.inr rfl)) (dss_cons (ds_if (dt_w (dw_or (dt_not (dt_tr rfl (de_isT rfl (it_tuple KX G c) (ca_tuple c) rfl (m_isinstance KX G c) (de_var (pv 14)) (pe_bltn (v := .ty "tuple") rfl (m_tuple KX G c) rfl rfl) (.ty _)) (by intro _; rfl))) (dw_or1 (dt_cmp (op_neD hr.units) cd_neD (de_var (pv 14)) (de_callTy call_tuple_of cd_tuple rfl (m_tuple KX G c) (by decide +kernel) (da_cons (de_lc (own := [("_law_day", 5)]) rfl sc_law_right.nd (di_range1 rfl (m_range KX G c) (de_var (pv 4))) (blkOk_by (by first | rfl | decide +kernel)) (fun _ _ _ _ _ => (dg_name (i := 5) sc_law_right.nd rfl (by first | exact Or.inl rfl | exact Or.inr rfl))) (fun _ _ _ _ _ => dts_nil) (fun _ _ _ _ _ => (de_ix rfl (de_var (pv 8)) (de_call G_law_seen (.inl rfl) gd (hr.mono (by decide)) rfl (m__law_seen KX G c) K_law_seen B_law_seen .nil (fun _ => Reps.nil) tk0 (ga_p (de_var (pv 1)) (ga_p (de_var (pv 5)) (ga_p (de_var (pv 2)) ga_nil)))) (fun _ _ => rfl)))) da_nil)))))) (dss_one (ds_ret de_bl)) dss_nil) (dss_one (ds_ret (de_cmp (op_eqD hr.units) cd_eqD (de_call G_law_told (.inl rfl) gd (hr.mono (by decide)) rfl (m__law_told KX G c) K_law_told B_law_told .nil (fun _ => Reps.nil) tk (ga_p de_int (ga_p (de_var (pv 3)) (ga_p (de_var (pv 14)) (ga_p (de_var (pv 2)) ga_nil))))) (de_callTy call_tuple_of cd_tuple rfl (m_tuple KX G c) (by decide +kernel) (da_cons (de_var (pv 8)) da_nil)))))))))))))))
theorem ok_law_strange (KX : K.In h) (G : h.Ns mainGlobals mg) (c : SaysV fa fn gs ex K) : ∃ fd, FnG P w K mg base (L2.CX P w) 3 (He.ga K "_law_strange") fd ["_law_bag_here", "_law_taken"] (spF (tab K) (kdOf false) 2 F_law_strange) ∧ PySem.W.keepIn K (.ref (He.ga K "_law_strange")) = true ∧ Binds K fd ["_law_bag_here", "_law_taken"] [] := by
  obtain ⟨fd, F⟩ := c.d.def_ 33 (d := d_law_strange) rfl
  obtain ⟨fd_law_of, G_law_of, K_law_of, B_law_of⟩ := ok_law_of (P := P) (w := w) (base := base) KX G c
  refine ⟨fd, fn_ok F sc_law_strange (by decide) rfl fun cdv A outer s H E hgd hr => ?_, F.kp, F.bindsN fun _ _ _ _ _ _ us hl => match us, hl with | [_, _], _ => rfl⟩
  have gd : (cxOf (L2.CX P w) P w K mg base N_law_strange "_law_strange" (defScope s_law_strange) (He.ga K "_law_strange") cdv A outer s H E).A.guards = some [] := deeper_guards.trans hgd
  have tk := L2.takes_of (X := cxOf (L2.CX P w) P w K mg base N_law_strange "_law_strange" (defScope s_law_strange) (He.ga K "_law_strange") cdv A outer s H E) rfl rfl rfl rfl
  have hp := L2.passes_of (X := cxOf (L2.CX P w) P w K mg base N_law_strange "_law_strange" (defScope s_law_strange) (He.ga K "_law_strange") cdv A outer s H E) rfl
  exact (dss_one (ds_ret (de_call G_law_of (.inl rfl) gd (hr.mono (by decide)) rfl (m__law_of KX G c) K_law_of B_law_of .nil (fun _ => Reps.nil) tk (ga_o (pv 0) (ga_p (de_frz (de_lst (da_cons (de_op2 op_add_str od_addS (de_op2 op_add_str od_addS (de_op2 op_add_str od_addS de_str (de_ix rfl (de_var (pv 1)) de_int (fun _ _ => rfl))) (de_ix rfl (de_var (pv 1)) (de_un un_neg ud_neg de_int) (fun _ _ => rfl))) de_str) (da_cons de_str (da_cons de_non (da_cons de_int (da_cons de_bl (da_cons (de_tup (da_cons (de_ix rfl (de_var (pv 1)) de_int (fun _ _ => rfl)) da_nil) (pures_cons pures_nil)) (da_cons (de_frz (de_lst (da_cons (de_ix rfl (de_var (pv 1)) de_int (fun _ _ => rfl)) da_nil) (pures_cons pures_nil))) (da_cons (de_op2 op_add_str od_addS (de_ix rfl (de_var (pv 1)) de_int (fun _ _ => rfl)) de_str) da_nil)))))))) (pures_cons (pures_cons (pures_cons (pures_cons (pures_cons (pures_cons (pures_cons (pures_cons pures_nil)))))))))) ga_nil)))))
theorem ok_law_wrong (KX : K.In h) (G : h.Ns mainGlobals mg) (c : SaysV fa fn gs ex K) : ∃ fd, FnG P w K mg base (L2.CX P w) 7 (He.ga K "_law_wrong") fd ["_law_bag_here", "_law_taken", "_law_some"] (spF (tab K) (kdOf false) 3 F_law_wrong) ∧ PySem.W.keepIn K (.ref (He.ga K "_law_wrong")) = true ∧ Binds K fd ["_law_bag_here", "_law_taken", "_law_some"] [] := by
  obtain ⟨fd, F⟩ := c.d.def_ 34 (d := d_law_wrong) rfl
  obtain ⟨fd_Marks_init, G_Marks_init, K_Marks_init, B_Marks_init⟩ := ok_Marks_init (P := P) (w := w) (base := base) KX G c
  obtain ⟨fd_law_of, G_law_of, K_law_of, B_law_of⟩ := ok_law_of (P := P) (w := w) (base := base) KX G c
  obtain ⟨fd_law_strange, G_law_strange, K_law_strange, B_law_strange⟩ := ok_law_strange (P := P) (w := w) (base := base) KX G c
  obtain ⟨fd_law_take, G_law_take, K_law_take, B_law_take⟩ := ok_law_take (P := P) (w := w) (base := base) KX G c
  obtain ⟨fd_law_told, G_law_told, K_law_told, B_law_told⟩ := ok_law_told (P := P) (w := w) (base := base) KX G c
  refine ⟨fd, fn_ok F sc_law_wrong (by decide) rfl fun cdv A outer s H E hgd hr => ?_, F.kp, F.bindsN fun _ _ _ _ _ _ us hl => match us, hl with | [_, _, _], _ => rfl⟩
  have gd : (cxOf (L2.CX P w) P w K mg base N_law_wrong "_law_wrong" (defScope s_law_wrong) (He.ga K "_law_wrong") cdv A outer s H E).A.guards = some [] := deeper_guards.trans hgd
  have tk := L2.takes_of (X := cxOf (L2.CX P w) P w K mg base N_law_wrong "_law_wrong" (defScope s_law_wrong) (He.ga K "_law_wrong") cdv A outer s H E) rfl rfl rfl rfl
  have hp := L2.passes_of (X := cxOf (L2.CX P w) P w K mg base N_law_wrong "_law_wrong" (defScope s_law_wrong) (He.ga K "_law_wrong") cdv A outer s H E) rfl
  exact (dss_cons (ds_par (i := 3) (j := 4) rfl sc_law_wrong.nd rfl rfl (by decide) rfl rfl (de_make (T := tab K) (c := 0) (mk_Marks c) G_Marks_init gd (hr.mono (by decide)) rfl (m_Marks KX G c) B_Marks_init .nil (fun _ => Reps.nil) tk (ga_p (de_var (pv 1)) ga_nil)) (de_op2 op_shlW od_shl de_int (de_callB call_len cd_len rfl (m_len KX G c) boot_len (da_cons (de_var (pv 1)) da_nil)))) (dss_cons (ds_set (i := 5) (de_call G_law_strange (.inl rfl) gd (hr.mono (by decide)) rfl (m__law_strange KX G c) K_law_strange B_law_strange .nil (fun _ => Reps.nil) tk (ga_o (pv 0) (ga_p (de_var (pv 1)) ga_nil))) sc_law_wrong.nd rfl (by first | exact Or.inl rfl | exact Or.inr rfl)) (dss_cons (ds_set (i := 6) (de_call G_law_take (.inl rfl) gd (hr.mono (by decide)) rfl (m__law_take KX G c) K_law_take B_law_take .nil (fun _ => Reps.nil) tk (ga_o (pv 0) (ga_p (de_op2 op_add od_add (de_callB call_len cd_len rfl (m_len KX G c) boot_len (da_cons (de_var (pv 2)) da_nil)) de_int) ga_nil))) sc_law_wrong.nd rfl (by first | exact Or.inl rfl | exact Or.inr rfl)) (dss_cons (ds_set (i := 7) (de_frz (de_op2 op_catL od_catL (de_op2 op_catL od_catL (de_slL rfl (de_var (pv 2)) do_none (do_some (de_var (pv 6)))) (de_lst (da_cons (de_var (pv 5)) da_nil) (pures_cons pures_nil))) (de_slL rfl (de_var (pv 2)) (do_some (de_var (pv 6))) do_none))) sc_law_wrong.nd rfl (by first | exact Or.inl rfl | exact Or.inr rfl)) (dss_cons (ds_set (i := 8) (de_call G_law_of (.inl rfl) gd (hr.mono (by decide)) rfl (m__law_of KX G c) K_law_of B_law_of .nil (fun _ => Reps.nil) tk (ga_o (pv 0) (ga_p (de_frz (de_lst (da_cons (de_un un_neg ud_neg de_int) (da_cons (de_var (pv 4)) (da_cons (de_op2 op_add od_add (de_var (pv 4)) (de_call G_law_take (.inl rfl) gd (hr.mono (by decide)) rfl (m__law_take KX G c) K_law_take B_law_take .nil (fun _ => Reps.nil) tk (ga_o (pv 0) (ga_p (de_op2 op_pow od_pow de_int de_int) ga_nil)))) (da_cons de_non (da_cons de_str (da_cons de_bl (da_cons (de_tup (da_cons de_int da_nil) (pures_cons pures_nil)) (da_cons (de_frz (de_lst (da_cons de_int da_nil) (pures_cons pures_nil))) da_nil)))))))) (pures_cons (pures_cons (pures_cons (pures_cons (pures_cons (pures_cons (pures_cons (pures_cons pures_nil)))))))))) ga_nil))) sc_law_wrong.nd rfl (by first | exact Or.inl rfl | exact Or.inr rfl)) (dss_cons (ds_set (i := 9) (de_frz (de_ifExp (dt_cmp op_eq cd_eqS (de_call G_law_take (.inl rfl) gd (hr.mono (by decide)) rfl (m__law_take KX G c) K_law_take B_law_take .nil (fun _ => Reps.nil) tk (ga_o (pv 0) (ga_p de_int ga_nil))) de_int) (de_repA (de_lst (da_cons de_int da_nil) (pures_cons pures_nil)) (de_op2 op_sub od_sub (de_var (pv 4)) de_int)) (de_repA (de_lst (da_cons de_int da_nil) (pures_cons pures_nil)) (de_op2 op_mulA od_mul de_int (de_var (pv 4)))))) sc_law_wrong.nd rfl (by first | exact Or.inl rfl | exact Or.inr rfl)) (dss_cons (ds_if (dt_cmp op_ne cd_neS (de_callB (call_reprG gd hr.units) cd_repr rfl (m_repr KX G c) (by decide +kernel) (da_cons (de_call G_law_told (.inl rfl) gd (hr.mono (by decide)) rfl (m__law_told KX G c) K_law_told B_law_told .nil (fun _ => Reps.nil) tk (ga_p de_int (ga_p (de_var (pv 3)) (ga_p (de_var (pv 8)) (ga_p (de_var (pv 2)) ga_nil))))) da_nil)) (de_callB (call_reprG gd hr.units) cd_repr rfl (m_repr KX G c) (by decide +kernel) (da_cons (de_lst (da_cons de_str (da_cons (de_var (pv 8)) da_nil)) (pures_cons (pures_cons pures_nil))) da_nil))) (dss_one (ds_ret de_bl)) dss_nil) (dss_cons (ds_for hp rfl (di_list rfl (de_frz (de_lst (da_cons (de_tup (da_cons de_int (da_cons (de_var (pv 8)) da_nil)) (pures_cons (pures_cons pures_nil))) (da_cons (de_tup (da_cons de_int (da_cons de_int da_nil)) (pures_cons (pures_cons pures_nil))) (da_cons (de_tup (da_cons de_int (da_cons (de_var (pv 9)) da_nil)) (pures_cons (pures_cons pures_nil))) (da_cons (de_tup (da_cons de_int (da_cons (de_frz (de_repA (de_lst (da_cons de_int da_nil) (pures_cons pures_nil)) (de_var (pv 4)))) da_nil)) (pures_cons (pures_cons pures_nil))) (da_cons (de_tup (da_cons de_int (da_cons (de_var (pv 9)) da_nil)) (pures_cons (pures_cons pures_nil))) da_nil))))) (pures_cons (pures_cons (pures_cons (pures_cons (pures_cons pures_nil)))))))) (dg_tup rfl rfl (dgs_cons (dg_name (i := 10) sc_law_wrong.nd rfl (by first | exact Or.inl rfl | exact Or.inr rfl)) (dgs_cons (dg_name (i := 11) sc_law_wrong.nd rfl (by first | exact Or.inl rfl | exact Or.inr rfl)) dgs_nil))) (dss_one (ds_if (dt_cmp op_ne cd_neS (de_callB (call_reprG gd hr.units) cd_repr rfl (m_repr KX G c) (by decide +kernel) (da_cons (de_call G_law_told (.inl rfl) gd (hr.mono (by decide)) rfl (m__law_told KX G c) K_law_told B_law_told .nil (fun _ => Reps.nil) tk (ga_p (de_var (pv 10)) (ga_p (de_var (pv 3)) (ga_p (de_var (pv 11)) (ga_p (de_var (pv 7)) ga_nil))))) da_nil)) (de_callB (call_reprG gd hr.units) cd_repr rfl (m_repr KX G c) (by decide +kernel) (da_cons (de_lst (da_cons de_str (da_cons (de_var (pv 5)) da_nil)) (pures_cons (pures_cons pures_nil))) da_nil))) (dss_one (ds_ret de_bl)) dss_nil))) (dss_cons (ds_if (dt_cmp (op_neD hr.units) cd_neD (de_call G_law_told (.inl rfl) gd (hr.mono (by decide)) rfl (m__law_told KX G c) K_law_told B_law_told .nil (fun _ => Reps.nil) tk (ga_p de_int (ga_p (de_var (pv 3)) (ga_p (de_var (pv 9)) (ga_p (de_var (pv 2)) ga_nil))))) (de_lst (da_cons de_str da_nil) (pures_cons pures_nil))) (dss_one (ds_ret de_bl)) dss_nil) (dss_one (ds_ret (de_cmp (op_eqD hr.units) cd_eqD (de_call G_law_told (.inl rfl) gd (hr.mono (by decide)) rfl (m__law_told KX G c) K_law_told B_law_told .nil (fun _ => Reps.nil) tk (ga_p de_int (ga_p (de_var (pv 3)) (ga_p (de_frz (de_repA (de_lst (da_cons de_int da_nil) (pures_cons pures_nil)) (de_op2 op_add od_add (de_op2 op_shlW od_shl de_int (de_callB call_len cd_len rfl (m_len KX G c) boot_len (da_cons (de_var (pv 2)) da_nil))) de_int))) (ga_p (de_var (pv 2)) ga_nil))))) (de_lst (da_cons de_str da_nil) (pures_cons pures_nil))))))))))))))
theorem ok_law_sets (KX : K.In h) (G : h.Ns mainGlobals mg) (c : SaysV fa fn gs ex K) : ∃ fd, FnG P w K mg base (L2.CX P w) 5 (He.ga K "_law_sets") fd ["_law_bag_here", "_law_taken", "_law_some"] (spF (tab K) (kdOf false) 3 F_law_sets) ∧ PySem.W.keepIn K (.ref (He.ga K "_law_sets")) = true ∧ Binds K fd ["_law_bag_here", "_law_taken", "_law_some"] [] := by
  obtain ⟨fd, F⟩ := c.d.def_ 35 (d := d_law_sets) rfl
  obtain ⟨fd_Marks_init, G_Marks_init, K_Marks_init, B_Marks_init⟩ := ok_Marks_init (P := P) (w := w) (base := base) KX G c
  obtain ⟨fd_law_take, G_law_take, K_law_take, B_law_take⟩ := ok_law_take (P := P) (w := w) (base := base) KX G c
  obtain ⟨fd_law_wide, G_law_wide, K_law_wide, B_law_wide⟩ := ok_law_wide (P := P) (w := w) (base := base) KX G c
  obtain ⟨fd_widened_days, G_widened_days, K_widened_days, B_widened_days⟩ := ok_widened_days (P := P) (w := w) (base := base) KX G c
  refine ⟨fd, fn_ok F sc_law_sets (by decide) rfl fun cdv A outer s H E hgd hr => ?_, F.kp, F.bindsN fun _ _ _ _ _ _ us hl => match us, hl with | [_, _, _], _ => rfl⟩
  have gd : (cxOf (L2.CX P w) P w K mg base N_law_sets "_law_sets" (defScope s_law_sets) (He.ga K "_law_sets") cdv A outer s H E).A.guards = some [] := deeper_guards.trans hgd
  have tk := L2.takes_of (X := cxOf (L2.CX P w) P w K mg base N_law_sets "_law_sets" (defScope s_law_sets) (He.ga K "_law_sets") cdv A outer s H E) rfl rfl rfl rfl
  have hp := L2.passes_of (X := cxOf (L2.CX P w) P w K mg base N_law_sets "_law_sets" (defScope s_law_sets) (He.ga K "_law_sets") cdv A outer s H E) rfl
  exact (dss_cons (ds_if (dt_cmp (op_eqNil hr.units0) cd_eqNil (de_var (pv 2)) (de_lst da_nil pures_nil)) (dss_one (ds_ret de_bl)) dss_nil) (dss_cons (ds_par (i := 3) (j := 4) rfl sc_law_sets.nd rfl rfl (by decide) rfl rfl (de_make (T := tab K) (c := 0) (mk_Marks c) G_Marks_init gd (hr.mono (by decide)) rfl (m_Marks KX G c) B_Marks_init .nil (fun _ => Reps.nil) tk (ga_p (de_var (pv 2)) ga_nil)) (de_make (T := tab K) (c := 0) (mk_Marks c) G_Marks_init gd (hr.mono (by decide)) rfl (m_Marks KX G c) B_Marks_init .nil (fun _ => Reps.nil) tk (ga_p (de_var (pv 1)) ga_nil))) (dss_cons (ds_set (i := 5) (de_call G_law_take (.inl rfl) gd (hr.mono (by decide)) rfl (m__law_take KX G c) K_law_take B_law_take .nil (fun _ => Reps.nil) tk (ga_o (pv 0) (ga_p (de_op2 op_shlW od_shl de_int (de_op2 op_shlW od_shl de_int (de_callB call_len cd_len rfl (m_len KX G c) boot_len (da_cons (de_var (pv 2)) da_nil)))) ga_nil))) sc_law_sets.nd rfl (by first | exact Or.inl rfl | exact Or.inr rfl)) (dss_cons (ds_set (i := 6) (de_call G_widened_days (.inl rfl) gd (hr.mono (by decide)) rfl (m_widened_days KX G c) K_widened_days B_widened_days .nil (fun _ => Reps.nil) tk (ga_p (de_var (pv 3)) (ga_p (de_var (pv 5)) (ga_p (de_var (pv 4)) ga_nil)))) sc_law_sets.nd rfl (by first | exact Or.inl rfl | exact Or.inr rfl)) (dss_cons (ds_if (dt_w (dw_or (dt_tr rfl (de_isT rfl (it_bool KX G c) (ca_bool c) rfl (m_isinstance KX G c) (de_var (pv 6)) (pe_bltn (v := .ty "bool") rfl (m_bool KX G c) rfl rfl) (.ty _)) (by intro _; rfl)) (dw_or1 (dt_cmp op_ne cd_neS (de_var (pv 6)) (de_call G_law_wide (.inl rfl) gd (hr.mono (by decide)) rfl (m__law_wide KX G c) K_law_wide B_law_wide .nil (fun _ => Reps.nil) tk (ga_p (de_var (pv 2)) (ga_p (de_var (pv 5)) (ga_p (de_var (pv 1)) ga_nil)))))))) (dss_one (ds_ret de_bl)) dss_nil) (dss_cons (ds_setLc (i := 7) (own := [("_law_name_here", 11)]) rfl sc_law_sets.nd rfl rfl (sw_true rfl rfl rfl (by decide +kernel)) (di_list rfl (de_var (pv 1))) (blkOk_by (by first | rfl | decide +kernel)) (fun _ _ _ _ _ => (dg_name (i := 11) sc_law_sets.nd rfl (by first | exact Or.inl rfl | exact Or.inr rfl))) (fun _ _ _ _ _ => (dts_one (dt_cmp (op_notInA (hu65 hr)) cd_notInA (de_var (pv 11)) (de_var (pv 2))))) (fun _ _ _ _ _ => (de_var (pv 11)))) (dss_cons (ds_try_as (i := 10) rfl (.inl rfl) rfl rfl sc_law_sets.nd rfl rfl ⟨rfl, by decide, .inl (m_NoMark KX G c)⟩ tk (by decide) (cok_NoMark c) (fun W' pn xe tk' hp' => (dss_cons (ds_set (i := 8) (de_call G_widened_days (.inl rfl) gd (hr.mono (by decide)) rfl (m_widened_days KX G c) K_widened_days B_widened_days .nil (fun _ => Reps.nil) tk' (ga_p (de_var (pv 4)) (ga_p de_int (ga_p (de_var (pv 3)) ga_nil)))) sc_law_sets.nd rfl (by first | exact Or.inl rfl | exact Or.inr rfl)) (dss_one (ds_set (i := 9) de_non sc_law_sets.nd rfl (by first | exact Or.inl rfl | exact Or.inr rfl))))) (fun a oe cls d pn hz hf => (dss_one (ds_set (i := 9) (de_ifExp (dt_tr rfl (de_isX (v := .ref (He.ga K "DaysError")) (i := 10) rfl rfl hz hf (xi_DaysError c) (fun _ h => h) rfl (m_isinstance KX G c) (pv 10) (pe_glob (v := .ref (He.ga K "DaysError")) rfl (m_DaysError KX G c) rfl)) (by intro _; rfl)) (de_exf (c := 2) (j := 0) rfl hz hf (xf_NoMark c) (xn_NoMark_name c) rfl (pv 10)) de_str) sc_law_sets.nd rfl (by first | exact Or.inl rfl | exact Or.inr rfl))))) (dss_one (ds_ret (de_cmp (op_eqD hr.units) cd_eqD (de_var (pv 9)) (de_ifExp (dt_cmp (op_neNil hr.units0) cd_neNil (de_var (pv 7)) (de_lst da_nil pures_nil)) (de_ix rfl (de_var (pv 7)) de_int (fun _ _ => rfl)) de_non)))))))))))
theorem ok_law (KX : K.In h) (G : h.Ns mainGlobals mg) (c : SaysV fa fn gs ex K) : ∃ fd, (∀ (s : Shared) (v : Value), PySem.BindsTo s fd ⟨[v], []⟩ [("_law_script", v)]) ∧ ∀ base : Heap, FnG P w K mg base (L2.CX P w) 8 (He.ga K "law") fd ["_law_script"] (spF (tab K) .pure 1 F_law) := by
  obtain ⟨fd, F⟩ := c.d.def_ 36 (d := d_law) rfl
  have b := FunD.bindsA (ps := ["_law_script"]) F fun _ _ _ _ _ _ us hl => match us, hl with | [_], _ => rfl
  refine ⟨fd, fun s v => b s [v] rfl, fun base => ?_⟩
  obtain ⟨fd_law_bag, G_law_bag, K_law_bag, B_law_bag⟩ := ok_law_bag (P := P) (w := w) (base := base) KX G c
  obtain ⟨fd_law_mixed, G_law_mixed, K_law_mixed, B_law_mixed⟩ := ok_law_mixed (P := P) (w := w) (base := base) KX G c
  obtain ⟨fd_law_name, G_law_name, K_law_name, B_law_name⟩ := ok_law_name (P := P) (w := w) (base := base) KX G c
  obtain ⟨fd_law_of, G_law_of, K_law_of, B_law_of⟩ := ok_law_of (P := P) (w := w) (base := base) KX G c
  obtain ⟨fd_law_right, G_law_right, K_law_right, B_law_right⟩ := ok_law_right (P := P) (w := w) (base := base) KX G c
  obtain ⟨fd_law_sets, G_law_sets, K_law_sets, B_law_sets⟩ := ok_law_sets (P := P) (w := w) (base := base) KX G c
  obtain ⟨fd_law_take, G_law_take, K_law_take, B_law_take⟩ := ok_law_take (P := P) (w := w) (base := base) KX G c
  obtain ⟨fd_law_wrong, G_law_wrong, K_law_wrong, B_law_wrong⟩ := ok_law_wrong (P := P) (w := w) (base := base) KX G c
  refine fn_ok (T := tab K) (fr := false) (N := N_law) (pins := []) (m := B_law') F sc_law (by decide) rfl fun cdv A outer s H E hgd hr => ?_
  have gd : (cxOf (L2.CX P w) P w K mg base N_law "law" (defScope s_law) (He.ga K "law") cdv A outer s H E).A.guards = some [] := deeper_guards.trans hgd
  have tk := L2.takes_of (X := cxOf (L2.CX P w) P w K mg base N_law "law" (defScope s_law) (He.ga K "law") cdv A outer s H E) rfl rfl rfl rfl
  have hp := L2.passes_of (X := cxOf (L2.CX P w) P w K mg base N_law "law" (defScope s_law) (He.ga K "law") cdv A outer s H E) rfl
  exact (dss_cons (ds_for hp rfl (di_range1 rfl (m_range KX G c) de_int) (dg_name (i := 1) sc_law.nd rfl (by first | exact Or.inl rfl | exact Or.inr rfl)) (dss_cons (ds_parK (o1 := true) (o2 := true) (i := 2) (j := 3) rfl sc_law.nd rfl rfl (by decide) rfl rfl (de_call G_law_bag (.inr rfl) gd (hr.mono (by decide)) rfl (m__law_bag KX G c) K_law_bag B_law_bag .nil (fun _ => Reps.nil) tk (ga_p (de_var (pv 0)) (ga_p (de_var (pv 1)) ga_nil))) (de_lst da_nil pures_nil)) (dss_cons (ds_for hp rfl (di_range1 rfl (m_range KX G c) (de_call G_law_of (.inl rfl) gd (hr.mono (by decide)) rfl (m__law_of KX G c) K_law_of B_law_of .nil (fun _ => Reps.nil) tk (ga_o (pv 2) (ga_p (de_frz (de_lst (da_cons de_int (da_cons de_int (da_cons de_int (da_cons de_int (da_cons de_int (da_cons de_int da_nil)))))) (pures_cons (pures_cons (pures_cons (pures_cons (pures_cons (pures_cons pures_nil)))))))) ga_nil)))) (dg_name (i := 4) sc_law.nd rfl (by first | exact Or.inl rfl | exact Or.inr rfl)) (dss_one (ds_expr (de_callQ G_law_name (.inl rfl) gd (hr.mono (by decide)) rfl (m__law_name KX G c) K_law_name B_law_name .nil (fun _ => Reps.nil) tk (ga_o (pv 2) (ga_o (pv 3) ga_nil)))))) (dss_cons (ds_set (i := 5) (de_frz (de_call G_law_mixed (.inr rfl) gd (hr.mono (by decide)) rfl (m__law_mixed KX G c) K_law_mixed B_law_mixed .nil (fun _ => Reps.nil) tk (ga_o (pv 2) (ga_p (de_ofrz (pv 3)) ga_nil)))) sc_law.nd rfl (by first | exact Or.inl rfl | exact Or.inr rfl)) (dss_cons (ds_set (i := 6) (de_frz (de_slL rfl (de_var (pv 5)) do_none (do_some (de_call G_law_take (.inl rfl) gd (hr.mono (by decide)) rfl (m__law_take KX G c) K_law_take B_law_take .nil (fun _ => Reps.nil) tk (ga_o (pv 2) (ga_p (de_op2 op_add od_add (de_callB call_len cd_len rfl (m_len KX G c) boot_len (da_cons (de_var (pv 5)) da_nil)) de_int) ga_nil)))))) sc_law.nd rfl (by first | exact Or.inl rfl | exact Or.inr rfl)) (dss_one (ds_if (dt_not (dt_w (dw_and (dt_tr rfl (de_call G_law_right (.inl rfl) gd (hr.mono (by decide)) rfl (m__law_right KX G c) K_law_right B_law_right .nil (fun _ => Reps.nil) tk (ga_o (pv 2) (ga_p (de_var (pv 3)) (ga_p (de_var (pv 6)) ga_nil)))) (by intro _; rfl)) (dw_and (dt_tr rfl (de_call G_law_wrong (.inl rfl) gd (hr.mono (by decide)) rfl (m__law_wrong KX G c) K_law_wrong B_law_wrong .nil (fun _ => Reps.nil) tk (ga_o (pv 2) (ga_p (de_var (pv 3)) (ga_p (de_var (pv 6)) ga_nil)))) (by intro _; rfl)) (dw_and1 (dt_tr rfl (de_call G_law_sets (.inl rfl) gd (hr.mono (by decide)) rfl (m__law_sets KX G c) K_law_sets B_law_sets .nil (fun _ => Reps.nil) tk (ga_o (pv 2) (ga_p (de_var (pv 3)) (ga_p (de_var (pv 6)) ga_nil)))) (by intro _; rfl))))))) (dss_one (ds_ret de_bl)) dss_nil))))))) (dss_one (ds_ret de_bl)))
end
end Lw
end
set_option linter.all false
set_option Elab.async false
set_option maxRecDepth 100000
set_option maxHeartbeats 4000000
set_option exponentiation.threshold 5000
namespace Lw
open PySem Ue
theorem z_leB {n : Nat} (h : n ≤ 10000) : n ≤ sizeLine := Nat.le_trans h (by rw [show sizeLine = _ from sizeLine_eq]; decide)
def bg (b : Int × Int × Int) : List D := [.int b.1, .int b.2.1, .int b.2.2]
theorem take_int {b : Int × Int × Int} {n : Int} (h0 : 0 < n) (hn : Mid n) : ∃ (d : Int) (b' : Int × Int × Int), F_law_take [.own (bg b), .v (.int n)] = .ok (.int d) [.own (bg b'), .v (.int n)] ∧ 0 ≤ d ∧ d < n := by
  obtain ⟨c, m, k⟩ := b
  have e1 : n ≠ 0 := by omega
  have e2 := divOk_mid (i := c) e1 hn
  unfold bg
  by_cases hc : 0 < c
  · refine ⟨c.fmod n, (c.fdiv n, m, k), ?_, Int.fmod_nonneg_of_pos _ h0, Int.fmod_lt_of_pos _ h0⟩
    simp [u_law_take, L2.atI, L2.ixN, hc, e1, e2]
  · refine ⟨((((m * 48271 + 13 * (k + 1) + 5).fmod 2147483647 * 39373).fmod 2147483587).fdiv 64).fmod n, (c, (m * 48271 + 13 * (k + 1) + 5).fmod 2147483647, k + 1), ?_, Int.fmod_nonneg_of_pos _ h0, Int.fmod_lt_of_pos _ h0⟩
    simp [u_law_take, L2.atI, L2.ixN, hc, e1, e2, mulOk_r, mulOk_l, divOk, small64]
theorem take_ok (b : Int × Int × Int) {n : Nat} (h0 : 0 < n) (hn : n ≤ 1000000) : ∃ (d : Nat) (b' : Int × Int × Int), F_law_take [.own (bg b), .v (.int (n : Int))] = .ok (.int (d : Int)) [.own (bg b'), .v (.int (n : Int))] ∧ d < n := by
  obtain ⟨d, b', e, h1, h2⟩ := take_int (b := b) (n := (n : Int)) (by omega) (by unfold Mid; exact Nat.lt_of_lt_of_le (by omega : (n : Int).natAbs < 2 ^ 20) (Nat.pow_le_pow_right (by decide) (by decide)))
  obtain ⟨j, rfl⟩ := Int.eq_ofNat_of_zero_le h1
  exact ⟨j, b', e, by omega⟩
theorem of_ok (b : Int × Int × Int) {ds : List D} (h0 : ds ≠ []) (hn : ds.length < 1000) : ∃ (d : D) (b' : Int × Int × Int), F_law_of [.own (bg b), .v (.lst ds)] = .ok d [.own (bg b'), .v (.lst ds)] ∧ d ∈ ds := by
  have hl : 0 < ds.length := List.length_pos_iff.mpr h0
  obtain ⟨j, b', e, hj⟩ := take_ok b (n := ds.length) hl (by omega)
  refine ⟨ds[j], b', ?_, List.getElem_mem hj⟩
  have e3 : L2.atI ds (j : Int) = some ds[j] := atI_nat (List.getElem?_eq_getElem hj)
  simp [u_law_of, e, e3]
theorem bag_ok {ns : List Int} {i : Nat} (hl : ns.length ≤ 63) : ∃ b : Int × Int × Int, F_law_bag [.v (.scr ns), .v (.int (i : Int))] = .ok (.lst (bg b)) [.v (.scr ns), .v (.int (i : Int))] := by
  have z : (3 : Nat) ≤ sizeLine := by rw [show sizeLine = _ from sizeLine_eq]; decide
  have key : ∀ (c0 m0 : Int) (x4 x5 : Option EV), ∃ m e4 e5, forM (tgT [tgN 4, tgN 5]) L_law_bag_0 (enumL (cutD (ns.map D.int) none (some 63))) [some (.v (.scr ns)), some (.v (.int (i : Int))), some (.v (.int c0)), some (.v (.int m0)), x4, x5] = .nx [some (.v (.scr ns)), some (.v (.int (i : Int))), some (.v (.int c0)), some (.v (.int m)), e4, e5] := by
    intro c0 m0 x4 x5
    have step : ∀ d ∈ enumL (cutD (ns.map D.int) none (some 63)), ∀ e, (∃ (m : Int) (y4 y5 : Option EV), e = [some (.v (.scr ns)), some (.v (.int (i : Int))), some (.v (.int c0)), some (.v (.int m)), y4, y5]) → ∃ e1 e2, (tgT [tgN 4, tgN 5]) d e = some e1 ∧ (L_law_bag_0 e1 = .nx e2 ∨ L_law_bag_0 e1 = .cnt e2) ∧ (∃ (m : Int) (y4 y5 : Option EV), e2 = [some (.v (.scr ns)), some (.v (.int (i : Int))), some (.v (.int c0)), some (.v (.int m)), y4, y5]) := by
      rintro d hd e ⟨m, y4, y5, rfl⟩
      unfold enumL at hd
      obtain ⟨j, hj, rfl⟩ := List.mem_map.mp hd
      have hm : ∀ x ∈ cutD (ns.map D.int) none (some 63), ∃ n : Int, x = .int n := fun x hx => by
        unfold cutD at hx
        obtain ⟨n, _, rfl⟩ := List.mem_map.mp (List.mem_of_mem_drop (List.mem_of_mem_take hx))
        exact ⟨n, rfl⟩
      have hj : j < (cutD (ns.map D.int) none (some 63)).length := by simpa using hj
      obtain ⟨n, hn⟩ := hm _ (List.getElem_mem hj)
      have e : (cutD (ns.map D.int) none (some 63)).getD j .non = .int n := by rw [List.getD_eq_getElem?_getD, List.getElem?_eq_getElem hj, hn]; rfl
      rw [e]
      have w1 : mulOk m 40692 = true := mulOk_r (by decide)
      have w2 : mulOk 113 (j : Int) = true := mulOk_l (by decide)
      exact ⟨[some (.v (.scr ns)), some (.v (.int (i : Int))), some (.v (.int c0)), some (.v (.int m)), some (.v (.int j)), some (.v (.int n))], [some (.v (.scr ns)), some (.v (.int (i : Int))), some (.v (.int c0)), some (.v (.int ((m * 40692 + n.fmod 2147483399 + 113 * j).fmod 2147483423))), some (.v (.int j)), some (.v (.int n))], rfl, .inl (by simp [L_law_bag_0, w1, w2]), _, _, _, rfl⟩
    obtain ⟨e2, h1, m, y4, y5, rfl⟩ := forM_inv (g := tgT [tgN 4, tgN 5]) (s := L_law_bag_0) (fun e => ∃ (m : Int) (y4 y5 : Option EV), e = [some (.v (.scr ns)), some (.v (.int (i : Int))), some (.v (.int c0)), some (.v (.int m)), y4, y5]) (enumL (cutD (ns.map D.int) none (some 63))) _ step ⟨m0, x4, x5, rfl⟩
    exact ⟨m, y4, y5, h1⟩
  have w1 : mulOk 7013 (i : Int) = true := mulOk_l (by decide)
  have w2 : powOk 10 18 = true := by decide
  unfold bg
  by_cases h : i < ns.length
  · have e3 : L2.atI ns (i : Int) = some ns[i] := atI_nat (List.getElem?_eq_getElem h)
    have h' : ((i : Int) < (ns.length : Int)) = True := eq_true (by omega)
    obtain ⟨m, e4, e5, e⟩ := key (if ns[i] < 0 then -ns[i] else ns[i]) (60013 + 7013 * (i : Int)) none none
    by_cases g : (1000000000000000000 : Int) ≤ (if ns[i] < 0 then -ns[i] else ns[i])
    · refine ⟨((if ns[i] < 0 then -ns[i] else ns[i]), m, 0), ?_⟩
      simp [u_law_bag, e3, h', w1, w2, e, z, g]
    · refine ⟨(0, m, 0), ?_⟩
      simp [u_law_bag, e3, h', w1, w2, e, z, g]
  · have h' : ((i : Int) < (ns.length : Int)) = False := eq_false (by omega)
    obtain ⟨m, e4, e5, e⟩ := key 0 (60013 + 7013 * (i : Int)) none none
    refine ⟨(0, m, 0), ?_⟩
    simp [u_law_bag, h', w1, w2, e, z]
end Lw
set_option linter.all false
set_option Elab.async false
set_option maxRecDepth 100000
set_option maxHeartbeats 4000000
set_option exponentiation.threshold 5000
namespace Lw
open PySem Ue
def KW : List Str := ["and", "any", "marks", "need", "never", "not", "or", "usually", "where"]
def K4 : List Str := ["and", "any", "not", "or"]
def LT : Str := "abcdefghijklmnopqrstuvwxyz"
def nmS (l : List Nat) : Str := ⟨l.toArray⟩
theorem nmS_app (a b : List Nat) : nmS a ++ nmS b = nmS (a ++ b) := by
  show Str.append _ _ = _
  simp [Str.append, nmS]
theorem nmS_inj {a b : List Nat} (h : nmS a = nmS b) : a = b := by
  have := congrArg (fun s => s.cps.toList) h
  simpa [nmS] using this
theorem nmS_len (a : List Nat) : (nmS a).length = a.length := by simp [nmS, Str.length]
def Ltr (l : List Nat) : Prop := ∀ c ∈ l, 97 ≤ c ∧ c < 123
theorem Ltr.ok {l : List Nat} (h : Ltr l) : PyData.strOk (nmS l) = true := by
  unfold PyData.strOk nmS
  rw [Array.all_eq_true]
  intro i hi
  have := h l[i] (List.getElem_mem (by simpa using hi))
  simp only [List.getElem_toArray]
  exact decide_eq_true (by omega)
def Good (n : Str) : Prop := ∃ l, n = nmS l ∧ l ≠ [] ∧ l.length ≤ 8 ∧ Ltr l ∧ n ∉ KW ∧ (l.length ≤ 3 ∨ l.getLast? = some 113)
theorem Good.ok {n : Str} (h : Good n) : PyData.strOk n = true := by
  obtain ⟨l, rfl, _, _, h, _⟩ := h
  exact h.ok
theorem KW_ok : KW.all PyData.strOk = true := by decide +kernel
theorem K4_ok : K4.all PyData.strOk = true := by decide +kernel
theorem goods_ok {ns : List Str} (h : ∀ n ∈ ns, Good n) : ns.all PyData.strOk = true := List.all_eq_true.mpr fun n hn => (h n hn).ok
theorem letter_in : ∀ d, d < 26 → inStr (.str ⟨#[97 + d]⟩) (.str LT) = some true := by
  intro d hd
  have : ∀ d, d < 26 → (Builtin.Str.occurrences LT ⟨#[97 + d]⟩ 0 LT.length 1).isEmpty = false := by decide +kernel
  show some _ = _
  rw [this d hd]; rfl
theorem letter_at : ∀ d, d < 26 → LT.cps.toList[d]? = some (97 + d) := by decide +kernel
theorem lt_len : LT.length ≤ sizeLine := z_le (n := LT.length) (by decide +kernel)
theorem ix_letter {d : Nat} (h : d < 26) : ixD (.str LT) (.int (d : Int)) = some (.str (nmS [97 + d])) := by
  show (if LT.length ≤ sizeLine then (L2.atI LT.cps.toList (d : Int)).map fun c => D.str ⟨#[c]⟩ else none) = _
  rw [if_pos lt_len, atI_nat (letter_at d h)]
  rfl
theorem name_fault_ok {n : Str} (h : Good n) : F_name_fault [.v (.str n)] = .ok .non [.v (.str n)] := by
  have hk := h.ok
  obtain ⟨l, rfl, h1, h2, h3, h4, _⟩ := h
  have hl : lenD [.str (nmS l)] = some (.int (l.length : Int)) := by
    show (if (nmS l).length ≤ sizeLine then some (D.int ((nmS l).length : Int)) else none) = _
    rw [nmS_len, if_pos (z_le (by omega))]
  have hp : 1 ≤ l.length := List.length_pos_iff.mpr h1
  have e1 : (1 : Int) ≤ (l.length : Int) := by omega
  have e2 : (l.length : Int) ≤ 8 := by omega
  have hin : inA (.str (nmS l)) (.tup (KW.map D.str)) = some false := by
    rw [inA_strsT hk KW_ok, decide_eq_false h4]
  simp only [KW, List.map_cons, List.map_nil] at hin
  have loop : ∀ (l2 : List Nat), Ltr l2 → ∀ x, ∃ y, forM (tgN 1) L_name_fault_0 (l2.map fun c => D.str ⟨#[c]⟩) [some (.v (.str (nmS l))), x] = .nx [some (.v (.str (nmS l))), y] := by
    intro l2
    induction l2 with
    | nil => intro _ x; exact ⟨x, rfl⟩
    | cons c l2 ih =>
      intro hl x
      obtain ⟨c1, c2⟩ := hl c (List.mem_cons_self ..)
      have hc := letter_in (c - 97) (by omega)
      rw [show 97 + (c - 97) = c by omega] at hc
      have hc2 : notInStr (.str ⟨#[c]⟩) (.str LT) = some false := by
        show (inStr _ _).map _ = _
        rw [hc]; rfl
      have hb : L_name_fault_0 [some (.v (.str (nmS l))), some (.v (.str ⟨#[c]⟩))] = .nx [some (.v (.str (nmS l))), some (.v (.str ⟨#[c]⟩))] := by
        simp only [L_name_fault_0, iffM_s, cmpM_s, varM_s, List.getElem?_cons_succ, List.getElem?_cons_zero, bind_ok, cM_s]
        rw [show (PySem.Str.ofString "abcdefghijklmnopqrstuvwxyz") = LT from rfl, hc2]
        rfl
      obtain ⟨y, hy⟩ := ih (fun z hz => hl z (List.mem_cons_of_mem _ hz)) (some (.v (.str ⟨#[c]⟩)))
      refine ⟨y, ?_⟩
      rw [List.map_cons, forM_c]
      show loopS (L_name_fault_0 [some (.v (.str (nmS l))), some (.v (.str ⟨#[c]⟩))]) _ = _
      rw [hb, loopS_nx, hy]
  obtain ⟨y, hy⟩ := loop l h3 none
  have hs : signs (nmS l) = l.map fun c => D.str ⟨#[c]⟩ := by simp [signs, nmS]
  simp [u_name_fault, hl, e1, e2, hs, hy, hin]
theorem kw_last : ∀ w ∈ KW, w.cps.toList.getLast? ≠ some 113 := by decide +kernel
theorem kw_long : ∀ w ∈ KW, w.length ≤ 3 → w ∈ K4 := by decide +kernel
theorem k4_kw : ∀ w ∈ K4, w ∈ KW := by decide +kernel
def qs (l : List Nat) (k : Nat) : List Nat := l ++ List.replicate k 113
theorem qs_succ (l : List Nat) (k : Nat) : qs l (k + 1) = qs l k ++ [113] := by simp [qs, List.replicate_succ']
theorem qs_len (l : List Nat) (k : Nat) : (qs l k).length = l.length + k := by simp [qs]
theorem qs_kw (l : List Nat) (k : Nat) : nmS (qs l (k + 1)) ∉ KW := fun h => by
  refine kw_last _ h ?_
  rw [qs_succ]
  simp [nmS]
theorem qs_inj {l : List Nat} {i j : Nat} (h : qs l i = qs l j) : i = j := by
  have := congrArg List.length h
  simp [qs] at this
  exact this
def Coll (tk : List Str) (l : List Nat) : Prop := nmS l ∈ tk ∨ nmS l ∈ K4
theorem coll_few {tk : List Str} {l : List Nat} (ht : tk.length ≤ 4) (h : ∀ i < 6, Coll tk (qs l i)) : False := by
  have nd : ((List.range 5).map fun i => nmS (qs l (i + 1))).Nodup := by
    rw [List.nodup_iff_pairwise_ne, List.pairwise_map]
    refine List.Pairwise.imp_of_mem ?_ (List.nodup_range (n := 5))
    intro a b _ _ hab e
    have := qs_inj (nmS_inj e)
    omega
  have := nd.length_le_of_subset (l₂ := tk) fun n hn => by
    obtain ⟨i, hi, rfl⟩ := List.mem_map.mp hn
    rcases h (i + 1) (by have := List.mem_range.mp hi; omega) with h | h
    · exact h
    · exact absurd (k4_kw _ h) (qs_kw l i)
  simp at this
  omega
theorem name_loop0 (tk : List D) {b : Int × Int × Int} {l : List Nat} (hl : l.length ≤ 10) (x : Option EV) : ∃ b' d, d < 26 ∧ L_law_name_0 [some (.own (bg b)), some (.own tk), some (.v (.str LT)), some (.v (.str (nmS l))), x] = .nx [some (.own (bg b')), some (.own tk), some (.v (.str LT)), some (.v (.str (nmS (l ++ [97 + d])))), x] := by
  obtain ⟨d, b', e, hd⟩ := take_ok b (n := 26) (by decide) (by decide)
  have e : F_law_take [.own (bg b), .v (.int 26)] = .ok (.int (d : Int)) [.own (bg b'), .v (.int 26)] := e
  refine ⟨b', d, hd, ?_⟩
  have h1 : addS (.str (nmS l)) (.str (nmS [97 + d])) = some (.str (nmS (l ++ [97 + d]))) := by
    show (if (nmS l).length + (nmS [97 + d]).length ≤ sizeLine then some (D.str (nmS l ++ nmS [97 + d])) else none) = _
    rw [nmS_app, if_pos]
    rw [nmS_len, nmS_len]
    exact z_le (by simp; omega)
  have h2 := ix_letter hd
  simp [L_law_name_0, e, h1, h2]
theorem name_loop1 {tk : List Str} (hg : ∀ n ∈ tk, Good n) {b : List D} {l : List Nat} (hl : Ltr l) (hl2 : l.length ≤ 20) (x : Option EV) : ∃ s, L_law_name_1 [some (.own b), some (.own (tk.map D.str)), some (.v (.str LT)), some (.v (.str (nmS l))), x] = .nx [some (.own b), some (.own (tk.map D.str)), some (.v (.str LT)), some (.v (.str s)), x] ∧ (Coll tk l → s = nmS (l ++ [113])) ∧ (¬ Coll tk l → s = nmS l) := by
  have h1 : inA (.str (nmS l)) (.lst (tk.map D.str)) = some (decide (nmS l ∈ tk)) := inA_strs hl.ok (goods_ok hg)
  have h2 : inA (.str (nmS l)) (.lst (K4.map D.str)) = some (decide (nmS l ∈ K4)) := inA_strs hl.ok K4_ok
  have h3 : addS (.str (nmS l)) (.str "q") = some (.str (nmS (l ++ [113]))) := by
    show (if (nmS l).length + (Str.ofString "q").length ≤ sizeLine then some (D.str (nmS l ++ nmS [113])) else none) = _
    rw [nmS_app, if_pos]
    rw [nmS_len, show (Str.ofString "q").length = 1 from by decide +kernel]
    exact z_le (by omega)
  have z4 : (4 : Nat) ≤ sizeLine := z_le (by decide)
  by_cases c1 : nmS l ∈ tk
  · refine ⟨nmS (l ++ [113]), ?_, fun _ => rfl, fun h => absurd (.inl c1) h⟩
    rw [decide_eq_true c1] at h1
    generalize tk.map D.str = T at *
    simp [L_law_name_1, h1, h3]
  · rw [decide_eq_false c1] at h1
    by_cases c2 : nmS l ∈ K4
    · refine ⟨nmS (l ++ [113]), ?_, fun _ => rfl, fun h => absurd (.inr c2) h⟩
      rw [decide_eq_true c2] at h2
      simp only [K4, List.map_cons, List.map_nil] at h2
      generalize tk.map D.str = T at *
      simp [L_law_name_1, h1, h2, h3, z4]
    · refine ⟨nmS l, ?_, fun h => (h.elim c1 c2).elim, fun _ => rfl⟩
      rw [decide_eq_false c2] at h2
      simp only [K4, List.map_cons, List.map_nil] at h2
      generalize tk.map D.str = T at *
      simp [L_law_name_1, h1, h2, h3, z4]
def Nms (ns : List Str) : Prop := ns.Nodup ∧ ∀ n ∈ ns, Good n
theorem Nms.snoc {ns : List Str} {n : Str} (h : Nms ns) (hn : Good n) (hd : n ∉ ns) : Nms (ns ++ [n]) := by
  refine ⟨List.nodup_append.mpr ⟨h.1, by simp, fun a ha b hb e => hd ?_⟩, fun m hm => ?_⟩
  · rw [List.mem_singleton] at hb
    exact hb ▸ e ▸ ha
  · rcases List.mem_append.mp hm with hm | hm
    · exact h.2 m hm
    · rw [List.mem_singleton] at hm; exact hm ▸ hn
theorem name_ok (b : Int × Int × Int) {tk : List Str} (hN : Nms tk) (ht : tk.length ≤ 4) : ∃ n b', F_law_name [.own (bg b), .own (tk.map D.str)] = .ok (.str n) [.own (bg b'), .own ((tk ++ [n]).map D.str)] ∧ Nms (tk ++ [n]) := by
  obtain ⟨d, b1, e1, hd⟩ := take_ok b (n := 3) (by decide) (by decide)
  have e1 : F_law_take [.own (bg b), .v (.int 3)] = .ok (.int (d : Int)) [.own (bg b1), .v (.int 3)] := e1
  obtain ⟨e2, hl1, b2, l, x, rfl, hll, hLt⟩ := forM_rng (g := tgN 4) (s := L_law_name_0) (fun j e => ∃ b l x, e = [some (.own (bg b)), some (.own (tk.map D.str)), some (.v (.str LT)), some (.v (.str (nmS l))), x] ∧ l.length = j ∧ Ltr l) (d + 1)
    [some (.own (bg b1)), some (.own (tk.map D.str)), some (.v (.str LT)), some (.v (.str (nmS []))), none]
    (by
      rintro i hi e ⟨b, l, x, rfl, h1, h2⟩
      obtain ⟨b', d', hd', e⟩ := name_loop0 (tk.map D.str) (b := b) (l := l) (by omega) (some (.v (.int (i : Int))))
      refine ⟨_, _, rfl, .inl e, b', _, _, rfl, by simp [h1], fun c hc => ?_⟩
      rcases List.mem_append.mp hc with hc | hc
      · exact h2 c hc
      · rw [List.mem_singleton] at hc; omega)
    ⟨b1, [], none, rfl, rfl, fun c hc => nomatch hc⟩
  obtain ⟨e3, hl2, k, x2, rfl, hk, hc1, hc2⟩ := forM_rng (g := tgN 4) (s := L_law_name_1) (fun j e => ∃ k x, e = [some (.own (bg b2)), some (.own (tk.map D.str)), some (.v (.str LT)), some (.v (.str (nmS (qs l k)))), x] ∧ k ≤ j ∧ (∀ i < k, Coll tk (qs l i)) ∧ (k < j → ¬ Coll tk (qs l k))) 6
    [some (.own (bg b2)), some (.own (tk.map D.str)), some (.v (.str LT)), some (.v (.str (nmS l))), x]
    (by
      rintro i hi e ⟨k, x, rfl, h1, h2, h3⟩
      have hq : Ltr (qs l k) := fun c hc => by
        rcases List.mem_append.mp hc with hc | hc
        · exact hLt c hc
        · have := List.eq_of_mem_replicate hc; omega
      obtain ⟨s, e, g1, g2⟩ := name_loop1 hN.2 (b := bg b2) hq (by simp [qs]; omega) (some (.v (.int (i : Int))))
      refine ⟨_, _, rfl, .inl e, ?_⟩
      by_cases c : Coll tk (qs l k)
      · have hki : k = i := Classical.byContradiction fun z => h3 (by omega) c
        subst hki
        refine ⟨k + 1, _, by rw [g1 c, qs_succ], Nat.le_refl _, fun j hj => ?_, fun z => absurd z (Nat.lt_irrefl _)⟩
        rcases Nat.lt_or_ge j k with hj' | hj'
        · exact h2 j hj'
        · have : j = k := by omega
          exact this ▸ c
      · exact ⟨k, _, by rw [g2 c], by omega, h2, fun _ => c⟩)
    ⟨0, x, by simp [qs], Nat.le_refl _, fun i hi => absurd hi (Nat.not_lt_zero i), fun h => absurd h (Nat.not_lt_zero _)⟩
  have hk5 : k < 6 := Classical.byContradiction fun z => coll_few ht (fun i hi => hc1 i (by omega))
  have hnc := hc2 hk5
  refine ⟨nmS (qs l k), b2, ?_, ?_⟩
  · have z2 : (2 : Nat) ≤ sizeLine := z_le (by decide)
    have za : (tk.map D.str).length < sizeLine := by
      rw [List.length_map]
      have := z_le (n := 1000) (by omega)
      omega
    have es : (Str.ofString "abcdefghijklmnopqrstuvwxyz") = LT := rfl
    have e0 : (Str.ofString "") = nmS [] := by decide +kernel
    have hr : ((1 : Int) + (d : Int)).toNat = d + 1 := by omega
    have hlo : (-4611686018427387904 : Int) ≤ 1 + (d : Int) := by omega
    have hhi : (1 : Int) + (d : Int) < 4611686018427387904 := by omega
    have hl1' : forM (tgN 4) L_law_name_0 (rngL 0 (d + 1)) [some (.own (bg b1)), some (.own (tk.map D.str)), some (.v (.str LT)), some (.v (.str (nmS []))), none] = .nx [some (.own (bg b2)), some (.own (tk.map D.str)), some (.v (.str LT)), some (.v (.str (nmS l))), x] := hl1
    have hl2' : forM (tgN 4) L_law_name_1 (rngL 0 6) [some (.own (bg b2)), some (.own (tk.map D.str)), some (.v (.str LT)), some (.v (.str (nmS l))), x] = .nx [some (.own (bg b2)), some (.own (tk.map D.str)), some (.v (.str LT)), some (.v (.str (nmS (qs l k)))), x2] := hl2
    rw [List.map_append]
    generalize tk.map D.str = T at *
    simp [u_law_name, es, e0, z2, e1, hr, hlo, hhi, hl1', hl2', appG, za]
  · refine hN.snoc ⟨qs l k, rfl, ?_, ?_, ?_, ?_, ?_⟩ (fun h => hnc (.inl h))
    · intro h
      have := congrArg List.length h
      rw [qs_len] at this
      simp only [List.length_nil] at this
      omega
    · rw [qs_len]; omega
    · intro c hc
      rcases List.mem_append.mp hc with hc | hc
      · exact hLt c hc
      · have := List.eq_of_mem_replicate hc; omega
    · cases k with
      | succ k => exact qs_kw l k
      | zero =>
        intro h
        refine hnc (.inr (kw_long _ h ?_))
        rw [nmS_len]
        simp [qs]; omega
    · cases k with
      | zero => exact .inl (by rw [qs_len]; omega)
      | succ k => exact .inr (by rw [qs_succ, List.getLast?_append]; rfl)
end Lw
set_option linter.all false
set_option Elab.async false
set_option maxRecDepth 100000
set_option maxHeartbeats 4000000
set_option exponentiation.threshold 5000
namespace Lw
open PySem Ue
def pickL {α : Type} : List Nat → List α → List α
  | [], _ => []
  | j :: js, l => match l[j]? with | some x => x :: pickL js (l.eraseIdx j) | none => []
def okP : List Nat → Nat → Prop
  | [], n => n = 0
  | j :: js, n => ∃ m, n = m + 1 ∧ j < m + 1 ∧ okP js m
theorem pick_cons {α : Type} {j : Nat} {js : List Nat} {l : List α} (h : j < l.length) : pickL (j :: js) l = l[j] :: pickL js (l.eraseIdx j) := by
  unfold pickL
  rw [List.getElem?_eq_getElem h]
  cases js <;> rfl
theorem erase_len {α : Type} {l : List α} {j m : Nat} (h : l.length = m + 1) (hj : j < m + 1) : (l.eraseIdx j).length = m := by
  rw [List.length_eraseIdx, if_pos (by omega)]; omega
theorem pick_perm {α : Type} : ∀ (js : List Nat) (l : List α), okP js l.length → (pickL js l).Perm l
  | [], l, h => by
    have : l = [] := List.eq_nil_of_length_eq_zero h
    subst this; exact List.Perm.refl _
  | j :: js, l, h => by
    obtain ⟨m, h1, h2, h3⟩ := h
    have hj : j < l.length := by omega
    rw [pick_cons hj]
    have e : l.take j ++ l[j] :: l.drop (j + 1) = l := by rw [← List.drop_eq_getElem_cons, List.take_append_drop]
    have q : (l[j] :: (l.take j ++ l.drop (j + 1))).Perm l := (List.perm_middle.symm).trans (List.Perm.of_eq e)
    rw [← List.eraseIdx_eq_take_drop_succ] at q
    exact ((pick_perm js _ (by rw [erase_len h1 h2]; exact h3)).cons _).trans q
theorem pick_map {α β : Type} (f : α → β) : ∀ (js : List Nat) (l : List α), okP js l.length → pickL js (l.map f) = (pickL js l).map f
  | [], l, h => rfl
  | j :: js, l, h => by
    obtain ⟨m, h1, h2, h3⟩ := h
    rw [pick_cons (l := l.map f) (by rw [List.length_map]; omega), pick_cons (l := l) (by omega), List.map_cons, List.getElem_map]
    have : (l.map f).eraseIdx j = (l.eraseIdx j).map f := by rw [List.eraseIdx_eq_take_drop_succ, List.eraseIdx_eq_take_drop_succ, List.map_append, List.map_take, List.map_drop]
    rw [this, pick_map f js _ (by rw [erase_len h1 h2]; exact h3)]
theorem pop_at {ds : List D} {j : Nat} (h : j < ds.length) (hl : ds.length < 1000) : popAtG ds [.int (j : Int)] = some (ds[j], ds.eraseIdx j) := by
  have ix : L2.ixN ds.length (j : Int) = some j := by unfold L2.ixN; simp [h]
  unfold popAtG popAtI
  simp only []
  rw [if_pos (by omega), ix]
  simp [h]
theorem tn_1 {x1 x4 : Option EV} {left found LE : List D} {lj : D} {j : Nat} {B B1 : List D} (e : F_law_take [.own B, .v (.int (left.length : Int))] = .ok (.int (j : Int)) [.own B1, .v (.int (left.length : Int))]) : (fnM F_law_take [.o 0, .p (callM lenD [(ovarM 2)])] []) [some (.own B), x1, some (.own left), some (.own found), x4] = .ok (.int (j : Int)) [some (.own B1), x1, some (.own left), some (.own found), x4] := by
  simp [e]
theorem tn_2 {x1 x4 : Option EV} {left found LE : List D} {lj : D} {j : Nat} {B B1 : List D} {g : List D → List D → Option (D × List D)} {m : M} (po : g left [.int (j : Int)] = some (lj, LE)) (e : m [some (.own B), x1, some (.own left), some (.own found), x4] = .ok (.int (j : Int)) [some (.own B1), x1, some (.own left), some (.own found), x4]) : (mtM 2 g [m]) [some (.own B), x1, some (.own left), some (.own found), x4] = .ok lj [some (.own B1), x1, some (.own LE), some (.own found), x4] := by
  simp [e, po]
theorem tn_3 {x1 x4 : Option EV} {left found LE : List D} {lj : D} {j : Nat} {B B1 : List D}  {m : M} (z : found.length < sizeLine) (e : m [some (.own B), x1, some (.own left), some (.own found), x4] = .ok lj [some (.own B1), x1, some (.own LE), some (.own found), x4]) : (exprM (mtM 3 appG [m])) [some (.own B), x1, some (.own left), some (.own found), x4] = .nx [some (.own B1), x1, some (.own LE), some (.own (found ++ [lj])), x4] := by
  simp [e, appG, z]
theorem mixed_step {x1 x4 : Option EV} {left found LE : List D} {lj : D} {j : Nat} {b b1 : Int × Int × Int} (e : F_law_take [.own (bg b), .v (.int (left.length : Int))] = .ok (.int (j : Int)) [.own (bg b1), .v (.int (left.length : Int))]) (po : popAtG left [.int (j : Int)] = some (lj, LE)) (z : found.length < sizeLine) :
    L_law_mixed_0 [some (.own (bg b)), x1, some (.own left), some (.own found), x4] = .nx [some (.own (bg b1)), x1, some (.own LE), some (.own (found ++ [lj])), x4] := by
  unfold L_law_mixed_0
  exact tn_3 (j := j) z (tn_2 po (tn_1 (lj := lj) (LE := LE) e))
theorem mixed_loop {x1 : Option EV} (ks : List D) : ∀ (left found : List D) (b : Int × Int × Int) (x4 : Option EV), left.length = ks.length → left.length + found.length ≤ 100 → ∃ (js : List Nat) (b' : Int × Int × Int) (y4 : Option EV), okP js left.length ∧
    forM (tgN 4) L_law_mixed_0 ks [some (.own (bg b)), x1, some (.own left), some (.own found), x4] = .nx [some (.own (bg b')), x1, some (.own []), some (.own (found ++ pickL js left)), y4] := by
  induction ks with
  | nil =>
    intro left found b x4 h _
    have : left = [] := List.eq_nil_of_length_eq_zero h
    subst this
    exact ⟨[], b, x4, rfl, by unfold pickL; rw [List.append_nil]; rfl⟩
  | cons k ks ihk =>
    intro left found b x4 h hl
    rw [List.length_cons] at h
    obtain ⟨j, b1, e, hj⟩ := take_ok b (n := left.length) (by omega) (by omega)
    obtain ⟨js, b2, y4, hp, ih⟩ := ihk (left.eraseIdx j) (found ++ [left[j]]) b1 (some (.v k)) (erase_len h (by omega)) (by rw [erase_len h (by omega), List.length_append]; simp only [List.length_cons, List.length_nil]; omega)
    refine ⟨j :: js, b2, y4, ⟨ks.length, h, by omega, by rw [erase_len h (by omega)] at hp; exact hp⟩, ?_⟩
    have po := pop_at hj (by omega)
    rw [pick_cons hj]
    have en : found ++ left[j] :: pickL js (left.eraseIdx j) = found ++ [left[j]] ++ pickL js (left.eraseIdx j) := by simp
    rw [en]
    have z : found.length < sizeLine := Nat.lt_of_lt_of_le (by omega : found.length < 101) (z_le (by omega))
    rw [forM_c]
    generalize found ++ [left[j]] ++ pickL js (left.eraseIdx j) = FF at *
    generalize left.eraseIdx j = LE at *
    generalize left[j] = lj at *
    have st := mixed_step (x1 := x1) (x4 := some (.v k)) e po z
    simp [st, ih]
theorem mixed_ok (b : Int × Int × Int) {ds : List D} (hl : ds.length ≤ 50) : ∃ (js : List Nat) (b' : Int × Int × Int), okP js ds.length ∧ F_law_mixed [.own (bg b), .v (.lst ds)] = .ok (.lst (pickL js ds)) [.own (bg b'), .v (.lst ds)] := by
  have r1 : (rngL 0 ds.length).length = ds.length := by simp [rngL]
  obtain ⟨js, b', y4, hp, e⟩ := mixed_loop (x1 := some (.v (.lst ds))) (rngL 0 ds.length) ds [] b none r1.symm (by simp; omega)
  refine ⟨js, b', hp, ?_⟩
  rw [List.nil_append] at e
  have z : ds.length ≤ sizeLine := z_le (by omega)
  have a1 : -4611686018427387904 ≤ (ds.length : Int) := by omega
  have a2 : (ds.length : Int) < 4611686018427387904 := by omega
  generalize pickL js ds = PP at *
  simp [u_law_mixed, listD, z, a1, a2, e]
theorem mixed_names (b : Int × Int × Int) {ns : List Str} (hl : ns.length ≤ 50) : ∃ (ms : List Str) (b' : Int × Int × Int), F_law_mixed [.own (bg b), .v (.lst (ns.map D.str))] = .ok (.lst (ms.map D.str)) [.own (bg b'), .v (.lst (ns.map D.str))] ∧ ms.Perm ns := by
  obtain ⟨js, b', h, e⟩ := mixed_ok b (ds := ns.map D.str) (by rw [List.length_map]; exact hl)
  rw [List.length_map] at h
  rw [pick_map D.str js ns h] at e
  exact ⟨pickL js ns, b', e, pick_perm js ns h⟩
theorem Nms.sub {ns ms : List Str} (h : Nms ns) (s : ms.Sublist ns) : Nms ms := ⟨s.nodup h.1, fun n hn => h.2 n (s.subset hn)⟩
theorem Nms.perm {ns ms : List Str} (h : Nms ns) (s : ms.Perm ns) : Nms ms := ⟨s.nodup_iff.mpr h.1, fun n hn => h.2 n (s.mem_iff.mp hn)⟩
theorem Nms.take {ns : List Str} (h : Nms ns) (k : Nat) : Nms (ns.take k) := h.sub (List.take_sublist ..)
theorem Nms.drop {ns : List Str} (h : Nms ns) (k : Nat) : Nms (ns.drop k) := h.sub (List.drop_sublist ..)
theorem Nms.nil : Nms [] := ⟨List.nodup_nil, fun _ h => nomatch h⟩
theorem cutD_from {ds : List D} {n : Nat} (h : n ≤ ds.length) : cutD ds (some (n : Int)) none = ds.drop n := by
  have e : HT.sIx ds.length 0 (some (n : Int)) = n := by rw [HT.sIx_nat, Nat.min_eq_left h]
  have e2 : HT.sIx ds.length ds.length none = ds.length := rfl
  unfold cutD
  rw [e, e2]
  exact List.take_of_length_le (by simp)
end Lw
set_option linter.all false
set_option Elab.async false
set_option maxRecDepth 100000
set_option maxHeartbeats 4000000
set_option exponentiation.threshold 5000
namespace Lw
open PySem Ue
def mkF (ns : List Str) : List D := [.tpx (ns.map D.str), .int (ns.length : Int), .int ((2 ^ ns.length : Nat) : Int), .int ((2 ^ (2 ^ ns.length) - 1 : Nat) : Int)]
def mkD (ns : List Str) : D := .obj 0 (mkF ns)
theorem enum_at {ds : List D} {i : Nat} {d : D} (h : (enumL ds)[i]? = some d) : i < ds.length ∧ ∃ x, ds[i]? = some x ∧ d = .tup [.int (i : Int), x] := by
  unfold enumL at h
  rw [List.getElem?_map] at h
  cases q : (List.range ds.length)[i]? with
  | none => rw [q] at h; cases h
  | some j =>
    rw [q] at h
    obtain ⟨hi, hj⟩ := List.getElem?_eq_some_iff.mp q
    rw [List.length_range] at hi
    rw [List.getElem_range] at hj
    subst hj
    cases h
    exact ⟨hi, ds[i], List.getElem?_eq_getElem hi, by show D.tup [.int (i : Int), ds.getD i .non] = _; rw [List.getD_eq_getElem?_getD, List.getElem?_eq_getElem hi]; rfl⟩
theorem mark_step {kept : List Str} {n : Str} {j : Int} (hg : Good n) (hk : ∀ k ∈ kept, Good k) (hn : n ∉ kept) (hl : kept.length < 10) (x0 x1 x5 : Option EV) : L_Marks_init_0 [x0, x1, some (.own (kept.map D.str)), some (.v (.int j)), some (.v (.str n)), x5] = .nx [x0, x1, some (.own ((kept ++ [n]).map D.str)), some (.v (.int j)), some (.v (.str n)), some (.v .non)] := by
  have h1 := name_fault_ok hg
  have h2 : inA (.str n) (.lst (kept.map D.str)) = some false := by rw [inA_strs hg.ok (goods_ok hk), decide_eq_false hn]
  have z : (kept.map D.str).length < sizeLine := by
    rw [List.length_map]
    have := z_le (n := 1000) (by omega)
    omega
  rw [List.map_append]
  generalize kept.map D.str = X at *
  simp [L_Marks_init_0, h1, h2, isN, notN, appG, z]
theorem marks_loop (ns : List Str) (hN : Nms ns) (hl : ns.length ≤ 4) (x0 x1 : Option EV) : ∃ y3 y4 y5, forM (tgT [tgN 3, tgN 4]) L_Marks_init_0 (enumL (ns.map D.str)) [x0, x1, some (.own []), none, none, none] = .nx [x0, x1, some (.own (ns.map D.str)), y3, y4, y5] := by
  obtain ⟨e2, h, y3, y4, y5, rfl⟩ := forM_idx (g := tgT [tgN 3, tgN 4]) (s := L_Marks_init_0) (fun k e => ∃ y3 y4 y5, e = [x0, x1, some (.own ((ns.take k).map D.str)), y3, y4, y5]) (enumL (ns.map D.str)) 0 [x0, x1, some (.own []), none, none, none]
    (by
      rintro i d hd e ⟨y3, y4, y5, rfl⟩
      obtain ⟨hi, x, hx, rfl⟩ := enum_at hd
      rw [List.length_map] at hi
      rw [List.getElem?_map, List.getElem?_eq_getElem hi] at hx
      cases hx
      have hs := mark_step (kept := ns.take (0 + i)) (n := ns[i]) (j := (i : Int)) (hN.2 _ (List.getElem_mem hi)) (fun k hk => hN.2 k (List.mem_of_mem_take hk)) (fun hm => by
        rw [Nat.zero_add] at hm
        obtain ⟨j, hj, e⟩ := List.mem_iff_getElem.mp hm
        rw [List.length_take] at hj
        rw [List.getElem_take] at e
        exact List.pairwise_iff_getElem.mp hN.1 j i (by omega) hi (by omega) e) (by rw [List.length_take]; omega) x0 x1 y5
      have ht : ns.take (0 + i + 1) = ns.take (0 + i) ++ [ns[i]] := by rw [Nat.zero_add, List.take_succ_eq_append_getElem hi]
      refine ⟨_, _, rfl, .inl hs, some (.v (.int (i : Int))), some (.v (.str ns[i])), some (.v .non), by rw [ht]⟩)
    ⟨none, none, none, rfl⟩
  refine ⟨y3, y4, y5, ?_⟩
  rw [h]
  rw [show ns.take (0 + (enumL (ns.map D.str)).length) = ns by rw [List.take_of_length_le]; simp [enumL]]
theorem pow16 {k : Nat} (h : k ≤ 4) : 2 ^ k ≤ 16 := Nat.pow_le_pow_right (n := 2) (by decide) h
theorem marks_ok {ns : List Str} (hN : Nms ns) (h1 : 1 ≤ ns.length) (h4 : ns.length ≤ 4) {d : D} (hd : d = .lst (ns.map D.str) ∨ d = .tup (ns.map D.str)) : F_Marks_init [.new 0 [], .v d] = .ok .non [.new 0 (mkF ns), .v d] := by
  obtain ⟨y3, y4, y5, e⟩ := marks_loop ns hN h4 (some (.new 0 [])) (some (.v d))
  have sh : shlOk 1 (ns.length : Int) = true := shl1 (by omega)
  have sh2 : shlOk 1 ((2 ^ ns.length : Nat) : Int) = true := shl1 (by have := pow16 h4; omega)
  have sh3 : shlOk 1 ((2 : Int) ^ ns.length) = true := by
    have : ((2 ^ ns.length : Nat) : Int) = (2 : Int) ^ ns.length := by simp
    rw [← this]; exact sh2
  have z0 : (0 : Nat) ≤ sizeLine := Nat.zero_le _
  have c1 : (1 : Int) ≤ (ns.length : Int) := by omega
  have c2 : (ns.length : Int) ≤ 4 := by omega
  have ll : (ns.map D.str).length = ns.length := List.length_map ..
  have ew : ((2 ^ (2 ^ ns.length) - 1 : Nat) : Int) = (2 : Int) ^ (2 ^ ns.length) - 1 := by
    rw [Int.natCast_sub (Nat.one_le_two_pow)]; simp
  have et : ((2 : Int) ^ ns.length).toNat = 2 ^ ns.length := by
    have : ((2 ^ ns.length : Nat) : Int) = (2 : Int) ^ ns.length := by simp
    rw [← this, Int.toNat_natCast]
  unfold mkF
  rw [ew]
  generalize hL : ns.length = L at *
  generalize ns.map D.str = T at *
  rcases hd with rfl | rfl
  · simp [u_Marks_init, ll, c1, c2, e, sh, sh2, sh3, et]
  · simp [u_Marks_init, ll, c1, c2, e, sh, sh2, sh3, et]
end Lw
set_option linter.all false
set_option Elab.async false
set_option maxRecDepth 100000
set_option maxHeartbeats 4000000
set_option exponentiation.threshold 5000
namespace Lw
open PySem Ue
def pl (ns : List Str) (n : Str) : Nat := ns.findIdx (· == n)
theorem pl_lt {ns : List Str} {n : Str} (h : n ∈ ns) : pl ns n < ns.length := List.findIdx_lt_length_of_exists ⟨n, h, beq_self_eq_true n⟩
theorem idx_ok {ns : List Str} {n : Str} (h : n ∈ ns) : idxD (ns.map D.str) (.str n) = some (.int (pl ns n : Int)) := by
  have e : ns.findIdx? (fun x => x == n) = some (pl ns n) := List.findIdx?_eq_some_of_exists ⟨n, h, beq_self_eq_true n⟩
  show ((dStrs (ns.map D.str)).bind fun ns => (ns.findIdx? (fun x => x == n)).map fun j => D.int (j : Int)) = _
  rw [strs_of]
  show ((ns.findIdx? (fun x => x == n)).map fun j => D.int (j : Int)) = _
  rw [e]
  rfl
def seenN (ns : List Str) (day : Nat) : List Str → Nat
  | [] => 0
  | n :: r => (if day.testBit (pl ns n) then 1 else 0) + 2 * seenN ns day r
theorem seenN_snoc (ns : List Str) (day : Nat) (n : Str) : ∀ l : List Str, seenN ns day (l ++ [n]) = seenN ns day l + (if day.testBit (pl ns n) then 1 else 0) * 2 ^ l.length
  | [] => by simp [seenN]
  | m :: l => by
    rw [List.cons_append, seenN, seenN, seenN_snoc ns day n l, List.length_cons, Nat.pow_succ]
    by_cases h : day.testBit (pl ns n) = true
    · rw [if_pos h]; omega
    · rw [if_neg h]; omega
theorem seenN_lt (ns : List Str) (day : Nat) : ∀ l : List Str, seenN ns day l < 2 ^ l.length
  | [] => by simp [seenN]
  | m :: l => by
    have := seenN_lt ns day l
    rw [seenN, List.length_cons, Nat.pow_succ]
    split <;> omega
theorem seenN_bit (ns : List Str) (day : Nat) : ∀ (l : List Str) (i : Nat) (n : Str), l[i]? = some n → (seenN ns day l).testBit i = day.testBit (pl ns n)
  | [], i, n, h => by simp at h
  | m :: l, 0, n, h => by
    simp at h; subst h
    rw [seenN, Nat.testBit_zero]
    by_cases q : day.testBit (pl ns m) = true
    · rw [if_pos q, q]; simp
    · rw [if_neg q, Bool.not_eq_true _ |>.mp q]; simp
  | m :: l, i + 1, n, h => by
    simp at h
    rw [seenN, Nat.testBit_succ, ← seenN_bit ns day l i n h]
    congr 1
    split <;> omega
theorem bit_step {day p : Nat} : Builtin.bitAnd ((day : Int) / 2 ^ p) 1 = ((if day.testBit p then 1 else 0 : Nat) : Int) := by
  rw [bit_int]; split <;> rfl
theorem bit_le (day p : Nat) : (if day.testBit p then 1 else 0 : Nat) ≤ 1 := by split <;> omega
theorem law_seen_step {x0 x1 x2 : Option EV} {ns : List Str} {day at_ f : Nat} {n : Str} (hn : n ∈ ns) (ha : at_ ≤ 20) (h0 : x0 = some (.v (.lst (ns.map D.str)))) (h1 : x1 = some (.v (.int (day : Int)))) :
    L_law_seen_0 [x0, x1, x2, some (.v (.int (f : Int))), some (.v (.int (at_ : Int))), some (.v (.str n))] = .nx [x0, x1, x2, some (.v (.int ((f + (if day.testBit (pl ns n) then 1 else 0) * 2 ^ at_ : Nat) : Int))), some (.v (.int (at_ : Int))), some (.v (.str n))] := by
  subst h0 h1
  have e1 := idx_ok hn
  have e2 := bit_step (day := day) (p := pl ns n)
  have b1 := bit_le day (pl ns n)
  have sh := shl1 (i := at_) (by omega)
  have ec : ((f + (if day.testBit (pl ns n) then 1 else 0) * 2 ^ at_ : Nat) : Int) = (f : Int) + ((if day.testBit (pl ns n) then 1 else 0 : Nat) : Int) * 2 ^ at_ := by simp
  rw [ec]
  generalize (if day.testBit (pl ns n) then 1 else 0 : Nat) = B at *
  have mo : mulOk (B : Int) (2 ^ at_) = true := mulOk_l (by omega)
  generalize ns.map D.str = T at *
  simp [L_law_seen_0, e1, e2, sh, mo]
theorem take_snoc {α : Type} {l : List α} {i : Nat} {x : α} (h : l[i]? = some x) : l.take (i + 1) = l.take i ++ [x] := by
  obtain ⟨hi, e⟩ := List.getElem?_eq_some_iff.mp h
  rw [List.take_succ_eq_append_getElem hi, e]
theorem strs_at {so : List Str} {i : Nat} {x : D} (h : (so.map D.str)[i]? = some x) : ∃ n, so[i]? = some n ∧ x = .str n := by
  rw [List.getElem?_map] at h
  cases q : so[i]? with
  | none => rw [q] at h; cases h
  | some n => rw [q] at h; cases h; exact ⟨n, rfl, rfl⟩
theorem law_seen_ok {ns so : List Str} (hs : ∀ n ∈ so, n ∈ ns) (hl : so.length ≤ 5) (day : Nat) : F_law_seen [.v (.lst (ns.map D.str)), .v (.int (day : Int)), .v (.lst (so.map D.str))] = .ok (.int (seenN ns day so : Int)) [.v (.lst (ns.map D.str)), .v (.int (day : Int)), .v (.lst (so.map D.str))] := by
  obtain ⟨e2, h, y4, y5, rfl⟩ := forM_idx (g := tgT [tgN 4, tgN 5]) (s := L_law_seen_0) (fun k e => ∃ y4 y5, e = [some (.v (.lst (ns.map D.str))), some (.v (.int (day : Int))), some (.v (.lst (so.map D.str))), some (.v (.int (seenN ns day (so.take k) : Int))), y4, y5]) (enumL (so.map D.str)) 0
    [some (.v (.lst (ns.map D.str))), some (.v (.int (day : Int))), some (.v (.lst (so.map D.str))), some (.v (.int 0)), none, none]
    (by
      rintro i d hd e ⟨y4, y5, rfl⟩
      obtain ⟨hi, x, hx, rfl⟩ := enum_at hd
      obtain ⟨n, hn, rfl⟩ := strs_at hx
      rw [List.length_map] at hi
      refine ⟨_, _, rfl, .inl (law_seen_step (hs n (List.mem_of_getElem? hn)) (by omega) rfl rfl), some (.v (.int (i : Int))), some (.v (.str n)), ?_⟩
      rw [show 0 + i + 1 = i + 1 by omega, Nat.zero_add, take_snoc hn, seenN_snoc, show (so.take i).length = i by rw [List.length_take]; omega])
    ⟨none, none, rfl⟩
  rw [show so.take (0 + (enumL (so.map D.str)).length) = so by rw [List.take_of_length_le]; simp [enumL]] at h
  generalize ns.map D.str = T at *
  generalize so.map D.str = T2 at *
  simp [u_law_seen, h]
def wideN (ns : List Str) (S : Nat) (more : List Str) : Nat := maskN ((List.range (2 ^ more.length)).filter fun d => S.testBit (seenN more d ns))
def wideF (ns : List Str) (S : Nat) (more : List Str) (k : Nat) : Nat := maskN ((List.range k).filter fun d => S.testBit (seenN more d ns))
theorem wideF_succ (ns : List Str) (S : Nat) (more : List Str) (k : Nat) : wideF ns S more (k + 1) = if S.testBit (seenN more k ns) then wideF ns S more k ||| 2 ^ k else wideF ns S more k := by
  unfold wideF
  rw [List.range_succ, List.filter_append]
  unfold maskN
  rw [List.foldl_append]
  by_cases h : S.testBit (seenN more k ns) = true
  · rw [if_pos h, show [k].filter (fun d => S.testBit (seenN more d ns)) = [k] by simp [h]]; rfl
  · rw [if_neg h, show [k].filter (fun d => S.testBit (seenN more d ns)) = [] by simp [h]]; rfl
theorem law_wide_step {x0 x1 x2 : Option EV} {ns more : List Str} {S k f : Nat} (hs : ∀ n ∈ ns, n ∈ more) (hl : ns.length ≤ 5) (hk : k < 64) (h0 : x0 = some (.v (.lst (ns.map D.str)))) (h1 : x1 = some (.v (.int (S : Int)))) (h2 : x2 = some (.v (.lst (more.map D.str)))) :
    L_law_wide_0 [x0, x1, x2, some (.v (.int (f : Int))), some (.v (.int (k : Int)))] = .nx [x0, x1, x2, some (.v (.int ((if S.testBit (seenN more k ns) then f ||| 2 ^ k else f : Nat) : Int))), some (.v (.int (k : Int)))] := by
  subst h0 h1 h2
  have e1 := law_seen_ok (ns := more) (so := ns) hs hl k
  have e2 := bit_step (day := S) (p := seenN more k ns)
  have sh := shl1 (i := k) hk
  have eo := bOr f (2 ^ k)
  rw [show ((2 ^ k : Nat) : Int) = (2 : Int) ^ k by simp] at eo
  generalize ns.map D.str = T at *
  generalize more.map D.str = T2 at *
  generalize seenN more k ns = Q at *
  by_cases h : S.testBit Q = true
  · rw [if_pos h] at e2 ⊢
    simp [L_law_wide_0, e1, e2, sh, eo]
  · rw [if_neg h] at e2 ⊢
    simp [L_law_wide_0, e1, e2, sh, eo]
theorem law_wide_ok {ns more : List Str} (hs : ∀ n ∈ ns, n ∈ more) (hl : ns.length ≤ 5) (hm : more.length ≤ 5) (S : Nat) : F_law_wide [.v (.lst (ns.map D.str)), .v (.int (S : Int)), .v (.lst (more.map D.str))] = .ok (.int (wideN ns S more : Int)) [.v (.lst (ns.map D.str)), .v (.int (S : Int)), .v (.lst (more.map D.str))] := by
  have p5 : 2 ^ more.length ≤ 32 := Nat.pow_le_pow_right (n := 2) (by decide) hm
  obtain ⟨e2, h, y4, rfl⟩ := forM_rng (g := tgN 4) (s := L_law_wide_0) (fun k e => ∃ y4, e = [some (.v (.lst (ns.map D.str))), some (.v (.int (S : Int))), some (.v (.lst (more.map D.str))), some (.v (.int (wideF ns S more k : Int))), y4]) (2 ^ more.length)
    [some (.v (.lst (ns.map D.str))), some (.v (.int (S : Int))), some (.v (.lst (more.map D.str))), some (.v (.int 0)), none]
    (by
      rintro i hi e ⟨y4, rfl⟩
      exact ⟨_, _, rfl, .inl (law_wide_step hs hl (by omega) rfl rfl rfl), _, by rw [wideF_succ]⟩)
    ⟨none, rfl⟩
  have sh := shl1 (i := more.length) (by omega)
  have et : ((2 : Int) ^ more.length).toNat = 2 ^ more.length := by
    have : ((2 ^ more.length : Nat) : Int) = (2 : Int) ^ more.length := by simp
    rw [← this, Int.toNat_natCast]
  have ll : (more.map D.str).length = more.length := List.length_map ..
  have ec : ((2 ^ more.length : Nat) : Int) = (2 : Int) ^ more.length := by simp
  have lo : (-4611686018427387904 : Int) ≤ (2 : Int) ^ more.length := by rw [← ec]; omega
  have hi : (2 : Int) ^ more.length < 4611686018427387904 := by rw [← ec]; omega
  unfold wideN
  unfold wideF at h
  generalize maskN ((List.range (2 ^ more.length)).filter fun d => S.testBit (seenN more d ns)) = W at *
  generalize ns.map D.str = T at *
  generalize more.map D.str = T2 at *
  simp [u_law_wide, ll, sh, et, lo, hi, h]
end Lw
set_option linter.all false
set_option Elab.async false
set_option maxRecDepth 100000
set_option maxHeartbeats 4000000
set_option exponentiation.threshold 5000
namespace Lw
open PySem Ue
def seqS (d : D) (so : List Str) : Prop := d = .lst (so.map D.str) ∨ d = .tup (so.map D.str)
theorem seqS.as {d : D} {so : List Str} (h : seqS d so) {m : M} {e e1 : Ue.Env} (hm : m e = .ok d e1) : asSeq m e = .ok (so.map D.str) e1 := by
  rcases h with rfl | rfl <;> simp [hm]
theorem check_loop {ns : List Str} (hg : ∀ n ∈ ns, Good n) {x1 : Option EV} : ∀ (so : List Str), (∀ n ∈ so, n ∈ ns) → ∀ x2, ∃ y2, forM (tgN 2) L_check_names_0 (so.map D.str) [some (.v (mkD ns)), x1, x2] = .nx [some (.v (mkD ns)), x1, y2]
  | [], _, x2 => ⟨x2, rfl⟩
  | n :: so, h, x2 => by
    obtain ⟨y2, e⟩ := check_loop hg (x1 := x1) so (fun m hm => h m (List.mem_cons_of_mem _ hm)) (some (.v (.str n)))
    refine ⟨y2, ?_⟩
    have hn := h n (List.mem_cons_self ..)
    have q := inA_strsT (hg n hn).ok (goods_ok hg)
    rw [decide_eq_true hn] at q
    have st : L_check_names_0 [some (.v (mkD ns)), x1, some (.v (.str n))] = .nx [some (.v (mkD ns)), x1, some (.v (.str n))] := by
      unfold mkD mkF at *
      generalize ns.map D.str = T at *
      simp [L_check_names_0, q]
    rw [List.map_cons, forM_c]
    show loopS (L_check_names_0 [some (.v (mkD ns)), x1, some (.v (.str n))]) _ = _
    rw [st, loopS_nx, e]
theorem check_ok {ns so : List Str} (hg : ∀ n ∈ ns, Good n) (hs : ∀ n ∈ so, n ∈ ns) {d : D} (hd : seqS d so) : F_check_names [.v (mkD ns), .v d] = .ok .non [.v (mkD ns), .v d] := by
  obtain ⟨y2, e⟩ := check_loop hg (x1 := some (.v d)) so hs none
  have a := hd.as (m := varM 1) (e := [some (.v (mkD ns)), some (.v d), none]) (e1 := [some (.v (mkD ns)), some (.v d), none]) rfl
  rw [u_check_names]
  generalize mkD ns = T at *
  generalize so.map D.str = T2 at *
  simp [-asSeq_s, a, e]
theorem place_step {ns : List Str} {n : Str} (hn : n ∈ ns) {e : Ue.Env} (h0 : e[0]? = some (some (.v (mkD ns)))) (h3 : e[3]? = some (some (.v (.str n)))) : idxXM (attrM 0 0 (varM 0)) (varM 3) e = .ok (.int (pl ns n : Int)) e := by
  have q := idx_ok hn
  unfold mkD mkF at h0
  generalize ns.map D.str = T at *
  simp [h0, h3, q]
def plD (ns so : List Str) : List D := so.map fun n => D.int (pl ns n : Int)
def powL (ns : List Str) (day : Nat) (so : List Str) (k : Nat) : List Nat := (List.range k).map fun i => (if day.testBit (pl ns (so.getD i ⟨#[]⟩)) then 1 else 0) * 2 ^ i
theorem powL_sum (ns : List Str) (day : Nat) (so : List Str) : ∀ k, k ≤ so.length → (powL ns day so k).sum = seenN ns day (so.take k)
  | 0, _ => by simp [powL, seenN]
  | k + 1, h => by
    have hk : so[k]? = some so[k] := List.getElem?_eq_getElem (by omega)
    have ih := powL_sum ns day so k (by omega)
    rw [take_snoc hk, seenN_snoc, ← ih, show (so.take k).length = k by rw [List.length_take]; omega]
    unfold powL
    rw [List.range_succ, List.map_append, List.sum_append]
    simp [List.getD_eq_getElem?_getD, hk]
theorem natsum_cast : ∀ l : List Nat, (l.map fun n : Nat => (n : Int)).sum = ((l.sum : Nat) : Int)
  | [] => rfl
  | a :: l => by simp [natsum_cast l]
theorem shlB {b i : Nat} (hb : b ≤ 1) (h : i < 64) : shlOk (b : Int) (i : Int) = true := by
  rcases (by omega : b = 0 ∨ b = 1) with rfl | rfl
  · unfold shlOk
    rw [show Builtin.Int.intBits ((0 : Nat) : Int) = 0 by decide]
    simp; omega
  · exact shl1 h
theorem day_sum {ns so : List Str} (hl : so.length ≤ 20) (day : Nat) {e : Ue.Env} (x0 x1 x3 : Option EV) (x5 x6 : Option EV) (h5 : vsOk [x0, x1, some (.v (.lst (plD ns so))), x3, some (.v (.int (day : Int))), x5, x6] [5, 6] = true) (hx : x5 = none ∧ x6 = none) :
    callM sumAD [(compM [5, 6] (enumM (varM 2)) (tgT [(tgN 5), (tgN 6)]) yesT (op2M shlI (op2M andI (op2M shrI (varM 4) (varM 6)) (cM (.int 1))) (varM 5)))] [x0, x1, some (.v (.lst (plD ns so))), x3, some (.v (.int (day : Int))), x5, x6] = .ok (.int (seenN ns day so : Int)) [x0, x1, some (.v (.lst (plD ns so))), x3, some (.v (.int (day : Int))), x5, x6] := by
  obtain ⟨rfl, rfl⟩ := hx
  have hc := compL_map (g := tgT [(tgN 5), (tgN 6)]) (te := op2M shlI (op2M andI (op2M shrI (varM 4) (varM 6)) (cM (.int 1))) (varM 5)) (vs := [5, 6]) (env := [x0, x1, some (.v (.lst (plD ns so))), x3, some (.v (.int (day : Int))), none, none])
    (fun i : Nat => D.tup [.int (i : Int), (plD ns so).getD i .non]) (fun i => D.int (((if day.testBit (pl ns (so.getD i ⟨#[]⟩)) then 1 else 0) * 2 ^ i : Nat) : Int)) rfl (List.range so.length) (by
      intro i hi
      have hi := List.mem_range.mp hi
      have hg : (plD ns so).getD i .non = .int (pl ns (so.getD i ⟨#[]⟩) : Int) := by
        unfold plD
        rw [List.getD_eq_getElem?_getD, List.getElem?_map, List.getElem?_eq_getElem hi, List.getD_eq_getElem?_getD, List.getElem?_eq_getElem hi]; rfl
      have e2 := bit_step (day := day) (p := pl ns (so.getD i ⟨#[]⟩))
      have b1 := bit_le day (pl ns (so.getD i ⟨#[]⟩))
      generalize pl ns (so.getD i ⟨#[]⟩) = p at *
      generalize hB : (if day.testBit p then 1 else 0 : Nat) = B at *
      have sh := shlB (b := B) (i := i) b1 (by omega)
      rw [hg]
      generalize plD ns so = Z at *
      refine ⟨[x0, x1, some (.v (.lst Z)), x3, some (.v (.int (day : Int))), some (.v (.int (i : Int))), some (.v (.int (p : Int)))], _, by simp, by simp [e2, sh]; rfl, rfl⟩)
  have hen : enumL (plD ns so) = (List.range so.length).map (fun i : Nat => D.tup [.int (i : Int), (plD ns so).getD i .non]) := by
    unfold enumL
    rw [show (plD ns so).length = so.length by simp [plD]]
  have hlen : (enumL (plD ns so)).length ≤ sizeLine := by
    rw [hen, List.length_map, List.length_range]
    exact z_le (by omega)
  rw [← hen] at hc
  have hs : sumAD [.lst ((List.range so.length).map fun i => D.int (((if day.testBit (pl ns (so.getD i ⟨#[]⟩)) then 1 else 0) * 2 ^ i : Nat) : Int))] = some (.int (seenN ns day so : Int)) := by
    have := powL_sum ns day so so.length (Nat.le_refl _)
    rw [List.take_length] at this
    rw [← this, ← natsum_cast]
    show (dInts ((List.range so.length).map fun i => D.int (((if day.testBit (pl ns (so.getD i ⟨#[]⟩)) then 1 else 0) * 2 ^ i : Nat) : Int))).map (fun ns => D.int ns.sum) = _
    rw [show ((List.range so.length).map fun i => D.int (((if day.testBit (pl ns (so.getD i ⟨#[]⟩)) then 1 else 0) * 2 ^ i : Nat) : Int)) = ((powL ns day so so.length).map fun n : Nat => (n : Int)).map D.int by simp [powL], dInts_map]
    rfl
  generalize ((List.range so.length).map fun i => D.int (((if day.testBit (pl ns (so.getD i ⟨#[]⟩)) then 1 else 0) * 2 ^ i : Nat) : Int)) = R at *
  generalize plD ns so = Z at *
  simp [hlen, hc, hs]
def seenD (ns so : List Str) : List D := (List.range (2 ^ ns.length)).map fun d => D.int (seenN ns d so : Int)
theorem seen_days_ok {ns so : List Str} (hs : ∀ n ∈ so, n ∈ ns) (hl : so.length ≤ 5) (hn : ns.length ≤ 4) {d : D} (hd : seqS d so) : F_seen_days [.v (mkD ns), .v d] = .ok (.lst (seenD ns so)) [.v (mkD ns), .v d] := by
  have a := hd.as (m := varM 1) (e := [some (.v (mkD ns)), some (.v d), none, none, none, none, none]) (e1 := [some (.v (mkD ns)), some (.v d), none, none, none, none, none]) rfl
  have c1 := compL_map (g := tgN 3) (te := idxXM (attrM 0 0 (varM 0)) (varM 3)) (vs := [3]) (env := [some (.v (mkD ns)), some (.v d), none, none, none, none, none]) D.str (fun n => D.int (pl ns n : Int)) rfl so (by
    intro n hn
    refine ⟨[some (.v (mkD ns)), some (.v d), none, some (.v (.str n)), none, none, none], [some (.v (mkD ns)), some (.v d), none, some (.v (.str n)), none, none, none], rfl, place_step (hs n hn) rfl rfl, rfl⟩)
  have p4 := pow16 hn
  have c2 := compL_map (g := tgN 4) (te := callM sumAD [(compM [5, 6] (enumM (varM 2)) (tgT [(tgN 5), (tgN 6)]) yesT (op2M shlI (op2M andI (op2M shrI (varM 4) (varM 6)) (cM (.int 1))) (varM 5)))]) (vs := [4]) (env := [some (.v (mkD ns)), some (.v d), some (.v (.lst (plD ns so))), none, none, none, none]) (fun i : Nat => D.int (0 + (i : Int))) (fun i => D.int (seenN ns i so : Int)) rfl (List.range (2 ^ ns.length)) (by
    intro i hi
    refine ⟨[some (.v (mkD ns)), some (.v d), some (.v (.lst (plD ns so))), none, some (.v (.int (i : Int))), none, none], _, by rw [Int.zero_add]; rfl, day_sum (e := []) (by omega) i _ _ _ _ _ rfl ⟨rfl, rfl⟩, rfl⟩)
  have z1 : so.length ≤ sizeLine := z_le (by omega)
  have lz : (List.map D.str so).length = so.length := List.length_map ..
  have rl : rngL 0 (2 ^ ns.length) = (List.range (2 ^ ns.length)).map (fun i : Nat => D.int (0 + (i : Int))) := rfl
  have z2 : (rngL 0 (2 ^ ns.length)).length ≤ sizeLine := by
    rw [rl, List.length_map, List.length_range]; exact z_le (by omega)
  rw [← rl] at c2
  have pn : so.map (fun n => D.int (pl ns n : Int)) = plD ns so := rfl
  rw [pn] at c1
  have hat : (attrM 0 2 (varM 0)) [some (.v (mkD ns)), some (.v d), some (.v (.lst (plD ns so))), none, none, none, none] = .ok (.int ((2 ^ ns.length : Nat) : Int)) [some (.v (mkD ns)), some (.v d), some (.v (.lst (plD ns so))), none, none, none, none] := rfl
  have sd : (List.range (2 ^ ns.length)).map (fun i => D.int (seenN ns i so : Int)) = seenD ns so := rfl
  rw [sd] at c2
  rw [u_seen_days]
  generalize 2 ^ ns.length = N at *
  generalize so.map D.str = T at *
  generalize seenD ns so = S at *
  generalize plD ns so = Z at *
  generalize mkD ns = MK at *
  have f1 : compM [3] (asSeq (varM 1)) (tgN 3) yesT (idxXM (attrM 0 0 (varM 0)) (varM 3)) [some (.v MK), some (.v d), none, none, none, none, none] = .ok (.lst Z) [some (.v MK), some (.v d), none, none, none, none, none] := by
    rw [compM_s, a, bind_ok, if_pos (by rw [lz]; exact z1), c1]; rfl
  have f2 : compM [4] (rng1M (attrM 0 2 (varM 0))) (tgN 4) yesT (callM sumAD [(compM [5, 6] (enumM (varM 2)) (tgT [(tgN 5), (tgN 6)]) yesT (op2M shlI (op2M andI (op2M shrI (varM 4) (varM 6)) (cM (.int 1))) (varM 5)))]) [some (.v MK), some (.v d), some (.v (.lst Z)), none, none, none, none] = .ok (.lst S) [some (.v MK), some (.v d), some (.v (.lst Z)), none, none, none, none] := by
    have : rng1M (attrM 0 2 (varM 0)) [some (.v MK), some (.v d), some (.v (.lst Z)), none, none, none, none] = .ok (rngL 0 N) [some (.v MK), some (.v d), some (.v (.lst Z)), none, none, none, none] := by
      rw [rng1M_s, hat, bind_ok]
      show (if -(2 ^ 62) ≤ (N : Int) ∧ (N : Int) < 2 ^ 62 then R.ok (rngL 0 (N : Int).toNat) _ else .stk) = _
      rw [if_pos ⟨by omega, by omega⟩, Int.toNat_natCast]
    rw [compM_s, this, bind_ok, if_pos z2, c2]; rfl
  simp [-compM_s, f1, f2]
end Lw
set_option linter.all false
set_option Elab.async false
set_option maxRecDepth 100000
set_option maxHeartbeats 4000000
set_option exponentiation.threshold 5000
namespace Lw
open PySem Ue
theorem whole_i {x lo hi : Int} : F_is_whole [.v (.int x), .v (.int lo), .v (.int hi)] = .ok (.bl (decide (lo ≤ x) && decide (x ≤ hi))) [.v (.int x), .v (.int lo), .v (.int hi)] := by
  by_cases g : lo ≤ x <;> simp [u_is_whole, g]
theorem widened_step {x0 x1 x2 : Option EV} {S q f k : Nat} (hk : k < 64) (h1 : x1 = some (.v (.int (S : Int)))) :
    L_widened_days_0 [x0, x1, x2, some (.v (.int (f : Int))), some (.v (.int (k : Int))), some (.v (.int (q : Int)))] = .nx [x0, x1, x2, some (.v (.int ((if S.testBit q then f ||| 2 ^ k else f : Nat) : Int))), some (.v (.int (k : Int))), some (.v (.int (q : Int)))] := by
  subst h1
  have e2 := bit_step (day := S) (p := q)
  have sh := shl1 (i := k) hk
  have eo := bOr f (2 ^ k)
  rw [show ((2 ^ k : Nat) : Int) = (2 : Int) ^ k by simp] at eo
  by_cases h : S.testBit q = true
  · rw [if_pos h] at e2 ⊢
    simp [L_widened_days_0, e2, sh, eo]
  · rw [if_neg h] at e2 ⊢
    simp [L_widened_days_0, e2, sh, eo]
theorem widened_days_ok {ns more : List Str} (hg : ∀ n ∈ more, Good n) (hs : ∀ n ∈ ns, n ∈ more) (hl : ns.length ≤ 5) (hm : more.length ≤ 4) (S : Nat) : F_widened_days [.v (mkD ns), .v (.int (S : Int)), .v (mkD more)] = .ok (.int (wideN ns S more : Int)) [.v (mkD ns), .v (.int (S : Int)), .v (mkD more)] := by
  have p4 := pow16 hm
  have c := check_ok hg hs (d := .tup (ns.map D.str)) (.inr rfl)
  have sd := seen_days_ok hs hl hm (d := .tup (ns.map D.str)) (.inr rfl)
  obtain ⟨e2, e, y4, y5, rfl⟩ := forM_idx (g := tgT [tgN 4, tgN 5]) (s := L_widened_days_0) (fun k e => ∃ y4 y5, e = [some (.v (mkD ns)), some (.v (.int (S : Int))), some (.v (mkD more)), some (.v (.int (wideF ns S more k : Int))), y4, y5]) (enumL (seenD more ns)) 0
    [some (.v (mkD ns)), some (.v (.int (S : Int))), some (.v (mkD more)), some (.v (.int 0)), none, none]
    (by
      rintro i d hd e ⟨y4, y5, rfl⟩
      obtain ⟨hi, x, hx, rfl⟩ := enum_at hd
      have hx0 := hx
      unfold seenD at hi hx
      rw [List.length_map, List.length_range] at hi
      rw [List.getElem?_map, List.getElem?_range hi] at hx
      cases hx
      refine ⟨_, _, rfl, .inl (widened_step (q := seenN more i ns) (by omega) rfl), some (.v (.int (i : Int))), some (.v (.int (seenN more i ns : Int))), ?_⟩
      rw [Nat.zero_add, wideF_succ])
    ⟨none, none, rfl⟩
  rw [show 0 + (enumL (seenD more ns)).length = 2 ^ more.length by simp [enumL, seenD]] at e
  have hF : (mkF ns)[0]? = some (.tpx (ns.map D.str)) := rfl
  unfold wideN
  unfold wideF at e
  rw [u_widened_days]
  generalize maskN ((List.range (2 ^ more.length)).filter fun d => S.testBit (seenN more d ns)) = W at *
  generalize ns.map D.str = T at *
  generalize seenD more ns = SD at *
  unfold mkD at *
  generalize mkF ns = G at *
  generalize mkF more = G2 at *
  simp [c, hF, sd, e]
theorem seen_onto {ns more : List Str} (hn : ns.Nodup) (hs : ∀ n ∈ ns, n ∈ more) {q : Nat} (hq : q < 2 ^ ns.length) : ∃ d, d < 2 ^ more.length ∧ seenN more d ns = q := by
  refine ⟨maskN (((List.range ns.length).filter q.testBit).map fun i => pl more (ns.getD i ⟨#[]⟩)), mask_lt fun d hd => ?_, ?_⟩
  · obtain ⟨i, hi, rfl⟩ := List.mem_map.mp hd
    have hi := List.mem_range.mp (List.mem_filter.mp hi).1
    rw [List.getD_eq_getElem?_getD, List.getElem?_eq_getElem hi]
    exact pl_lt (hs _ (List.getElem_mem hi))
  · refine Nat.eq_of_testBit_eq fun i => ?_
    rcases Nat.lt_or_ge i ns.length with hi | hi
    · rw [seenN_bit _ _ ns i ns[i] (List.getElem?_eq_getElem hi), mask_bit]
      rw [Bool.eq_iff_iff, decide_eq_true_eq, List.mem_map]
      constructor
      · rintro ⟨j, hj, e⟩
        obtain ⟨hj1, hj2⟩ := List.mem_filter.mp hj
        have hj1 := List.mem_range.mp hj1
        rw [List.getD_eq_getElem?_getD, List.getElem?_eq_getElem hj1] at e
        have e : pl more ns[j] = pl more ns[i] := e
        have a := List.findIdx_getElem (p := (· == ns[j])) (xs := more) (w := pl_lt (hs _ (List.getElem_mem hj1)))
        have b := List.findIdx_getElem (p := (· == ns[i])) (xs := more) (w := pl_lt (hs _ (List.getElem_mem hi)))
        have a := eq_of_beq a
        have b := eq_of_beq b
        have : ns[j] = ns[i] := by
          rw [← a, ← b]
          unfold pl at e
          congr 1
        rcases Nat.lt_trichotomy j i with h | h | h
        · exact absurd this (List.pairwise_iff_getElem.mp hn j i hj1 hi h)
        · subst h; exact hj2
        · exact absurd this.symm (List.pairwise_iff_getElem.mp hn i j hi hj1 h)
      · intro h
        exact ⟨i, List.mem_filter.mpr ⟨List.mem_range.mpr hi, h⟩, by rw [List.getD_eq_getElem?_getD, List.getElem?_eq_getElem hi]; rfl⟩
    · rw [hi_bit (seenN_lt _ _ ns) hi, hi_bit hq hi]
def HI : Int := 1000000000000000000000000000000
def ordD (L : List Int) : D := .obj 1 [.tup (L.map D.int)]
theorem layers_loop {x0 : Option EV} : ∀ (L : List Int), (∀ x ∈ L, 0 ≤ x ∧ x ≤ HI) → ∀ x1, ∃ y1, forM (tgN 1) L_checked_layers_0 (L.map D.int) [x0, x1] = .nx [x0, y1]
  | [], _, x1 => ⟨x1, rfl⟩
  | d :: L, h, x1 => by
    have hd := h d List.mem_cons_self
    obtain ⟨y1, e⟩ := layers_loop (x0 := x0) L (fun x hx => h x (List.mem_cons_of_mem _ hx)) (some (.v (.int d)))
    refine ⟨y1, ?_⟩
    have w := whole_i (x := d) (lo := 0) (hi := HI)
    rw [decide_eq_true hd.1, decide_eq_true hd.2] at w
    have st : L_checked_layers_0 [x0, some (.v (.int d))] = .nx [x0, some (.v (.int d))] := by
      simp only [HI] at w
      simp [L_checked_layers_0, w]
    rw [List.map_cons, forM_c]
    show loopS (L_checked_layers_0 [x0, some (.v (.int d))]) _ = _
    rw [st, loopS_nx, e]
theorem order_ok {L : List Int} (hc : (L.length : Int) ∈ ([2, 4, 8, 16] : List Int)) (hr : ∀ x ∈ L, 0 ≤ x ∧ x ≤ HI) (hb : minOf L = 0) : F_Order_init [.new 1 [], .v (.lst (L.map D.int))] = .ok .non [.new 1 [.tup (L.map D.int)], .v (.lst (L.map D.int))] := by
  obtain ⟨y1, e⟩ := layers_loop (x0 := some (.v (.lst (L.map D.int)))) L hr none
  have hin : inA (.int (L.length : Int)) (.tup [.int 2, .int 4, .int 8, .int 16]) = some true := by
    have := inA_ints (a := [2, 4, 8, 16]) (n := (L.length : Int))
    rw [decide_eq_true hc] at this
    exact this
  have hin2 : inA (.int ((L.map D.int).length : Int)) (.tup [.int 2, .int 4, .int 8, .int 16]) = some true := by rw [List.length_map]; exact hin
  have hch : F_checked_layers [.v (.lst (L.map D.int))] = .ok (.tup (L.map D.int)) [.v (.lst (L.map D.int))] := by
    generalize L.map D.int = T at *
    rw [u_checked_layers]
    simp [hin2, e]
  have hmin : minAD [.tup (L.map D.int)] = some (.int 0) := by
    cases L with
    | nil => simp at hc
    | cons a L =>
      show (match dInts ((a :: L).map D.int) with | some (n :: ns) => some (D.int (minOf (n :: ns))) | _ => none) = _
      rw [dInts_map]
      show some (D.int (minOf (a :: L))) = _
      rw [hb]
  generalize L.map D.int = T at *
  rw [u_Order_init]
  simp [hch, hmin]
theorem min_snoc {l : List Int} (x : Int) (h : l ≠ []) : minOf (l ++ [x]) = if x < minOf l then x else minOf l := by
  cases l with
  | nil => exact absurd rfl h
  | cons a l =>
    show List.foldl _ a (l ++ [x]) = _
    rw [List.foldl_append]; rfl
theorem min_mem : ∀ (l : List Int), l ≠ [] → minOf l ∈ l := by
  intro l h
  cases l with
  | nil => exact absurd rfl h
  | cons a l =>
    have : ∀ (l : List Int) (a : Int), l.foldl (fun a b => if b < a then b else a) a = a ∨ l.foldl (fun a b => if b < a then b else a) a ∈ l := by
      intro l
      induction l with
      | nil => intro a; exact .inl rfl
      | cons b l ih =>
        intro a
        rw [List.foldl_cons]
        rcases ih (if b < a then b else a) with h | h
        · by_cases c : b < a
          · rw [if_pos c] at h ⊢; exact .inr (by rw [h]; exact List.mem_cons_self)
          · rw [if_neg c] at h ⊢; exact .inl h
        · exact .inr (List.mem_cons_of_mem _ h)
    rcases this l a with h | h
    · show List.foldl _ a l ∈ _
      rw [h]; exact List.mem_cons_self
    · exact List.mem_cons_of_mem _ h
theorem min_le : ∀ (l : List Int) (x : Int), x ∈ l → minOf l ≤ x := by
  intro l x hx
  cases l with
  | nil => cases hx
  | cons a l =>
    have : ∀ (l : List Int) (a : Int), l.foldl (fun a b => if b < a then b else a) a ≤ a ∧ ∀ y ∈ l, l.foldl (fun a b => if b < a then b else a) a ≤ y := by
      intro l
      induction l with
      | nil => intro a; exact ⟨Int.le_refl _, fun _ h => nomatch h⟩
      | cons b l ih =>
        intro a
        rw [List.foldl_cons]
        obtain ⟨h1, h2⟩ := ih (if b < a then b else a)
        have hb : (if b < a then b else a) ≤ b ∧ (if b < a then b else a) ≤ a := by split <;> omega
        refine ⟨Int.le_trans h1 hb.2, fun y hy => ?_⟩
        rcases List.mem_cons.mp hy with rfl | hy
        · exact Int.le_trans h1 hb.1
        · exact h2 y hy
    obtain ⟨h1, h2⟩ := this l a
    rcases List.mem_cons.mp hx with rfl | hx
    · exact h1
    · exact h2 x hx
theorem min_is {l : List Int} {m : Int} (h1 : m ∈ l) (h2 : ∀ x ∈ l, m ≤ x) : minOf l = m := Int.le_antisymm (min_le l m h1) (h2 _ (min_mem l (List.ne_nil_of_mem h1)))
def likeF (ns so : List Str) (t k : Nat) : List Nat := (List.range k).filter fun d => decide (seenN ns d so = t)
def likeL (ns so : List Str) (L : List Int) (t k : Nat) : List Int := (likeF ns so t k).map fun d => L.getD d 0
def lookL (ns so : List Str) (L : List Int) : List Int := (List.range (2 ^ so.length)).map fun t => minOf (likeL ns so L t (2 ^ ns.length))
theorem like_ne {ns so : List Str} (hn : so.Nodup) (hs : ∀ n ∈ so, n ∈ ns) {t : Nat} (ht : t < 2 ^ so.length) : likeF ns so t (2 ^ ns.length) ≠ [] := by
  obtain ⟨d, hd, e⟩ := seen_onto hn hs ht
  exact List.ne_nil_of_mem (List.mem_filter.mpr ⟨List.mem_range.mpr hd, decide_eq_true e⟩)
theorem likeL_ne {ns so : List Str} (hn : so.Nodup) (hs : ∀ n ∈ so, n ∈ ns) {t : Nat} (ht : t < 2 ^ so.length) (L : List Int) : likeL ns so L t (2 ^ ns.length) ≠ [] := by
  unfold likeL
  simp [like_ne hn hs ht]
theorem like_succ (ns so : List Str) (L : List Int) (t k : Nat) : likeL ns so L t (k + 1) = if seenN ns k so = t then likeL ns so L t k ++ [L.getD k 0] else likeL ns so L t k := by
  unfold likeL likeF
  rw [List.range_succ, List.filter_append, List.map_append]
  by_cases h : seenN ns k so = t
  · rw [if_pos h]; simp [h]
  · rw [if_neg h]; simp [h]
def optM_ : List Int → D | [] => .non | l => .int (minOf l)
theorem opt_ne {l : List Int} (h : l ≠ []) : optM_ l = .int (minOf l) := by
  cases l with
  | nil => exact absurd rfl h
  | cons => rfl
def accL (ns so : List Str) (L : List Int) (k : Nat) : List D := (List.range (2 ^ so.length)).map fun t => optM_ (likeL ns so L t k)
theorem accL_len (ns so : List Str) (L : List Int) (k : Nat) : (accL ns so L k).length = 2 ^ so.length := by simp [accL]
theorem accL_at {ns so : List Str} {L : List Int} {k t : Nat} (h : t < 2 ^ so.length) : (accL ns so L k)[t]? = some (optM_ (likeL ns so L t k)) := by
  unfold accL
  rw [List.getElem?_map, List.getElem?_range h]; rfl
theorem acc_step (ns so : List Str) (L : List Int) (k : Nat) : (accL ns so L k).set (seenN ns k so) (optM_ (likeL ns so L (seenN ns k so) (k + 1))) = accL ns so L (k + 1) := by
  refine List.ext_getElem? fun t => ?_
  have lt := seenN_lt ns k so
  rcases Nat.lt_or_ge t (2 ^ so.length) with ht | ht
  · rw [accL_at ht]
    by_cases h : seenN ns k so = t
    · subst h
      rw [List.getElem?_set_self (by rw [accL_len]; exact lt)]
    · rw [List.getElem?_set_ne h, accL_at ht, like_succ, if_neg h]
  · rw [List.getElem?_eq_none (by rw [List.length_set, accL_len]; exact ht), List.getElem?_eq_none (by rw [accL_len]; exact ht)]
theorem acc_all {ns so : List Str} (hn : so.Nodup) (hs : ∀ n ∈ so, n ∈ ns) (L : List Int) : accL ns so L (2 ^ ns.length) = (lookL ns so L).map D.int := by
  unfold accL lookL
  rw [List.map_map]
  refine List.map_congr_left fun t ht => ?_
  exact opt_ne (likeL_ne hn hs (List.mem_range.mp ht) L)
end Lw
set_option linter.all false
set_option Elab.async false
set_option maxRecDepth 100000
set_option maxHeartbeats 4000000
set_option exponentiation.threshold 5000
namespace Lw
open PySem Ue
def seqI (d : D) (L : List Int) : Prop := d = .lst (L.map D.int) ∨ d = .tup (L.map D.int) ∨ d = ordD L
theorem len_ok (L : List Int) (hl : L.length ≤ 100) : F_Order_len [.v (ordD L)] = .ok (.int (L.length : Int)) [.v (ordD L)] := by
  have ll : (L.map D.int).length = L.length := List.length_map ..
  unfold ordD
  generalize L.map D.int = T at *
  rw [u_Order_len]
  simp [ll]
theorem lstO_ok {L : List Int} (hl : L.length ≤ 100) {e : Ue.Env} (h : e[1]? = some (some (.v (ordD L)))) : lstO 1 0 F_Order_len (varM 1) e = .ok (.lst (L.map D.int)) e := by
  have k := len_ok L hl
  have z : L.length ≤ sizeLine := z_le (by omega)
  have h' : varM 1 e = .ok (ordD L) e := by rw [varM_s, h]
  unfold lstO
  rw [h', bind_ok]
  unfold ordD at *
  have cs : callS F_Order_len [] [.d (.obj 1 [.tup (L.map D.int)])] e = .ok (.int (L.length : Int)) e := by
    unfold callS
    refine (if_pos (show fewO [AD.d (D.obj 1 [D.tup (L.map D.int)])] = true from rfl)).trans ?_
    show (F_Order_len [.v (.obj 1 [.tup (L.map D.int)])]).go _ _ = _
    rw [k]; rfl
  show (if (1 : Nat) = 1 then _ else _) = _
  rw [if_pos rfl]
  show (match some (D.tup (L.map D.int)), callS F_Order_len [] [.d (.obj 1 [.tup (L.map D.int)])] e with
    | some (.tup ys), .ok (.int n) e' => if 0 ≤ n ∧ n.toNat ≤ sizeLine then R.ok (D.lst ys) e' else R.stk
    | _, _ => R.stk) = _
  rw [cs]
  show (if 0 ≤ (L.length : Int) ∧ (L.length : Int).toNat ≤ sizeLine then R.ok (D.lst (L.map D.int)) e else .stk) = _
  rw [if_pos ⟨by omega, by rw [Int.toNat_natCast]; exact z⟩]
theorem given_ok {d : D} {L : List Int} (h : seqI d L) (hl : L.length ≤ 100) {e : Ue.Env} (he : e[1]? = some (some (.v d))) : pickM (varM 1) (lstO 1 0 F_Order_len (varM 1)) (callM listD [(varM 1)]) e = .ok (.lst (L.map D.int)) e := by
  rcases h with rfl | rfl | rfl
  · generalize L.map D.int = T at *
    simp [he]
  · generalize L.map D.int = T at *
    simp [he]
  · rw [pickM_s]
    have h' : varM 1 e = .ok (ordD L) e := by rw [varM_s, he]
    rw [h']
    exact lstO_ok hl he
theorem lenS {d : D} {so : List Str} (h : seqS d so) : lenD [d] = some (.int (so.length : Int)) := by
  rcases h with rfl | rfl <;> simp
theorem minAD_ints {l : List Int} (h : l ≠ []) : minAD [.lst (l.map D.int)] = some (.int (minOf l)) := by
  cases l with
  | nil => exact absurd rfl h
  | cons a l =>
    show (match dInts ((a :: l).map D.int) with | some (n :: ns) => some (D.int (minOf (n :: ns))) | _ => none) = _
    rw [dInts_map]
theorem look_step {ns so : List Str} (hn : so.Nodup) (hs : ∀ n ∈ so, n ∈ ns) (h4 : ns.length ≤ 4) {L : List Int} (hL : L.length = 2 ^ ns.length) {t : Nat} (ht : t < 2 ^ so.length) {acc : List D} (ha : acc.length ≤ 100) {x1 x2 : Option EV} :
    L_look_of_0 [some (.v (mkD ns)), x1, x2, some (.v (.lst (L.map D.int))), some (.v (.lst (seenD ns so))), some (.own acc), some (.v (.int (t : Int))), none] = .nx [some (.v (mkD ns)), x1, x2, some (.v (.lst (L.map D.int))), some (.v (.lst (seenD ns so))), some (.own (acc ++ [.int (minOf (likeL ns so L t (2 ^ ns.length)))])), some (.v (.int (t : Int))), none] := by
  have p4 := pow16 h4
  have ne := likeL_ne hn hs ht L
  have c := compL_mapF (g := tgN 7) (tt := cmpM eqS (op2M ixD (varM 4) (varM 7)) (varM 6)) (te := op2M ixD (varM 3) (varM 7)) (vs := [7]) (env := [some (.v (mkD ns)), x1, x2, some (.v (.lst (L.map D.int))), some (.v (.lst (seenD ns so))), some (.own acc), some (.v (.int (t : Int))), none])
    (fun d : Nat => D.int (0 + (d : Int))) (fun d : Nat => D.int (L.getD d 0)) (fun d => decide (seenN ns d so = t)) rfl (List.range (2 ^ ns.length)) (by
      intro d hd
      have hd := List.mem_range.mp hd
      have a1 : L2.atI (seenD ns so) (d : Int) = some (.int (seenN ns d so : Int)) := atI_nat (by unfold seenD; rw [List.getElem?_map, List.getElem?_range hd]; rfl)
      have a2 : L2.atI (L.map D.int) (d : Int) = some (.int (L.getD d 0)) := atI_nat (by
        have hd2 : d < L.length := by omega
        rw [List.getElem?_map, List.getD_eq_getElem?_getD, List.getElem?_eq_getElem hd2]; rfl)
      have e0 : ((seenN ns d so : Int) = (t : Int)) = (seenN ns d so = t) := by rw [eq_iff_iff]; omega
      rw [Int.zero_add]
      generalize seenD ns so = SD at *
      generalize L.map D.int = LD at *
      generalize mkD ns = MK at *
      refine ⟨[some (.v MK), x1, x2, some (.v (.lst LD)), some (.v (.lst SD)), some (.own acc), some (.v (.int (t : Int))), some (.v (.int (d : Int)))], [some (.v MK), x1, x2, some (.v (.lst LD)), some (.v (.lst SD)), some (.own acc), some (.v (.int (t : Int))), some (.v (.int (d : Int)))], rfl, ?_, fun _ => rfl, fun _ => ⟨[some (.v MK), x1, x2, some (.v (.lst LD)), some (.v (.lst SD)), some (.own acc), some (.v (.int (t : Int))), some (.v (.int (d : Int)))], by simp [a2], rfl⟩⟩
      simp [a1]
      omega)
  have rl : rngL 0 (2 ^ ns.length) = (List.range (2 ^ ns.length)).map (fun d : Nat => D.int (0 + (d : Int))) := rfl
  rw [← rl] at c
  have lk : ((List.range (2 ^ ns.length)).filter fun d => decide (seenN ns d so = t)).map (fun d : Nat => D.int (L.getD d 0)) = (likeL ns so L t (2 ^ ns.length)).map D.int := by
    unfold likeL likeF
    rw [List.map_map]; rfl
  rw [lk] at c
  have z2 : (rngL 0 (2 ^ ns.length)).length ≤ sizeLine := by
    rw [rl, List.length_map, List.length_range]; exact z_le (by omega)
  have hat : ∀ x7, rng1M (attrM 0 2 (varM 0)) [some (.v (mkD ns)), x1, x2, some (.v (.lst (L.map D.int))), some (.v (.lst (seenD ns so))), some (.own acc), some (.v (.int (t : Int))), x7] = .ok (rngL 0 (2 ^ ns.length)) [some (.v (mkD ns)), x1, x2, some (.v (.lst (L.map D.int))), some (.v (.lst (seenD ns so))), some (.own acc), some (.v (.int (t : Int))), x7] := fun x7 => by
    show (R.ok (D.int ((2 ^ ns.length : Nat) : Int)) _).bind _ = _
    rw [bind_ok]
    show (if -(2 ^ 62) ≤ ((2 ^ ns.length : Nat) : Int) ∧ ((2 ^ ns.length : Nat) : Int) < 2 ^ 62 then R.ok (rngL 0 ((2 ^ ns.length : Nat) : Int).toNat) _ else .stk) = _
    generalize 2 ^ ns.length = N at *
    rw [if_pos ⟨by omega, by omega⟩, Int.toNat_natCast]
  have cm : compM [7] (rng1M (attrM 0 2 (varM 0))) (tgN 7) (cmpM eqS (op2M ixD (varM 4) (varM 7)) (varM 6)) (op2M ixD (varM 3) (varM 7)) [some (.v (mkD ns)), x1, x2, some (.v (.lst (L.map D.int))), some (.v (.lst (seenD ns so))), some (.own acc), some (.v (.int (t : Int))), none] = .ok (.lst ((likeL ns so L t (2 ^ ns.length)).map D.int)) [some (.v (mkD ns)), x1, x2, some (.v (.lst (L.map D.int))), some (.v (.lst (seenD ns so))), some (.own acc), some (.v (.int (t : Int))), none] := by
    rw [compM_s, hat, bind_ok, if_pos z2, c]; rfl
  have mn := minAD_ints ne
  have z : acc.length < sizeLine := Nat.lt_of_lt_of_le (by omega : acc.length < 101) (z_le (by omega))
  generalize minOf (likeL ns so L t (2 ^ ns.length)) = mm at *
  generalize (likeL ns so L t (2 ^ ns.length)).map D.int = LL at *
  generalize seenD ns so = SD at *
  generalize L.map D.int = LD at *
  generalize mkD ns = MK at *
  simp [-compM_s, L_look_of_0, cm, mn, appG, z]
theorem look_of_ok {ns so : List Str} (hg : ∀ n ∈ ns, Good n) (hn : so.Nodup) (hs : ∀ n ∈ so, n ∈ ns) (h4 : ns.length ≤ 4) (hl : so.length ≤ 5) {L : List Int} (hL : L.length = 2 ^ ns.length) {d S : D} (hd : seqI d L) (hS : seqS S so) :
    F_look_of [.v (mkD ns), .v d, .v S] = .ok (.tup ((lookL ns so L).map D.int)) [.v (mkD ns), .v d, .v S] := by
  have p4 := pow16 h4
  have p5 : 2 ^ so.length ≤ 32 := Nat.pow_le_pow_right (n := 2) (by decide) hl
  have c := check_ok hg hs hS
  have gv := given_ok hd (by omega) (e := [some (.v (mkD ns)), some (.v d), some (.v S), none, none, none, none, none]) rfl
  have sd := seen_days_ok hs hl h4 hS
  have ls := lenS hS
  obtain ⟨e2, e, y6, rfl⟩ := forM_rng (g := tgN 6) (s := L_look_of_0) (fun k e => ∃ y6, e = [some (.v (mkD ns)), some (.v d), some (.v S), some (.v (.lst (L.map D.int))), some (.v (.lst (seenD ns so))), some (.own (((lookL ns so L).take k).map D.int)), y6, none]) (2 ^ so.length)
    [some (.v (mkD ns)), some (.v d), some (.v S), some (.v (.lst (L.map D.int))), some (.v (.lst (seenD ns so))), some (.own []), none, none]
    (by
      rintro t ht e ⟨y6, rfl⟩
      have st := look_step hn hs h4 hL ht (acc := ((lookL ns so L).take t).map D.int) (by rw [List.length_map, List.length_take]; omega) (x1 := some (.v d)) (x2 := some (.v S))
      refine ⟨_, _, rfl, .inl st, some (.v (.int (t : Int))), ?_⟩
      have : (lookL ns so L)[t]? = some (minOf (likeL ns so L t (2 ^ ns.length))) := by
        unfold lookL
        rw [List.getElem?_map, List.getElem?_range ht]; rfl
      rw [take_snoc this, List.map_append]; rfl)
    ⟨none, rfl⟩
  rw [show (lookL ns so L).take (2 ^ so.length) = lookL ns so L from List.take_of_length_le (by simp [lookL])] at e
  have lL : (L.map D.int).length = 2 ^ ns.length := by rw [List.length_map]; exact hL
  have sh := shl1 (i := so.length) (by omega)
  have l2 : (mkF ns)[2]? = some (.int ((2 ^ ns.length : Nat) : Int)) := rfl
  have ec : ((2 ^ so.length : Nat) : Int) = (2 : Int) ^ so.length := by simp
  have et : ((2 : Int) ^ so.length).toNat = 2 ^ so.length := by rw [← ec, Int.toNat_natCast]
  have lo : (-4611686018427387904 : Int) ≤ (2 : Int) ^ so.length := by rw [← ec]; generalize 2 ^ so.length = N at *; omega
  have hi : (2 : Int) ^ so.length < 4611686018427387904 := by rw [← ec]; generalize 2 ^ so.length = N at *; omega
  have en : ((L.map D.int).length : Int) = ((2 ^ ns.length : Nat) : Int) := by rw [lL]
  rw [u_look_of]
  generalize ((2 ^ ns.length : Nat) : Int) = DY at *
  generalize (lookL ns so L).map D.int = LK at *
  generalize L.map D.int = LD at *
  generalize seenD ns so = SD at *
  unfold mkD at *
  generalize mkF ns = G at *
  simp [-pickM_s, c, gv, l2, en, sd, ls, sh, et, lo, hi, e]
theorem look_of_len {ns so : List Str} (hg : ∀ n ∈ ns, Good n) (hs : ∀ n ∈ so, n ∈ ns) {L : List Int} (hl : L.length ≤ 100) (hL : L.length ≠ 2 ^ ns.length) {d S : D} (hd : seqI d L) (hS : seqS S so) : F_look_of [.v (mkD ns), .v d, .v S] = .exc 4 [] [.v (mkD ns), .v d, .v S] := by
  have c := check_ok hg hs hS
  have gv := given_ok hd hl (e := [some (.v (mkD ns)), some (.v d), some (.v S), none, none, none, none, none]) rfl
  have l2 : (mkF ns)[2]? = some (.int ((2 ^ ns.length : Nat) : Int)) := rfl
  have en : ¬ ((L.map D.int).length : Int) = ((2 ^ ns.length : Nat) : Int) := by rw [List.length_map]; omega
  rw [u_look_of]
  generalize ((2 ^ ns.length : Nat) : Int) = DY at *
  generalize L.map D.int = LD at *
  unfold mkD at *
  generalize mkF ns = G at *
  simp [-pickM_s, c, gv, l2, en]
def spreadL (ns so : List Str) (G : List Int) : List Int := (List.range (2 ^ ns.length)).map fun d => G.getD (seenN ns d so) 0
theorem spread_ok {ns so : List Str} (hg : ∀ n ∈ ns, Good n) (hs : ∀ n ∈ so, n ∈ ns) (h4 : ns.length ≤ 4) (hl : so.length ≤ 5) {G : List Int} (hG : G.length = 2 ^ so.length) {d S : D} (hd : seqI d G) (hS : seqS S so) :
    F_spread_over [.v (mkD ns), .v d, .v S] = .ok (.tup ((spreadL ns so G).map D.int)) [.v (mkD ns), .v d, .v S] := by
  have p4 := pow16 h4
  have p5 : 2 ^ so.length ≤ 32 := Nat.pow_le_pow_right (n := 2) (by decide) hl
  have c := check_ok hg hs hS
  have gv := given_ok hd (by omega) (e := [some (.v (mkD ns)), some (.v d), some (.v S), none, none]) rfl
  have sd := seen_days_ok hs hl h4 hS
  have ls := lenS hS
  have cc := compL_map (g := tgN 4) (te := op2M ixD (varM 3) (varM 4)) (vs := [4]) (env := [some (.v (mkD ns)), some (.v d), some (.v S), some (.v (.lst (G.map D.int))), none]) (fun i : Nat => D.int (seenN ns i so : Int)) (fun i : Nat => D.int (G.getD (seenN ns i so) 0)) rfl (List.range (2 ^ ns.length)) (by
    intro i hi
    have lt := seenN_lt ns i so
    have a2 : L2.atI (G.map D.int) (seenN ns i so : Int) = some (.int (G.getD (seenN ns i so) 0)) := atI_nat (by
      have hd2 : seenN ns i so < G.length := by omega
      rw [List.getElem?_map, List.getD_eq_getElem?_getD, List.getElem?_eq_getElem hd2]; rfl)
    generalize G.map D.int = GD at *
    generalize mkD ns = MK at *
    exact ⟨[some (.v MK), some (.v d), some (.v S), some (.v (.lst GD)), some (.v (.int (seenN ns i so : Int)))], [some (.v MK), some (.v d), some (.v S), some (.v (.lst GD)), some (.v (.int (seenN ns i so : Int)))], rfl, by simp [a2], rfl⟩)
  have e1 : (List.range (2 ^ ns.length)).map (fun i : Nat => D.int (seenN ns i so : Int)) = seenD ns so := rfl
  have e2 : (List.range (2 ^ ns.length)).map (fun i : Nat => D.int (G.getD (seenN ns i so) 0)) = (spreadL ns so G).map D.int := by unfold spreadL; rw [List.map_map]; rfl
  rw [e1, e2] at cc
  have z2 : (seenD ns so).length ≤ sizeLine := by unfold seenD; rw [List.length_map, List.length_range]; exact z_le (by omega)
  have sh := shl1 (i := so.length) (by omega)
  have ec : ((2 ^ so.length : Nat) : Int) = (2 : Int) ^ so.length := by simp
  have en : ((G.map D.int).length : Int) = (2 : Int) ^ so.length := by rw [List.length_map, hG, ec]
  rw [u_spread_over]
  generalize (spreadL ns so G).map D.int = SP at *
  generalize G.map D.int = GD at *
  generalize seenD ns so = SD at *
  generalize mkD ns = MK at *
  simp [-pickM_s, c, gv, ls, sh, en, sd, z2, cc]
theorem spread_len {ns so : List Str} (hg : ∀ n ∈ ns, Good n) (hs : ∀ n ∈ so, n ∈ ns) (hl : so.length ≤ 5) {G : List Int} (hl2 : G.length ≤ 100) (hG : G.length ≠ 2 ^ so.length) {d S : D} (hd : seqI d G) (hS : seqS S so) : F_spread_over [.v (mkD ns), .v d, .v S] = .exc 4 [] [.v (mkD ns), .v d, .v S] := by
  have c := check_ok hg hs hS
  have gv := given_ok hd hl2 (e := [some (.v (mkD ns)), some (.v d), some (.v S), none, none]) rfl
  have ls := lenS hS
  have sh := shl1 (i := so.length) (by omega)
  have ec : ((2 ^ so.length : Nat) : Int) = (2 : Int) ^ so.length := by simp
  have en : ¬ ((G.map D.int).length : Int) = (2 : Int) ^ so.length := by rw [List.length_map, ← ec]; omega
  rw [u_spread_over]
  generalize G.map D.int = GD at *
  generalize mkD ns = MK at *
  simp [-pickM_s, c, gv, ls, sh, en]
theorem look_day_ok {ns so : List Str} (hg : ∀ n ∈ ns, Good n) (hs : ∀ n ∈ so, n ∈ ns) (h4 : ns.length ≤ 4) (hl : so.length ≤ 5) {k : Nat} (hk : k < 2 ^ ns.length) {S : D} (hS : seqS S so) : F_look_day [.v (mkD ns), .v (.int (k : Int)), .v S] = .ok (.int (seenN ns k so : Int)) [.v (mkD ns), .v (.int (k : Int)), .v S] := by
  have c := check_ok hg hs hS
  have sd := seen_days_ok hs hl h4 hS
  have w := whole_i (x := (k : Int)) (lo := 0) (hi := ((2 ^ ns.length : Nat) : Int) - 1)
  rw [decide_eq_true (by omega), decide_eq_true (by omega)] at w
  have l2 : (mkF ns)[2]? = some (.int ((2 ^ ns.length : Nat) : Int)) := rfl
  have a1 : L2.atI (seenD ns so) (k : Int) = some (.int (seenN ns k so : Int)) := atI_nat (by unfold seenD; rw [List.getElem?_map, List.getElem?_range hk]; rfl)
  rw [u_look_day]
  generalize ((2 ^ ns.length : Nat) : Int) = DY at *
  generalize seenD ns so = SD at *
  unfold mkD at *
  generalize mkF ns = G at *
  simp [c, l2, w, sd, a1]
theorem look_day_no {ns so : List Str} (hg : ∀ n ∈ ns, Good n) (hs : ∀ n ∈ so, n ∈ ns) {x S : D} (hS : seqS S so) (h : F_is_whole [.v x, .v (.int 0), .v (.int (((2 ^ ns.length : Nat) : Int) - 1))] = .ok (.bl false) [.v x, .v (.int 0), .v (.int (((2 ^ ns.length : Nat) : Int) - 1))]) : F_look_day [.v (mkD ns), .v x, .v S] = .exc 3 [x] [.v (mkD ns), .v x, .v S] := by
  have c := check_ok hg hs hS
  have l2 : (mkF ns)[2]? = some (.int ((2 ^ ns.length : Nat) : Int)) := rfl
  rw [u_look_day]
  generalize ((2 ^ ns.length : Nat) : Int) = DY at *
  unfold mkD at *
  generalize mkF ns = G at *
  simp [c, l2, h]
end Lw
set_option linter.all false
set_option Elab.async false
set_option maxRecDepth 100000
set_option maxHeartbeats 4000000
set_option exponentiation.threshold 5000
namespace Lw
open PySem Ue
theorem isN_opt (l : List Int) : isN (optM_ l) .non = some l.isEmpty := by cases l <;> rfl
theorem law_look_step {ns so : List Str} (hs : ∀ n ∈ so, n ∈ ns) (hl : so.length ≤ 5) {L : List Int} {k : Nat} (hk : k < L.length) {x0 x1 x2 x5 : Option EV} (h0 : x0 = some (.v (.lst (ns.map D.str)))) (h1 : x1 = some (.v (.lst (L.map D.int)))) (h2 : x2 = some (.v (.lst (so.map D.str)))) :
    L_law_look_0 [x0, x1, x2, some (.own (accL ns so L k)), some (.v (.int (k : Int))), x5] = .nx [x0, x1, x2, some (.own (accL ns so L (k + 1))), some (.v (.int (k : Int))), some (.v (.int (seenN ns k so : Int)))] := by
  subst h0 h1 h2
  have e := law_seen_ok (ns := ns) (so := so) hs hl k
  have lt := seenN_lt ns k so
  have a1 : L2.atI (accL ns so L k) (seenN ns k so : Int) = some (optM_ (likeL ns so L (seenN ns k so) k)) := atI_nat (accL_at lt)
  have a2 : L2.atI (L.map D.int) (k : Int) = some (.int (L.getD k 0)) := atI_nat (by rw [List.getElem?_map, List.getD_eq_getElem?_getD, List.getElem?_eq_getElem hk]; rfl)
  have n1 := isN_opt (likeL ns so L (seenN ns k so) k)
  have st := acc_step ns so L k
  have ix : L2.ixN (accL ns so L k).length (seenN ns k so : Int) = some (seenN ns k so) := by
    have lt' : seenN ns k so < (accL ns so L k).length := by rw [accL_len]; exact lt
    unfold L2.ixN; simp [lt']
  have su := like_succ ns so L (seenN ns k so) k
  rw [if_pos rfl] at su
  generalize likeL ns so L (seenN ns k so) k = X at *
  rw [su] at st
  generalize accL ns so L (k + 1) = A2 at *
  generalize accL ns so L k = A at *
  generalize seenN ns k so = q at *
  generalize L.getD k 0 = v at *
  generalize ns.map D.str = T at *
  generalize L.map D.int = LD at *
  generalize so.map D.str = T2 at *
  cases X with
  | nil =>
    have o : optM_ ([] ++ [v]) = .int v := rfl
    rw [o] at st
    have n1 : isN (optM_ []) .non = some true := n1
    simp [L_law_look_0, e, a1, a2, n1, ix, st]
  | cons x X =>
    have o : optM_ ((x :: X) ++ [v]) = .int (if v < minOf (x :: X) then v else minOf (x :: X)) := by
      rw [← min_snoc v (List.cons_ne_nil x X)]; rfl
    have o2 : optM_ (x :: X) = .int (minOf (x :: X)) := rfl
    rw [o] at st
    rw [o2] at a1 n1
    have n1 : isN (.int (minOf (x :: X))) .non = some false := n1
    generalize minOf (x :: X) = m at *
    by_cases c : v < m
    · rw [if_pos c] at st
      simp [L_law_look_0, e, a1, a2, n1, ix, st, min2D, c]
    · rw [if_neg c] at st
      simp [L_law_look_0, e, a1, a2, n1, ix, st, min2D, c]
theorem flat_rep : ∀ N : Nat, (List.replicate N [D.non]).flatten = List.replicate N D.non
  | 0 => rfl
  | N + 1 => by rw [List.replicate_succ, List.flatten_cons, flat_rep N]; rfl
theorem law_look_ok {ns so : List Str} (hn : so.Nodup) (hs : ∀ n ∈ so, n ∈ ns) (hl : so.length ≤ 5) (h4 : ns.length ≤ 4) {L : List Int} (hL : L.length = 2 ^ ns.length) : F_law_look [.v (.lst (ns.map D.str)), .v (.lst (L.map D.int)), .v (.lst (so.map D.str))] = .ok (.lst ((lookL ns so L).map D.int)) [.v (.lst (ns.map D.str)), .v (.lst (L.map D.int)), .v (.lst (so.map D.str))] := by
  have p4 := pow16 h4
  have p5 : 2 ^ so.length ≤ 32 := Nat.pow_le_pow_right (n := 2) (by decide) hl
  obtain ⟨e2, e, y4, y5, rfl⟩ := forM_rng (g := tgN 4) (s := L_law_look_0) (fun k e => ∃ y4 y5, e = [some (.v (.lst (ns.map D.str))), some (.v (.lst (L.map D.int))), some (.v (.lst (so.map D.str))), some (.own (accL ns so L k)), y4, y5]) L.length
    [some (.v (.lst (ns.map D.str))), some (.v (.lst (L.map D.int))), some (.v (.lst (so.map D.str))), some (.own (accL ns so L 0)), none, none]
    (by
      rintro k hk e ⟨y4, y5, rfl⟩
      exact ⟨_, _, rfl, .inl (law_look_step hs hl hk rfl rfl rfl), _, _, rfl⟩)
    ⟨none, none, rfl⟩
  rw [hL, acc_all hn hs] at e
  have sh := shl1 (i := so.length) (by omega)
  have ec : ((2 ^ so.length : Nat) : Int) = (2 : Int) ^ so.length := by simp
  have lS : (so.map D.str).length = so.length := List.length_map ..
  have lL : (L.map D.int).length = 2 ^ ns.length := by rw [List.length_map, hL]
  have et : ((2 : Int) ^ so.length).toNat = 2 ^ so.length := by rw [← ec, Int.toNat_natCast]
  have rp : repL (.lst [.non]) (.int ((2 : Int) ^ so.length)) = some (.lst (accL ns so L 0)) := by
    rw [repL_s, if_pos, et]
    · congr 2
      unfold accL likeL likeF
      show _ = (List.range (2 ^ so.length)).map fun t => D.non
      rw [List.map_const', List.length_range]
      exact flat_rep _
    · rw [et, ← ec]
      generalize 2 ^ so.length = N at *
      refine ⟨by omega, by omega, z_le (by simp; omega)⟩
  have z1 := z_le (n := 1) (by decide)
  have lo : (-4611686018427387904 : Int) ≤ ((2 ^ ns.length : Nat) : Int) := by generalize 2 ^ ns.length = N at *; omega
  have hi : ((2 ^ ns.length : Nat) : Int) < 4611686018427387904 := by generalize 2 ^ ns.length = N at *; omega
  have ln : lenD [.lst (L.map D.int)] = some (.int ((2 ^ ns.length : Nat) : Int)) := by rw [lenD_l, lL]
  have tn : ((2 ^ ns.length : Nat) : Int).toNat = 2 ^ ns.length := Int.toNat_natCast _
  rw [u_law_look]
  generalize (lookL ns so L).map D.int = LK at *
  generalize accL ns so L 0 = A0 at *
  generalize ns.map D.str = T at *
  generalize L.map D.int = LD at *
  generalize so.map D.str = T2 at *
  generalize ((2 ^ ns.length : Nat) : Int) = DY at *
  have r1 : rng1M (callM lenD [(varM 1)]) [some (.v (.lst T)), some (.v (.lst LD)), some (.v (.lst T2)), some (.own A0), none, none] = .ok (rngL 0 (2 ^ ns.length)) [some (.v (.lst T)), some (.v (.lst LD)), some (.v (.lst T2)), some (.own A0), none, none] := by
    simp [-lenD_l, ln, lo, hi, tn]
  simp [-rng1M_s, z1, lS, sh, rp, r1, e]
theorem law_numbers_ok (b : Int × Int × Int) {N : Nat} (hN : N ≤ 100) : ∃ (L : List Int) (b' : Int × Int × Int), F_law_numbers [.own (bg b), .v (.int (N : Int))] = .ok (.lst (L.map D.int)) [.own (bg b'), .v (.int (N : Int))] ∧ L.length = N ∧ ∀ x ∈ L, 0 ≤ x ∧ x ≤ HI := by
  obtain ⟨d, b1, e1, hm⟩ := of_ok b (ds := [.int 2, .int 4, .int 9, .int 1000000000000000000000000000001]) (by simp) (by simp)
  obtain ⟨n, rfl, h0, h1⟩ : ∃ n : Int, d = .int n ∧ 0 < n ∧ n ≤ 1000000000000000000000000000001 := by
    simp only [List.mem_cons, List.not_mem_nil, or_false] at hm
    rcases hm with rfl | rfl | rfl | rfl
    · exact ⟨2, rfl, by decide, by decide⟩
    · exact ⟨4, rfl, by decide, by decide⟩
    · exact ⟨9, rfl, by decide, by decide⟩
    · exact ⟨_, rfl, by decide, by decide⟩
  have md : Mid n := mid_of (by omega) (Int.lt_of_le_of_lt h1 (by decide))
  obtain ⟨L, b', e2, hl, hr⟩ : ∃ (L : List Int) (b' : Int × Int × Int), compL [3] (tgN 3) yesT (fnM F_law_take [.o 0, .p (varM 2)] []) (rngL 0 N) [some (.own (bg b1)), some (.v (.int (N : Int))), some (.v (.int n)), none] = .ok (L.map D.int) [some (.own (bg b')), some (.v (.int (N : Int))), some (.v (.int n)), none] ∧ L.length = N ∧ ∀ x ∈ L, 0 ≤ x ∧ x ≤ HI := by
    have key : ∀ (ds : List D) (b1 : Int × Int × Int), ∃ (L : List Int) (b' : Int × Int × Int), compL [3] (tgN 3) yesT (fnM F_law_take [.o 0, .p (varM 2)] []) ds [some (.own (bg b1)), some (.v (.int (N : Int))), some (.v (.int n)), none] = .ok (L.map D.int) [some (.own (bg b')), some (.v (.int (N : Int))), some (.v (.int n)), none] ∧ L.length = ds.length ∧ ∀ x ∈ L, 0 ≤ x ∧ x ≤ HI := by
      intro ds
      induction ds with
      | nil => intro b1; exact ⟨[], b1, rfl, rfl, fun _ h => nomatch h⟩
      | cons d ds ih =>
        intro b1
        obtain ⟨v, b2, e, v0, v1⟩ := take_int (b := b1) h0 md
        obtain ⟨L, b3, e3, hl, hr⟩ := ih b2
        refine ⟨v :: L, b3, ?_, by simp [hl], fun x hx => ?_⟩
        · rw [compL_c]
          simp [e, restE]
          show R.bind (compL _ _ _ _ ds [some (.own (bg b2)), some (.v (.int (N : Int))), some (.v (.int n)), none]) _ = _
          rw [e3]; rfl
        · rcases List.mem_cons.mp hx with rfl | hx
          · exact ⟨v0, by unfold HI; omega⟩
          · exact hr x hx
    have := key (rngL 0 N) b1
    rwa [show (rngL 0 N).length = N by simp [rngL]] at this
  refine ⟨L, b', ?_, hl, hr⟩
  have p30 : powOk 10 30 = true := by decide
  have z4 := z_le (n := 4) (by decide)
  have zN : (rngL 0 N).length ≤ sizeLine := z_le (by simp [rngL]; omega)
  have lo : (-4611686018427387904 : Int) ≤ (N : Int) := by omega
  have hi : (N : Int) < 4611686018427387904 := by omega
  rw [u_law_numbers]
  generalize L.map D.int = LD at *
  simp [p30, z4, e1, lo, hi, zN, e2]
end Lw
set_option linter.all false
set_option Elab.async false
set_option maxRecDepth 100000
set_option maxHeartbeats 4000000
set_option exponentiation.threshold 5000
namespace Lw
open PySem Ue
variable {ns so : List Str} {S d x : D}
theorem told_day_ok {v : D} (h : F_look_day [.v (mkD ns), .v x, .v S] = .ok v [.v (mkD ns), .v x, .v S]) : F_law_told [.v (.int 0), .v (mkD ns), .v x, .v S] = .ok v [.v (.int 0), .v (mkD ns), .v x, .v S] := by
  rw [u_law_told]
  generalize mkD ns = MK at *
  simp [h]
theorem told_look_ok {v : D} (h : F_look_of [.v (mkD ns), .v x, .v S] = .ok v [.v (mkD ns), .v x, .v S]) : F_law_told [.v (.int 1), .v (mkD ns), .v x, .v S] = .ok v [.v (.int 1), .v (mkD ns), .v x, .v S] := by
  rw [u_law_told]
  generalize mkD ns = MK at *
  simp [h]
theorem told_spread_ok {v : D} (h : F_spread_over [.v (mkD ns), .v x, .v S] = .ok v [.v (mkD ns), .v x, .v S]) : F_law_told [.v (.int 2), .v (mkD ns), .v x, .v S] = .ok v [.v (.int 2), .v (mkD ns), .v x, .v S] := by
  rw [u_law_told]
  generalize mkD ns = MK at *
  simp [h]
theorem told_day_no (h : F_look_day [.v (mkD ns), .v x, .v S] = .exc 3 [x] [.v (mkD ns), .v x, .v S]) : F_law_told [.v (.int 0), .v (mkD ns), .v x, .v S] = .ok (.lst [.str (Str.ofString "day"), x]) [.v (.int 0), .v (mkD ns), .v x, .v S] := by
  have z := z_le (n := 2) (by decide)
  rw [u_law_told]
  generalize mkD ns = MK at *
  simp [h, caught_NoMark, caught_NoDay, caught_OtherDays, z]
theorem told_look_len (h : F_look_of [.v (mkD ns), .v x, .v S] = .exc 4 [] [.v (mkD ns), .v x, .v S]) : F_law_told [.v (.int 1), .v (mkD ns), .v x, .v S] = .ok (.lst [.str (Str.ofString "days")]) [.v (.int 1), .v (mkD ns), .v x, .v S] := by
  have z := z_le (n := 1) (by decide)
  rw [u_law_told]
  generalize mkD ns = MK at *
  simp [h, caught_NoMark, caught_NoDay, caught_OtherDays, z]
theorem told_spread_len (h : F_spread_over [.v (mkD ns), .v x, .v S] = .exc 4 [] [.v (mkD ns), .v x, .v S]) : F_law_told [.v (.int 2), .v (mkD ns), .v x, .v S] = .ok (.lst [.str (Str.ofString "days")]) [.v (.int 2), .v (mkD ns), .v x, .v S] := by
  have z := z_le (n := 1) (by decide)
  rw [u_law_told]
  generalize mkD ns = MK at *
  simp [h, caught_NoMark, caught_NoDay, caught_OtherDays, z]
theorem told_mark {o : D} {w : Int} (hw : w = 0 ∨ w = 1 ∨ w = 2) (h : F_check_names [.v (mkD ns), .v S] = .exc 2 [o] [.v (mkD ns), .v S]) : F_law_told [.v (.int w), .v (mkD ns), .v x, .v S] = .ok (.lst [.str (Str.ofString "mark"), o]) [.v (.int w), .v (mkD ns), .v x, .v S] := by
  have z := z_le (n := 2) (by decide)
  have h0 : F_look_day [.v (mkD ns), .v x, .v S] = .exc 2 [o] [.v (mkD ns), .v x, .v S] := by
    rw [u_look_day]
    generalize mkD ns = MK at *
    simp [h]
  have h1 : F_look_of [.v (mkD ns), .v x, .v S] = .exc 2 [o] [.v (mkD ns), .v x, .v S] := by
    rw [u_look_of]
    generalize mkD ns = MK at *
    simp [h]
  have h2 : F_spread_over [.v (mkD ns), .v x, .v S] = .exc 2 [o] [.v (mkD ns), .v x, .v S] := by
    rw [u_spread_over]
    generalize mkD ns = MK at *
    simp [h]
  rw [u_law_told]
  generalize mkD ns = MK at *
  rcases hw with rfl | rfl | rfl
  · simp [h0, caught_NoMark, z]
  · simp [h1, caught_NoMark, z]
  · simp [h2, caught_NoMark, z]
theorem eqD_int (a : Int) : eqD (.int a) (.int a) = some true := by
  have s := shaped_int a
  show (if SeqAt.shaped (.int a) = true ∧ SeqAt.shaped (.int a) = true then some (PyData.eqv (.int a) (.int a)) else none) = _
  rw [if_pos ⟨s, s⟩]
  simp [PyData.eqv]
theorem eqT (l : List Int) : eqD (.tup (l.map D.int)) (.tup (l.map D.int)) = some true := by rw [eqD_tup, decide_eq_true rfl]
theorem eqL (l : List Int) : eqD (.lst (l.map D.int)) (.lst (l.map D.int)) = some true := by rw [eqD_lst, decide_eq_true rfl]
theorem lookL_len (ns so : List Str) (L : List Int) : (lookL ns so L).length = 2 ^ so.length := by simp [lookL]
theorem min_sub {l : List Int} (h : l ≠ []) (c : Int) : minOf (l.map (· - c)) = minOf l - c :=
  min_is (List.mem_map.mpr ⟨_, min_mem l h, rfl⟩) fun x hx => by
    obtain ⟨y, hy, rfl⟩ := List.mem_map.mp hx
    have := min_le l y hy
    show minOf l - c ≤ y - c
    omega
theorem lookL_sub (hn : so.Nodup) (hs : ∀ n ∈ so, n ∈ ns) {L : List Int} (hL : L.length = 2 ^ ns.length) (c : Int) : lookL ns so (L.map (· - c)) = (lookL ns so L).map (· - c) := by
  unfold lookL
  rw [List.map_map]
  refine List.map_congr_left fun t ht => ?_
  have ne := likeL_ne hn hs (List.mem_range.mp ht) L
  show minOf (likeL ns so (L.map (· - c)) t (2 ^ ns.length)) = minOf (likeL ns so L t (2 ^ ns.length)) - c
  rw [← min_sub ne c]
  congr 1
  unfold likeL
  rw [List.map_map]
  refine List.map_congr_left fun d hd => ?_
  have hd : d < L.length := by rw [hL]; exact List.mem_range.mp (List.mem_filter.mp hd).1
  show (L.map (· - c)).getD d 0 = L.getD d 0 - c
  rw [List.getD_eq_getElem?_getD, List.getElem?_map, List.getElem?_eq_getElem hd, List.getD_eq_getElem?_getD, List.getElem?_eq_getElem hd]; rfl
theorem look_spread (hn : so.Nodup) (hs : ∀ n ∈ so, n ∈ ns) {G : List Int} (hG : G.length = 2 ^ so.length) : lookL ns so (spreadL ns so G) = G := by
  refine List.ext_getElem? fun t => ?_
  rcases Nat.lt_or_ge t (2 ^ so.length) with ht | ht
  · have e1 : (lookL ns so (spreadL ns so G))[t]? = some (minOf (likeL ns so (spreadL ns so G) t (2 ^ ns.length))) := by
      unfold lookL
      rw [List.getElem?_map, List.getElem?_range ht]; rfl
    rw [e1, List.getElem?_eq_getElem (by omega)]
    congr 1
    obtain ⟨d, hd, ed⟩ := seen_onto hn hs ht
    have sp : ∀ d, d < 2 ^ ns.length → (spreadL ns so G).getD d 0 = G.getD (seenN ns d so) 0 := fun d hd => by
      unfold spreadL
      rw [List.getD_eq_getElem?_getD, List.getElem?_map, List.getElem?_range hd]; rfl
    have gt : G.getD t 0 = G[t] := by rw [List.getD_eq_getElem?_getD, List.getElem?_eq_getElem (by omega)]; rfl
    refine min_is (List.mem_map.mpr ⟨d, List.mem_filter.mpr ⟨List.mem_range.mpr hd, decide_eq_true ed⟩, by rw [sp d hd, ed, gt]⟩) fun x hx => ?_
    obtain ⟨d', hd', rfl⟩ := List.mem_map.mp hx
    obtain ⟨q1, q2⟩ := List.mem_filter.mp hd'
    rw [sp d' (List.mem_range.mp q1), of_decide_eq_true q2, gt]
    exact Int.le_refl _
  · rw [List.getElem?_eq_none (by rw [lookL_len]; exact ht), List.getElem?_eq_none (by omega)]
theorem right_0 (hg : ∀ n ∈ ns, Good n) (hs : ∀ n ∈ so, n ∈ ns) (h4 : ns.length ≤ 4) (hl : so.length ≤ 5) {k : Nat} (hk : k < 2 ^ ns.length) {x0 x4 x6 x7 x8 x9 x10 x11 x12 x13 x14 x15 : Option EV} :
    L_law_right_0 [x0, some (.v (.lst (ns.map D.str))), some (.v (.lst (so.map D.str))), some (.v (mkD ns)), x4, some (.v (.int (k : Int))), x6, x7, x8, x9, x10, x11, x12, x13, x14, x15] = .nx [x0, some (.v (.lst (ns.map D.str))), some (.v (.lst (so.map D.str))), some (.v (mkD ns)), x4, some (.v (.int (k : Int))), some (.v (.int (seenN ns k so : Int))), x7, x8, x9, x10, x11, x12, x13, x14, x15] := by
  have t := told_day_ok (look_day_ok hg hs h4 hl hk (S := .lst (so.map D.str)) (.inl rfl))
  have e := law_seen_ok (ns := ns) (so := so) hs hl k
  have q := eqD_int (seenN ns k so : Int)
  generalize ns.map D.str = T at *
  generalize so.map D.str = T2 at *
  generalize mkD ns = MK at *
  generalize seenN ns k so = sn at *
  simp [L_law_right_0, t, e, q]
theorem right_1 (hg : ∀ n ∈ ns, Good n) (hn : so.Nodup) (hs : ∀ n ∈ so, n ∈ ns) (h4 : ns.length ≤ 4) (hl : so.length ≤ 5) {L : List Int} (hL : L.length = 2 ^ ns.length) {X : D} (hX : seqI X L) {x0 x1 x4 x5 x6 x7 x8 x9 x10 x13 x14 x15 : Option EV} :
    L_law_right_1 [x0, x1, some (.v (.lst (so.map D.str))), some (.v (mkD ns)), x4, x5, x6, x7, x8, x9, x10, some (.v (.tup ((lookL ns so L).map D.int))), some (.v X), x13, x14, x15] = .nx [x0, x1, some (.v (.lst (so.map D.str))), some (.v (mkD ns)), x4, x5, some (.v (.tup ((lookL ns so L).map D.int))), x7, x8, x9, x10, some (.v (.tup ((lookL ns so L).map D.int))), some (.v X), x13, x14, x15] := by
  have t := told_look_ok (look_of_ok hg hn hs h4 hl hL hX (S := .tup (so.map D.str)) (.inr rfl))
  have q := eqT (lookL ns so L)
  generalize so.map D.str = T2 at *
  generalize mkD ns = MK at *
  generalize (lookL ns so L).map D.int = LK at *
  simp [L_law_right_1, t, q]
end Lw
set_option linter.all false
set_option Elab.async false
set_option maxRecDepth 100000
set_option maxHeartbeats 8000000
set_option exponentiation.threshold 5000
namespace Lw
open PySem Ue
variable {ns so : List Str}
theorem seqI_lst (L : List Int) : seqI (.lst (L.map D.int)) L := .inl rfl
theorem seqI_tup (L : List Int) : seqI (.tup (L.map D.int)) L := .inr (.inl rfl)
theorem seqI_ord (L : List Int) : seqI (ordD L) L := .inr (.inr rfl)
theorem cnt_mem {k : Nat} (h1 : 1 ≤ k) (h4 : k ≤ 4) : ((2 ^ k : Nat) : Int) ∈ ([2, 4, 8, 16] : List Int) := by
  rcases (by omega : k = 1 ∨ k = 2 ∨ k = 3 ∨ k = 4) with rfl | rfl | rfl | rfl <;> decide
theorem sub_comp {L : List Int} {c : Int} {it : MI} {E : Ue.Env} (h15 : E[15]? = some none) (hlen : E.length = 16) (h9 : E[9]? = some (some (.v (.int c)))) (hi : it E = .ok (L.map D.int) E) (hl : L.length ≤ 100) :
    compM [15] it (tgN 15) yesT (op2M subI (varM 15) (varM 9)) E = .ok (.lst ((L.map (· - c)).map D.int)) E := by
  have cc := compL_map (g := tgN 15) (te := op2M subI (varM 15) (varM 9)) (vs := [15]) (env := E) D.int (fun x => D.int (x - c)) (by simp [h15]) L (by
    intro x hx
    have g15 : (E.set 15 (some (.v (.int x))))[15]? = some (some (.v (.int x))) := by rw [List.getElem?_set_self (by omega)]
    have g9 : (E.set 15 (some (.v (.int x))))[9]? = some (some (.v (.int c))) := by rw [List.getElem?_set_ne (by omega)]; exact h9
    have rs : restE E (E.set 15 (some (.v (.int x)))) [15] = E := by
      rw [rest_one (by rw [List.length_set]), h15, List.set_set]
      refine List.ext_getElem? fun j => ?_
      by_cases hj : 15 = j
      · subst hj; rw [List.getElem?_set_self (by omega)]; exact h15.symm
      · rw [List.getElem?_set_ne hj]
    exact ⟨E.set 15 (some (.v (.int x))), E.set 15 (some (.v (.int x))), by rw [wipe_c, wipe_n, tgN_s, List.set_set], by simp [g15, g9], rs⟩)
  have z : (L.map D.int).length ≤ sizeLine := z_le (by rw [List.length_map]; exact Nat.le_trans hl (by decide))
  have mm : (L.map fun x => D.int (x - c)) = (L.map (· - c)).map D.int := by rw [List.map_map]; rfl
  rw [compM_s, hi, bind_ok, if_pos z, cc, mm]; rfl
theorem spread_comp (hs : ∀ n ∈ so, n ∈ ns) (hl : so.length ≤ 5) (h4 : ns.length ≤ 4) {G : List Int} (hG : G.length = 2 ^ so.length) {E : Ue.Env} (hlen : E.length = 16) {y : Option EV} (h5 : E[5]? = some y) (hy : vsOk E [5] = true) (h1 : E[1]? = some (some (.v (.lst (ns.map D.str))))) (h2 : E[2]? = some (some (.v (.lst (so.map D.str))))) (h4' : E[4]? = some (some (.v (.int ((2 ^ ns.length : Nat) : Int))))) (h8 : E[8]? = some (some (.v (.lst (G.map D.int))))) :
    compM [5] (rng1M (varM 4)) (tgN 5) yesT (op2M ixD (varM 8) (fnM F_law_seen [.p (varM 1), .p (varM 5), .p (varM 2)] [])) E = .ok (.lst ((spreadL ns so G).map D.int)) E := by
  have p4 := pow16 h4
  have cc := compL_map (g := tgN 5) (te := op2M ixD (varM 8) (fnM F_law_seen [.p (varM 1), .p (varM 5), .p (varM 2)] [])) (vs := [5]) (env := E) (fun i : Nat => D.int (0 + (i : Int))) (fun i : Nat => D.int (G.getD (seenN ns i so) 0)) hy (List.range (2 ^ ns.length)) (by
    intro i hi
    have lt := seenN_lt ns i so
    have e := law_seen_ok (ns := ns) (so := so) hs hl i
    have a2 : L2.atI (G.map D.int) (seenN ns i so : Int) = some (.int (G.getD (seenN ns i so) 0)) := atI_nat (by
      have hd2 : seenN ns i so < G.length := by omega
      rw [List.getElem?_map, List.getD_eq_getElem?_getD, List.getElem?_eq_getElem hd2]; rfl)
    have g5 : (E.set 5 (some (.v (.int (i : Int)))))[5]? = some (some (.v (.int (i : Int)))) := by rw [List.getElem?_set_self (by omega)]
    have g1 : (E.set 5 (some (.v (.int (i : Int)))))[1]? = some (some (.v (.lst (ns.map D.str)))) := by rw [List.getElem?_set_ne (by omega)]; exact h1
    have g2 : (E.set 5 (some (.v (.int (i : Int)))))[2]? = some (some (.v (.lst (so.map D.str)))) := by rw [List.getElem?_set_ne (by omega)]; exact h2
    have g8 : (E.set 5 (some (.v (.int (i : Int)))))[8]? = some (some (.v (.lst (G.map D.int)))) := by rw [List.getElem?_set_ne (by omega)]; exact h8
    have rs : restE E (E.set 5 (some (.v (.int (i : Int))))) [5] = E := by
      rw [rest_one (by rw [List.length_set]), h5, List.set_set]
      refine List.ext_getElem? fun j => ?_
      by_cases hj : 5 = j
      · subst hj; rw [List.getElem?_set_self (by omega)]; exact h5.symm
      · rw [List.getElem?_set_ne hj]
    refine ⟨E.set 5 (some (.v (.int (i : Int)))), E.set 5 (some (.v (.int (i : Int)))), by rw [Int.zero_add, wipe_c, wipe_n, tgN_s, List.set_set], ?_, rs⟩
    generalize E.set 5 (some (.v (.int (i : Int)))) = E2 at *
    generalize G.map D.int = GD at *
    generalize ns.map D.str = T at *
    generalize so.map D.str = T2 at *
    generalize seenN ns i so = q at *
    simp [g8, g1, g5, g2, e, a2])
  have rl : rngL 0 (2 ^ ns.length) = (List.range (2 ^ ns.length)).map (fun i : Nat => D.int (0 + (i : Int))) := rfl
  rw [← rl] at cc
  have e2 : (List.range (2 ^ ns.length)).map (fun i : Nat => D.int (G.getD (seenN ns i so) 0)) = (spreadL ns so G).map D.int := by unfold spreadL; rw [List.map_map]; rfl
  rw [e2] at cc
  have z2 : (rngL 0 (2 ^ ns.length)).length ≤ sizeLine := by rw [rl, List.length_map, List.length_range]; exact z_le (by omega)
  have a : rng1M (varM 4) E = .ok (rngL 0 (2 ^ ns.length)) E := by
    rw [rng1M_s, varM_s, h4', bind_ok]
    show (if -(2 ^ 62) ≤ ((2 ^ ns.length : Nat) : Int) ∧ ((2 ^ ns.length : Nat) : Int) < 2 ^ 62 then R.ok (rngL 0 ((2 ^ ns.length : Nat) : Int).toNat) E else .stk) = _
    generalize 2 ^ ns.length = N at *
    rw [if_pos ⟨by omega, by omega⟩, Int.toNat_natCast]
  rw [compM_s, a, bind_ok, if_pos z2, cc]; rfl
theorem law_right_ok (hN : Nms ns) (h1 : 1 ≤ ns.length) (h4 : ns.length ≤ 4) (hn : so.Nodup) (hs : ∀ n ∈ so, n ∈ ns) (hl : so.length ≤ 4) (b : Int × Int × Int) : ∃ b', F_law_right [.own (bg b), .v (.lst (ns.map D.str)), .v (.lst (so.map D.str))] = .ok (.bl true) [.own (bg b'), .v (.lst (ns.map D.str)), .v (.lst (so.map D.str))] := by
  have p4 := pow16 h4
  have p4' := pow16 hl
  obtain ⟨L, b1, eL, hL, rL⟩ := law_numbers_ok b (N := 2 ^ ns.length) (by omega)
  obtain ⟨G, b2, eG, hG, rG⟩ := law_numbers_ok b1 (N := 2 ^ so.length) (by omega)
  have mk := marks_ok hN h1 h4 (d := .lst (ns.map D.str)) (.inl rfl)
  have lm : (mkF ns).length = 4 := rfl
  obtain ⟨e2, e, y5, y6, q0, q1, q2⟩ := forM_rng (g := tgN 5) (s := L_law_right_0) (fun k e => ∃ y5 y6, e = [some (.own (bg b)), some (.v (.lst (ns.map D.str))), some (.v (.lst (so.map D.str))), some (.v (mkD ns)), some (.v (.int ((2 ^ ns.length : Nat) : Int))), y5, y6, none, none, none, none, none, none, none, none, none] ∧ (0 < k → ∃ d5, y5 = some (.v d5)) ∧ (0 < k → ∃ d6, y6 = some (.v d6))) (2 ^ ns.length)
    [some (.own (bg b)), some (.v (.lst (ns.map D.str))), some (.v (.lst (so.map D.str))), some (.v (mkD ns)), some (.v (.int ((2 ^ ns.length : Nat) : Int))), none, none, none, none, none, none, none, none, none, none, none]
    (by
      rintro k hk e ⟨y5, y6, rfl, _, _⟩
      exact ⟨_, _, rfl, .inl (right_0 hN.2 hs h4 (by omega) hk), _, _, rfl, fun _ => ⟨_, rfl⟩, fun _ => ⟨_, rfl⟩⟩)
    ⟨none, none, rfl, fun h => absurd h (Nat.lt_irrefl _), fun h => absurd h (Nat.lt_irrefl _)⟩
  obtain ⟨d5, rfl⟩ := q1 (Nat.two_pow_pos _)
  obtain ⟨d6, rfl⟩ := q2 (Nat.two_pow_pos _)
  subst q0
  have neL : L ≠ [] := fun h => by rw [h] at hL; have := Nat.two_pow_pos ns.length; simp at hL; omega
  have mn := minAD_ints neL
  have lk := law_look_ok hn hs (by omega) h4 hL
  have tR1 := @right_1 ns so
  have f1 := fun x0 x1 x4 x5 x6 x7 x8 x9 x10 x13 x14 x15 => @right_1 ns so hN.2 hn hs h4 (by omega) L hL (.lst (L.map D.int)) (seqI_lst L) x0 x1 x4 x5 x6 x7 x8 x9 x10 x13 x14 x15
  have f2 := fun x0 x1 x4 x5 x6 x7 x8 x9 x10 x13 x14 x15 => @right_1 ns so hN.2 hn hs h4 (by omega) L hL (.tup (L.map D.int)) (seqI_tup L) x0 x1 x4 x5 x6 x7 x8 x9 x10 x13 x14 x15
  -- the order
  have hL2 : (L.map (· - minOf L)).length = 2 ^ ns.length := by rw [List.length_map, hL]
  have od := order_ok (L := L.map (· - minOf L)) (by rw [hL2]; exact cnt_mem h1 h4) (fun x hx => by
    obtain ⟨y, hy, rfl⟩ := List.mem_map.mp hx
    have r := rL y hy
    have r0 := rL _ (min_mem L neL)
    have := min_le L y hy
    show 0 ≤ y - minOf L ∧ y - minOf L ≤ HI
    omega) (by rw [min_sub neL]; omega)
  have t1 := told_look_ok (look_of_ok hN.2 hn hs h4 (by omega) hL2 (seqI_ord (L.map (· - minOf L))) (S := .lst (so.map D.str)) (.inl rfl))
  rw [lookL_sub hn hs hL] at t1
  have q1 := eqT ((lookL ns so L).map (· - minOf L))
  have q2 := eqL L
  have t2 := told_spread_ok (spread_ok hN.2 hs h4 (by omega) hG (seqI_lst G) (S := .lst (so.map D.str)) (.inl rfl))
  have q3 := eqT (spreadL ns so G)
  have t3 := told_look_ok (look_of_ok hN.2 hn hs h4 (by omega) (L := spreadL ns so G) (by simp [spreadL]) (seqI_tup (spreadL ns so G)) (S := .lst (so.map D.str)) (.inl rfl))
  rw [look_spread hn hs hG] at t3
  have q4 := eqT G
  have lkl : (lookL ns so L).length ≤ 100 := by rw [lookL_len]; omega
  have c1 : ∀ x11 x12 x13 x14, compM [15] (asL (varM 7)) (tgN 15) yesT (op2M subI (varM 15) (varM 9)) [some (.own (bg b2)), some (.v (.lst (ns.map D.str))), some (.v (.lst (so.map D.str))), some (.v (mkD ns)), some (.v (.int ((2 ^ ns.length : Nat) : Int))), some (.v d5), some (.v (.tup ((lookL ns so L).map D.int))), some (.v (.lst (L.map D.int))), some (.v (.lst (G.map D.int))), some (.v (.int (minOf L))), some (.v (.lst (L.map D.int))), x11, x12, x13, x14, none] = .ok (.lst ((L.map (· - minOf L)).map D.int)) [some (.own (bg b2)), some (.v (.lst (ns.map D.str))), some (.v (.lst (so.map D.str))), some (.v (mkD ns)), some (.v (.int ((2 ^ ns.length : Nat) : Int))), some (.v d5), some (.v (.tup ((lookL ns so L).map D.int))), some (.v (.lst (L.map D.int))), some (.v (.lst (G.map D.int))), some (.v (.int (minOf L))), some (.v (.lst (L.map D.int))), x11, x12, x13, x14, none] :=
    fun x11 x12 x13 x14 => sub_comp rfl rfl rfl (by simp) (by omega)
  have c2 : ∀ x12 x13 x14, compM [15] (asT (varM 11)) (tgN 15) yesT (op2M subI (varM 15) (varM 9)) [some (.own (bg b2)), some (.v (.lst (ns.map D.str))), some (.v (.lst (so.map D.str))), some (.v (mkD ns)), some (.v (.int ((2 ^ ns.length : Nat) : Int))), some (.v d5), some (.v (.tup ((lookL ns so L).map D.int))), some (.v (.lst (L.map D.int))), some (.v (.lst (G.map D.int))), some (.v (.int (minOf L))), some (.v (.lst (L.map D.int))), some (.v (.tup ((lookL ns so L).map D.int))), x12, x13, x14, none] = .ok (.lst (((lookL ns so L).map (· - minOf L)).map D.int)) [some (.own (bg b2)), some (.v (.lst (ns.map D.str))), some (.v (.lst (so.map D.str))), some (.v (mkD ns)), some (.v (.int ((2 ^ ns.length : Nat) : Int))), some (.v d5), some (.v (.tup ((lookL ns so L).map D.int))), some (.v (.lst (L.map D.int))), some (.v (.lst (G.map D.int))), some (.v (.int (minOf L))), some (.v (.lst (L.map D.int))), some (.v (.tup ((lookL ns so L).map D.int))), x12, x13, x14, none] :=
    fun x12 x13 x14 => sub_comp rfl rfl rfl (by simp) lkl
  have c3 : ∀ x9 x10 x11 x12 x13 x14, compM [5] (rng1M (varM 4)) (tgN 5) yesT (op2M ixD (varM 8) (fnM F_law_seen [.p (varM 1), .p (varM 5), .p (varM 2)] [])) [some (.own (bg b2)), some (.v (.lst (ns.map D.str))), some (.v (.lst (so.map D.str))), some (.v (mkD ns)), some (.v (.int ((2 ^ ns.length : Nat) : Int))), some (.v d5), some (.v (.tup ((lookL ns so L).map D.int))), some (.v (.lst (L.map D.int))), some (.v (.lst (G.map D.int))), x9, x10, x11, x12, x13, x14, none] = .ok (.lst ((spreadL ns so G).map D.int)) [some (.own (bg b2)), some (.v (.lst (ns.map D.str))), some (.v (.lst (so.map D.str))), some (.v (mkD ns)), some (.v (.int ((2 ^ ns.length : Nat) : Int))), some (.v d5), some (.v (.tup ((lookL ns so L).map D.int))), some (.v (.lst (L.map D.int))), some (.v (.lst (G.map D.int))), x9, x10, x11, x12, x13, x14, none] :=
    fun x9 x10 x11 x12 x13 x14 => spread_comp hs (by omega) h4 hG rfl rfl rfl rfl rfl rfl rfl
  have sh := shl1 (i := ns.length) (by omega)
  have sh2 := shl1 (i := so.length) (by omega)
  have ec : (1 : Int) * 2 ^ ns.length = ((2 ^ ns.length : Nat) : Int) := by simp
  have ec2 : (1 : Int) * 2 ^ so.length = ((2 ^ so.length : Nat) : Int) := by simp
  have lT : lenD [.lst (ns.map D.str)] = some (.int (ns.length : Int)) := by rw [lenD_l, List.length_map]
  have lT2 : lenD [.lst (so.map D.str)] = some (.int (so.length : Int)) := by rw [lenD_l, List.length_map]
  have s1 : shlI (.int 1) (.int (ns.length : Int)) = some (.int ((2 ^ ns.length : Nat) : Int)) := by
    show (if shlOk 1 (ns.length : Int) then some (D.int (1 * 2 ^ ((ns.length : Int)).toNat)) else none) = _
    rw [sh, if_pos rfl, Int.toNat_natCast, ec]
  have s2 : shlI (.int 1) (.int (so.length : Int)) = some (.int ((2 ^ so.length : Nat) : Int)) := by
    show (if shlOk 1 (so.length : Int) then some (D.int (1 * 2 ^ ((so.length : Int)).toNat)) else none) = _
    rw [sh2, if_pos rfl, Int.toNat_natCast, ec2]
  have z2 := z_le (n := 2) (by decide)
  have lo : (-4611686018427387904 : Int) ≤ ((2 ^ ns.length : Nat) : Int) := by generalize 2 ^ ns.length = N at *; omega
  have hi : ((2 ^ ns.length : Nat) : Int) < 4611686018427387904 := by generalize 2 ^ ns.length = N at *; omega
  have tn : ((2 ^ ns.length : Nat) : Int).toNat = 2 ^ ns.length := Int.toNat_natCast _
  refine ⟨b2, ?_⟩
  rw [u_law_right]
  unfold ordD at *
  generalize hNN : 2 ^ ns.length = NN at *
  generalize 2 ^ so.length = MM at *
  generalize (NN : Int) = DY at *
  generalize (MM : Int) = DZ at *
  unfold mkD at *
  generalize ns.map D.str = T at *
  generalize so.map D.str = T2 at *
  generalize mkF ns = MK at *
  generalize ((lookL ns so L).map (· - minOf L)).map D.int = LS at *
  generalize (lookL ns so L).map D.int = LK at *
  generalize (L.map (· - minOf L)).map D.int = LD2 at *
  generalize L.map D.int = LD at *
  generalize (spreadL ns so G).map D.int = SP at *
  generalize G.map D.int = GD at *
  generalize minOf L = mm at *
  have e' : ∀ (E : Ue.Env), rng1M (varM 4) [some (.own (bg b)), some (.v (.lst T)), some (.v (.lst T2)), some (.v (.obj 0 MK)), some (.v (.int DY)), none, none, none, none, none, none, none, none, none, none, none] = .ok (rngL 0 NN) [some (.own (bg b)), some (.v (.lst T)), some (.v (.lst T2)), some (.v (.obj 0 MK)), some (.v (.int DY)), none, none, none, none, none, none, none, none, none, none, none] := fun _ => by simp [lo, hi, tn]
  have e' := e' []
  simp [-compM_s, -lenD_l, -rng1M_s, -i2c_s, lT, lT2, s1, s2, mk, lm, e', e, eL, eG, z2, mn, lk, forM_c, f1, f2, c1, c2, c3, od, t1, t2, t3, q1, q2, q3, q4]
end Lw
set_option linter.all false
set_option Elab.async false
set_option maxRecDepth 100000
set_option maxHeartbeats 8000000
set_option exponentiation.threshold 5000
namespace Lw
open PySem Ue
variable {ns so : List Str}
theorem strs_lt {x : Str} (h : PyData.strOk x = true) : ∀ c ∈ x.cps.toList, c < 16 ^ 8 := fun c hc => by
  unfold PyData.strOk at h
  rw [Array.all_eq_true] at h
  obtain ⟨i, hi, rfl⟩ := List.mem_iff_getElem.mp hc
  have := of_decide_eq_true (h i (by simpa using hi))
  simp only [Array.getElem_toList] at *
  omega
theorem repr_two {a : Str} (ha : PyData.strOk a = true) (hal : a.length ≤ 100) {d : D} {p : PyData} (hp : toPy d = some p) (h1 : p.showable = true) (h2 : p.hasDict = false) (h3 : p.depth ≤ 50) (h4 : p.shown.length ≤ 5000) : ∃ S, reprD [.lst [.str a, d]] = some (.str S) := by
  refine ⟨(PyData.list [.str a, p]).shown, ?_⟩
  have e0 : toPy (.lst [.str a, d]) = some (.list [.str a, p]) := by
    show (toPys [.str a, d]).map PyData.list = _
    rw [toPys, toPys, hp]; rfl
  show ((toPy (.lst [.str a, d])).bind fun p => if reprOk p then some (D.str p.shown) else none) = _
  rw [e0]
  show (if reprOk (.list [.str a, p]) then some (D.str (PyData.list [.str a, p]).shown) else none) = _
  refine if_pos ?_
  have e1 : (PyData.list [.str a, p]).shown = ((((Str.ofString "[" ++ Str.ofString "") ++ reprText a) ++ Str.ofString ", ") ++ p.shown) ++ Str.ofString "]" := rfl
  have l1 := PySem.StrLaws.reprText_len a (strs_lt ha)
  have e : (PyData.list [.str a, p]).shown.length ≤ sizeLine := by
    rw [e1, strLen_append, strLen_append, strLen_append, strLen_append, strLen_append, show (Str.ofString "[").length = 1 from by decide +kernel, show (Str.ofString "").length = 0 from by decide +kernel, show (Str.ofString "]").length = 1 from by decide +kernel, show (Str.ofString ", ").length = 2 from by decide +kernel]
    exact Nat.le_trans (by omega : _ ≤ 10000) (z_leB (Nat.le_refl _))
  unfold reprOk
  simp [PyData.showable, PyData.showableAll, PyData.hasDict, PyData.hasDictAll, PyData.depth, PyData.depthAll, h1, h2, e]
  omega
theorem day_str : PyData.strOk (Str.ofString "day") = true ∧ (Str.ofString "day").length ≤ 100 := by decide +kernel
theorem mark_str : PyData.strOk (Str.ofString "mark") = true ∧ (Str.ofString "mark").length ≤ 100 := by decide +kernel
theorem pk_int {a : Int} (h : a.natAbs.log2 < 1900) : (PyData.int a).showable = true ∧ (PyData.int a).hasDict = false ∧ (PyData.int a).depth ≤ 50 ∧ (PyData.int a).shown.length ≤ 5000 := by
  have h1 : a.natAbs.log2 < 1920 := by omega
  have ht := PyProof.Rows.int_text_len_1921 h1
  refine ⟨by simp [PyData.showable, h1], by simp [PyData.hasDict], by simp [PyData.depth], ?_⟩
  show (Str.ofString (toString a)).length ≤ 5000
  omega
theorem pk_str {s : Str} (h : PyData.strOk s = true) (hl : s.length ≤ 100) : (PyData.str s).showable = true ∧ (PyData.str s).hasDict = false ∧ (PyData.str s).depth ≤ 50 ∧ (PyData.str s).shown.length ≤ 5000 := by
  have l1 := PySem.StrLaws.reprText_len s (strs_lt h)
  refine ⟨by simp [PyData.showable], by simp [PyData.hasDict], by simp [PyData.depth], ?_⟩
  show (reprText s).length ≤ 5000
  omega
theorem pk_lst {s : Str} (h : PyData.strOk s = true) (hl : s.length ≤ 100) : (PyData.list [.str s]).showable = true ∧ (PyData.list [.str s]).hasDict = false ∧ (PyData.list [.str s]).depth ≤ 50 ∧ (PyData.list [.str s]).shown.length ≤ 5000 := by
  have l1 := PySem.StrLaws.reprText_len s (strs_lt h)
  refine ⟨by simp [PyData.showable, PyData.showableAll], by simp [PyData.hasDict, PyData.hasDictAll], by simp [PyData.depth, PyData.depthAll], ?_⟩
  have e1 : (PyData.list [.str s]).shown = ((Str.ofString "[" ++ Str.ofString "") ++ reprText s) ++ Str.ofString "]" := rfl
  rw [e1, strLen_append, strLen_append, strLen_append, show (Str.ofString "[").length = 1 from by decide +kernel, show (Str.ofString "").length = 0 from by decide +kernel, show (Str.ofString "]").length = 1 from by decide +kernel]
  omega
theorem pk_tup {s : Str} (h : PyData.strOk s = true) (hl : s.length ≤ 100) : (PyData.tuple [.str s]).showable = true ∧ (PyData.tuple [.str s]).hasDict = false ∧ (PyData.tuple [.str s]).depth ≤ 50 ∧ (PyData.tuple [.str s]).shown.length ≤ 5000 := by
  have l1 := PySem.StrLaws.reprText_len s (strs_lt h)
  refine ⟨by simp [PyData.showable, PyData.showableAll], by simp [PyData.hasDict, PyData.hasDictAll], by simp [PyData.depth, PyData.depthAll], ?_⟩
  have e1 : (PyData.tuple [.str s]).shown = (Str.ofString "(" ++ reprText s) ++ Str.ofString ",)" := rfl
  rw [e1, strLen_append, strLen_append, show (Str.ofString "(").length = 1 from by decide +kernel, show (Str.ofString ",)").length = 2 from by decide +kernel]
  omega
end Lw
set_option linter.all false
set_option Elab.async false
set_option maxRecDepth 100000
set_option maxHeartbeats 8000000
set_option exponentiation.threshold 5000
namespace Lw
open PySem Ue
variable {ns so : List Str}
structure OddN (ns : List Str) (d : D) : Prop where
  no : inA d (.tup (ns.map D.str)) = some false
  rp : ∃ S, reprD [.lst [.str (Str.ofString "mark"), d]] = some (.str S)
theorem any_no {p : PyData} (h : ∀ s, PyData.eqv (.str s) p = false) : ∀ l : List Str, (l.map PyData.str).any (fun z => PyData.eqv z p) = false
  | [] => rfl
  | s :: l => by rw [List.map_cons, List.any_cons, h s, any_no h l]; rfl
theorem odd_other {d : D} {p : PyData} (hg : ∀ n ∈ ns, Good n) (hp : toPy d = some p) (hs : SeqAt.shaped p = true) (h : ∀ s, PyData.eqv (.str s) p = false) (h1 : p.showable = true) (h2 : p.hasDict = false) (h3 : p.depth ≤ 50) (h4 : p.shown.length ≤ 5000) : OddN ns d := by
  refine ⟨?_, repr_two mark_str.1 mark_str.2 hp h1 h2 h3 h4⟩
  have q := shaped_strs (goods_ok hg)
  unfold inA
  rw [hp]
  show ((toPys (ns.map D.str)).bind fun qs => if SeqAt.shaped p = true ∧ SeqAt.shaped (.list qs) = true then some (qs.any fun z => PyData.eqv z p) else none) = _
  rw [toPys_strs]
  show (if SeqAt.shaped p = true ∧ SeqAt.shaped (.list (ns.map PyData.str)) = true then some ((ns.map PyData.str).any fun z => PyData.eqv z p) else none) = _
  rw [if_pos ⟨hs, q⟩, any_no h]
theorem odd_str {s : Str} (hg : ∀ n ∈ ns, Good n) (hs : PyData.strOk s = true) (hl : s.length ≤ 100) (hn : s ∉ ns) : OddN ns (.str s) := by
  obtain ⟨h1, h2, h3, h4⟩ := pk_str hs hl
  exact ⟨by rw [inA_strsT hs (goods_ok hg), decide_eq_false hn], repr_two mark_str.1 mark_str.2 rfl h1 h2 h3 h4⟩
theorem asc_ok {l : List Nat} (h : ∀ c ∈ l, c < 200) : PyData.strOk (nmS l) = true := by
  unfold PyData.strOk nmS
  rw [Array.all_eq_true]
  intro i hi
  have := h l[i] (List.getElem_mem (by simpa using hi))
  simp only [List.getElem_toArray]
  exact decide_eq_true (by omega)
theorem strange_ok (b : Int × Int × Int) (hN : Nms ns) (h1 : 1 ≤ ns.length) : ∃ o b', F_law_strange [.own (bg b), .v (.lst (ns.map D.str))] = .ok o [.own (bg b'), .v (.lst (ns.map D.str))] ∧ OddN ns o := by
  obtain ⟨lf, ef, f1, f2, f3, _, _⟩ := hN.2 ns[0] (List.getElem_mem (by omega))
  obtain ⟨ll, el, l1, l2, l3, _, _⟩ := hN.2 ns[ns.length - 1] (List.getElem_mem (by omega))
  have fp : 1 ≤ lf.length := List.length_pos_iff.mpr f1
  have lp : 1 ≤ ll.length := List.length_pos_iff.mpr l1
  have ox : Str.ofString "x" = nmS [120] := by decide +kernel
  have oA : Str.ofString "A" = nmS [65] := by decide +kernel
  have oe : Str.ofString "" = nmS [] := by decide +kernel
  obtain ⟨o, b', e, ho⟩ := of_ok b (ds := [.str (nmS (120 :: (lf ++ (ll ++ [120])))), .str (nmS []), .non, .int 0, .bl true, .tup [.str (nmS lf)], .lst [.str (nmS lf)], .str (nmS (lf ++ [65]))]) (by simp) (by simp)
  have gd : ∀ {l : List Nat}, (∀ c ∈ l, c < 200) → (nmS l ∈ ns → False) → l.length ≤ 100 → OddN ns (.str (nmS l)) := fun {l} h hn hl => odd_str hN.2 (asc_ok h) (by rw [nmS_len]; exact hl) hn
  have gn : ∀ {l : List Nat}, nmS l ∈ ns → l ≠ [] ∧ Ltr l ∧ (l.length ≤ 3 ∨ l.getLast? = some 113) := fun {l} h => by
    obtain ⟨l', e, q1, _, q3, _, q5⟩ := hN.2 _ h
    have := nmS_inj e
    subst this
    exact ⟨q1, q3, q5⟩
  refine ⟨o, b', ?_, ?_⟩
  · have a0 : L2.atI (ns.map D.str) 0 = some (.str (nmS lf)) := by
      have := atI_nat (xs := ns.map D.str) (i := 0) (a := .str (nmS lf)) (by rw [List.getElem?_map, List.getElem?_eq_getElem (by omega), ef]; rfl)
      exact this
    have al : L2.atI (ns.map D.str) (-1) = some (.str (nmS ll)) := by
      unfold L2.atI
      have ix : L2.ixN (ns.map D.str).length (-1) = some (ns.length - 1) := by
        unfold L2.ixN
        rw [List.length_map]
        simp
        omega
      first
        | (rw [ix]; simp only [Option.bind_some]; rw [List.getElem?_map, List.getElem?_eq_getElem (by omega), el]; rfl)
        | (simp [ix, List.getElem?_map, List.getElem?_eq_getElem (show ns.length - 1 < ns.length by omega), el])
    have ad : ∀ (x y : List Nat), x.length + y.length ≤ 100 → addS (.str (nmS x)) (.str (nmS y)) = some (.str (nmS (x ++ y))) := fun x y h => by
      show (if (nmS x).length + (nmS y).length ≤ sizeLine then some (D.str (nmS x ++ nmS y)) else none) = _
      rw [nmS_app, if_pos]
      rw [nmS_len, nmS_len]
      exact z_le (by omega)
    have d1 := ad [120] lf (by simp; omega)
    have d2 := ad ([120] ++ lf) ll (by simp; omega)
    have d3 := ad ([120] ++ lf ++ ll) [120] (by simp; omega)
    have d4 := ad lf [65] (by simp; omega)
    rw [show [120] ++ lf ++ ll ++ [120] = 120 :: (lf ++ (ll ++ [120])) by simp] at d3
    have z1 := z_le (n := 1) (by decide)
    have z8 := z_le (n := 8) (by decide)
    rw [u_law_strange]
    clear ad ho gd gn
    generalize nmS ([120] ++ lf ++ ll) = A2 at *
    generalize nmS ([120] ++ lf) = A1 at *
    generalize nmS (120 :: (lf ++ (ll ++ [120]))) = A3 at *
    generalize ns.map D.str = T at *
    simp [ox, oA, oe, a0, al, d1, d2, d3, d4, z1, z8, e]
  · simp only [List.mem_cons, List.not_mem_nil, or_false] at ho
    have so0 : ∀ {l : List Nat}, Ltr l → ∀ c ∈ l, c < 200 := fun h c hc => by have := h c hc; omega
    have ok0 := f3.ok
    have len0 : (nmS lf).length ≤ 100 := by rw [nmS_len]; omega
    rcases ho with rfl | rfl | rfl | rfl | rfl | rfl | rfl | rfl
    · refine gd (fun c hc => ?_) (fun h => ?_) (by simp; omega)
      · simp only [List.mem_cons, List.mem_append, List.not_mem_nil, or_false] at hc
        rcases hc with rfl | hc | hc | rfl
        · decide
        · exact so0 f3 c hc
        · exact so0 l3 c hc
        · decide
      · obtain ⟨_, _, q⟩ := gn h
        rcases q with q | q
        · simp at q; omega
        · rw [show 120 :: (lf ++ (ll ++ [120])) = (120 :: (lf ++ ll)) ++ [120] by simp, List.getLast?_append] at q
          simp at q
    · exact gd (fun c hc => nomatch hc) (fun h => (gn h).1 rfl) (by simp)
    · exact odd_other hN.2 rfl (by unfold SeqAt.shaped; simp [PyData.canLay0, PyData.depth]) (fun s => by simp [PyData.eqv]) (by simp [PyData.showable]) (by simp [PyData.hasDict]) (by simp [PyData.depth]) (by decide +kernel)
    · obtain ⟨h1, h2, h3, h4⟩ := pk_int (a := 0) (by decide)
      exact odd_other hN.2 rfl (shaped_int 0) (fun s => by simp [PyData.eqv]) h1 h2 h3 h4
    · exact odd_other hN.2 rfl (by unfold SeqAt.shaped; simp [PyData.canLay0, PyData.depth]) (fun s => by simp [PyData.eqv]) (by simp [PyData.showable]) (by simp [PyData.hasDict]) (by simp [PyData.depth]) (by decide +kernel)
    · obtain ⟨h1, h2, h3, h4⟩ := pk_tup ok0 len0
      exact odd_other hN.2 rfl (by have := lay_strs [nmS lf] (by simp [ok0]); unfold SeqAt.shaped; simp [PyData.canLay0, PyData.depth, PyData.depthAll] at *; exact this) (fun s => by simp [PyData.eqv]) h1 h2 h3 h4
    · obtain ⟨h1, h2, h3, h4⟩ := pk_lst ok0 len0
      exact odd_other hN.2 rfl (shaped_strs (ns := [nmS lf]) (by simp [ok0])) (fun s => by simp [PyData.eqv]) h1 h2 h3 h4
    · refine gd (fun c hc => ?_) (fun h => ?_) (by simp; omega)
      · rcases List.mem_append.mp hc with hc | hc
        · exact so0 f3 c hc
        · rw [List.mem_singleton] at hc; omega
      · have := (gn h).2.1 65 (by simp)
        omega
end Lw
set_option linter.all false
set_option Elab.async false
set_option maxRecDepth 100000
set_option maxHeartbeats 8000000
set_option exponentiation.threshold 5000
namespace Lw
open PySem Ue
variable {ns so : List Str}
theorem check_no {o : D} (hg : ∀ n ∈ ns, Good n) (ho : inA o (.tup (ns.map D.str)) = some false) (post : List D) : ∀ (pre : List Str), (∀ n ∈ pre, n ∈ ns) → ∀ (x1 x2 : Option EV), ∃ E, forM (tgN 2) L_check_names_0 (pre.map D.str ++ o :: post) [some (.v (mkD ns)), x1, x2] = .exc 2 [o] E
  | [], _, x1, x2 => by
    have st : L_check_names_0 [some (.v (mkD ns)), x1, some (.v o)] = .exc 2 [o] [some (.v (mkD ns)), x1, some (.v o)] := by
      unfold mkD mkF
      generalize ns.map D.str = T at *
      simp [L_check_names_0, ho]
    refine ⟨[some (.v (mkD ns)), x1, some (.v o)], ?_⟩
    rw [List.map_nil, List.nil_append, forM_c]
    show loopS (L_check_names_0 [some (.v (mkD ns)), x1, some (.v o)]) _ = _
    rw [st]; rfl
  | n :: pre, h, x1, x2 => by
    obtain ⟨E, e⟩ := check_no hg ho post pre (fun m hm => h m (List.mem_cons_of_mem _ hm)) x1 (some (.v (.str n)))
    refine ⟨E, ?_⟩
    have hn := h n (List.mem_cons_self ..)
    have q := inA_strsT (hg n hn).ok (goods_ok hg)
    rw [decide_eq_true hn] at q
    have st : L_check_names_0 [some (.v (mkD ns)), x1, some (.v (.str n))] = .nx [some (.v (mkD ns)), x1, some (.v (.str n))] := by
      unfold mkD mkF at *
      generalize ns.map D.str = T at *
      simp [L_check_names_0, q]
    rw [List.map_cons, List.cons_append, forM_c]
    show loopS (L_check_names_0 [some (.v (mkD ns)), x1, some (.v (.str n))]) _ = _
    rw [st, loopS_nx, e]
theorem check_bad {o : D} (hg : ∀ n ∈ ns, Good n) (ho : inA o (.tup (ns.map D.str)) = some false) {pre : List Str} (hp : ∀ n ∈ pre, n ∈ ns) (post : List D) : F_check_names [.v (mkD ns), .v (.lst (pre.map D.str ++ o :: post))] = .exc 2 [o] [.v (mkD ns), .v (.lst (pre.map D.str ++ o :: post))] := by
  obtain ⟨E, e⟩ := check_no hg ho post pre hp (some (.v (.lst (pre.map D.str ++ o :: post)))) none
  rw [u_check_names]
  generalize pre.map D.str ++ o :: post = T2 at *
  generalize mkD ns = MK at *
  simp [e]
theorem wrong_0 {o : D} {S : Str} (hr : reprD [.lst [.str (Str.ofString "mark"), o]] = some (.str S)) {names x : D} {w : Int} (ht : F_law_told [.v (.int w), .v (mkD ns), .v x, .v names] = .ok (.lst [.str (Str.ofString "mark"), o]) [.v (.int w), .v (mkD ns), .v x, .v names]) {x0 x1 x2 x4 x6 x8 x9 : Option EV} :
    L_law_wrong_0 [x0, x1, x2, some (.v (mkD ns)), x4, some (.v o), x6, some (.v names), x8, x9, some (.v (.int w)), some (.v x)] = .nx [x0, x1, x2, some (.v (mkD ns)), x4, some (.v o), x6, some (.v names), x8, x9, some (.v (.int w)), some (.v x)] := by
  have z := z_le (n := 2) (by decide)
  generalize mkD ns = MK at *
  simp [L_law_wrong_0, ht, hr, z]
theorem not_whole {x : Int} {N : Nat} (h : x < 0 ∨ (N : Int) ≤ x) : F_is_whole [.v (.int x), .v (.int 0), .v (.int ((N : Int) - 1))] = .ok (.bl false) [.v (.int x), .v (.int 0), .v (.int ((N : Int) - 1))] := by
  rw [whole_i]
  rcases h with h | h
  · rw [decide_eq_false (by omega : ¬ (0 : Int) ≤ x), Bool.false_and]
  · rw [decide_eq_false (by omega : ¬ x ≤ (N : Int) - 1), Bool.and_false]
theorem log2_lt {a : Nat} {k : Nat} (h : a < 2 ^ k) (hk : 0 < k) : a.log2 < k := by
  rcases Nat.eq_zero_or_pos a with rfl | ha
  · exact hk
  · exact (Nat.log2_lt (by omega)).mpr h
theorem small_log {a : Int} (h : a.natAbs < 2 ^ 100) : a.natAbs.log2 < 1900 := Nat.lt_of_lt_of_le (log2_lt h (by decide)) (by decide)
structure OddD (N : Nat) (d : D) : Prop where
  no : F_is_whole [.v d, .v (.int 0), .v (.int ((N : Int) - 1))] = .ok (.bl false) [.v d, .v (.int 0), .v (.int ((N : Int) - 1))]
  rp : ∃ S, reprD [.lst [.str (Str.ofString "day"), d]] = some (.str S)
theorem oddD_int {N : Nat} {x : Int} (h : x < 0 ∨ (N : Int) ≤ x) (hb : x.natAbs < 2 ^ 100) : OddD N (.int x) := by
  obtain ⟨h1, h2, h3, h4⟩ := pk_int (small_log hb)
  exact ⟨not_whole h, repr_two day_str.1 day_str.2 rfl h1 h2 h3 h4⟩
theorem bad_ok (b : Int × Int × Int) {N : Nat} (hN : N ≤ 100) {t : Nat} (ht : t < 10 ^ 20) : ∃ o b', F_law_of [.own (bg b), .v (.lst [.int (-1), .int (N : Int), .int ((N : Int) + (t : Int)), .non, .str (Str.ofString "0"), .bl true, .tup [.int 0], .lst [.int 0]])] = .ok o [.own (bg b'), .v (.lst [.int (-1), .int (N : Int), .int ((N : Int) + (t : Int)), .non, .str (Str.ofString "0"), .bl true, .tup [.int 0], .lst [.int 0]])] ∧ OddD N o := by
  obtain ⟨o, b', e, ho⟩ := of_ok b (ds := [.int (-1), .int (N : Int), .int ((N : Int) + (t : Int)), .non, .str (Str.ofString "0"), .bl true, .tup [.int 0], .lst [.int 0]]) (by simp) (by simp)
  refine ⟨o, b', e, ?_⟩
  simp only [List.mem_cons, List.not_mem_nil, or_false] at ho
  have ht : t < 100000000000000000000 := ht
  rcases ho with rfl | rfl | rfl | rfl | rfl | rfl | rfl | rfl
  · exact oddD_int (.inl (by decide)) (by decide)
  · exact oddD_int (.inr (by omega)) (Nat.lt_of_lt_of_le (by omega : _ < 1000) (by decide))
  · exact oddD_int (.inr (by omega)) (Nat.lt_of_lt_of_le (by omega : _ < 100000000000000001000) (by decide))
  · exact ⟨by simp [u_is_whole], repr_two day_str.1 day_str.2 rfl (by simp [PyData.showable]) (by simp [PyData.hasDict]) (by simp [PyData.depth]) (by decide +kernel)⟩
  · obtain ⟨h1, h2, h3, h4⟩ := pk_str (s := Str.ofString "0") (by decide +kernel) (by decide +kernel)
    exact ⟨by simp [u_is_whole], repr_two day_str.1 day_str.2 rfl h1 h2 h3 h4⟩
  · exact ⟨by simp [u_is_whole], repr_two day_str.1 day_str.2 rfl (by simp [PyData.showable]) (by simp [PyData.hasDict]) (by simp [PyData.depth]) (by decide +kernel)⟩
  · exact ⟨by simp [u_is_whole], repr_two day_str.1 day_str.2 (p := .tuple [.int 0]) rfl (by simp [PyData.showable, PyData.showableAll]) (by simp [PyData.hasDict, PyData.hasDictAll]) (by simp [PyData.depth, PyData.depthAll]) (by decide +kernel)⟩
  · exact ⟨by simp [u_is_whole], repr_two day_str.1 day_str.2 (p := .list [.int 0]) rfl (by simp [PyData.showable, PyData.showableAll]) (by simp [PyData.hasDict, PyData.hasDictAll]) (by simp [PyData.depth, PyData.depthAll]) (by decide +kernel)⟩
end Lw
set_option linter.all false
set_option Elab.async false
set_option maxRecDepth 100000
set_option maxHeartbeats 8000000
set_option exponentiation.threshold 5000
namespace Lw
open PySem Ue
variable {ns so : List Str}
theorem eq_days : eqD (.lst [.str (Str.ofString "days")]) (.lst [.str (Str.ofString "days")]) = some true := by
  have := eqD_strs (a := [Str.ofString "days"]) (b := [Str.ofString "days"]) (by decide +kernel) (by decide +kernel)
  rw [decide_eq_true rfl] at this
  exact this
theorem rep_zeros {k : Nat} (hk : k ≤ 100) : repL (.lst [.int 0]) (.int (k : Int)) = some (.lst ((List.replicate k (0 : Int)).map D.int)) := by
  have fl : ∀ k : Nat, (List.replicate k [D.int 0]).flatten = (List.replicate k (0 : Int)).map D.int := by
    intro k
    induction k with
    | zero => rfl
    | succ k ih => rw [List.replicate_succ, List.flatten_cons, ih, List.replicate_succ]; rfl
  rw [repL_s, if_pos ⟨by omega, by omega, z_le (by rw [Int.toNat_natCast]; simp; omega)⟩, Int.toNat_natCast, fl]
theorem law_wrong_ok (hN : Nms ns) (h1 : 1 ≤ ns.length) (h4 : ns.length ≤ 4) (hn : so.Nodup) (hs : ∀ n ∈ so, n ∈ ns) (hl : so.length ≤ 4) (b : Int × Int × Int) : ∃ b', F_law_wrong [.own (bg b), .v (.lst (ns.map D.str)), .v (.lst (so.map D.str))] = .ok (.bl true) [.own (bg b'), .v (.lst (ns.map D.str)), .v (.lst (so.map D.str))] := by
  have p4 := pow16 h4
  have p4' := pow16 hl
  have p2 : 2 ≤ 2 ^ ns.length := Nat.pow_le_pow_right (n := 2) (i := 1) (by decide) h1
  obtain ⟨o, b1, e1, od⟩ := strange_ok b hN h1
  obtain ⟨a, b2, e2, ha⟩ := take_ok b1 (n := so.length + 1) (by omega) (by omega)
  obtain ⟨t, b3, e3, ht0, ht⟩ := take_int (b := b2) (n := 100000000000000000000) (by decide) (by unfold Mid; decide)
  obtain ⟨t, rfl⟩ := Int.eq_ofNat_of_zero_le ht0
  have ht' : t < 10 ^ 20 := by
    have : t < 100000000000000000000 := by omega
    exact this
  obtain ⟨y, b4, e4, oy⟩ := bad_ok b3 (N := 2 ^ ns.length) (by omega) (t := t) ht'
  obtain ⟨c, b5, e5, hc⟩ := take_ok b4 (n := 2) (by decide) (by decide)
  have e5 : F_law_take [.own (bg b4), .v (.int 2)] = .ok (.int (c : Int)) [.own (bg b5), .v (.int 2)] := e5
  have mk := marks_ok hN h1 h4 (d := .lst (ns.map D.str)) (.inl rfl)
  have lm : (mkF ns).length = 4 := rfl
  obtain ⟨Sy, ry⟩ := oy.rp
  obtain ⟨So, ro⟩ := od.rp
  -- what is told
  have t0 := told_day_no (look_day_no hN.2 hs (S := .lst (so.map D.str)) (.inl rfl) oy.no)
  have ck := check_bad hN.2 od.no (pre := so.take a) (fun n hn => hs n (List.mem_of_mem_take hn)) ((so.drop a).map D.str)
  have tm : ∀ (w : Int), w = 0 ∨ w = 1 ∨ w = 2 → ∀ x, F_law_told [.v (.int w), .v (mkD ns), .v x, .v (.lst ((so.take a).map D.str ++ o :: (so.drop a).map D.str))] = .ok (.lst [.str (Str.ofString "mark"), o]) [.v (.int w), .v (mkD ns), .v x, .v (.lst ((so.take a).map D.str ++ o :: (so.drop a).map D.str))] := fun w hw x => told_mark hw ck
  have w0 := fun (w : Int) (hw : w = 0 ∨ w = 1 ∨ w = 2) (x : D) => @wrong_0 ns o So ro (.lst ((so.take a).map D.str ++ o :: (so.drop a).map D.str)) x w (tm w hw x)
  have w00 := w0 0 (.inl rfl)
  have w01 := w0 1 (.inr (.inl rfl))
  have w02 := w0 2 (.inr (.inr rfl))
  -- the short list
  obtain ⟨k, hk, hk2, hks⟩ : ∃ k : Nat, k ≠ 2 ^ ns.length ∧ k ≤ 100 ∧ (((c : Int) = 0 ∧ (k : Int) = ((2 ^ ns.length : Nat) : Int) - 1) ∨ (¬ (c : Int) = 0 ∧ (k : Int) = 2 * ((2 ^ ns.length : Nat) : Int))) := by
    by_cases h0 : (c : Int) = 0
    · exact ⟨2 ^ ns.length - 1, by omega, by omega, .inl ⟨h0, by omega⟩⟩
    · exact ⟨2 * 2 ^ ns.length, by omega, by omega, .inr ⟨h0, by omega⟩⟩
  have t1 := told_look_len (look_of_len hN.2 hs (L := List.replicate k 0) (by simp; omega) (by simp; exact hk) (seqI_lst _) (S := .lst (so.map D.str)) (.inl rfl))
  have t2 := told_spread_len (spread_len hN.2 hs (by omega) (G := List.replicate (2 ^ so.length + 1) 0) (by simp; omega) (by simp) (seqI_lst _) (S := .lst (so.map D.str)) (.inl rfl))
  have rk := rep_zeros hk2
  have rd := rep_zeros (k := 2 ^ ns.length) (by omega)
  have rs := rep_zeros (k := 2 ^ so.length + 1) (by omega)
  have sh := shl1 (i := ns.length) (by omega)
  have sh2 := shl1 (i := so.length) (by omega)
  have ec : (1 : Int) * 2 ^ ns.length = ((2 ^ ns.length : Nat) : Int) := by simp
  have ec2 : (1 : Int) * 2 ^ so.length = ((2 ^ so.length : Nat) : Int) := by simp
  have lT : lenD [.lst (ns.map D.str)] = some (.int (ns.length : Int)) := by rw [lenD_l, List.length_map]
  have lT2 : lenD [.lst (so.map D.str)] = some (.int (so.length : Int)) := by rw [lenD_l, List.length_map]
  have s1 : shlI (.int 1) (.int (ns.length : Int)) = some (.int ((2 ^ ns.length : Nat) : Int)) := by
    show (if shlOk 1 (ns.length : Int) then some (D.int (1 * 2 ^ ((ns.length : Int)).toNat)) else none) = _
    rw [sh, if_pos rfl, Int.toNat_natCast, ec]
  have s2 : shlI (.int 1) (.int (so.length : Int)) = some (.int ((2 ^ so.length : Nat) : Int)) := by
    show (if shlOk 1 (so.length : Int) then some (D.int (1 * 2 ^ ((so.length : Int)).toNat)) else none) = _
    rw [sh2, if_pos rfl, Int.toNat_natCast, ec2]
  have mo : mulOk 2 ((2 ^ ns.length : Nat) : Int) = true := mulOk_l (by decide)
  have cut1 : cutD (so.map D.str) none (some (a : Int)) = (so.take a).map D.str := by rw [cutD_to, List.map_take]
  have cut2 : cutD (so.map D.str) (some (a : Int)) none = (so.drop a).map D.str := by rw [cutD_from (by rw [List.length_map]; omega), List.map_drop]
  have zc1 : ((so.take a).map D.str).length + 1 ≤ sizeLine := z_le (by simp; omega)
  have zc2 : ((so.take a).map D.str ++ [o]).length + ((so.drop a).map D.str).length ≤ sizeLine := z_le (by simp; omega)
  have ej : (so.take a).map D.str ++ [o] ++ (so.drop a).map D.str = (so.take a).map D.str ++ o :: (so.drop a).map D.str := by simp
  have p20 : powOk 10 20 = true := by decide
  have z1 := z_le (n := 1) (by decide)
  have z2 := z_le (n := 2) (by decide)
  have z5 := z_le (n := 5) (by decide)
  have z8 := z_le (n := 8) (by decide)
  have ea : ((so.length + 1 : Nat) : Int) = (so.length : Int) + 1 := by omega
  rw [ea] at e2
  have es : ((2 ^ so.length + 1 : Nat) : Int) = ((2 ^ so.length : Nat) : Int) + 1 := by omega
  rw [es] at rs
  have qd := eq_days
  have cat1 : catL (.lst ((so.take a).map D.str)) (.lst [o]) = some (.lst ((so.take a).map D.str ++ [o])) := if_pos zc1
  have cat2 : catL (.lst ((so.take a).map D.str ++ [o])) (.lst ((so.drop a).map D.str)) = some (.lst ((so.take a).map D.str ++ o :: (so.drop a).map D.str)) := by
    rw [← ej]; exact if_pos zc2
  refine ⟨b5, ?_⟩
  rw [u_law_wrong]
  clear ec ec2 ej zc1 zc2 es ea
  generalize (List.replicate k (0 : Int)).map D.int = ZK at *
  generalize (List.replicate (2 ^ ns.length) (0 : Int)).map D.int = ZD at *
  generalize (List.replicate (2 ^ so.length + 1) (0 : Int)).map D.int = ZS at *
  generalize hNN : 2 ^ ns.length = NN at *
  generalize hMM : 2 ^ so.length = MM at *
  generalize (NN : Int) = DY at *
  generalize (MM : Int) = DZ at *
  generalize (so.take a).map D.str ++ o :: (so.drop a).map D.str = NM at *
  generalize (so.take a).map D.str ++ [o] = TO at *
  generalize (so.take a).map D.str = TA at *
  generalize (so.drop a).map D.str = TD at *
  generalize ns.map D.str = T at *
  generalize so.map D.str = T2 at *
  unfold mkD at *
  generalize mkF ns = MK at *
  rcases hks with ⟨h0, hk'⟩ | ⟨h0, hk'⟩
  · rw [hk'] at rk
    have h0' : c = 0 := by omega
    simp [-lenD_l, -repL_s, lT, lT2, s1, s2, mk, lm, e1, e2, cut1, cut2, z1, cat1, cat2, p20, e3, z8, e4, e5, h0', rk, rd, rs, t0, ry, z2, z5, forM_c, w00, w01, w02, t1, t2, qd]
  · rw [hk'] at rk
    have h0' : ¬ c = 0 := by omega
    simp [-lenD_l, -repL_s, lT, lT2, s1, s2, mk, lm, e1, e2, cut1, cut2, z1, cat1, cat2, p20, e3, z8, e4, e5, h0', mo, rk, rd, rs, t0, ry, z2, z5, forM_c, w00, w01, w02, t1, t2, qd]
end Lw
set_option linter.all false
set_option Elab.async false
set_option maxRecDepth 100000
set_option maxHeartbeats 8000000
set_option exponentiation.threshold 5000
namespace Lw
open PySem Ue
variable {ns so : List Str}
theorem check_first (hg : ∀ n ∈ ns, Good n) : ∀ (more : List Str), (∀ n ∈ more, Good n) → ∀ (x1 x2 : Option EV), ∃ E, forM (tgN 2) L_check_names_0 (more.map D.str) [some (.v (mkD ns)), x1, x2] = (match (more.filter fun m => !decide (m ∈ ns)) with | [] => .nx E | m :: _ => .exc 2 [.str m] E) ∧ E[0]? = some (some (.v (mkD ns))) ∧ E[1]? = some x1
  | [], _, x1, x2 => ⟨[some (.v (mkD ns)), x1, x2], rfl, rfl, rfl⟩
  | n :: more, h, x1, x2 => by
    have q := inA_strsT (h n List.mem_cons_self).ok (goods_ok hg)
    by_cases hn : n ∈ ns
    · obtain ⟨E, e, e0, e1⟩ := check_first hg more (fun m hm => h m (List.mem_cons_of_mem _ hm)) x1 (some (.v (.str n)))
      refine ⟨E, ?_, e0, e1⟩
      rw [decide_eq_true hn] at q
      have st : L_check_names_0 [some (.v (mkD ns)), x1, some (.v (.str n))] = .nx [some (.v (mkD ns)), x1, some (.v (.str n))] := by
        unfold mkD mkF at *
        generalize ns.map D.str = T at *
        simp [L_check_names_0, q]
      rw [List.map_cons, forM_c, List.filter_cons_of_neg (by simp [hn])]
      show loopS (L_check_names_0 [some (.v (mkD ns)), x1, some (.v (.str n))]) _ = _
      rw [st, loopS_nx, e]
    · rw [decide_eq_false hn] at q
      have st : L_check_names_0 [some (.v (mkD ns)), x1, some (.v (.str n))] = .exc 2 [.str n] [some (.v (mkD ns)), x1, some (.v (.str n))] := by
        unfold mkD mkF at *
        generalize ns.map D.str = T at *
        simp [L_check_names_0, q]
      refine ⟨[some (.v (mkD ns)), x1, some (.v (.str n))], ?_, rfl, rfl⟩
      rw [List.map_cons, forM_c, List.filter_cons_of_pos (by simp [hn])]
      show loopS (L_check_names_0 [some (.v (mkD ns)), x1, some (.v (.str n))]) _ = _
      rw [st]; rfl
theorem lacking_ok (hg : ∀ n ∈ so, Good n) (hn : ∀ n ∈ ns, Good n) {m : Str} {r : List Str} (hf : (ns.filter fun m => !decide (m ∈ so)) = m :: r) (S : Int) : F_widened_days [.v (mkD ns), .v (.int S), .v (mkD so)] = .exc 2 [.str m] [.v (mkD ns), .v (.int S), .v (mkD so)] := by
  obtain ⟨E, e, e0, e1⟩ := check_first hg ns hn (some (.v (.tup (ns.map D.str)))) none
  rw [hf] at e
  have c : F_check_names [.v (mkD so), .v (.tup (ns.map D.str))] = .exc 2 [.str m] [.v (mkD so), .v (.tup (ns.map D.str))] := by
    rw [u_check_names]
    generalize ns.map D.str = T at *
    generalize mkD so = MK at *
    simp [e, e0, e1]
  have hF : (mkF ns)[0]? = some (.tpx (ns.map D.str)) := rfl
  rw [u_widened_days]
  generalize ns.map D.str = T at *
  unfold mkD at *
  generalize mkF ns = G at *
  generalize mkF so = G2 at *
  simp [c, hF]
theorem lack_comp (hN : Nms ns) (hM : Nms so) {E : Ue.Env} (hlen : E.length = 12) (h11 : E[11]? = some none) (h1 : E[1]? = some (some (.v (.lst (ns.map D.str))))) (h2 : E[2]? = some (some (.v (.lst (so.map D.str))))) (hl : ns.length ≤ 20) : compM [11] (asL (varM 1)) (tgN 11) (cmpM notInA (varM 11) (varM 2)) (varM 11) E = .ok (.lst ((ns.filter fun m => !decide (m ∈ so)).map D.str)) E := by
  have cc := compL_mapF (g := tgN 11) (tt := cmpM notInA (varM 11) (varM 2)) (te := varM 11) (vs := [11]) (env := E) D.str D.str (fun m => !decide (m ∈ so)) (by simp [h11]) ns (by
    intro m hm
    have e1 : (E.set 11 (some (.v (.str m))))[11]? = some (some (.v (.str m))) := by rw [List.getElem?_set_self (by omega)]
    have e2 : (E.set 11 (some (.v (.str m))))[2]? = some (some (.v (.lst (so.map D.str)))) := by rw [List.getElem?_set_ne (by omega)]; exact h2
    have rs : restE E (E.set 11 (some (.v (.str m)))) [11] = E := by
      rw [rest_one (by rw [List.length_set]), h11, List.set_set]
      refine List.ext_getElem? fun j => ?_
      by_cases hj : 11 = j
      · subst hj; rw [List.getElem?_set_self (by omega)]; exact h11.symm
      · rw [List.getElem?_set_ne hj]
    have q := inA_strs (hN.2 m hm).ok (goods_ok hM.2)
    refine ⟨E.set 11 (some (.v (.str m))), E.set 11 (some (.v (.str m))), by rw [wipe_c, wipe_n, tgN_s, List.set_set], ?_, fun _ => rs, fun _ => ⟨_, by rw [varM_s, e1], rs⟩⟩
    generalize E.set 11 (some (.v (.str m))) = E2 at *
    generalize so.map D.str = T2 at *
    simp [e1, e2, q])
  have a : asL (varM 1) E = .ok (ns.map D.str) E := by
    generalize ns.map D.str = T at *
    simp [h1]
  have z : (ns.map D.str).length ≤ sizeLine := z_le (by rw [List.length_map]; omega)
  rw [compM_s, a, bind_ok, if_pos z, cc]; rfl
theorem lk2 : xt_DaysError.lookup 2 = some true := rfl
theorem law_sets_ok (hN : Nms ns) (h1 : 1 ≤ ns.length) (h4 : ns.length ≤ 4) (hM : Nms so) (hs : ∀ n ∈ so, n ∈ ns) (hl : so.length ≤ 4) (b : Int × Int × Int) : ∃ b', F_law_sets [.own (bg b), .v (.lst (ns.map D.str)), .v (.lst (so.map D.str))] = .ok (.bl true) [.own (bg b'), .v (.lst (ns.map D.str)), .v (.lst (so.map D.str))] := by
  by_cases h0 : so = []
  · subst h0
    refine ⟨b, ?_⟩
    have z0 : (0 : Nat) ≤ sizeLine := Nat.zero_le _
    have en : eqNil (.lst []) (.lst []) = some true := rfl
    rw [u_law_sets]
    generalize ns.map D.str = T at *
    simp [en]
  have so1 : 1 ≤ so.length := List.length_pos_iff.mpr h0
  have p4 := pow16 hl
  have p16' : 2 ^ (2 ^ so.length) ≤ 65536 := Nat.pow_le_pow_right (n := 2) (by decide) p4
  obtain ⟨S, b1, e1, hS⟩ := take_ok b (n := 2 ^ (2 ^ so.length)) (Nat.two_pow_pos _) (by omega)
  have mk1 := marks_ok hM so1 hl (d := .lst (so.map D.str)) (.inl rfl)
  have mk2 := marks_ok hN h1 h4 (d := .lst (ns.map D.str)) (.inl rfl)
  have lm1 : (mkF so).length = 4 := rfl
  have lm2 : (mkF ns).length = 4 := rfl
  have wd := widened_days_ok hN.2 hs (by omega) h4 S
  have lw := law_wide_ok (ns := so) (more := ns) hs (by omega) (by omega) S
  have en : eqNil (.lst (so.map D.str)) (.lst []) = some false := by
    cases so with
    | nil => exact absurd rfl h0
    | cons => rfl
  have sh := shl1 (i := so.length) (by omega)
  have sh2 := shl1 (i := 2 ^ so.length) (by omega)
  have lT2 : lenD [.lst (so.map D.str)] = some (.int (so.length : Int)) := by rw [lenD_l, List.length_map]
  have s2 : shlI (.int 1) (.int (so.length : Int)) = some (.int ((2 ^ so.length : Nat) : Int)) := by
    show (if shlOk 1 (so.length : Int) then some (D.int (1 * 2 ^ ((so.length : Int)).toNat)) else none) = _
    rw [sh, if_pos rfl, Int.toNat_natCast]; simp
  have s3 : shlI (.int 1) (.int ((2 ^ so.length : Nat) : Int)) = some (.int ((2 ^ (2 ^ so.length) : Nat) : Int)) := by
    show (if shlOk 1 ((2 ^ so.length : Nat) : Int) then some (D.int (1 * 2 ^ (((2 ^ so.length : Nat) : Int)).toNat)) else none) = _
    rw [sh2, if_pos rfl, Int.toNat_natCast]
    rw [show (1 : Int) * 2 ^ (2 ^ so.length) = ((2 ^ (2 ^ so.length) : Nat) : Int) by rw [Int.one_mul]; exact (Int.natCast_pow 2 _).symm]
  have lc : ∀ x0 x3 x4 x5 x6 x7 x8 x9 x10, compM [11] (asL (varM 1)) (tgN 11) (cmpM notInA (varM 11) (varM 2)) (varM 11) [x0, some (.v (.lst (ns.map D.str))), some (.v (.lst (so.map D.str))), x3, x4, x5, x6, x7, x8, x9, x10, none] = .ok (.lst ((ns.filter fun m => !decide (m ∈ so)).map D.str)) [x0, some (.v (.lst (ns.map D.str))), some (.v (.lst (so.map D.str))), x3, x4, x5, x6, x7, x8, x9, x10, none] := fun x0 x3 x4 x5 x6 x7 x8 x9 x10 => lack_comp hN hM rfl rfl rfl rfl (by omega)
  refine ⟨b1, ?_⟩
  cases hf : (ns.filter fun m => !decide (m ∈ so)) with
  | nil =>
    have sub : ∀ n ∈ ns, n ∈ so := fun n hn => by
      by_cases c : n ∈ so
      · exact c
      · have : n ∈ (ns.filter fun m => !decide (m ∈ so)) := List.mem_filter.mpr ⟨hn, by simp [c]⟩
        rw [hf] at this; cases this
    have wb := widened_days_ok hM.2 sub (by omega) hl 1
    rw [hf] at lc
    have n1 : neNil (.lst []) (.lst []) = some false := rfl
    have e0 : eqD .non .non = some true := rfl
    rw [u_law_sets]
    simp only [List.map_nil] at lc
    unfold mkD at *
    generalize (wideN so S ns : Int) = W1 at *
    generalize (wideN ns 1 so : Int) = W2 at *
    generalize ((2 ^ (2 ^ so.length) : Nat) : Int) = DZ2 at *
    generalize ((2 ^ so.length : Nat) : Int) = DZ at *
    generalize ns.map D.str = T at *
    generalize so.map D.str = T2 at *
    generalize mkF ns = G at *
    generalize mkF so = G2 at *
    have wb' : F_widened_days [.v (.obj 0 G), .v (.int 1), .v (.obj 0 G2)] = .ok (.int W2) [.v (.obj 0 G), .v (.int 1), .v (.obj 0 G2)] := wb
    simp [-compM_s, -lenD_l, -i2c_s, en, mk1, mk2, lm1, lm2, lT2, s2, s3, e1, wd, lw, lc, wb', n1, e0]
  | cons m r =>
    have lk := lacking_ok hM.2 hN.2 hf 1
    rw [hf] at lc
    have n1 : neNil (.lst ((m :: r).map D.str)) (.lst []) = some true := rfl
    have a0 : L2.atI ((m :: r).map D.str) 0 = some (.str m) := atI_nat (xs := (m :: r).map D.str) (i := 0) (a := .str m) rfl
    have gm : Good m := by
      have : m ∈ (ns.filter fun m => !decide (m ∈ so)) := by rw [hf]; exact List.mem_cons_self
      exact hN.2 m (List.mem_filter.mp this).1
    have e0 : eqD (.str m) (.str m) = some true := by
      have s := shaped_str gm.ok
      show (if SeqAt.shaped (.str m) = true ∧ SeqAt.shaped (.str m) = true then some (PyData.eqv (.str m) (.str m)) else none) = _
      rw [if_pos ⟨s, s⟩]
      simp [PyData.eqv]
    rw [u_law_sets]
    unfold mkD at *
    generalize (wideN so S ns : Int) = W1 at *
    generalize ((2 ^ (2 ^ so.length) : Nat) : Int) = DZ2 at *
    generalize ((2 ^ so.length : Nat) : Int) = DZ at *
    generalize ns.map D.str = T at *
    generalize so.map D.str = T2 at *
    generalize (m :: r).map D.str = T3 at *
    generalize mkF ns = G at *
    generalize mkF so = G2 at *
    simp [-compM_s, -lenD_l, -i2c_s, en, mk1, mk2, lm1, lm2, lT2, s2, s3, e1, wd, lw, lc, lk, caught_NoMark, lk2, n1, a0, e0]
theorem names_loop (n : Nat) (hn : n ≤ 4) (b : Int × Int × Int) (x0 x1 x5 x6 x4 : Option EV) : ∃ tk b' y4, forM (tgN 4) L_law_0 (rngL 0 n) [x0, x1, some (.own (bg b)), some (.own []), x4, x5, x6] = .nx [x0, x1, some (.own (bg b')), some (.own (tk.map D.str)), y4, x5, x6] ∧ Nms tk ∧ tk.length = n := by
  obtain ⟨e2, h, b', tk, y4, rfl, hN, hl⟩ := forM_rng (g := tgN 4) (s := L_law_0) (fun j e => ∃ b' tk y4, e = [x0, x1, some (.own (bg b')), some (.own (tk.map D.str)), y4, x5, x6] ∧ Nms tk ∧ tk.length = j) n
    [x0, x1, some (.own (bg b)), some (.own []), x4, x5, x6]
    (by
      rintro i hi e ⟨b', tk, y4, rfl, hN, hl⟩
      obtain ⟨m, b2, e, hN2⟩ := name_ok b' hN (by omega)
      refine ⟨_, [x0, x1, some (.own (bg b2)), some (.own ((tk ++ [m]).map D.str)), some (.v (.int (i : Int))), x5, x6], rfl, .inl ?_, b2, tk ++ [m], _, rfl, hN2, by simp [hl]⟩
      generalize tk.map D.str = T at *
      generalize (tk ++ [m]).map D.str = T2 at *
      simp [L_law_0, e])
    ⟨b, [], x4, rfl, Nms.nil, rfl⟩
  exact ⟨tk, b', y4, h, hN, hl⟩
theorem law_step {sc : List Int} (hl : sc.length ≤ 63) (k : Nat) {x2 x3 x4 x5 x6 : Option EV} : ∃ y2 y3 y4 y5 y6, L_law_1 [some (.v (.scr sc)), some (.v (.int (k : Int))), x2, x3, x4, x5, x6] = .nx [some (.v (.scr sc)), some (.v (.int (k : Int))), y2, y3, y4, y5, y6] := by
  obtain ⟨b, eb⟩ := bag_ok (ns := sc) (i := k) hl
  obtain ⟨d, b1, e1, hm⟩ := of_ok b (ds := [.int 1, .int 2, .int 2, .int 3, .int 3, .int 4]) (by simp) (by simp)
  obtain ⟨n, rfl, n1, n4⟩ : ∃ n : Nat, d = .int (n : Int) ∧ 1 ≤ n ∧ n ≤ 4 := by
    simp only [List.mem_cons, List.not_mem_nil, or_false] at hm
    rcases hm with rfl | rfl | rfl | rfl | rfl | rfl
    · exact ⟨1, rfl, by omega, by omega⟩
    · exact ⟨2, rfl, by omega, by omega⟩
    · exact ⟨2, rfl, by omega, by omega⟩
    · exact ⟨3, rfl, by omega, by omega⟩
    · exact ⟨3, rfl, by omega, by omega⟩
    · exact ⟨4, rfl, by omega, by omega⟩
  obtain ⟨tk, b2, y4, e2, hN, hlk⟩ := names_loop n n4 b1 (some (.v (.scr sc))) (some (.v (.int (k : Int)))) x5 x6 x4
  obtain ⟨ms, b3, e3, p3⟩ := mixed_names b2 (ns := tk) (by omega)
  have lms : ms.length = n := by rw [p3.length_eq, hlk]
  obtain ⟨a, b4, e4, ha⟩ := take_ok b3 (n := ms.length + 1) (by omega) (by omega)
  have hM : Nms (ms.take a) := (hN.perm p3).take a
  have hs : ∀ m ∈ ms.take a, m ∈ tk := fun m hm => p3.mem_iff.mp (List.mem_of_mem_take hm)
  have hla : (ms.take a).length ≤ 4 := by rw [List.length_take]; omega
  obtain ⟨b5, e5⟩ := law_right_ok hN (by omega) (by omega) hM.1 hs hla b4
  obtain ⟨b6, e6⟩ := law_wrong_ok hN (by omega) (by omega) hM.1 hs hla b5
  obtain ⟨b7, e7⟩ := law_sets_ok hN (by omega) (by omega) hM hs hla b6
  have cut1 : cutD (ms.map D.str) none (some (a : Int)) = (ms.take a).map D.str := by rw [cutD_to, List.map_take]
  have ll : lenD [.lst (ms.map D.str)] = some (.int (ms.length : Int)) := by rw [lenD_l, List.length_map]
  have ea : ((ms.length + 1 : Nat) : Int) = (ms.length : Int) + 1 := by omega
  rw [ea] at e4
  have z6 := z_le (n := 6) (by decide)
  have lo : (-4611686018427387904 : Int) ≤ (n : Int) := by omega
  have hi : (n : Int) < 4611686018427387904 := by omega
  refine ⟨some (.own (bg b7)), some (.v (.lst (tk.map D.str))), y4, some (.v (.lst (ms.map D.str))), some (.v (.lst ((ms.take a).map D.str))), ?_⟩
  generalize (ms.take a).map D.str = TA at *
  generalize ms.map D.str = TM at *
  generalize tk.map D.str = T at *
  simp [-lenD_l, L_law_1, eb, z6, e1, lo, hi, e2, e3, ll, e4, cut1, e5, e6, e7]
theorem law_true (sc : List Int) (hl : sc.length ≤ 63) : ∃ as', F_law [.v (.scr sc)] = .ok (.bl true) as' := by
  obtain ⟨e2, h, y1, y2, y3, y4, y5, y6, rfl⟩ := forM_rng (g := tgN 1) (s := L_law_1) (fun k e => ∃ y1 y2 y3 y4 y5 y6, e = [some (.v (.scr sc)), y1, y2, y3, y4, y5, y6]) 3 [some (.v (.scr sc)), none, none, none, none, none, none]
    (by
      rintro i hi e ⟨y1, y2, y3, y4, y5, y6, rfl⟩
      obtain ⟨z2, z3, z4, z5, z6, st⟩ := law_step hl i (x2 := y2) (x3 := y3) (x4 := y4) (x5 := y5) (x6 := y6)
      exact ⟨_, _, rfl, .inl st, _, _, _, _, _, _, rfl⟩)
    ⟨none, none, none, none, none, none, rfl⟩
  exact ⟨_, by simp [u_law, h]; rfl⟩
end Lw
open PySem PySem.W PySem.Calls PyProof.Rows
theorem PySem.Challenge.cw_usualdays_k70_looks_and_spreads_holds : PySem.Challenge.rw_usualdays_k70_looks_and_spreads.Holds := by
  w_on; o_law
  refine HandSHeadRun.head_imp (r := OpenLaw.row PySem.Challenge.rw_usualdays_k70_looks_and_spreads) (q := view (OpenLaw.row PySem.Challenge.rw_usualdays_k70_looks_and_spreads).prog [51]) (H := Lw.hk) (ob := Lw.ob) (M := 9000) (loose := (["_wall", "DaysError", "BadMarks", "NoMark", "NoDay", "OtherDays", "BadOrder", "is_whole", "LETTERS", "KEPT_WORDS", "MOST_MARKS", "LONGEST_NAME", "name_fault", "Marks", "check_names", "seen_days", "look_day", "look_of", "spread_over", "widened_days", "days_in", "COUNTS", "HIGHEST", "checked_layers", "check_days", "check_same_days", "first_not_kept", "Order", "_law_bag", "_law_take"] : List PySem.Str) ++ (["_law_of", "_law_name", "_law_mixed", "_law_two_names", "_law_seen", "_law_look", "_law_wide", "_law_wide_saying", "_law_numbers", "_law_told", "_law_right", "_law_strange", "_law_wrong", "_law_sets"] : List PySem.Str)) (d := HandSHeadRun.topDef (OpenLaw.row PySem.Challenge.rw_usualdays_k70_looks_and_spreads).prog 51) (kwd := []) Lw.ob_eq Lw.run
    (by kernel_rfl) (by kernel_rfl) (by kernel_rfl) (by rfl) (by first | assumption | decide +kernel)
    (by decide +kernel) ⟨rfl, rfl, rfl, rfl, rfl, by decide +kernel⟩ ?hw ?hc
  case hw => w_witness2
  case hc =>
    refine Ue.walk_ofU (lw := PySem.Challenge.rw_usualdays_k70_looks_and_spreads) (mx := 63) (lv := 8) (x := "_law_script") rfl (by decide) (by kernel_rfl) ⟨rfl, by decide, by decide⟩ ?Z
    intro w mg f0 hp Y G hmg0
    obtain ⟨K, KX, c⟩ := Y
    have e1 : (HandSHeadRun.topDef (OpenLaw.row PySem.Challenge.rw_usualdays_k70_looks_and_spreads).prog 51).name = ("law" : PySem.Str) := by kernel_rfl
    rw [e1] at hmg0
    have e2 := hmg0.symm.trans (Lw.m_law KX G c)
    cases e2
    obtain ⟨fd, hb, hF⟩ := Lw.ok_law (P := (PySem.Challenge.rw_usualdays_k70_looks_and_spreads).prog) (w := w) KX G c
    exact ⟨Lw.tab K, fd, Lw.F_law, KX, hb, Lw.law_true, fun base _ _ => hF base⟩
