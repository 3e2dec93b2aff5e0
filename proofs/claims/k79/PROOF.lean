import PyProof.Rows.All
import Wide.All
import OpenK.AllK
import Wide.FinOn
import HandS.ForMost
import HandS.ForExc
import HandS.CallSlots
import HandS.WideBits
import HandS.SortInts
import HandS.IsInst
import HandS.Style
import HandS.Flow
import HandS.Deep
import HandS.TupAny
import HandS.Gcd
import HandS.Lambda
import HandS.Nested
import HandS.EndTab
import HandS.Zip
import HandS.Rev
import HandS.Defaults
import HandS.ExcInit
import HandS.ClsMeth
import HandS.TryOnly
import HandS.ExcOwn
import HandS.Head0
import HandS.Head1
import HandS.Head2
import HandS.HeadEnd
import HandS.HeadHook1
import HandS.HeadHook2
import HandS.Head3
import HandS.Head4
import HandS.HeadHook3
import HandS.HeadHook4
import HandS.ExcField
import HandS.MakeKw
import HandS.OwnEq
import HandS.Property
import PyProof.Rows.NestShow
import PyProof.P3In
import HandS.IterVal
import KE.KOwnIter
import HandS.ExcIs
import KE.KExcIs
import KE.GoesMore
import KE.KOpsOwn
import HandS.SortKw
import KE.DataMinMax
import HandS.Strs
import HandS.More
import KE.KRevSl
import HandS.SetFor
import HandS.Dict
import HandS.Star
import PyProof.StrBlock2
import HandS.Conv
import KE.GoesZip
import HandS.TupMul
import PyProof.MaxThree
import PyProof.EqKinds
import HandS.RevRange
import HandS.Replace
import HandS.TupSets
import KE.KExcSuper
import KE.SortKeyHeap
import KE.KNestM
import KE.SortData
import PySem.Challenge.RW_usualdays_k79_least_meeting_lots
set_option linter.all false
set_option Elab.async false
set_option maxRecDepth 100000
set_option maxHeartbeats 4000000
namespace Ue
open PySem L2
inductive D where
  | non | bl (b : Bool) | int (i : Int) | str (s : Str)
  | tup (xs : List D) | lst (xs : List D)
  | obj (c : Nat) (fs : List D)
  | scr (ns : List Int)
  /-- a dict that stays -/
  | dct (kvs : List (Key × V))
  /-- a tuple known as it was made (it has no dict of its own) -/
  | tpx (xs : List D)
inductive FV where
  | d (x : D) | o (xs : List D)
inductive EV where
  | v (d : D) | own (xs : List D) | new (c : Nat) (fs : List D) | ex (c : Nat) (fs : List D) | mob (c : Nat) (fs : List FV)
def EV.isOwn : EV → Bool
  | .own _ => true | .new _ _ => true | .mob _ _ => true | _ => false
abbrev Env := List (Option EV)
structure Tab where
  K : PySem.W.Frag
  clsA : Nat → Addr
  clsF : Nat → List Str
  excA : Nat → Addr
  excF : Nat → List Str
  /-- in an except suite: the caught object, its dict, its class -/
  cur : Option (Addr × Option Addr × Value) := none
  /-- tables of code objects: where they stand, the names of what is made by place -/
  tbs : List NdefX.NTab := []
section
variable (T : Tab) (P : Hp)
mutual
def Rep : D → V → Prop
  | .non, x => x = .non
  | .bl b, x => x = .bl b
  | .int i, x => x = .int i
  | .str s, x => x = .str s
  | .tup ds, x => ∃ a vs, x = .ref a ∧ SqT T.K P a vs ∧ Reps ds vs
  | .lst ds, x => ∃ a vs, x = .ref a ∧ Rd P a (.lst vs) ∧ Reps ds vs
  | .scr ns, x => ∃ a, x = .ref a ∧ SqL T.K P a (ns.map V.int)
  | .dct kvs, x => ∃ a, x = .ref a ∧ P a = some (.dK kvs)
  | .tpx ds, x => ∃ a vs o, x = .ref a ∧ P a = some (.frz o (.tup vs)) ∧ o.dict = none ∧ Reps ds vs
  | .obj c ds, x => ∃ a dx vs, x = .ref a ∧ P a = some (.ins (T.clsA c) dx ((T.clsF c).zip vs)) ∧ vs.length = (T.clsF c).length ∧ Reps ds vs
def Reps : List D → List V → Prop
  | [], vs => vs = []
  | d :: ds, vs => ∃ v r, vs = v :: r ∧ Rep d v ∧ Reps ds r
end
end
def PSub (P H : Hp) : Prop := ∀ b o, P b = some o → H b = some o
theorem PSub.refl (P : Hp) : PSub P P := fun _ _ h => h
theorem PSub.trans {P H J : Hp} (h : PSub P H) (k : PSub H J) : PSub P J := fun b o e => k b o (h b o e)
section
variable {T : Tab} {P P' H : Hp}
theorem Rd.sub {a : Addr} {u : HO} (s : PSub P P') (h : Rd P a u) : Rd P' a u := by
  rcases h with h | ⟨o, h⟩
  · exact .inl (s _ _ h)
  · exact .inr ⟨o, s _ _ h⟩
theorem sqL_sub {K : PySem.W.Frag} {a : Addr} {xs : List V} (s : PSub P P') (h : SqL K P a xs) : SqL K P' a xs := by
  rcases h with h | h
  · exact .inl (Rd.sub s h)
  · exact .inr h
theorem sqT_sub {K : PySem.W.Frag} {a : Addr} {xs : List V} (s : PSub P P') (h : SqT K P a xs) : SqT K P' a xs := by
  rcases h with h | h
  · exact .inl (Rd.sub s h)
  · exact .inr h
mutual
theorem Rep.sub (s : PSub P P') : ∀ (d : D) (v : V), Rep T P d v → Rep T P' d v
  | .non, _, h => h
  | .bl _, _, h => h
  | .int _, _, h => h
  | .str _, _, h => h
  | .tup ds, _, h => by
    rw [Rep] at h ⊢
    obtain ⟨a, vs, e, h1, h2⟩ := h
    exact ⟨a, vs, e, sqT_sub s h1, Reps.sub s ds vs h2⟩
  | .lst ds, _, h => by
    rw [Rep] at h ⊢
    obtain ⟨a, vs, e, h1, h2⟩ := h
    exact ⟨a, vs, e, Rd.sub s h1, Reps.sub s ds vs h2⟩
  | .scr ns, _, h => by
    rw [Rep] at h ⊢
    obtain ⟨a, e, h1⟩ := h
    exact ⟨a, e, sqL_sub s h1⟩
  | .tpx ds, _, h => by
    rw [Rep] at h ⊢
    obtain ⟨a, vs, o, e, h1, h3, h2⟩ := h
    exact ⟨a, vs, o, e, s _ _ h1, h3, Reps.sub s ds vs h2⟩
  | .dct kvs, _, h => by
    rw [Rep] at h ⊢
    obtain ⟨a, e, h1⟩ := h
    exact ⟨a, e, s _ _ h1⟩
  | .obj c ds, _, h => by
    rw [Rep] at h ⊢
    obtain ⟨a, dx, vs, e, h1, hl, h2⟩ := h
    exact ⟨a, dx, vs, e, s _ _ h1, hl, Reps.sub s ds vs h2⟩
theorem Reps.sub (s : PSub P P') : ∀ (ds : List D) (vs : List V), Reps T P ds vs → Reps T P' ds vs
  | [], _, h => h
  | d :: ds, _, h => by
    rw [Reps] at h ⊢
    obtain ⟨v, r, e, h1, h2⟩ := h
    exact ⟨v, r, e, Rep.sub s d v h1, Reps.sub s ds r h2⟩
end
theorem Reps.nil : Reps T P [] [] := by rw [Reps]
theorem Reps.cons {d : D} {ds : List D} {v : V} {vs : List V} (h : Rep T P d v) (k : Reps T P ds vs) : Reps T P (d :: ds) (v :: vs) := by
  rw [Reps]; exact ⟨v, vs, rfl, h, k⟩
theorem Reps.length : ∀ {ds : List D} {vs : List V}, Reps T P ds vs → vs.length = ds.length
  | [], _, h => by rw [Reps] at h; subst h; rfl
  | _ :: _, _, h => by
    rw [Reps] at h
    obtain ⟨v, r, rfl, _, h2⟩ := h
    simp [Reps.length h2]
theorem Reps.get : ∀ {ds : List D} {vs : List V} {i : Nat} {d : D}, Reps T P ds vs → ds[i]? = some d → ∃ v, vs[i]? = some v ∧ Rep T P d v
  | [], _, _, _, _, e => by simp at e
  | _ :: _, _, 0, _, h, e => by
    rw [Reps] at h
    obtain ⟨v, r, rfl, h1, _⟩ := h
    simp at e; subst e
    exact ⟨v, rfl, h1⟩
  | _ :: _, _, i + 1, _, h, e => by
    rw [Reps] at h
    obtain ⟨v, r, rfl, _, h2⟩ := h
    have e' := e
    simp only [List.getElem?_cons_succ] at e' ⊢
    exact Reps.get h2 e'
theorem Reps.set : ∀ {ds : List D} {vs : List V} {d : D} {v : V} (i : Nat), Reps T P ds vs → Rep T P d v → Reps T P (ds.set i d) (vs.set i v)
  | [], _, _, _, i, h, _ => by rw [Reps] at h; subst h; simp; exact Reps.nil
  | _ :: _, _, _, _, 0, h, k => by
    rw [Reps] at h
    obtain ⟨v, r, rfl, h1, h2⟩ := h
    exact Reps.cons k h2
  | _ :: _, _, _, _, i + 1, h, k => by
    rw [Reps] at h
    obtain ⟨v, r, rfl, h1, h2⟩ := h
    exact Reps.cons h1 (Reps.set i h2 k)
end
def ExRep (T : Tab) (P : Hp) (c : Nat) (fs : List D) (cls : Value) (dd : Option Addr) : Prop :=
  cls = .ref (T.excA c) ∧ ((fs = [] ∧ dd = none) ∨ ∃ dx xfs vs, dd = some dx ∧ P dx = some (.xd xfs) ∧ (∀ (j : Nat) (f : Str) (v : V), (T.excF c)[j]? = some f → vs[j]? = some v → xfs.lookup f = some v) ∧ Reps T P fs vs)
def subs : List FV → List V → List Addr
  | .o _ :: fs, .ref b :: vs => b :: subs fs vs
  | _ :: fs, _ :: vs => subs fs vs
  | _, _ => []
def SubOf (fs : List FV) (x : V) (H : Hp) (b : Addr) : Prop := ∃ (a C dx : Addr) (l : List (Str × V)), x = .ref a ∧ H a = some (.ins C dx l) ∧ b ∈ subs fs (l.map Prod.snd)
def Foot (e : EV) (x : V) (H : Hp) (b : Addr) : Prop := x = .ref b ∨ match e with | .mob _ fs => SubOf fs x H b | _ => False
section
variable (T : Tab) (P H : Hp)
def FReps : List FV → List V → Prop
  | [], vs => vs = []
  | .d x :: fs, vs => ∃ v r, vs = v :: r ∧ Rep T P x v ∧ FReps fs r
  | .o xs :: fs, vs => ∃ b ws r, vs = .ref b :: r ∧ H b = some (.lst ws) ∧ P b = none ∧ Reps T P xs ws ∧ FReps fs r
def EnvRep : EV → V → Prop
  | .v d, x => Rep T P d x
  | .own ds, x => ∃ a vs, x = .ref a ∧ H a = some (.lst vs) ∧ P a = none ∧ Reps T P ds vs
  | .new c fs, x => ∃ a dx vs, x = .ref a ∧ H a = some (.ins (T.clsA c) dx ((T.clsF c).zip vs)) ∧ P a = none ∧ vs.length ≤ (T.clsF c).length ∧ Reps T P fs vs
  | .ex c fs, x => ∀ a d cls, T.cur = some (a, d, cls) → x = .ref a ∧ ExRep T P c fs cls d
  | .mob c fs, x => ∃ a dx vs, x = .ref a ∧ H a = some (.ins (T.clsA c) dx ((T.clsF c).zip vs)) ∧ P a = none ∧ vs.length ≤ (T.clsF c).length ∧ FReps T P H fs vs ∧ (a :: subs fs vs).Nodup
end
def Own (env : Env) (σ : St) (H : Hp) (b : Addr) : Prop := ∃ (i : Nat) (e : EV) (x : V), env[i]? = some (some e) ∧ EV.isOwn e = true ∧ σ[i]? = some (some x) ∧ Foot e x H b
def Tbs (tb : List NdefX.NTab) (P H : Hp) : Prop := NdefX.TabsN tb H ∧ ∀ p ∈ tb, P p.1 = none
structure Rel (T : Tab) (env : Env) (σ : St) (P H : Hp) : Prop where
  sub : PSub P H
  ent : ∀ (i : Nat) (e : EV), env[i]? = some (some e) → ∃ v, σ[i]? = some (some v) ∧ EnvRep T P H e v
  dis : ∀ (i j : Nat) (e f : EV) (x y : V) (a : Addr), i ≠ j → env[i]? = some (some e) → env[j]? = some (some f) → e.isOwn = true → f.isOwn = true → σ[i]? = some (some x) → σ[j]? = some (some y) → Foot e x H a → Foot f y H a → False
  len : env.length = σ.length
  tabs : Tbs T.tbs P H
def NoT (o : HO) : Prop := ∀ ps, o ≠ .tbl ps
structure Fr (env : Env) (σ : St) (P H : Hp) (env' : Env) (σ' : St) (P' H' : Hp) : Prop where
  keep : ∀ b o, H b = some o → ¬ Own env σ H b → NoT o → H' b = some o
  own : ∀ b, H b ≠ none → ¬ Own env σ H b → ¬ Own env' σ' H' b
  mono : PSub P P'
  new : ∀ b, P' b ≠ none → P b ≠ none ∨ H b = none ∨ Own env σ H b
  there : ∀ b, H b ≠ none → H' b ≠ none
theorem Fr.refl (env : Env) (σ : St) (P H : Hp) : Fr env σ P H env σ P H :=
  ⟨fun _ _ h _ _ => h, fun _ _ h => h, PSub.refl _, fun _ h => .inl h, fun _ h => h⟩
theorem Fr.trans {env env' env'' : Env} {σ σ' σ'' : St} {P H P' H' P'' H'' : Hp} (f : Fr env σ P H env' σ' P' H') (g : Fr env' σ' P' H' env'' σ'' P'' H'') : Fr env σ P H env'' σ'' P'' H'' where
  keep := fun b o h n t => g.keep b o (f.keep b o h n t) (f.own b (by rw [h]; exact fun z => nomatch z) n) t
  own := fun b h n => g.own b (f.there b h) (f.own b h n)
  mono := f.mono.trans g.mono
  new := fun b h => by
    rcases g.new b h with h1 | h1 | h1
    · exact f.new b h1
    · exact .inr (.inl (Classical.byContradiction fun z => f.there b z h1))
    · rcases Classical.em (Own env σ H b) with o | o
      · exact .inr (.inr o)
      · exact .inr (.inl (Classical.byContradiction fun z => f.own b z o h1))
  there := fun b h => g.there b (f.there b h)
inductive R (α : Type) where
  | ok (a : α) (e : Env) | exc (c : Nat) (fs : List D) (e : Env) | stk
def R.bind {α β : Type} (r : R α) (f : α → Env → R β) : R β :=
  match r with
  | .ok a e => f a e
  | .exc c fs e => .exc c fs e
  | .stk => .stk
abbrev M := Env → R D
section
variable (T : Tab) (W : WX) (σ : St)
def After {α : Type} (env : Env) (P H : Hp) (r : R α) (Q : α → Env → Hp → Hp → Prop) : Prop :=
  match r with
  | .ok a env' => ∀ P' H', Rel T env' σ P' H' → Fr env σ P H env' σ P' H' → Q a env' P' H'
  | .exc c fs env' => ∀ P' H' cls dd, Rel T env' σ P' H' → Fr env σ P H env' σ P' H' → ExRep T P' c fs cls dd → W cls dd σ H'
  | .stk => False
end
section
variable {T : Tab} {W : WX} {σ : St} {α β : Type} {env : Env} {P H : Hp}
theorem After.bind {r : R α} {f : α → Env → R β} {Q : β → Env → Hp → Hp → Prop} (h : After T W σ env P H (r.bind f) Q) :
    After T W σ env P H r (fun a env1 P1 H1 => After T W σ env1 P1 H1 (f a env1) Q) := by
  cases r with
  | ok a env1 =>
    intro P1 H1 R1 F1
    have h' : After T W σ env P H (f a env1) Q := h
    show After T W σ env1 P1 H1 (f a env1) Q
    cases e : f a env1 with
    | ok b env2 => rw [e] at h'; intro P2 H2 R2 F2; exact h' P2 H2 R2 (F1.trans F2)
    | exc c fs env2 => rw [e] at h'; intro P2 H2 cls dd R2 F2 x; exact h' P2 H2 cls dd R2 (F1.trans F2) x
    | stk => rw [e] at h'; exact h'
  | exc c fs env1 => exact h
  | stk => exact h
theorem After.mono {r : R α} {Q Q' : α → Env → Hp → Hp → Prop} (h : After T W σ env P H r Q) (k : ∀ a env' P' H', Rel T env' σ P' H' → Fr env σ P H env' σ P' H' → Q a env' P' H' → Q' a env' P' H') : After T W σ env P H r Q' := by
  cases r with
  | ok a env1 => exact fun P1 H1 R1 F1 => k _ _ _ _ R1 F1 (h P1 H1 R1 F1)
  | exc c fs env1 => exact h
  | stk => exact h
theorem After.here {a : α} {env' : Env} {Q : α → Env → Hp → Hp → Prop} (h : After T W σ env P H (.ok a env') Q) {P' H' : Hp} (R1 : Rel T env' σ P' H') (F1 : Fr env σ P H env' σ P' H') : Q a env' P' H' := h P' H' R1 F1
end
inductive Kd where
  | pure | fresh | own (i : Nat)
def NewV (k : Kd) (H : Hp) (x : V) : Prop :=
  match k with
  | .fresh => ∃ a, x = .ref a ∧ H a = none
  | _ => True
abbrev MT := Env → R Bool
end Ue
set_option linter.all false
set_option Elab.async false
set_option maxRecDepth 100000
set_option maxHeartbeats 4000000
namespace Ue
open PySem L2
section
variable {tb : List NdefX.NTab} {P P' H H' : Hp}
theorem Tbs.at_ (t : Tbs tb P H) {p : NdefX.NTab} (hp : p ∈ tb) : ∃ ps, H p.1 = some (.tbl ps) := let ⟨ps, h, _⟩ := t.1 p hp; ⟨ps, h⟩
theorem Tbs.ext (t : Tbs tb P H) (k : ∀ b w, H b = some w → H' b = some w) : Tbs tb P H' := ⟨t.1.ext k, t.2⟩
theorem Tbs.nil : Tbs [] P H := ⟨fun _ h => (nomatch h), fun _ h => (nomatch h)⟩
end
def Pln (H : Hp) (L : Addr) : Prop := ∀ u, H L = some u → NoT u ∧ ∀ f, u ≠ .ext f
theorem Pln.non {H : Hp} {L : Addr} (h : H L = none) : Pln H L := fun u e => by rw [h] at e; cases e
theorem Pln.lst {H : Hp} {L : Addr} {vs : List V} (h : H L = some (.lst vs)) : Pln H L := fun u e => by
  rw [h] at e; cases e; exact ⟨fun _ z => (nomatch z), fun _ z => (nomatch z)⟩
theorem Pln.ins {H : Hp} {L c d : Addr} {l : List (Str × V)} (h : H L = some (.ins c d l)) : Pln H L := fun u e => by
  rw [h] at e; cases e; exact ⟨fun _ z => (nomatch z), fun _ z => (nomatch z)⟩
theorem Pln.dct {H : Hp} {L : Addr} {l : List (Key × V)} (h : H L = some (.dK l)) : Pln H L := fun u e => by
  rw [h] at e; cases e; exact ⟨fun _ z => (nomatch z), fun _ z => (nomatch z)⟩
section
variable {T : Tab} {W : WX} {env env' : Env} {σ : St} {P H P' H' : Hp} {p : Addr} {o : HO}
theorem zip_snd : ∀ {ns : List Str} {vs : List V}, vs.length ≤ ns.length → (ns.zip vs).map Prod.snd = vs
  | _, [], _ => by simp
  | [], _ :: _, h => by simp at h
  | _ :: ns, v :: vs, h => by
    rw [List.zip_cons_cons, List.map_cons, zip_snd (by simpa using h)]
theorem Foot.here {e : EV} {b : Addr} : Foot e (.ref b) H b := .inl rfl
theorem Foot.plain {e : EV} {x : V} {b : Addr} (h : Foot e x H b) (n : ∀ c fs, e ≠ .mob c fs) : x = .ref b := by
  rcases h with h | h
  · exact h
  · cases e with
    | mob c fs => exact (n c fs rfl).elim
    | _ => exact h.elim
theorem Foot.own {ds : List D} {x : V} {b : Addr} (h : Foot (.own ds) x H b) : x = .ref b := h.plain fun _ _ z => nomatch z
theorem Foot.new {c : Nat} {ds : List D} {x : V} {b : Addr} (h : Foot (.new c ds) x H b) : x = .ref b := h.plain fun _ _ z => nomatch z
theorem FReps.length : ∀ {fs : List FV} {vs : List V}, FReps T P H fs vs → vs.length = fs.length
  | [], _, h => by rw [FReps] at h; subst h; rfl
  | .d _ :: _, _, h => by
    rw [FReps] at h
    obtain ⟨v, r, rfl, _, h2⟩ := h
    simp [FReps.length h2]
  | .o _ :: _, _, h => by
    rw [FReps] at h
    obtain ⟨b, ws, r, rfl, _, _, _, h2⟩ := h
    simp [FReps.length h2]
theorem FReps.at_ : ∀ {fs : List FV} {vs : List V} {b : Addr}, FReps T P H fs vs → b ∈ subs fs vs → ∃ ws, H b = some (.lst ws) ∧ P b = none
  | [], vs, b, h, m => by rw [FReps] at h; subst h; simp [subs] at m
  | .d _ :: _, _, b, h, m => by
    rw [FReps] at h
    obtain ⟨v, r, rfl, _, h2⟩ := h
    rw [subs] at m
    · exact FReps.at_ h2 m
    · intro _ _ z _; cases z
  | .o _ :: _, _, b, h, m => by
    rw [FReps] at h
    obtain ⟨b', ws, r, rfl, h1, h3, _, h2⟩ := h
    rw [subs] at m
    rcases List.mem_cons.mp m with rfl | m
    · exact ⟨ws, h1, h3⟩
    · exact FReps.at_ h2 m
theorem FReps.grow (hs : PSub P P') : ∀ {fs : List FV} {vs : List V}, FReps T P H fs vs → (∀ b o, H b = some o → P b = none → b ∈ subs fs vs → H' b = some o ∧ P' b = none) → FReps T P' H' fs vs
  | [], _, h, _ => by rw [FReps] at h ⊢; exact h
  | .d _ :: _, _, h, k => by
    rw [FReps] at h ⊢
    obtain ⟨v, r, rfl, h1, h2⟩ := h
    refine ⟨v, r, rfl, Rep.sub hs _ _ h1, FReps.grow hs h2 fun b o q1 q2 q3 => k b o q1 q2 ?_⟩
    rw [subs]
    · exact q3
    · intro _ _ z _; cases z
  | .o _ :: _, _, h, k => by
    rw [FReps] at h ⊢
    obtain ⟨b', ws, r, rfl, h1, h3, h4, h2⟩ := h
    obtain ⟨k1, k2⟩ := k b' _ h1 h3 (by rw [subs]; exact List.mem_cons_self)
    exact ⟨b', ws, r, rfl, k1, k2, Reps.sub hs _ _ h4, FReps.grow hs h2 fun b o q1 q2 q3 => k b o q1 q2 (by rw [subs]; exact List.mem_cons_of_mem _ q3)⟩
theorem EnvRep.foot {e : EV} {x : V} {b : Addr} (r : EnvRep T P H e x) (o : e.isOwn = true) (h : Foot e x H b) : ∃ u, H b = some u ∧ P b = none := by
  cases e with
  | v d => cases o
  | ex c fs => cases o
  | own ds => obtain ⟨a, vs, q, q1, q2, _⟩ := r; cases q.symm.trans h.own; exact ⟨_, q1, q2⟩
  | new c fs => obtain ⟨a, dx, vs, q, q1, q2, _⟩ := r; cases q.symm.trans h.new; exact ⟨_, q1, q2⟩
  | mob c fs =>
    obtain ⟨a, dx, vs, rfl, q1, q2, q3, q4, q5⟩ := r
    rcases h with h | ⟨a', C, dx', l, ha, hl, m⟩
    · cases h; exact ⟨_, q1, q2⟩
    · cases ha
      rw [q1] at hl; cases hl
      rw [zip_snd q3] at m
      obtain ⟨ws, w1, w2⟩ := q4.at_ m
      exact ⟨_, w1, w2⟩
theorem EnvRep.footH {e : EV} {x : V} {b : Addr} (r : EnvRep T P H e x) (k : ∀ a o, x = .ref a → e.isOwn = true → H a = some o → H' a = some o) : Foot e x H' b ↔ Foot e x H b := by
  cases e with
  | mob c fs =>
    obtain ⟨a, dx, vs, rfl, q1, q2, q3, q4, q5⟩ := r
    have q1' := k a _ rfl rfl q1
    constructor
    · rintro (h | ⟨a', C, dx', l, ha, hl, m⟩)
      · exact .inl h
      · cases ha; rw [q1'] at hl; cases hl; exact .inr ⟨a, _, _, _, rfl, q1, m⟩
    · rintro (h | ⟨a', C, dx', l, ha, hl, m⟩)
      · exact .inl h
      · cases ha; rw [q1] at hl; cases hl; exact .inr ⟨a, _, _, _, rfl, q1', m⟩
  | _ => exact Iff.rfl
theorem Rel.ownAt (R : Rel T env σ P H) {b : Addr} (h : Own env σ H b) : ∃ o, H b = some o ∧ P b = none := by
  obtain ⟨i, e, x, h1, h2, h3, h4⟩ := h
  obtain ⟨v, hv, r⟩ := R.ent i e h1
  rw [h3] at hv; cases hv
  exact r.foot h2 h4
theorem Rel.notOwn (R : Rel T env σ P H) {b : Addr} (h : H b = none) : ¬ Own env σ H b := fun z => by
  obtain ⟨o, q, _⟩ := R.ownAt z
  rw [h] at q; cases q
theorem ExRep.sub {c : Nat} {fs : List D} {cls : Value} {dd : Option Addr} (hs : PSub P P') (h : ExRep T P c fs cls dd) : ExRep T P' c fs cls dd := by
  obtain ⟨q1, q2⟩ := h
  refine ⟨q1, ?_⟩
  rcases q2 with q2 | ⟨dx, xfs, vs, w1, w2, w3, w4⟩
  · exact .inl q2
  · exact .inr ⟨dx, xfs, vs, w1, hs _ _ w2, w3, Reps.sub hs _ _ w4⟩
theorem EnvRep.grow {e : EV} {x : V} (h : EnvRep T P H e x) (hs : PSub P P') (hk : ∀ b o, H b = some o → P b = none → e.isOwn = true → Foot e x H b → H' b = some o ∧ P' b = none) : EnvRep T P' H' e x := by
  cases e with
  | v d => exact Rep.sub hs d x h
  | ex c fs =>
    intro a d cls hc
    obtain ⟨q1, q2⟩ := h a d cls hc
    exact ⟨q1, q2.sub hs⟩
  | own ds =>
    obtain ⟨a, vs, rfl, q1, q2, q3⟩ := h
    obtain ⟨k1, k2⟩ := hk a _ q1 q2 rfl .here
    exact ⟨a, vs, rfl, k1, k2, Reps.sub hs _ _ q3⟩
  | new c fs =>
    obtain ⟨a, dx, vs, rfl, q1, q2, q4, q3⟩ := h
    obtain ⟨k1, k2⟩ := hk a _ q1 q2 rfl .here
    exact ⟨a, dx, vs, rfl, k1, k2, q4, Reps.sub hs _ _ q3⟩
  | mob c fs =>
    obtain ⟨a, dx, vs, rfl, q1, q2, q3, q4, q5⟩ := h
    obtain ⟨k1, k2⟩ := hk a _ q1 q2 rfl .here
    refine ⟨a, dx, vs, rfl, k1, k2, q3, q4.grow hs fun b o w1 w2 w3 => hk b o w1 w2 rfl (.inr ⟨a, _, _, _, rfl, q1, ?_⟩), q5⟩
    rw [zip_snd q3]; exact w3
theorem Rel.reH (R : Rel T env σ P H) (hs : PSub P P') (sub : PSub P' H') (ht : Tbs T.tbs P' H') (hk : ∀ b u, H b = some u → Own env σ H b → H' b = some u ∧ P' b = none) : Rel T env σ P' H' ∧ ∀ b, Own env σ H' b ↔ Own env σ H b := by
  have ft : ∀ (i : Nat) (e : EV) (x : V) (b : Addr), env[i]? = some (some e) → e.isOwn = true → σ[i]? = some (some x) → (Foot e x H' b ↔ Foot e x H b) := fun i e x b h o s => by
    obtain ⟨v, hv, r⟩ := R.ent i e h
    rw [s] at hv; cases hv
    exact r.footH fun a u ha _ hu => (hk a u hu ⟨i, e, x, h, o, s, .inl ha⟩).1
  refine ⟨⟨sub, fun i e h => ?_, fun i j e f x y a n h1 h2 o1 o2 s1 s2 t1 t2 => R.dis i j e f x y a n h1 h2 o1 o2 s1 s2 ((ft i e x a h1 o1 s1).mp t1) ((ft j f y a h2 o2 s2).mp t2), R.len, ht⟩, fun b => ⟨fun ⟨i, e, x, h1, h2, h3, h4⟩ => ⟨i, e, x, h1, h2, h3, (ft i e x b h1 h2 h3).mp h4⟩, fun ⟨i, e, x, h1, h2, h3, h4⟩ => ⟨i, e, x, h1, h2, h3, (ft i e x b h1 h2 h3).mpr h4⟩⟩⟩
  obtain ⟨v, hv, r⟩ := R.ent i e h
  exact ⟨v, hv, r.grow hs fun b u h1 h2 h3 h4 => hk b u h1 ⟨i, e, v, h, h3, hv, h4⟩⟩
def OwnX (env : Env) (σ : St) (H : Hp) (i : Nat) (b : Addr) : Prop := ∃ (j : Nat) (f : EV) (x : V), j ≠ i ∧ env[j]? = some (some f) ∧ f.isOwn = true ∧ σ[j]? = some (some x) ∧ Foot f x H b
theorem OwnX.own {i : Nat} {b : Addr} (h : OwnX env σ H i b) : Own env σ H b := let ⟨j, f, x, _, h1, h2, h3, h4⟩ := h; ⟨j, f, x, h1, h2, h3, h4⟩
theorem OwnX.ne (R : Rel T env σ P H) {i : Nat} {g : EV} {y : V} {b : Addr} (h : OwnX env σ H i b) (e : env[i]? = some (some g)) (o : g.isOwn = true) (s : σ[i]? = some (some y)) (t : Foot g y H b) : False := by
  obtain ⟨j, f, x, n, h1, h2, h3, h4⟩ := h
  exact R.dis j i f g x y b n h1 e h2 o h3 s h4 t
end
def Rdb (T : Tab) (P H : Hp) (d : D) (x : V) : Prop := Rep T P d x ∨ ∃ a vs ds, x = .ref a ∧ H a = some (.lst vs) ∧ Reps T P ds vs ∧ d = .lst ds
def Rdbs (T : Tab) (P H : Hp) : List D → List V → Prop := Paired (Rdb T P H)
section
variable {T : Tab} {W : WX} {env env' : Env} {σ : St} {P H P' H' : Hp} {x : V}
theorem Rdb.nonE (h : Rdb T P H .non x) : x = .non := by
  rcases h with h | ⟨_, _, _, _, _, _, h⟩
  · rwa [Rep] at h
  · cases h
theorem Rdb.blE {b : Bool} (h : Rdb T P H (.bl b) x) : x = .bl b := by
  rcases h with h | ⟨_, _, _, _, _, _, h⟩
  · rwa [Rep] at h
  · cases h
theorem Rdb.intE {i : Int} (h : Rdb T P H (.int i) x) : x = .int i := by
  rcases h with h | ⟨_, _, _, _, _, _, h⟩
  · rwa [Rep] at h
  · cases h
theorem Rdb.strE {s : Str} (h : Rdb T P H (.str s) x) : x = .str s := by
  rcases h with h | ⟨_, _, _, _, _, _, h⟩
  · rwa [Rep] at h
  · cases h
def Steady (k : Kd) {α : Type} (m : Env → R α) : Prop :=
  match k with
  | .own i => ∀ env d env', m env = .ok d env' → env'[i]? = env[i]?
  | _ => True
end
theorem After.at {T : Tab} {W : WX} {σ : St} {α : Type} {env : Env} {P H : Hp} {r : R α} {Q Q' : α → Env → Hp → Hp → Prop} (h : After T W σ env P H r Q)
    (k : ∀ a env' P' H', r = .ok a env' → Rel T env' σ P' H' → Fr env σ P H env' σ P' H' → Q a env' P' H' → Q' a env' P' H') : After T W σ env P H r Q' := by
  cases r with
  | ok a env1 => exact fun P1 H1 R1 F1 => k _ _ _ _ rfl R1 F1 (h P1 H1 R1 F1)
  | exc c fs env1 => exact h
  | stk => exact h
section
variable {T : Tab} {W : WX} {X : Cx} {a b : Expr} {ka kb k : Kd} {ma mb : M} {pos : Pos}
end
section
variable {T : Tab} {W : WX} {X : Cx} {pos : Pos}
end
end Ue
set_option linter.all false
set_option Elab.async false
set_option maxRecDepth 100000
set_option maxHeartbeats 4000000
namespace Ue
open PySem L2
section
variable {T : Tab} {W : WX} {X : Cx} {a b c e : Expr} {rest : List Expr} {ka kb k : Kd} {m ma mb : M} {ta tb tc : MT} {pos : Pos} {env env' : Env} {σ : St} {P H P' H' : Hp} {x : V}
theorem Rdb.bool {d : D} {c : Bool} (h : Rdb T P H d (.bl c)) : d = .bl c := by
  cases d with
  | bl b => have := h.blE; cases this; rfl
  | non => have := h.nonE; cases this
  | int i => have := h.intE; cases this
  | str i => have := h.strE; cases this
  | tup ds =>
    rcases h with h | ⟨_, _, _, h, _⟩
    · rw [Rep] at h; obtain ⟨a, vs, h, _⟩ := h; cases h
    · cases h
  | lst ds =>
    rcases h with h | ⟨_, _, _, h, _⟩
    · rw [Rep] at h; obtain ⟨a, vs, h, _⟩ := h; cases h
    · cases h
  | obj c ds =>
    rcases h with h | ⟨_, _, _, h, _⟩
    · rw [Rep] at h; obtain ⟨a, dx, vs, h, _⟩ := h; cases h
    · cases h
  | scr ns =>
    rcases h with h | ⟨_, _, _, h, _⟩
    · rw [Rep] at h; obtain ⟨a, h, _⟩ := h; cases h
    · cases h
  | dct kvs =>
    rcases h with h | ⟨_, _, _, h, _⟩
    · rw [Rep] at h; obtain ⟨a, h, _⟩ := h; cases h
    · cases h
  | tpx ds =>
    rcases h with h | ⟨_, _, _, h, _⟩
    · rw [Rep] at h; obtain ⟨a, vs, o, h, _⟩ := h; cases h
    · cases h
end
section
variable {T : Tab} {W : WX} {X : Cx} {a b c e : Expr} {es : List Expr} {k : Kd} {ks : List Kd} {m : M} {ms : List M} {pos : Pos} {env env' : Env} {σ : St} {P H P' H' : Hp} {x : V}
end
end Ue
set_option linter.all false
set_option Elab.async false
set_option maxRecDepth 100000
set_option maxHeartbeats 4000000
namespace Ue
open PySem L2
section
variable {T : Tab} {P H : Hp}
end
section
variable {T : Tab}
end
def i2 (f : Int → Int → D) (a b : D) : Option D := match a, b with | .int i, .int j => some (f i j) | _, _ => none
def c2 (f : Int → Int → Bool) (a b : D) : Option Bool := match a, b with | .int i, .int j => some (f i j) | _, _ => none
section
variable {T : Tab}
theorem Rdb.ref {P H : Hp} {d : D} {x : V} (h : Rdb T P H d x) (hd : (∃ ds, d = .tup ds) ∨ (∃ ds, d = .lst ds) ∨ (∃ ns, d = .scr ns) ∨ ∃ c ds, d = .obj c ds) : ∃ a, x = .ref a := by
  rcases h with h | ⟨a, _, _, h, _⟩
  · rcases hd with ⟨ds, rfl⟩ | ⟨ds, rfl⟩ | ⟨ns, rfl⟩ | ⟨c, ds, rfl⟩
    · rw [Rep] at h; obtain ⟨a, vs, h, _⟩ := h; exact ⟨a, h⟩
    · rw [Rep] at h; obtain ⟨a, vs, h, _⟩ := h; exact ⟨a, h⟩
    · rw [Rep] at h; obtain ⟨a, h, _⟩ := h; exact ⟨a, h⟩
    · rw [Rep] at h; obtain ⟨a, dx, vs, h, _⟩ := h; exact ⟨a, h⟩
  · exact ⟨a, h⟩
end
section
variable {X : Cx} {T : Tab}
end
end Ue
set_option linter.all false
set_option Elab.async false
set_option maxRecDepth 100000
set_option maxHeartbeats 4000000
namespace Ue
open PySem L2
section
variable {X : Cx} {T : Tab}
end
section
variable {T : Tab}
theorem Rdbs.len {P H : Hp} : ∀ {ds : List D} {xs : List V}, Rdbs T P H ds xs → xs.length = ds.length
  | _, _, .nil => rfl
  | _, _, .cons _ t => by simp [Rdbs.len t]
end
end Ue
set_option linter.all false
set_option Elab.async false
set_option maxRecDepth 100000
set_option maxHeartbeats 4000000
namespace Ue
open PySem L2
inductive SR where
  | nx (e : Env) | brk (e : Env) | cnt (e : Env) | ret (d : D) (e : Env) | exc (c : Nat) (fs : List D) (e : Env) | stk
abbrev MS := Env → SR
def NewW (k : Kd) (env : Env) (σ : L2.St) (H : Hp) (x : V) : Prop :=
  match k with
  | .fresh => ∃ a, x = .ref a ∧ (H a = none ∨ Own env σ H a)
  | _ => True
theorem NewV.w {k : Kd} {env : Env} {σ : L2.St} {H : Hp} {x : V} (h : NewV k H x) : NewW k env σ H x := by
  cases k with
  | fresh => obtain ⟨a, e, h⟩ := h; exact ⟨a, e, .inl h⟩
  | _ => trivial
def FrP (pins : List Nat) (σ σ' : L2.St) : Prop := ∀ i ∈ pins, σ'[i]? = σ[i]?
section
variable (T : Tab) (W : WX) (kr : Kd) (pins : List Nat)
end
section
variable {T : Tab} {W : WX} {kr : Kd} {pins : List Nat} {env env' : Env} {σ σ' : L2.St} {P H P' H' : Hp} {X : Cx} {pos : Pos}
theorem FrP.refl : FrP pins σ σ := fun _ _ => rfl
theorem FrP.trans {σ'' : L2.St} (h : FrP pins σ σ') (k : FrP pins σ' σ'') : FrP pins σ σ'' := fun i hi => (k i hi).trans (h i hi)
theorem FrP.set {i : Nat} {v : Option V} (hi : i ∉ pins) : FrP pins σ (σ.set i v) := fun j hj => List.getElem?_set_ne (fun z => hi (by rw [z]; exact hj))
end
end Ue
set_option linter.all false
set_option Elab.async false
set_option maxRecDepth 100000
set_option maxHeartbeats 4000000
namespace Ue
open PySem L2
abbrev MI := Env → R (List D)
section
variable {T : Tab} {W : WX} {kr : Kd} {pins : List Nat} {env env' : Env} {σ σ' : L2.St} {P H P' H' : Hp} {X : Cx} {pos : Pos} {tg e : Expr}
abbrev TGM := D → Env → Option Env
end
end Ue
set_option linter.all false
set_option Elab.async false
set_option maxRecDepth 100000
set_option maxHeartbeats 4000000
namespace Ue
open PySem L2
section
variable {T : Tab} {W : WX} {kr : Kd} {pins : List Nat} {env env' : Env} {σ σ' : L2.St} {P H P' H' : Hp} {X : Cx} {pos : Pos} {tg e a b : Expr} {k ka kb : Kd} {m ma mb : M}
theorem Steady.bind {α β : Type} {r : Env → R α} {f : α → Env → R β} (h : Steady k r) (h2 : ∀ a, Steady k (f a)) : Steady k (fun env => (r env).bind f) := by
  cases k with
  | own i =>
    intro env b env' e
    have e : (r env).bind f = .ok b env' := e
    cases q : r env with
    | ok a e1 => rw [q] at e; exact (h2 a e1 b env' e).trans (h env a e1 q)
    | exc c fs e1 => rw [q] at e; cases e
    | stk => rw [q] at e; cases e
  | _ => trivial
end
end Ue
set_option linter.all false
set_option Elab.async false
set_option maxRecDepth 100000
set_option maxHeartbeats 4000000
namespace Ue
open PySem L2
def wipeE : Env → List Nat → Env
  | env, [] => env
  | env, v :: vs => (wipeE env vs).set v none
theorem wipeE_length (env : Env) : ∀ vs, (wipeE env vs).length = env.length
  | [] => rfl
  | v :: vs => by unfold wipeE; rw [List.length_set, wipeE_length env vs]
theorem wipeE_get {env : Env} {i : Nat} {e : EV} : ∀ {vs : List Nat}, (wipeE env vs)[i]? = some (some e) → env[i]? = some (some e) ∧ i ∉ vs
  | [], h => ⟨h, by simp⟩
  | v :: vs, h => by
    unfold wipeE at h
    by_cases q : v = i
    · subst q
      by_cases hv : v < (wipeE env vs).length
      · rw [List.getElem?_set_self hv] at h; cases h
      · rw [List.getElem?_eq_none (by simpa using hv)] at h; cases h
    · rw [List.getElem?_set_ne q] at h
      obtain ⟨h1, h2⟩ := wipeE_get h
      exact ⟨h1, by simp only [List.mem_cons, not_or]; exact ⟨fun z => q z.symm, h2⟩⟩
theorem wipeE_out {env : Env} {i : Nat} : ∀ {vs : List Nat}, i ∉ vs → (wipeE env vs)[i]? = env[i]?
  | [], _ => rfl
  | v :: vs, h => by
    unfold wipeE
    simp only [List.mem_cons, not_or] at h
    rw [List.getElem?_set_ne (fun z => h.1 z.symm), wipeE_out h.2]
def restE (env env' : Env) (vs : List Nat) : Env := (List.range env.length).map fun i => if i ∈ vs then (env[i]?).getD none else (env'[i]?).getD none
def vsOk (env : Env) (vs : List Nat) : Bool := vs.all fun i => match env[i]? with | some (some e) => !e.isOwn | _ => true
section
variable {T : Tab} {W : WX} {kr : Kd} {pins : List Nat} {env env' : Env} {σ σ' : L2.St} {P H P' H' : Hp} {X : Cx} {pos : Pos} {tg e a b : Expr} {k ka kb : Kd} {m ma mb : M} {vs : List Nat}
theorem wipe_get {i : Nat} {x : V} (h : σ[i]? = some (some x)) (hi : i ∉ vs) : (wipe σ vs)[i]? = some (some x) := by rw [wipe_out hi]; exact h
theorem Rel.wiped (RR : Rel T env σ P H) (hv : vsOk env vs = true) : Rel T (wipeE env vs) (wipe σ vs) P H ∧ (∀ J b, Own (wipeE env vs) (wipe σ vs) J b ↔ Own env σ J b) := by
  have nown : ∀ i e, env[i]? = some (some e) → e.isOwn = true → i ∉ vs := fun i e h o z => by
    have := List.all_eq_true.mp hv i z
    rw [h] at this
    simp [o] at this
  have w1 : ∀ J b, Own (wipeE env vs) (wipe σ vs) J b → Own env σ J b := fun J b ⟨i, e, x, h1, h2, h3, h4⟩ => by
    obtain ⟨g1, g2⟩ := wipeE_get h1
    exact ⟨i, e, x, g1, h2, (wipe_some h3).1, h4⟩
  have w2 : ∀ J b, Own env σ J b → Own (wipeE env vs) (wipe σ vs) J b := fun J b ⟨i, e, x, h1, h2, h3, h4⟩ => by
    have ni := nown i e h1 h2
    exact ⟨i, e, x, by rw [wipeE_out ni]; exact h1, h2, wipe_get h3 ni, h4⟩
  refine ⟨⟨RR.sub, fun i e h => ?_, fun i j e f x y a n h1 h2 o1 o2 s1 s2 t1 t2 => ?_, by rw [wipeE_length, wipe_length]; exact RR.len, RR.tabs⟩, fun J b => ⟨w1 J b, w2 J b⟩⟩
  · obtain ⟨g1, g2⟩ := wipeE_get h
    obtain ⟨v, hv, r⟩ := RR.ent i e g1
    exact ⟨v, wipe_get hv g2, r⟩
  · exact RR.dis i j e f x y a n (wipeE_get h1).1 (wipeE_get h2).1 o1 o2 (wipe_some s1).1 (wipe_some s2).1 t1 t2
theorem restE_get {env env' : Env} {i : Nat} {e : EV} (hl : env'.length = env.length) (h : (restE env env' vs)[i]? = some (some e)) : (i ∈ vs ∧ env[i]? = some (some e)) ∨ (i ∉ vs ∧ env'[i]? = some (some e)) := by
  have hi : i < env.length := by
    rcases Nat.lt_or_ge i env.length with q | q
    · exact q
    · rw [List.getElem?_eq_none (by simpa [restE] using q)] at h; cases h
  have e1 : (restE env env' vs)[i]? = some (if i ∈ vs then (env[i]?).getD none else (env'[i]?).getD none) := by simp [restE, hi]
  rw [e1] at h
  have h := Option.some.inj h
  by_cases z : i ∈ vs
  · rw [if_pos z] at h
    rw [List.getElem?_eq_getElem hi] at h ⊢
    exact .inl ⟨z, congrArg some h⟩
  · rw [if_neg z] at h
    have hi' : i < env'.length := by omega
    rw [List.getElem?_eq_getElem hi'] at h ⊢
    exact .inr ⟨z, congrArg some h⟩
theorem Rel.rest {env2 : Env} {σ2 : L2.St} {P2 H2 : Hp} (RR : Rel T env σ P H) (hv : vsOk env vs = true) (R2 : Rel T env2 σ2 P2 H2) (F2 : Fr (wipeE env vs) (wipe σ vs) P H env2 σ2 P2 H2) (hw : wipe σ2 vs = wipe σ vs) :
    Rel T (restE env env2 vs) σ P2 H2 ∧ Fr env σ P H (restE env env2 vs) σ P2 H2 := by
  obtain ⟨R1, o1⟩ := RR.wiped hv
  have hl2 : env2.length = env.length := by
    have h1 := congrArg List.length hw
    rw [wipe_length, wipe_length] at h1
    rw [R2.len, RR.len, h1]
  have hσ : ∀ i, i ∉ vs → σ2[i]? = σ[i]? := fun i hi => by
    have q : (wipe σ2 vs)[i]? = (wipe σ vs)[i]? := by rw [hw]
    rwa [wipe_out hi, wipe_out hi] at q
  have nown : ∀ i e, env[i]? = some (some e) → i ∈ vs → e.isOwn = false := fun i e h z => by
    have := List.all_eq_true.mp hv i z
    rw [h] at this
    simpa using this
  have ob : ∀ J b, Own (restE env env2 vs) σ J b → Own env2 σ2 J b := fun J b ⟨i, e, x, h1, h2, h3, h4⟩ => by
    rcases restE_get hl2 h1 with ⟨z, q⟩ | ⟨z, q⟩
    · rw [nown i e q z] at h2; cases h2
    · exact ⟨i, e, x, q, h2, by rw [hσ i z]; exact h3, h4⟩
  refine ⟨⟨R2.sub, fun i e h => ?_, fun i j e f x y a n h1 h2 o1 o2 s1 s2 t1 t2 => ?_, by simp only [restE, List.length_map, List.length_range]; exact RR.len, R2.tabs⟩, fun b u h n t => ?_, fun b h n z => ?_, F2.mono, fun b h => ?_, F2.there⟩
  · rcases restE_get hl2 h with ⟨z, q⟩ | ⟨z, q⟩
    · obtain ⟨v, hv, r⟩ := RR.ent i e q
      refine ⟨v, hv, r.grow F2.mono fun b u _ _ o _ => ?_⟩
      rw [nown i e q z] at o; cases o
    · obtain ⟨v, hv, r⟩ := R2.ent i e q
      exact ⟨v, by rw [← hσ i z]; exact hv, r⟩
  · rcases restE_get hl2 h1 with ⟨z, q⟩ | ⟨z, q⟩
    · rw [nown i e q z] at o1; cases o1
    · rcases restE_get hl2 h2 with ⟨z', q'⟩ | ⟨z', q'⟩
      · rw [nown j f q' z'] at o2; cases o2
      · exact R2.dis i j e f x y a n q q' o1 o2 (by rw [hσ i z]; exact s1) (by rw [hσ j z']; exact s2) t1 t2
  · exact F2.keep b u h (fun z => n ((o1 H b).mp z)) t
  · exact F2.own b h (fun z => n ((o1 H b).mp z)) (ob H2 b z)
  · rcases F2.new b h with q | q | q
    · exact .inl q
    · exact .inr (.inl q)
    · exact .inr (.inr ((o1 H b).mp q))
section
variable {i : Nat} {y : Str} {py spos : Pos} {elt iter : Expr} {ifs : List Expr} {scope : Scope} {own : List (Str × Nat)} {mi : MI} {g : TGM} {tt : MT} {te : M} {sl : List Nat}
end
end
def Tab.nb (T : Tab) : Tab := { T with cur := none }
mutual
theorem rep_nb {T : Tab} {P : Hp} : ∀ (d : D) (v : V), Rep T.nb P d v = Rep T P d v
  | .non, v => by rw [Rep, Rep]
  | .bl _, v => by rw [Rep, Rep]
  | .int _, v => by rw [Rep, Rep]
  | .str _, v => by rw [Rep, Rep]
  | .scr _, v => by rw [Rep, Rep]; rfl
  | .dct _, v => by rw [Rep, Rep]
  | .tpx ds, v => by rw [Rep, Rep]; simp only [reps_nb ds]
  | .tup ds, v => by rw [Rep, Rep]; simp only [reps_nb ds]; rfl
  | .lst ds, v => by rw [Rep, Rep]; simp only [reps_nb ds]
  | .obj c ds, v => by rw [Rep, Rep]; simp only [reps_nb ds]; rfl
theorem reps_nb {T : Tab} {P : Hp} : ∀ (ds : List D) (vs : List V), Reps T.nb P ds vs = Reps T P ds vs
  | [], vs => by rw [Reps, Reps]
  | d :: ds, vs => by rw [Reps, Reps]; simp only [rep_nb d, reps_nb ds]
end
theorem freps_nb {T : Tab} {P H : Hp} : ∀ (fs : List FV) (vs : List V), FReps T.nb P H fs vs = FReps T P H fs vs
  | [], vs => by rw [FReps, FReps]
  | .d x :: fs, vs => by rw [FReps, FReps]; simp only [rep_nb, freps_nb fs]
  | .o xs :: fs, vs => by rw [FReps, FReps]; simp only [reps_nb, freps_nb fs]
theorem Rel.nb {T : Tab} {env : Env} {σ : L2.St} {P H : Hp} (h : Rel T env σ P H) : Rel T.nb env σ P H := by
  refine ⟨h.sub, fun i e q => ?_, h.dis, h.len, h.tabs⟩
  obtain ⟨v, hv, r⟩ := h.ent i e q
  refine ⟨v, hv, ?_⟩
  cases e with
  | v d => exact (rep_nb d v).mpr r
  | own ds =>
    obtain ⟨a, vs, q1, q2, q3, q4⟩ := r
    exact ⟨a, vs, q1, q2, q3, (reps_nb _ _).mpr q4⟩
  | new c fs =>
    obtain ⟨a, d, vs, q1, q2, q3, q4, q5⟩ := r
    exact ⟨a, d, vs, q1, q2, q3, q4, (reps_nb _ _).mpr q5⟩
  | ex c fs => exact fun a d cls hc => nomatch hc
  | mob c fs =>
    obtain ⟨a, d, vs, q1, q2, q3, q4, q5, q6⟩ := r
    exact ⟨a, d, vs, q1, q2, q3, q4, (freps_nb _ _).mpr q5, q6⟩
end Ue
set_option linter.all false
set_option Elab.async false
set_option maxRecDepth 100000
set_option maxHeartbeats 4000000
namespace Ue
open PySem PySem.Spec PyProof.Rows L2
inductive CRes where
  | ok (d : D) (as : List EV) | exc (c : Nat) (fs : List D) (as : List EV) | stk
abbrev FM := List EV → CRes
section
variable {T : Tab} {pins : List Nat} {env env' : Env} {σ σ' : L2.St} {P H P' H' : Hp} {as as' : List EV} {vs : List V} {N : List Str}
structure FnG (P : Program) (w : World) (K : PySem.W.Frag) (mg : Str → Option Value) (base : Heap) (Z : CXT) (k : Nat) (f : Addr) (fd : FuncData) (ps : List Str) (sp : Sp) : Prop where
  len : ∀ vs H Q E, sp vs H Q E → vs.length = ps.length
  go : ∀ (B : Around) (o : List PySem.Env) (t : Shared) (H : Hp) (ar : Args) (us : List Value) (vs : List V) (Q : VK) (E : XK), B.guards = some [] → Room k B → Env0 P w K mg base B o t H → BindsTo t fd ar (ps.zip us) → Vals vs us → sp vs H Q E →
    codeAny (model P w) B (.call (.ref f) ar) (CR Z o P w H t Q E) t
section
variable {P : Program} {w : World} {K : PySem.W.Frag} {mg : Str → Option Value} {base : Heap} {Z : CXT} {j k : Nat} {f : Addr} {fd : FuncData} {ps N : List Str} {sp : Sp}
theorem FnG.mono (F : FnG P w K mg base Z j f fd ps sp) (h : j ≤ k) : FnG P w K mg base Z k f fd ps sp := ⟨F.len, fun B o t H ar us vs Q E g r => F.go B o t H ar us vs Q E g (r.mono h)⟩
theorem FnG.of (F : FnOk P w K mg base Z k f fd ps sp) : FnG P w K mg base Z k f fd ps sp := ⟨F.len, fun B o t H ar us vs Q E _ => F.run B o t H ar us vs Q E⟩
end
section
variable {X : Cx} {Z : CXT} {k : Nat} {f : Addr} {fd : FuncData} {ps : List Str} {sp : Sp} {dvs : List V} {ds : List Value} {x : Str} {p pos : Pos} {e : Expr} {es : List Expr} {t : TA} {pins : List (Addr × Obj)} {σ : L2.St} {H : Hp} {s : Shared} {Q : VK}
theorem FnG.code {ar : Args} {us : List Value} {vs : List V} {E : XK} (F : FnG X.prog X.w X.K X.mg X.base Z k f fd ps sp) (gd : X.A.guards = some []) (hr : Room k X.A) (hx : PassesAt Z X σ E) (I : Inv X pins σ H s) (hb : BindsTo s fd ar (ps.zip us)) (r : Vals vs us) (h : sp vs H Q E) :
    codeAny (model X.prog X.w) X.A (.call (.ref f) ar) (fun r t => match r with | .ok (.ret u) => EP X pins σ Q u t | .ok _ => False | .error er => X.xe er t) s := by
  refine codeAny_mono (F.go X.A X.stack s H ar us vs Q E gd hr I.env0 hb r h) fun res t hq => ?_
  match res, hq with
  | .error er, hq => exact hx pins H s er t I hq
  | .ok (.ret u), hq => exact I.after hq
  | .ok .next, hq => exact hq
  | .ok .brk, hq => exact hq
  | .ok .cont, hq => exact hq
end
end
end Ue
set_option linter.all false
set_option Elab.async false
set_option maxRecDepth 100000
set_option maxHeartbeats 4000000
namespace Ue
open PySem L2
inductive Ag where
  | p (m : M) | o (i : Nat)
inductive AD where
  | d (x : D) | s (i : Nat)
def resA : List AD → Env → Option (List EV)
  | [], _ => some []
  | .d x :: as, e => (resA as e).map (.v x :: ·)
  | .s i :: as, e => match e[i]? with
    | some (some (.own ds)) => (resA as e).map (.own ds :: ·)
    | some (some (.mob c fs)) => (resA as e).map (.mob c fs :: ·)
    | _ => none
def ownIx : Nat → List AD → Option (Nat × Nat)
  | _, [] => none
  | j, .d _ :: as => ownIx (j + 1) as
  | j, .s i :: _ => some (j, i)
def fewO : List AD → Bool
  | [] => true
  | .d _ :: as => fewO as
  | .s _ :: as => as.all fun a => match a with | .d _ => true | .s _ => false
def unEx : EV → Option EV
  | .ex _ _ => none
  | a => some a
def putA (ss : List AD) (as : List EV) (e : Env) : Env := match ownIx 0 ss with
  | none => e
  | some (j, i) => match as[j]? with
    | some a => e.set i (unEx a)
    | none => e
inductive SReps (T : Tab) (σ : L2.St) (P : Hp) : List AD → List V → Prop where
  | nil : SReps T σ P [] []
  | d {x : D} {v : V} {as : List AD} {vs : List V} : Rep T P x v → SReps T σ P as vs → SReps T σ P (.d x :: as) (v :: vs)
  | s {i : Nat} {v : V} {as : List AD} {vs : List V} : σ[i]? = some (some v) → SReps T σ P as vs → SReps T σ P (.s i :: as) (v :: vs)
theorem SReps.sub {T : Tab} {σ : L2.St} {P P' : Hp} (hs : PSub P P') : ∀ {as : List AD} {vs : List V}, SReps T σ P as vs → SReps T σ P' as vs
  | _, _, .nil => .nil
  | _, _, .d h t => .d (Rep.sub hs _ _ h) (t.sub hs)
  | _, _, .s h t => .s h (t.sub hs)
section
variable {T : Tab} {W : WX} {kr : Kd} {pins : List Nat} {env env' : Env} {σ σ' : L2.St} {P H P' H' : Hp} {X : Cx} {pos : Pos} {e : Expr} {es : List Expr} {m : M} {ags : List Ag}
theorem resA_own {i : Nat} {ss : List AD} {as : List EV} {env : Env} (h : resA (.s i :: ss) env = some as) : ∃ f as2, env[i]? = some (some f) ∧ f.isOwn = true ∧ resA ss env = some as2 ∧ as = f :: as2 := by
  unfold resA at h
  cases e0 : env[i]? with
  | none => rw [e0] at h; cases h
  | some o =>
    cases o with
    | none => rw [e0] at h; cases h
    | some v =>
      cases q : resA ss env with
      | none => cases v <;> rw [e0] at h <;> (try cases h) <;> (simp only [q] at h; cases h)
      | some as2 =>
        cases v with
        | own ds => rw [e0] at h; simp only [q] at h; cases h; exact ⟨_, _, rfl, rfl, rfl, rfl⟩
        | mob c fs => rw [e0] at h; simp only [q] at h; cases h; exact ⟨_, _, rfl, rfl, rfl, rfl⟩
        | _ => rw [e0] at h; cases h
theorem resA_get : ∀ {ss : List AD} {as : List EV} {xs : List V} {j : Nat} {f : EV}, resA ss env = some as → SReps T σ P ss xs → as[j]? = some f →
    (∃ d v, f = .v d ∧ xs[j]? = some v ∧ Rep T P d v) ∨ (∃ i v, f.isOwn = true ∧ ss[j]? = some (.s i) ∧ env[i]? = some (some f) ∧ xs[j]? = some v ∧ σ[i]? = some (some v))
  | [], as, _, j, f, h, _, hf => by cases h; simp at hf
  | .d x :: ss, as, _, j, f, h, .d hr hs, hf => by
    have h : (resA ss env).map (EV.v x :: ·) = some as := h
    cases q : resA ss env with
    | none => rw [q] at h; cases h
    | some as2 =>
      rw [q] at h; cases h
      cases j with
      | zero => simp at hf; subst hf; exact .inl ⟨x, _, rfl, rfl, hr⟩
      | succ j =>
        simp only [List.getElem?_cons_succ] at hf ⊢
        exact resA_get q hs hf
  | .s i :: ss, as, _, j, f, h, .s hi hs, hf => by
    obtain ⟨g, as2, e0, o, q, rfl⟩ := resA_own h
    cases j with
    | zero => simp at hf; subst hf; exact .inr ⟨i, _, o, rfl, e0, rfl, hi⟩
    | succ j =>
      simp only [List.getElem?_cons_succ] at hf ⊢
      exact resA_get q hs hf
theorem resA_len : ∀ {ss : List AD} {as : List EV}, resA ss env = some as → as.length = ss.length
  | [], as, h => by cases h; rfl
  | .d x :: ss, as, h => by
    have h : (resA ss env).map (EV.v x :: ·) = some as := h
    cases q : resA ss env with
    | none => rw [q] at h; cases h
    | some as2 => rw [q] at h; cases h; simp [resA_len q]
  | .s i :: ss, as, h => by
    obtain ⟨g, as2, e0, o, q, rfl⟩ := resA_own h
    simp [resA_len q]
theorem SReps.len : ∀ {ss : List AD} {xs : List V}, SReps T σ P ss xs → xs.length = ss.length
  | _, _, .nil => rfl
  | _, _, .d _ t => by simp [t.len]
  | _, _, .s _ t => by simp [t.len]
theorem all_d : ∀ {as : List AD} {j i : Nat}, (as.all fun a => match a with | .d _ => true | .s _ => false) = true → as[j]? = some (.s i) → False
  | [], j, i, _, h => by simp at h
  | a :: as, 0, i, h, h2 => by simp at h2; subst h2; simp at h
  | a :: as, j + 1, i, h, h2 => by
    simp only [List.getElem?_cons_succ] at h2
    rw [List.all_cons, Bool.and_eq_true] at h
    exact all_d h.2 h2
theorem few_one : ∀ {ss : List AD} {k j i : Nat}, fewO ss = true → ss[j]? = some (.s i) → ownIx k ss = some (k + j, i) ∧ ∀ j' i', ss[j']? = some (.s i') → j' = j
  | [], k, j, i, _, h => by simp at h
  | .d x :: ss, k, 0, i, _, h => by simp at h
  | .d x :: ss, k, j + 1, i, h, h2 => by
    simp only [List.getElem?_cons_succ] at h2
    obtain ⟨a, b⟩ := few_one (k := k + 1) (show fewO ss = true from h) h2
    refine ⟨by show ownIx (k + 1) ss = _; rw [a]; congr 2; omega, fun j' i' h3 => ?_⟩
    cases j' with
    | zero => simp at h3
    | succ j' => simp only [List.getElem?_cons_succ] at h3; rw [b j' i' h3]
  | .s i0 :: ss, k, 0, i, h, h2 => by
    simp at h2; subst h2
    refine ⟨rfl, fun j' i' h3 => ?_⟩
    cases j' with
    | zero => rfl
    | succ j' => simp only [List.getElem?_cons_succ] at h3; exact (all_d (show _ = true from h) h3).elim
  | .s i0 :: ss, k, j + 1, i, h, h2 => by
    simp only [List.getElem?_cons_succ] at h2
    exact (all_d (show _ = true from h) h2).elim
theorem Rel.call {ss : List AD} {as : List EV} {xs dvs : List V} {dfl : List D} (RR : Rel T env σ P H) (hr : resA ss env = some as) (hf : fewO ss = true) (hs : SReps T σ P ss xs) (hd : Reps T P dfl dvs) :
    Rel T ((as ++ dfl.map EV.v).map some) ((xs ++ dvs).map some) P H ∧ ∀ J b, Own ((as ++ dfl.map EV.v).map some) ((xs ++ dvs).map some) J b → ∃ (j i : Nat) (f : EV) (x : V), ss[j]? = some (AD.s i) ∧ as[j]? = some f ∧ f.isOwn = true ∧ env[i]? = some (some f) ∧ σ[i]? = some (some x) ∧ Foot f x J b := by
  have la := resA_len hr
  have lx := hs.len
  have get : ∀ (j : Nat) (f : EV), ((as ++ dfl.map EV.v).map some)[j]? = some (some f) → (as[j]? = some f ∧ j < as.length) ∨ (∃ d, f = .v d ∧ dfl[j - as.length]? = some d ∧ as.length ≤ j) := fun j f h => by
    rw [List.getElem?_map] at h
    cases q : (as ++ dfl.map EV.v)[j]? with
    | none => rw [q] at h; cases h
    | some g =>
      rw [q] at h; cases h
      by_cases hj : j < as.length
      · rw [List.getElem?_append_left hj] at q; exact .inl ⟨q, hj⟩
      · rw [List.getElem?_append_right (by omega), List.getElem?_map] at q
        cases q2 : dfl[j - as.length]? with
        | none => rw [q2] at q; cases q
        | some d => rw [q2] at q; cases q; exact .inr ⟨d, rfl, rfl, by omega⟩
  have getx : ∀ (j : Nat) (v : V), xs[j]? = some v → ((xs ++ dvs).map some)[j]? = some (some v) := fun j v h => by
    have hj : j < xs.length := by
      rcases Nat.lt_or_ge j xs.length with q | q
      · exact q
      · rw [List.getElem?_eq_none q] at h; cases h
    rw [List.getElem?_map, List.getElem?_append_left hj, h]; rfl
  have ow : ∀ (j : Nat) (f : EV) (x : V), ((as ++ dfl.map EV.v).map some)[j]? = some (some f) → f.isOwn = true → ((xs ++ dvs).map some)[j]? = some (some x) → ∃ (i : Nat), ss[j]? = some (.s i) ∧ as[j]? = some f ∧ env[i]? = some (some f) ∧ σ[i]? = some (some x) := fun j f x h o s => by
    rcases get j f h with ⟨q, hj⟩ | ⟨d, rfl, _⟩
    · rcases resA_get hr hs q with ⟨d, v, rfl, _⟩ | ⟨i, v, _, q1, q2, q3, q4⟩
      · cases o
      · rw [getx j v q3] at s
        cases s
        exact ⟨i, q1, q, q2, q4⟩
    · cases o
  refine ⟨⟨RR.sub, fun j f h => ?_, fun j l f g x y b n h1 h2 o1 o2 s1 s2 _ _ => ?_, ?_, RR.tabs⟩, fun J b ⟨j, f, x, h1, h2, h3, h4⟩ => ?_⟩
  · rcases get j f h with ⟨q, hj⟩ | ⟨d, rfl, q, hj⟩
    · rcases resA_get hr hs q with ⟨d, v, rfl, q1, q2⟩ | ⟨i, v, _, q1, q2, q3, q4⟩
      · exact ⟨v, getx j v q1, q2⟩
      · obtain ⟨u, hu, r⟩ := RR.ent i _ q2
        rw [q4] at hu; cases hu
        exact ⟨v, getx j v q3, r⟩
    · obtain ⟨v, hv, r⟩ := hd.get q
      refine ⟨v, ?_, r⟩
      rw [List.getElem?_map, List.getElem?_append_right (by omega), show j - xs.length = j - as.length by omega, hv]; rfl
  · obtain ⟨i1, a1, _, _⟩ := ow j f x h1 o1 s1
    obtain ⟨i2, a2, _, _⟩ := ow l g y h2 o2 s2
    exact n ((few_one (k := 0) hf a2).2 j i1 a1)
  · simp [la, lx, hd.length]
  · obtain ⟨i, a1, a2, a3, a4⟩ := ow j f x h1 h2 h3
    exact ⟨j, i, f, x, a1, a2, h2, a3, a4, h4⟩
end
end Ue
set_option linter.all false
set_option Elab.async false
set_option maxRecDepth 100000
set_option maxHeartbeats 4000000
namespace Ue
open PySem L2
section
variable {T : Tab} {W : WX} {kr : Kd} {pins : List Nat} {env env' : Env} {σ σ' : L2.St} {P H P' H' : Hp} {X : Cx} {pos : Pos} {e : Expr} {es : List Expr} {m : M} {ags : List Ag}
end
section
variable {P : Program} {w : World} {K : PySem.W.Frag} {mg : Str → Option Value} {base : Heap} {nm qual x msg g g1 g2 : Str} {params : Arguments} {scope : Scope} {f D C : Addr} {fd : FuncData} {p1 p2 p3 p4 p5 p6 p7 p8 p9 p10 p11 p12 p13 p14 : Pos} {j : Nat}
end
end Ue
set_option linter.all false
set_option Elab.async false
set_option maxRecDepth 100000
set_option maxHeartbeats 4000000
namespace Ue
open PySem PySem.Spec L2
section
variable {X : Cx} {pins : List (Addr × Obj)} {σ : L2.St} {H1 H2 : Hp} {Q : XK}
end
section
variable {T : Tab} {W : WX} {kr : Kd} {pins : List Nat} {env env' : Env} {σ σ' : L2.St} {P H P' H' : Hp} {X : Cx} {pos : Pos} {e e1 e2 : Expr} {es : List Expr} {m m1 m2 : M}
end
end Ue
set_option linter.all false
set_option Elab.async false
set_option maxRecDepth 100000
set_option maxHeartbeats 4000000
namespace Ue
open PySem PySem.Spec L2
section
variable {T : Tab} {W : WX} {kr : Kd} {pins : List Nat} {env env' : Env} {σ σ' : L2.St} {P H P' H' : Hp} {X : Cx} {pos : Pos}
end
end Ue
set_option linter.all false
set_option Elab.async false
set_option maxRecDepth 100000
set_option maxHeartbeats 4000000
namespace Ue
open PySem PySem.Spec L2
section
variable {T : Tab} {W : WX} {kr : Kd} {pins : List Nat} {env env' : Env} {σ σ' : L2.St} {P H P' H' : Hp} {X : Cx} {pos : Pos} {e a b c : Expr} {ka kb kc : Kd} {m ma mb mc : M}
end
end Ue
namespace Ue
open PySem PySem.Spec L2
section
variable {T : Tab} {W : WX} {env env' : Env} {σ σ' : L2.St} {P H P' H' : Hp} {X : Cx} {pos : Pos} {tg e a b c : Expr} {m : M}
end
end Ue
set_option linter.all false
set_option Elab.async false
set_option maxRecDepth 100000
set_option maxHeartbeats 4000000
namespace Ue
open PySem PySem.Spec L2
def allB (l : List Bool) : Bool := l.all id
end Ue
namespace Ue
open PySem PySem.Spec PyProof.Rows L2
end Ue
namespace Ue
open PySem PySem.Spec PyProof.Rows L2
end Ue
namespace Ue
open PySem PySem.Spec PyProof.Rows L2
end Ue
set_option linter.all false
set_option Elab.async false
set_option maxRecDepth 100000
set_option maxHeartbeats 4000000
namespace Ue
open PySem
section
variable {α β : Type} {a : α} {e env : Env} {c : Nat} {fs : List D} {d x y : D} {i j : Nat} {m ma mb mc : M} {t ta tb : MT} {b : Bool}
variable {p q : Int}
def CRes.go (r : CRes) (ss : List AD) (e : Env) : R D := match r with
  | .ok d as' => .ok d (putA ss as' e)
  | .exc c fs as' => .exc c fs (putA ss as' e)
  | .stk => .stk
end
end Ue
set_option linter.all false
set_option Elab.async false
set_option maxRecDepth 100000
set_option maxHeartbeats 4000000
namespace Ue
open PySem
section
variable {vs : List Nat} {g : TGM} {tt : MT} {te : M} {d : D} {ds : List D} {e e1 e2 e3 e' : Env} {k : Option D → Env → R (List D)}
end
end Ue
set_option linter.all false
set_option Elab.async false
set_option maxRecDepth 100000
set_option maxHeartbeats 4000000
namespace Ue
open PySem PySem.Spec L2
section
variable {X : Cx} {C : Addr} {k : Nat} {f : Addr} {fd : FuncData} {ps : List Str} {sp : Sp} {dvs : List V} {ds : List Value} {E : L2.St → XK} {x m : Str} {p pos apos : Pos} {e o : Expr} {es : List Expr} {ta : TE} {t : TA} {CX : CXT}
end
end Ue
namespace Ue
open PySem PySem.Spec L2
section
variable {T : Tab} {W : WX} {kr : Kd} {env : Env} {σ : L2.St} {P H H0 : Hp} {X : Cx} {F : FM} {n : Nat} {dfl : List D} {dvs : List V} {xs : List V} {ss : List AD} {Q : VK}
end
end Ue
namespace Ue
open PySem PySem.Spec L2
section
variable {T : Tab} {as as' : List EV} {vs : List V} {P H P' H' P2 : Hp} {x dx : Addr} {c c' : Nat} {fs : List D}
theorem Rel.made' {g : EV} (R2 : Rel T (as.map some) (vs.map some) P H) (hx : H x = none) (hd : H dx = none) (ne : dx ≠ x) (rg : ∀ J, J x = some (.ins (T.clsA c) dx []) → P x = none → EnvRep T P J g (.ref x)) (fg : ∀ J b, Foot g (.ref x) J b → b = x ∨ ∃ l, J x = some (.ins (T.clsA c) dx l) ∧ l ≠ []) :
    Rel T ((g :: as).map some) ((V.ref x :: vs).map some) P (upd (upd H dx (.own x)) x (.ins (T.clsA c) dx [])) := by
  have up : ∀ b o, H b = some o → (upd (upd H dx (.own x)) x (.ins (T.clsA c) dx [])) b = some o := fun b o h => by
    rw [upd_ne (fun z => by subst z; rw [hx] at h; cases h), upd_ne (fun z => by subst z; rw [hd] at h; cases h)]; exact h
  have px : P x = none := by
    cases q : P x with
    | none => rfl
    | some o => have := R2.sub _ _ q; rw [hx] at this; cases this
  have fx : ∀ b, Foot g (.ref x) (upd (upd H dx (.own x)) x (.ins (T.clsA c) dx [])) b → b = x := fun b t => by
    rcases fg _ b t with q | ⟨l, q, n⟩
    · exact q
    · rw [upd_same] at q; cases q; exact (n rfl).elim
  obtain ⟨R3, w⟩ := R2.reH (P' := P) (H' := upd (upd H dx (.own x)) x (.ins (T.clsA c) dx [])) (PSub.refl _) (fun b o h => up b o (R2.sub b o h)) (R2.tabs.ext up) (fun b u h1 h2 => ⟨up b u h1, (R2.ownAt h2).choose_spec.2⟩)
  refine ⟨R3.sub, fun i e h => ?_, fun i j e f y z a n h1 h2 o1 o2 s1 s2 t1 t2 => ?_, by simpa using R2.len, R3.tabs⟩
  · cases i with
    | zero =>
      simp at h; subst h
      exact ⟨.ref x, rfl, rg _ upd_same px⟩
    | succ i =>
      obtain ⟨v, hv, r⟩ := R3.ent i e (by simpa using h)
      exact ⟨v, by simpa using hv, r⟩
  · have at_ : ∀ (i : Nat) (e : EV) (y : V), (as.map some)[i]? = some (some e) → e.isOwn = true → (vs.map some)[i]? = some (some y) → Foot e y (upd (upd H dx (.own x)) x (.ins (T.clsA c) dx [])) x → False := fun i e y h o s t => R2.notOwn hx ((w x).mp ⟨i, e, y, h, o, s, t⟩)
    cases i with
    | zero =>
      cases j with
      | zero => exact n rfl
      | succ j =>
        simp at h1; subst h1
        simp at s1; subst s1
        cases fx a t1
        exact at_ j f z (by simpa using h2) o2 (by simpa using s2) t2
    | succ i =>
      cases j with
      | zero =>
        simp at h2; subst h2
        simp at s2; subst s2
        cases fx a t2
        exact at_ i e y (by simpa using h1) o1 (by simpa using s1) t1
      | succ j => exact R3.dis i j e f y z a (fun z => n (by rw [z])) (by simpa using h1) (by simpa using h2) o1 o2 (by simpa using s1) (by simpa using s2) t1 t2
theorem Rel.made (R2 : Rel T (as.map some) (vs.map some) P H) (hx : H x = none) (hd : H dx = none) (ne : dx ≠ x) :
    Rel T ((EV.new c [] :: as).map some) ((V.ref x :: vs).map some) P (upd (upd H dx (.own x)) x (.ins (T.clsA c) dx [])) :=
  R2.made' hx hd ne (fun J hJ px => ⟨x, dx, [], rfl, by rw [List.zip_nil_right]; exact hJ, px, Nat.zero_le _, Reps.nil⟩) fun J b t => by cases t.new; exact .inl rfl
end
end Ue
namespace Ue
open PySem PySem.Spec L2
section
variable {T : Tab} {W : WX} {kr : Kd} {env : Env} {σ : L2.St} {P H H0 : Hp} {X : Cx} {F : FM} {n nf c : Nat} {dfl : List D} {dvs : List V} {xs : List V} {ss : List AD} {Q : VK}
variable {k : Nat} {f : Addr} {fd : FuncData} {ps : List Str} {ds : List Value} {x m : Str} {p pos apos : Pos} {e o : Expr} {es : List Expr} {mo : M} {ags : List Ag}
end
end Ue
set_option linter.all false
set_option Elab.async false
set_option maxRecDepth 100000
set_option maxHeartbeats 4000000
namespace Ue
open PySem PySem.Spec L2
section
variable {T : Tab} {W : WX} {kr : Kd} {pins : List Nat} {env env' : Env} {σ σ' : L2.St} {P H P' H' : Hp} {X : Cx} {pos pos' : Pos} {o e : Expr} {m : M}
end
end Ue
set_option linter.all false
set_option Elab.async false
set_option maxRecDepth 100000
set_option maxHeartbeats 4000000
namespace Ue
open PySem PySem.Spec L2
section
variable {T T' : Tab} {W : WX} {kr : Kd} {pins : List Nat} {env env' : Env} {σ σ' : L2.St} {P H P' H' : Hp} {X : Cx} {pos : Pos} {i : Nat}
end
end Ue
set_option linter.all false
set_option Elab.async false
set_option maxRecDepth 100000
set_option maxHeartbeats 4000000
namespace Ue
open PySem PySem.Spec L2
section
variable {X : Cx} {C : Addr} {k n : Nat} {f : Addr} {fd : FuncData} {ps ks : List Str} {sp : Sp} {E : L2.St → XK} {x : Str} {p pos : Pos} {e : Expr} {es : List Expr} {kws : List Keyword} {t tk : TA} {CX : CXT} {g : List Value → List Value → List Value} {gV : List V → List V → List V}
end
section
variable {T : Tab} {W : WX} {env : Env} {σ : L2.St} {P H H0 : Hp} {X : Cx} {e : Expr} {kws : List Keyword} {m : M} {ags kgs : List Ag} {nm : Option Str} {kpos : Pos}
end
section
variable {T : Tab} {W : WX} {env : Env} {σ : L2.St} {P H : Hp} {X : Cx} {F : FM} {n nf c : Nat} {dfl : List D} {dvs : List V} {Q : VK} {ags kgs : List Ag}
end
section
variable {T : Tab} {W : WX} {X : Cx} {F : FM} {k n nf c : Nat} {dfl : List D} {dvs : List V} {ags kgs : List Ag} {f : Addr} {fd : FuncData} {ps ks : List Str} {x : Str} {p pos : Pos} {e : Expr} {es : List Expr} {kws : List Keyword} {g : List Value → List Value → List Value}
end
end Ue
set_option linter.all false
set_option Elab.async false
set_option maxRecDepth 100000
set_option maxHeartbeats 4000000
namespace Ue
open PySem PySem.Spec L2
abbrev FnA : Type := He.FnW
def seenAt (K : PySem.W.Frag) (a : Addr) : FnA := (K.lookup a).bind fun o => match o.data with
  | .func z => some (z.name, z.qualname, z.params, z.body, z.scope, z.globals, z.closure.filter fun p => !(p.1 == ("__class__" : Str)), z.builtins)
  | _ => none
structure DefG where
  ad : PySem.W.Frag → Addr
  d : He.DefD
def insB (K : PySem.W.Frag) (C : Addr) : Bool := decide (PySem.W.findIn K (.ref C) "__class__" = some (some (.builtin "object.__class__"))) && (decide (PySem.W.specialIn K (.builtin "object.__class__") "__get__" = some (some (.builtin "getset_descriptor.__get__"))) &&
  (decide (PySem.W.takesIn K (.builtin "object.__class__") = some true) && decide (PySem.W.mroIn K C (.type "object") = some true)))
def isTabB (K : PySem.W.Frag) (cA : Nat → Addr) (ans : Value → Option Bool) (tys : List (String × Bool)) (cls : List (Nat × Bool)) : Bool := (tys.all fun q => decide (ans (.type q.1) = some q.2)) && (cls.all fun q => decide (ans (.ref (cA q.1)) = some q.2) && insB K (cA q.1))
structure SaysV (fa : List He.Fa) (fn : List He.DefD) (gs : List DefG) (ex : PySem.W.Frag → Bool) (K : PySem.W.Frag) : Prop where
  d : He.SaysD fa fn K
  g : gs.map (fun g => seenAt K (g.ad K)) = gs.map fun g => g.d.val
  more : ex K = true
abbrev AlV : Type := He.AlD × List FnA × Bool
def obsKV (fa : List He.Fa) (fn : List He.DefD) (gs : List DefG) (ex : PySem.W.Frag → Bool) (K : PySem.W.Frag) : AlV := (He.obsD fa fn K, gs.map (fun g => seenAt K (g.ad K)), ex K)
def valV (fn : List He.DefD) (gs : List DefG) : AlV := (He.valD fn, gs.map (fun g => g.d.val), true)
theorem saysV_of {fa : List He.Fa} {fn : List He.DefD} {gs : List DefG} {ex : PySem.W.Frag → Bool} {K : PySem.W.Frag} (e : obsKV fa fn gs ex K = valV fn gs) : SaysV fa fn gs ex K := by
  unfold obsKV valV at e
  obtain ⟨e1, e2⟩ := Prod.mk.inj e
  obtain ⟨e3, e4⟩ := Prod.mk.inj e2
  exact ⟨e1, e3, e4⟩
end Ue
set_option linter.all false
set_option Elab.async false
set_option maxRecDepth 100000
set_option maxHeartbeats 4000000
namespace Ue
open PySem PySem.Spec L2
section
variable {X : Cx} {Z : CXT} {k n : Nat} {C g f : Addr} {fd : FuncData} {ps ks : List Str} {sp : Sp} {dvs : List V} {ds : List Value} {E : L2.St → XK} {x m : Str} {xp pos apos : Pos} {e : Expr} {es : List Expr} {kws : List Keyword} {t tk : TA} {gg : List Value → List Value → List Value} {gV : List V → List V → List V}
end
end Ue
set_option linter.all false
set_option Elab.async false
set_option maxRecDepth 100000
set_option maxHeartbeats 4000000
namespace Ue
open PySem PySem.Spec PyProof.Rows L2
end Ue
namespace Ue
open PySem PySem.Spec L2
section
variable {T : Tab} {W : WX} {kr : Kd} {pins : List Nat} {env env' : Env} {σ σ' : L2.St} {P H P' H' : Hp} {X : Cx} {pos : Pos} {a b c : Expr} {ma mb mc : M} {o o1 o2 o3 : Bool} {i j l : Nat} {d : D} {x : V}
end
end Ue
set_option linter.all false
set_option Elab.async false
set_option maxRecDepth 100000
set_option maxHeartbeats 4000000
namespace Ue
open PySem PySem.Spec L2
section
variable {T : Tab} {as as' : List EV} {vs : List V} {v : V} {P H P' H' : Hp} {c c' : Nat} {fs fs' : List D}
end
section
variable {T : Tab} {W : WX} {kr : Kd} {env : Env} {σ : L2.St} {P H H0 : Hp} {X : Cx} {F : FM} {n : Nat} {dfl : List D} {dvs : List V} {xs : List V} {ss : List AD} {Q : VK} {v0 : V}
end
section
variable {T : Tab} {W : WX} {kr : Kd} {env : Env} {σ : L2.St} {P H H0 : Hp} {X : Cx} {F : FM} {k n : Nat} {dfl : List D} {dvs : List V} {ds : List Value} {xs : List V} {ss : List AD} {Q : VK} {ags kgs : List Ag} {f C : Addr} {fd : FuncData} {ps ks : List Str} {x m : Str} {p xp pos apos : Pos} {e : Expr} {es : List Expr} {kws : List Keyword} {gg : List Value → List Value → List Value}
end
section
variable {T : Tab} {W : WX} {env : Env} {σ : L2.St} {P H : Hp} {X : Cx} {F : FM} {k c : Nat} {ma mb : M} {a b : Expr} {pos : Pos} {f : Addr} {fd : FuncData} {ps : List Str} {tys : List String} {cs : List Nat}
end
end Ue
set_option linter.all false
set_option Elab.async false
set_option maxRecDepth 100000
set_option maxHeartbeats 4000000
namespace Ue
open PySem PySem.Spec L2
section
variable {T : Tab} {W : WX} {env : Env} {σ : L2.St} {P H : Hp} {X : Cx} {ma : M} {ka : Kd} {a : Expr} {tys : List (String × Bool)} {cls : List (Nat × Bool)} {ans : Value → Option Bool} {pos p p2 p3 pt : Pos}
end
section
variable {α β : Type} {e env : Env} {c c' i j l nf : Nat} {fs gs : List D} {d : D} {m ma mb mc mo : M} {F : FM} {ags kgs : List Ag} {dfl : List D} {as : List EV} {ss : List AD}
end
end Ue
set_option linter.all false
set_option Elab.async false
set_option maxRecDepth 100000
set_option maxHeartbeats 4000000
namespace Ue
open PySem PySem.Spec L2
def tys : List String := ["NoneType", "bool", "int", "str", "tuple", "list"]
end Ue
set_option linter.all false
set_option Elab.async false
set_option maxRecDepth 100000
set_option maxHeartbeats 4000000
namespace Ue
open PySem PySem.Spec PyProof.Rows L2
section
variable {X : Cx} {Z : CXT} {k n : Nat} {C g f : Addr} {fd : FuncData} {ps : List Str} {sp : Sp} {dvs : List V} {ds : List Value} {E : L2.St → XK} {x m nm : Str} {xp pos apos : Pos} {a b : Expr} {ta tb : TE} {op : Operator}
end
section
variable {T : Tab} {W : WX} {env : Env} {σ : L2.St} {P H : Hp} {X : Cx} {F : FM} {k n c : Nat} {dfl : List D} {dvs : List V} {ds : List Value} {ma mb : M} {a b : Expr} {pos xp apos : Pos} {f C : Addr} {fd : FuncData} {ps : List Str} {nm x m : Str} {op : Operator}
end
section
variable {X : Cx} {T : Tab}
end
end Ue
set_option linter.all false
set_option Elab.async false
set_option maxRecDepth 100000
set_option maxHeartbeats 4000000
namespace Ue
open PySem PySem.Spec PyProof.Rows L2
section
variable {X : Cx} {T : Tab} {W : WX} {a b : Expr} {ma mb : M} {ka kb : Kd} {pos : Pos}
end
end Ue
set_option linter.all false
set_option Elab.async false
set_option maxRecDepth 100000
set_option maxHeartbeats 4000000
namespace Ue
open PySem PySem.Spec L2
section
variable {T : Tab} {W : WX} {kr : Kd} {pins : List Nat} {env env' : Env} {σ σ' : L2.St} {P H P' H' : Hp} {X : Cx} {pos : Pos} {a b c : Expr} {ma mb mc : M} {o o1 o2 o3 : Bool} {i j l : Nat} {d : D} {x : V}
end
end Ue
set_option linter.all false
set_option Elab.async false
set_option maxRecDepth 100000
set_option maxHeartbeats 4000000
namespace Ue
open PySem PySem.Spec PyProof.Rows L2
section
variable {X : Cx} {Z : CXT} {k n : Nat} {C g f : Addr} {fd : FuncData} {ps : List Str} {sp : Sp} {E : L2.St → XK} {A1 : Around} {pins : List (Addr × Obj)} {σ : L2.St} {H : Hp} {s : Shared} {Q : VK}
theorem FnG.codeA {ar : Args} {us : List Value} {vs : List V} {E : XK} (F : FnG X.prog X.w X.K X.mg X.base Z k f fd ps sp) (gd : A1.guards = some []) (hr : Room k A1) (fr : A1.frames = X.A.frames) (hx : PassesAt Z X σ E) (I : Inv X pins σ H s) (hb : BindsTo s fd ar (ps.zip us)) (r : Vals vs us) (h : sp vs H Q E) :
    codeAny (model X.prog X.w) A1 (.call (.ref f) ar) (fun r t => match r with | .ok (.ret u) => CE X.stack X.prog X.w H s Q u t | .ok _ => False | .error er => X.xe er t) s := by
  have e0 : Env0 X.prog X.w X.K X.mg X.base A1 X.stack s H := by
    have e := I.env0
    exact ⟨by rw [fr]; exact e.frames, e.mod, e.bs, e.bsz, e.funs, e.frf, e.hok, e.bare⟩
  refine codeAny_mono (F.go A1 X.stack s H ar us vs Q E gd hr e0 hb r h) fun res t hq => ?_
  match res, hq with
  | .error er, hq => exact hx pins H s er t I hq
  | .ok (.ret u), hq => exact hq
  | .ok .next, hq => exact hq
  | .ok .brk, hq => exact hq
  | .ok .cont, hq => exact hq
theorem run1 {a : Addr} (F : FnG X.prog X.w X.K X.mg X.base Z k f fd ps sp) (gd : A1.guards = some []) (hr : Room k A1) (fr : A1.frames = X.A.frames) (hb : Binds X.K fd ps []) {E : XK} (hx : PassesAt Z X σ E) (I : Inv X pins σ H s) (h : sp [.ref a] H Q E) :
    wpAny (model X.prog X.w) A1 (call (.ref f) [.ref a]) (CE X.stack X.prog X.w H s Q) X.xe s := by
  have rr : Vals [V.ref a] [Value.ref a] := .cons rfl .nil
  exact wpAny_call (F.codeA gd hr fr hx I (hb s [.ref a] I.kIn (rr.length.symm.trans (F.len _ _ _ _ h))) rr h)
structure FnS (P : Program) (w : World) (K : PySem.W.Frag) (mg : Str → Option Value) (base : Heap) (Z : CXT) (k : Nat) (f : Addr) (fd : FuncData) (ps : List Str) (sp : Nat → Sp) : Prop where
  len : ∀ n vs H Q E, sp n vs H Q E → vs.length = ps.length
  go : ∀ (B : Around) (o : List PySem.Env) (t : Shared) (H : Hp) (ar : Args) (us : List Value) (vs : List V) (Q : VK) (E : XK), B.guards = some [] → Room k B → Env0 P w K mg base B o t H → BindsTo t fd ar (ps.zip us) → Vals vs us → sp t.heap.objs.size vs H Q E →
    codeAny (model P w) B (.call (.ref f) ar) (CR Z o P w H t Q E) t
theorem FnS.run1 {spn : Nat → Sp} {a : Addr} (F : FnS X.prog X.w X.K X.mg X.base Z k f fd ps spn) (gd : A1.guards = some []) (hr : Room k A1) (fr : A1.frames = X.A.frames) (hb : Binds X.K fd ps []) {E : XK} (hx : PassesAt Z X σ E) (I : Inv X pins σ H s) (h : spn s.heap.objs.size [.ref a] H Q E) :
    wpAny (model X.prog X.w) A1 (call (.ref f) [.ref a]) (CE X.stack X.prog X.w H s Q) X.xe s := by
  have rr : Vals [V.ref a] [Value.ref a] := .cons rfl .nil
  have e0 : Env0 X.prog X.w X.K X.mg X.base A1 X.stack s H := by
    have e := I.env0
    exact ⟨by rw [fr]; exact e.frames, e.mod, e.bs, e.bsz, e.funs, e.frf, e.hok, e.bare⟩
  refine wpAny_call (codeAny_mono (F.go A1 X.stack s H ⟨[.ref a], []⟩ [.ref a] [.ref a] Q E gd hr e0 (hb s [.ref a] I.kIn (rr.length.symm.trans (F.len _ _ _ _ _ h))) rr h) fun res t hq => ?_)
  match res, hq with
  | .error er, hq => exact hx pins H s er t I hq
  | .ok (.ret u), hq => exact hq
  | .ok .next, hq => exact hq
  | .ok .brk, hq => exact hq
  | .ok .cont, hq => exact hq
end
end Ue
set_option linter.all false
set_option Elab.async false
set_option maxRecDepth 100000
set_option maxHeartbeats 4000000
namespace Ue
open PySem PySem.Spec PyProof.Rows L2
section
variable {X : Cx} {Z : CXT} {k n : Nat} {C g f fi : Addr} {fd fdi : FuncData} {ps psi : List Str} {sp : Sp} {E : L2.St → XK} {A1 : Around} {pins : List (Addr × Obj)} {σ : L2.St} {H : Hp} {s : Shared} {Q : VK}
end
end Ue
set_option linter.all false
set_option Elab.async false
set_option maxRecDepth 100000
set_option maxHeartbeats 4000000
namespace Ue
open PySem PySem.Spec PyProof.Rows L2
section
variable {T : Tab} {W : WX} {env env' : Env} {σ : L2.St} {P H H' P' : Hp} {X : Cx} {F : FM} {k n c j : Nat} {m ma mb : M} {a b e : Expr} {pos : Pos} {f fi : Addr} {fd fdi : FuncData} {ps psi : List Str} {fl : Str}
end
end Ue
set_option linter.all false
set_option Elab.async false
set_option maxRecDepth 100000
set_option maxHeartbeats 4000000
namespace Ue
open PySem PySem.Spec PyProof.Rows L2
section
variable {T : Tab} {W : WX} {X : Cx} {i : Nat} {tab : List (Nat × Bool)} {e ce : Expr} {v : V} {cv : Value} {p pos : Pos}
end
section
variable {c j : Nat} {F : FM} {m ma mb : M} {env : Env}
end
end Ue
set_option linter.all false
set_option Elab.async false
set_option maxRecDepth 100000
set_option maxHeartbeats 4000000
namespace Ue
open PySem PySem.Spec PyProof.Rows L2
section
variable {T : Tab} {P : Hp} {a : Addr} {ws : List V}
end
section
variable {T : Tab} {W : WX} {env : Env} {σ : L2.St} {P H H' P' : Hp} {X : Cx} {i : Nat} {m : M} {e : Expr} {ds : List D} {a : Addr} {vs : List V}
end
end Ue
set_option linter.all false
set_option Elab.async false
set_option maxRecDepth 100000
set_option maxHeartbeats 4000000
namespace Ue
open PySem PySem.Spec PyProof.Rows L2
theorem FnS.mono {P : Program} {w : World} {K : PySem.W.Frag} {mg : Str → Option Value} {base : Heap} {Z : CXT} {j k : Nat} {f : Addr} {fd : FuncData} {ps : List Str} {sp : Nat → Sp} (F : FnS P w K mg base Z j f fd ps sp) (h : j ≤ k) : FnS P w K mg base Z k f fd ps sp :=
  ⟨F.len, fun B o t H ar us vs Q E g r => F.go B o t H ar us vs Q E g (r.mono h)⟩
end Ue
set_option linter.all false
set_option Elab.async false
set_option maxRecDepth 100000
set_option maxHeartbeats 4000000
namespace PySem
section
variable {prog : Program} {w : World} {A : Around} {E : Value → Shared → Prop} {s : Shared} {l : Addr} {xs : Array (Int × Tok)}
end
end PySem
namespace L2
open PySem PySem.Spec PyProof.Rows
section
variable {X : Cx}
end
end L2
namespace Ue
open PySem L2
section
variable {T : Tab}
end
end Ue
set_option linter.all false
set_option Elab.async false
set_option maxRecDepth 100000
set_option maxHeartbeats 4000000
namespace Ue
open PySem PySem.Spec PyProof.Rows L2 RZ
section
variable {T : Tab} {W : WX} {env : Env} {σ : L2.St} {P H : Hp} {X : Cx} {ma mb : M} {a b : Expr}
end
end Ue
set_option linter.all false
set_option Elab.async false
set_option maxRecDepth 100000
set_option maxHeartbeats 4000000
namespace PySem
open Sem (wp)
section
variable {prog : Program} {w : World} {A : Around} {E : Value → Shared → Prop} {s : Shared}
end
end PySem
set_option linter.all false
set_option Elab.async false
set_option maxRecDepth 100000
set_option maxHeartbeats 4000000
namespace PySem
section
variable {prog : Program} {w : World} {A : Around} {E : Value → Shared → Prop} {s : Shared}
end
end PySem
namespace L2
open PySem PySem.Spec PyProof.Rows
end L2
namespace Ue
open PySem PySem.Spec PyProof.Rows L2
section
variable {T : Tab} {W : WX} {env : Env} {σ : L2.St} {P H : Hp} {X : Cx} {m : M} {e : Expr}
end
end Ue
set_option linter.all false
set_option Elab.async false
set_option maxRecDepth 100000
set_option maxHeartbeats 4000000
namespace PySem
section
variable {prog : Program} {w : World} {A : Around} {E : Value → Shared → Prop} {s : Shared} {l : Addr} {xs : Array (Int × Tok)}
end
end PySem
namespace L2
open PySem PySem.Spec PyProof.Rows
section
variable {X : Cx}
end
end L2
namespace Ue
open PySem L2
section
variable {T : Tab}
end
end Ue
set_option linter.all false
set_option Elab.async false
set_option maxRecDepth 100000
set_option maxHeartbeats 4000000
namespace Ue
open PySem PySem.Spec PyProof.Rows L2
section
variable {X : Cx} {k : Nat} {C p g a dx : Addr} {fs : List (Str × V)} {f : Str} {fd : FuncData} {ps : List Str} {sp : Sp} {e : Expr} {pos : Pos} {ta : TE}
end
section
variable {T : Tab} {W : WX} {X : Cx} {F : FM} {k c : Nat} {m : M} {e : Expr} {pos : Pos} {f : Str} {p g : Addr} {fd : FuncData} {ps : List Str} {env : Env}
end
end Ue
set_option linter.all false
set_option Elab.async false
set_option maxRecDepth 100000
set_option maxHeartbeats 4000000
namespace Ue
open PySem PySem.Spec PyProof.Rows L2
section
variable {X : Cx} {Z : CXT} {k n : Nat} {C g f : Addr} {fd : FuncData} {ps : List Str} {sp : Sp} {E : L2.St → XK} {nm : Str} {pos : Pos} {a b : Expr} {ta tb : TE} {op : Operator}
end
section
variable {T : Tab} {W : WX} {env : Env} {σ : L2.St} {P H : Hp} {X : Cx} {F : FM} {k c : Nat} {ma mb : M} {a b : Expr} {pos : Pos} {f : Addr} {fd : FuncData} {ps : List Str} {nm : Str} {op : Operator}
end
end Ue
set_option linter.all false
set_option Elab.async false
set_option maxRecDepth 100000
set_option maxHeartbeats 4000000
namespace Ue
open PySem PySem.Spec PyProof.Rows L2
structure Caught (X : Cx) (pins : List (Addr × Obj)) (B : Heap) (sI s : Shared) (a : Addr) (cls : Value) (d : Option Addr) (σ : L2.St) (H : Hp) : Prop where
  inv : Inv X pins σ H sI
  ground : ∀ b o, sI.heap.get? b = some o → b ∉ frs X.stack → B.get? b = some o
  up : sI.heap.UpToSlots s.heap
  fly : HandSPX.FlyingZ B (X.env :: X.outer) a (Zc cls d) s.heap
  new : H a = none
  os : s.os = sI.os
  bare : AllBare s.gens
section
variable {X : Cx} {pins : List (Addr × Obj)} {B : Heap} {sI s : Shared} {a : Addr} {cls : Value} {d : Option Addr} {σ : L2.St} {H : Hp} {D : Ends} {w : WX}
theorem Caught.safe (C : Caught X pins B sI s a cls d σ H) : Inv X pins σ H s := C.inv.landed C.ground C.fly.1 C.up C.os C.bare
theorem Caught.obj (hf : X.env.frame = some X.env.locals) (C : Caught X pins B sI s a cls d σ H) : ∃ oe vs, s.heap.get? a = some oe ∧ Zc cls d oe ∧ oe.data = .fields vs ∧ Inv (X.suite a ((a, oe) :: (X.pn ++ pins))) [] σ H s := by
  obtain ⟨oe, vs, h1, h2, h3⟩ := C.fly.there
  have off : ∀ e : PySem.Env, e ∈ X.env :: X.outer → ∀ L, e.frame = some L → a ≠ L := fun e he L hL q => by
    obtain ⟨_, o, h4, h5⟩ := C.fly.2.2.1.mem (b := a) (List.mem_filterMap.mpr ⟨e, he, by rw [q]; exact hL⟩)
    rw [h1] at h4
    cases h4
    exact h5 _ h3
  refine ⟨oe, vs, h1, h2, h3, C.safe.suite h1 h3 C.new (off _ List.mem_cons_self _ hf) fun q => ?_⟩
  obtain ⟨e, he, hL⟩ := List.mem_filterMap.mp q
  exact off e (List.mem_cons_of_mem _ he) a hL rfl
end
end Ue
set_option linter.all false
set_option Elab.async false
set_option maxRecDepth 100000
set_option maxHeartbeats 4000000
namespace Ue
open PySem PySem.Spec L2
abbrev HM := Nat → List D → MS
section
variable {T : Tab} {W : WX} {kr : Kd} {pins : List Nat} {X : Cx} {pos : Pos} {i : Nat} {D : Ends} {w : WX} {rest : HM}
end
section
variable {e : Env} {d : D} {c : Nat} {fs : List D} {h : HM}
end
end Ue
set_option linter.all false
set_option Elab.async false
set_option maxRecDepth 100000
set_option maxHeartbeats 4000000
namespace L2
open PySem PySem.Spec PyProof.Rows
section
variable {X : Cx}
end
end L2
namespace Ue
open PySem PySem.Spec PyProof.Rows L2
section
variable {T : Tab} {W : WX} {X : Cx} {k : Nat} {ke : Kd} {m : M} {e : Expr} {p pos kp q : Pos} {j : Nat}
end
end Ue
set_option linter.all false
set_option Elab.async false
set_option maxRecDepth 100000
set_option maxHeartbeats 4000000
namespace Ue
open PySem PySem.Spec PyProof.Rows L2
section
variable {prog : Program} {w : World} {A : Around} {E : Value → Shared → Prop} {s : Shared} {K : PySem.W.Frag} {a C dx f : Addr} {us : List Value} {Q : Value → Shared → Prop} {od : Option Obj}
end
section
variable {X : Cx} {Z : CXT} {k : Nat} {C f : Addr} {fd : FuncData} {ps : List Str} {ds : List Value} {dvs : List V} {sp : Sp} {E : L2.St → XK} {x : Str} {p pos : Pos} {e : Expr} {es : List Expr} {ta : TE} {t : TA}
end
section
variable {T : Tab} {W : WX} {kr : Kd} {X : Cx} {σ : L2.St} {H : Hp} {Q : VK} {c n k : Nat} {F : FM} {mo : M} {ags : List Ag} {dfl : List D} {dvs : List V} {ds : List Value} {f : Addr} {fd : FuncData} {ps : List Str} {x : Str} {p pos : Pos} {e : Expr} {es : List Expr}
end
end Ue
set_option linter.all false
set_option Elab.async false
set_option maxRecDepth 100000
set_option maxHeartbeats 4000000
namespace PySem
open Sem (wp)
end PySem
namespace Ue
open PySem PySem.Spec PyProof.Rows L2
section
variable {X : Cx} {Z : CXT} {k : Nat} {C f : Addr} {fd : FuncData} {ps : List Str} {E : L2.St → XK}
end
end Ue
set_option linter.all false
set_option Elab.async false
set_option maxRecDepth 100000
set_option maxHeartbeats 4000000
namespace Ue
open PySem PySem.Spec PyProof.Rows L2
section
variable {T : Tab} {W : WX} {X : Cx} {σ : L2.St} {H : Hp} {c j k : Nat} {m : M} {a b : MI} {e tg : Expr} {f : Addr} {fd : FuncData} {ps : List Str} {fl : Str} {p pos tpos : Pos} {elts : List Expr} {kk : Nat}
end
end Ue
set_option linter.all false
set_option Elab.async false
set_option maxRecDepth 100000
set_option maxHeartbeats 4000000
namespace Ue
open PySem PySem.Spec PyProof.Rows L2
section
variable {X : Cx}
end
section
variable {T : Tab} {W : WX} {X : Cx} {ka : Kd} {ks : List Kd} {mo m : M} {ms : List M} {o e : Expr} {os : List Expr} {apos cpos pos : Pos} {kk : Nat}
end
end Ue
set_option linter.all false
set_option Elab.async false
set_option maxRecDepth 100000
set_option maxHeartbeats 4000000
namespace Ue
open PySem PySem.Spec PyProof.Rows L2
end Ue
set_option linter.all false
set_option Elab.async false
set_option maxRecDepth 100000
set_option maxHeartbeats 4000000
namespace Ue
open PySem PySem.Spec PyProof.Rows L2
section
variable {X : Cx} {e st : Expr} {te : TE} {pos p2 : Pos}
end
section
variable {T : Tab} {W : WX} {X : Cx} {k : Kd} {m : M} {e : Expr} {pos p2 q q2 : Pos} {j : Nat}
end
end Ue
set_option linter.all false
set_option Elab.async false
set_option maxRecDepth 100000
set_option maxHeartbeats 4000000
namespace Ue
open PySem PySem.Spec PyProof.Rows L2
section
variable {T : Tab} {W : WX} {kr : Kd} {env env' : Env} {σ : L2.St} {P H P' H' : Hp} {a : Addr} {x : EV}
end
section
variable {F : FM} {m : M} {ags : List Ag} {dfl : List D} {env e : Env} {d x : D} {c : Nat} {fs : List D} {as : List EV} {ss : List AD}
end
end Ue
set_option linter.all false
set_option Elab.async false
set_option maxRecDepth 100000
set_option maxHeartbeats 4000000
namespace Ue
open PySem PySem.Spec PyProof.Rows L2
section
variable {T : Tab} {W : WX} {X : Cx} {P H : Hp} {m : M} {e tg : Expr}
end
end Ue
set_option linter.all false
set_option Elab.async false
set_option maxRecDepth 100000
set_option maxHeartbeats 4000000
namespace L2
open PySem PySem.Spec PyProof.Rows
section
variable {X : Cx}
end
end L2
namespace Ue
open PySem PySem.Spec PyProof.Rows L2
section
variable {T : Tab} {W : WX} {X : Cx} {k : Kd} {m : M} {e : Expr} {p p2 q pos : Pos}
end
end Ue
set_option linter.all false
set_option Elab.async false
set_option maxRecDepth 100000
set_option maxHeartbeats 4000000
namespace Ue
open PySem PySem.Spec PyProof.Rows L2
section
variable {T : Tab} {W : WX} {kr : Kd} {pins : List Nat} {X : Cx} {st : List Stmt} {a b : MS} {i : Nat}
end
end Ue
set_option linter.all false
set_option Elab.async false
set_option maxRecDepth 100000
set_option maxHeartbeats 4000000
namespace Ue
open PySem PySem.Spec PyProof.Rows L2
section
variable {T : Tab} {W : WX} {X : Cx} {m : M} {e : Expr} {pos q : Pos} {ps : List (Int × Int)} {keys : List (Option Expr)} {values : List Expr}
end
end Ue
set_option linter.all false
set_option Elab.async false
set_option maxRecDepth 100000
set_option maxHeartbeats 4000000
namespace Ue
open PySem PySem.Spec PyProof.Rows L2
structure FnV (P : Program) (w : World) (K : PySem.W.Frag) (mg : Str → Option Value) (base : Heap) (Z : CXT) (k : Nat) (f : Addr) (n : Nat) (sp : Sp) : Prop where
  len : ∀ vs H Q E, sp vs H Q E → vs.length = n
  go : ∀ (B : Around) (o : List PySem.Env) (t : Shared) (H : Hp) (us : List Value) (vs : List V) (Q : VK) (E : XK), B.guards = some [] → Room k B → Env0 P w K mg base B o t H → Vals vs us → sp vs H Q E →
    codeAny (model P w) B (.call (.ref f) ⟨us, []⟩) (CR Z o P w H t Q E) t
section
variable {P : Program} {w : World} {K : PySem.W.Frag} {mg : Str → Option Value} {base : Heap} {Z : CXT} {j k n : Nat} {f : Addr} {fd : FuncData} {ps N : List Str} {sp sp2 : Sp} {pv : Str}
theorem FnV.mono (F : FnV P w K mg base Z j f n sp) (h : j ≤ k) : FnV P w K mg base Z k f n sp := ⟨F.len, fun B o t H us vs Q E g r => F.go B o t H us vs Q E g (r.mono h)⟩
end
section
variable {T : Tab} {env : Ue.Env} {σ : L2.St} {P H : Hp} {d : D} {x : V}
end
section
variable {T : Tab} {N : List Str} {pins : List Nat} {prog : Program} {w : World} {K : PySem.W.Frag} {mg : Str → Option Value} {base : Heap} {f : Addr} {ps : List Str} {k n : Nat} {fr : Bool} {m : MS}
end
section
variable {X : Cx} {Z : CXT} {k n : Nat} {f : Addr} {sp : Sp} {x : Str} {p pos : Pos} {e : Expr} {es : List Expr} {t : TA} {pins : List (Addr × Obj)} {σ : L2.St} {H : Hp} {s : Shared} {Q : VK}
end
section
variable {T : Tab} {W : WX} {kr : Kd} {X : Cx} {pos : Pos} {e : Expr} {es : List Expr} {ags : List Ag}
end
end Ue
set_option linter.all false
set_option Elab.async false
set_option maxRecDepth 100000
set_option maxHeartbeats 4000000
namespace Ue
open PySem PySem.Spec PyProof.Rows L2
end Ue
set_option linter.all false
set_option Elab.async false
set_option maxRecDepth 100000
set_option maxHeartbeats 4000000
namespace L2
open PySem PySem.Spec PyProof.Rows
section
variable {X : Cx}
end
end L2
namespace Ue
open PySem PySem.Spec PyProof.Rows L2
section
variable {T : Tab}
end
end Ue
set_option linter.all false
set_option Elab.async false
set_option maxRecDepth 100000
set_option maxHeartbeats 4000000
namespace Ue
open PySem PySem.Spec PyProof.Rows L2
theorem two_parts {α A B C : Type} {r : Option α} {f : α → A} {g : α → B} {o : α → C} {a : A} {b : B} {c : C} (h1 : r.map (fun x => (f x, g x)) = some (a, b)) (h2 : r.map o = some c) : r.map (fun x => (f x, g x, o x)) = some (a, b, c) := by
  cases r with
  | none => cases h1
  | some x =>
    simp only [Option.map_some, Option.some.injEq, Prod.mk.injEq] at h1 h2 ⊢
    exact ⟨h1.1, h1.2, h2⟩
end Ue
set_option linter.all false
set_option Elab.async false
set_option maxRecDepth 100000
set_option maxHeartbeats 4000000
namespace Ue
open PySem PySem.Spec PyProof.Rows L2
variable {T : Tab} {W : World} {X : Cx} {pos : Pos}
end Ue
set_option linter.all false
set_option Elab.async false
set_option maxRecDepth 100000
set_option maxHeartbeats 4000000
namespace Ue
open PySem PySem.Spec PyProof.Rows L2
section
variable {X : Cx} {o i : Expr} {pos : Pos} {ty : TE} {q : Addr} {ps : List (Int × Int)}
end
section
variable {T : Tab} {W : WX} {X : Cx} {m : M} {e : Expr} {pos pos' : Pos} {q : Addr} {ps : List (Int × Int)} {x : Str}
end
end Ue
set_option linter.all false
set_option Elab.async false
set_option maxRecDepth 100000
set_option maxHeartbeats 4000000
namespace Ue
open PySem PySem.Spec PyProof.Rows L2
section
variable {M : Model} {prog : Program} {w : World} {A : Around} {E : Value → Shared → Prop} {s : Shared} {K : PySem.W.Frag} {x C f : Addr} {ox : Obj} {od : Option Obj}
end
section
variable {X : Cx} {k : Nat} {C f : Addr} {fd : FuncData} {ps : List Str} {sp : Sp}
end
section
variable {T : Tab} {W : WX} {σ : L2.St} {H : Hp} {X : Cx} {F : FM} {k c : Nat} {ma mb : M} {a b : Expr} {pos : Pos} {f : Addr} {fd : FuncData} {ps : List Str} {tys : List String} {cs : List Nat}
end
end Ue
set_option linter.all false
set_option Elab.async false
set_option maxRecDepth 100000
set_option maxHeartbeats 4000000
namespace Ue
open PySem PySem.Spec PyProof.Rows L2
section
variable {T : Tab} {P P' H H' : Hp}
theorem FReps.dE {x : D} {fs : List FV} {vs : List V} (h : FReps T P H (.d x :: fs) vs) : ∃ v r, vs = v :: r ∧ Rep T P x v ∧ FReps T P H fs r := by rwa [FReps] at h
theorem FReps.oE {xs : List D} {fs : List FV} {vs : List V} (h : FReps T P H (.o xs :: fs) vs) : ∃ b ws r, vs = .ref b :: r ∧ H b = some (.lst ws) ∧ P b = none ∧ Reps T P xs ws ∧ FReps T P H fs r := by rwa [FReps] at h
theorem FReps.nil : FReps T P H [] [] := by rw [FReps]
theorem FReps.getD : ∀ {fs : List FV} {vs : List V} {j : Nat} {x : D}, FReps T P H fs vs → fs[j]? = some (.d x) → ∃ v, vs[j]? = some v ∧ Rep T P x v
  | [], _, _, _, _, e => by simp at e
  | .d y :: _, _, 0, x, h, e => by
    obtain ⟨v, r, rfl, h1, _⟩ := h.dE
    simp at e; subst e
    exact ⟨v, rfl, h1⟩
  | .o y :: _, _, 0, x, h, e => by simp at e
  | .d y :: _, _, j + 1, x, h, e => by
    obtain ⟨v, r, rfl, _, h2⟩ := h.dE
    obtain ⟨w, h3, h4⟩ := FReps.getD h2 (by simpa using e)
    exact ⟨w, by simpa using h3, h4⟩
  | .o y :: _, _, j + 1, x, h, e => by
    obtain ⟨b, ws, r, rfl, _, _, _, h2⟩ := h.oE
    obtain ⟨w, h3, h4⟩ := FReps.getD h2 (by simpa using e)
    exact ⟨w, by simpa using h3, h4⟩
variable {env : Env} {σ : L2.St}
end
end Ue
set_option linter.all false
set_option Elab.async false
set_option maxRecDepth 100000
set_option maxHeartbeats 4000000
namespace Ue
open PySem PySem.Spec PyProof.Rows L2
section
variable {T : Tab} {P P2 H H2 : Hp} {S : List Addr} {C : Addr} {ok : Nat → Bool}
variable {env : Env} {σ : L2.St} {i c : Nat} {fs : List FV}
variable {W : WX} {X : Cx} {m : M} {e : Expr} {fr : Bool} {n : Nat}
end
end Ue
set_option linter.all false
set_option Elab.async false
set_option maxRecDepth 100000
set_option maxHeartbeats 4000000
namespace Ue
open PySem PySem.Spec PyProof.Rows L2
section
variable {T : Tab} {W : WX} {kr : Kd} {pins : List Nat} {env env' : Env} {σ σ' : L2.St} {P H P' H' : Hp} {X : Cx} {pos pos' : Pos} {o e : Expr} {m mi : M} {c i j : Nat} {f : Str}
end
end Ue
set_option linter.all false
set_option Elab.async false
set_option maxRecDepth 100000
set_option maxHeartbeats 4000000
namespace Ue
open PySem PySem.Spec PyProof.Rows L2
section
variable {T : Tab} {W : WX} {kr : Kd} {pins : List Nat} {env env' : Env} {σ σ' : L2.St} {P H P' H' : Hp} {X : Cx} {pos pos' : Pos} {o e : Expr} {m mi : M} {c i j n : Nat} {f : Str} {ok : Nat → Bool}
end
end Ue
set_option linter.all false
set_option Elab.async false
set_option maxRecDepth 100000
set_option maxHeartbeats 4000000
namespace Ue
open PySem PySem.Spec PyProof.Rows L2
section
variable {T : Tab} {W : WX} {kr : Kd} {pins : List Nat} {env env' : Env} {σ σ' : L2.St} {P H P' H' : Hp} {X : Cx} {F : FM} {n nf c i : Nat} {dfl : List D} {dvs : List V} {Q : VK}
variable {k : Nat} {f : Addr} {fd : FuncData} {ps : List Str} {ds : List Value} {x m : Str} {p pos apos : Pos} {e o : Expr} {es : List Expr} {ags : List Ag}
end
section
variable {T : Tab} {W : WX} {kr : Kd} {pins : List Nat} {env env' : Env} {σ σ' : L2.St} {P H P' H' : Hp} {X : Cx} {F : FM} {n nf c i : Nat} {dfl : List D} {dvs : List V} {Q : VK}
variable {k : Nat} {f : Addr} {fd : FuncData} {ps : List Str} {ds : List Value} {x y m : Str} {p pos pos' cpos : Pos} {e o : Expr} {es : List Expr} {ags : List Ag}
end
def StillR {α : Type} (r : Env → R α) : Prop := ∀ env, (∀ d e, r env = .ok d e → e = env) ∧ ∀ c fs e, r env = .exc c fs e → e = env
section
variable {m ma mb : M} {t : MT} {ms : List M}
theorem StillR.bind {α β : Type} {r : Env → R α} {f : α → Env → R β} (h : StillR r) (k : ∀ a, StillR (f a)) : StillR (fun env => (r env).bind f) := fun env => by
  constructor
  · intro d e q
    have q : (r env).bind f = .ok d e := q
    cases c : r env with
    | ok a e1 => rw [c] at q; exact ((k a e1).1 d e q).trans ((h env).1 a e1 c)
    | exc _ _ _ => rw [c] at q; cases q
    | stk => rw [c] at q; cases q
  · intro d gs e q
    have q : (r env).bind f = .exc d gs e := q
    cases c : r env with
    | ok a e1 => rw [c] at q; exact ((k a e1).2 d gs e q).trans ((h env).1 a e1 c)
    | exc c' gs' e1 => rw [c] at q; cases q; exact (h env).2 _ _ _ c
    | stk => rw [c] at q; cases q
end
end Ue
set_option linter.all false
set_option Elab.async false
set_option maxRecDepth 100000
set_option maxHeartbeats 4000000
namespace Ue
open PySem PySem.Spec PyProof.Rows L2
section
variable {c : Nat} {F : FM} {mo m1 m2 m3 : M} {dfl : List D}
end
section
variable {env : Env} {c n i j nf : Nat} {m mi : M} {ok : Nat → Bool} {fr : Bool} {F : FM} {ags : List Ag} {dfl : List D} {ss : List AD} {fs : List FV} {x : FV} {ds : List D}
end
end Ue
set_option linter.all false
set_option Elab.async false
set_option maxRecDepth 100000
set_option maxHeartbeats 4000000
namespace Ue
open PySem PySem.Spec PyProof.Rows L2
section
variable {T : Tab} {W : WX} {X : Cx} {e : Expr} {m : M} {k : Kd}
end
end Ue
set_option linter.all false
set_option Elab.async false
set_option maxRecDepth 100000
set_option maxHeartbeats 4000000
namespace Ue
open PySem PySem.Spec PyProof.Rows L2
section
variable {T : Tab} {P H P' H' : Hp}
end
section
variable {P : Program} {w : World} {K : PySem.W.Frag} {mg : Str → Option Value} {base : Heap} {Z : CXT} {j k n : Nat} {f : Addr} {fd : FuncData} {ps N : List Str} {sp sp2 : Sp} {pv : Str}
end
section
variable {N : List Str} {pins : List Nat} {prog : Program} {w : World} {K : PySem.W.Frag} {mg : Str → Option Value} {base : Heap} {f : Addr} {ps : List Str} {k n : Nat} {fr : Bool} {m : MS} {T : Tab}
end
section
variable {K : PySem.W.Frag} {f : Addr} {ps : List Str} {x qual pv : Str} {params : Arguments} {body : List Stmt} {scope : Scope} {kws : List (Str × V)} {fd : FuncData}
end
end Ue
set_option linter.all false
set_option Elab.async false
set_option maxRecDepth 100000
set_option maxHeartbeats 4000000
namespace PySem
open PySem.Spec L2
section
variable {P : Program} {w : World} {A : Around} {E : Value → Shared → Prop} {s : Shared}
end
end PySem
namespace L2
open PySem PySem.Spec PyProof.Rows
end L2
namespace Ue
open PySem PySem.Spec PyProof.Rows L2
section
variable {T : Tab} {W : WX} {X : Cx} {k : Kd} {m : M} {e : Expr} {p p2 q pos : Pos}
end
end Ue
set_option linter.all false
set_option Elab.async false
set_option maxRecDepth 100000
set_option maxHeartbeats 4000000
namespace Ue
open PySem PySem.Spec PyProof.Rows L2
structure FnVK (P : Program) (w : World) (K : PySem.W.Frag) (mg : Str → Option Value) (base : Heap) (Z : CXT) (k : Nat) (f : Addr) (n : Nat) (nm : Str) (sp : Sp) : Prop where
  len : ∀ vs H Q E, sp vs H Q E → vs.length = n + 1
  go : ∀ (B : Around) (o : List PySem.Env) (t : Shared) (H : Hp) (us : List Value) (u : Value) (vs : List V) (Q : VK) (E : XK), B.guards = some [] → Room k B → Env0 P w K mg base B o t H → Vals vs (us ++ [u]) → sp vs H Q E →
    codeAny (model P w) B (.call (.ref f) ⟨us, [(nm, u)]⟩) (CR Z o P w H t Q E) t
theorem FnVK.mono {P : Program} {w : World} {K : PySem.W.Frag} {mg : Str → Option Value} {base : Heap} {Z : CXT} {j k n : Nat} {f : Addr} {nm : Str} {sp : Sp} (F : FnVK P w K mg base Z j f n nm sp) (h : j ≤ k) : FnVK P w K mg base Z k f n nm sp := ⟨F.len, fun B o t H us u vs Q E g r => F.go B o t H us u vs Q E g (r.mono h)⟩
section
variable {P : Program} {w : World} {K : PySem.W.Frag} {mg : Str → Option Value} {base : Heap} {Z : CXT} {j k n : Nat} {f : Addr} {fd : FuncData} {ps N : List Str} {sp sp2 : Sp} {pv nm : Str}
end
section
variable {N : List Str} {pins : List Nat} {prog : Program} {w : World} {K : PySem.W.Frag} {mg : Str → Option Value} {base : Heap} {f : Addr} {ps : List Str} {k n : Nat} {fr : Bool} {m : MS} {T : Tab}
end
section
variable {X : Cx} {Z : CXT} {k n : Nat} {f : Addr} {sp : Sp} {x nm : Str} {p pos : Pos} {e : Expr} {es : List Expr} {kws : List Keyword} {t tk : TA}
end
section
variable {T : Tab} {W : WX} {kr : Kd} {σ : L2.St} {H : Hp} {X : Cx} {F : FM} {n : Nat} {Q : VK} {ags kgs : List Ag}
end
end Ue
set_option linter.all false
set_option Elab.async false
set_option maxRecDepth 100000
set_option maxHeartbeats 4000000
namespace L2
open PySem PySem.Spec PyProof.Rows
end L2
namespace L2
open PySem PySem.Spec PyProof.Rows
end L2
namespace Ue
open PySem PySem.Spec PyProof.Rows L2
section
variable {T : Tab} {W : WX} {env : Env} {σ : L2.St} {P H : Hp} {X : Cx} {ma mb : M} {a b : Expr}
end
end Ue
set_option linter.all false
set_option Elab.async false
set_option maxRecDepth 100000
set_option maxHeartbeats 4000000
namespace Ue
open PySem PySem.Spec PyProof.Rows L2
section
variable {X : Cx} {k1 k2 : Nat} {C1 C2 p1 p2 g1 g2 : Addr} {f : Str} {fd1 fd2 : FuncData} {ps1 ps2 : List Str} {sp1 sp2 : Sp} {e : Expr} {pos : Pos} {ta : TE}
end
section
variable {T : Tab} {W : WX} {X : Cx} {F1 F2 : FM} {k1 k2 c1 c2 : Nat} {m : M} {e : Expr} {pos : Pos} {f : Str} {p1 p2 g1 g2 : Addr} {fd1 fd2 : FuncData} {ps1 ps2 : List Str} {env : Env}
end
end Ue
set_option linter.all false
set_option Elab.async false
set_option maxRecDepth 100000
set_option maxHeartbeats 4000000
namespace Ue
open PySem PySem.Spec PyProof.Rows L2
section
variable {T : Tab} {W : WX} {env : Env} {σ : L2.St} {P H H' P' : Hp} {X : Cx} {i j : Nat} {m : M} {e : Expr} {ds xs : List D} {a : Addr} {vs : List V}
end
end Ue
set_option linter.all false
set_option Elab.async false
set_option maxRecDepth 100000
set_option maxHeartbeats 4000000
namespace Ue
open PySem PySem.Spec PyProof.Rows L2
end Ue
set_option linter.all false
set_option Elab.async false
set_option maxRecDepth 100000
set_option maxHeartbeats 4000000
namespace L2
open PySem PySem.Spec PyProof.Rows
end L2
namespace Ue
open PySem PySem.Spec PyProof.Rows L2
section
variable {T : Tab} {W : WX} {X : Cx} {k : Kd} {m : M} {e : Expr} {p p2 q pos : Pos}
end
end Ue
set_option linter.all false
set_option Elab.async false
set_option maxRecDepth 100000
set_option maxHeartbeats 4000000
namespace Ue
open PySem PySem.Spec PyProof.Rows L2
section
variable {T : Tab} {W : WX} {kr : Kd} {X : Cx} {pos p : Pos} {e : Expr} {es : List Expr} {m mx : M} {ms : List M}
end
section
variable {X : Cx} {Z : CXT} {k n : Nat} {f : Addr} {sp : Nat → Sp} {x : Str} {p pos : Pos} {e : Expr} {es : List Expr} {t : TA} {pins : List (Addr × Obj)} {σ : L2.St} {H : Hp} {s : Shared} {Q : VK}
end
section
variable {T : Tab} {W : WX} {kr : Kd} {X : Cx} {pos : Pos} {e : Expr} {es : List Expr} {m mx : M} {ms : List M}
end
end Ue
set_option linter.all false
set_option Elab.async false
set_option maxRecDepth 100000
set_option maxHeartbeats 4000000
namespace L2
open PySem PySem.Spec PyProof.Rows
end L2
namespace Ue
open PySem PySem.Spec PyProof.Rows L2
section
variable {T : Tab} {W : WX}
variable {X : Cx} {m : M} {e : Expr} {pos q : Pos} {ks : List Int} {ms : List M} {keys : List (Option Expr)} {values : List Expr}
end
end Ue
set_option linter.all false
set_option Elab.async false
set_option maxRecDepth 100000
set_option maxHeartbeats 4000000
namespace Ue
open PySem PySem.Spec PyProof.Rows L2
end Ue
set_option linter.all false
set_option Elab.async false
set_option maxRecDepth 100000
set_option maxHeartbeats 4000000
namespace Ue
open PySem PySem.Spec PyProof.Rows L2
section
variable {T : Tab} {W : WX} {kr : Kd} {pins : List Nat} {X : Cx} {st : List Stmt} {s1 : Stmt} {a : MS} {i : Nat}
end
end Ue
set_option linter.all false
set_option Elab.async false
set_option maxRecDepth 100000
set_option maxHeartbeats 4000000
namespace L2
open PySem PySem.Spec PyProof.Rows
end L2
namespace Ue
open PySem PySem.Spec PyProof.Rows L2
variable {T : Tab}
section
variable {W : WX} {env : Env} {σ : L2.St} {P H H' P' : Hp} {X : Cx} {i j : Nat} {m : M} {e : Expr} {ds xs : List D} {a : Addr} {vs : List V}
end
section
variable {T : Tab} {W : WX} {kr : Kd} {pins : List Nat} {X : Cx} {pos : Pos} {tg : Expr}
variable {i ia ja : Nat} {y : Str} {py spos : Pos} {elt iter : Expr} {ifs : List Expr} {scope : Scope} {own : List (Str × Nat)} {mi : MI} {g : TGM} {tt : MT} {te : M} {sl : List Nat}
end
end Ue
set_option linter.all false
set_option Elab.async false
set_option maxRecDepth 100000
set_option maxHeartbeats 4000000
namespace Ue
open PySem PySem.Spec PyProof.Rows L2
end Ue
set_option linter.all false
set_option Elab.async false
set_option maxRecDepth 100000
set_option maxHeartbeats 4000000
namespace Ue
open PySem PySem.Spec PyProof.Rows L2
section
variable {T : Tab} {W : WX} {k : Kd} {X : Cx} {e : Expr} {m : M} {apos pos : Pos}
end
end Ue
set_option linter.all false
set_option Elab.async false
set_option maxRecDepth 100000
set_option maxHeartbeats 4000000
namespace Ue
open PySem PySem.Spec PyProof.Rows L2
section
variable {T : Tab} {W : WX} {X : Cx} {pos : Pos}
end
end Ue
set_option linter.all false
set_option Elab.async false
set_option maxRecDepth 100000
set_option maxHeartbeats 4000000
namespace Ue
open PySem PySem.Spec L2
section
variable {T : Tab} {W : WX} {kr : Kd} {pins : List Nat} {env env' : Env} {σ σ' : L2.St} {P H P' H' : Hp} {X : Cx} {pos : Pos} {a b c : Expr} {ma mb mc : M} {o o1 o2 o3 : Bool} {i j l : Nat} {d : D} {x : V}
end
end Ue
set_option linter.all false
set_option Elab.async false
set_option maxRecDepth 100000
set_option maxHeartbeats 4000000
namespace L2
open PySem PySem.Spec PyProof.Rows
end L2
namespace Ue
open PySem PySem.Spec PyProof.Rows L2
section
variable {T : Tab} {W : WX} {X : Cx} {k : Kd} {m : M} {e : Expr} {p p2 q pos : Pos}
end
end Ue
set_option linter.all false
set_option Elab.async false
set_option maxRecDepth 100000
set_option maxHeartbeats 4000000
namespace L2
open PySem PySem.Spec PyProof.Rows
end L2
namespace L2
open PySem PySem.Spec PyProof.Rows
end L2
namespace Ue
open PySem PySem.Spec PyProof.Rows L2
section
variable {T : Tab} {W : WX} {env : Env} {σ : L2.St} {P H : Hp} {X : Cx} {ma mb : M} {a b : Expr}
end
end Ue
set_option linter.all false
set_option Elab.async false
set_option maxRecDepth 100000
set_option maxHeartbeats 4000000
namespace PySem.SeqAt
open AutoSeq1 (wpAny_loadPart')
open MeetsSeq
section
variable {A : Around} {s : Shared}
end
end PySem.SeqAt
namespace L2
open PySem PySem.Spec PyProof.Rows
end L2
namespace Ue
open PySem PySem.Spec PyProof.Rows L2
end Ue
set_option linter.all false
set_option Elab.async false
set_option maxRecDepth 100000
set_option maxHeartbeats 4000000
namespace Ue
open PySem PySem.Spec PyProof.Rows L2
section
variable {T : Tab} {W : WX} {env : Env} {σ : L2.St} {P H H' P' : Hp} {X : Cx} {i j : Nat} {m : M} {e : Expr} {ds xs : List D} {a : Addr} {vs : List V}
end
end Ue
set_option linter.all false
set_option Elab.async false
set_option maxRecDepth 100000
set_option maxHeartbeats 4000000
namespace L2
open PySem PySem.Spec PyProof.Rows
section
variable {X : Cx}
end
end L2
namespace Ue
open PySem PySem.Spec PyProof.Rows L2
section
variable {T : Tab} {W : WX} {env : Env} {σ : L2.St} {P H P' H' : Hp} {X : Cx} {pos : Pos} {e a b : Expr} {es : List Expr} {m m1 m2 : M}
end
end Ue
set_option linter.all false
set_option Elab.async false
set_option maxRecDepth 100000
set_option maxHeartbeats 4000000
namespace Ue
open PySem PySem.Spec PyProof.Rows L2 StX
section
variable {T : Tab} {W : WX} {env : Env} {σ : L2.St} {P H P' H' : Hp} {X : Cx} {pos : Pos} {e a b : Expr} {es : List Expr} {m m1 m2 : M}
end
end Ue
set_option linter.all false
set_option Elab.async false
set_option maxRecDepth 100000
set_option maxHeartbeats 4000000
namespace Ue
open PySem PySem.Spec PyProof.Rows L2 RZ
section
variable {T : Tab} {W : WX} {env : Env} {σ : L2.St} {P H : Hp} {X : Cx} {m ma mb : M} {a b e tg : Expr}
end
end Ue
set_option linter.all false
set_option Elab.async false
set_option maxRecDepth 100000
set_option maxHeartbeats 4000000
namespace Ue
open PySem PySem.Spec PyProof.Rows L2
section
variable {T : Tab} {W : WX} {env : Env} {σ : L2.St} {P H : Hp} {X : Cx} {m mo : M} {a b e o tg : Expr} {ko : Kd}
end
end Ue
set_option linter.all false
set_option Elab.async false
set_option maxRecDepth 100000
set_option maxHeartbeats 4000000
namespace L2
open PySem PySem.Spec PyProof.Rows
end L2
namespace Ue
open PySem PySem.Spec PyProof.Rows L2
section
variable {T : Tab} {W : WX} {X : Cx} {k : Kd} {m : M} {e : Expr} {p p2 q pos : Pos}
end
end Ue
set_option linter.all false
set_option Elab.async false
set_option maxRecDepth 100000
set_option maxHeartbeats 4000000
namespace PyProof.Rows
open PySem
section
variable {prog : Program} {w : World} {A : Around} {E : Value → Shared → Prop} {s : Shared}
end
end PyProof.Rows
namespace SrtO
open PySem PyProof.Rows Srt
section
variable {prog : Program} {w : World} {A : Around} {E : Value → Shared → Prop} {s : Shared}
end
end SrtO
namespace L2
open PySem PySem.Spec PyProof.Rows
end L2
namespace Ue
open PySem PySem.Spec PyProof.Rows L2
section
variable {T : Tab}
end
end Ue
set_option linter.all false
set_option Elab.async false
set_option maxRecDepth 100000
set_option maxHeartbeats 4000000
namespace HT
open PySem PySem.Spec PyProof.Rows
section
variable {prog : Program} {w : World} {A : Around} {E : Value → Shared → Prop} {s : Shared}
end
end HT
namespace Ue
open PySem PySem.Spec PyProof.Rows L2
section
variable {T : Tab} {W : WX}
variable {X : Cx} {m : M} {e : Expr} {pos q : Pos} {ks : List Str} {ms : List M} {keys : List (Option Expr)} {values : List Expr}
end
section
variable {X : Cx} {e st : Expr} {te : TE} {pos p2 : Pos}
end
section
variable {T : Tab} {W : WX} {X : Cx} {k : Kd} {m : M} {e : Expr} {pos p2 q q2 : Pos} {j : Nat}
end
section
variable {T : Tab} {W : WX} {X : Cx} {m : M} {e : Expr} {kr : Kd} {pins : List Nat} {pos : Pos}
end
end Ue
set_option linter.all false
set_option Elab.async false
set_option maxRecDepth 100000
set_option maxHeartbeats 4000000
namespace Ue
open PySem PySem.Spec PyProof.Rows L2
section
variable {T : Tab} {W : WX} {X : Cx} {m mk : M} {o e : Expr} {pos q : Pos} {keys : List (Option Expr)} {values : List Expr}
end
end Ue
set_option linter.all false
set_option Elab.async false
set_option maxRecDepth 100000
set_option maxHeartbeats 4000000
namespace PySem
open Sem (wp)
end PySem
namespace Ue
open PySem PySem.Spec PyProof.Rows L2 RZ
section
variable {X : Cx} {Z : CXT} {k : Nat} {C f : Addr} {fd : FuncData} {ps : List Str} {E : L2.St → XK}
end
section
variable {T : Tab} {W : WX} {X : Cx} {σ : L2.St} {H : Hp} {c j k : Nat} {ma mb : M} {a b : Expr} {f : Addr} {fd : FuncData} {ps : List Str} {fl : Str} {p pos tpos : Pos} {elts : List Expr} {kk : Nat}
end
end Ue
set_option linter.all false
set_option Elab.async false
set_option maxRecDepth 100000
set_option maxHeartbeats 4000000
namespace Ue
open PySem PySem.Spec PyProof.Rows L2
section
variable {T : Tab} {W : WX} {X : Cx} {m : M} {e : Expr} {k : Kd}
end
end Ue
set_option linter.all false
set_option Elab.async false
set_option maxRecDepth 100000
set_option maxHeartbeats 4000000
namespace L2
open PySem PySem.Spec PyProof.Rows
section
variable {X : Cx}
end
end L2
namespace Ue
open PySem PySem.Spec PyProof.Rows L2
section
variable {T : Tab} {W : WX} {X : Cx} {mo m : M} {o e : Expr} {apos cpos : Pos} {P : Hp}
end
end Ue
set_option linter.all false
set_option Elab.async false
set_option maxRecDepth 100000
set_option maxHeartbeats 4000000
namespace Ue
open PySem PySem.Spec PyProof.Rows L2
section
variable {T : Tab} {W : WX} {X : Cx} {m a b : M} {e : Expr} {k : Kd}
end
end Ue
set_option linter.all false
set_option Elab.async false
set_option maxRecDepth 100000
set_option maxHeartbeats 4000000
namespace Ue
open PySem PySem.Spec PyProof.Rows L2
section
open AutoSeq1 (wpAny_loadPart')
open MeetsSeq MeetsSeq2 MeetsSeq3 SeqRoads2 PySem.SeqAt
variable {prog : Program} {w : World} {A : Around} {E : Value → Shared → Prop} {s : Shared}
end
section
variable {X : Cx} {k : Nat} {C f : Addr} {fd : FuncData} {ps : List Str} {sp : Sp}
end
section
variable {T : Tab} {P : Hp}
variable {W : WX} {σ : L2.St} {H : Hp} {X : Cx} {F : FM} {k c : Nat} {ma mb : M} {a b : Expr} {pos : Pos} {f : Addr} {fd : FuncData} {ps : List Str}
end
end Ue
set_option linter.all false
set_option Elab.async false
set_option maxRecDepth 100000
set_option maxHeartbeats 4000000
namespace Ue
open PySem L2
section
variable {T : Tab} {W : WX} {kr : Kd} {pins : List Nat} {env env' : Env} {σ σ' : L2.St} {P H P' H' : Hp} {X : Cx} {pos : Pos} {e : Expr} {es : List Expr} {m : M} {ags : List Ag}
end
end Ue
set_option linter.all false
set_option Elab.async false
set_option maxRecDepth 100000
set_option maxHeartbeats 4000000
namespace Ue
open PySem PySem.Spec PyProof.Rows L2
def BB : Int := 2 ^ 128
def PrOk (p : Int × Int) : Prop := 0 ≤ p.1 ∧ p.1 < BB ∧ 0 ≤ p.2 ∧ p.2 < BB
instance : DecidablePred PrOk := fun p => inferInstanceAs (Decidable (0 ≤ p.1 ∧ p.1 < BB ∧ 0 ≤ p.2 ∧ p.2 < BB))
section
variable {T : Tab} {W : WX} {X : Cx} {k : Kd} {m : M} {e : Expr} {p p2 q pos : Pos}
end
section
variable {T : Tab} {W : WX} {X : Cx} {ka : Kd} {mo m : M} {o e : Expr} {apos cpos : Pos}
end
end Ue
set_option linter.all false
set_option Elab.async false
set_option maxRecDepth 100000
set_option maxHeartbeats 4000000
namespace Ue
open PySem PySem.Spec PyProof.Rows L2
section
variable {T : Tab}
end
section
variable {T : Tab} {W : WX} {σ : L2.St} {H : Hp}
end
end Ue
set_option linter.all false
set_option Elab.async false
set_option maxRecDepth 100000
set_option maxHeartbeats 4000000
namespace Ue
open PySem PySem.Spec PyProof.Rows L2
end Ue
set_option linter.all false
set_option Elab.async false
set_option maxRecDepth 100000
set_option maxHeartbeats 4000000
namespace Ue
open PySem PySem.Spec PyProof.Rows L2 NdefX
section
variable {X : Cx} {pins : List (Addr × Obj)} {σ : L2.St} {H : Hp} {s : Shared} {a C u : Addr} {A : Around} {E : Value → Shared → Prop}
end
section
variable {P : Program} {w : World} {K : PySem.W.Frag} {mg : Str → Option Value} {base : Heap} {msg g : Str} {F : NF} {f C : Addr} {fd : FuncData} {p1 p2 p3 p4 p5 p6 p7 p8 p9 p10 : Pos} {j : Nat} {ar : Arg}
end
end Ue
set_option linter.all false
set_option Elab.async false
set_option maxRecDepth 100000
set_option maxHeartbeats 4000000
namespace Ue
open PySem PySem.Spec PyProof.Rows L2 LamX NdefX
section
variable {X : Cx} {pins : List (Addr × Obj)} {σ : L2.St} {H : Hp} {s : Shared}
end
section
variable {T : Tab} {env : Ue.Env} {σ : L2.St} {P H H1 : Hp}
end
end Ue
set_option linter.all false
set_option Elab.async false
set_option maxRecDepth 100000
set_option maxHeartbeats 4000000
namespace Ue
open PySem PySem.W PySem.Calls PyProof.Rows
def KB (fs X : List Addr) (h h' : Heap) : Prop := ∀ b o, b ∉ X → h.get? b = some o → (b ∉ fs → h'.get? b = some o) ∧ ∃ sl, h'.get? b = some { o with slots := sl }
structure SB (fs X : List Addr) (s s' : Shared) : Prop where
  os : s'.os = s.os
  bare : AllBare s.gens → AllBare s'.gens
  kb : KB fs X s.heap s'.heap
section
variable {fs X : List Addr} {h h' h'' : Heap} {s s' s'' : Shared}
theorem KB.of (k : ∀ b o, b ∉ X → h.get? b = some o → h'.get? b = some o) : KB fs X h h' := fun b o n e => ⟨fun _ => k b o n e, o.slots, k b o n e⟩
theorem KB.trans (k : KB fs X h h') (k' : ∀ b o, b ∉ X → h'.get? b = some o → (∃ o', h.get? b = some o') → (b ∉ fs → h''.get? b = some o) ∧ ∃ sl, h''.get? b = some { o with slots := sl }) : KB fs X h h'' := fun b o n e => by
  obtain ⟨k1, sl, k2⟩ := k b o n e
  obtain ⟨q1, sl', q2⟩ := k' b _ n k2 ⟨o, e⟩
  refine ⟨fun nb => ?_, sl', q2⟩
  have := (k' b o n (k1 nb) ⟨o, e⟩).1 nb
  exact this
theorem SB.refl : SB fs X s s := ⟨rfl, id, .of fun _ _ _ e => e⟩
theorem SB.trans (a : SB fs X s s') (b : SB fs [] s' s'') : SB fs X s s'' := ⟨b.os.trans a.os, fun z => b.bare (a.bare z), a.kb.trans fun c o _ e _ => b.kb c o (by simp) e⟩
end
section
variable {prog : Program} {w : World} {A : Around} {E : Value → Shared → Prop} {s s₁ : Shared} {a kS : Addr} {b : Bool} {vs : List Value} {keys : Array Value} {e e1 : Nat} {P : PySem.Fin → Shared → Prop} {kz : List PyData} {fs : List Addr}
end
section
variable {prog : Program} {w : World} {A : Around} {E : Value → Shared → Prop} {s : Shared} {β : Type} {vs : List Value} {bs : List β} {R : Value → β → Prop} {fs : List Addr}
end
end Ue
set_option linter.all false
set_option Elab.async false
set_option maxRecDepth 100000
set_option maxHeartbeats 4000000
namespace Ue
open PySem PySem.Spec PyProof.Rows L2 LamX NdefX
section
variable {P : Program} {w : World} {K : PySem.W.Frag} {H : Hp} {h : Heap}
end
section
variable {X : Cx} {pins : List (Addr × Obj)} {σ : L2.St} {H : Hp} {s s' : Shared}
end
end Ue
set_option linter.all false
set_option Elab.async false
set_option maxRecDepth 100000
set_option maxHeartbeats 4000000
namespace Ue
open PySem PySem.Spec PyProof.Rows L2 LamX NdefX
section
variable {T T0 : Tab} {P H : Hp} {h : Heap} {prog : Program} {w : World}
end
section
variable {T T0 : Tab} {X : Cx} {pins : List (Addr × Obj)} {σ : L2.St} {P H : Hp} {s : Shared}
end
end Ue
set_option linter.all false
set_option Elab.async false
set_option maxRecDepth 100000
set_option maxHeartbeats 4000000
namespace Ue
open PySem PySem.Spec PyProof.Rows L2 LamX NdefX
end Ue
set_option linter.all false
set_option Elab.async false
set_option maxRecDepth 100000
set_option maxHeartbeats 4000000
namespace Ue
open PySem PySem.Spec PyProof.Rows L2 LamX NdefX
def fcode (K : PySem.W.Frag) (f : Addr) : Value := match K.lookup f with
  | some ⟨_, _, .func fd, _⟩ => fd.code
  | _ => .none
def refA : Value → Addr
  | .ref c => c
  | _ => 0
def tabP (K : PySem.W.Frag) (c : Addr) : Addr := match K.lookup c with
  | some ⟨_, _, .fields us, _⟩ => (match (us[11]? : Option Value) with | some v => refA v | none => 0)
  | _ => 0
def tabA (K : PySem.W.Frag) (f : Addr) : Addr × Addr := (refA (fcode K f), tabP K (refA (fcode K f)))
def isRefV : Value → Bool
  | .ref _ => true
  | _ => false
def tabKB (K : PySem.W.Frag) (x : Str) : Bool := isRefV (fcode K (He.ga K x)) && (PySem.W.codeHdIn K (tabA K (He.ga K x)).1 (tabA K (He.ga K x)).2 && (K.lookup (tabA K (He.ga K x)).2).isNone)
def tbsOf (K : PySem.W.Frag) (nq : List (Str × Str)) : List NTab := nq.map fun q => ((tabA K (He.ga K q.1)).2, fun _ _ => q.2)
def tabsDB (K : PySem.W.Frag) (nq : List (Str × Str)) : Bool := nq.all fun q => nq.all fun r => (tabA K (He.ga K q.1)).2 != (tabA K (He.ga K r.1)).2 || q.2 == r.2
section
variable {K : PySem.W.Frag} {nq : List (Str × Str)} {x y : Str}
end
def isTab0 : Option Obj → Bool
  | some ⟨.none, none, .fields ⟨[]⟩, ⟨[]⟩⟩ => true
  | _ => false
theorem isTab0_ok {o : Option Obj} (h : isTab0 o = true) : o = some { cls := .none, data := .fields #[] } := by
  unfold isTab0 at h
  split at h
  · rfl
  · cases h
def TabAt (K : PySem.W.Frag) (nq : List (Str × Str)) (h : Heap) : Prop := ∀ x ∈ nq.map (·.1), h.get? (tabA K (He.ga K x)).2 = some { cls := .none, data := .fields #[] }
abbrev AlT : Type := AlV × Bool
def obsT (L : List Addr) (fa : List He.Fa) (fn : List He.DefD) (gs : List DefG) (ex : PySem.W.Frag → Bool) (nq : List (Str × Str)) (g : Addr → Option Obj) : AlT :=
  (obsKV fa fn gs ex (He.frG g (cStatics :: L)), (nq.map (·.1)).all fun x => isTab0 (g (tabA (He.frG g (cStatics :: L)) (He.ga (He.frG g (cStatics :: L)) x)).2))
def valT (fn : List He.DefD) (gs : List DefG) : AlT := (valV fn gs, true)
def hookT (L : List Addr) (fa : List He.Fa) (fn : List He.DefD) (gs : List DefG) (ex : PySem.W.Frag → Bool) (nq : List (Str × Str)) : PySem.W.Hook where
  α := AlT
  obs := fun s => obsT L fa fn gs ex nq s.heap.get?
  val := fun _ => valT fn gs
  says := fun _ hp => ∃ K : PySem.W.Frag, K.In hp ∧ SaysV fa fn gs ex K ∧ TabAt K nq hp
  of := fun _ _ e => ⟨_, He.frG_in, saysV_of (congrArg Prod.fst e), fun x hx => isTab0_ok (List.all_eq_true.mp (congrArg Prod.snd e) x hx)⟩
  keeps := fun _ _ _ ⟨K, q1, q2, q3⟩ k => ⟨K, PySem.W.Frag.In.keeps q1 k, q2, fun x hx => k _ _ (q3 x hx)⟩
end Ue
set_option linter.all false
set_option Elab.async false
set_option maxRecDepth 100000
set_option maxHeartbeats 4000000
namespace Ue
open PySem PySem.Spec PyProof.Rows L2
end Ue
set_option linter.all false
set_option Elab.async false
set_option maxRecDepth 100000
set_option maxHeartbeats 4000000
namespace Ue
open PySem PySem.Spec PyProof.Rows L2
section
variable {α : Type} {k : α → PyData}
end
end Ue
set_option linter.all false
set_option Elab.async false
set_option maxRecDepth 100000
set_option maxHeartbeats 4000000
set_option exponentiation.threshold 5000
namespace Ue
open PySem
end Ue
set_option linter.all false
set_option Elab.async false
set_option maxRecDepth 100000
set_option maxHeartbeats 4000000
noncomputable section
namespace Lw
open PySem PySem.Spec L2 Ue
def top (i : Nat) : Stmt := PySem.Challenge.pw_usualdays_k79_least_meeting_lots.main.body.getD i (.Pass ⟨0, 0, 0, 0⟩)
abbrev s_days_in : Stmt := top 1
abbrev s_set_of : Stmt := top 2
abbrev s_within : Stmt := top 3
abbrev s_least_masks : Stmt := top 5
abbrev s_sorted_lots : Stmt := top 6
abbrev s_least_meeting : Stmt := top 7
abbrev s_law_bag : Stmt := top 9
abbrev s_law_take : Stmt := top 10
abbrev s_law_of : Stmt := top 11
abbrev s_law_lot : Stmt := top 12
abbrev s_law_set : Stmt := top 13
abbrev s_law_sorted : Stmt := top 14
abbrev s_law_is_number : Stmt := top 15
abbrev s_law_places : Stmt := top 16
abbrev s_law_barest : Stmt := top 17
abbrev s_law_meeting : Stmt := top 18
abbrev s_law_many : Stmt := top 19
abbrev s_law : Stmt := top 20
def ty_int : List (String × Bool) := [("NoneType", false), ("bool", true), ("int", true), ("str", false), ("tuple", false), ("list", false), ("dict", false)]
def cn_int : List (Nat × Bool) := []
def ty_bool : List (String × Bool) := [("NoneType", false), ("bool", true), ("int", false), ("str", false), ("tuple", false), ("list", false), ("dict", false)]
def cn_bool : List (Nat × Bool) := []
def ty_tuple : List (String × Bool) := [("NoneType", false), ("bool", false), ("int", false), ("str", false), ("tuple", true), ("list", false), ("dict", false)]
def cn_tuple : List (Nat × Bool) := []
def d_days_in : He.DefD := ⟨("days_in", none), "days_in", "days_in", defArgs s_days_in, defBody s_days_in, defScope s_days_in, [], []⟩
def d_set_of : He.DefD := ⟨("set_of", none), "set_of", "set_of", defArgs s_set_of, defBody s_set_of, defScope s_set_of, [], []⟩
def d_within : He.DefD := ⟨("within", none), "within", "within", defArgs s_within, defBody s_within, defScope s_within, [], []⟩
def d_least_masks : He.DefD := ⟨("least_masks", none), "least_masks", "least_masks", defArgs s_least_masks, defBody s_least_masks, defScope s_least_masks, [], []⟩
def d_sorted_lots : He.DefD := ⟨("sorted_lots", none), "sorted_lots", "sorted_lots", defArgs s_sorted_lots, defBody s_sorted_lots, defScope s_sorted_lots, [], []⟩
def d_least_meeting : He.DefD := ⟨("least_meeting", none), "least_meeting", "least_meeting", defArgs s_least_meeting, defBody s_least_meeting, defScope s_least_meeting, [], []⟩
def d_law_bag : He.DefD := ⟨("_law_bag", none), "_law_bag", "_law_bag", defArgs s_law_bag, defBody s_law_bag, defScope s_law_bag, [], []⟩
def d_law_take : He.DefD := ⟨("_law_take", none), "_law_take", "_law_take", defArgs s_law_take, defBody s_law_take, defScope s_law_take, [], []⟩
def d_law_of : He.DefD := ⟨("_law_of", none), "_law_of", "_law_of", defArgs s_law_of, defBody s_law_of, defScope s_law_of, [], []⟩
def d_law_lot : He.DefD := ⟨("_law_lot", none), "_law_lot", "_law_lot", defArgs s_law_lot, defBody s_law_lot, defScope s_law_lot, [], []⟩
def d_law_set : He.DefD := ⟨("_law_set", none), "_law_set", "_law_set", defArgs s_law_set, defBody s_law_set, defScope s_law_set, [], []⟩
def d_law_sorted : He.DefD := ⟨("_law_sorted", none), "_law_sorted", "_law_sorted", defArgs s_law_sorted, defBody s_law_sorted, defScope s_law_sorted, [], []⟩
def d_law_is_number : He.DefD := ⟨("_law_is_number", none), "_law_is_number", "_law_is_number", defArgs s_law_is_number, defBody s_law_is_number, defScope s_law_is_number, [], []⟩
def d_law_places : He.DefD := ⟨("_law_places", none), "_law_places", "_law_places", defArgs s_law_places, defBody s_law_places, defScope s_law_places, [], []⟩
def d_law_barest : He.DefD := ⟨("_law_barest", none), "_law_barest", "_law_barest", defArgs s_law_barest, defBody s_law_barest, defScope s_law_barest, [], []⟩
def d_law_meeting : He.DefD := ⟨("_law_meeting", none), "_law_meeting", "_law_meeting", defArgs s_law_meeting, defBody s_law_meeting, defScope s_law_meeting, [], []⟩
def d_law_many : He.DefD := ⟨("_law_many", none), "_law_many", "_law_many", defArgs s_law_many, defBody s_law_many, defScope s_law_many, [], []⟩
def d_law : He.DefD := ⟨("law", none), "law", "law", defArgs s_law, defBody s_law, defScope s_law, [], []⟩
def gs : List DefG := []
def fn : List He.DefD := [d_days_in, d_set_of, d_within, d_least_masks, d_sorted_lots, d_least_meeting, d_law_bag, d_law_take, d_law_of, d_law_lot, d_law_set, d_law_sorted, d_law_is_number, d_law_places, d_law_barest, d_law_meeting, d_law_many, d_law]
def fa : List He.Fa := [.glo "days_in", .glo "set_of", .glo "within", .glo "least_masks", .glo "sorted_lots", .glo "least_meeting", .glo "_law_bag", .glo "_law_take", .glo "_law_of", .glo "_law_lot", .glo "_law_set", .glo "_law_sorted", .glo "_law_is_number", .glo "_law_places", .glo "_law_barest", .glo "_law_meeting", .glo "_law_many", .glo "law", .free "tuple", .free "len", .free "sorted", .free "any", .free "abs", .free "enumerate", .free "int", .free "range", .free "sum", .free "isinstance", .free "bool", .free "all", .free "list"]
def excL (K : PySem.W.Frag) : List Addr := []
def clsL (K : PySem.W.Frag) : List Addr := []
def cA (K : PySem.W.Frag) (c : Nat) : Addr := (clsL K).getD c 0
def nqT : List (Str × Str) := [("least_masks", "least_masks.<locals>.<lambda>"), ("sorted_lots", "sorted_lots.<locals>.<lambda>")]
def ex (K : PySem.W.Frag) : Bool := allB [isTabB K (cA K) (fun t => PySem.W.kitOne K t (.type "int")) ty_int cn_int, isTabB K (cA K) (fun t => PySem.W.kitOne K t (.type "bool")) ty_bool cn_bool, isTabB K (cA K) (fun t => PySem.W.kitOne K t (.type "tuple")) ty_tuple cn_tuple, (nqT.map (·.1)).all (tabKB K), tabsDB K nqT]
def tab (K : PySem.W.Frag) : Tab where
  K := K
  clsA := cA K
  clsF := fun c => ([] : List (List Str)).getD c []
  excA := fun c => (excL K).getD c 0
  excF := fun c => ([] : List (List Str)).getD c []
  tbs := tbsOf K nqT
end Lw
end
set_option linter.all false
set_option Elab.async false
set_option maxRecDepth 100000
set_option maxHeartbeats 4000000
namespace Lw
open PySem PySem.Spec L2 Ue
abbrev R : PySem.W.OpenRow := PySem.W.OpenLaw.row PySem.Challenge.rw_usualdays_k79_least_meeting_lots
def AD : List Addr := [3, 21, 28, 35, 40, 45, 50, 57, 64, 71, 76, 81, 86, 93, 98, 103, 108, 113, 118, 20, 27, 34, 39, 44, 49, 56, 63, 70, 75, 80, 85, 92, 97, 102, 107, 112, 117]
abbrev hk : PySem.W.Hook := hookT AD fa fn gs ex nqT
def ob (s : PySem.W.SharedT) : AlT := obsT AD fa fn gs ex nqT (HandSHeadRun.getT s)
abbrev nms : List PySem.Str := ((["days_in", "set_of", "within", "least_masks", "sorted_lots", "least_meeting", "_law_bag", "_law_take", "_law_of", "_law_lot", "_law_set", "_law_sorted", "_law_is_number", "_law_places", "_law_barest", "_law_meeting", "_law_many"] : List PySem.Str))
open PySem.W HandSHeadRun in
noncomputable def rr (w : World) := wholeF (fun p => stepQ (denQ tabQ) p w) fenceQ 6000 R.prog
open PySem.W HandSHeadRun in
theorem run1 (w : World) : (rr w).map (fun x => (looksF R.prog x.1.heap x.2.abs, seenQ (PySem.W.view R.prog [20]) nms (importedModules R.prog.main.body) (fun s => xlAt (PySem.W.view R.prog [20]) [] s && recOk R.toRowW.records s) x.2.abs)) = some (true, openGood (PySem.W.view R.prog [20]) nms) := by
  kernel_rfl
theorem run2 (w : World) : (rr w).map (fun x => ob x.2) = some (valT fn gs) := by
  kernel_rfl
theorem run (w : World) : HandSHeadRun.RunEqI R (PySem.W.view R.prog [20]) hk ob 6000 nms w := two_parts (run1 w) (run2 w)
end Lw
set_option linter.all false
set_option Elab.async false
set_option maxRecDepth 100000
set_option maxHeartbeats 4000000
namespace Ue
open PySem L2
section
variable (T : Tab) (P : Hp)
end
section
variable {T : Tab} {P P' H : Hp}
theorem Reps.append : ∀ {ds es : List D} {vs ws : List V}, Reps T P ds vs → Reps T P es ws → Reps T P (ds ++ es) (vs ++ ws)
  | [], _, _, _, h, k => by rw [Reps] at h; subst h; exact k
  | _ :: _, _, _, _, h, k => by
    rw [Reps] at h
    obtain ⟨v, r, rfl, h1, h2⟩ := h
    exact Reps.cons h1 (Reps.append h2 k)
theorem Reps.take : ∀ {ds : List D} {vs : List V} (n : Nat), Reps T P ds vs → Reps T P (ds.take n) (vs.take n)
  | _, _, 0, _ => by simp; exact Reps.nil
  | [], _, n + 1, h => by rw [Reps] at h; subst h; simp; exact Reps.nil
  | _ :: _, _, n + 1, h => by
    rw [Reps] at h
    obtain ⟨v, r, rfl, h1, h2⟩ := h
    exact Reps.cons h1 (Reps.take n h2)
theorem Reps.drop : ∀ {ds : List D} {vs : List V} (n : Nat), Reps T P ds vs → Reps T P (ds.drop n) (vs.drop n)
  | _, _, 0, h => by simpa using h
  | [], _, n + 1, h => by rw [Reps] at h; subst h; simp; exact Reps.nil
  | _ :: _, _, n + 1, h => by
    rw [Reps] at h
    obtain ⟨v, r, rfl, h1, h2⟩ := h
    exact Reps.drop n h2
theorem Reps.reverse : ∀ {ds : List D} {vs : List V}, Reps T P ds vs → Reps T P ds.reverse vs.reverse
  | [], _, h => by rw [Reps] at h; subst h; exact Reps.nil
  | _ :: _, _, h => by
    rw [Reps] at h
    obtain ⟨v, r, rfl, h1, h2⟩ := h
    rw [List.reverse_cons, List.reverse_cons]
    exact Reps.append (Reps.reverse h2) (Reps.cons h1 Reps.nil)
theorem Reps.ints : ∀ (ns : List Int) {vs : List V}, Reps T P (ns.map D.int) vs → vs = ns.map V.int
  | [], _, h => by rw [List.map_nil, Reps] at h; exact h
  | n :: ns, _, h => by
    rw [List.map_cons, Reps] at h
    obtain ⟨v, r, rfl, h1, h2⟩ := h
    rw [Rep] at h1
    rw [Reps.ints ns h2, h1, List.map_cons]
theorem Reps.ofInts : ∀ (ns : List Int), Reps T P (ns.map D.int) (ns.map V.int)
  | [] => Reps.nil
  | n :: ns => Reps.cons (by rw [Rep]) (Reps.ofInts ns)
theorem Reps.bls : ∀ (ns : List Bool) {vs : List V}, Reps T P (ns.map D.bl) vs → vs = ns.map V.bl
  | [], _, h => by rw [List.map_nil, Reps] at h; exact h
  | n :: ns, _, h => by
    rw [List.map_cons, Reps] at h
    obtain ⟨v, r, rfl, h1, h2⟩ := h
    rw [Rep] at h1
    rw [Reps.bls ns h2, h1, List.map_cons]
end
section
variable (T : Tab) (P H : Hp)
end
section
variable (T : Tab) (W : WX) (σ : St)
end
section
variable {T : Tab} {W : WX} {σ : St} {α β : Type} {env : Env} {P H : Hp}
end
def KRep (T : Tab) (k : Kd) (env : Env) (σ : St) (P H : Hp) (d : D) (x : V) : Prop :=
  match k with
  | .pure => Rep T P d x
  | .fresh => ∃ a vs ds, x = .ref a ∧ H a = some (.lst vs) ∧ P a = none ∧ ¬ Own env σ H a ∧ Reps T P ds vs ∧ d = .lst ds
  | .own i => ∃ ds, env[i]? = some (some (.own ds)) ∧ d = .lst ds ∧ σ[i]? = some (some x)
def rdE (T : Tab) (W : WX) (k : Kd) (m : M) : TE := fun σ H Q => ∃ env P, Rel T env σ P H ∧ After T W σ env P H (m env) (fun d env' P' H' => ∀ x, KRep T k env' σ P' H' d x → NewV k H x → Q x H')
def DE (T : Tab) (W : WX) (X : Cx) (e : Expr) (k : Kd) (m : M) : Prop := PE X e (rdE T W k m)
theorem pe_imp {X : Cx} {e : Expr} {t t' : TE} (h : PE X e t) (k : ∀ σ H Q, t' σ H Q → t σ H Q) : PE X e t' := ⟨fun pins s σ H Q I q => h.run pins s σ H Q I (k σ H Q q)⟩
theorem pt_imp {X : Cx} {e : Expr} {t t' : TT} (h : PT X e t) (k : ∀ σ H Q, t' σ H Q → t σ H Q) : PT X e t' := ⟨fun pins s σ H Q I q => h.run pins s σ H Q I (k σ H Q q)⟩
theorem pw_imp {X : Cx} {e : Expr} {t t' : TT} (h : PW X e t) (k : ∀ σ H Q, t' σ H Q → t σ H Q) : PW X e t' := ⟨fun whole pins s σ H Q I q => h.run whole pins s σ H Q I (k σ H Q q)⟩
theorem pa_imp {X : Cx} {e : List Expr} {t t' : TA} (h : PA X e t) (k : ∀ σ H Q, t' σ H Q → t σ H Q) : PA X e t' := ⟨fun pos pins s σ H Q I q => h.run pos pins s σ H Q I (k σ H Q q)⟩
theorem ps_imp {X : Cx} {e : Stmt} {t t' : TS} (h : PS X e t) (k : ∀ D σ H, t' D σ H → t D σ H) : PS X e t' := ⟨fun pins s σ H D I q => h.run pins s σ H D I (k D σ H q)⟩
theorem pss_imp {X : Cx} {e : List Stmt} {t t' : TS} (h : PSs X e t) (k : ∀ D σ H, t' D σ H → t D σ H) : PSs X e t' := ⟨fun pins s σ H D I q => h.run pins s σ H D I (k D σ H q)⟩
def rdT (T : Tab) (W : WX) (m : MT) : TT := fun σ H Q => ∃ env P, Rel T env σ P H ∧ After T W σ env P H (m env) (fun b _ _ H' => Q b H')
def DT (T : Tab) (W : WX) (X : Cx) (e : Expr) (m : MT) : Prop := PT X e (rdT T W m)
end Ue
set_option linter.all false
set_option Elab.async false
set_option maxRecDepth 100000
set_option maxHeartbeats 4000000
namespace Ue
open PySem L2
section
variable {tb : List NdefX.NTab} {P P' H H' : Hp}
theorem tabs_keepH (t : NdefX.TabsN tb H) (k : ∀ b w, H b = some w → ((∃ ps, w = .tbl ps) ∨ ∃ f, w = .ext f) → H' b = some w) : NdefX.TabsN tb H' := fun p hp => by
  obtain ⟨ps, h1, h2, h3⟩ := t p hp
  refine ⟨ps, k _ _ h1 (.inl ⟨_, rfl⟩), h2, fun pos cv hc => ?_⟩
  obtain ⟨c, e1, e2⟩ := h3 pos cv hc
  exact ⟨c, e1, k _ _ e2 (.inr ⟨_, rfl⟩)⟩
theorem tabs_keep (t : Tbs tb P H) (k : ∀ b w, H b = some w → ((∃ ps, w = .tbl ps) ∨ ∃ f, w = .ext f) → H' b = some w) : Tbs tb P H' := ⟨tabs_keepH t.1 k, t.2⟩
theorem Tbs.setP (t : Tbs tb P H) (k : ∀ b, P' b ≠ none → P b ≠ none ∨ ∀ ps, H b ≠ some (.tbl ps)) : Tbs tb P' H := ⟨t.1, fun p hp => Classical.byContradiction fun n => by
  obtain ⟨ps, e⟩ := t.at_ hp
  rcases k _ n with q | q
  · exact q (t.2 p hp)
  · exact q ps e⟩
theorem tabs_upd {a : Addr} {o u : HO} (t : Tbs tb P H) (h : H a = some o) (n1 : NoT o) (n2 : ∀ f, o ≠ .ext f) : Tbs tb P (upd H a u) :=
  tabs_keep t fun b w e q => (upd_ne (fun z => by
    subst z
    rw [h] at e; cases e
    rcases q with ⟨ps, q⟩ | ⟨f, q⟩
    · exact n1 ps q
    · exact n2 f q)).trans e
end
theorem tabs_poke {tb : List NdefX.NTab} {P H : Hp} {a : Addr} {u : HO} (t : Tbs tb P H) (h : Pln H a) : Tbs tb P (upd H a u) := by
  cases e : H a with
  | none => exact t.ext fun b w q => (upd_ne (ne_of_none q e)).trans q
  | some o => exact tabs_upd t e (h o e).1 (h o e).2
section
variable {T : Tab} {W : WX} {env env' : Env} {σ : St} {P H P' H' : Hp} {p : Addr} {o : HO}
theorem EnvRep.footK {e : EV} {x : V} {b : Addr} (r : EnvRep T P H e x) (o : e.isOwn = true) (h : Foot e x H b) : ∃ u, H b = some u ∧ NoT u ∧ ∀ f, u ≠ .ext f := by
  cases e with
  | v d => cases o
  | ex c fs => cases o
  | own ds => obtain ⟨a, vs, q, q1, q2, _⟩ := r; cases q.symm.trans h.own; exact ⟨_, q1, fun _ z => (nomatch z), fun _ z => (nomatch z)⟩
  | new c fs => obtain ⟨a, dx, vs, q, q1, q2, _⟩ := r; cases q.symm.trans h.new; exact ⟨_, q1, fun _ z => (nomatch z), fun _ z => (nomatch z)⟩
  | mob c fs =>
    obtain ⟨a, dx, vs, rfl, q1, q2, q3, q4, q5⟩ := r
    rcases h with h | ⟨a', C, dx', l, ha, hl, m⟩
    · cases h; exact ⟨_, q1, fun _ z => (nomatch z), fun _ z => (nomatch z)⟩
    · cases ha
      rw [q1] at hl; cases hl
      rw [zip_snd q3] at m
      obtain ⟨ws, w1, w2⟩ := q4.at_ m
      exact ⟨_, w1, fun _ z => (nomatch z), fun _ z => (nomatch z)⟩
theorem Rel.ownK (R : Rel T env σ P H) {b : Addr} {o : HO} (h : Own env σ H b) (e : H b = some o) : NoT o ∧ ∀ f, o ≠ .ext f := by
  obtain ⟨i, g, x, h1, h2, h3, h4⟩ := h
  obtain ⟨v, hv, r⟩ := R.ent i g h1
  rw [h3] at hv; cases hv
  obtain ⟨u, q1, q2, q3⟩ := r.footK h2 h4
  rw [q1] at e; cases e
  exact ⟨q2, q3⟩
theorem Rel.ownTabs (R : Rel T env σ P H) {b : Addr} {o u : HO} (h : Own env σ H b) (e : H b = some o) : Tbs T.tbs P (upd H b u) := tabs_upd R.tabs e (R.ownK h e).1 (R.ownK h e).2
theorem Rel.pNone (R : Rel T env σ P H) {b : Addr} (h : H b = none) : P b = none := by
  cases e : P b with
  | none => rfl
  | some o => have := R.sub b o e; rw [h] at this; cases this
theorem psub_upd {P : Hp} (h : P p = none) : PSub P (upd P p o) := fun b u e => by
  rw [upd_ne (ne_of_none e h)]; exact e
theorem Rel.slot {i : Nat} {o : Option EV} {σ' : St} (R : Rel T env σ P H) (hl : σ'.length = σ.length) (hσ : ∀ j, j ≠ i → σ'[j]? = σ[j]?) (hs : PSub P P') (sub : PSub P' H') (ht : Tbs T.tbs P' H') (hk : ∀ b u, H b = some u → OwnX env σ H i b → H' b = some u ∧ P' b = none)
    (hi : ∀ g, o = some g → i < env.length → ∃ y, σ'[i]? = some (some y) ∧ EnvRep T P' H' g y ∧ (g.isOwn = true → ∀ b, Foot g y H' b → ¬ OwnX env σ H i b)) :
    Rel T (env.set i o) σ' P' H' ∧ (∀ b, Own (env.set i o) σ' H' b → OwnX env σ H i b ∨ ∃ g y, o = some g ∧ g.isOwn = true ∧ σ'[i]? = some (some y) ∧ Foot g y H' b) ∧ (∀ b, OwnX env σ H i b → Own (env.set i o) σ' H' b) := by
  have key : ∀ (j : Nat) (e : EV), (env.set i o)[j]? = some (some e) → (j = i ∧ o = some e ∧ i < env.length) ∨ (j ≠ i ∧ env[j]? = some (some e)) := fun j e h => by
    by_cases q : j = i
    · subst q
      by_cases hj : j < env.length
      · rw [List.getElem?_set_self hj] at h
        exact .inl ⟨rfl, Option.some.inj h, hj⟩
      · rw [List.getElem?_eq_none (by simpa using hj)] at h; cases h
    · rw [List.getElem?_set_ne (fun z => q z.symm)] at h
      exact .inr ⟨q, h⟩
  have ft : ∀ (j : Nat) (e : EV) (x : V) (b : Addr), j ≠ i → env[j]? = some (some e) → e.isOwn = true → σ[j]? = some (some x) → (Foot e x H' b ↔ Foot e x H b) := fun j e x b n h o s => by
    obtain ⟨v, hv, r⟩ := R.ent j e h
    rw [s] at hv; cases hv
    exact r.footH fun a u ha _ hu => (hk a u hu ⟨j, e, x, n, h, o, s, .inl ha⟩).1
  refine ⟨⟨sub, fun j e h => ?_, fun j l e f x y a n h1 h2 o1 o2 s1 s2 t1 t2 => ?_, by rw [List.length_set, hl]; exact R.len, ht⟩, fun b ⟨j, e, x, h1, h2, h3, h4⟩ => ?_, fun b ⟨j, f, x, n, h1, h2, h3, h4⟩ => ⟨j, f, x, by rw [List.getElem?_set_ne (fun z => n z.symm)]; exact h1, h2, by rw [hσ j n]; exact h3, (ft j f x b n h1 h2 h3).mpr h4⟩⟩
  · rcases key j e h with ⟨rfl, q, hj⟩ | ⟨n, q⟩
    · obtain ⟨y, hy, r, _⟩ := hi e q hj
      exact ⟨y, hy, r⟩
    · obtain ⟨v, hv, r⟩ := R.ent j e q
      exact ⟨v, by rw [hσ j n]; exact hv, r.grow hs fun b u w1 w2 w3 w4 => hk b u w1 ⟨j, e, v, n, q, w3, hv, w4⟩⟩
  · rcases key j e h1 with ⟨rfl, q, hj⟩ | ⟨n1, q⟩
    · obtain ⟨y', hy, _, no⟩ := hi e q hj
      rw [s1] at hy; cases hy
      rcases key l f h2 with ⟨rfl, _, _⟩ | ⟨n2, q2⟩
      · exact n rfl
      · rw [hσ l n2] at s2
        exact no o1 a t1 ⟨l, f, y, n2, q2, o2, s2, (ft l f y a n2 q2 o2 s2).mp t2⟩
    · rw [hσ j n1] at s1
      rcases key l f h2 with ⟨rfl, q2, hj⟩ | ⟨n2, q2⟩
      · obtain ⟨y', hy, _, no⟩ := hi f q2 hj
        rw [s2] at hy; cases hy
        exact no o2 a t2 ⟨j, e, x, n1, q, o1, s1, (ft j e x a n1 q o1 s1).mp t1⟩
      · rw [hσ l n2] at s2
        exact R.dis j l e f x y a n q q2 o1 o2 s1 s2 ((ft j e x a n1 q o1 s1).mp t1) ((ft l f y a n2 q2 o2 s2).mp t2)
  · rcases key j e h1 with ⟨rfl, q, hj⟩ | ⟨n1, q⟩
    · exact .inr ⟨e, x, q, h2, h3, h4⟩
    · rw [hσ j n1] at h3
      exact .inl ⟨j, e, x, n1, q, h2, h3, (ft j e x b n1 q h2 h3).mp h4⟩
theorem Rel.newP (R : Rel T env σ P H) (hp : H p = none) : Rel T env σ (upd P p o) (upd H p o) ∧ Fr env σ P H env σ (upd P p o) (upd H p o) := by
  have pp := R.pNone hp
  obtain ⟨R2, w⟩ := R.reH (P' := upd P p o) (H' := upd H p o) (psub_upd pp) (fun b u e => by
    by_cases hb : b = p
    · subst hb; rw [upd_same] at e ⊢; exact e
    · rw [upd_ne hb] at e ⊢; exact R.sub b u e) (((R.tabs.setP (P' := upd P p o) fun b q => by
    by_cases hb : b = p
    · subst hb; exact .inr fun ps z => by rw [hp] at z; cases z
    · rw [upd_ne hb] at q; exact .inl q).ext fun b u e => (upd_ne (ne_of_none e hp)).trans e)) fun b u h1 h2 => by
    have hb : b ≠ p := ne_of_none h1 hp
    obtain ⟨_, _, h3⟩ := R.ownAt h2
    rw [upd_ne hb, upd_ne hb]; exact ⟨h1, h3⟩
  refine ⟨R2, fun b u e _ _ => ?_, fun b _ n z => n ((w b).mp z), psub_upd pp, fun b h => ?_, fun b h => ?_⟩
  · rw [upd_ne (ne_of_none e hp)]; exact e
  · by_cases hb : b = p
    · subst hb; exact .inr (.inl hp)
    · rw [upd_ne hb] at h; exact .inl h
  · by_cases hb : b = p
    · subst hb; rw [upd_same]; exact fun z => nomatch z
    · rw [upd_ne hb]; exact h
theorem Rel.newF (R : Rel T env σ P H) (hp : H p = none) : Rel T env σ P (upd H p o) ∧ Fr env σ P H env σ P (upd H p o) ∧ ¬ Own env σ (upd H p o) p ∧ P p = none := by
  have pp := R.pNone hp
  obtain ⟨R2, w⟩ := R.reH (P' := P) (H' := upd H p o) (PSub.refl _) (fun b u e => by
    rw [upd_ne (ne_of_none e pp)]; exact R.sub b u e) (R.tabs.ext fun b u e => (upd_ne (ne_of_none e hp)).trans e) fun b u h1 h2 => by
    have hb : b ≠ p := ne_of_none h1 hp
    obtain ⟨_, _, h3⟩ := R.ownAt h2
    rw [upd_ne hb]; exact ⟨h1, h3⟩
  refine ⟨R2, ⟨fun b u e _ _ => ?_, fun b _ n z => n ((w b).mp z), PSub.refl _, fun b h => .inl h, fun b h => ?_⟩, fun z => R.notOwn hp ((w p).mp z), pp⟩
  · rw [upd_ne (ne_of_none e hp)]; exact e
  · by_cases hb : b = p
    · subst hb; rw [upd_same]; exact fun z => nomatch z
    · rw [upd_ne hb]; exact h
theorem Rel.freeze {a : Addr} {vs : List V} (R : Rel T env σ P H) (ha : H a = some (.lst vs)) (hp : P a = none) (no : ¬ Own env σ H a) : Rel T env σ (upd P a (.lst vs)) H :=
  (R.reH (P' := upd P a (.lst vs)) (H' := H) (psub_upd hp) (fun b u e => by
    by_cases hb : b = a
    · subst hb; rw [upd_same] at e; cases e; exact ha
    · rw [upd_ne hb] at e; exact R.sub b u e) (R.tabs.setP fun b q => by
    by_cases hb : b = a
    · subst hb; exact .inr fun ps z => by rw [ha] at z; cases z
    · rw [upd_ne hb] at q; exact .inl q) fun b u h1 h2 => by
    obtain ⟨_, _, h3⟩ := R.ownAt h2
    have hb : b ≠ a := by rintro rfl; exact no h2
    rw [upd_ne hb]; exact ⟨h1, h3⟩).1
end
section
variable {T : Tab} {W : WX} {env env' : Env} {σ : St} {P H P' H' : Hp} {x : V}
theorem KRep.rdb {k : Kd} {d : D} (R : Rel T env σ P H) (h : KRep T k env σ P H d x) : Rdb T P H d x := by
  cases k with
  | pure => exact .inl h
  | fresh => obtain ⟨a, vs, ds, e, h1, _, _, h2, h3⟩ := h; exact .inr ⟨a, vs, ds, e, h1, h2, h3⟩
  | own i =>
    obtain ⟨ds, e, h3, hx⟩ := h
    obtain ⟨v, hv, r⟩ := R.ent i _ e
    rw [hx] at hv; cases hv
    obtain ⟨a, vs, q, q1, q2, q3⟩ := r
    exact .inr ⟨a, vs, ds, q, q1, q3, h3⟩
theorem Rdb.tupE {ds : List D} (R : PSub P H) (h : Rdb T P H (.tup ds) x) : ∃ a vs, x = .ref a ∧ SqT T.K H a vs ∧ Reps T P ds vs := by
  rcases h with h | ⟨_, _, _, _, _, _, h⟩
  · rw [Rep] at h
    obtain ⟨a, vs, e, h1, h2⟩ := h
    exact ⟨a, vs, e, sqT_sub R h1, h2⟩
  · cases h
theorem Rdb.lstE {ds : List D} (R : PSub P H) (h : Rdb T P H (.lst ds) x) : ∃ a vs, x = .ref a ∧ Rd H a (.lst vs) ∧ Reps T P ds vs := by
  rcases h with h | ⟨a, vs, es, e, h1, h2, h3⟩
  · rw [Rep] at h
    obtain ⟨a, vs, e, h1, h2⟩ := h
    exact ⟨a, vs, e, Rd.sub R h1, h2⟩
  · cases h3; exact ⟨a, vs, e, .inl h1, h2⟩
theorem Rdb.scrE {ns : List Int} (R : PSub P H) (h : Rdb T P H (.scr ns) x) : ∃ a, x = .ref a ∧ SqL T.K H a (ns.map V.int) := by
  rcases h with h | ⟨_, _, _, _, _, _, h⟩
  · rw [Rep] at h
    obtain ⟨a, e, h1⟩ := h
    exact ⟨a, e, sqL_sub R h1⟩
  · cases h
theorem Rdb.objE {c : Nat} {ds : List D} (R : PSub P H) (h : Rdb T P H (.obj c ds) x) : ∃ a dx vs, x = .ref a ∧ H a = some (.ins (T.clsA c) dx ((T.clsF c).zip vs)) ∧ vs.length = (T.clsF c).length ∧ Reps T P ds vs := by
  rcases h with h | ⟨_, _, _, _, _, _, h⟩
  · rw [Rep] at h
    obtain ⟨a, dx, vs, e, h1, hl, h2⟩ := h
    exact ⟨a, dx, vs, e, R _ _ h1, hl, h2⟩
  · cases h
theorem Rdb.seqE {ds : List D} {d : D} (R : PSub P H) (hd : d = .lst ds ∨ d = .tup ds) (h : Rdb T P H d x) : ∃ a vs, x = .ref a ∧ (SqL T.K H a vs ∨ SqT T.K H a vs) ∧ Reps T P ds vs := by
  rcases hd with rfl | rfl
  · obtain ⟨a, vs, e, h1, h2⟩ := h.lstE R; exact ⟨a, vs, e, .inl (.inl h1), h2⟩
  · obtain ⟨a, vs, e, h1, h2⟩ := h.tupE R; exact ⟨a, vs, e, .inr h1, h2⟩
theorem rep_int {i : Int} : Rep T P (.int i) (.int i) := by rw [Rep]
theorem rep_bl {i : Bool} : Rep T P (.bl i) (.bl i) := by rw [Rep]
theorem rep_non : Rep T P .non .non := by rw [Rep]
theorem rep_str {i : Str} : Rep T P (.str i) (.str i) := by rw [Rep]
theorem rep_tup {a : Addr} {vs : List V} {ds : List D} (h : P a = some (.tup vs)) (k : Reps T P ds vs) : Rep T P (.tup ds) (.ref a) := by rw [Rep]; exact ⟨a, vs, rfl, .of h, k⟩
theorem rep_lst {a : Addr} {vs : List V} {ds : List D} (h : P a = some (.lst vs)) (k : Reps T P ds vs) : Rep T P (.lst ds) (.ref a) := by rw [Rep]; exact ⟨a, vs, rfl, .inl h, k⟩
theorem KRep.carry {k : Kd} {d : D} (h : KRep T k env σ P H d x) (f : Fr env σ P H env' σ P' H') (hs : ∀ i, k = .own i → env'[i]? = env[i]?) : KRep T k env' σ P' H' d x := by
  cases k with
  | pure => exact Rep.sub f.mono d x h
  | fresh =>
    obtain ⟨a, vs, ds, e, h1, h2, h3, h4, h5⟩ := h
    have ha : H a ≠ none := by rw [h1]; exact fun z => nomatch z
    refine ⟨a, vs, ds, e, f.keep a _ h1 h3 (fun _ z => nomatch z), ?_, f.own a ha h3, Reps.sub f.mono _ _ h4, h5⟩
    refine Classical.byContradiction fun z => ?_
    rcases f.new a z with q | q | q
    · exact q h2
    · exact ha q
    · exact h3 q
  | own i =>
    obtain ⟨ds, e, h3, hx⟩ := h
    exact ⟨ds, by rw [hs i rfl]; exact e, h3, hx⟩
theorem Steady.use {k : Kd} {α : Type} {m : Env → R α} (h : Steady k m) {e e' : Env} {d : α} (hm : m e = .ok d e') : ∀ i, k = .own i → e'[i]? = e[i]? := fun i hk => by
  subst hk; exact h e d e' hm
end
theorem NewV.back {k : Kd} {env env' : Env} {σ σ' : St} {P P' H H' : Hp} {x : V} (f : Fr env σ P H env' σ' P' H') (h : NewV k H' x) : NewV k H x := by
  cases k with
  | fresh => obtain ⟨a, e, h⟩ := h; exact ⟨a, e, Classical.byContradiction fun z => f.there a z h⟩
  | _ => trivial
def liftO (o : Option D) (e : Env) : R D := match o with | some d => .ok d e | none => .stk
def op2M (g : D → D → Option D) (ma mb : M) : M := fun env => (ma env).bind fun x e1 => (mb e1).bind fun y e2 => liftO (g x y) e2
def op1M (g : D → Option D) (ma : M) : M := fun env => (ma env).bind fun x e1 => liftO (g x) e1
def liftB (o : Option Bool) (e : Env) : R Bool := match o with | some d => .ok d e | none => .stk
def cmpM (g : D → D → Option Bool) (ma mb : M) : MT := fun env => (ma env).bind fun x e1 => (mb e1).bind fun y e2 => liftB (g x y) e2
def bV (m : MT) : M := fun env => (m env).bind fun b e => .ok (.bl b) e
theorem bV_cmp (g : D → D → Option Bool) (ma mb : M) (env : Env) : bV (cmpM g ma mb) env = (ma env).bind fun x e1 => (mb e1).bind fun y e2 => (liftB (g x y) e2).bind fun b e => .ok (.bl b) e := by
  unfold bV cmpM
  cases ma env with
  | ok d e1 =>
    show ((mb e1).bind fun y e2 => liftB (g d y) e2).bind _ = (mb e1).bind _
    cases mb e1 <;> rfl
  | _ => rfl
def OpD (T : Tab) (r : R2) (k : Kd) (g : D → D → Option D) : Prop :=
  ∀ (env : Env) (σ : St) (P H : Hp) (dx dy : D) (x y : V) (d : D) (Q : VK), Rel T env σ P H → Rdb T P H dx x → Rdb T P H dy y → g dx dy = some d →
    (∀ v P' H', Rel T env σ P' H' → Fr env σ P H env σ P' H' → KRep T k env σ P' H' d v → NewV k H v → Q v H') → r x y H Q
def UnD (T : Tab) (r : V → Hp → VK → Prop) (k : Kd) (g : D → Option D) : Prop :=
  ∀ (env : Env) (σ : St) (P H : Hp) (dx : D) (x : V) (d : D) (Q : VK), Rel T env σ P H → Rdb T P H dx x → g dx = some d →
    (∀ v P' H', Rel T env σ P' H' → Fr env σ P H env σ P' H' → KRep T k env σ P' H' d v → NewV k H v → Q v H') → r x H Q
def CmpD (T : Tab) (r : R2) (g : D → D → Option Bool) : Prop :=
  ∀ (P H : Hp) (dx dy : D) (x y : V) (b : Bool) (Q : VK), PSub P H → Rdb T P H dx x → Rdb T P H dy y → g dx dy = some b → Q (.bl b) H → r x y H Q
section
variable {T : Tab} {W : WX} {X : Cx} {a b : Expr} {ka kb k : Kd} {ma mb : M} {pos : Pos}
theorem rd_op2 {r : R2} {g : D → D → Option D} (hD : OpD T r k g) (hs : Steady ka mb) {σ : St} {H : Hp} {Q : VK} (h : rdE T W k (op2M g ma mb) σ H Q) : tOp r (rdE T W ka ma) (rdE T W kb mb) σ H Q := by
  obtain ⟨env, P, R, h⟩ := h
  refine ⟨env, P, R, After.at h.bind fun d1 env1 P1 H1 _ R1 F1 h1 x kx nx => ?_⟩
  refine ⟨env1, P1, R1, After.at h1.bind fun d2 env2 P2 H2 e2 R2 F2 h2 y ky ny => ?_⟩
  have kx' := kx.carry F2 (hs.use e2)
  cases e : g d1 d2 with
  | none => rw [e] at h2; exact False.elim h2
  | some d =>
    rw [e] at h2
    exact hD env2 σ P2 H2 d1 d2 x y d Q R2 (kx'.rdb R2) (ky.rdb R2) e fun v P' H' R' F' kv nv => h2 P' H' R' F' v kv (nv.back (F1.trans F2))
theorem de_op2 {op : Operator} {r : R2} {g : D → D → Option D} (ho : OpR X (binaryOp op) r) (hD : OpD T r k g) (ha : DE T W X a ka ma) (hb : DE T W X b kb mb) (hs : Steady ka mb := by trivial) :
    DE T W X (.BinOp a op b pos) k (op2M g ma mb) := pe_imp (pe_op ho ha hb) fun _ _ _ h => rd_op2 hD hs h
theorem rd_cmp {r : R2} {g : D → D → Option Bool} (hD : CmpD T r g) (hs : Steady ka mb) {σ : St} {H : Hp} {Q : Bool → Hp → Prop} (h : rdT T W (cmpM g ma mb) σ H Q) : tOp r (rdE T W ka ma) (rdE T W kb mb) σ H (fun x H' => ∃ k, x = .bl k ∧ Q k H') := by
  obtain ⟨env, P, R, h⟩ := h
  refine ⟨env, P, R, After.at h.bind fun d1 env1 P1 H1 _ R1 F1 h1 x kx nx => ?_⟩
  refine ⟨env1, P1, R1, After.at h1.bind fun d2 env2 P2 H2 e2 R2 F2 h2 y ky ny => ?_⟩
  have kx' := kx.carry F2 (hs.use e2)
  cases e : g d1 d2 with
  | none => rw [e] at h2; exact False.elim h2
  | some d =>
    rw [e] at h2
    exact hD P2 H2 d1 d2 x y d _ R2.sub (kx'.rdb R2) (ky.rdb R2) e ⟨d, rfl, h2.here R2 (Fr.refl _ _ _ _)⟩
theorem dt_cmp {op : CmpOp} {r : R2} {g : D → D → Option Bool} (ho : OpR X (compareOp op) r) (hD : CmpD T r g) (ha : DE T W X a ka ma) (hb : DE T W X b kb mb) (hm : behindInMarks op b = false := by rfl) (hs : Steady ka mb := by trivial) :
    DT T W X (.Compare a [op] [b] pos) (cmpM g ma mb) := pt_imp (pt_cmpR ho ha hb hm) fun _ _ _ h => rd_cmp hD hs h
theorem de_cmp {op : CmpOp} {r : R2} {g : D → D → Option Bool} (ho : OpR X (compareOp op) r) (hD : CmpD T r g) (ha : DE T W X a ka ma) (hb : DE T W X b kb mb) (hm : behindInMarks op b = false := by rfl) (hs : Steady ka mb := by trivial) :
    DE T W X (.Compare a [op] [b] pos) .pure (bV (cmpM g ma mb)) := by
  refine pe_imp (pe_cmpR ho ha hb hm) fun σ H Q h => ?_
  obtain ⟨env, P, RR, h⟩ := h
  rw [bV_cmp] at h
  refine ⟨env, P, RR, After.at h.bind fun d1 env1 P1 H1 _ R1 F1 h1 x kx nx => ?_⟩
  refine ⟨env1, P1, R1, After.at h1.bind fun d2 env2 P2 H2 e2 R2 F2 h2 y ky ny => ?_⟩
  have kx' := kx.carry F2 (hs.use e2)
  cases e : g d1 d2 with
  | none => rw [e] at h2; exact False.elim h2
  | some d =>
    rw [e] at h2
    exact hD P2 H2 d1 d2 x y d _ R2.sub (kx'.rdb R2) (ky.rdb R2) e (h2 P2 H2 R2 (Fr.refl _ _ _ _) _ (show Rep T P2 (.bl d) (.bl d) from rep_bl) trivial)
theorem de_un {op : UnaryOp} {r : V → Hp → VK → Prop} {g : D → Option D} (ho : UnR X (unaryOp op) r) (hD : UnD T r k g) (ha : DE T W X a ka ma) : DE T W X (.UnaryOp op a pos) k (op1M g ma) := by
  refine pe_imp (pe_un ho ha) fun σ H Q h => ?_
  obtain ⟨env, P, R, h⟩ := h
  refine ⟨env, P, R, After.at h.bind fun d1 env1 P1 H1 _ R1 F1 h1 x kx nx => ?_⟩
  cases e : g d1 with
  | none => rw [e] at h1; exact False.elim h1
  | some d =>
    rw [e] at h1
    exact hD env1 σ P1 H1 d1 x d Q R1 (kx.rdb R1) e fun v P' H' R' F' kv nv => h1 P' H' R' F' v kv (nv.back F1)
end
def varM (i : Nat) : M := fun env => match env[i]? with | some (some (.v d)) => .ok d env | _ => .stk
def ovarM (i : Nat) : M := fun env => match env[i]? with | some (some (.own ds)) => .ok (.lst ds) env | _ => .stk
def cM (d : D) : M := fun env => .ok d env
section
variable {T : Tab} {W : WX} {X : Cx} {pos : Pos}
theorem de_var {i : Nat} {x : Str} (h : PE X (.Name x pos) (tVar i)) : DE T W X (.Name x pos) .pure (varM i) := by
  refine pe_imp h fun σ H Q h => ?_
  obtain ⟨env, P, R, h⟩ := h
  unfold varM at h
  cases e : env[i]? with
  | none => rw [e] at h; exact False.elim h
  | some o =>
    cases o with
    | none => rw [e] at h; exact False.elim h
    | some v =>
      cases v with
      | v d =>
        rw [e] at h
        obtain ⟨u, hu, r⟩ := R.ent i _ e
        exact ⟨u, hu, h.here R (Fr.refl _ _ _ _) u r trivial⟩
      | own ds => rw [e] at h; exact False.elim h
      | new c fs => rw [e] at h; exact False.elim h
      | mob c fs => rw [e] at h; exact False.elim h
      | ex c fs => rw [e] at h; exact False.elim h
theorem de_ovar {i : Nat} {x : Str} (h : PE X (.Name x pos) (tVar i)) : DE T W X (.Name x pos) (.own i) (ovarM i) := by
  refine pe_imp h fun σ H Q h => ?_
  obtain ⟨env, P, R, h⟩ := h
  unfold ovarM at h
  cases e : env[i]? with
  | none => rw [e] at h; exact False.elim h
  | some o =>
    cases o with
    | none => rw [e] at h; exact False.elim h
    | some v =>
      cases v with
      | own ds =>
        rw [e] at h
        obtain ⟨u, hu, r⟩ := R.ent i _ e
        exact ⟨u, hu, h.here R (Fr.refl _ _ _ _) u ⟨ds, e, rfl, hu⟩ trivial⟩
      | v d => rw [e] at h; exact False.elim h
      | new c fs => rw [e] at h; exact False.elim h
      | mob c fs => rw [e] at h; exact False.elim h
      | ex c fs => rw [e] at h; exact False.elim h
theorem de_c {e : Expr} {v : V} {d : D} (h : PE X e (tC v)) (hd : ∀ P, Rep T P d v) : DE T W X e .pure (cM d) := by
  refine pe_imp h fun σ H Q h => ?_
  obtain ⟨env, P, R, h⟩ := h
  exact h.here R (Fr.refl _ _ _ _) v (hd P) trivial
theorem de_int {i : Int} {j : Nat} : DE T W X (.Constant (.int i) j pos) .pure (cM (.int i)) := de_c pe_int fun _ => rep_int
theorem de_bl {i : Bool} {j : Nat} : DE T W X (.Constant (.bool i) j pos) .pure (cM (.bl i)) := de_c pe_bl fun _ => rep_bl
theorem rd_frz {m : M} {σ : St} {H : Hp} {Q : VK} (h : rdE T W .pure m σ H Q) : rdE T W .fresh m σ H Q := by
  obtain ⟨env, P, R, h⟩ := h
  refine ⟨env, P, R, ?_⟩
  cases e : m env with
  | ok d env1 =>
    rw [e] at h
    intro P1 H1 R1 F1 x kx nx
    obtain ⟨a, vs, ds, rfl, h1, h2, h3, h4, rfl⟩ := kx
    obtain ⟨a', e', ha⟩ := nx
    cases e'
    refine h (upd P1 a (.lst vs)) H1 (R1.freeze h1 h2 h3) ?_ _ (rep_lst upd_same (Reps.sub (psub_upd h2) _ _ h4)) trivial
    refine ⟨F1.keep, F1.own, F1.mono.trans (psub_upd h2), fun b hb => ?_, F1.there⟩
    by_cases q : b = a
    · subst q; exact .inr (.inl ha)
    · rw [upd_ne q] at hb; exact F1.new b hb
  | exc c fs env1 => rw [e] at h; exact h
  | stk => rw [e] at h; exact h
theorem de_frz {e : Expr} {m : M} (h : DE T W X e .fresh m) : DE T W X e .pure m := pe_imp h fun _ _ _ h => rd_frz h
def frzM (i : Nat) : M := fun env => match env[i]? with | some (some (.own ds)) => .ok (.lst ds) (env.set i (some (.v (.lst ds)))) | _ => .stk
theorem get_set {α : Type} {l : List (Option α)} {i : Nat} {a : Option α} {b : α} (h : l[i]? = some (some b)) : i < l.length := by
  rcases Nat.lt_or_ge i l.length with q | q
  · exact q
  · rw [List.getElem?_eq_none q] at h; cases h
theorem Rel.freezeO {env : Env} {σ : St} {P H : Hp} {i : Nat} {ds : List D} (R : Rel T env σ P H) (e : env[i]? = some (some (.own ds))) :
    ∃ a vs P', σ[i]? = some (some (V.ref a)) ∧ P' a = some (.lst vs) ∧ Reps T P' ds vs ∧ Rel T (env.set i (some (.v (.lst ds)))) σ P' H ∧ Fr env σ P H (env.set i (some (.v (.lst ds)))) σ P' H := by
  obtain ⟨u, hu, r⟩ := R.ent i _ e
  obtain ⟨a, vs, rfl, h1, h2, h3⟩ := r
  have own_a : Own env σ H a := ⟨i, _, _, e, rfl, hu, .here⟩
  have h3' := Reps.sub (psub_upd (o := .lst vs) h2) _ _ h3
  obtain ⟨R2, w1, w2⟩ := R.slot (i := i) (o := some (.v (.lst ds))) (σ' := σ) (P' := upd P a (.lst vs)) (H' := H) rfl (fun _ _ => rfl) (psub_upd h2) (fun b o q => by
    by_cases hb : b = a
    · subst hb; rw [upd_same] at q; cases q; exact h1
    · rw [upd_ne hb] at q; exact R.sub b o q) (R.tabs.setP fun b q => by
    by_cases hb : b = a
    · subst hb; exact .inr fun ps z => by rw [h1] at z; cases z
    · rw [upd_ne hb] at q; exact .inl q) (fun b u q1 q2 => by
    obtain ⟨_, _, q3⟩ := R.ownAt q2.own
    have hb : b ≠ a := by rintro rfl; exact q2.ne R e rfl hu .here
    rw [upd_ne hb]; exact ⟨q1, q3⟩) (fun g hg _ => by
    cases hg
    exact ⟨_, hu, rep_lst upd_same h3', fun z => nomatch z⟩)
  refine ⟨a, vs, upd P a (.lst vs), hu, upd_same, h3', R2, fun b o q _ _ => q, fun b _ n z => ?_, psub_upd h2, fun b hb => ?_, fun b h => h⟩
  · rcases w1 b z with q | ⟨g, y, q, o, _⟩
    · exact n q.own
    · cases q; cases o
  · by_cases q : b = a
    · subst q; exact .inr (.inr own_a)
    · rw [upd_ne q] at hb; exact .inl hb
theorem de_ofrz {i : Nat} {x : Str} (h : PE X (.Name x pos) (tVar i)) : DE T W X (.Name x pos) .pure (frzM i) := by
  refine pe_imp h fun σ H Q h => ?_
  obtain ⟨env, P, R, h⟩ := h
  unfold frzM at h
  cases e : env[i]? with
  | none => rw [e] at h; exact False.elim h
  | some o =>
    cases o with
    | none => rw [e] at h; exact False.elim h
    | some v =>
      cases v with
      | own ds =>
        rw [e] at h
        obtain ⟨a, vs, P', hu, hp, hr, R', F'⟩ := R.freezeO e
        exact ⟨_, hu, h.here R' F' _ (rep_lst hp hr) trivial⟩
      | v d => rw [e] at h; exact False.elim h
      | new c fs => rw [e] at h; exact False.elim h
      | mob c fs => rw [e] at h; exact False.elim h
      | ex c fs => rw [e] at h; exact False.elim h
end
end Ue
set_option linter.all false
set_option Elab.async false
set_option maxRecDepth 100000
set_option maxHeartbeats 4000000
namespace Ue
open PySem L2
def truth : D → Option Bool
  | .non => some false
  | .bl b => some b
  | .int i => some (i != 0)
  | .str s => if s.length ≤ sizeLine then some ((s.length : Int) != 0) else none
  | .lst ds => some (!ds.isEmpty)
  | .tup ds => some (!ds.isEmpty)
  | .obj _ _ => none
  | .scr ns => some (!ns.isEmpty)
  | .dct _ => none
  | .tpx _ => none
def trM (m : M) : MT := fun env => (m env).bind fun d e => liftB (truth d) e
def andT (a b : MT) : MT := fun env => (a env).bind fun x e => if x then b e else .ok false e
def orT (a b : MT) : MT := fun env => (a env).bind fun x e => if x then .ok true e else b e
def notT (a : MT) : MT := fun env => (a env).bind fun x e => .ok (!x) e
def ifM {α : Type} (t : MT) (a b : Env → R α) : Env → R α := fun env => (t env).bind fun x e => if x then a e else b e
section
variable {T : Tab} {W : WX} {X : Cx} {a b c e : Expr} {rest : List Expr} {ka kb k : Kd} {m ma mb : M} {ta tb tc : MT} {pos : Pos} {env env' : Env} {σ : St} {P H P' H' : Hp} {x : V}
theorem truV {d : D} {t : Bool} (hK : X.K = T.K) (R1 : PSub P H) (h : Rdb T P H d x) (ht : truth d = some t) : TruV X.K x H t := by
  rw [hK]
  cases d with
  | non => rw [h.nonE]; cases ht; rfl
  | bl b => rw [h.blE]; cases ht; rfl
  | int i => rw [h.intE]; cases ht; rfl
  | str s =>
    rw [h.strE]
    have ht : (if s.length ≤ sizeLine then some ((s.length : Int) != 0) else none) = some t := ht
    by_cases hl : s.length ≤ sizeLine
    · rw [if_pos hl] at ht; cases ht; exact ⟨hl, rfl⟩
    · rw [if_neg hl] at ht; cases ht
  | lst ds =>
    obtain ⟨a, vs, rfl, h1, h2⟩ := h.lstE R1
    cases ht
    refine .inl ⟨vs, .inl h1, ?_⟩
    have := h2.length
    cases ds <;> cases vs <;> simp at this ⊢
  | tup ds =>
    obtain ⟨a, vs, rfl, h1, h2⟩ := h.tupE R1
    cases ht
    refine .inr (.inl ⟨vs, h1, ?_⟩)
    have := h2.length
    cases ds <;> cases vs <;> simp at this ⊢
  | obj _ _ => cases ht
  | scr ns =>
    obtain ⟨a, rfl, h1⟩ := h.scrE R1
    cases ht
    exact .inl ⟨_, h1, by cases ns <;> rfl⟩
  | dct kvs => cases ht
  | tpx ds => cases ht
theorem dt_tr (hK : X.K = T.K) (ha : DE T W X a k m) (he : ∀ whole, isTrue a X.env whole = (do let v ← whole; standAt a.pos; holding [v] (truthy v))) : DT T W X a (trM m) := by
  refine pt_imp (pt_truth ha he) fun σ H Q h => ?_
  obtain ⟨env, P, RR, h⟩ := h
  refine ⟨env, P, RR, After.mono h.bind fun d env1 P1 H1 R1 F1 h1 x kx nx => ?_⟩
  cases e : truth d with
  | none => rw [e] at h1; exact False.elim h1
  | some t =>
    rw [e] at h1
    exact ⟨t, truV hK R1.sub (kx.rdb R1) e, h1.here R1 (Fr.refl _ _ _ _)⟩
def DW (T : Tab) (W : WX) (X : Cx) (e : Expr) (m : MT) : Prop := PW X e (rdT T W m)
theorem dw_and1 (h : DT T W X a ta) : DW T W X (.BoolOp .And [a] pos) ta := pw_and1 h
theorem dw_or1 (h : DT T W X a ta) : DW T W X (.BoolOp .Or [a] pos) ta := pw_or1 h
theorem dw_and (h : DT T W X a ta) (h' : DW T W X (.BoolOp .And (b :: rest) pos) tb) : DW T W X (.BoolOp .And (a :: b :: rest) pos) (andT ta tb) := by
  refine pw_imp (pw_and h h') fun σ H Q h => ?_
  obtain ⟨env, P, RR, h⟩ := h
  refine ⟨env, P, RR, After.mono h.bind fun d env1 P1 H1 R1 F1 h1 => ?_⟩
  cases d with
  | true => exact iteT ⟨env1, P1, R1, h1⟩
  | false => exact iteF (h1.here R1 (Fr.refl _ _ _ _))
theorem dw_or (h : DT T W X a ta) (h' : DW T W X (.BoolOp .Or (b :: rest) pos) tb) : DW T W X (.BoolOp .Or (a :: b :: rest) pos) (orT ta tb) := by
  refine pw_imp (pw_or h h') fun σ H Q h => ?_
  obtain ⟨env, P, RR, h⟩ := h
  refine ⟨env, P, RR, After.mono h.bind fun d env1 P1 H1 R1 F1 h1 => ?_⟩
  cases d with
  | true => exact iteT (h1.here R1 (Fr.refl _ _ _ _))
  | false => exact iteF ⟨env1, P1, R1, h1⟩
theorem dt_w (h : DW T W X a ta) : DT T W X a ta := PW.pt h
theorem dt_not (h : DT T W X a ta) : DT T W X (.UnaryOp .Not a pos) (notT ta) := by
  refine pt_imp (pt_not h) fun σ H Q h => ?_
  obtain ⟨env, P, RR, h⟩ := h
  exact ⟨env, P, RR, After.mono h.bind fun d env1 P1 H1 R1 F1 h1 => h1.here R1 (Fr.refl _ _ _ _)⟩
theorem de_ifExp (hc : DT T W X c tc) (ha : DE T W X a k ma) (hb : DE T W X b k mb) : DE T W X (.IfExp c a b pos) k (ifM tc ma mb) := by
  refine pe_imp (pe_ifExp hc ha hb) fun σ H Q h => ?_
  obtain ⟨env, P, RR, h⟩ := h
  refine ⟨env, P, RR, After.mono h.bind fun d env1 P1 H1 R1 F1 h1 => ?_⟩
  have nb : ∀ {m : M}, After T W σ env1 P1 H1 (m env1) (fun d env' P' H' => ∀ x, KRep T k env' σ P' H' d x → NewV k H x → Q x H') → rdE T W k m σ H1 Q :=
    fun z => ⟨env1, P1, R1, After.mono z fun _ _ _ _ _ _ q x kx nx => q x kx (nx.back F1)⟩
  cases d with
  | true => exact iteT (nb h1)
  | false => exact iteF (nb h1)
def andV (ma mb : M) : M := fun env => (ma env).bind fun d e => match d with | .bl true => mb e | .bl false => .ok (.bl false) e | _ => .stk
def orV (ma mb : M) : M := fun env => (ma env).bind fun d e => match d with | .bl true => .ok (.bl true) e | .bl false => mb e | _ => .stk
def notV (ma : M) : M := fun env => (ma env).bind fun d e => match d with | .bl b => .ok (.bl (!b)) e | _ => .stk
theorem de_and (h : DE T W X a ka ma) (h' : DE T W X (.BoolOp .And (b :: rest) pos) .pure mb) : DE T W X (.BoolOp .And (a :: b :: rest) pos) .pure (andV ma mb) := by
  refine pe_imp (pe_and h h') fun σ H Q h => ?_
  obtain ⟨env, P, RR, h⟩ := h
  refine ⟨env, P, RR, After.mono h.bind fun d env1 P1 H1 R1 F1 h1 x kx nx => ?_⟩
  cases d with
  | bl c =>
    refine ⟨c, (kx.rdb R1).blE, ?_⟩
    cases c with
    | true => exact iteT ⟨env1, P1, R1, After.mono h1 fun _ _ _ _ _ _ q x kx nx => q x kx trivial⟩
    | false => exact iteF (h1.here R1 (Fr.refl _ _ _ _) _ (show Rep T P1 _ _ from rep_bl) trivial)
  | _ => exact False.elim h1
theorem de_or (h : DE T W X a ka ma) (h' : DE T W X (.BoolOp .Or (b :: rest) pos) .pure mb) : DE T W X (.BoolOp .Or (a :: b :: rest) pos) .pure (orV ma mb) := by
  refine pe_imp (pe_or h h') fun σ H Q h => ?_
  obtain ⟨env, P, RR, h⟩ := h
  refine ⟨env, P, RR, After.mono h.bind fun d env1 P1 H1 R1 F1 h1 x kx nx => ?_⟩
  cases d with
  | bl c =>
    refine ⟨c, (kx.rdb R1).blE, ?_⟩
    cases c with
    | false => exact iteF ⟨env1, P1, R1, After.mono h1 fun _ _ _ _ _ _ q x kx nx => q x kx trivial⟩
    | true => exact iteT (h1.here R1 (Fr.refl _ _ _ _) _ (show Rep T P1 _ _ from rep_bl) trivial)
  | _ => exact False.elim h1
theorem de_one {op : BoolOp} (h : DE T W X a k m) : DE T W X (.BoolOp op [a] pos) k m := pe_one h
theorem de_notV (h : DE T W X a ka ma) : DE T W X (.UnaryOp .Not a pos) .pure (notV ma) := by
  refine pe_imp (pe_not h) fun σ H Q h => ?_
  obtain ⟨env, P, RR, h⟩ := h
  refine ⟨env, P, RR, After.mono h.bind fun d env1 P1 H1 R1 F1 h1 x kx nx => ?_⟩
  cases d with
  | bl c => exact ⟨c, (kx.rdb R1).blE, h1.here R1 (Fr.refl _ _ _ _) _ (show Rep T P1 _ _ from rep_bl) trivial⟩
  | _ => exact False.elim h1
end
def argsM : List M → Env → R (List D)
  | [], env => .ok [] env
  | m :: ms, env => (m env).bind fun d e1 => (argsM ms e1).bind fun ds e2 => .ok (d :: ds) e2
inductive KReps (T : Tab) (env : Env) (σ : St) (P H : Hp) : List Kd → List D → List V → Prop where
  | nil : KReps T env σ P H [] [] []
  | cons {k : Kd} {ks : List Kd} {d : D} {ds : List D} {x : V} {xs : List V} : KRep T k env σ P H d x → KReps T env σ P H ks ds xs → KReps T env σ P H (k :: ks) (d :: ds) (x :: xs)
def rdA (T : Tab) (W : WX) (ks : List Kd) (ms : List M) : TA := fun σ H Q => ∃ env P, Rel T env σ P H ∧ After T W σ env P H (argsM ms env) (fun ds env' P' H' => ∀ xs, KReps T env' σ P' H' ks ds xs → Q xs H')
def DA (T : Tab) (W : WX) (X : Cx) (es : List Expr) (ks : List Kd) (ms : List M) : Prop := PA X es (rdA T W ks ms)
section
variable {T : Tab} {W : WX} {X : Cx} {a b c e : Expr} {es : List Expr} {k : Kd} {ks : List Kd} {m : M} {ms : List M} {pos : Pos} {env env' : Env} {σ : St} {P H P' H' : Hp} {x : V}
theorem da_nil : DA T W X [] [] [] := by
  refine pa_imp pa_nil fun σ H Q h => ?_
  obtain ⟨env, P, RR, h⟩ := h
  exact h.here RR (Fr.refl _ _ _ _) _ .nil
theorem da_cons (h : DE T W X e k m) (h' : DA T W X es ks ms) (hs : Steady k (argsM ms) := by trivial) (hst : starEach (e :: es) X.env = (false, eval e X.env) :: starEach es X.env := by rfl) : DA T W X (e :: es) (k :: ks) (m :: ms) := by
  refine pa_imp (pa_cons h h' hst) fun σ H Q h => ?_
  obtain ⟨env, P, RR, h⟩ := h
  refine ⟨env, P, RR, After.at h.bind fun d env1 P1 H1 _ R1 F1 h1 x kx nx => ?_⟩
  refine ⟨env1, P1, R1, After.at h1.bind fun ds env2 P2 H2 e2 R2 F2 h2 xs kxs => ?_⟩
  exact h2.here R2 (Fr.refl _ _ _ _) _ (.cons (kx.carry F2 (hs.use e2)) kxs)
theorem KReps.rdbs (R1 : Rel T env σ P H) : ∀ {ks : List Kd} {ds : List D} {xs : List V}, KReps T env σ P H ks ds xs → Rdbs T P H ds xs
  | _, _, _, .nil => .nil
  | _, _, _, .cons h t => .cons (h.rdb R1) (KReps.rdbs R1 t)
theorem KReps.pures : ∀ {ks : List Kd} {ds : List D} {xs : List V}, KReps T env σ P H ks ds xs → (∀ k ∈ ks, k = .pure) → Reps T P ds xs
  | _, _, _, .nil, _ => Reps.nil
  | _, _, _, .cons h t, hp => by
    have e := hp _ List.mem_cons_self
    subst e
    exact Reps.cons h (t.pures fun k hk => hp k (List.mem_cons_of_mem _ hk))
theorem pures_nil : ∀ k ∈ ([] : List Kd), k = .pure := fun _ h => nomatch h
theorem pures_cons {ks : List Kd} (h : ∀ k ∈ ks, k = .pure) : ∀ k ∈ (Kd.pure :: ks), k = .pure := fun k hk => by
  rcases List.mem_cons.mp hk with e | e
  · exact e
  · exact h k e
def CallD (T : Tab) (r : List V → Hp → VK → Prop) (k : Kd) (g : List D → Option D) : Prop :=
  ∀ (env : Env) (σ : St) (P H : Hp) (ds : List D) (xs : List V) (d : D) (Q : VK), Rel T env σ P H → Rdbs T P H ds xs → g ds = some d →
    (∀ v P' H', Rel T env σ P' H' → Fr env σ P H env σ P' H' → KRep T k env σ P' H' d v → NewV k H v → Q v H') → r xs H Q
def callM (g : List D → Option D) (ms : List M) : M := fun env => (argsM ms env).bind fun ds e => liftO (g ds) e
theorem rd_call {r : List V → Hp → VK → Prop} {g : List D → Option D} (hD : CallD T r k g) {σ : St} {H : Hp} {Q : VK} (h : rdE T W k (callM g ms) σ H Q) : tCB r (rdA T W ks ms) σ H Q := by
  obtain ⟨env, P, RR, h⟩ := h
  refine ⟨env, P, RR, After.at h.bind fun ds env1 P1 H1 _ R1 F1 h1 xs kxs => ?_⟩
  cases e : g ds with
  | none => rw [e] at h1; exact False.elim h1
  | some d =>
    rw [e] at h1
    exact hD env1 σ P1 H1 ds xs d Q R1 (kxs.rdbs R1) e fun v P' H' R' F' kv nv => h1 P' H' R' F' v kv (nv.back F1)
theorem de_callB {x : Str} {id : String} {p : Pos} {r : List V → Hp → VK → Prop} {g : List D → Option D} (hc : CallR X (.builtin id) r) (hD : CallD T r k g) (hg : Gl X x) (hm : X.mg x = none) (hv : bootBuiltins x = some (.builtin id)) (ha : DA T W X (e :: es) ks ms)
    (hn : x ≠ "__name__" := by decide) (hdb : (x == ("__debug__" : Str)) = false := by decide) (he : starEach (e :: es) X.env = (false, eval e X.env) :: starEach es X.env := by rfl) (hpl : (backTo pos (starEach es X.env)).any (·.1) = false := by rfl) : DE T W X (.Call (.Name x p) (e :: es) [] pos) k (callM g ms) :=
  pe_imp (pe_callB hc hg hm hv ha hn hdb he hpl) fun _ _ _ h => rd_call hD h
theorem de_callTy {x : Str} {id : String} {p : Pos} {r : List V → Hp → VK → Prop} {g : List D → Option D} (hc : CallR X (.type id) r) (hD : CallD T r k g) (hg : Gl X x) (hm : X.mg x = none) (hv : bootBuiltins x = some (.type id)) (ha : DA T W X (e :: es) ks ms)
    (hn : x ≠ "__name__" := by decide) (hdb : (x == ("__debug__" : Str)) = false := by decide) (he : starEach (e :: es) X.env = (false, eval e X.env) :: starEach es X.env := by rfl) (hpl : (backTo pos (starEach es X.env)).any (·.1) = false := by rfl) : DE T W X (.Call (.Name x p) (e :: es) [] pos) k (callM g ms) :=
  pe_imp (pe_callTy hc hg hm hv ha hn hdb he hpl) fun _ _ _ h => rd_call hD h
def tupM (ms : List M) : M := fun env => (argsM ms env).bind fun ds e => if ds.length ≤ sizeLine then .ok (.tup ds) e else .stk
def lstM (ms : List M) : M := fun env => (argsM ms env).bind fun ds e => if ds.length ≤ sizeLine then .ok (.lst ds) e else .stk
theorem de_tup {x1 : Nat} (h : DA T W X es ks ms) (hp : ∀ k ∈ ks, k = Kd.pure) : DE T W X (.Tuple es x1 pos) .pure (tupM ms) := by
  refine pe_imp (pe_tup h) fun σ H Q h => ?_
  obtain ⟨env, P, RR, h⟩ := h
  refine ⟨env, P, RR, After.at h.bind fun ds env1 P1 H1 _ R1 F1 h1 xs kxs => ?_⟩
  have rs := kxs.pures hp
  by_cases hl : ds.length ≤ sizeLine
  · rw [if_pos hl] at h1
    refine ⟨by rw [rs.length]; exact hl, fun p hp => ?_⟩
    obtain ⟨R2, F2⟩ := R1.newP (o := .tup xs) hp
    exact h1 _ _ R2 F2 _ (rep_tup upd_same (Reps.sub F2.mono _ _ rs)) trivial
  · rw [if_neg hl] at h1; exact False.elim h1
theorem de_lst (h : DA T W X es ks ms) (hp : ∀ k ∈ ks, k = Kd.pure) : DE T W X (.List es pos) .fresh (lstM ms) := by
  refine pe_imp (pe_lst h) fun σ H Q h => ?_
  obtain ⟨env, P, RR, h⟩ := h
  refine ⟨env, P, RR, After.at h.bind fun ds env1 P1 H1 _ R1 F1 h1 xs kxs => ?_⟩
  have rs := kxs.pures hp
  by_cases hl : ds.length ≤ sizeLine
  · rw [if_pos hl] at h1
    refine ⟨by rw [rs.length]; exact hl, fun p hp => ?_⟩
    obtain ⟨R2, F2, no, pn⟩ := R1.newF (o := .lst xs) hp
    exact h1 _ _ R2 F2 _ ⟨p, xs, ds, rfl, upd_same, pn, no, rs, rfl⟩ (NewV.back (k := .fresh) F1 ⟨p, rfl, hp⟩)
  · rw [if_neg hl] at h1; exact False.elim h1
end
end Ue
set_option linter.all false
set_option Elab.async false
set_option maxRecDepth 100000
set_option maxHeartbeats 4000000
namespace Ue
open PySem L2
mutual
def toPy : D → Option PyData
  | .non => some .none
  | .bl b => some (.bool b)
  | .int i => some (.int i)
  | .str s => some (.str s)
  | .tup ds => (toPys ds).map .tuple
  | .lst ds => (toPys ds).map .list
  | .obj _ _ => none
  | .scr _ => none
  | .dct _ => none
  | .tpx _ => none
def toPys : List D → Option (List PyData)
  | [] => some []
  | d :: ds => match toPy d, toPys ds with
    | some p, some ps => some (p :: ps)
    | _, _ => none
end
section
variable {T : Tab} {P H : Hp}
mutual
theorem dp_of (R1 : PSub P H) : ∀ (d : D) (x : V) (p : PyData), Rep T P d x → toPy d = some p → Dp T.K H x p
  | .non, x, p, h, e => by rw [Rep] at h; cases e; subst h; exact .non
  | .bl b, x, p, h, e => by rw [Rep] at h; cases e; subst h; exact .bl b
  | .int i, x, p, h, e => by rw [Rep] at h; cases e; subst h; exact .int i
  | .str s, x, p, h, e => by rw [Rep] at h; cases e; subst h; exact .str s
  | .tup ds, x, p, h, e => by
    rw [Rep] at h
    obtain ⟨a, vs, rfl, h1, h2⟩ := h
    rw [toPy] at e
    cases q : toPys ds with
    | none => rw [q] at e; cases e
    | some ps => rw [q] at e; cases e; exact .tup (sqT_sub R1 h1) (dps_of R1 ds vs ps h2 q)
  | .lst ds, x, p, h, e => by
    rw [Rep] at h
    obtain ⟨a, vs, rfl, h1, h2⟩ := h
    rw [toPy] at e
    cases q : toPys ds with
    | none => rw [q] at e; cases e
    | some ps => rw [q] at e; cases e; exact .lst (.inl (Rd.sub R1 h1)) (dps_of R1 ds vs ps h2 q)
  | .obj c ds, x, p, h, e => by rw [toPy] at e; cases e
  | .scr ns, x, p, h, e => by rw [toPy] at e; cases e
  | .dct _, x, p, h, e => by rw [toPy] at e; cases e
  | .tpx _, x, p, h, e => by rw [toPy] at e; cases e
theorem dps_of (R1 : PSub P H) : ∀ (ds : List D) (xs : List V) (ps : List PyData), Reps T P ds xs → toPys ds = some ps → DpAll T.K H xs ps
  | [], xs, ps, h, e => by rw [Reps] at h; rw [toPys] at e; cases e; subst h; exact .nil
  | d :: ds, xs, ps, h, e => by
    rw [Reps] at h
    obtain ⟨v, r, rfl, h1, h2⟩ := h
    rw [toPys] at e
    cases q1 : toPy d with
    | none => rw [q1] at e; cases e
    | some p =>
      cases q2 : toPys ds with
      | none => rw [q1, q2] at e; cases e
      | some qs => rw [q1, q2] at e; cases e; exact .cons (dp_of R1 d v p h1 q1) (dps_of R1 ds r qs h2 q2)
end
theorem Rdb.dp {d : D} {x : V} {p : PyData} (R1 : PSub P H) (h : Rdb T P H d x) (e : toPy d = some p) : Dp T.K H x p := by
  rcases h with h | ⟨a, vs, ds, rfl, h1, h2, rfl⟩
  · exact dp_of R1 d x p h e
  · rw [toPy] at e
    cases q : toPys ds with
    | none => rw [q] at e; cases e
    | some ps => rw [q] at e; cases e; exact .lst (.of h1) (dps_of R1 ds vs ps h2 q)
end
def eqD (a b : D) : Option Bool := match toPy a, toPy b with
  | some p, some q => if SeqAt.shaped p = true ∧ SeqAt.shaped q = true then some (PyData.eqv p q) else none
  | _, _ => none
def neD (a b : D) : Option Bool := (eqD a b).map (!·)
def inD (a b : D) : Option Bool := match toPy a, toPy b with
  | some p, some (.list qs) => if SeqAt.shaped p = true ∧ SeqAt.shaped (.list qs) = true then some (qs.any fun z => PyData.eqv z p) else none
  | _, _ => none
def notInD (a b : D) : Option Bool := (inD a b).map (!·)
section
variable {T : Tab}
theorem eqD_some {a b : D} {t : Bool} (h : eqD a b = some t) : ∃ p q, toPy a = some p ∧ toPy b = some q ∧ SeqAt.shaped p = true ∧ SeqAt.shaped q = true ∧ t = PyData.eqv p q := by
  unfold eqD at h
  cases ea : toPy a with
  | none => rw [ea] at h; cases h
  | some p =>
    cases eb : toPy b with
    | none => rw [ea, eb] at h; cases h
    | some q =>
      rw [ea, eb] at h
      have h : (if SeqAt.shaped p = true ∧ SeqAt.shaped q = true then some (PyData.eqv p q) else none) = some t := h
      by_cases c : SeqAt.shaped p = true ∧ SeqAt.shaped q = true
      · rw [if_pos c] at h; cases h; exact ⟨p, q, rfl, rfl, c.1, c.2, rfl⟩
      · rw [if_neg c] at h; cases h
theorem cd_eqD : CmpD T (rEqD T.K) eqD := fun P H dx dy x y b Q R1 hx hy e q => by
  obtain ⟨p, r, e1, e2, s1, s2, rfl⟩ := eqD_some e
  exact ⟨p, r, hx.dp R1 e1, hy.dp R1 e2, s1, s2, q⟩
theorem cd_neD : CmpD T (rNeD T.K) neD := fun P H dx dy x y b Q R1 hx hy e q => by
  unfold neD at e
  cases c : eqD dx dy with
  | none => rw [c] at e; cases e
  | some t =>
    rw [c] at e
    obtain ⟨p, r, e1, e2, s1, s2, rfl⟩ := eqD_some c
    cases e
    exact ⟨p, r, hx.dp R1 e1, hy.dp R1 e2, s1, s2, q⟩
end
def i2c (c : Int → Int → Bool) (f : Int → Int → D) (a b : D) : Option D := match a, b with | .int i, .int j => if c i j then some (f i j) else none | _, _ => none
section
variable {T : Tab}
theorem od_i2 {f : Int → Int → Int} : OpD T (rI0 fun i j => .int (f i j)) .pure (i2 fun i j => .int (f i j)) := fun env σ P H dx dy x y d Q R1 hx hy e k => by
  cases dx with
  | int i =>
    cases dy with
    | int j => cases e; exact ⟨i, j, hx.intE, hy.intE, k _ P H R1 (Fr.refl _ _ _ _) (show Rep T P _ _ from rep_int) trivial⟩
    | _ => cases e
  | _ => cases e
theorem od_i2c {c : Int → Int → Bool} {C : Int → Int → Prop} {f : Int → Int → Int} (hc : ∀ i j, c i j = true → C i j) : OpD T (rI C fun i j => .int (f i j)) .pure (i2c c fun i j => .int (f i j)) := fun env σ P H dx dy x y d Q R1 hx hy e k => by
  cases dx with
  | int i =>
    cases dy with
    | int j =>
      have e : (if c i j then some (D.int (f i j)) else none) = some d := e
      by_cases z : c i j = true
      · rw [if_pos z] at e; cases e
        exact ⟨i, j, hx.intE, hy.intE, hc i j z, k _ P H R1 (Fr.refl _ _ _ _) (show Rep T P _ _ from rep_int) trivial⟩
      · rw [if_neg z] at e; cases e
    | _ => cases e
  | _ => cases e
theorem cd_c2 {f : Int → Int → Bool} : CmpD T (rI0 fun i j => .bl (f i j)) (c2 f) := fun P H dx dy x y b Q R1 hx hy e q => by
  cases dx with
  | int i =>
    cases dy with
    | int j => cases e; exact ⟨i, j, hx.intE, hy.intE, q⟩
    | _ => cases e
  | _ => cases e
def eqS (a b : D) : Option Bool := match a, b with
  | .int i, .int j => some (decide (i = j))
  | .str i, .str j => some (decide (i = j))
  | .bl i, .bl j => some (decide (i = j))
  | .non, .non => some true
  | .non, .int _ => some false | .int _, .non => some false | .non, .bl _ => some false | .bl _, .non => some false | .non, .str _ => some false | .str _, .non => some false
  | .int _, .str _ => some false | .str _, .int _ => some false | .bl _, .str _ => some false | .str _, .bl _ => some false
  | _, _ => none
def neS (a b : D) : Option Bool := (eqS a b).map (!·)
theorem eqS_some {P H : Hp} {dx dy : D} {x y : V} {b : Bool} (hx : Rdb T P H dx x) (hy : Rdb T P H dy y) (e : eqS dx dy = some b) : scal x y = true ∧ decide (x = y) = b := by
  cases dx <;> cases dy <;> (try cases e) <;> (first | rw [hx.intE] | rw [hx.strE] | rw [hx.blE] | rw [hx.nonE]) <;> (first | rw [hy.intE] | rw [hy.strE] | rw [hy.blE] | rw [hy.nonE]) <;> refine ⟨rfl, ?_⟩ <;> simp
theorem cd_eqS : CmpD T rEq eqS := fun P H dx dy x y b Q R1 hx hy e q => by
  obtain ⟨h1, h2⟩ := eqS_some hx hy e
  exact ⟨h1, by rw [h2]; exact q⟩
theorem cd_neS : CmpD T rNe neS := fun P H dx dy x y b Q R1 hx hy e q => by
  unfold neS at e
  cases c : eqS dx dy with
  | none => rw [c] at e; cases e
  | some t =>
    rw [c] at e; cases e
    obtain ⟨h1, h2⟩ := eqS_some hx hy c
    exact ⟨h1, by rw [h2]; exact q⟩
def isN (a b : D) : Option Bool := match b with
  | .non => (match a with | .non => some true | .bl _ => some false | .int _ => some false | .str _ => some false | .tup _ => some false | .lst _ => some false | .obj _ _ => some false | .scr _ => some false | .dct _ => some false | .tpx _ => none)
  | _ => none
def notN (a b : D) : Option Bool := (isN a b).map (!·)
theorem Rdb.dctE {P H : Hp} {x : V} {kvs : List (Key × V)} (R : PSub P H) (h : Rdb T P H (.dct kvs) x) : ∃ a, x = .ref a ∧ H a = some (.dK kvs) := by
  rcases h with h | ⟨_, _, _, _, _, _, h⟩
  · rw [Rep] at h
    obtain ⟨a, e, h1⟩ := h
    exact ⟨a, e, R _ _ h1⟩
  · cases h
def isB (a b : D) : Option Bool := match a, b with | .bl i, .bl j => some (decide (i = j)) | _, _ => none
def notB (a b : D) : Option Bool := (isB a b).map (!·)
def u1 (f : Int → D) (a : D) : Option D := match a with | .int i => some (f i) | _ => none
theorem ud_u1 {f : Int → Int} : UnD T (rU fun i => .int (f i)) .pure (u1 fun i => .int (f i)) := fun env σ P H dx x d Q R1 hx e k => by
  cases dx with
  | int i => cases e; exact ⟨i, hx.intE, k _ P H R1 (Fr.refl _ _ _ _) (show Rep T P _ _ from rep_int) trivial⟩
  | _ => cases e
end
def small64 (i : Int) : Bool := decide (i.natAbs < 18446744073709551616)
def mulOk (i j : Int) : Bool := small64 i || small64 j || decide (i.natAbs.log2 + j.natAbs.log2 < 100000000)
def powOk (i j : Int) : Bool := decide (0 ≤ j) && decide (j ≤ 1000000) && small64 i
theorem mulOk_ok {i j : Int} (h : mulOk i j = true) : IntMulOk i j := by
  unfold mulOk small64 at h
  rcases Bool.or_eq_true_iff.mp h with h | h
  · have hm : CMul i j := by
      rcases Bool.or_eq_true_iff.mp h with h | h
      · have := of_decide_eq_true h; exact .inl (by omega)
      · have := of_decide_eq_true h; exact .inr (by omega)
    exact hm.ok
  · have b : ∀ x : Int, Builtin.Int.intBits x ≤ x.natAbs.log2 + 1 := fun x => by
      unfold Builtin.Int.intBits
      split <;> omega
    have h1 := b i
    have h2 := b j
    have h3 := of_decide_eq_true h
    refine CMulX.ok ?_
    unfold CMulX
    omega
def divOk (i j : Int) : Bool := decide (j ≠ 0) && (small64 j || !Builtin.divisionGoesByPylong i j)
theorem log2_64 {n : Nat} (h : n < 18446744073709551616) : n.log2 < 9000 := by
  by_cases h0 : n = 0
  · rw [h0]; decide +kernel
  · rw [Nat.log2_lt h0]; exact Nat.lt_of_lt_of_le h (by rw [show (18446744073709551616 : Nat) = 2 ^ 64 by decide]; exact Nat.pow_le_pow_right (by decide) (by decide))
theorem divOk_ok {i j : Int} (h : divOk i j = true) : j ≠ 0 ∧ Builtin.divisionGoesByPylong i j = false := by
  unfold divOk at h
  obtain ⟨h1, h2⟩ := Bool.and_eq_true_iff.mp h
  refine ⟨of_decide_eq_true h1, ?_⟩
  rcases Bool.or_eq_true_iff.mp h2 with q | q
  · exact PyProof.noPylong_of_log2 (log2_64 (of_decide_eq_true q))
  · simpa using q
section
variable {X : Cx} {T : Tab}
theorem op_mulA : OpR X (binaryOp .Mult) (rI (fun i j => mulOk i j = true) fun i j => .int (i * j)) := opI fun _ _ _ _ _ _ _ hc q => PyProof.Rows.mul_int q (mulOk_ok hc)
theorem op_fdivA : OpR X (binaryOp .FloorDiv) (rI (fun i j => divOk i j = true) fun i j => .int (i.fdiv j)) := opI fun i j _ _ _ _ _ hc q => by
  obtain ⟨h1, h2⟩ := divOk_ok hc
  exact PyProof.Rows.floordiv_int h1 q (.inl h2)
abbrev addI := i2 fun i j => .int (i + j)
abbrev mulI := i2c mulOk fun i j => .int (i * j)
abbrev fdivI := i2c divOk fun i j => .int (i.fdiv j)
abbrev modI := i2c (fun _ j => decide (j ≠ 0)) fun i j => .int (i.fmod j)
abbrev powI := i2c powOk fun i j => .int (i ^ j.toNat)
def shlOk (i j : Int) : Bool := decide (0 ≤ j) && decide ((Builtin.Int.intBits i : Int) + j ≤ 2 ^ 27)
abbrev shlI := i2c shlOk fun i j => .int (i * 2 ^ j.toNat)
abbrev shrI := i2c (fun _ j => decide (0 ≤ j)) fun i j => .int (i / 2 ^ j.toNat)
abbrev andI := i2 fun i j => .int (Builtin.bitAnd i j)
abbrev orI := i2 fun i j => .int (Builtin.bitOr i j)
theorem od_add : OpD T (rI0 fun i j => .int (i + j)) .pure addI := od_i2
theorem od_mul : OpD T (rI (fun i j => mulOk i j = true) fun i j => .int (i * j)) .pure mulI := od_i2c fun _ _ h => h
theorem od_fdiv : OpD T (rI (fun i j => divOk i j = true) fun i j => .int (i.fdiv j)) .pure fdivI := od_i2c fun _ _ h => h
theorem od_mod : OpD T (rI (fun _ j => j ≠ 0) fun i j => .int (i.fmod j)) .pure modI := od_i2c fun _ _ h => of_decide_eq_true h
theorem od_pow : OpD T (rI CPow fun i j => .int (i ^ j.toNat)) .pure powI := od_i2c fun i j h => by
  unfold powOk small64 at h
  obtain ⟨h1, h2⟩ := Bool.and_eq_true_iff.mp h
  obtain ⟨h3, h4⟩ := Bool.and_eq_true_iff.mp h1
  exact ⟨of_decide_eq_true h3, of_decide_eq_true h4, by simpa using of_decide_eq_true h2⟩
theorem od_shl : OpD T (rI CShl fun i j => .int (i * 2 ^ j.toNat)) .pure shlI := od_i2c fun i j h => by
  unfold shlOk at h
  obtain ⟨h1, h2⟩ := Bool.and_eq_true_iff.mp h
  exact ⟨of_decide_eq_true h1, of_decide_eq_true h2⟩
theorem od_shr : OpD T (rI (fun _ j => 0 ≤ j) fun i j => .int (i / 2 ^ j.toNat)) .pure shrI := od_i2c fun _ _ h => of_decide_eq_true h
theorem od_and : OpD T (rI0 fun i j => .int (Builtin.bitAnd i j)) .pure andI := od_i2
theorem od_or : OpD T (rI0 fun i j => .int (Builtin.bitOr i j)) .pure orI := od_i2
abbrev invI := u1 fun i => .int (Builtin.bitNot i)
theorem ud_inv : UnD T (rU fun i => .int (Builtin.bitNot i)) .pure invI := ud_u1
abbrev ltI := c2 fun i j => decide (i < j)
abbrev gtI := c2 fun i j => decide (j < i)
abbrev geI := c2 fun i j => decide (j ≤ i)
end
end Ue
set_option linter.all false
set_option Elab.async false
set_option maxRecDepth 100000
set_option maxHeartbeats 4000000
namespace Ue
open PySem L2
section
variable {X : Cx} {T : Tab}
theorem Reps.replicate {P : Hp} {ds : List D} {vs : List V} (h : Reps T P ds vs) : ∀ n, Reps T P (List.replicate n ds).flatten (List.replicate n vs).flatten
  | 0 => Reps.nil
  | n + 1 => by
    rw [List.replicate_succ, List.replicate_succ, List.flatten_cons, List.flatten_cons]
    exact h.append (Reps.replicate h n)
end
section
variable {T : Tab}
def lenD : List D → Option D
  | [.lst ds] => some (.int ds.length)
  | [.tup ds] => some (.int ds.length)
  | [.scr ns] => some (.int ns.length)
  | [.str s] => if s.length ≤ sizeLine then some (.int s.length) else none
  | _ => none
theorem Rdbs.one {P H : Hp} {d : D} {xs : List V} (h : Rdbs T P H [d] xs) : ∃ x, xs = [x] ∧ Rdb T P H d x := by
  cases h with
  | cons h t => cases t; exact ⟨_, rfl, h⟩
theorem cd_len : CallD T (fun xs H Q => ∃ x n, xs = [x] ∧ LenV T.K x H n ∧ Q (.int n) H) .pure lenD := fun env σ P H ds xs d Q R1 hx e k => by
  have kk : ∀ n : Int, d = .int n → Q (.int n) H := fun n h => k _ P H R1 (Fr.refl _ _ _ _) (by subst h; exact (show Rep T P _ _ from rep_int)) trivial
  match ds, hx, e with
  | [.lst es], hx, e =>
    obtain ⟨x, rfl, h0⟩ := hx.one
    obtain ⟨a, vs, rfl, h1, h2⟩ := h0.lstE R1.sub
    exact ⟨_, vs.length, rfl, .inl ⟨vs, .inl h1, rfl⟩, kk _ (by cases e; rw [h2.length])⟩
  | [.tup es], hx, e =>
    obtain ⟨x, rfl, h0⟩ := hx.one
    obtain ⟨a, vs, rfl, h1, h2⟩ := h0.tupE R1.sub
    exact ⟨_, vs.length, rfl, .inr ⟨vs, h1, rfl⟩, kk _ (by cases e; rw [h2.length])⟩
  | [.scr ns], hx, e =>
    obtain ⟨x, rfl, h0⟩ := hx.one
    obtain ⟨a, rfl, h1⟩ := h0.scrE R1.sub
    exact ⟨_, ns.length, rfl, .inl ⟨_, h1, by simp⟩, kk _ (by cases e; rfl)⟩
  | [.str z], hx, e =>
    obtain ⟨x, rfl, h0⟩ := hx.one
    have e : (if z.length ≤ sizeLine then some (D.int z.length) else none) = some d := e
    by_cases c : z.length ≤ sizeLine
    · rw [if_pos c] at e; cases e
      exact ⟨V.str z, z.length, by rw [h0.strE], ⟨c, rfl⟩, kk _ rfl⟩
    · rw [if_neg c] at e; cases e
def absD : List D → Option D | [.int i] => some (.int (if i < 0 then -i else i)) | _ => none
theorem cd_abs : CallD T (fun xs H Q => ∃ i, xs = [.int i] ∧ Q (.int (if i < 0 then -i else i)) H) .pure absD := fun env σ P H ds xs d Q R1 hx e k => by
  match ds, hx, e with
  | [.int i], hx, e =>
    obtain ⟨x, rfl, h0⟩ := hx.one
    cases e
    exact ⟨i, by rw [h0.intE], k _ P H R1 (Fr.refl _ _ _ _) (show Rep T P _ _ from rep_int) trivial⟩
def intD : List D → Option D | [.int i] => some (.int i) | [.bl b] => some (.int (if b then 1 else 0)) | _ => none
theorem cd_int : CallD T (fun xs H Q => (∃ i, xs = [.int i] ∧ Q (.int i) H) ∨ ∃ k, xs = [.bl k] ∧ Q (.int (if k then 1 else 0)) H) .pure intD := fun env σ P H ds xs d Q R1 hx e k => by
  match ds, hx, e with
  | [.int i], hx, e =>
    obtain ⟨x, rfl, h0⟩ := hx.one
    cases e
    exact .inl ⟨i, by rw [h0.intE], k _ P H R1 (Fr.refl _ _ _ _) (show Rep T P _ _ from rep_int) trivial⟩
  | [.bl b], hx, e =>
    obtain ⟨x, rfl, h0⟩ := hx.one
    cases e
    exact .inr ⟨b, by rw [h0.blE], k _ P H R1 (Fr.refl _ _ _ _) (show Rep T P _ _ from rep_int) trivial⟩
def ii (f : Int → Int → Int) : List D → Option D | [.int i, .int j] => some (.int (f i j)) | _ => none
def dInts : List D → Option (List Int)
  | [] => some []
  | .int i :: ds => (dInts ds).map (i :: ·)
  | _ => none
theorem dInts_ok : ∀ {ds : List D} {ns : List Int}, dInts ds = some ns → ds = ns.map D.int
  | [], _, h => by cases h; rfl
  | d :: ds, ns, h => by
    cases d with
    | int i =>
      have h : (dInts ds).map (i :: ·) = some ns := h
      cases e : dInts ds with
      | none => rw [e] at h; cases h
      | some ms => rw [e] at h; cases h; rw [dInts_ok e]; rfl
    | _ => cases h
def dBls : List D → Option (List Bool)
  | [] => some []
  | .bl i :: ds => (dBls ds).map (i :: ·)
  | _ => none
theorem bls_ok : ∀ {ds : List D} {ns : List Bool}, dBls ds = some ns → ds = ns.map D.bl
  | [], _, h => by cases h; rfl
  | d :: ds, ns, h => by
    cases d with
    | bl i =>
      have h : (dBls ds).map (i :: ·) = some ns := h
      cases e : dBls ds with
      | none => rw [e] at h; cases h
      | some ms => rw [e] at h; cases h; rw [bls_ok e]; rfl
    | _ => cases h
theorem Rdb.intsE {P H : Hp} {ds : List D} {ns : List Int} {x : V} (R1 : PSub P H) (h : Rdb T P H (.lst ds) x) (e : dInts ds = some ns) : ∃ a, x = .ref a ∧ SqL T.K H a (ns.map V.int) := by
  obtain ⟨a, vs, rfl, h1, h2⟩ := h.lstE R1
  rw [dInts_ok e] at h2
  rw [Reps.ints ns h2] at h1
  exact ⟨a, rfl, .inl h1⟩
theorem Rdb.blsE {P H : Hp} {ds : List D} {ns : List Bool} {x : V} (R1 : PSub P H) (h : Rdb T P H (.lst ds) x) (e : dBls ds = some ns) : ∃ a, x = .ref a ∧ SqL T.K H a (ns.map V.bl) := by
  obtain ⟨a, vs, rfl, h1, h2⟩ := h.lstE R1
  rw [bls_ok e] at h2
  rw [Reps.bls ns h2] at h1
  exact ⟨a, rfl, .inl h1⟩
def anyD : List D → Option D | [.lst ds] => (dBls ds).map fun ns => .bl (ns.any id) | _ => none
def allD : List D → Option D | [.lst ds] => (dBls ds).map fun ns => .bl (ns.all id) | _ => none
theorem cd_any : CallD T (rAny T.K) .pure anyD := fun env σ P H ds xs d Q R1 hx e k => by
  match ds, hx, e with
  | [.lst es], hx, e =>
    obtain ⟨x, rfl, h0⟩ := hx.one
    have e : (dBls es).map (fun ns => D.bl (ns.any id)) = some d := e
    cases q : dBls es with
    | none => rw [q] at e; cases e
    | some ns =>
      rw [q] at e; cases e
      obtain ⟨a, rfl, h⟩ := h0.blsE R1.sub q
      exact ⟨a, ns, rfl, h, k _ P H R1 (Fr.refl _ _ _ _) (show Rep T P _ _ from rep_bl) trivial⟩
theorem cd_all : CallD T (rAll T.K) .pure allD := fun env σ P H ds xs d Q R1 hx e k => by
  match ds, hx, e with
  | [.lst es], hx, e =>
    obtain ⟨x, rfl, h0⟩ := hx.one
    have e : (dBls es).map (fun ns => D.bl (ns.all id)) = some d := e
    cases q : dBls es with
    | none => rw [q] at e; cases e
    | some ns =>
      rw [q] at e; cases e
      obtain ⟨a, rfl, h⟩ := h0.blsE R1.sub q
      exact ⟨a, ns, rfl, h, k _ P H R1 (Fr.refl _ _ _ _) (show Rep T P _ _ from rep_bl) trivial⟩
def minOf : List Int → Int | [] => 0 | x :: xs => xs.foldl (fun a b => if b < a then b else a) x
def listD : List D → Option D | [.lst ds] => some (.lst ds) | [.tup ds] => some (.lst ds) | _ => none
def tupleD : List D → Option D | [.lst ds] => some (.tup ds) | [.tup ds] => some (.tup ds) | _ => none
theorem cd_list : CallD T (fun xs H Q => ∃ p ys, xs = [.ref p] ∧ (SqL T.K H p ys ∨ SqT T.K H p ys) ∧ ∀ l, H l = none → Q (.ref l) (upd H l (.lst ys))) .fresh listD := fun env σ P H ds xs d Q R1 hx e k => by
  have w : ∀ (es : List D) (x : V) (d0 : D), Rdb T P H d0 x → (d0 = .lst es ∨ d0 = .tup es) → d = .lst es → ∃ p ys, [x] = [V.ref p] ∧ (SqL T.K H p ys ∨ SqT T.K H p ys) ∧ ∀ l, H l = none → Q (.ref l) (upd H l (.lst ys)) := fun es x d0 h hd hd2 => by
    obtain ⟨a, vs, rfl, h1, h2⟩ := h.seqE R1.sub hd
    refine ⟨a, vs, rfl, h1, fun l hl => ?_⟩
    subst hd2
    obtain ⟨R2, F2, no, pn⟩ := R1.newF (o := .lst vs) hl
    exact k _ _ _ R2 F2 ⟨l, _, _, rfl, upd_same, pn, no, h2, rfl⟩ ⟨l, rfl, hl⟩
  match ds, hx, e with
  | [.lst es], hx, e => obtain ⟨x, rfl, h0⟩ := hx.one; cases e; exact w es x _ h0 (.inl rfl) rfl
  | [.tup es], hx, e => obtain ⟨x, rfl, h0⟩ := hx.one; cases e; exact w es x _ h0 (.inr rfl) rfl
theorem cd_tuple : CallD T (fun xs H Q => ∃ p ys, xs = [.ref p] ∧ ((SqL T.K H p ys ∧ ∀ l, H l = none → Q (.ref l) (upd H l (.tup ys))) ∨ (SqT T.K H p ys ∧ Q (.ref p) H))) .pure tupleD := fun env σ P H ds xs d Q R1 hx e k => by
  match ds, hx, e with
  | [.lst es], hx, e =>
    obtain ⟨x, rfl, h0⟩ := hx.one
    cases e
    obtain ⟨a, vs, rfl, h1, h2⟩ := h0.lstE R1.sub
    refine ⟨a, vs, rfl, .inl ⟨.inl h1, fun l hl => ?_⟩⟩
    obtain ⟨R2, F2⟩ := R1.newP (o := .tup vs) hl
    exact k _ _ _ R2 F2 (rep_tup upd_same (Reps.sub F2.mono _ _ h2)) trivial
  | [.tup es], hx, e =>
    obtain ⟨x, rfl, h0⟩ := hx.one
    cases e
    have repx : Rep T P (.tup es) x := h0.elim id fun ⟨_, _, _, _, _, _, q⟩ => nomatch q
    obtain ⟨a, vs, rfl, h1, h2⟩ := h0.tupE R1.sub
    exact ⟨a, vs, rfl, .inr ⟨h1, k _ P H R1 (Fr.refl _ _ _ _) repx trivial⟩⟩
def insI (x : Int) : List Int → List Int | [] => [x] | y :: ys => if x ≤ y then x :: y :: ys else y :: insI x ys
def sortI : List Int → List Int | [] => [] | x :: xs => insI x (sortI xs)
theorem insI_perm (x : Int) : ∀ ys, (insI x ys).Perm (x :: ys)
  | [] => .refl _
  | y :: ys => by
    unfold insI
    by_cases h : x ≤ y
    · rw [if_pos h]
    · rw [if_neg h]; exact ((insI_perm x ys).cons y).trans (List.Perm.swap x y ys)
theorem sortI_perm : ∀ xs, (sortI xs).Perm xs
  | [] => .refl _
  | x :: xs => (insI_perm x _).trans ((sortI_perm xs).cons x)
theorem insI_sorted (x : Int) : ∀ ys, ys.Pairwise (· ≤ ·) → (insI x ys).Pairwise (· ≤ ·)
  | [], _ => by simp [insI]
  | y :: ys, h => by
    obtain ⟨h1, h2⟩ := List.pairwise_cons.mp h
    unfold insI
    by_cases c : x ≤ y
    · rw [if_pos c]
      refine List.pairwise_cons.mpr ⟨fun z hz => ?_, h⟩
      rcases List.mem_cons.mp hz with rfl | hz
      · exact c
      · exact Int.le_trans c (h1 z hz)
    · rw [if_neg c]
      refine List.pairwise_cons.mpr ⟨fun z hz => ?_, insI_sorted x ys h2⟩
      rcases List.mem_cons.mp ((insI_perm x ys).mem_iff.mp hz) with rfl | hz
      · omega
      · exact h1 z hz
theorem sortI_sorted : ∀ xs, (sortI xs).Pairwise (· ≤ ·)
  | [] => .nil
  | x :: xs => insI_sorted x _ (sortI_sorted xs)
theorem sorted_uniq : ∀ {xs ys : List Int}, xs.Perm ys → xs.Pairwise (· ≤ ·) → ys.Pairwise (· ≤ ·) → xs = ys := fun h h1 h2 => List.Perm.eq_of_pairwise (fun _ _ _ _ a b => Int.le_antisymm a b) h1 h2 h
def sortedD : List D → Option D | [.lst ds] => (dInts ds).map fun ns => .lst ((sortI ns).map D.int) | _ => none
theorem cd_sorted : CallD T (rSortedI T.K) .fresh sortedD := fun env σ P H ds xs d Q R1 hx e k => by
  match ds, hx, e with
  | [.lst es], hx, e =>
    obtain ⟨x, rfl, h0⟩ := hx.one
    have e : (dInts es).map (fun ns => D.lst ((sortI ns).map D.int)) = some d := e
    cases q : dInts es with
    | none => rw [q] at e; cases e
    | some ns =>
      rw [q] at e; cases e
      obtain ⟨a, rfl, h⟩ := h0.intsE R1.sub q
      refine ⟨a, ns, rfl, h, fun ns' p hp hs hf => ?_⟩
      have : ns' = sortI ns := sorted_uniq (hp.trans (sortI_perm ns).symm) hs (sortI_sorted ns)
      subst this
      obtain ⟨R2, F2, no, pn⟩ := R1.newF (o := .lst ((sortI ns).map V.int)) hf
      exact k _ _ _ R2 F2 ⟨p, _, _, rfl, upd_same, pn, no, Reps.ofInts _, rfl⟩ ⟨p, rfl, hf⟩
end
end Ue
set_option linter.all false
set_option Elab.async false
set_option maxRecDepth 100000
set_option maxHeartbeats 4000000
namespace Ue
open PySem L2
def R.toS {α : Type} (r : R α) (f : α → Env → SR) : SR :=
  match r with
  | .ok a e => f a e
  | .exc c fs e => .exc c fs e
  | .stk => .stk
theorem NewW.back {k : Kd} {env env' : Env} {σ σ' : L2.St} {P P' H H' : Hp} {x : V} (f : Fr env σ P H env' σ' P' H') (h : NewW k env' σ' H' x) : NewW k env σ H x := by
  cases k with
  | fresh =>
    obtain ⟨a, e, h⟩ := h
    refine ⟨a, e, ?_⟩
    rcases h with h | h
    · exact .inl (Classical.byContradiction fun z => f.there a z h)
    · rcases Classical.em (H a = none) with z | z
      · exact .inl z
      · exact .inr (Classical.byContradiction fun n => f.own a z n h)
  | _ => trivial
section
variable (T : Tab) (W : WX) (kr : Kd) (pins : List Nat)
def AfterS (env : Env) (σ : L2.St) (P H : Hp) (r : SR) (D : Ends) : Prop :=
  match r with
  | .nx env' => ∀ σ' P' H', Rel T env' σ' P' H' → Fr env σ P H env' σ' P' H' → FrP pins σ σ' → D.nx σ' H'
  | .brk env' => ∀ σ' P' H', Rel T env' σ' P' H' → Fr env σ P H env' σ' P' H' → FrP pins σ σ' → D.bk σ' H'
  | .cnt env' => ∀ σ' P' H', Rel T env' σ' P' H' → Fr env σ P H env' σ' P' H' → FrP pins σ σ' → D.ct σ' H'
  | .ret d env' => ∀ σ' P' H' x, Rel T env' σ' P' H' → Fr env σ P H env' σ' P' H' → FrP pins σ σ' → KRep T kr env' σ' P' H' d x → NewW kr env σ H x → D.rt x H'
  | .exc c fs env' => ∀ σ' P' H' cls dd, Rel T env' σ' P' H' → Fr env σ P H env' σ' P' H' → FrP pins σ σ' → ExRep T P' c fs cls dd → W cls dd σ' H'
  | .stk => False
def rdS (m : MS) : TS := fun D σ H => ∃ env P, Rel T env σ P H ∧ AfterS T W kr pins env σ P H (m env) D
def DS (X : Cx) (st : Stmt) (m : MS) : Prop := PS X st (rdS T W kr pins m)
def DSs (X : Cx) (st : List Stmt) (m : MS) : Prop := PSs X st (rdS T W kr pins m)
end
section
variable {T : Tab} {W : WX} {kr : Kd} {pins : List Nat} {env env' : Env} {σ σ' : L2.St} {P H P' H' : Hp} {X : Cx} {pos : Pos}
theorem AfterS.ofR {α : Type} {r : R α} {f : α → Env → SR} {D : Ends} (h : AfterS T W kr pins env σ P H (r.toS f) D) : After T W σ env P H r (fun a env1 P1 H1 => AfterS T W kr pins env1 σ P1 H1 (f a env1) D) := by
  cases r with
  | ok a env1 =>
    intro P1 H1 R1 F1
    have h : AfterS T W kr pins env σ P H (f a env1) D := h
    show AfterS T W kr pins env1 σ P1 H1 (f a env1) D
    cases e : f a env1 with
    | nx e2 => rw [e] at h; intro σ2 P2 H2 R2 F2 p2; exact h σ2 P2 H2 R2 (F1.trans F2) p2
    | brk e2 => rw [e] at h; intro σ2 P2 H2 R2 F2 p2; exact h σ2 P2 H2 R2 (F1.trans F2) p2
    | cnt e2 => rw [e] at h; intro σ2 P2 H2 R2 F2 p2; exact h σ2 P2 H2 R2 (F1.trans F2) p2
    | ret d e2 => rw [e] at h; intro σ2 P2 H2 x R2 F2 p2 k n; exact h σ2 P2 H2 x R2 (F1.trans F2) p2 k (n.back F1)
    | exc c fs e2 => rw [e] at h; intro σ2 P2 H2 cls dd R2 F2 p2 k; exact h σ2 P2 H2 cls dd R2 (F1.trans F2) p2 k
    | stk => rw [e] at h; exact h
  | exc c fs env1 => exact fun P1 H1 cls dd R1 F1 x => h σ P1 H1 cls dd R1 F1 FrP.refl x
  | stk => exact h
theorem AfterS.step {r : SR} {D : Ends} (h : AfterS T W kr pins env σ P H r D) (F1 : Fr env σ P H env' σ' P' H') (p1 : FrP pins σ σ') : AfterS T W kr pins env' σ' P' H' r D := by
  cases r with
  | nx e2 => intro σ2 P2 H2 R2 F2 p2; exact h σ2 P2 H2 R2 (F1.trans F2) (p1.trans p2)
  | brk e2 => intro σ2 P2 H2 R2 F2 p2; exact h σ2 P2 H2 R2 (F1.trans F2) (p1.trans p2)
  | cnt e2 => intro σ2 P2 H2 R2 F2 p2; exact h σ2 P2 H2 R2 (F1.trans F2) (p1.trans p2)
  | ret d e2 => intro σ2 P2 H2 x R2 F2 p2 k n; exact h σ2 P2 H2 x R2 (F1.trans F2) (p1.trans p2) k (n.back F1)
  | exc c fs e2 => intro σ2 P2 H2 cls dd R2 F2 p2 k; exact h σ2 P2 H2 cls dd R2 (F1.trans F2) (p1.trans p2) k
  | stk => exact h
def seqM (a b : MS) : MS := fun env => match a env with | .nx e => b e | r => r
theorem AfterS.seq {a b : MS} {D : Ends} (h : AfterS T W kr pins env σ P H (seqM a b env) D) : AfterS T W kr pins env σ P H (a env) { D with nx := rdS T W kr pins b D } := by
  unfold seqM at h
  cases e : a env with
  | nx e2 => rw [e] at h; intro σ2 P2 H2 R2 F2 p2; exact ⟨e2, P2, R2, AfterS.step h F2 p2⟩
  | brk e2 => rw [e] at h; exact h
  | cnt e2 => rw [e] at h; exact h
  | ret d e2 => rw [e] at h; exact h
  | exc c fs e2 => rw [e] at h; exact h
  | stk => rw [e] at h; exact h
def nilM : MS := fun env => .nx env
theorem dss_nil : DSs T W kr pins X [] nilM := pss_imp pss_nil fun D σ H h => by
  obtain ⟨env, P, RR, h⟩ := h
  exact h σ P H RR (Fr.refl _ _ _ _) FrP.refl
theorem dss_cons {st : Stmt} {rest : List Stmt} {a b : MS} (h1 : DS T W kr pins X st a) (h2 : DSs T W kr pins X rest b) : DSs T W kr pins X (st :: rest) (seqM a b) := pss_imp (pss_cons h1 h2) fun D σ H h => by
  obtain ⟨env, P, RR, h⟩ := h
  exact ⟨env, P, RR, h.seq⟩
theorem dss_one {st : Stmt} {a : MS} (h1 : DS T W kr pins X st a) : DSs T W kr pins X [st] a := pss_one h1
def brkM : MS := fun env => .brk env
def cntM : MS := fun env => .cnt env
theorem ds_continue : DS T W kr pins X (.Continue pos) cntM := ps_imp ps_continue fun D σ H h => by
  obtain ⟨env, P, RR, h⟩ := h
  exact h σ P H RR (Fr.refl _ _ _ _) FrP.refl
def retM (m : M) : MS := fun env => (m env).toS fun d e => .ret d e
theorem ds_ret {e : Expr} {m : M} (h : DE T W X e kr m) : DS T W kr pins X (.Return (some e) pos) (retM m) := ps_imp (ps_ret h) fun D σ H h => by
  obtain ⟨env, P, RR, h⟩ := h
  refine ⟨env, P, RR, ?_⟩
  unfold retM at h
  cases e1 : m env with
  | ok d env1 => rw [e1] at h; exact fun P1 H1 R1 F1 x kx nx => h σ P1 H1 x R1 F1 FrP.refl kx nx.w
  | exc c fs env1 => rw [e1] at h; exact fun P1 H1 cls dd R1 F1 q => h σ P1 H1 cls dd R1 F1 FrP.refl q
  | stk => rw [e1] at h; exact h
def retOM (i : Nat) : MS := fun env => match env[i]? with | some (some (.own ds)) => .ret (.lst ds) (env.set i none) | _ => .stk
theorem Rel.take {i : Nat} {ds : List D} (RR : Rel T env σ P H) (e : env[i]? = some (some (.own ds))) : ∃ a vs, σ[i]? = some (some (V.ref a)) ∧ H a = some (.lst vs) ∧ P a = none ∧ Reps T P ds vs ∧ Own env σ H a ∧ ¬ Own (env.set i none) σ H a ∧ Rel T (env.set i none) σ P H ∧ Fr env σ P H (env.set i none) σ P H := by
  obtain ⟨u, hu, r⟩ := RR.ent i _ e
  obtain ⟨a, vs, rfl, h1, h2, h3⟩ := r
  obtain ⟨R2, w1, _⟩ := RR.slot (i := i) (o := none) (σ' := σ) (P' := P) (H' := H) rfl (fun _ _ => rfl) (PSub.refl _) RR.sub RR.tabs (fun b u q1 q2 => ⟨q1, (RR.ownAt q2.own).choose_spec.2⟩) (fun g hg _ => nomatch hg)
  have w : ∀ b, Own (env.set i none) σ H b → OwnX env σ H i b := fun b z => by
    rcases w1 b z with q | ⟨g, y, q, _⟩
    · exact q
    · cases q
  exact ⟨a, vs, hu, h1, h2, h3, ⟨i, _, _, e, rfl, hu, .here⟩, fun z => (w a z).ne RR e rfl hu .here, R2, fun b o h _ _ => h, fun b _ n z => n (w b z).own, PSub.refl _, fun b h => .inl h, fun b h => h⟩
theorem ds_retO {i : Nat} {x : Str} {p : Pos} (h : PE X (.Name x p) (tVar i)) : DS T W .fresh pins X (.Return (some (.Name x p)) pos) (retOM i) := ps_imp (ps_ret h) fun D σ H h => by
  obtain ⟨env, P, RR, h⟩ := h
  unfold retOM at h
  cases e : env[i]? with
  | none => rw [e] at h; exact False.elim h
  | some o =>
    cases o with
    | none => rw [e] at h; exact False.elim h
    | some v =>
      cases v with
      | own ds =>
        rw [e] at h
        obtain ⟨a, vs, hu, h1, h2, h3, o1, o2, R2, F2⟩ := RR.take e
        exact ⟨_, hu, h σ P H _ R2 F2 FrP.refl ⟨a, vs, ds, rfl, h1, h2, o2, h3, rfl⟩ ⟨a, rfl, .inr o1⟩⟩
      | _ => rw [e] at h; exact False.elim h
def retNM : MS := fun env => .ret .non env
def exprM (m : M) : MS := fun env => (m env).toS fun _ e => .nx e
theorem ds_expr {e : Expr} {m : M} {k : Kd} (h : DE T W X e k m) (hs : swapsWith e none pos.line X.env = pure false := by rfl) : DS T W kr pins X (.Expr e pos) (exprM m) := ps_imp (ps_expr h hs) fun D σ H h => by
  obtain ⟨env, P, RR, h⟩ := h
  exact ⟨env, P, RR, After.mono h.ofR fun d env1 P1 H1 R1 F1 h1 x kx nx => h1 σ P1 H1 R1 (Fr.refl _ _ _ _) FrP.refl⟩
theorem Rel.setV {i : Nat} {d : D} {x : V} (RR : Rel T env σ P H) (hx : Rep T P d x) : Rel T (env.set i (some (.v d))) (σ.set i (some x)) P H ∧ Fr env σ P H (env.set i (some (.v d))) (σ.set i (some x)) P H := by
  obtain ⟨R2, w1, _⟩ := RR.slot (i := i) (o := some (.v d)) (σ' := σ.set i (some x)) (P' := P) (H' := H) (by rw [List.length_set]) (fun j n => List.getElem?_set_ne (fun z => n z.symm)) (PSub.refl _) RR.sub RR.tabs (fun b u q1 q2 => ⟨q1, (RR.ownAt q2.own).choose_spec.2⟩) (fun g hg hi => by
    cases hg
    exact ⟨x, List.getElem?_set_self (by rw [← RR.len]; exact hi), hx, fun z => nomatch z⟩)
  refine ⟨R2, fun b o h _ _ => h, fun b hb n z => ?_, PSub.refl _, fun b h => .inl h, fun b h => h⟩
  rcases w1 b z with q | ⟨g, y, q, o, _⟩
  · exact n q.own
  · cases q; cases o
def setM (i : Nat) (m : M) : MS := fun env => (m env).toS fun d e => .nx (e.set i (some (.v d)))
theorem rd_set {i : Nat} {m : M} {D : Ends} (hi : i ∉ pins) (h : rdS T W kr pins (setM i m) D σ H) : tAsg (rdE T W .pure m) (gName i) D σ H := by
  obtain ⟨env, P, RR, h⟩ := h
  refine ⟨env, P, RR, After.mono h.ofR fun d env1 P1 H1 R1 F1 h1 x kx nx => ?_⟩
  obtain ⟨R2, F2⟩ := R1.setV (i := i) (d := d) (x := x) kx
  exact h1 _ P1 H1 R2 F2 (FrP.set hi)
theorem ds_set {i : Nat} {x : Str} {e : Expr} {m : M} {pos' : Pos} (h : DE T W X e .pure m) (hN : X.N.Nodup) (hi : X.N[i]? = some x) (hx : Loc X.env.scope x) (hp : i ∉ pins := by decide) (hs : swapsWith e (some (.Name x pos')) pos.line X.env = pure false := by rfl)
    (hf : X.fn x = true ∨ X.env.scope.names.lookup x = some .local := by first | exact .inl rfl | exact .inr rfl | assumption) : DS T W kr pins X (.Assign [.Name x pos'] e pos) (setM i m) :=
  ps_imp (ps_set hN hi hx h hs hf) fun _ _ _ h => rd_set hp h
theorem Rel.setO' {i : Nat} {ds : List D} {a : Addr} {vs : List V} (RR : Rel T env σ P H) (h1 : H a = some (.lst vs)) (h2 : P a = none) (h3 : ¬ Own env σ H a) (h4 : Reps T P ds vs) : Rel T (env.set i (some (.own ds))) (σ.set i (some (.ref a))) P H ∧ ∀ b, Own (env.set i (some (.own ds))) (σ.set i (some (.ref a))) H b → b = a ∨ Own env σ H b := by
  obtain ⟨R2, w1, _⟩ := RR.slot (i := i) (o := some (.own ds)) (σ' := σ.set i (some (.ref a))) (P' := P) (H' := H) (by rw [List.length_set]) (fun j n => List.getElem?_set_ne (fun z => n z.symm)) (PSub.refl _) RR.sub RR.tabs (fun b u q1 q2 => ⟨q1, (RR.ownAt q2.own).choose_spec.2⟩) (fun g hg hi => by
    cases hg
    refine ⟨.ref a, List.getElem?_set_self (by rw [← RR.len]; exact hi), ⟨a, vs, rfl, h1, h2, h4⟩, fun _ b t q => ?_⟩
    cases t.own
    exact h3 q.own)
  refine ⟨R2, fun b z => ?_⟩
  rcases w1 b z with q | ⟨g, y, q, o, hy, t⟩
  · exact .inr q.own
  · cases q
    have hl : i < σ.length := by
      have := get_set (a := none) hy
      simpa using this
    rw [List.getElem?_set_self hl] at hy; cases hy
    cases t.own; exact .inl rfl
theorem Rel.setO {i : Nat} {ds : List D} {a : Addr} {vs : List V} (RR : Rel T env σ P H) (h1 : H a = some (.lst vs)) (h2 : P a = none) (h3 : ¬ Own env σ H a) (h4 : Reps T P ds vs) : Rel T (env.set i (some (.own ds))) (σ.set i (some (.ref a))) P H := (RR.setO' h1 h2 h3 h4).1
def setOM (i : Nat) (m : M) : MS := fun env => (m env).toS fun d e => match d with | .lst ds => .nx (e.set i (some (.own ds))) | _ => .stk
theorem rd_setO {i : Nat} {m : M} {D : Ends} (hi : i ∉ pins) (h : rdS T W kr pins (setOM i m) D σ H) : tAsg (rdE T W .fresh m) (gName i) D σ H := by
  obtain ⟨env, P, RR, h⟩ := h
  refine ⟨env, P, RR, ?_⟩
  unfold setOM at h
  cases e1 : m env with
  | ok d env1 =>
    rw [e1] at h
    intro P1 H1 R1 F1 x kx nx
    obtain ⟨a, vs, ds, rfl, h1, h2, h3, h4, rfl⟩ := kx
    obtain ⟨a', e', ha⟩ := nx
    cases e'
    refine h _ P1 H1 (R1.setO h1 h2 h3 h4) ⟨F1.keep, fun b hb n z => ?_, F1.mono, F1.new, F1.there⟩ (FrP.set hi)
    rcases (R1.setO' h1 h2 h3 h4).2 b z with rfl | z
    · exact hb ha
    · exact F1.own b hb n z
  | exc c fs env1 => rw [e1] at h; exact fun P1 H1 cls dd R1 F1 q => h σ P1 H1 cls dd R1 F1 FrP.refl q
  | stk => rw [e1] at h; exact h
theorem ds_setO {i : Nat} {x : Str} {e : Expr} {m : M} {pos' : Pos} (h : DE T W X e .fresh m) (hN : X.N.Nodup) (hi : X.N[i]? = some x) (hx : Loc X.env.scope x) (hp : i ∉ pins := by decide) (hs : swapsWith e (some (.Name x pos')) pos.line X.env = pure false := by rfl)
    (hf : X.fn x = true ∨ X.env.scope.names.lookup x = some .local := by first | exact .inl rfl | exact .inr rfl | assumption) : DS T W kr pins X (.Assign [.Name x pos'] e pos) (setOM i m) :=
  ps_imp (ps_set hN hi hx h hs hf) fun _ _ _ h => rd_setO hp h
def iffM (t : MT) (a b : MS) : MS := fun env => (t env).toS fun c e => if c then a e else b e
theorem ds_if {c : Expr} {a b : List Stmt} {t : MT} {ma mb : MS} (hc : DT T W X c t) (ha : DSs T W kr pins X a ma) (hb : DSs T W kr pins X b mb) : DS T W kr pins X (.If c a b pos) (iffM t ma mb) := ps_imp (ps_if hc ha hb) fun D σ H h => by
  obtain ⟨env, P, RR, h⟩ := h
  refine ⟨env, P, RR, After.mono h.ofR fun d env1 P1 H1 R1 F1 h1 => ?_⟩
  cases d with
  | true => exact iteT ⟨env1, P1, R1, h1⟩
  | false => exact iteF ⟨env1, P1, R1, h1⟩
def loopS (r : SR) (k : MS) : SR := match r with | .nx e => k e | .cnt e => k e | .brk e => .nx e | r => r
def whileM (t : MT) (b : MS) : Nat → MS
  | 0 => fun _ => .stk
  | n + 1 => fun env => (t env).toS fun c e => if c then loopS (b e) (whileM t b n) else .nx e
theorem AfterS.loop {r : SR} {k : MS} {D : Ends} (h : AfterS T W kr pins env σ P H (loopS r k) D) :
    AfterS T W kr pins env σ P H r { D with nx := fun σ' H' => ∃ e P', Rel T e σ' P' H' ∧ PSub P P' ∧ AfterS T W kr pins e σ' P' H' (k e) D, ct := fun σ' H' => ∃ e P', Rel T e σ' P' H' ∧ PSub P P' ∧ AfterS T W kr pins e σ' P' H' (k e) D, bk := D.nx } := by
  cases r with
  | nx e => intro σ2 P2 H2 R2 F2 p2; exact ⟨e, P2, R2, F2.mono, AfterS.step h F2 p2⟩
  | cnt e => intro σ2 P2 H2 R2 F2 p2; exact ⟨e, P2, R2, F2.mono, AfterS.step h F2 p2⟩
  | brk e => exact h
  | ret d e => exact h
  | exc c fs e => exact h
  | stk => exact h
theorem AfterS.imp {r : SR} {D D' : Ends} (h : AfterS T W kr pins env σ P H r D) (k1 : ∀ σ H, D.nx σ H → D'.nx σ H) (k2 : ∀ σ H, D.bk σ H → D'.bk σ H) (k3 : ∀ σ H, D.ct σ H → D'.ct σ H) (k4 : ∀ x H, D.rt x H → D'.rt x H) : AfterS T W kr pins env σ P H r D' := by
  cases r with
  | nx e => exact fun σ2 P2 H2 R2 F2 p2 => k1 _ _ (h σ2 P2 H2 R2 F2 p2)
  | brk e => exact fun σ2 P2 H2 R2 F2 p2 => k2 _ _ (h σ2 P2 H2 R2 F2 p2)
  | cnt e => exact fun σ2 P2 H2 R2 F2 p2 => k3 _ _ (h σ2 P2 H2 R2 F2 p2)
  | ret d e => exact fun σ2 P2 H2 x R2 F2 p2 q n => k4 _ _ (h σ2 P2 H2 x R2 F2 p2 q n)
  | exc c fs e => exact h
  | stk => exact h
theorem ds_while {c : Expr} {b : List Stmt} {t : MT} {mb : MS} (N : Nat) (hp : PassesOwn (model X.prog X.w) X.A X.env X.xe) (hc : DT T W X c t) (hb : DSs T W kr pins X b mb) : DS T W kr pins X (.While c b [] pos) (whileM t mb N) := ps_imp (ps_while hp hc hb) fun D σ H h => by
  obtain ⟨env, P, RR, h⟩ := h
  refine ⟨fun m σ H => ∃ e P, Rel T e σ P H ∧ AfterS T W kr pins e σ P H (whileM t mb m e) D, ⟨N, env, P, RR, h⟩, fun m σ H hW => ?_⟩
  obtain ⟨env, P, RR, h⟩ := hW
  cases m with
  | zero => exact False.elim h
  | succ m =>
    refine ⟨env, P, RR, After.mono h.ofR fun d env1 P1 H1 R1 F1 h1 => ?_⟩
    cases d with
    | true =>
      refine iteT ⟨fun σ' H' => ∃ e P', Rel T e σ' P' H' ∧ PSub P1 P' ∧ AfterS T W kr pins e σ' P' H' (whileM t mb m e) D, fun σ' H' q => ⟨m, Nat.lt_succ_self m, ?_⟩, env1, P1, R1, AfterS.loop h1⟩
      obtain ⟨e, P', q1, _, q2⟩ := q
      exact ⟨e, P', q1, q2⟩
    | false => exact iteF (h1 σ P1 H1 R1 (Fr.refl _ _ _ _) FrP.refl)
end
end Ue
set_option linter.all false
set_option Elab.async false
set_option maxRecDepth 100000
set_option maxHeartbeats 4000000
namespace Ue
open PySem L2
def Grow1 (P H P' H' : Hp) : Prop := (P' = P ∧ H' = H) ∨ ∃ p o, H p = none ∧ P' = upd P p o ∧ H' = upd H p o
def Yl (T : Tab) (J : It) (P0 : Hp) (ds : List D) : Prop := ∀ P H, PSub P0 P → PSub P H →
  (∀ i d, ds[i]? = some d → J.go i H ∧ ∀ x H', J.yld i H x H' → ∃ P', Rep T P' d x ∧ Grow1 P H P' H') ∧ (∀ i, ds.length ≤ i → J.stop i H)
def rdI (T : Tab) (W : WX) (m : MI) : TI := fun σ H Q => ∃ env P, Rel T env σ P H ∧ After T W σ env P H (m env) (fun ds env' P' H' => ∀ J, Yl T J P' ds → Q J H')
def DI (T : Tab) (W : WX) (X : Cx) (tg iter : Expr) (m : MI) : Prop := PI X tg iter (rdI T W m)
theorem pi_imp {X : Cx} {tg e : Expr} {t t' : TI} (h : PI X tg e t) (k : ∀ σ H Q, t' σ H Q → t σ H Q) : PI X tg e t' := ⟨fun pins s σ H Q I q => h.run pins s σ H Q I (k σ H Q q)⟩
section
variable {T : Tab} {W : WX} {kr : Kd} {pins : List Nat} {env env' : Env} {σ σ' : L2.St} {P H P' H' : Hp} {X : Cx} {pos : Pos} {tg e : Expr}
theorem Rel.grow1 (RR : Rel T env σ P H) (g : Grow1 P H P' H') : Rel T env σ P' H' ∧ Fr env σ P H env σ P' H' := by
  rcases g with ⟨rfl, rfl⟩ | ⟨p, o, hp, rfl, rfl⟩
  · exact ⟨RR, Fr.refl _ _ _ _⟩
  · exact RR.newP hp
def asL (m : M) : MI := fun env => (m env).bind fun d e => match d with | .lst ds => .ok ds e | _ => .stk
def asT (m : M) : MI := fun env => (m env).bind fun d e => match d with | .tup ds => .ok ds e | _ => .stk
theorem yl_list {a : Addr} {vs : List V} {ds : List D} {K : PySem.W.Frag} (hK : K = T.K) (h : Rd P a (.lst vs)) (r : Reps T P ds vs) (inj : True) : Yl T (Itl K a) P ds := fun P1 H1 s1 s2 => by
  have q : SqL K H1 a vs := .inl (Rd.sub s2 (Rd.sub s1 h))
  refine ⟨fun i d hd => ?_, fun i hi => ⟨vs, q, by rw [r.length]; exact hi⟩⟩
  obtain ⟨v, hv, rv⟩ := r.get hd
  refine ⟨⟨vs, v, q, hv⟩, fun x H' y => ?_⟩
  obtain ⟨rfl, y⟩ := y
  have := y vs q
  rw [hv] at this; cases this
  exact ⟨P1, Rep.sub s1 _ _ rv, .inl ⟨rfl, rfl⟩⟩
theorem yl_tup {a : Addr} {vs : List V} {ds : List D} {K : PySem.W.Frag} (hK : K = T.K) (h : SqT T.K P a vs) (r : Reps T P ds vs) : Yl T (Itt K a) P ds := fun P1 H1 s1 s2 => by
  subst hK
  have q : SqT T.K H1 a vs := sqT_sub s2 (sqT_sub s1 h)
  refine ⟨fun i d hd => ?_, fun i hi => ⟨vs, q, by rw [r.length]; exact hi⟩⟩
  obtain ⟨v, hv, rv⟩ := r.get hd
  refine ⟨⟨vs, v, q, hv⟩, fun x H' y => ?_⟩
  obtain ⟨rfl, y⟩ := y
  have := y vs q
  rw [hv] at this; cases this
  exact ⟨P1, Rep.sub s1 _ _ rv, .inl ⟨rfl, rfl⟩⟩
theorem di_list {m : M} (hK : X.K = T.K) (h : DE T W X e .pure m) : DI T W X tg e (asL m) := pi_imp (pi_list h) fun σ H Q h => by
  obtain ⟨env, P, RR, h⟩ := h
  refine ⟨env, P, RR, After.mono h.bind fun d env1 P1 H1 R1 F1 h1 x kx nx => ?_⟩
  cases d with
  | lst ds =>
    have kx : Rep T P1 (.lst ds) x := kx
    rw [Rep] at kx
    obtain ⟨a, vs, rfl, q1, q2⟩ := kx
    exact ⟨a, rfl, ⟨vs, .inl (Rd.sub R1.sub q1)⟩, h1.here R1 (Fr.refl _ _ _ _) _ (yl_list hK q1 q2 trivial)⟩
  | _ => exact False.elim h1
theorem di_tup {m : M} (hK : X.K = T.K) (h : DE T W X e .pure m) : DI T W X tg e (asT m) := pi_imp (pi_tup h) fun σ H Q h => by
  obtain ⟨env, P, RR, h⟩ := h
  refine ⟨env, P, RR, After.mono h.bind fun d env1 P1 H1 R1 F1 h1 x kx nx => ?_⟩
  cases d with
  | tup ds =>
    have kx : Rep T P1 (.tup ds) x := kx
    rw [Rep] at kx
    obtain ⟨a, vs, rfl, q1, q2⟩ := kx
    refine ⟨a, rfl, ⟨vs, ?_⟩, h1.here R1 (Fr.refl _ _ _ _) _ (yl_tup hK q1 q2)⟩
    rw [hK]; exact sqT_sub R1.sub q1
  | _ => exact False.elim h1
def rngL (lo : Int) (n : Nat) : List D := (List.range n).map fun (i : Nat) => D.int (lo + (i : Int))
theorem yl_range (lo : Int) (n : Nat) : Yl T (Itr lo n) P (rngL lo n) := fun P1 H1 s1 s2 => by
  refine ⟨fun i d hd => ?_, fun i hi => (by simpa [rngL] using hi : n ≤ i)⟩
  have hi : i < n := by
    rcases Nat.lt_or_ge i n with q | q
    · exact q
    · rw [List.getElem?_eq_none (by simpa [rngL] using q)] at hd; cases hd
  have hd' : d = .int (lo + i) := by
    have : (rngL lo n)[i]? = some (.int (lo + i)) := by simp [rngL, hi]
    rw [this] at hd; cases hd; rfl
  subst hd'
  refine ⟨hi, fun x H' y => ?_⟩
  obtain ⟨rfl, rfl⟩ := y
  exact ⟨P1, rep_int, .inl ⟨rfl, rfl⟩⟩
def rng1M (m : M) : MI := fun env => (m env).bind fun d e => match d with | .int j => if -(2 ^ 62) ≤ j ∧ j < 2 ^ 62 then .ok (rngL 0 j.toNat) e else .stk | _ => .stk
def rng2M (ma mb : M) : MI := fun env => (ma env).bind fun d e1 => (mb e1).bind fun d' e => match d, d' with | .int i, .int j => if -(2 ^ 62) ≤ i ∧ i < 2 ^ 62 ∧ -(2 ^ 62) ≤ j ∧ j < 2 ^ 62 then .ok (rngL i (j - i).toNat) e else .stk | _, _ => .stk
theorem di_range1 {k : Kd} {a : Expr} {p : Pos} {m : M} (hg : Gl X "range") (hm : X.mg "range" = none) (h : DE T W X a k m) (hs : starEach [a] X.env = [(false, eval a X.env)] := by rfl) : DI T W X tg (.Call (.Name "range" p) [a] [] pos) (rng1M m) := pi_imp (pi_range1 hg hm (da_cons (ks := []) (ms := []) h da_nil (by cases k <;> first | trivial | (intro env d env' h; cases h; rfl)) hs) hs) fun σ H Q h => by
  obtain ⟨env, P, RR, h⟩ := h
  refine ⟨env, P, RR, ?_⟩
  have e0 : argsM [m] env = (m env).bind fun d e1 => .ok [d] e1 := by
    show ((m env).bind fun d e1 => (argsM [] e1).bind fun ds e2 => .ok (d :: ds) e2) = _
    rfl
  rw [e0]
  unfold rng1M at h
  cases e1 : m env with
  | ok d env1 =>
    rw [e1] at h
    intro P1 H1 R1 F1 xs kxs
    obtain ⟨x, rfl, hx⟩ := (kxs.rdbs R1).one
    cases d with
    | int j =>
      have h : After T W σ env P H (if -(2 ^ 62) ≤ j ∧ j < 2 ^ 62 then R.ok (rngL 0 j.toNat) env1 else R.stk) _ := h
      by_cases z : -(2 ^ 62) ≤ j ∧ j < 2 ^ 62
      · rw [if_pos z] at h
        exact ⟨j, by rw [hx.intE], z.1, z.2, h P1 H1 R1 F1 _ (yl_range 0 j.toNat)⟩
      · rw [if_neg z] at h; exact False.elim h
    | _ => exact False.elim h
  | exc c fs env1 => rw [e1] at h; exact h
  | stk => rw [e1] at h; exact h
def enumL (ds : List D) : List D := (List.range ds.length).map fun (i : Nat) => D.tup [.int (i : Int), ds.getD i .non]
theorem enumL_get {ds : List D} {i : Nat} {d : D} (h : (enumL ds)[i]? = some d) : ∃ e, ds[i]? = some e ∧ d = .tup [.int i, e] := by
  have hi : i < ds.length := by
    rcases Nat.lt_or_ge i ds.length with q | q
    · exact q
    · rw [List.getElem?_eq_none (by simpa [enumL] using q)] at h; cases h
  refine ⟨ds[i], List.getElem?_eq_getElem hi, ?_⟩
  have e : (enumL ds)[i]? = some (.tup [.int i, ds.getD i .non]) := by simp [enumL, hi]
  rw [e] at h
  have h := Option.some.inj h
  rw [← h, List.getD_eq_getElem?_getD, List.getElem?_eq_getElem hi]; rfl
def enumM (m : M) : MI := fun env => (m env).bind fun d e => match d with | .lst ds => .ok (enumL ds) e | _ => .stk
theorem di_enum {e : Expr} {p tpos : Pos} {elts : List Expr} {kk : Nat} {m : M} (hK : X.K = T.K) (hg : Gl X "enumerate") (hm : X.mg "enumerate" = none) (h : DE T W X e .pure m) (hs : starEach [e] X.env = [(false, eval e X.env)] := by rfl) :
    DI T W X (.Tuple elts kk tpos) (.Call (.Name "enumerate" p) [e] [] pos) (enumM m) := pi_imp (pi_enum hg hm (da_cons (ks := []) (ms := []) h da_nil trivial hs) hs) fun σ H Q h => by
  obtain ⟨env, P, RR, h⟩ := h
  refine ⟨env, P, RR, ?_⟩
  have e0 : argsM [m] env = (m env).bind fun d e1 => .ok [d] e1 := rfl
  rw [e0]
  unfold enumM at h
  cases e1 : m env with
  | ok d env1 =>
    rw [e1] at h
    intro P1 H1 R1 F1 xs kxs
    have rs := kxs.pures (pures_cons pures_nil)
    cases d with
    | lst ds =>
      rw [Reps] at rs
      obtain ⟨x, r, rfl, h2, h3⟩ := rs
      rw [Reps] at h3; subst h3
      rw [Rep] at h2
      obtain ⟨a, vs, rfl, q1, q2⟩ := h2
      refine ⟨a, vs, rfl, .inl (Rd.sub R1.sub q1), h P1 H1 R1 F1 _ fun P2 H2 s1 s2 => ?_⟩
      have q : SqL X.K H2 a vs := .inl (Rd.sub s2 (Rd.sub s1 q1))
      refine ⟨fun i d hd => ?_, fun i hi => ⟨vs, q, by rw [q2.length]; simpa [enumL] using hi⟩⟩
      obtain ⟨e, he, rfl⟩ := enumL_get hd
      obtain ⟨v, hv, rv⟩ := q2.get he
      refine ⟨⟨vs, v, q, hv⟩, fun x H' y => ?_⟩
      obtain ⟨t, z, rfl, ht, rfl, y⟩ := y
      have := y vs q
      rw [hv] at this; cases this
      have hp : P2 t = none := by
        cases c : P2 t with
        | none => rfl
        | some o => have := s2 t o c; rw [ht] at this; cases this
      exact ⟨upd P2 t _, rep_tup upd_same (Reps.cons rep_int (Reps.cons (Rep.sub (psub_upd hp) _ _ (Rep.sub s1 _ _ rv)) Reps.nil)), .inr ⟨t, _, ht, rfl, rfl⟩⟩
    | _ => exact False.elim h
  | exc c fs env1 => rw [e1] at h; exact h
  | stk => rw [e1] at h; exact h
def Out (sl : List Nat) (σ σ' : L2.St) : Prop := σ'.length = σ.length ∧ ∀ i, i ∉ sl → σ'[i]? = σ[i]?
def rdG (T : Tab) (sl : List Nat) (g : TGM) : TG := fun v σ H Q => ∃ env P d, Rel T env σ P H ∧ Rep T P d v ∧ ∃ env', g d env = some env' ∧ ∀ σ', Rel T env' σ' P H → Fr env σ P H env' σ' P H → Out sl σ σ' → Q σ' H
def DG (T : Tab) (sl : List Nat) (X : Cx) (tg : Expr) (g : TGM) : Prop := PG X tg (rdG T sl g)
theorem pg_imp {t t' : TG} (h : PG X tg t) (k : ∀ v σ H Q, t' v σ H Q → t v σ H Q) : PG X tg t' := ⟨fun pins s σ H v u Q I r q => h.run pins s σ H v u Q I r (k v σ H Q q)⟩
theorem pgs_imp {tgs : List Expr} {t t' : TGs} (h : PGs X tgs t) (k : ∀ v σ H Q, t' v σ H Q → t v σ H Q) : PGs X tgs t' := ⟨fun pins s σ H v u Q I r q => h.run pins s σ H v u Q I r (k v σ H Q q)⟩
def tgN (i : Nat) : TGM := fun d env => some (env.set i (some (.v d)))
theorem dg_name {i : Nat} {x : Str} (hN : X.N.Nodup) (hi : X.N[i]? = some x) (hx : Loc X.env.scope x) (hf : X.fn x = true ∨ X.env.scope.names.lookup x = some .local := by first | exact .inl rfl | exact .inr rfl | assumption) : DG T [i] X (.Name x pos) (tgN i) :=
  pg_imp (pg_name hN hi hx hf) fun v σ H Q h => by
    obtain ⟨env, P, d, RR, rx, env', e, k⟩ := h
    cases e
    obtain ⟨R2, F2⟩ := RR.setV (i := i) rx
    exact k _ R2 F2 ⟨by rw [List.length_set], fun j hj => List.getElem?_set_ne (fun z => hj (by simp [z]))⟩
def tgL : List TGM → List D → Env → Option Env
  | [], [], env => some env
  | g :: gs, d :: ds, env => (g d env).bind (tgL gs ds)
  | _, _, _ => none
def rdGs (T : Tab) (sl : List Nat) (g : List D → Env → Option Env) : TGs := fun vs σ H Q => ∃ env P ds, Rel T env σ P H ∧ Reps T P ds vs ∧ ∃ env', g ds env = some env' ∧ ∀ σ', Rel T env' σ' P H → Fr env σ P H env' σ' P H → Out sl σ σ' → Q σ' H
def DGs (T : Tab) (sl : List Nat) (X : Cx) (tgs : List Expr) (g : List D → Env → Option Env) : Prop := PGs X tgs (rdGs T sl g)
theorem dgs_nil : DGs T [] X [] (tgL []) := pgs_imp pgs_nil fun vs σ H Q h => by
  obtain ⟨env, P, ds, RR, rx, env', e, k⟩ := h
  cases ds with
  | nil => rw [Reps] at rx; cases e; exact ⟨rx, k σ RR (Fr.refl _ _ _ _) ⟨rfl, fun _ _ => rfl⟩⟩
  | cons d ds => cases e
theorem dgs_cons {sl sl' : List Nat} {a : Expr} {as : List Expr} {g : TGM} {gs : List TGM} (h : DG T sl X a g) (h' : DGs T sl' X as (tgL gs)) (hs : (assignEach (a :: as) X.env).map (·.2) = assign a X.env :: (assignEach as X.env).map (·.2) := by rfl) : DGs T (sl ++ sl') X (a :: as) (tgL (g :: gs)) :=
  pgs_imp (pgs_cons h h' hs) fun vs σ H Q hh => by
    obtain ⟨env, P, ds, RR, rx, env', e, k⟩ := hh
    cases ds with
    | nil => cases e
    | cons d ds =>
      rw [Reps] at rx
      obtain ⟨v, r, rfl, h1, h2⟩ := rx
      have e : (g d env).bind (tgL gs ds) = some env' := e
      cases c : g d env with
      | none => rw [c] at e; cases e
      | some env1 =>
        rw [c] at e
        refine ⟨v, r, rfl, env, P, d, RR, h1, env1, c, fun σ1 R1 F1 p1 => ⟨env1, P, ds, R1, h2, env', e, fun σ2 R2 F2 p2 => k σ2 R2 (F1.trans F2) ⟨p2.1.trans p1.1, fun i hi => ?_⟩⟩⟩
        rw [p2.2 i (fun z => hi (List.mem_append_right _ z)), p1.2 i (fun z => hi (List.mem_append_left _ z))]
def tgT (gs : List TGM) : TGM := fun d env => match d with | .tup ds => tgL gs ds env | _ => none
theorem tgL_len : ∀ {gs : List TGM} {ds : List D} {env env' : Env}, tgL gs ds env = some env' → ds.length = gs.length
  | [], [], _, _, _ => rfl
  | [], _ :: _, _, _, h => by cases h
  | _ :: _, [], _, _, h => by cases h
  | g :: gs, d :: ds, env, env', h => by
    have h : (g d env).bind (tgL gs ds) = some env' := h
    cases c : g d env with
    | none => rw [c] at h; cases h
    | some e1 => rw [c] at h; simp [tgL_len (show tgL gs ds e1 = some env' from h)]
theorem dg_tup {sl : List Nat} {es : List Expr} {kk n : Nat} {gs : List TGM} (hK : X.K = T.K) (hc : X.calm = true) (h : DGs T sl X es (tgL gs)) (hl : gs.length = n := by rfl) (hn : (assignEach es X.env).length = n := by rfl) (hst : (assignEach es X.env).findIdx? (·.1) = none := by rfl) : DG T sl X (.Tuple es kk pos) (tgT gs) :=
  pg_imp (pg_tup hc h hn hst) fun x σ H Q hh => by
    obtain ⟨env, P, d, RR, rx, env', e, k⟩ := hh
    cases d with
    | tup ds =>
      rw [Rep] at rx
      obtain ⟨a, vs, rfl, h1, h2⟩ := rx
      exact ⟨a, vs, rfl, by rw [hK]; exact sqT_sub RR.sub h1, by rw [h2.length, tgL_len e, hl], env, P, ds, RR, h2, env', e, k⟩
    | _ => cases e
theorem Out.frP {sl : List Nat} (h : Out sl σ σ') (hd : ∀ i ∈ pins, i ∉ sl) : FrP pins σ σ' := fun i hi => h.2 i (hd i hi)
def asgM (g : TGM) (m : M) : MS := fun env => (m env).toS fun d e => match g d e with | some e' => .nx e' | none => .stk
def forM (g : TGM) (b : MS) : List D → MS
  | [] => fun env => .nx env
  | d :: ds => fun env => match g d env with | some e => loopS (b e) (forM g b ds) | none => .stk
def forS (mi : MI) (g : TGM) (b : MS) : MS := fun env => (mi env).toS fun ds e => forM g b ds e
theorem ds_for {sl : List Nat} {b : List Stmt} {mi : MI} {g : TGM} {mb : MS} (hp : PassesOwn (model X.prog X.w) X.A X.env X.xe) (hc : X.calm = true) (hi : DI T W X tg e mi) (hg : DG T sl X tg g) (hb : DSs T W kr pins X b mb) (hd : ∀ i ∈ pins, i ∉ sl := by decide)
    (hs : ∀ x, foldedSetIterable e X.env x = pure x := by intro _; rfl) : DS T W kr pins X (.For tg e b [] pos) (forS mi g mb) := by
  refine ps_imp (ps_for hp hc hi hg hb hs) fun D σ H h => ?_
  obtain ⟨env, P, RR, h⟩ := h
  refine ⟨env, P, RR, After.mono h.ofR fun ds env1 P1 H1 R1 F1 h1 J hJ => ?_⟩
  refine ⟨fun i m σ H => m = ds.length - i ∧ ∃ e P, Rel T e σ P H ∧ PSub P1 P ∧ AfterS T W kr pins e σ P H (forM g mb (ds.drop i) e) D, ⟨ds.length, by simp, env1, P1, R1, PSub.refl _, h1⟩, fun i m σ H hW => ?_⟩
  obtain ⟨rfl, e, P2, R2, s2, h2⟩ := hW
  obtain ⟨j1, j2⟩ := hJ P2 H s2 R2.sub
  cases c : ds[i]? with
  | none =>
    have hi : ds.length ≤ i := List.getElem?_eq_none_iff.mp c
    rw [List.drop_eq_nil_of_le hi] at h2
    exact .inl ⟨j2 i hi, h2 σ P2 H R2 (Fr.refl _ _ _ _) FrP.refl⟩
  | some d =>
    have hi : i < ds.length := by
      rcases Nat.lt_or_ge i ds.length with q | q
      · exact q
      · rw [List.getElem?_eq_none q] at c; cases c
    have ed : ds.drop i = d :: ds.drop (i + 1) := by
      rw [List.drop_eq_getElem_cons hi]
      rw [List.getElem?_eq_getElem hi] at c
      rw [Option.some.inj c]
    rw [ed] at h2
    obtain ⟨j3, j4⟩ := j1 i d c
    refine .inr ⟨j3, fun σ' H' => ∃ e P, Rel T e σ' P H' ∧ PSub P1 P ∧ AfterS T W kr pins e σ' P H' (forM g mb (ds.drop (i + 1)) e) D, fun σ' H' q => ⟨ds.length - (i + 1), by omega, rfl, q⟩, fun x H' y => ?_⟩
    obtain ⟨P3, r3, g3⟩ := j4 x H' y
    obtain ⟨R3, F3⟩ := R2.grow1 g3
    have h2 : AfterS T W kr pins e σ P2 H (match g d e with | some e' => loopS (mb e') (forM g mb (ds.drop (i + 1))) | none => .stk) D := h2
    cases c2 : g d e with
    | none => rw [c2] at h2; exact False.elim h2
    | some e4 =>
      rw [c2] at h2
      refine ⟨e, P3, d, R3, r3, e4, c2, fun σ4 R4 F4 p4 => ?_⟩
      have h4 := AfterS.step h2 (F3.trans F4) (p4.frP hd)
      have s4 : PSub P1 P3 := s2.trans F3.mono
      exact ⟨e4, P3, R4, AfterS.imp (AfterS.loop h4) (fun σ H ⟨e, P', a, b, c⟩ => ⟨e, P', a, s4.trans b, c⟩) (fun _ _ q => q) (fun σ H ⟨e, P', a, b, c⟩ => ⟨e, P', a, s4.trans b, c⟩) (fun _ _ q => q)⟩
end
end Ue
set_option linter.all false
set_option Elab.async false
set_option maxRecDepth 100000
set_option maxHeartbeats 4000000
namespace Ue
open PySem L2
theorem Reps.atI {T : Tab} {P : Hp} {ds : List D} {vs : List V} {i : Int} {d : D} (h : Reps T P ds vs) (e : atI ds i = some d) : ∃ v, L2.atI vs i = some v ∧ Rep T P d v := by
  unfold L2.atI at e ⊢
  rw [h.length]
  cases q : ixN ds.length i with
  | none => rw [q] at e; cases e
  | some j => rw [q] at e; exact h.get e
def ixD (a b : D) : Option D := match a, b with
  | .lst ds, .int i => L2.atI ds i
  | .tup ds, .int i => L2.atI ds i
  | .scr ns, .int i => (L2.atI ns i).map D.int
  | .str s, .int i => if s.length ≤ sizeLine then (L2.atI s.cps.toList i).map fun c => .str ⟨#[c]⟩ else none
  | _, _ => none
theorem od_ix {T : Tab} : OpD T (rIx T.K) .pure ixD := fun env σ P H dx dy x y d Q R1 hx hy e k => by
  cases dy with
  | int i =>
    cases dx with
    | lst ds =>
      obtain ⟨a, vs, rfl, h1, h2⟩ := hx.lstE R1.sub
      obtain ⟨v, hv, rv⟩ := h2.atI (show L2.atI ds i = some d from e)
      exact .inl ⟨a, vs, i, v, rfl, hy.intE, .inl h1, hv, k _ P H R1 (Fr.refl _ _ _ _) rv trivial⟩
    | scr ns =>
      obtain ⟨a, rfl, h1⟩ := hx.scrE R1.sub
      have e : (L2.atI ns i).map D.int = some d := e
      cases q : L2.atI ns i with
      | none => rw [q] at e; cases e
      | some n =>
        rw [q] at e; cases e
        refine .inl ⟨a, _, i, .int n, rfl, hy.intE, h1, ?_, k _ P H R1 (Fr.refl _ _ _ _) (show Rep T P _ _ from rep_int) trivial⟩
        unfold L2.atI at q ⊢
        rw [List.length_map]
        cases q2 : ixN ns.length i with
        | none => rw [q2] at q; cases q
        | some j =>
          rw [q2] at q
          have q : ns[j]? = some n := q
          show (ns.map V.int)[j]? = _
          rw [List.getElem?_map, q]; rfl
    | tup ds =>
      obtain ⟨a, vs, rfl, h1, h2⟩ := hx.tupE R1.sub
      obtain ⟨v, hv, rv⟩ := h2.atI (show L2.atI ds i = some d from e)
      exact .inr (.inl ⟨a, vs, i, v, rfl, hy.intE, h1, hv, k _ P H R1 (Fr.refl _ _ _ _) rv trivial⟩)
    | str s =>
      have e : (if s.length ≤ sizeLine then (L2.atI s.cps.toList i).map fun c => D.str ⟨#[c]⟩ else none) = some d := e
      by_cases z : s.length ≤ sizeLine
      · rw [if_pos z] at e
        cases q : L2.atI s.cps.toList i with
        | none => rw [q] at e; cases e
        | some c =>
          rw [q] at e; cases e
          exact .inr (.inr ⟨s, i, c, hx.strE, hy.intE, z, q, k _ P H R1 (Fr.refl _ _ _ _) (show Rep T P _ _ from rep_str) trivial⟩)
      · rw [if_neg z] at e; cases e
    | _ => cases e
  | _ => cases dx <;> cases e
section
variable {T : Tab} {W : WX} {kr : Kd} {pins : List Nat} {env env' : Env} {σ σ' : L2.St} {P H P' H' : Hp} {X : Cx} {pos : Pos} {tg e a b : Expr} {k ka kb : Kd} {m ma mb : M}
theorem de_ix (hK : X.K = T.K) (ha : DE T W X a ka ma) (hb : DE T W X b kb mb) (hs : PlainIx b) (hst : Steady ka mb := by trivial) : DE T W X (.Subscript a b pos) .pure (op2M ixD ma mb) :=
  pe_imp (pe_ix (r := rIx T.K) (by rw [← hK]; exact ix_seq) ha hb hs) fun _ _ _ h => rd_op2 od_ix hst h
def optM : Option M → Env → R (Option Int)
  | none, e => .ok none e
  | some m, e => (m e).bind fun d e1 => match d with | .int i => .ok (some i) e1 | _ => .stk
def rdO (T : Tab) (W : WX) (m : Option M) : TO := fun σ H Q => ∃ env P, Rel T env σ P H ∧ After T W σ env P H (optM m env) (fun o _ _ H' => Q o H')
def DO (T : Tab) (W : WX) (X : Cx) (e : Option Expr) (m : Option M) : Prop := PO X e (rdO T W m)
theorem po_imp {o : Option Expr} {t t' : TO} (h : PO X o t) (k : ∀ σ H Q, t' σ H Q → t σ H Q) : PO X o t' := ⟨fun pins s σ H Q I q => h.run pins s σ H Q I (k σ H Q q)⟩
theorem do_none : DO T W X none none := po_imp po_none fun σ H Q h => by
  obtain ⟨env, P, RR, h⟩ := h
  exact h.here RR (Fr.refl _ _ _ _)
theorem do_some (h : DE T W X e k m) : DO T W X (some e) (some m) := po_imp (po_some h) fun σ H Q h => by
  obtain ⟨env, P, RR, h⟩ := h
  refine ⟨env, P, RR, After.mono h.bind fun d env1 P1 H1 R1 F1 h1 x kx nx => ?_⟩
  cases d with
  | int i => exact ⟨i, (kx.rdb R1).intE, h1.here R1 (Fr.refl _ _ _ _)⟩
  | _ => exact False.elim h1
def cutD (ds : List D) (lo hi : Option Int) : List D := (ds.drop (HT.sIx ds.length 0 lo)).take (HT.sIx ds.length ds.length hi - HT.sIx ds.length 0 lo)
theorem Reps.cut {ds : List D} {vs : List V} (h : Reps T P ds vs) (lo hi : Option Int) : Reps T P (cutD ds lo hi) (cutV vs lo hi) := by
  unfold cutD cutV
  rw [h.length]
  exact (h.drop _).take _
def slLM (m : M) (lo hi : Option M) : M := fun env => (m env).bind fun d e => (optM lo e).bind fun l e => (optM hi e).bind fun u e => match d with | .lst ds => .ok (.lst (cutD ds l u)) e | .scr ns => .ok (.lst (cutD (ns.map D.int) l u)) e | _ => .stk
def slTM (m : M) (lo hi : Option M) : M := fun env => (m env).bind fun d e => (optM lo e).bind fun l e => (optM hi e).bind fun u e => match d with | .tup ds => .ok (.tup (cutD ds l u)) e | _ => .stk
theorem de_slL {lo hi : Option Expr} {ml mh : Option M} {p2 : Pos} (hK : X.K = T.K) (he : DE T W X e k m) (hl : DO T W X lo ml) (hh : DO T W X hi mh) (s1 : Steady k (optM ml) := by trivial) (s2 : Steady k (optM mh) := by trivial) :
    DE T W X (.Subscript e (.Slice lo hi none p2) pos) .fresh (slLM m ml mh) := by
  refine pe_imp (pe_slice (r := rSlL T.K) (by rw [← hK]; exact sl_list) he hl hh) fun σ H Q h => ?_
  obtain ⟨env, P, RR, h⟩ := h
  refine ⟨env, P, RR, After.at h.bind fun d env1 P1 H1 _ R1 F1 h1 x kx nx => ?_⟩
  refine ⟨env1, P1, R1, After.at h1.bind fun l env2 P2 H2 e2 R2 F2 h2 => ?_⟩
  refine ⟨env2, P2, R2, After.at h2.bind fun u env3 P3 H3 e3 R3 F3 h3 => ?_⟩
  have kx' := (kx.carry F2 (s1.use e2)).carry F3 (s2.use e3)
  cases d with
  | lst ds =>
    obtain ⟨a, vs, rfl, q1, q2⟩ := (kx'.rdb R3).lstE R3.sub
    refine ⟨a, vs, rfl, .inl q1, fun p hp => ?_⟩
    obtain ⟨R4, F4, no, pn⟩ := R3.newF (o := .lst (cutV vs l u)) hp
    exact h3 _ _ R4 F4 _ ⟨p, _, _, rfl, upd_same, pn, no, q2.cut l u, rfl⟩ (NewV.back (k := .fresh) (F1.trans (F2.trans F3)) ⟨p, rfl, hp⟩)
  | scr ns =>
    obtain ⟨a, rfl, q1⟩ := (kx'.rdb R3).scrE R3.sub
    refine ⟨a, _, rfl, q1, fun p hp => ?_⟩
    obtain ⟨R4, F4, no, pn⟩ := R3.newF (o := .lst (cutV (ns.map V.int) l u)) hp
    exact h3 _ _ R4 F4 _ ⟨p, _, _, rfl, upd_same, pn, no, (Reps.ofInts ns).cut l u, rfl⟩ (NewV.back (k := .fresh) (F1.trans (F2.trans F3)) ⟨p, rfl, hp⟩)
  | _ => exact False.elim h3
theorem steady_c {d : D} : Steady k (cM d) := by
  cases k with
  | own i => intro env d' env' h; cases h; rfl
  | _ => trivial
theorem steady_args : ∀ {ms : List M}, (∀ m ∈ ms, Steady k m) → Steady k (argsM ms)
  | [], _ => by
    cases k with
    | own i => intro env b env' e; cases e; rfl
    | _ => trivial
  | m :: ms, h => Steady.bind (h m List.mem_cons_self) fun d => Steady.bind (steady_args fun m hm => h m (List.mem_cons_of_mem _ hm)) fun ds => by
    cases k with
    | own i => intro env b env' e; cases e; rfl
    | _ => trivial
theorem steady_nil : ∀ m ∈ ([] : List M), Steady k m := fun _ h => nomatch h
theorem Rel.updO {i : Nat} {ds ds' : List D} {a : Addr} {vs' : List V} (RR : Rel T env σ P H) (e : env[i]? = some (some (.own ds))) (hs : σ[i]? = some (some (V.ref a))) (r : Reps T P ds' vs') :
    Rel T (env.set i (some (.own ds'))) σ P (upd H a (.lst vs')) ∧ Fr env σ P H (env.set i (some (.own ds'))) σ P (upd H a (.lst vs')) := by
  have own_a : Own env σ H a := ⟨i, _, _, e, rfl, hs, .here⟩
  obtain ⟨o, ho, pa⟩ := RR.ownAt own_a
  have nx : ∀ b, OwnX env σ H i b → b ≠ a := fun b q => by rintro rfl; exact q.ne RR e rfl hs .here
  obtain ⟨R2, w1, _⟩ := RR.slot (i := i) (o := some (.own ds')) (σ' := σ) (P' := P) (H' := upd H a (.lst vs')) rfl (fun _ _ => rfl) (PSub.refl _) (fun b u h => by rw [upd_ne (ne_of_none h pa)]; exact RR.sub b u h) (RR.ownTabs own_a ho) (fun b u q1 q2 => by
    rw [upd_ne (nx b q2)]; exact ⟨q1, (RR.ownAt q2.own).choose_spec.2⟩) (fun g hg _ => by
    cases hg
    refine ⟨_, hs, ⟨a, vs', rfl, upd_same, pa, r⟩, fun _ b t q => ?_⟩
    cases t.own
    exact nx _ q rfl)
  refine ⟨R2, fun b u h n _ => ?_, fun b _ n z => ?_, PSub.refl _, fun b h => .inl h, fun b h => ?_⟩
  · rw [upd_ne (fun z => n (by rw [z]; exact own_a))]; exact h
  · rcases w1 b z with q | ⟨g, y, q, o, hy, t⟩
    · exact n q.own
    · cases q
      rw [hs] at hy; cases hy
      cases t.own; exact n own_a
  · by_cases hb : b = a
    · subst hb; rw [upd_same]; exact fun z => nomatch z
    · rw [upd_ne hb]; exact h
def MtD (T : Tab) (r : V → List V → Hp → VK → Prop) (g : List D → List D → Option (D × List D)) : Prop :=
  ∀ (P H : Hp) (a : Addr) (vs : List V) (ds es : List D) (xs : List V) (d : D) (ds' : List D) (Q : VK), H a = some (.lst vs) → Reps T P ds vs → Reps T P es xs → g ds es = some (d, ds') →
    (∀ x vs', Rep T P d x → Reps T P ds' vs' → Q x (upd H a (.lst vs'))) → r (.ref a) xs H Q
def mtM (i : Nat) (g : List D → List D → Option (D × List D)) (ms : List M) : M := fun env => match env[i]? with
  | some (some (.own _)) => (argsM ms env).bind fun es e => match e[i]? with
    | some (some (.own ds)) => (match g ds es with | some (d, ds') => .ok d (e.set i (some (.own ds'))) | none => .stk)
    | _ => .stk
  | _ => .stk
theorem rd_mt {i : Nat} {r : V → List V → Hp → VK → Prop} {g : List D → List D → Option (D × List D)} {ms : List M} {ks : List Kd} (hD : MtD T r g) (hp : ∀ k ∈ ks, k = Kd.pure) {Q : VK} (h : rdE T W .pure (mtM i g ms) σ H Q) :
    tBM T.K "list" r (tVar i) (rdA T W ks ms) σ H Q := by
  obtain ⟨env, P, RR, h⟩ := h
  unfold mtM at h
  cases e0 : env[i]? with
  | none => rw [e0] at h; exact False.elim h
  | some o =>
    cases o with
    | none => rw [e0] at h; exact False.elim h
    | some v =>
      cases v with
      | own d0 =>
        rw [e0] at h
        obtain ⟨u, hu, r0⟩ := RR.ent i _ e0
        obtain ⟨a, vs0, rfl, q0, p0, _⟩ := r0
        refine ⟨_, hu, .inl ⟨rfl, vs0, .of q0⟩, env, P, RR, After.at h.bind fun es env1 P1 H1 _ R1 F1 h1 xs kxs => ?_⟩
        cases e1 : env1[i]? with
        | none => rw [e1] at h1; exact False.elim h1
        | some o =>
          cases o with
          | none => rw [e1] at h1; exact False.elim h1
          | some v =>
            cases v with
            | own ds =>
              rw [e1] at h1
              obtain ⟨u, hu2, r1⟩ := R1.ent i _ e1
              rw [hu] at hu2; cases hu2
              obtain ⟨a', vs, ea, q1, p1, w1⟩ := r1
              cases ea
              cases e2 : g ds es with
              | none => simp only [e2] at h1; exact False.elim h1
              | some p =>
                obtain ⟨d, ds'⟩ := p
                simp only [e2] at h1
                refine hD P1 H1 a vs ds es xs d ds' Q q1 w1 (kxs.pures hp) e2 fun x vs' rx rvs => ?_
                obtain ⟨R2, F2⟩ := R1.updO (vs' := vs') e1 hu rvs
                exact h1 _ _ R2 F2 x rx trivial
            | _ => rw [e1] at h1; exact False.elim h1
      | _ => rw [e0] at h; exact False.elim h
theorem de_mt {i : Nat} {x name : Str} {id : String} {r : V → List V → Hp → VK → Prop} {g : List D → List D → Option (D × List D)} {ms : List M} {ks : List Kd} {es : List Expr} {p apos cpos : Pos} (hK : X.K = T.K) (pa : PlainAttrs "list") (slot : Slot "list" name id)
    (hty : typeOf (.builtin id) = pure (.type "method_descriptor")) (hm : MtR X id r) (hD : MtD T r g) (hv : PE X (.Name x p) (tVar i)) (ha : DA T W X (e :: es) ks ms) (hp : ∀ k ∈ ks, k = Kd.pure)
    (hfew : ((backTo cpos (starEach (e :: es) X.env)).all (fun x => !x.1) && (backToKw cpos (keywordEach [] X.env)).all (fun x => x.1.isSome)
      && decide ((e :: es).length + ([] : List Keyword).length + (if ([] : List Keyword).isEmpty then 0 else 1) < 30)) = true := by rfl)
    (hline : (apos.endLine == cpos.line) = true := by rfl) (hs : starEach (e :: es) X.env = (false, eval e X.env) :: starEach es X.env := by rfl) (hplain : (backTo cpos (starEach es X.env)).any (·.1) = false := by rfl) :
    DE T W X (.Call (.Attribute (.Name x p) name apos) (e :: es) [] cpos) .pure (mtM i g ms) :=
  pe_imp (pe_bm pa slot hty hm hv ha (by rfl) hfew hline hs hplain) fun σ H Q h => by rw [hK]; exact rd_mt hD hp h
def appG (ds es : List D) : Option (D × List D) := match es with | [d] => if ds.length < sizeLine then some (.non, ds ++ [d]) else none | _ => none
theorem md_append : MtD T rAppend appG := fun P H a vs ds es xs d ds' Q h1 h2 h3 e k => by
  match es, h3, e with
  | [d0], h3, e =>
    rw [Reps] at h3
    obtain ⟨v, r, rfl, h4, h5⟩ := h3
    rw [Reps] at h5; subst h5
    have e : (if ds.length < sizeLine then some (D.non, ds ++ [d0]) else none) = some (d, ds') := e
    by_cases z : ds.length < sizeLine
    · rw [if_pos z] at e; cases e
      exact ⟨a, vs, v, rfl, rfl, h1, by rw [h2.length]; exact z, k _ _ rep_non (h2.append (Reps.cons h4 Reps.nil))⟩
    · rw [if_neg z] at e; cases e
def popAtI (ds : List D) (i : Int) : Option (D × List D) := if -(2 ^ 63) ≤ i ∧ i < 2 ^ 63 then (ixN ds.length i).bind fun j => (ds[j]?).map fun d => (d, ds.eraseIdx j) else none
def popAtG (ds es : List D) : Option (D × List D) := match es with
  | [.int i] => popAtI ds i
  | _ => none
theorem Reps.erase {ds : List D} {vs : List V} (h : Reps T P ds vs) (j : Nat) : Reps T P (ds.eraseIdx j) (vs.eraseIdx j) := by
  rw [List.eraseIdx_eq_take_drop_succ, List.eraseIdx_eq_take_drop_succ]
  exact (h.take j).append (h.drop (j + 1))
theorem popAtI_some {ds ds' : List D} {i : Int} {d : D} (h : popAtI ds i = some (d, ds')) : (-(2 ^ 63) ≤ i ∧ i < 2 ^ 63) ∧ ∃ j, ixN ds.length i = some j ∧ ds[j]? = some d ∧ ds' = ds.eraseIdx j := by
  unfold popAtI at h
  by_cases z : -(2 ^ 63) ≤ i ∧ i < 2 ^ 63
  · rw [if_pos z] at h
    refine ⟨z, ?_⟩
    cases q : ixN ds.length i with
    | none => rw [q] at h; cases h
    | some j =>
      rw [q] at h
      have h : (ds[j]?).map (fun d => (d, ds.eraseIdx j)) = some (d, ds') := h
      cases q2 : ds[j]? with
      | none => rw [q2] at h; cases h
      | some d0 => rw [q2] at h; cases h; exact ⟨j, rfl, q2, rfl⟩
  · rw [if_neg z] at h; cases h
theorem md_popAt : MtD T rPopAt popAtG := fun P H a vs ds es xs d ds' Q h1 h2 h3 e k => by
  cases es with
  | nil => cases e
  | cons d0 es =>
    cases es with
    | cons _ _ => cases d0 <;> cases e
    | nil =>
      cases d0 with
      | int i =>
        rw [Reps] at h3
        obtain ⟨v, r, rfl, h4, h5⟩ := h3
        rw [Reps] at h5; subst h5
        rw [Rep] at h4; subst h4
        obtain ⟨z, j, q, q2, rfl⟩ := popAtI_some (show popAtI ds i = some (d, ds') from e)
        obtain ⟨v, hv, rv⟩ := h2.get q2
        exact ⟨a, vs, i, j, v, rfl, rfl, h1, z.1, z.2, by rw [h2.length]; exact (ixN_seq q).1, hv, k _ _ rv (h2.erase j)⟩
      | _ => cases e
def setI2 (i : Nat) (d n : D) (e : Env) : SR := match e[i]?, n with
  | some (some (.own ds)), .int j => (match ixN ds.length j with | some q => .nx (e.set i (some (.own (ds.set q d)))) | none => .stk)
  | _, _ => .stk
def setIM (i : Nat) (m mi : M) : MS := fun env => (m env).toS fun d e => match e[i]? with
  | some (some (.own _)) => (mi e).toS fun n e => setI2 i d n e
  | _ => .stk
theorem ds_setI {i : Nat} {x : Str} {ie : Expr} {mi : M} {p tpos : Pos} {ki : Kd} (hv : PE X (.Name x p) (tVar i)) (he : DE T W X e .pure m) (hi : DE T W X ie ki mi)
    (hs : swapsWithSole [.Subscript (.Name x p) ie tpos] e pos.line X.env = pure false := by rfl) (hw : swappedStores [.Subscript (.Name x p) ie tpos] e X.env = pure none := by rfl)
    (h1 : (assignEach [.Subscript (.Name x p) ie tpos] X.env).map (·.2) = [assign (.Subscript (.Name x p) ie tpos) X.env] := by rfl)
    (ha : ∀ v, assign (.Subscript (.Name x p) ie tpos) X.env v = (do let ov ← holding [v] (eval (.Name x p) X.env); let iv ← holding [v, ov] (eval ie X.env); standAt tpos; holding [v, ov, iv] (setItem ov iv v); release [v, ov, iv] []) := by intro _; rfl) :
    DS T W kr pins X (.Assign [.Subscript (.Name x p) ie tpos] e pos) (setIM i m mi) := by
  refine ps_imp (ps_asg he (pg_sub hv hi set_list ha) hs hw h1) fun D σ H h => ?_
  obtain ⟨env, P, RR, h⟩ := h
  refine ⟨env, P, RR, After.mono h.ofR fun d env1 P1 H1 R1 F1 h1 y ky ny => ?_⟩
  cases e0 : env1[i]? with
  | none => rw [e0] at h1; exact False.elim h1
  | some o =>
    cases o with
    | none => rw [e0] at h1; exact False.elim h1
    | some v =>
      cases v with
      | own d0 =>
        rw [e0] at h1
        obtain ⟨u, hu, r0⟩ := R1.ent i _ e0
        obtain ⟨a, vs0, rfl, _, _, _⟩ := r0
        refine ⟨_, hu, env1, P1, R1, After.mono h1.ofR fun n env2 P2 H2 R2 F2 h2 z kz nz => ?_⟩
        have ky' : Rep T P2 d y := Rep.sub F2.mono d y ky
        unfold setI2 at h2
        cases e2 : env2[i]? with
        | none => rw [e2] at h2; exact False.elim h2
        | some o =>
          cases o with
          | none => rw [e2] at h2; exact False.elim h2
          | some v =>
            cases v with
            | own ds =>
              rw [e2] at h2
              cases n with
              | int j =>
                simp only at h2
                obtain ⟨u, hu2, r1⟩ := R2.ent i _ e2
                rw [hu] at hu2; cases hu2
                obtain ⟨a', vs, ea, q1, p1, w1⟩ := r1
                cases ea
                cases e3 : ixN ds.length j with
                | none => rw [e3] at h2; exact False.elim h2
                | some q =>
                  rw [e3] at h2
                  refine ⟨a, vs, j, q, rfl, (kz.rdb R2).intE, q1, by rw [w1.length]; exact e3, ?_⟩
                  obtain ⟨R3, F3⟩ := R2.updO (vs' := vs.set q y) e2 hu (w1.set q ky')
                  exact h2 σ P2 _ R3 F3 FrP.refl
              | _ => exact False.elim h2
            | _ => rw [e2] at h2; exact False.elim h2
      | _ => rw [e0] at h1; exact False.elim h1
def augM (i : Nat) (g : D → D → Option D) (m : M) : MS := fun env => match env[i]? with
  | some (some (.v d0)) => (m env).toS fun d e => (match g d0 d with | some r => .nx (e.set i (some (.v r))) | none => .stk)
  | _ => .stk
theorem ds_aug {i : Nat} {x : Str} {op : Operator} {r : R2} {g : D → D → Option D} {pos' : Pos} (hN : X.N.Nodup) (hi : X.N[i]? = some x) (hx : Loc X.env.scope x) (he : DE T W X e k m) (ho : PIp X op r) (hD : OpD T r .pure g) (hp : i ∉ pins := by decide)
    (hf : X.fn x = true ∨ X.env.scope.names.lookup x = some .local := by first | exact .inl rfl | exact .inr rfl | assumption) : DS T W kr pins X (.AugAssign (.Name x pos') op e pos) (augM i g m) := by
  refine ps_imp (ps_aug hN hi hx he ho hf) fun D σ H h => ?_
  obtain ⟨env, P, RR, h⟩ := h
  unfold augM at h
  cases e0 : env[i]? with
  | none => rw [e0] at h; exact False.elim h
  | some o =>
    cases o with
    | none => rw [e0] at h; exact False.elim h
    | some v =>
      cases v with
      | v d0 =>
        rw [e0] at h
        obtain ⟨u, hu, r0⟩ := RR.ent i _ e0
        refine ⟨u, hu, env, P, RR, After.mono (AfterS.ofR h) fun d env1 P1 H1 R1 F1 h1 y ky ny => ?_⟩
        cases e1 : g d0 d with
        | none => rw [e1] at h1; exact False.elim h1
        | some d2 =>
          rw [e1] at h1
          refine hD env1 σ P1 H1 d0 d u y d2 _ R1 (.inl (Rep.sub F1.mono _ _ r0)) (ky.rdb R1) e1 fun z P' H' R' F' kz nz => ?_
          obtain ⟨R2, F2⟩ := R'.setV (i := i) (d := d2) (x := z) kz
          exact h1 _ P' H' R2 (F'.trans F2) (FrP.set hp)
      | _ => rw [e0] at h; exact False.elim h
def parM (i j : Nat) (ma mb : M) : MS := fun env => (ma env).toS fun d1 e1 => (mb e1).toS fun d2 e2 => .nx ((e2.set i (some (.v d1))).set j (some (.v d2)))
end
end Ue
set_option linter.all false
set_option Elab.async false
set_option maxRecDepth 100000
set_option maxHeartbeats 4000000
namespace Ue
open PySem L2
theorem wipe_in {σ : L2.St} {i : Nat} : ∀ {vs : List Nat}, i ∈ vs → (wipe σ vs)[i]? = if i < σ.length then some none else none
  | [], h => by cases h
  | v :: vs, h => by
    unfold wipe
    by_cases q : v = i
    · subst q
      by_cases hv : v < σ.length
      · rw [List.getElem?_set_self (by rw [wipe_length]; exact hv), if_pos hv]
      · rw [List.getElem?_eq_none (by simpa [wipe_length] using hv), if_neg hv]
    · rw [List.getElem?_set_ne q]
      rcases List.mem_cons.mp h with e | e
      · exact absurd e.symm q
      · exact wipe_in e
theorem wipe_same {σ σ' : L2.St} {vs sl : List Nat} (h : Out sl σ σ') (hs : ∀ i ∈ sl, i ∈ vs) : wipe σ' vs = wipe σ vs := by
  refine List.ext_getElem? fun i => ?_
  by_cases hi : i ∈ vs
  · rw [wipe_in hi, wipe_in hi, h.1]
  · rw [wipe_out hi, wipe_out hi]
    exact h.2 i fun z => hi (hs i z)
def compL (vs : List Nat) (g : TGM) (tt : MT) (te : M) : List D → Env → R (List D)
  | [], e => .ok [] e
  | d :: ds, e => if vsOk e vs then
      (match g d (wipeE e vs) with
       | none => .stk
       | some e1 => match tt e1 with
         | .ok true e2 => (match te e2 with
           | .ok y e3 => (compL vs g tt te ds (restE e e3 vs)).bind fun ys e' => .ok (y :: ys) e'
           | _ => .stk)
         | .ok false e2 => compL vs g tt te ds (restE e e2 vs)
         | _ => .stk)
    else .stk
def compM (vs : List Nat) (mi : MI) (g : TGM) (tt : MT) (te : M) : M := fun env => (mi env).bind fun ds e => if ds.length ≤ sizeLine then (compL vs g tt te ds e).bind fun ys e' => .ok (.lst ys) e' else .stk
def yesT : MT := fun env => .ok true env
section
variable {T : Tab} {W : WX} {kr : Kd} {pins : List Nat} {env env' : Env} {σ σ' : L2.St} {P H P' H' : Hp} {X : Cx} {pos : Pos} {tg e a b : Expr} {k ka kb : Kd} {m ma mb : M} {vs : List Nat}
theorem Rel.pokeI {L : Addr} {o : HO} (RR : Rel T env σ P H) (hp : P L = none) (no : ¬ Own env σ H L) (pl : Pln H L) : Rel T env σ P (upd H L o) ∧ ∀ b, Own env σ (upd H L o) b ↔ Own env σ H b :=
  RR.reH (PSub.refl _) (fun b u h => by rw [upd_ne (ne_of_none h hp)]; exact RR.sub b u h) (tabs_poke RR.tabs pl) fun b u h1 h2 => by
    have hb : b ≠ L := by rintro rfl; exact no h2
    rw [upd_ne hb]; exact ⟨h1, (RR.ownAt h2).choose_spec.2⟩
theorem Rel.poke {L : Addr} {o : HO} (RR : Rel T env σ P H) (hp : P L = none) (no : ¬ Own env σ H L) (pl : Pln H L) : Rel T env σ P (upd H L o) := (RR.pokeI hp no pl).1
theorem Fr.poke {L : Addr} {o : HO} (F : Fr env σ P H env' σ' P' H') (hL : H L = none) (w : ∀ b, Own env' σ' (upd H' L o) b ↔ Own env' σ' H' b) : Fr env σ P H env' σ' P' (upd H' L o) := by
  refine ⟨fun b u h n t => ?_, fun b h n z => F.own b h n ((w b).mp z), F.mono, F.new, fun b h => ?_⟩
  · rw [upd_ne (ne_of_none h hL)]; exact F.keep b u h n t
  · by_cases hb : b = L
    · subst hb; rw [upd_same]; exact fun z => nomatch z
    · rw [upd_ne hb]; exact F.there b h
def LcInv (T : Tab) (W : WX) (vs : List Nat) (g : TGM) (tt : MT) (te : M) (σ : L2.St) (ds : List D) (env1 : Env) (P1 H1 : Hp) (L : Addr) (Qf : D → Env → Hp → Hp → Prop) (i : Nat) (H : Hp) : Prop :=
  ∃ (e : Env) (P2 : Hp) (vs2 : List V) (ys : List D), Rel T e σ P2 H ∧ Fr env1 σ P1 H1 e σ P2 H ∧ ¬ Own e σ H L ∧ P2 L = none ∧ H L = some (.lst vs2) ∧ Reps T P2 ys vs2 ∧ ys.length ≤ i ∧
    After T W σ env1 P1 H1 ((compL vs g tt te (ds.drop i) e).bind fun zs e' => .ok (.lst (ys ++ zs)) e') Qf
theorem rd_lc {mi : MI} {g : TGM} {tt : MT} {te : M} {sl : List Nat} (hsl : ∀ i ∈ sl, i ∈ vs) {Q : VK} (h : rdE T W .fresh (compM vs mi g tt te) σ H Q) :
    tLc (rdI T W mi) (rdG T sl g) (rdT T (fun _ _ _ _ => False) tt) (rdE T (fun _ _ _ _ => False) .pure te) vs σ H Q := by
  obtain ⟨env, P, RR, h⟩ := h
  refine ⟨env, P, RR, After.mono h.bind fun ds env1 P1 H1 R1 F1 h1 J hJ => ?_⟩
  intro L hL
  by_cases hz : ¬ ds.length ≤ sizeLine
  · rw [if_neg hz] at h1; exact False.elim h1
  have hz : ds.length ≤ sizeLine := Classical.not_not.mp hz
  rw [if_pos hz] at h1
  have hLH : H L = none := Classical.byContradiction fun z => F1.there L z hL
  refine ⟨fun i m H2 => m = ds.length - i ∧ LcInv T W vs g tt te σ ds env1 P1 H1 L (fun d env' P' H' => ∀ x, KRep T .fresh env' σ P' H' d x → NewV .fresh H x → Q x H') i H2, ?_, ?_⟩
  · obtain ⟨R2, F2, no, pn⟩ := R1.newF (o := .lst []) hL
    exact ⟨ds.length, by simp, env1, P1, [], [], R2, F2, no, pn, upd_same, Reps.nil, Nat.zero_le _, h1⟩
  · rintro i m H3 ⟨rfl, e, P3, vs3, ys, R3, F3, nownL, pL, hD, rys, hy, h3⟩
    obtain ⟨j1, j2⟩ := hJ P3 H3 F3.mono R3.sub
    cases c : ds[i]? with
    | none =>
      have hi : ds.length ≤ i := List.getElem?_eq_none_iff.mp c
      rw [List.drop_eq_nil_of_le hi] at h3
      refine .inl ⟨j2 i hi, ?_⟩
      have h3 : After T W σ env1 P1 H1 (R.ok (D.lst (ys ++ [])) e) _ := h3
      rw [List.append_nil] at h3
      exact h3 P3 H3 R3 F3 _ ⟨L, vs3, ys, rfl, hD, pL, nownL, rys, rfl⟩ ⟨L, rfl, hLH⟩
    | some d =>
      have hi : i < ds.length := by
        rcases Nat.lt_or_ge i ds.length with q | q
        · exact q
        · rw [List.getElem?_eq_none q] at c; cases c
      have ed : ds.drop i = d :: ds.drop (i + 1) := by
        rw [List.drop_eq_getElem_cons hi]
        rw [List.getElem?_eq_getElem hi] at c
        rw [Option.some.inj c]
      rw [ed] at h3
      unfold compL at h3
      by_cases hv : ¬ vsOk e vs = true
      · rw [if_neg hv] at h3; exact False.elim h3
      have hv : vsOk e vs = true := Classical.not_not.mp hv
      rw [if_pos hv] at h3
      obtain ⟨j3, j4⟩ := j1 i d c
      refine .inr ⟨j3, LcInv T W vs g tt te σ ds env1 P1 H1 L (fun d env' P' H' => ∀ x, KRep T .fresh env' σ P' H' d x → NewV .fresh H x → Q x H') (i + 1), fun H' q => ⟨ds.length - (i + 1), by omega, rfl, q⟩, fun x H' y => ?_⟩
      obtain ⟨P4, r4, g4⟩ := j4 x H' y
      obtain ⟨R4, F4⟩ := R3.grow1 g4
      obtain ⟨R5, o5⟩ := R4.wiped hv
      cases c2 : g d (wipeE e vs) with
      | none => rw [c2] at h3; exact False.elim h3
      | some e6 =>
        rw [c2] at h3
        refine ⟨wipeE e vs, P4, d, R5, r4, e6, c2, fun σ6 R6 F6 p6 => ?_⟩
        have hw0 : wipe σ6 vs = wipe (wipe σ vs) vs := wipe_same p6 hsl
        have hww : wipe (wipe σ vs) vs = wipe σ vs := by
          refine List.ext_getElem? fun j => ?_
          by_cases hj : j ∈ vs
          · rw [wipe_in hj, wipe_in hj, wipe_length]
          · rw [wipe_out hj]
        have hw : wipe σ6 vs = wipe σ vs := hw0.trans hww
        refine ⟨hw, e6, P4, R6, ?_⟩
        cases c3 : tt e6 with
        | exc _ _ _ => simp only [c3] at h3; exact False.elim h3
        | stk => simp only [c3] at h3; exact False.elim h3
        | ok b e7 =>
          intro P7 H7 R7 F7
          cases b with
          | false =>
            simp only [c3] at h3
            refine iteF ?_
            obtain ⟨R8, F8⟩ := R4.rest hv R7 (F6.trans F7) hw
            have FF := F4.trans F8
            have hD8 : H7 L = some (.lst vs3) := FF.keep L _ hD nownL (fun _ z => nomatch z)
            have n8 : ¬ Own (restE e e7 vs) σ H7 L := FF.own L (by rw [hD]; exact fun z => nomatch z) nownL
            have p8 : P7 L = none := by
              refine Classical.byContradiction fun z => ?_
              rcases FF.new L z with q | q | q
              · exact q pL
              · rw [hD] at q; cases q
              · exact nownL q
            exact ⟨restE e e7 vs, P7, vs3, ys, R8, F3.trans FF, n8, p8, hD8, Reps.sub FF.mono _ _ rys, Nat.le_succ_of_le hy, h3⟩
          | true =>
            simp only [c3] at h3
            refine iteT ⟨e7, P7, R7, ?_⟩
            cases c4 : te e7 with
            | exc _ _ _ => simp only [c4] at h3; exact False.elim h3
            | stk => simp only [c4] at h3; exact False.elim h3
            | ok z e8 =>
              simp only [c4] at h3
              intro P9 H9 R9 F9 v kv nv
              have kv : Rep T P9 z v := kv
              obtain ⟨R8, F8⟩ := R4.rest hv R9 (F6.trans (F7.trans F9)) hw
              have FF := F4.trans F8
              have hD8 : H9 L = some (.lst vs3) := FF.keep L _ hD nownL (fun _ z => nomatch z)
              have n8 : ¬ Own (restE e e8 vs) σ H9 L := FF.own L (by rw [hD]; exact fun z => nomatch z) nownL
              have p8 : P9 L = none := by
                refine Classical.byContradiction fun z => ?_
                rcases FF.new L z with q | q | q
                · exact q pL
                · rw [hD] at q; cases q
                · exact nownL q
              have rys9 := Reps.sub FF.mono _ _ rys
              obtain ⟨R10, w10⟩ := R8.pokeI (o := .lst (vs3 ++ [v])) p8 n8 (.lst hD8)
              refine ⟨vs3, hD8, by rw [rys.length]; omega, restE e e8 vs, P9, vs3 ++ [v], ys ++ [z], R10, (F3.trans FF).poke hL w10, fun q => n8 ((w10 L).mp q), p8, upd_same, rys9.append (Reps.cons kv Reps.nil), by simp; omega, ?_⟩
              have ea : ((compL vs g tt te (List.drop (i + 1) ds) (restE e e8 vs)).bind fun ys_1 e' => (R.ok (z :: ys_1) e' : Ue.R (List D))).bind (fun zs e' => (R.ok (D.lst (ys ++ zs)) e' : Ue.R D)) = (compL vs g tt te (List.drop (i + 1) ds) (restE e e8 vs)).bind fun zs e' => R.ok (D.lst (ys ++ [z] ++ zs)) e' := by
                cases compL vs g tt te (List.drop (i + 1) ds) (restE e e8 vs) with
                | ok zs e' => show R.ok (D.lst (ys ++ (z :: zs))) e' = R.ok (D.lst (ys ++ [z] ++ zs)) e'; rw [List.append_assoc]; rfl
                | _ => rfl
              rw [ea] at h3
              exact h3
def DTs (T : Tab) (W : WX) (X : Cx) (ifs : List Expr) (m : MT) : Prop := PTs X ifs (rdT T W m)
theorem dts_nil : DTs T W X [] yesT := ⟨fun pins s σ H Q I h => pts_nil.run pins s σ H Q I (by
  obtain ⟨env, P, RR, h⟩ := h
  exact h.here RR (Fr.refl _ _ _ _))⟩
theorem dts_one {c : Expr} {t : MT} (h : DT T W X c t) : DTs T W X [c] t := pts_one h
abbrev W0 : WX := fun _ _ _ _ => False
theorem de_lc {elt iter : Expr} {ifs : List Expr} {scope : Scope} {own : List (Str × Nat)} {mi : MI} {g : TGM} {tt : MT} {te : M} {sl : List Nat} (hc : X.calm = true) (hN : X.N.Nodup) (hi : DI T W X tg iter mi) (ok : BlkOk X.N X.env.scope scope own)
    (hg : ∀ (s : Shared) (H : Hp) (C : Addr) (cl : List (Str × Addr)) (fp : List Addr), DG T sl (X.blk s H scope (compEnvC scope cl C X.env) fp) tg g)
    (ht : ∀ (s : Shared) (H : Hp) (C : Addr) (cl : List (Str × Addr)) (fp : List Addr), DTs T W0 (X.blk s H scope (compEnvC scope cl C X.env) fp) ifs tt)
    (he : ∀ (s : Shared) (H : Hp) (C : Addr) (cl : List (Str × Addr)) (fp : List Addr), DE T W0 (X.blk s H scope (compEnvC scope cl C X.env) fp) elt .pure te)
    (hsl : ∀ i ∈ sl, i ∈ own.map (·.2) := by decide) (hs : ∀ x, foldedSetIterable iter X.env x = pure x := by intro _; rfl) : DE T W X (.ListComp elt [⟨tg, iter, ifs, 0⟩] scope pos) .fresh (compM (own.map (·.2)) mi g tt te) :=
  pe_imp (pe_lc hc hN hi ok hg ht he hs) fun _ _ _ h => rd_lc hsl h
section
variable {i : Nat} {y : Str} {py spos : Pos} {elt iter : Expr} {ifs : List Expr} {scope : Scope} {own : List (Str × Nat)} {mi : MI} {g : TGM} {tt : MT} {te : M} {sl : List Nat}
theorem ds_setLc (hc : X.calm = true) (hN : X.N.Nodup) (hy : X.N[i]? = some y) (hyl : X.env.scope.names.lookup y = some .local)
    (hsw : swapsWith (.ListComp elt [⟨tg, iter, ifs, 0⟩] scope pos) (some (.Name y py)) spos.line X.env = pure true) (hi : DI T W X tg iter mi) (ok : BlkOk X.N X.env.scope scope own)
    (hg : ∀ (s : Shared) (H : Hp) (C : Addr) (cl : List (Str × Addr)) (fp : List Addr), DG T sl (X.blk s H scope (compEnvC scope cl C X.env) fp) tg g)
    (ht : ∀ (s : Shared) (H : Hp) (C : Addr) (cl : List (Str × Addr)) (fp : List Addr), DTs T W0 (X.blk s H scope (compEnvC scope cl C X.env) fp) ifs tt)
    (he : ∀ (s : Shared) (H : Hp) (C : Addr) (cl : List (Str × Addr)) (fp : List Addr), DE T W0 (X.blk s H scope (compEnvC scope cl C X.env) fp) elt .pure te)
    (hp : i ∉ pins := by decide) (hsl : ∀ i ∈ sl, i ∈ own.map (·.2) := by decide) (hs : ∀ x, foldedSetIterable iter X.env x = pure x := by intro _; rfl) :
    DS T W kr pins X (.Assign [.Name y py] (.ListComp elt [⟨tg, iter, ifs, 0⟩] scope pos) spos) (setM i (compM (own.map (·.2)) mi g tt te)) :=
  ps_imp (ps_setLc hc hN hy hyl hsw hi ok hg ht he hs) fun D σ H h => rd_lc hsl (rd_frz (rd_set hp h))
end
end
theorem EnvRep.bn {T : Tab} {P H : Hp} {e : EV} {x : V} (h : EnvRep T.nb P H e x) (ho : ∀ c fs, e ≠ .ex c fs) : EnvRep T P H e x := by
  cases e with
  | v d => exact (rep_nb d x).mp h
  | own ds =>
    obtain ⟨a, vs, q1, q2, q3, q4⟩ := h
    exact ⟨a, vs, q1, q2, q3, (reps_nb _ _).mp q4⟩
  | new c fs =>
    obtain ⟨a, d, vs, q1, q2, q3, q4, q5⟩ := h
    exact ⟨a, d, vs, q1, q2, q3, q4, (reps_nb _ _).mp q5⟩
  | ex c fs => exact absurd rfl (ho c fs)
  | mob c fs =>
    obtain ⟨a, d, vs, q1, q2, q3, q4, q5, q6⟩ := h
    exact ⟨a, d, vs, q1, q2, q3, q4, (freps_nb _ _).mp q5, q6⟩
theorem KRep.bn {T : Tab} {k : Kd} {env : Env} {σ : L2.St} {P H : Hp} {d : D} {x : V} (h : KRep T.nb k env σ P H d x) : KRep T k env σ P H d x := by
  cases k with
  | pure => exact (rep_nb d x).mp h
  | fresh => obtain ⟨a, vs, ds, q1, q2, q3, q4, q5, q6⟩ := h; exact ⟨a, vs, ds, q1, q2, q3, q4, (reps_nb _ _).mp q5, q6⟩
  | own i => exact h
theorem ExRep.bn {T : Tab} {P : Hp} {c : Nat} {fs : List D} {cls : Value} {dd : Option Addr} (h : ExRep T.nb P c fs cls dd) : ExRep T P c fs cls dd := by
  obtain ⟨q1, q2⟩ := h
  refine ⟨q1, ?_⟩
  rcases q2 with q2 | ⟨dx, xfs, vs, w1, w2, w3, w4⟩
  · exact .inl q2
  · exact .inr ⟨dx, xfs, vs, w1, w2, w3, (reps_nb _ _).mp w4⟩
end Ue
set_option linter.all false
set_option Elab.async false
set_option maxRecDepth 100000
set_option maxHeartbeats 4000000
namespace Ue
open PySem PySem.Spec PyProof.Rows L2
def spF (T : Tab) (kr : Kd) (n : Nat) (F : FM) : Sp := fun vs H Q E => ∃ (as : List EV) (P : Hp), Rel T.nb (as.map some) (vs.map some) P H ∧ vs.length = n ∧
  match F as with
  | .ok d as' => ∀ P' H' x, Rel T.nb (as'.map some) (vs.map some) P' H' → Fr (as.map some) (vs.map some) P H (as'.map some) (vs.map some) P' H' → KRep T.nb kr (as'.map some) (vs.map some) P' H' d x → NewV kr H x → Q x H'
  | .exc c fs as' => ∀ P' H' cls dd, Rel T.nb (as'.map some) (vs.map some) P' H' → Fr (as.map some) (vs.map some) P H (as'.map some) (vs.map some) P' H' → ExRep T.nb P' c fs cls dd → E cls dd H'
  | .stk => False
def finA (pins : List Nat) : Nat → List EV → Env → Option (List EV)
  | _, [], _ => some []
  | i, .own _ :: as, e => (if i ∈ pins then (match e[i]? with | some (some (.own ds)) => (finA pins (i + 1) as e).map (.own ds :: ·) | _ => none) else none)
  | i, .new _ _ :: as, e => (if i ∈ pins then (match e[i]? with | some (some (.new c fs)) => (finA pins (i + 1) as e).map (.new c fs :: ·) | _ => none) else none)
  | i, .mob _ _ :: as, e => (if i ∈ pins then (match e[i]? with | some (some (.mob c fs)) => (finA pins (i + 1) as e).map (.mob c fs :: ·) | _ => none) else none)
  | i, .v d :: as, e => (finA pins (i + 1) as e).map (.v d :: ·)
  | i, .ex c fs :: as, e => (finA pins (i + 1) as e).map (.ex c fs :: ·)
def envOf (n : Nat) (as : List EV) : Env := as.map some ++ List.replicate (n - as.length) none
def kdOf (fr : Bool) : Kd := if fr then .fresh else .pure
def mobIn : List EV → Bool
  | [] => false
  | .mob _ _ :: _ => true
  | _ :: as => mobIn as
def endF (fr : Bool) (pins : List Nat) (as : List EV) (r : SR) : CRes :=
  match r with
  | .nx e => if fr then .stk else (match finA pins 0 as e with | some as' => .ok .non as' | none => .stk)
  | .ret d e => (match finA pins 0 as e with | some as' => if fr && mobIn as then .stk else .ok d as' | none => .stk)
  | .exc c fs e => (match finA pins 0 as e with | some as' => .exc c fs as' | none => .stk)
  | _ => .stk
def runF (fr : Bool) (n : Nat) (pins : List Nat) (body : MS) : FM := fun as => endF fr pins as (body (envOf n as))
section
variable {T : Tab} {pins : List Nat} {env env' : Env} {σ σ' : L2.St} {P H P' H' : Hp} {as as' : List EV} {vs : List V} {N : List Str}
theorem start_get {i : Nat} {x : V} (h : (L2.start N vs)[i]? = some (some x)) : (vs.map some)[i]? = some (some x) := by
  unfold L2.start at h
  by_cases hi : i < vs.length
  · rw [List.getElem?_append_left (by simpa using hi)] at h; exact h
  · rw [List.getElem?_append_right (by simpa using hi), List.getElem?_replicate] at h
    split at h <;> cases h
theorem start_lt {i : Nat} (hi : i < vs.length) : (L2.start N vs)[i]? = (vs.map some)[i]? := by
  unfold L2.start; rw [List.getElem?_append_left (by simpa using hi)]
theorem envOf_get {n i : Nat} {e : EV} (h : (envOf n as)[i]? = some (some e)) : (as.map some)[i]? = some (some e) ∧ i < as.length := by
  unfold envOf at h
  by_cases hi : i < as.length
  · rw [List.getElem?_append_left (by simpa using hi)] at h; exact ⟨h, hi⟩
  · rw [List.getElem?_append_right (by simpa using hi), List.getElem?_replicate] at h
    split at h <;> cases h
theorem envOf_lt {n i : Nat} (hi : i < as.length) : (envOf n as)[i]? = (as.map some)[i]? := by
  unfold envOf; rw [List.getElem?_append_left (by simpa using hi)]
theorem Rel.pad (R1 : Rel T (as.map some) (vs.map some) P H) (hn : as.length ≤ N.length) : Rel T (envOf N.length as) (L2.start N vs) P H ∧ ∀ J b, Own (envOf N.length as) (L2.start N vs) J b ↔ Own (as.map some) (vs.map some) J b := by
  have hl : as.length = vs.length := by simpa using R1.len
  refine ⟨⟨R1.sub, fun i e h => ?_, fun i j e f x y a n h1 h2 o1 o2 s1 s2 t1 t2 => ?_, ?_, R1.tabs⟩, fun J b => ⟨fun ⟨i, e, x, h1, h2, h3, h4⟩ => ⟨i, e, x, (envOf_get h1).1, h2, start_get h3, h4⟩, fun ⟨i, e, x, h1, h2, h3, h4⟩ => ?_⟩⟩
  · obtain ⟨h1, h2⟩ := envOf_get h
    obtain ⟨v, hv, r⟩ := R1.ent i e h1
    exact ⟨v, by rw [start_lt (by omega)]; exact hv, r⟩
  · exact R1.dis i j e f x y a n (envOf_get h1).1 (envOf_get h2).1 o1 o2 (start_get s1) (start_get s2) t1 t2
  · unfold envOf L2.start; simp [hl]
  · have hi : i < as.length := by
      rcases Nat.lt_or_ge i as.length with q | q
      · exact q
      · rw [List.getElem?_eq_none (by simpa using q)] at h1; cases h1
    exact ⟨i, e, x, by rw [envOf_lt hi]; exact h1, h2, by rw [start_lt (by omega)]; exact h3, h4⟩
theorem mobIn_get : ∀ {as : List EV} {j : Nat} {c : Nat} {fs : List FV}, mobIn as = false → as[j]? = some (.mob c fs) → False
  | [], j, c, fs, _, h => by simp at h
  | f :: as, 0, c, fs, h, h2 => by simp at h2; subst h2; cases h
  | f :: as, j + 1, c, fs, h, h2 => by
    refine mobIn_get (as := as) (j := j) ?_ (by simpa using h2)
    cases f with
    | mob _ _ => cases h
    | _ => exact h
theorem finA_cons {f : EV} {as as' : List EV} {j : Nat} {e : Env} (h : finA pins j (f :: as) e = some as') : ∃ g as2, as' = g :: as2 ∧ finA pins (j + 1) as e = some as2 ∧
    ((g = f ∧ f.isOwn = false) ∨ (f.isOwn = true ∧ g.isOwn = true ∧ j ∈ pins ∧ e[j]? = some (some g))) := by
  have pl : ∀ g : EV, g = f → f.isOwn = false → (finA pins (j + 1) as e).map (g :: ·) = some as' → ∃ g as2, as' = g :: as2 ∧ finA pins (j + 1) as e = some as2 ∧ ((g = f ∧ f.isOwn = false) ∨ (f.isOwn = true ∧ g.isOwn = true ∧ j ∈ pins ∧ e[j]? = some (some g))) := fun g hg ho h => by
    cases q : finA pins (j + 1) as e with
    | none => rw [q] at h; cases h
    | some as2 => rw [q] at h; cases h; exact ⟨g, as2, rfl, rfl, .inl ⟨hg, ho⟩⟩
  have ow : ∀ g : EV, f.isOwn = true → g.isOwn = true → j ∈ pins → e[j]? = some (some g) → (finA pins (j + 1) as e).map (g :: ·) = some as' → ∃ g as2, as' = g :: as2 ∧ finA pins (j + 1) as e = some as2 ∧ ((g = f ∧ f.isOwn = false) ∨ (f.isOwn = true ∧ g.isOwn = true ∧ j ∈ pins ∧ e[j]? = some (some g))) := fun g hf hg hp he h => by
    cases q : finA pins (j + 1) as e with
    | none => rw [q] at h; cases h
    | some as2 => rw [q] at h; cases h; exact ⟨g, as2, rfl, rfl, .inr ⟨hf, hg, hp, he⟩⟩
  cases f with
  | v d => exact pl _ rfl rfl h
  | ex c fs => exact pl _ rfl rfl h
  | own d0 =>
    unfold finA at h
    by_cases hp : j ∈ pins
    · rw [if_pos hp] at h
      cases q : e[j]? with
      | none => rw [q] at h; cases h
      | some o =>
        cases o with
        | none => rw [q] at h; cases h
        | some v =>
          cases v with
          | own ds => rw [q] at h; exact q ▸ ow (.own ds) rfl rfl hp q h
          | _ => rw [q] at h; cases h
    · rw [if_neg hp] at h; cases h
  | new c0 d0 =>
    unfold finA at h
    by_cases hp : j ∈ pins
    · rw [if_pos hp] at h
      cases q : e[j]? with
      | none => rw [q] at h; cases h
      | some o =>
        cases o with
        | none => rw [q] at h; cases h
        | some v =>
          cases v with
          | new c ds => rw [q] at h; exact q ▸ ow (.new c ds) rfl rfl hp q h
          | _ => rw [q] at h; cases h
    · rw [if_neg hp] at h; cases h
  | mob c0 d0 =>
    unfold finA at h
    by_cases hp : j ∈ pins
    · rw [if_pos hp] at h
      cases q : e[j]? with
      | none => rw [q] at h; cases h
      | some o =>
        cases o with
        | none => rw [q] at h; cases h
        | some v =>
          cases v with
          | mob c ds => rw [q] at h; exact q ▸ ow (.mob c ds) rfl rfl hp q h
          | _ => rw [q] at h; cases h
    · rw [if_neg hp] at h; cases h
theorem finA_get : ∀ {as as' : List EV} {j : Nat} {e : Env}, finA pins j as e = some as' → as'.length = as.length ∧ ∀ i f, as'[i]? = some f → (f.isOwn = false ∧ as[i]? = some f) ∨ (f.isOwn = true ∧ ∃ f0, f0.isOwn = true ∧ as[i]? = some f0 ∧ j + i ∈ pins ∧ e[j + i]? = some (some f))
  | [], as', j, e, h => by cases h; exact ⟨rfl, fun i f h => by simp at h⟩
  | f0 :: as, as', j, e, h => by
    obtain ⟨g, as2, rfl, h2, hg⟩ := finA_cons h
    obtain ⟨l, k⟩ := finA_get h2
    refine ⟨by simp [l], fun i f hf => ?_⟩
    cases i with
    | zero =>
      simp at hf; subst hf
      rcases hg with ⟨rfl, ho⟩ | ⟨h3, h4, h5, h6⟩
      · exact .inl ⟨ho, rfl⟩
      · exact .inr ⟨h4, f0, h3, rfl, h5, h6⟩
    | succ i =>
      simp only [List.getElem?_cons_succ] at hf ⊢
      have := k i f hf
      rwa [show j + 1 + i = j + (i + 1) by omega] at this
theorem Rel.out (R1 : Rel T (as.map some) (vs.map some) P H) (hn : as.length ≤ N.length) (hf : finA pins 0 as env' = some as') (R2 : Rel T env' σ' P' H') (F2 : Fr (envOf N.length as) (L2.start N vs) P H env' σ' P' H') (hp : FrP pins (L2.start N vs) σ') :
    Rel T (as'.map some) (vs.map some) P' H' ∧ Fr (as.map some) (vs.map some) P H (as'.map some) (vs.map some) P' H' ∧ ∀ J b, Own (as'.map some) (vs.map some) J b → Own env' σ' J b := by
  obtain ⟨hl, hk⟩ := finA_get hf
  have hlv : as.length = vs.length := by simpa using R1.len
  obtain ⟨_, o1⟩ := R1.pad hn
  have get : ∀ i e, (as'.map some)[i]? = some (some e) → as'[i]? = some e := fun i e h => by
    rw [List.getElem?_map] at h
    cases q : as'[i]? with
    | none => rw [q] at h; cases h
    | some f => rw [q] at h; cases h; rfl
  have σeq : ∀ i, i ∈ pins → i < vs.length → σ'[i]? = (vs.map some)[i]? := fun i hi hv => by rw [hp i hi, start_lt hv]
  have lt : ∀ i e, as'[i]? = some e → i < vs.length := fun i e h => by
    rcases Nat.lt_or_ge i as'.length with q | q
    · omega
    · rw [List.getElem?_eq_none q] at h; cases h
  have ow : ∀ J b, Own (as'.map some) (vs.map some) J b → Own env' σ' J b := fun J b ⟨i, e, x, h1, h2, h3, h4⟩ => by
    have h1 := get i e h1
    rcases hk i e h1 with ⟨o, _⟩ | ⟨o, f0, o0, q1, q2, q3⟩
    · rw [h2] at o; cases o
    · rw [Nat.zero_add] at q2 q3
      exact ⟨i, _, x, q3, h2, by rw [σeq i q2 (lt i _ h1)]; exact h3, h4⟩
  refine ⟨⟨R2.sub, fun i e h => ?_, fun i j e f x y a n h1 h2 o1 o2 s1 s2 t1 t2 => ?_, by simp [hl, hlv], R2.tabs⟩, ⟨fun b u h n t => ?_, fun b h n z => ?_, F2.mono, fun b h => ?_, F2.there⟩, ow⟩
  · have h := get i e h
    have hi := lt i e h
    rcases hk i e h with ⟨o, q⟩ | ⟨o, f0, o0, q1, q2, q3⟩
    · obtain ⟨v, hv, r⟩ := R1.ent i e (by rw [List.getElem?_map, q]; rfl)
      refine ⟨v, hv, r.grow F2.mono fun b u _ _ o' _ => ?_⟩
      rw [o] at o'; cases o'
    · rw [Nat.zero_add] at q2 q3
      obtain ⟨v, hv, r⟩ := R2.ent i _ q3
      exact ⟨v, by rw [← σeq i q2 hi]; exact hv, r⟩
  · have h1 := get i e h1
    have h2 := get j f h2
    rcases hk i e h1 with ⟨o, _⟩ | ⟨o, f0, o0, q1, q2, q3⟩
    · rw [o1] at o; cases o
    · rcases hk j f h2 with ⟨o, _⟩ | ⟨o', f0', o0', w1, w2, w3⟩
      · rw [o2] at o; cases o
      · rw [Nat.zero_add] at q2 q3 w2 w3
        exact R2.dis i j _ _ x y a n q3 w3 o1 o2 (by rw [σeq i q2 (lt i _ h1)]; exact s1) (by rw [σeq j w2 (lt j _ h2)]; exact s2) t1 t2
  · exact F2.keep b u h (fun z => n ((o1 H b).mp z)) t
  · exact F2.own b h (fun q => n ((o1 H b).mp q)) (ow H' b z)
  · rcases F2.new b h with q | q | q
    · exact .inl q
    · exact .inr (.inl q)
    · exact .inr (.inr ((o1 H b).mp q))
section
variable {P : Program} {w : World} {K : PySem.W.Frag} {mg : Str → Option Value} {base : Heap} {Z : CXT} {j k : Nat} {f : Addr} {fd : FuncData} {ps N : List Str} {sp : Sp}
theorem deeper_guards {A : Around} {e : PySem.Env} : (A.deeper e).guards = A.guards := by first | rfl | simp [Around.deeper]
def CodeOf (K : PySem.W.Frag) (f : Addr) (cdv : Value) : Prop := ∃ (oc : Value) (od : Option Addr) (fd : FuncData) (osl : Array (Option Value)), K.lookup f = some ⟨oc, od, .func fd, osl⟩ ∧ fd.code = cdv
theorem funGC {x qual : Str} {params : Arguments} {body : List Stmt} {scope : Scope} {dvs : List V} {kws : List (Str × V)} (F : FunD K x qual params body scope dvs kws f fd) (S : FnScope N ps scope) (len : ∀ vs H Q E, sp vs H Q E → vs.length = ps.length)
    (hb : ∀ (cdv : Value), CodeOf K f cdv → ∀ (B : Around) (o : List PySem.Env) (t : Shared) (H : Hp) (vs : List V) (Q : VK) (E : XK), B.guards = some [] → Room k (B.deeper (PyProof.Rows.envOfC qual scope t.heap.objs.size f cdv)) → sp vs H Q E →
      ∃ u, PSs (cxOf Z P w K mg base N qual scope f cdv B o t H E) body u ∧ u { nx := fun _ J => Q .non J, rt := Q } (L2.start N vs) H) : FnG P w K mg base Z (k + 1) f fd ps sp := by
  obtain ⟨oc, od, dV, kV, doc, pm, an, cdv, ct, osl, rfl, at_, code, _, _⟩ := F.ex
  refine ⟨len, fun B o t H ar us vs Q E g room e0 bnd rel hsp => ?_⟩
  have lenV := len vs H Q E hsp
  have up : ∀ b u, base.get? b = some u → t.heap.get? b = some u := fun b u e => (e0.bs b u e).1
  have there := (e0.mod.kin.keeps up) _ _ at_
  have par : ∀ q ∈ ps.zip us, scope.names.lookup q.1 = some .local ∨ (scope.names.lookup q.1 = some .cell ∧ ((cellsFrom (t.heap.objs.size + 1) scope.names []).lookup q.1).isSome = true) := fun q hq =>
    (S.par q.1 (List.of_mem_zip (a := q.1) (b := q.2) hq).1).imp_right fun z => ⟨z, PySem.W.cellsFrom_some _ _ _ (.inl z)⟩
  refine codeAny_call_function room.depth there rfl S.co S.gen rfl (PySem.W.codeRec_of (e0.mod.kin.keeps up) code) (bnd _ _ _ _ ?_)
  refine wpAny_newFunctionEnv_cells S.kind par fun ev hev t1 x => ?_
  subst hev
  refine ⟨(e0.mod.nolimit.keeps up).keeps x.toInCall.keep, codeAny_func ?_⟩
  obtain ⟨u, hu, q⟩ := hb cdv ⟨_, _, _, _, at_, rfl⟩ B o t H vs Q E g (room.deeper _) hsp
  have fin : ∀ {σ' : L2.St} {J : Hp} {v : V} {z : Value} {t' : Shared}, Inv (cxOf Z P w K mg base N qual scope f cdv B o t H E) [] σ' J t' → RelV v z → Q v J → CE o P w H t Q z t' := fun {σ' J v z t'} I rv qv => ⟨v, J, I.os, I.bare, I.base, I.hok, rv, qv⟩
  refine wpAny_mono (hu.run [] t1 (L2.start N vs) H _ (inv_start S room.hd e0 lenV rel x) q) (fun fl t' hs => ?_) fun _ _ hs => hs
  match fl, hs with
  | .ret z, ⟨v, σ', J, I, rv, qv⟩ => exact fin I rv qv
  | .next, ⟨σ', J, I, qv⟩ => exact fin (v := V.non) (z := Value.none) I rfl qv
  | .brk, ⟨_, _, _, qv⟩ => exact False.elim qv
  | .cont, ⟨_, _, _, qv⟩ => exact False.elim qv
end
section
variable {X : Cx} {Z : CXT} {k : Nat} {f : Addr} {fd : FuncData} {ps : List Str} {sp : Sp} {dvs : List V} {ds : List Value} {x : Str} {p pos : Pos} {e : Expr} {es : List Expr} {t : TA} {pins : List (Addr × Obj)} {σ : L2.St} {H : Hp} {s : Shared} {Q : VK}
theorem runG {us : List Value} {vs : List V} {E : L2.St → XK} (F : FnG X.prog X.w X.K X.mg X.base Z k f fd ps sp) (gd : X.A.guards = some []) (hr : Room k X.A) (hb : Binds X.K fd ps ds) (hd : Vals dvs ds) (hx : PassesAt Z X σ (E σ)) (I : Inv X pins σ H s) (r : Vals vs us) (h : sp (vs ++ dvs) H Q (E σ)) :
    wpAny (model X.prog X.w) X.A (call (.ref f) us) (EP X pins σ Q) X.xe s := by
  have rr : Vals (vs ++ dvs) (us ++ ds) := r.append hd
  exact wpAny_call (F.code gd hr hx I (hb s us I.kIn (rr.length.symm.trans (F.len _ _ _ _ h))) rr h)
theorem pe_callG {E : L2.St → XK} (F : FnG X.prog X.w X.K X.mg X.base Z k f fd ps sp) (gd : X.A.guards = some []) (hr : Room k X.A) (hg : Gl X x) (hm : X.mg x = some (.ref f)) (hk : PySem.W.keepIn X.K (.ref f) = true) (hb : Binds X.K fd ps ds) (hd : Vals dvs ds) (hx : ∀ σ, PassesAt Z X σ (E σ))
    (ha : PA X (e :: es) t) (hdb : (x == ("__debug__" : Str)) = false) (he : starEach (e :: es) X.env = (false, eval e X.env) :: starEach es X.env) (hpl : (backTo pos (starEach es X.env)).any (·.1) = false) :
    PE X (.Call (.Name x p) (e :: es) [] pos) (tCallSD sp dvs E t) := ⟨fun pins s σ H Q I h =>
  wpAny_Call_Name_kw (ld_glob I hg hm (PySem.W.callWith_K (h₀ := X.base) I.ok.mod.kin hk (thn (ha.run pos pins s σ H _ I h) fun us s1 ⟨vs, H1, I1, r, q⟩ => ⟨I1.kIn, runG F gd hr hb hd (hx σ) I1 r q⟩) he hpl) hdb)⟩
end
theorem fn_okC {prog : Program} {w : World} {K : PySem.W.Frag} {mg : Str → Option Value} {base : Heap} {x qual : Str} {params : Arguments} {body : List Stmt} {scope : Scope} {dvs : List V} {kws : List (Str × V)} {f : Addr} {fd : FuncData} {ps : List Str} {k : Nat} {fr : Bool} {m : MS}
    (F : FunD K x qual params body scope dvs kws f fd) (S : FnScope N ps scope) (hps : ps.length ≤ N.length) (hT : T.nb = T)
    (hb : ∀ (cdv : Value), CodeOf K f cdv → ∀ (A : Around) (outer : List PySem.Env) (s : Shared) (H : Hp) (E : XK), A.guards = some [] → Room k (A.deeper (PyProof.Rows.envOfC qual scope s.heap.objs.size f cdv)) →
      DSs T (fun cls d _ H => E cls d H) (kdOf fr) pins (cxOf (CX prog w) prog w K mg base N qual scope f cdv A outer s H E) body m) : FnG prog w K mg base (CX prog w) (k + 1) f fd ps (spF T (kdOf fr) ps.length (runF fr N.length pins m)) := by
  refine funGC F S (fun vs H Q E h => ?_) fun cdv hcd A outer s H vs Q E hgd hr h => ?_
  · obtain ⟨as, P, _, hl, _⟩ := h
    exact hl
  · obtain ⟨as, P, R1, hl, h⟩ := h
    rw [hT] at R1 h
    have hla : as.length = vs.length := by simpa using R1.len
    have hn : as.length ≤ N.length := by omega
    refine ⟨_, hb cdv hcd A outer s H E hgd hr, envOf N.length as, P, (R1.pad hn).1, ?_⟩
    unfold runF endF at h
    cases e1 : m (envOf N.length as) with
    | nx e2 =>
      rw [e1] at h
      cases fr with
      | true => exact False.elim h
      | false =>
      intro σ' P' H' R2 F2 p2
      cases e3 : finA pins 0 as e2 with
      | none => (simp only [e3] at h) <;> exact False.elim h
      | some as' =>
        simp only [e3] at h
        obtain ⟨R3, F3, o3⟩ := R1.out hn e3 R2 F2 p2
        exact h P' H' .non R3 F3 (show Rep T P' .non .non from rep_non) trivial
    | ret d e2 =>
      rw [e1] at h
      intro σ' P' H' x R2 F2 p2 kx nx
      cases e3 : finA pins 0 as e2 with
      | none => (simp only [e3] at h) <;> exact False.elim h
      | some as' =>
        simp only [e3] at h
        obtain ⟨R3, F3, o3⟩ := R1.out hn e3 R2 F2 p2
        cases fr with
        | false => exact h P' H' x R3 F3 kx trivial
        | true =>
          obtain ⟨a, ws, ds, q1, q2, q3, q4, q5, q6⟩ := kx
          cases hm : mobIn as with
          | true => rw [hm] at h; exact h.elim
          | false =>
          rw [hm] at h
          refine h P' H' x R3 F3 ⟨a, ws, ds, q1, q2, q3, fun z => q4 (o3 H' a z), q5, q6⟩ ⟨a, q1, ?_⟩
          obtain ⟨a', ea, ha⟩ := nx
          rw [q1] at ea; cases ea
          rcases ha with ha | ha
          · exact ha
          · obtain ⟨_, o1⟩ := R1.pad hn
            obtain ⟨j, f, x', z1, z2, z3, z4⟩ := (o1 H a).mp ha
            have nm : ∀ c fs, f ≠ .mob c fs := fun c fs e => by
              subst e
              rw [List.getElem?_map] at z1
              cases w : as[j]? with
              | none => rw [w] at z1; cases z1
              | some g => rw [w] at z1; cases z1; exact mobIn_get hm w
            have ex := z4.plain nm
            subst ex
            obtain ⟨hl2, hk2⟩ := finA_get e3
            have hj : j < as'.length := by
              rcases Nat.lt_or_ge j as.length with q | q
              · omega
              · rw [List.getElem?_eq_none (by simpa using q)] at z1; cases z1
            exfalso
            have hj2 := List.getElem?_eq_getElem hj
            rcases hk2 j _ hj2 with ⟨w1, w2⟩ | ⟨w1, f0, w0, w2, w3, w4⟩
            · rw [List.getElem?_map, w2] at z1; cases z1; rw [w1] at z2; cases z2
            · refine q4 (o3 H' a ⟨j, _, _, ?_, w1, z3, .here⟩)
              rw [List.getElem?_map, hj2]; rfl
    | exc c fs e2 =>
      rw [e1] at h
      intro σ' P' H' cls dd R2 F2 p2 x
      cases e3 : finA pins 0 as e2 with
      | none => (simp only [e3] at h) <;> exact False.elim h
      | some as' =>
        simp only [e3] at h
        obtain ⟨R3, F3, o3⟩ := R1.out hn e3 R2 F2 p2
        exact h P' H' cls dd R3 F3 x
    | brk e2 => rw [e1] at h; exact False.elim h
    | cnt e2 => rw [e1] at h; exact False.elim h
    | stk => rw [e1] at h; exact False.elim h
theorem fn_ok {prog : Program} {w : World} {K : PySem.W.Frag} {mg : Str → Option Value} {base : Heap} {x qual : Str} {params : Arguments} {body : List Stmt} {scope : Scope} {dvs : List V} {kws : List (Str × V)} {f : Addr} {fd : FuncData} {ps : List Str} {k : Nat} {fr : Bool} {m : MS}
    (F : FunD K x qual params body scope dvs kws f fd) (S : FnScope N ps scope) (hps : ps.length ≤ N.length) (hT : T.nb = T)
    (hb : ∀ (cdv : Value) (A : Around) (outer : List PySem.Env) (s : Shared) (H : Hp) (E : XK), A.guards = some [] → Room k (A.deeper (PyProof.Rows.envOfC qual scope s.heap.objs.size f cdv)) →
      DSs T (fun cls d _ H => E cls d H) (kdOf fr) pins (cxOf (CX prog w) prog w K mg base N qual scope f cdv A outer s H E) body m) : FnG prog w K mg base (CX prog w) (k + 1) f fd ps (spF T (kdOf fr) ps.length (runF fr N.length pins m)) := fn_okC F S hps hT fun cdv _ => hb cdv
end
end Ue
set_option linter.all false
set_option Elab.async false
set_option maxRecDepth 100000
set_option maxHeartbeats 4000000
namespace Ue
open PySem L2
def argG : List Ag → Env → R (List AD)
  | [], e => .ok [] e
  | .p m :: as, e => (m e).bind fun d e1 => (argG as e1).bind fun ds e2 => .ok (.d d :: ds) e2
  | .o i :: as, e => match e[i]? with
    | some (some (.own _)) => (argG as e).bind fun ds e2 => .ok (.s i :: ds) e2
    | some (some (.mob _ _)) => (argG as e).bind fun ds e2 => .ok (.s i :: ds) e2
    | _ => .stk
def fnM (F : FM) (ags : List Ag) (dfl : List D) : M := fun env => (argG ags env).bind fun ss e => match resA ss e with
  | none => .stk
  | some as => if fewO ss then (match F (as ++ dfl.map EV.v) with
    | .ok d as' => .ok d (putA ss as' e)
    | .exc c fs as' => .exc c fs (putA ss as' e)
    | .stk => .stk) else .stk
def rdP (T : Tab) (W : WX) (ags : List Ag) : TA := fun σ H Q => ∃ env P, Rel T env σ P H ∧ After T W σ env P H (argG ags env) (fun ss env' P' H' => ∀ xs, SReps T σ P' ss xs → Q xs H')
def GA (T : Tab) (W : WX) (X : Cx) (es : List Expr) (ags : List Ag) : Prop := PA X es (rdP T W ags)
section
variable {T : Tab} {W : WX} {kr : Kd} {pins : List Nat} {env env' : Env} {σ σ' : L2.St} {P H P' H' : Hp} {X : Cx} {pos : Pos} {e : Expr} {es : List Expr} {m : M} {ags : List Ag}
theorem ga_nil : GA T W X [] [] := pa_imp pa_nil fun σ H Q h => by
  obtain ⟨env, P, RR, h⟩ := h
  exact h.here RR (Fr.refl _ _ _ _) _ .nil
theorem ga_p (h : DE T W X e .pure m) (h' : GA T W X es ags) (hst : starEach (e :: es) X.env = (false, eval e X.env) :: starEach es X.env := by rfl) : GA T W X (e :: es) (.p m :: ags) := pa_imp (pa_cons h h' hst) fun σ H Q h => by
  obtain ⟨env, P, RR, h⟩ := h
  refine ⟨env, P, RR, After.mono h.bind fun d env1 P1 H1 R1 F1 h1 x kx nx => ?_⟩
  refine ⟨env1, P1, R1, After.mono h1.bind fun ss env2 P2 H2 R2 F2 h2 xs kxs => ?_⟩
  exact h2.here R2 (Fr.refl _ _ _ _) _ (.d (Rep.sub F2.mono _ _ kx) kxs)
theorem ga_o {i : Nat} {x : Str} {p : Pos} (h : PE X (.Name x p) (tVar i)) (h' : GA T W X es ags) (hst : starEach ((.Name x p) :: es) X.env = (false, eval (.Name x p) X.env) :: starEach es X.env := by rfl) : GA T W X ((.Name x p) :: es) (.o i :: ags) := pa_imp (pa_cons h h' hst) fun σ H Q h => by
  obtain ⟨env, P, RR, h⟩ := h
  unfold argG at h
  cases e0 : env[i]? with
  | none => rw [e0] at h; exact False.elim h
  | some o =>
    cases o with
    | none => rw [e0] at h; exact False.elim h
    | some v =>
      cases v with
      | own ds =>
        rw [e0] at h
        obtain ⟨u, hu, _⟩ := RR.ent i _ e0
        refine ⟨u, hu, env, P, RR, After.mono h.bind fun ss env2 P2 H2 R2 F2 h2 xs kxs => ?_⟩
        exact h2.here R2 (Fr.refl _ _ _ _) _ (.s hu kxs)
      | mob c fs =>
        rw [e0] at h
        obtain ⟨u, hu, _⟩ := RR.ent i _ e0
        refine ⟨u, hu, env, P, RR, After.mono h.bind fun ss env2 P2 H2 R2 F2 h2 xs kxs => ?_⟩
        exact h2.here R2 (Fr.refl _ _ _ _) _ (.s hu kxs)
      | _ => rw [e0] at h; exact False.elim h
theorem resA_v : ∀ (ss : List AD) (as : List EV) (j : Nat) (i : Nat) (d : D), resA ss env = some as → ss[j]? = some (.s i) → as[j]? = some (.v d) → False
  | [], _, _, _, _, _, h, _ => by simp at h
  | .d x :: ss, as, j, i, d, h1, h2, h3 => by
    have h1 : (resA ss env).map (EV.v x :: ·) = some as := h1
    cases c : resA ss env with
    | none => rw [c] at h1; cases h1
    | some as2 =>
      rw [c] at h1; cases h1
      cases j with
      | zero => simp at h2
      | succ j => simp only [List.getElem?_cons_succ] at h2 h3; exact resA_v ss as2 j i d c h2 h3
  | .s i0 :: ss, as, j, i, d, h1, h2, h3 => by
    obtain ⟨g, as2, e0, o, c, rfl⟩ := resA_own h1
    cases j with
    | zero => simp at h3; subst h3; cases o
    | succ j => simp only [List.getElem?_cons_succ] at h2 h3; exact resA_v ss as2 j i d c h2 h3
theorem own_none : ∀ {ss : List AD} {k : Nat}, ownIx k ss = none → ∀ (j i : Nat), ss[j]? ≠ some (AD.s i)
  | [], k, _, j, i => by simp
  | .d x :: ss, k, h, j, i => by
    cases j with
    | zero => simp
    | succ j => simp only [List.getElem?_cons_succ]; exact own_none (show ownIx (k + 1) ss = none from h) j i
  | .s i0 :: ss, k, h, j, i => by cases h
theorem ownIx_at : ∀ (ss : List AD) (k j i : Nat), ownIx k ss = some (j, i) → k ≤ j ∧ ss[j - k]? = some (.s i)
  | [], k, j, i, h => by cases h
  | .d x :: ss, k, j, i, h => by
    obtain ⟨h1, h2⟩ := ownIx_at ss (k + 1) j i h
    refine ⟨by omega, ?_⟩
    rw [show j - k = (j - (k + 1)) + 1 by omega, List.getElem?_cons_succ]; exact h2
  | .s i0 :: ss, k, j, i, h => by cases h; simp
theorem Rel.back {ss : List AD} {as as' : List EV} {xs dvs : List V} {dfl : List D} (RR : Rel T env σ P H) (hr : resA ss env = some as) (hf : fewO ss = true) (hs : SReps T σ P ss xs) (hd : Reps T P dfl dvs)
    (R2 : Rel T.nb (as'.map some) ((xs ++ dvs).map some) P' H') (F2 : Fr ((as ++ dfl.map EV.v).map some) ((xs ++ dvs).map some) P H (as'.map some) ((xs ++ dvs).map some) P' H') :
    Rel T (putA ss as' env) σ P' H' ∧ Fr env σ P H (putA ss as' env) σ P' H' ∧ ∀ b, Own (putA ss as' env) σ H' b → Own env σ H b ∨ Own (as'.map some) ((xs ++ dvs).map some) H' b := by
  obtain ⟨R1, o1⟩ := RR.call hr hf hs hd
  have la := resA_len hr
  have lx := hs.len
  have l2 : as'.length = (xs ++ dvs).length := by simpa using R2.len
  have getx : ∀ (j : Nat) (v : V), xs[j]? = some v → ((xs ++ dvs).map some)[j]? = some (some v) := fun j v h => by
    have hj : j < xs.length := by
      rcases Nat.lt_or_ge j xs.length with q | q
      · exact q
      · rw [List.getElem?_eq_none q] at h; cases h
    rw [List.getElem?_map, List.getElem?_append_left hj, h]; rfl
  -- the slots: the one that was handed, all others
  have key : ∀ (l : Nat) (f : EV), (putA ss as' env)[l]? = some (some f) → (∃ (j : Nat) (g : EV) (v : V), ss[j]? = some (AD.s l) ∧ as'[j]? = some f ∧ g.isOwn = true ∧ env[l]? = some (some g) ∧ xs[j]? = some v ∧ σ[l]? = some (some v) ∧ ∀ c fs, f ≠ .ex c fs) ∨ (env[l]? = some (some f) ∧ ∀ (j : Nat), ss[j]? ≠ some (AD.s l)) := fun l f h => by
    unfold putA at h
    cases q : ownIx 0 ss with
    | none => rw [q] at h; exact .inr ⟨h, fun j => own_none q j l⟩
    | some p =>
      obtain ⟨j, i⟩ := p
      rw [q] at h
      have hj : ss[j]? = some (.s i) := by
        have := (ownIx_at ss 0 j i q).2
        simpa using this
      have hja : j < as.length := by
        rcases Nat.lt_or_ge j ss.length with z | z
        · omega
        · rw [List.getElem?_eq_none z] at hj; cases hj
      have hj' : j < as'.length := by rw [l2, List.length_append]; omega
      simp only [List.getElem?_eq_getElem hj'] at h
      by_cases z : l = i
      · subst z
        rcases resA_get hr hs (List.getElem?_eq_getElem hja) with ⟨d, v, e0, q1, q2⟩ | ⟨i2, v, e0, q1, q2, q3, q4⟩
        · exact (resA_v ss as j l d hr hj (by rw [List.getElem?_eq_getElem hja, e0])).elim
        · rw [hj] at q1; cases q1
          have hil : l < env.length := by
            rcases Nat.lt_or_ge l env.length with z | z
            · exact z
            · rw [List.getElem?_eq_none z] at q2; cases q2
          rw [List.getElem?_set_self hil] at h
          have h := Option.some.inj h
          have hu : some as'[j] = some f ∧ ∀ c fs, f ≠ .ex c fs := by
            cases ea : as'[j] with
            | ex c fs => rw [ea] at h; cases h
            | v d => rw [ea] at h; cases h; exact ⟨rfl, fun _ _ z => nomatch z⟩
            | own d => rw [ea] at h; cases h; exact ⟨rfl, fun _ _ z => nomatch z⟩
            | new c d => rw [ea] at h; cases h; exact ⟨rfl, fun _ _ z => nomatch z⟩
            | mob c d => rw [ea] at h; cases h; exact ⟨rfl, fun _ _ z => nomatch z⟩
          exact .inl ⟨j, _, v, hj, by rw [List.getElem?_eq_getElem hj']; exact hu.1, e0, q2, q3, q4, hu.2⟩
      · rw [List.getElem?_set_ne (fun w => z w.symm)] at h
        refine .inr ⟨h, fun j' h' => ?_⟩
        have h3 := (few_one (k := 0) hf hj).2 j' l h'
        subst h3
        rw [hj] at h'; cases h'; exact z rfl
  have low : (putA ss as' env).length = env.length := by
    unfold putA
    split
    · rfl
    · split
      · rw [List.length_set]
      · rfl
  have ownA : ∀ b, Own ((as ++ dfl.map EV.v).map some) ((xs ++ dvs).map some) H b → Own env σ H b := fun b h => by
    obtain ⟨j, i, f, x, _, _, h0, h1, h2, h3⟩ := o1 H b h
    exact ⟨i, _, _, h1, h0, h2, h3⟩
  -- a slot that was not handed: what it holds is nobody else's, and stands
  have oth : ∀ (l : Nat) (f : EV) (x : V) (b : Addr), env[l]? = some (some f) → f.isOwn = true → σ[l]? = some (some x) → (∀ (j : Nat), ss[j]? ≠ some (AD.s l)) → Foot f x H b → ¬ Own ((as ++ dfl.map EV.v).map some) ((xs ++ dvs).map some) H b := fun l f x b h o s n t z => by
    obtain ⟨j, i, f', x', c1, _, c2, c3, c4, c5⟩ := o1 H b z
    by_cases w : l = i
    · subst w; exact n j c1
    · exact RR.dis l i f f' x x' b w h c3 o c2 s c4 t c5
  have ft : ∀ (l : Nat) (f : EV) (x : V) (b : Addr), env[l]? = some (some f) → f.isOwn = true → σ[l]? = some (some x) → (∀ (j : Nat), ss[j]? ≠ some (AD.s l)) → (Foot f x H' b ↔ Foot f x H b) := fun l f x b h o s n => by
    obtain ⟨v, hv, r⟩ := RR.ent l f h
    rw [s] at hv; cases hv
    exact r.footH fun a u ha _ hu => F2.keep a u hu (oth l f x a h o s n (.inl ha)) (RR.ownK ⟨l, f, x, h, o, s, .inl ha⟩ hu).1
  have hnd : ∀ (l j : Nat) (f : EV) (v : V) (b : Addr), as'[j]? = some f → f.isOwn = true → xs[j]? = some v → Foot f v H' b → Own (as'.map some) ((xs ++ dvs).map some) H' b := fun l j f v b h o s t => ⟨j, f, v, by rw [List.getElem?_map, h]; rfl, o, getx j v s, t⟩
  have ow : ∀ b, Own (putA ss as' env) σ H' b → Own env σ H b ∨ Own (as'.map some) ((xs ++ dvs).map some) H' b := fun b ⟨l, f, x, h1, h2, h3, h4⟩ => by
    rcases key l f h1 with ⟨j, g, v, a1, a2, a0, a3, a4, a5, a6⟩ | ⟨a1, a2⟩
    · rw [h3] at a5; cases a5
      exact .inr (hnd l j f x b a2 h2 a4 h4)
    · exact .inl ⟨l, f, x, a1, h2, h3, (ft l f x b a1 h2 h3 a2).mp h4⟩
  refine ⟨⟨R2.sub, fun l f h => ?_, fun l1 l2 f g x y b n h1 h2 o1' o2' s1 s2 t1 t2 => ?_, by rw [low]; exact RR.len, R2.tabs⟩, ⟨fun b u h n t => F2.keep b u h (fun z => n (ownA b z)) t, fun b h n z => ?_, F2.mono, fun b h => ?_, F2.there⟩, ow⟩
  · rcases key l f h with ⟨j, g, v, a1, a2, a0, a3, a4, a5, a6⟩ | ⟨a1, a2⟩
    · obtain ⟨u, hu, r⟩ := R2.ent j f (by rw [List.getElem?_map, a2]; rfl)
      rw [getx j v a4] at hu
      have hu := Option.some.inj (Option.some.inj hu)
      subst hu
      exact ⟨v, a5, r.bn a6⟩
    · obtain ⟨v, hv, r⟩ := RR.ent l f a1
      refine ⟨v, hv, r.grow F2.mono fun b u h1 h2 h3 h4 => ?_⟩
      have nb := oth l f v b a1 h3 hv a2 h4
      refine ⟨F2.keep b u h1 nb (RR.ownK ⟨l, f, v, a1, h3, hv, h4⟩ h1).1, Classical.byContradiction fun z => ?_⟩
      rcases F2.new b z with q | q | q
      · exact q h2
      · rw [h1] at q; cases q
      · exact nb q
  · rcases key l1 f h1 with ⟨j, g1, v, a1, a2, a0, a3, a4, a5, a6⟩ | ⟨a1, a2⟩
    · rcases key l2 g h2 with ⟨j', g1', v', b1, b2, b0, b3, b4, b5, b6⟩ | ⟨b1, b2⟩
      · have h3 := (few_one (k := 0) hf b1).2 j l1 a1
        subst h3
        rw [a1] at b1; cases b1; exact n rfl
      · rw [s1] at a5; cases a5
        have t2' := (ft l2 g y b b1 o2' s2 b2).mp t2
        have hb : H b ≠ none := by
          obtain ⟨u, hu, _⟩ := RR.ownAt ⟨l2, g, y, b1, o2', s2, t2'⟩
          rw [hu]; exact fun z => nomatch z
        exact F2.own b hb (oth l2 g y b b1 o2' s2 b2 t2') (hnd l1 j f x b a2 o1' a4 t1)
    · have t1' := (ft l1 f x b a1 o1' s1 a2).mp t1
      rcases key l2 g h2 with ⟨j', g1', v', b1, b2, b0, b3, b4, b5, b6⟩ | ⟨b1, b2⟩
      · rw [s2] at b5; cases b5
        have hb : H b ≠ none := by
          obtain ⟨u, hu, _⟩ := RR.ownAt ⟨l1, f, x, a1, o1', s1, t1'⟩
          rw [hu]; exact fun z => nomatch z
        exact F2.own b hb (oth l1 f x b a1 o1' s1 a2 t1') (hnd l2 j' g y b b2 o2' b4 t2)
      · exact RR.dis l1 l2 f g x y b n a1 b1 o1' o2' s1 s2 t1' ((ft l2 g y b b1 o2' s2 b2).mp t2)
  · rcases ow b z with q | q
    · exact n q
    · exact F2.own b h (fun w => n (ownA b w)) q
  · rcases F2.new b h with q | q | q
    · exact .inl q
    · exact .inr (.inl q)
    · exact .inr (.inr (ownA b q))
end
end Ue
set_option linter.all false
set_option Elab.async false
set_option maxRecDepth 100000
set_option maxHeartbeats 4000000
namespace Ue
open PySem L2
section
variable {T : Tab} {W : WX} {kr : Kd} {pins : List Nat} {env env' : Env} {σ σ' : L2.St} {P H P' H' : Hp} {X : Cx} {pos : Pos} {e : Expr} {es : List Expr} {m : M} {ags : List Ag}
theorem rd_fn {F : FM} {n : Nat} {dfl : List D} {dvs : List V} {Q : VK} (hkr : kr = .pure ∨ kr = .fresh) (hdr : ∀ P, Reps T P dfl dvs) (hn : ags.length + dfl.length = n) (h : rdE T W kr (fnM F ags dfl) σ H Q) :
    tCallSD (spF T kr n F) dvs (fun σ cls d H => W cls d σ H) (rdP T W ags) σ H Q := by
  obtain ⟨env, P, RR, h⟩ := h
  refine ⟨env, P, RR, After.at h.bind fun ss env1 P1 H1 es1 R1 F1 h1 xs kxs => ?_⟩
  cases e1 : resA ss env1 with
  | none => simp only [e1] at h1; exact False.elim h1
  | some as =>
    simp only [e1] at h1
    by_cases hf : ¬ fewO ss = true
    · rw [if_neg hf] at h1; exact False.elim h1
    have hf : fewO ss = true := Classical.not_not.mp hf
    rw [if_pos hf] at h1
    obtain ⟨R2, o2⟩ := R1.call e1 hf kxs (hdr P1)
    have hlen : ∀ (ags : List Ag) (env env1 : Env) (ss : List AD), argG ags env = .ok ss env1 → ss.length = ags.length := by
      intro ags
      induction ags with
      | nil => intro env env1 ss h; cases h; rfl
      | cons a ags ih =>
        intro env env1 ss h
        cases a with
        | p m =>
          have h : (m env).bind (fun d e1 => (argG ags e1).bind fun ds e2 => R.ok (AD.d d :: ds) e2) = .ok ss env1 := h
          cases c : m env with
          | ok d e1 =>
            rw [c] at h
            have h : (argG ags e1).bind (fun ds e2 => R.ok (AD.d d :: ds) e2) = .ok ss env1 := h
            cases c2 : argG ags e1 with
            | ok ds e2 => rw [c2] at h; cases h; simp [ih _ _ _ c2]
            | exc _ _ _ => rw [c2] at h; cases h
            | stk => rw [c2] at h; cases h
          | exc _ _ _ => rw [c] at h; cases h
          | stk => rw [c] at h; cases h
        | o i =>
          unfold argG at h
          cases e0 : env[i]? with
          | none => rw [e0] at h; cases h
          | some o =>
            cases o with
            | none => rw [e0] at h; cases h
            | some v =>
              cases v with
              | own ds =>
                rw [e0] at h
                have h : (argG ags env).bind (fun ds e2 => R.ok (AD.s i :: ds) e2) = .ok ss env1 := h
                cases c2 : argG ags env with
                | ok ds e2 => rw [c2] at h; cases h; simp [ih _ _ _ c2]
                | exc _ _ _ => rw [c2] at h; cases h
                | stk => rw [c2] at h; cases h
              | mob c0 d0 =>
                rw [e0] at h
                have h : (argG ags env).bind (fun ds e2 => R.ok (AD.s i :: ds) e2) = .ok ss env1 := h
                cases c2 : argG ags env with
                | ok ds e2 => rw [c2] at h; cases h; simp [ih _ _ _ c2]
                | exc _ _ _ => rw [c2] at h; cases h
                | stk => rw [c2] at h; cases h
              | _ => rw [e0] at h; cases h
    refine ⟨as ++ dfl.map EV.v, P1, R2.nb, ?_, ?_⟩
    · rw [List.length_append, kxs.len, (hdr P1).length, hlen ags env env1 ss es1]; exact hn
    · cases e2 : F (as ++ dfl.map EV.v) with
      | ok d as' =>
        simp only [e2] at h1
        intro P2 H2 x R3 F3 kx nx
        obtain ⟨R4, F4, o4⟩ := R1.back e1 hf kxs (hdr P1) R3 F3
        refine h1 P2 H2 R4 F4 x ?_ (nx.back F1)
        rcases hkr with rfl | rfl
        · exact kx.bn
        · obtain ⟨a, ws, ds, q1, q2, q3, q4, q5, q6⟩ := kx.bn
          refine ⟨a, ws, ds, q1, q2, q3, fun z => ?_, q5, q6⟩
          obtain ⟨a', ea, ha⟩ := nx
          rw [q1] at ea; cases ea
          rcases o4 a z with w | w
          · obtain ⟨o, ho, _⟩ := R1.ownAt w
            rw [ha] at ho; cases ho
          · exact q4 w
      | exc c fs as' =>
        simp only [e2] at h1
        intro P2 H2 cls dd R3 F3 x
        obtain ⟨R4, F4, o4⟩ := R1.back e1 hf kxs (hdr P1) R3 F3
        exact h1 P2 H2 cls dd R4 F4 x.bn
      | stk => simp only [e2] at h1; exact False.elim h1
theorem de_call {F : FM} {n k : Nat} {f : Addr} {fd : FuncData} {ps : List Str} {dfl : List D} {dvs : List V} {ds : List Value} {x : Str} {p : Pos} (G : FnG X.prog X.w X.K X.mg X.base (L2.CX X.prog X.w) k f fd ps (spF T kr n F)) (hkr : kr = .pure ∨ kr = .fresh) (gd : X.A.guards = some []) (hr : Room k X.A) (hg : Gl X x) (hm : X.mg x = some (.ref f))
    (hk : PySem.W.keepIn X.K (.ref f) = true) (hb : Binds X.K fd ps ds) (hd : Vals dvs ds) (hdr : ∀ P, Reps T P dfl dvs) (tk : Takes X W) (ha : GA T W X (e :: es) ags) (hn : ags.length + dfl.length = n := by rfl)
    (hdb : (x == ("__debug__" : Str)) = false := by decide) (he : starEach (e :: es) X.env = (false, eval e X.env) :: starEach es X.env := by rfl) (hpl : (backTo pos (starEach es X.env)).any (·.1) = false := by rfl) :
    DE T W X (.Call (.Name x p) (e :: es) [] pos) kr (fnM F ags dfl) :=
  pe_imp (pe_callG (E := fun σ cls d H => W cls d σ H) G gd hr hg hm hk hb hd (fun σ => passAt tk σ) ha hdb he hpl) fun _ _ _ h => rd_fn hkr hdr hn h
end
section
variable {P : Program} {w : World} {K : PySem.W.Frag} {mg : Str → Option Value} {base : Heap} {nm qual x msg g g1 g2 : Str} {params : Arguments} {scope : Scope} {f D C : Addr} {fd : FuncData} {p1 p2 p3 p4 p5 p6 p7 p8 p9 p10 p11 p12 p13 p14 : Pos} {j : Nat}
end
end Ue
set_option linter.all false
set_option Elab.async false
set_option maxRecDepth 100000
set_option maxHeartbeats 4000000
namespace Ue
open PySem PySem.Spec L2
section
variable {X : Cx} {pins : List (Addr × Obj)} {σ : L2.St} {H1 H2 : Hp} {Q : XK}
end
def raiseM (c : Nat) (ms : List M) : MS := fun env => (argsM ms env).toS fun ds e => .exc c ds e
section
variable {T : Tab} {W : WX} {kr : Kd} {pins : List Nat} {env env' : Env} {σ σ' : L2.St} {P H P' H' : Hp} {X : Cx} {pos : Pos} {e e1 e2 : Expr} {es : List Expr} {m m1 m2 : M}
end
end Ue
set_option linter.all false
set_option Elab.async false
set_option maxRecDepth 100000
set_option maxHeartbeats 4000000
namespace Ue
open PySem PySem.Spec L2
def tryM (body : MS) (caught : Nat → Option Bool) (suite : MS) : MS := fun env => match body env with
  | .exc c fs e => (match caught c with | some true => (match suite e with | .exc _ _ _ => .stk | r => r) | some false => .exc c fs e | none => .stk)
  | r => r
section
variable {T : Tab} {W : WX} {kr : Kd} {pins : List Nat} {env env' : Env} {σ σ' : L2.St} {P H P' H' : Hp} {X : Cx} {pos : Pos}
end
end Ue
set_option linter.all false
set_option Elab.async false
set_option maxRecDepth 100000
set_option maxHeartbeats 4000000
namespace Ue
open PySem PySem.Spec L2
section
variable {T : Tab} {W : WX} {kr : Kd} {pins : List Nat} {env env' : Env} {σ σ' : L2.St} {P H P' H' : Hp} {X : Cx} {pos : Pos} {e a b c : Expr} {ka kb kc : Kd} {m ma mb mc : M}
def chainM (g g' : D → D → Option Bool) (ma mb mc : M) : MT := fun env => (ma env).bind fun x e1 => (mb e1).bind fun y e2 => match g x y with
  | some true => (mc e2).bind fun z e3 => liftB (g' y z) e3
  | some false => .ok false e2
  | none => .stk
def tyN : D → Option String
  | .non => some "NoneType" | .bl _ => some "bool" | .int _ => some "int" | .str _ => some "str" | .tup _ => some "tuple" | .lst _ => some "list" | .scr _ => some "list" | (.dct _) => some "dict" | .tpx _ => none | .obj _ _ => none
def isiTy (n : String) (d : D) : Option Bool := (tyN d).bind fun s => kitB s n
theorem tyx_of {d : D} {x : V} {s : String} (R1 : PSub P H) (h : Rdb T P H d x) (e : tyN d = some s) : TyX T.K H x (.type s) := by
  cases d with
  | non => cases e; rw [h.nonE]; exact .base .non
  | bl b => cases e; rw [h.blE]; exact .base (.bl b)
  | int i => cases e; rw [h.intE]; exact .base (.int i)
  | str i => cases e; rw [h.strE]; exact .base (.str i)
  | tup ds =>
    cases e
    obtain ⟨a, vs, rfl, q, _⟩ := h.tupE R1
    rcases q with (q | ⟨o, q⟩) | ⟨o, its, n, q1, q2, _⟩
    · exact .base (.tup q)
    · exact .fTuple q
    · exact .kTuple q1 q2
  | lst ds =>
    cases e
    obtain ⟨a, vs, rfl, q, _⟩ := h.lstE R1
    rcases q with q | ⟨o, q⟩
    · exact .base (.lst q)
    · exact .base (.frz q)
  | scr ns =>
    cases e
    obtain ⟨a, rfl, q⟩ := h.scrE R1
    rcases q with (q | ⟨o, q⟩) | ⟨o, its, n, q1, q2, _⟩
    · exact .base (.lst q)
    · exact .base (.frz q)
    · exact .kList q1 q2
  | tpx ds => cases e
  | dct kvs =>
    cases e
    obtain ⟨a, rfl, q⟩ := h.dctE R1
    exact .base (.dK q)
  | obj c fs => cases e
def isiM (n : String) (ma : M) : M := fun env => (ma env).bind fun d e => match isiTy n d with | some b => .ok (.bl b) e | none => .stk
theorem tk0 : Takes X W0 := fun u s' h => by
  obtain ⟨a, B, sI, pins, σ, H, cls, d, h⟩ := h
  obtain ⟨_, _, _, _, _, _, _, _, q⟩ := h
  exact q.elim
end
def offT (tb : List NdefX.NTab) (H : Hp) : Hp := fun b => if b ∈ tb.map (·.1) then none else H b
theorem offT_sub {tb : List NdefX.NTab} {H : Hp} : PSub (offT tb H) H := fun b o h => by
  unfold offT at h
  split at h
  · cases h
  · exact h
theorem offT_at {tb : List NdefX.NTab} {H : Hp} {b : Addr} {u : HO} (t : NdefX.TabsN tb H) (h : H b = some u) (n : NoT u) : offT tb H b = some u := by
  unfold offT
  rw [if_neg]
  · exact h
  · intro z
    obtain ⟨p, hp, e⟩ := List.mem_map.mp z
    obtain ⟨ps, e1, _⟩ := t p hp
    rw [e, h] at e1
    exact n ps (Option.some.inj e1)
theorem law_sp {T : Tab} {F : FM} {n : Nat} (hF : ∀ ns : List Int, ns.length ≤ n → ∃ as, F [.v (.scr ns)] = .ok (.bl true) as) : ∀ (H : Hp) (a : Addr) (ns : List Int), ns.length ≤ n → NdefX.TabsN T.tbs H → SqL T.K H a (ns.map V.int) → spF T .pure 1 F [.ref a] H (fun v _ => v = .bl true) fun _ _ _ => False := fun H a ns hl hO hS => by
  obtain ⟨as, e⟩ := hF ns hl
  have hS' : SqL T.K (offT T.tbs H) a (ns.map V.int) := by
    rcases hS with h | h
    · rcases h with h | ⟨o, h⟩
      · exact .inl (.inl (offT_at hO h fun _ z => nomatch z))
      · exact .inl (.inr ⟨o, offT_at hO h fun _ z => nomatch z⟩)
    · exact .inr h
  refine ⟨[.v (.scr ns)], offT T.tbs H, ⟨offT_sub, fun i e h => ?_, fun i j e f x y b n h1 h2 o1 o2 => ?_, rfl, hO, fun p hp => ?_⟩, rfl, ?_⟩
  · cases i with
    | zero => cases h; exact ⟨_, rfl, by show Rep T.nb (offT T.tbs H) _ _; rw [Rep]; exact ⟨a, rfl, hS'⟩⟩
    | succ i => simp at h
  · cases i with
    | zero => cases h1; cases o1
    | succ i => simp at h1
  · unfold offT; exact if_pos (List.mem_map.mpr ⟨p, hp, rfl⟩)
  · rw [e]
    intro P' H' x R2 F2 kx nx
    have kx : Rep T.nb P' (.bl true) x := kx
    rw [Rep] at kx
    exact kx
end Ue
namespace Ue
open PySem PySem.Spec L2
section
variable {T : Tab} {W : WX} {env env' : Env} {σ σ' : L2.St} {P H P' H' : Hp} {X : Cx} {pos : Pos} {tg e a b c : Expr} {m : M}
def asSeq (m : M) : MI := fun env => (m env).bind fun d e => match d with | .lst ds => .ok ds e | .tup ds => .ok ds e | .scr ns => .ok (ns.map D.int) e | _ => .stk
theorem pi_or {w1 w2 : TI} (h1 : PI X tg e w1) (h2 : PI X tg e w2) : PI X tg e (fun σ H Q => w1 σ H Q ∨ w2 σ H Q) := ⟨fun pins s σ H Q I h => h.elim (h1.run pins s σ H Q I) (h2.run pins s σ H Q I)⟩
theorem yl_scr {a : Addr} {ns : List Int} (h : SqL T.K P a (ns.map V.int)) : Yl T (Itl T.K a) P (ns.map D.int) := fun P1 H1 s1 s2 => by
  have q : SqL T.K H1 a (ns.map V.int) := sqL_sub s2 (sqL_sub s1 h)
  refine ⟨fun i d hd => ?_, fun i hi => ⟨_, q, by simpa using hi⟩⟩
  rw [List.getElem?_map] at hd
  cases e : ns[i]? with
  | none => rw [e] at hd; cases hd
  | some n =>
    rw [e] at hd; cases hd
    have hv : (ns.map V.int)[i]? = some (.int n) := by rw [List.getElem?_map, e]; rfl
    refine ⟨⟨_, _, q, hv⟩, fun x H' y => ?_⟩
    obtain ⟨rfl, y⟩ := y
    have := y _ q
    rw [hv] at this; cases this
    exact ⟨P1, rep_int, .inl ⟨rfl, rfl⟩⟩
theorem di_seq (hK : X.K = T.K) (h : DE T W X e .pure m) : DI T W X tg e (asSeq m) := pi_imp (pi_or (pi_list h) (pi_tup h)) fun σ H Q h => by
  obtain ⟨env, P, RR, h⟩ := h
  rw [hK]
  have hb := h.bind
  cases e1 : m env with
  | stk => rw [e1] at hb; exact hb.elim
  | exc c fs e2 =>
    refine .inl ⟨env, P, RR, ?_⟩
    rw [e1] at hb ⊢
    exact hb
  | ok d env1 =>
    cases d with
    | lst ds =>
      refine .inl ⟨env, P, RR, After.at hb fun d' env2 P1 H1 e2 R1 F1 h1 x kx nx => ?_⟩
      rw [e1] at e2; cases e2
      have kx : Rep T P1 (.lst ds) x := kx
      rw [Rep] at kx
      obtain ⟨a, vs, rfl, q1, q2⟩ := kx
      exact ⟨a, rfl, ⟨vs, .inl (Rd.sub R1.sub q1)⟩, h1.here R1 (Fr.refl _ _ _ _) _ (yl_list rfl q1 q2 trivial)⟩
    | scr ns =>
      refine .inl ⟨env, P, RR, After.at hb fun d' env2 P1 H1 e2 R1 F1 h1 x kx nx => ?_⟩
      rw [e1] at e2; cases e2
      have kx : Rep T P1 (.scr ns) x := kx
      rw [Rep] at kx
      obtain ⟨a, rfl, q1⟩ := kx
      exact ⟨a, rfl, ⟨_, sqL_sub R1.sub q1⟩, h1.here R1 (Fr.refl _ _ _ _) _ (yl_scr q1)⟩
    | tup ds =>
      refine .inr ⟨env, P, RR, After.at hb fun d' env2 P1 H1 e2 R1 F1 h1 x kx nx => ?_⟩
      rw [e1] at e2; cases e2
      have kx : Rep T P1 (.tup ds) x := kx
      rw [Rep] at kx
      obtain ⟨a, vs, rfl, q1, q2⟩ := kx
      exact ⟨a, rfl, ⟨vs, sqT_sub R1.sub q1⟩, h1.here R1 (Fr.refl _ _ _ _) _ (yl_tup rfl q1 q2)⟩
    | _ =>
      refine .inl ⟨env, P, RR, After.at hb fun d' env2 P1 H1 e2 R1 F1 h1 x kx nx => ?_⟩
      rw [e1] at e2; cases e2
      exact False.elim h1
theorem hu65 {k : Nat} {A : Around} (hr : Room k A) : A.units + 65 < cLine := by
  have := hr.un
  omega
end
end Ue
set_option linter.all false
set_option Elab.async false
set_option maxRecDepth 100000
set_option maxHeartbeats 4000000
namespace Ue
open PySem PySem.Spec L2
theorem allB_ok {l : List Bool} (h : allB l = true) (i : Nat) {b : Bool} (e : l[i]? = some b) : b = true := List.all_eq_true.mp h b (List.mem_of_getElem? e)
end Ue
namespace Ue
open PySem PySem.Spec PyProof.Rows L2
def sole (a : Addr) (u : HO) : Hp := fun b => if b = a then some u else none
theorem sole_at {a : Addr} {u : HO} : sole a u a = some u := if_pos rfl
theorem sole_some {a b : Addr} {u v : HO} (h : sole a u b = some v) : b = a ∧ v = u := by
  unfold sole at h
  by_cases e : b = a
  · rw [if_pos e] at h; cases h; exact ⟨e, rfl⟩
  · rw [if_neg e] at h; cases h
theorem script_heap {P : Program} {w : World} {K : PySem.W.Frag} {h : Heap} {a : Addr} {vs : List Value} {ns : List Int} (KX : K.In h) (ha : h.get? a = some { cls := .type "list", data := .seq vs.toArray }) (hi : IntsAre vs ns) (hl : ns.length ≤ sizeLine) :
    ∃ H : Hp, Only H ∧ SqL K H a (ns.map V.int) ∧ HOk P w H h ∧ ∀ b u, H b = some u → b = a ∧ K.lookup a = none := by
  have rv := vals_ints hi
  have len := hi.length
  cases hk : K.lookup a with
  | some o =>
    obtain rfl : o = _ := Option.some.inj ((KX a o hk).symm.trans ha)
    exact ⟨fun _ => none, fun _ => .inl rfl, .inr ⟨_, vs.toArray, _, hk, rfl, rfl, rfl, by rw [List.size_toArray, len]; exact hl, by simpa using rv⟩, fun b u (z : (none : Option HO) = some u) => (nomatch z), fun b u (z : (none : Option HO) = some u) => nomatch z⟩
  | none =>
    refine ⟨sole a (.frz { cls := .type "list", data := .seq vs.toArray } (.lst (ns.map V.int))), fun b => ?_, .inl (.inr ⟨_, sole_at⟩), fun b u z => ?_, fun b u z => ⟨(sole_some z).1, rfl⟩⟩
    · cases q : sole a (.frz { cls := .type "list", data := .seq vs.toArray } (.lst (ns.map V.int))) b with
      | none => exact .inl rfl
      | some u => obtain ⟨_, rfl⟩ := sole_some q; exact .inr ⟨_, _, rfl⟩
    · obtain ⟨rfl, rfl⟩ := sole_some z
      exact ⟨ha, by rw [List.length_map]; exact hl, vs, _, rv, ha⟩
end Ue
namespace Ue
open PySem PySem.Spec PyProof.Rows L2
end Ue
namespace Ue
open PySem PySem.Spec PyProof.Rows L2
end Ue
set_option linter.all false
set_option Elab.async false
set_option maxRecDepth 100000
set_option maxHeartbeats 4000000
namespace Ue
open PySem
section
variable {α β : Type} {a : α} {e env : Env} {c : Nat} {fs : List D} {d x y : D} {i j : Nat} {m ma mb mc : M} {t ta tb : MT} {b : Bool}
def SR.th (r : SR) (k : MS) : SR := match r with | .nx e => k e | r => r
@[simp] theorem th_nx {k : MS} : (SR.nx e).th k = k e := (rfl)
@[simp] theorem th_ret {k : MS} : (SR.ret d e).th k = .ret d e := (rfl)
@[simp] theorem th_exc {k : MS} : (SR.exc c fs e).th k = .exc c fs e := (rfl)
@[simp] theorem th_brk {k : MS} : (SR.brk e).th k = .brk e := (rfl)
@[simp] theorem th_cnt {k : MS} : (SR.cnt e).th k = .cnt e := (rfl)
@[simp] theorem seqM_s (s1 s2 : MS) : seqM s1 s2 env = (s1 env).th s2 := by unfold seqM SR.th; cases s1 env <;> rfl
@[simp] theorem bind_ok {f : α → Env → R β} : (R.ok a e).bind f = f a e := (rfl)
@[simp] theorem bind_exc {f : α → Env → R β} : (R.exc c fs e : R α).bind f = .exc c fs e := (rfl)
@[simp] theorem toS_ok {f : α → Env → SR} : (R.ok a e).toS f = f a e := (rfl)
@[simp] theorem toS_exc {f : α → Env → SR} : (R.exc c fs e : R α).toS f = .exc c fs e := (rfl)
@[simp] theorem liftO_s : liftO (some d) e = .ok d e := (rfl)
@[simp] theorem liftB_s : liftB (some b) e = .ok b e := (rfl)
@[simp] theorem op2M_s {g : D → D → Option D} : op2M g ma mb env = (ma env).bind fun x e1 => (mb e1).bind fun y e2 => liftO (g x y) e2 := (rfl)
@[simp] theorem op1M_s {g : D → Option D} : op1M g ma env = (ma env).bind fun x e1 => liftO (g x) e1 := (rfl)
@[simp] theorem cmpM_s {g : D → D → Option Bool} : cmpM g ma mb env = (ma env).bind fun x e1 => (mb e1).bind fun y e2 => liftB (g x y) e2 := (rfl)
@[simp] theorem bV_s : bV t env = (t env).bind fun b e => .ok (.bl b) e := (rfl)
@[simp] theorem cM_s : cM d env = .ok d env := (rfl)
@[simp] theorem varM_s : varM i env = match env[i]? with | some (some (.v d)) => .ok d env | _ => .stk := (rfl)
@[simp] theorem ovarM_s : ovarM i env = match env[i]? with | some (some (.own ds)) => .ok (.lst ds) env | _ => .stk := (rfl)
@[simp] theorem frzM_s : frzM i env = match env[i]? with | some (some (.own ds)) => .ok (.lst ds) (env.set i (some (.v (.lst ds)))) | _ => .stk := (rfl)
@[simp] theorem trM_s : trM m env = (m env).bind fun d e => liftB (truth d) e := (rfl)
@[simp] theorem andT_s : andT ta tb env = (ta env).bind fun x e => if x then tb e else .ok false e := (rfl)
@[simp] theorem orT_s : orT ta tb env = (ta env).bind fun x e => if x then .ok true e else tb e := (rfl)
@[simp] theorem notT_s : notT ta env = (ta env).bind fun x e => .ok (!x) e := (rfl)
@[simp] theorem ifM_s {p q : Env → R α} : ifM t p q env = (t env).bind fun x e => if x then p e else q e := (rfl)
@[simp] theorem andV_s : andV ma mb env = (ma env).bind fun d e => match d with | .bl true => mb e | .bl false => .ok (.bl false) e | _ => .stk := (rfl)
@[simp] theorem orV_s : orV ma mb env = (ma env).bind fun d e => match d with | .bl true => .ok (.bl true) e | .bl false => mb e | _ => .stk := (rfl)
@[simp] theorem notV_s : notV ma env = (ma env).bind fun d e => match d with | .bl b => .ok (.bl (!b)) e | _ => .stk := (rfl)
@[simp] theorem argsM_n : argsM [] env = .ok [] env := (rfl)
@[simp] theorem argsM_c {ms : List M} : argsM (m :: ms) env = (m env).bind fun d e1 => (argsM ms e1).bind fun ds e2 => .ok (d :: ds) e2 := (rfl)
@[simp] theorem callM_s {g : List D → Option D} {ms : List M} : callM g ms env = (argsM ms env).bind fun ds e => liftO (g ds) e := (rfl)
@[simp] theorem tupM_s {ms : List M} : tupM ms env = (argsM ms env).bind fun ds e => if ds.length ≤ sizeLine then .ok (.tup ds) e else .stk := (rfl)
@[simp] theorem lstM_s {ms : List M} : lstM ms env = (argsM ms env).bind fun ds e => if ds.length ≤ sizeLine then .ok (.lst ds) e else .stk := (rfl)
@[simp] theorem chainM_s {g g' : D → D → Option Bool} : chainM g g' ma mb mc env = (ma env).bind fun x e1 => (mb e1).bind fun y e2 => match g x y with
  | some true => (mc e2).bind fun z e3 => liftB (g' y z) e3
  | some false => .ok false e2
  | none => .stk := (rfl)
@[simp] theorem isiM_s {n : String} : isiM n ma env = (ma env).bind fun d e => match isiTy n d with | some b => .ok (.bl b) e | none => .stk := (rfl)
@[simp] theorem nilM_s : nilM env = .nx env := (rfl)
@[simp] theorem brkM_s : brkM env = .brk env := (rfl)
@[simp] theorem cntM_s : cntM env = .cnt env := (rfl)
@[simp] theorem retM_s : retM m env = (m env).toS fun d e => .ret d e := (rfl)
@[simp] theorem retNM_s : retNM env = .ret .non env := (rfl)
@[simp] theorem retOM_s : retOM i env = match env[i]? with | some (some (.own ds)) => .ret (.lst ds) (env.set i none) | _ => .stk := (rfl)
@[simp] theorem exprM_s : exprM m env = (m env).toS fun _ e => .nx e := (rfl)
@[simp] theorem setM_s : setM i m env = (m env).toS fun d e => .nx (e.set i (some (.v d))) := (rfl)
@[simp] theorem setOM_s : setOM i m env = (m env).toS fun d e => match d with | .lst ds => .nx (e.set i (some (.own ds))) | _ => .stk := (rfl)
@[simp] theorem iffM_s {p q : MS} : iffM t p q env = (t env).toS fun c e => if c then p e else q e := (rfl)
@[simp] theorem raiseM_s {n : Nat} {ms : List M} : raiseM n ms env = (argsM ms env).toS fun ds e => .exc n ds e := (rfl)
@[simp] theorem asL_s : asL m env = (m env).bind fun d e => match d with | .lst ds => .ok ds e | _ => .stk := (rfl)
@[simp] theorem asT_s : asT m env = (m env).bind fun d e => match d with | .tup ds => .ok ds e | _ => .stk := (rfl)
@[simp] theorem asSeq_s : asSeq m env = (m env).bind fun d e => match d with | .lst ds => .ok ds e | .tup ds => .ok ds e | .scr ns => .ok (ns.map D.int) e | _ => .stk := (rfl)
@[simp] theorem rng1M_s : rng1M m env = (m env).bind fun d e => match d with | .int j => if -(2 ^ 62) ≤ j ∧ j < 2 ^ 62 then .ok (rngL 0 j.toNat) e else .stk | _ => .stk := (rfl)
@[simp] theorem rng2M_s : rng2M ma mb env = (ma env).bind fun d e1 => (mb e1).bind fun d' e => match d, d' with | .int i, .int j => if -(2 ^ 62) ≤ i ∧ i < 2 ^ 62 ∧ -(2 ^ 62) ≤ j ∧ j < 2 ^ 62 then .ok (rngL i (j - i).toNat) e else .stk | _, _ => .stk := (rfl)
@[simp] theorem enumM_s : enumM m env = (m env).bind fun d e => match d with | .lst ds => .ok (enumL ds) e | _ => .stk := (rfl)
@[simp] theorem tgN_s : tgN i d env = some (env.set i (some (.v d))) := (rfl)
@[simp] theorem tgT_s {gs : List TGM} {ds : List D} : tgT gs (.tup ds) env = tgL gs ds env := (rfl)
@[simp] theorem tgL_n : tgL [] [] env = some env := (rfl)
@[simp] theorem tgL_c {g : TGM} {gs : List TGM} {ds : List D} : tgL (g :: gs) (d :: ds) env = (g d env).bind (tgL gs ds) := (rfl)
@[simp] theorem asgM_s {g : TGM} : asgM g m env = (m env).toS fun d e => match g d e with | some e' => .nx e' | none => .stk := (rfl)
@[simp] theorem forM_n {g : TGM} {s : MS} : forM g s [] env = .nx env := (rfl)
theorem forM_c {g : TGM} {s : MS} {ds : List D} : forM g s (d :: ds) env = match g d env with | some e => loopS (s e) (forM g s ds) | none => .stk := (rfl)
theorem whileM_s {n : Nat} {s : MS} : whileM t s (n + 1) env = (t env).toS fun c e => if c then loopS (s e) (whileM t s n) else .nx e := rfl
@[simp] theorem forS_s {mi : MI} {g : TGM} {s : MS} : forS mi g s env = (mi env).toS fun ds e => forM g s ds e := (rfl)
@[simp] theorem loopS_nx {k : MS} : loopS (.nx e) k = k e := (rfl)
@[simp] theorem loopS_cnt {k : MS} : loopS (.cnt e) k = k e := (rfl)
@[simp] theorem loopS_brk {k : MS} : loopS (.brk e) k = .nx e := (rfl)
@[simp] theorem loopS_ret {k : MS} : loopS (.ret d e) k = .ret d e := (rfl)
@[simp] theorem loopS_exc {k : MS} : loopS (.exc c fs e) k = .exc c fs e := (rfl)
@[simp] theorem optM_n : optM none env = .ok none env := (rfl)
@[simp] theorem optM_c : optM (some m) env = (m env).bind fun d e1 => match d with | .int i => .ok (some i) e1 | _ => .stk := (rfl)
@[simp] theorem slLM_s {lo hi : Option M} : slLM m lo hi env = (m env).bind fun d e => (optM lo e).bind fun l e => (optM hi e).bind fun u e => match d with | .lst ds => .ok (.lst (cutD ds l u)) e | .scr ns => .ok (.lst (cutD (ns.map D.int) l u)) e | _ => .stk := (rfl)
@[simp] theorem slTM_s {lo hi : Option M} : slTM m lo hi env = (m env).bind fun d e => (optM lo e).bind fun l e => (optM hi e).bind fun u e => match d with | .tup ds => .ok (.tup (cutD ds l u)) e | _ => .stk := (rfl)
@[simp] theorem mtM_s {g : List D → List D → Option (D × List D)} {ms : List M} : mtM i g ms env = match env[i]? with
  | some (some (.own _)) => (argsM ms env).bind fun es e => match e[i]? with
    | some (some (.own ds)) => (match g ds es with | some (d, ds') => .ok d (e.set i (some (.own ds'))) | none => .stk)
    | _ => .stk
  | _ => .stk := (rfl)
@[simp] theorem setIM_s : setIM i m ma env = (m env).toS fun d e => match e[i]? with
  | some (some (.own _)) => (ma e).toS fun n e => setI2 i d n e
  | _ => .stk := (rfl)
@[simp] theorem setI2_s {n : Int} : setI2 i d (.int n) env = match env[i]? with
  | some (some (.own ds)) => (match L2.ixN ds.length n with | some q => .nx (env.set i (some (.own (ds.set q d)))) | none => .stk)
  | _ => .stk := by unfold setI2; cases h : env[i]? with
  | none => rfl
  | some o => cases o with
    | none => rfl
    | some v => cases v <;> rfl
@[simp] theorem augM_s {g : D → D → Option D} : augM i g m env = match env[i]? with
  | some (some (.v d0)) => (m env).toS fun d e => (match g d0 d with | some r => .nx (e.set i (some (.v r))) | none => .stk)
  | _ => .stk := (rfl)
@[simp] theorem parM_s : parM i j ma mb env = (ma env).toS fun d1 e1 => (mb e1).toS fun d2 e2 => .nx ((e2.set i (some (.v d1))).set j (some (.v d2))) := (rfl)
@[simp] theorem compM_s {vs : List Nat} {mi : MI} {g : TGM} {tt : MT} {te : M} : compM vs mi g tt te env = (mi env).bind fun ds e => if ds.length ≤ sizeLine then (compL vs g tt te ds e).bind fun ys e' => .ok (.lst ys) e' else .stk := (rfl)
@[simp] theorem yesT_s : yesT env = .ok true env := (rfl)
variable {p q : Int}
@[simp] theorem i2_s {f : Int → Int → D} : i2 f (.int p) (.int q) = some (f p q) := (rfl)
@[simp] theorem i2c_s {g : Int → Int → Bool} {f : Int → Int → D} : i2c g f (.int p) (.int q) = if g p q then some (f p q) else none := (rfl)
@[simp] theorem c2_s {f : Int → Int → Bool} : c2 f (.int p) (.int q) = some (f p q) := (rfl)
@[simp] theorem u1_s {f : Int → D} : u1 f (.int p) = some (f p) := (rfl)
@[simp] theorem ii_s {f : Int → Int → Int} : ii f [.int p, .int q] = some (.int (f p q)) := (rfl)
@[simp] theorem eqS_ii : eqS (.int p) (.int q) = some (decide (p = q)) := (rfl)
@[simp] theorem eqS_bb {u v : Bool} : eqS (.bl u) (.bl v) = some (decide (u = v)) := (rfl)
@[simp] theorem eqS_ss {u v : Str} : eqS (.str u) (.str v) = some (decide (u = v)) := (rfl)
@[simp] theorem neS_s : neS x y = (eqS x y).map (!·) := (rfl)
@[simp] theorem isB_s {u v : Bool} : isB (.bl u) (.bl v) = some (decide (u = v)) := (rfl)
@[simp] theorem notB_s : notB x y = (isB x y).map (!·) := (rfl)
@[simp] theorem notN_s : notN x y = (isN x y).map (!·) := (rfl)
@[simp] theorem neD_s : neD x y = (eqD x y).map (!·) := (rfl)
@[simp] theorem notInD_s : notInD x y = (inD x y).map (!·) := (rfl)
@[simp] theorem absD_s : absD [.int p] = some (.int (if p < 0 then -p else p)) := (rfl)
@[simp] theorem intD_s : intD [.int p] = some (.int p) := (rfl)
@[simp] theorem lenD_l {ds : List D} : lenD [.lst ds] = some (.int ds.length) := (rfl)
@[simp] theorem lenD_t {ds : List D} : lenD [.tup ds] = some (.int ds.length) := (rfl)
@[simp] theorem lenD_s {ns : List Int} : lenD [.scr ns] = some (.int ns.length) := (rfl)
@[simp] theorem listD_l {ds : List D} : listD [.lst ds] = some (.lst ds) := (rfl)
@[simp] theorem listD_t {ds : List D} : listD [.tup ds] = some (.lst ds) := (rfl)
@[simp] theorem tupleD_l {ds : List D} : tupleD [.lst ds] = some (.tup ds) := (rfl)
@[simp] theorem tupleD_t {ds : List D} : tupleD [.tup ds] = some (.tup ds) := (rfl)
@[simp] theorem ixD_l {ds : List D} : ixD (.lst ds) (.int p) = L2.atI ds p := (rfl)
@[simp] theorem ixD_t {ds : List D} : ixD (.tup ds) (.int p) = L2.atI ds p := (rfl)
@[simp] theorem ixD_s {ns : List Int} : ixD (.scr ns) (.int p) = (L2.atI ns p).map D.int := (rfl)
@[simp] theorem truth_i : truth (.int p) = some (p != 0) := (rfl)
@[simp] theorem truth_b {u : Bool} : truth (.bl u) = some u := (rfl)
@[simp] theorem truth_n : truth .non = some false := (rfl)
@[simp] theorem runF_s {fr : Bool} {n : Nat} {pins : List Nat} {s : MS} {as : List EV} : runF fr n pins s as = endF fr pins as (s (as.map some ++ List.replicate (n - as.length) none)) := (rfl)
@[simp] theorem endF_ret {fr : Bool} {pins : List Nat} {as : List EV} : endF fr pins as (.ret d e) = match finA pins 0 as e with | some as' => if fr && mobIn as then .stk else .ok d as' | none => .stk := (rfl)
@[simp] theorem mobIn_n : mobIn [] = false := (rfl)
@[simp] theorem mobIn_v {as : List EV} : mobIn (.v d :: as) = mobIn as := (rfl)
@[simp] theorem mobIn_o {as : List EV} {ds : List D} : mobIn (.own ds :: as) = mobIn as := (rfl)
@[simp] theorem mobIn_w {as : List EV} {ds : List D} : mobIn (.new c ds :: as) = mobIn as := (rfl)
@[simp] theorem mobIn_x {as : List EV} {ds : List D} : mobIn (.ex c ds :: as) = mobIn as := (rfl)
@[simp] theorem mobIn_m {as : List EV} {ds : List FV} : mobIn (.mob c ds :: as) = true := (rfl)
@[simp] theorem mob_if {α : Type} {a b : α} {x : Bool} : (if (false && x) = true then a else b) = b := (rfl)
@[simp] theorem endF_nx {pins : List Nat} {as : List EV} : endF false pins as (.nx e) = match finA pins 0 as e with | some as' => .ok .non as' | none => .stk := (rfl)
@[simp] theorem endF_exc {fr : Bool} {pins : List Nat} {as : List EV} : endF fr pins as (.exc c fs e) = match finA pins 0 as e with | some as' => .exc c fs as' | none => .stk := (rfl)
@[simp] theorem finA_n {pins : List Nat} : finA pins i [] e = some [] := (rfl)
@[simp] theorem finA_v {pins : List Nat} {as : List EV} : finA pins i (.v d :: as) e = (finA pins (i + 1) as e).map (.v d :: ·) := (rfl)
@[simp] theorem finA_o {pins : List Nat} {as : List EV} {ds : List D} : finA pins i (.own ds :: as) e = if i ∈ pins then (match e[i]? with | some (some (.own ds)) => (finA pins (i + 1) as e).map (.own ds :: ·) | _ => none) else none := (rfl)
@[simp] theorem argG_n : argG [] env = .ok [] env := (rfl)
@[simp] theorem argG_p {as : List Ag} : argG (.p m :: as) env = (m env).bind fun d e1 => (argG as e1).bind fun ds e2 => .ok (.d d :: ds) e2 := (rfl)
@[simp] theorem argG_o {as : List Ag} : argG (.o i :: as) env = match env[i]? with
  | some (some (.own _)) => (argG as env).bind fun ds e2 => .ok (.s i :: ds) e2
  | some (some (.mob _ _)) => (argG as env).bind fun ds e2 => .ok (.s i :: ds) e2
  | _ => .stk := (rfl)
@[simp] theorem resA_n : resA [] e = some [] := (rfl)
@[simp] theorem resA_d {as : List AD} : resA (.d x :: as) e = (resA as e).map (.v x :: ·) := (rfl)
@[simp] theorem resA_s {as : List AD} : resA (.s i :: as) e = match e[i]? with
  | some (some (.own ds)) => (resA as e).map (.own ds :: ·)
  | some (some (.mob c fs)) => (resA as e).map (.mob c fs :: ·)
  | _ => none := (rfl)
@[simp] theorem fewO_n : fewO [] = true := (rfl)
@[simp] theorem fewO_d {as : List AD} : fewO (.d x :: as) = fewO as := (rfl)
@[simp] theorem fewO_s {as : List AD} : fewO (.s i :: as) = as.all fun a => match a with | .d _ => true | .s _ => false := (rfl)
@[simp] theorem ownIx_n : ownIx j [] = none := (rfl)
@[simp] theorem ownIx_d {as : List AD} : ownIx j (.d x :: as) = ownIx (j + 1) as := (rfl)
@[simp] theorem ownIx_s {as : List AD} : ownIx j (.s i :: as) = some (j, i) := (rfl)
@[simp] theorem putA_s {ss : List AD} {as : List EV} : putA ss as e = match ownIx 0 ss with
  | none => e
  | some (j, i) => match as[j]? with
    | some a => e.set i (unEx a)
    | none => e := (rfl)
@[simp] theorem unEx_o {ds : List D} : unEx (.own ds) = some (.own ds) := rfl
@[simp] theorem unEx_m {ds : List FV} : unEx (.mob c ds) = some (.mob c ds) := rfl
@[simp] theorem finA_m {pins : List Nat} {as : List EV} {ds : List FV} : finA pins i (.mob c ds :: as) e = if i ∈ pins then (match e[i]? with | some (some (.mob c ds)) => (finA pins (i + 1) as e).map (.mob c ds :: ·) | _ => none) else none := (rfl)
@[simp] theorem unEx_v : unEx (.v d) = some (.v d) := rfl
@[simp] theorem unEx_n {ds : List D} : unEx (.new c ds) = some (.new c ds) := rfl
@[simp] theorem go_ok {ss : List AD} {as : List EV} : (CRes.ok d as).go ss e = .ok d (putA ss as e) := (rfl)
@[simp] theorem go_exc {ss : List AD} {as : List EV} : (CRes.exc c fs as).go ss e = .exc c fs (putA ss as e) := (rfl)
@[simp] theorem fnM_s {F : FM} {ags : List Ag} {dfl : List D} : fnM F ags dfl env = (argG ags env).bind fun ss e => match resA ss e with
  | none => .stk
  | some as => if fewO ss then (F (as ++ dfl.map EV.v)).go ss e else .stk := rfl
def SR.ca (r : SR) (cg : Nat → Option Bool) (s : MS) : SR := match r with
  | .exc c fs e => (match cg c with | some true => (match s e with | .exc _ _ _ => .stk | r => r) | some false => .exc c fs e | none => .stk)
  | r => r
@[simp] theorem tryM_s {s1 s2 : MS} {cg : Nat → Option Bool} : tryM s1 cg s2 env = (s1 env).ca cg s2 := (rfl)
@[simp] theorem ca_nx {s2 : MS} {cg : Nat → Option Bool} : (SR.nx e).ca cg s2 = .nx e := (rfl)
@[simp] theorem ca_ret {s2 : MS} {cg : Nat → Option Bool} : (SR.ret d e).ca cg s2 = .ret d e := (rfl)
@[simp] theorem ca_exc {s2 : MS} {cg : Nat → Option Bool} : (SR.exc c fs e).ca cg s2 = (match cg c with | some true => (match s2 e with | .exc _ _ _ => .stk | r => r) | some false => .exc c fs e | none => .stk) := (rfl)
end
theorem small_ok {i : Int} (h : i.natAbs < 18446744073709551616) : small64 i = true := decide_eq_true h
theorem mulOk_r {i j : Int} (h : j.natAbs < 18446744073709551616) : mulOk i j = true := by unfold mulOk; rw [small_ok h, Bool.or_true, Bool.true_or]
theorem mulOk_l {i j : Int} (h : i.natAbs < 18446744073709551616) : mulOk i j = true := by unfold mulOk; rw [small_ok h, Bool.true_or, Bool.true_or]
theorem log2_lt_of {n k : Nat} (hk : 0 < k) (h : n < 2 ^ k) : n.log2 < k := by
  by_cases h0 : n = 0
  · subst h0; simpa using hk
  · exact (Nat.log2_lt h0).mpr h
def Mid (i : Int) : Prop := i.natAbs < 2 ^ 900
theorem divOk_mid {i j : Int} (h0 : j ≠ 0) (hj : Mid j) : divOk i j = true := by
  have h2 := log2_lt_of (by decide) hj
  unfold divOk Builtin.divisionGoesByPylong
  have h3 : (j == 0) = false := by simpa using h0
  simp only [h3, Bool.false_eq_true, if_false, h0, ne_eq, not_false_eq_true, decide_true, Bool.true_and]
  have h4 : decide (j.natAbs.log2 / 30 + 1 > 300) = false := decide_eq_false (by omega)
  simp [h4]
end Ue
set_option linter.all false
set_option Elab.async false
set_option maxRecDepth 100000
set_option maxHeartbeats 4000000
namespace Ue
open PySem
theorem toPys_ints : ∀ ns : List Int, toPys (ns.map D.int) = some (ns.map PyData.int)
  | [] => by simp [toPys]
  | n :: ns => by simp [toPys, toPy, toPys_ints ns]
theorem lay_ints : ∀ ns : List Int, PyData.canLayAll0 (ns.map PyData.int) = true
  | [] => by simp [PyData.canLayAll0]
  | n :: ns => by simp [PyData.canLayAll0, PyData.canLay0, lay_ints ns]
theorem depth_ints : ∀ ns : List Int, PyData.depthAll (ns.map PyData.int) = 0
  | [] => by simp [PyData.depthAll]
  | n :: ns => by simp [PyData.depthAll, PyData.depth, depth_ints ns]
theorem shaped_ints (ns : List Int) : SeqAt.shaped (.list (ns.map PyData.int)) = true := by
  unfold SeqAt.shaped; simp [PyData.canLay0, PyData.depth, lay_ints, depth_ints]
theorem shaped_int (n : Int) : SeqAt.shaped (.int n) = true := by
  unfold SeqAt.shaped; simp [PyData.canLay0, PyData.depth]
theorem any_ints : ∀ (a : List Int) (n : Int), (a.map PyData.int).any (fun z => PyData.eqv z (.int n)) = decide (n ∈ a)
  | [], n => by simp
  | x :: xs, n => by
    simp only [List.map_cons, List.any_cons, any_ints xs n, List.mem_cons, PyData.eqv, Bool.decide_or]
    by_cases h : n = x
    · subst h; simp
    · have : (x == n) = false := by simpa using fun z => h z.symm
      simp [h, this]
theorem dInts_map : ∀ ns : List Int, dInts (ns.map D.int) = some ns
  | [] => rfl
  | n :: ns => by show (dInts (ns.map D.int)).map (n :: ·) = _; rw [dInts_map ns]; rfl
theorem atI_nat {α : Type} {xs : List α} {i : Nat} {a : α} (h : xs[i]? = some a) : L2.atI xs (i : Int) = some a := by
  have hi : i < xs.length := by
    rcases Nat.lt_or_ge i xs.length with q | q
    · exact q
    · rw [List.getElem?_eq_none q] at h; cases h
  unfold L2.atI L2.ixN
  rw [if_pos (by omega), if_pos (by omega)]
  simpa using h
theorem forM_inv {g : TGM} {s : MS} (I : Env → Prop) : ∀ (ds : List D) (env : Env), (∀ d ∈ ds, ∀ e, I e → ∃ e1 e2, g d e = some e1 ∧ (s e1 = .nx e2 ∨ s e1 = .cnt e2) ∧ I e2) → I env → ∃ e2, forM g s ds env = .nx e2 ∧ I e2
  | [], env, _, h => ⟨env, rfl, h⟩
  | d :: ds, env, k, h => by
    obtain ⟨e1, e2, q1, q2, q3⟩ := k d (by simp) env h
    obtain ⟨e3, q4, q5⟩ := forM_inv I ds e2 (fun d hd => k d (by simp [hd])) q3
    refine ⟨e3, ?_, q5⟩
    rw [forM_c, q1]
    rcases q2 with q2 | q2 <;> simp [q2, q4]
theorem forM_idx {g : TGM} {s : MS} (I : Nat → Env → Prop) : ∀ (ds : List D) (k : Nat) (env : Env), (∀ i d, ds[i]? = some d → ∀ e, I (k + i) e → ∃ e1 e2, g d e = some e1 ∧ (s e1 = .nx e2 ∨ s e1 = .cnt e2) ∧ I (k + i + 1) e2) → I k env → ∃ e2, forM g s ds env = .nx e2 ∧ I (k + ds.length) e2
  | [], k, env, _, h => ⟨env, rfl, h⟩
  | d :: ds, k, env, q, h => by
    obtain ⟨e1, e2, q1, q2, q3⟩ := q 0 d rfl env h
    obtain ⟨e3, q4, q5⟩ := forM_idx I ds (k + 1) e2 (fun i d hd e he => by
      obtain ⟨e1, e2, z1, z2, z3⟩ := q (i + 1) d hd e (by rwa [show k + (i + 1) = k + 1 + i by omega])
      exact ⟨e1, e2, z1, z2, by rwa [show k + (i + 1) + 1 = k + 1 + i + 1 by omega] at z3⟩) q3
    refine ⟨e3, ?_, by rwa [show k + (d :: ds).length = k + 1 + ds.length by simp; omega]⟩
    rw [forM_c, q1]
    rcases q2 with q2 | q2 <;> simp [q2, q4]
theorem bitAnd_nat (a b : Nat) : Builtin.bitAnd (a : Int) (b : Int) = ((a &&& b : Nat) : Int) := by
  unfold Builtin.bitAnd; simp
theorem bitOr_nat (a b : Nat) : Builtin.bitOr (a : Int) (b : Int) = ((a ||| b : Nat) : Int) := by
  unfold Builtin.bitOr Builtin.bitAnd Builtin.bitNot
  have h1 : decide (0 ≤ -(a : Int) - 1) = false := decide_eq_false (by omega)
  have h2 : decide (0 ≤ -(b : Int) - 1) = false := decide_eq_false (by omega)
  have e1 : (-(-(a : Int) - 1) - 1).toNat = a := by omega
  have e2 : (-(-(b : Int) - 1) - 1).toNat = b := by omega
  simp only [h1, h2, e1, e2, Builtin.bitNot]
  omega
theorem bitAndNot_nat (a b : Nat) : Builtin.bitAnd (a : Int) (Builtin.bitNot (b : Int)) = (a : Int) - ((a &&& b : Nat) : Int) := by
  unfold Builtin.bitAnd Builtin.bitNot
  have h1 : decide (0 ≤ (a : Int)) = true := decide_eq_true (by omega)
  have h2 : decide (0 ≤ -(b : Int) - 1) = false := decide_eq_false (by omega)
  have e2 : (-(-(b : Int) - 1) - 1).toNat = b := by omega
  simp only [h1, h2, e2]
  rfl
theorem or_two_pow {x d : Nat} (h : x.testBit d = false) : x + 2 ^ d = x ||| 2 ^ d := by
  apply Nat.eq_of_testBit_eq
  intro i
  have hx : x = 2 ^ (d + 1) * (x / 2 ^ (d + 1)) + x % 2 ^ (d + 1) := (Nat.div_add_mod _ _).symm
  have hr : x % 2 ^ (d + 1) < 2 ^ d := by
    rw [Nat.testBit_eq_decide_div_mod_eq] at h
    have h := of_decide_eq_false h
    have : x % 2 ^ (d + 1) = x % 2 ^ d + 2 ^ d * (x / 2 ^ d % 2) := by rw [Nat.pow_succ, Nat.mod_mul]
    have h3 : x / 2 ^ d % 2 = 0 := by omega
    rw [this, h3, Nat.mul_zero, Nat.add_zero]
    exact Nat.mod_lt _ (Nat.two_pow_pos d)
  have h2 : x % 2 ^ (d + 1) + 2 ^ d < 2 ^ (d + 1) := by
    have hp : 2 ^ (d + 1) = 2 ^ d * 2 := Nat.pow_succ ..
    omega
  have e1 : x + 2 ^ d = 2 ^ (d + 1) * (x / 2 ^ (d + 1)) + (2 ^ d * 1 + x % 2 ^ (d + 1)) := by omega
  have h2' : 2 ^ d * 1 + x % 2 ^ (d + 1) < 2 ^ (d + 1) := by omega
  have hr' : x % 2 ^ (d + 1) < 2 ^ (d + 1) := by omega
  rw [e1, Nat.two_pow_add_eq_or_of_lt h2', Nat.two_pow_add_eq_or_of_lt hr]
  conv => rhs; rw [hx, Nat.two_pow_add_eq_or_of_lt hr']
  simp only [Nat.testBit_or, Nat.mul_one]
  cases (2 ^ (d + 1) * (x / 2 ^ (d + 1))).testBit i <;> cases (2 ^ d).testBit i <;> cases (x % 2 ^ (d + 1)).testBit i <;> rfl
def maskN (l : List Nat) : Nat := l.foldl (fun t d => t ||| 2 ^ d) 0
theorem sum_mask : ∀ (l : List Nat) (t : Nat), (∀ d ∈ l, t.testBit d = false) → l.Nodup → t + (l.map (2 ^ ·)).sum = l.foldl (fun t d => t ||| 2 ^ d) t
  | [], t, _, _ => by simp
  | d :: l, t, h, hn => by
    rw [List.nodup_cons] at hn
    rw [List.foldl_cons, List.map_cons, List.sum_cons, ← Nat.add_assoc, or_two_pow (h d (by simp)), sum_mask l _ (fun e he => ?_) hn.2]
    rw [Nat.testBit_or, h e (by simp [he]), Nat.testBit_two_pow]
    have : d ≠ e := fun z => hn.1 (z ▸ he)
    simp [this]
theorem kit_NoneType_int : L2.kitB "NoneType" "int" = some false := by decide +kernel
theorem kit_bool_int : L2.kitB "bool" "int" = some true := by decide +kernel
theorem kit_int_int : L2.kitB "int" "int" = some true := by decide +kernel
theorem kit_str_int : L2.kitB "str" "int" = some false := by decide +kernel
theorem kit_tuple_int : L2.kitB "tuple" "int" = some false := by decide +kernel
theorem kit_list_int : L2.kitB "list" "int" = some false := by decide +kernel
@[simp] theorem isi_NoneType_int  : isiTy "int" .non = some false := kit_NoneType_int
@[simp] theorem isi_bool_int {b : Bool} : isiTy "int" (.bl b) = some true := kit_bool_int
@[simp] theorem isi_int_int {i : Int} : isiTy "int" (.int i) = some true := kit_int_int
@[simp] theorem isi_str_int {s : Str} : isiTy "int" (.str s) = some false := kit_str_int
@[simp] theorem isi_tuple_int {ds : List D} : isiTy "int" (.tup ds) = some false := kit_tuple_int
@[simp] theorem isi_list_int {ds : List D} : isiTy "int" (.lst ds) = some false := kit_list_int
@[simp] theorem isi_list_scr_int {ns : List Int} : isiTy "int" (.scr ns) = some false := kit_list_int
theorem kit_NoneType_bool : L2.kitB "NoneType" "bool" = some false := by decide +kernel
theorem kit_bool_bool : L2.kitB "bool" "bool" = some true := by decide +kernel
theorem kit_int_bool : L2.kitB "int" "bool" = some false := by decide +kernel
theorem kit_str_bool : L2.kitB "str" "bool" = some false := by decide +kernel
theorem kit_tuple_bool : L2.kitB "tuple" "bool" = some false := by decide +kernel
theorem kit_list_bool : L2.kitB "list" "bool" = some false := by decide +kernel
@[simp] theorem isi_NoneType_bool  : isiTy "bool" .non = some false := kit_NoneType_bool
@[simp] theorem isi_bool_bool {b : Bool} : isiTy "bool" (.bl b) = some true := kit_bool_bool
@[simp] theorem isi_int_bool {i : Int} : isiTy "bool" (.int i) = some false := kit_int_bool
@[simp] theorem isi_str_bool {s : Str} : isiTy "bool" (.str s) = some false := kit_str_bool
@[simp] theorem isi_tuple_bool {ds : List D} : isiTy "bool" (.tup ds) = some false := kit_tuple_bool
@[simp] theorem isi_list_bool {ds : List D} : isiTy "bool" (.lst ds) = some false := kit_list_bool
@[simp] theorem isi_list_scr_bool {ns : List Int} : isiTy "bool" (.scr ns) = some false := kit_list_bool
theorem kit_NoneType_str : L2.kitB "NoneType" "str" = some false := by decide +kernel
theorem kit_bool_str : L2.kitB "bool" "str" = some false := by decide +kernel
theorem kit_int_str : L2.kitB "int" "str" = some false := by decide +kernel
theorem kit_str_str : L2.kitB "str" "str" = some true := by decide +kernel
theorem kit_tuple_str : L2.kitB "tuple" "str" = some false := by decide +kernel
theorem kit_list_str : L2.kitB "list" "str" = some false := by decide +kernel
@[simp] theorem isi_NoneType_str  : isiTy "str" .non = some false := kit_NoneType_str
@[simp] theorem isi_bool_str {b : Bool} : isiTy "str" (.bl b) = some false := kit_bool_str
@[simp] theorem isi_int_str {i : Int} : isiTy "str" (.int i) = some false := kit_int_str
@[simp] theorem isi_str_str {s : Str} : isiTy "str" (.str s) = some true := kit_str_str
@[simp] theorem isi_tuple_str {ds : List D} : isiTy "str" (.tup ds) = some false := kit_tuple_str
@[simp] theorem isi_list_str {ds : List D} : isiTy "str" (.lst ds) = some false := kit_list_str
@[simp] theorem isi_list_scr_str {ns : List Int} : isiTy "str" (.scr ns) = some false := kit_list_str
theorem kit_NoneType_tuple : L2.kitB "NoneType" "tuple" = some false := by decide +kernel
theorem kit_bool_tuple : L2.kitB "bool" "tuple" = some false := by decide +kernel
theorem kit_int_tuple : L2.kitB "int" "tuple" = some false := by decide +kernel
theorem kit_str_tuple : L2.kitB "str" "tuple" = some false := by decide +kernel
theorem kit_tuple_tuple : L2.kitB "tuple" "tuple" = some true := by decide +kernel
theorem kit_list_tuple : L2.kitB "list" "tuple" = some false := by decide +kernel
@[simp] theorem isi_NoneType_tuple  : isiTy "tuple" .non = some false := kit_NoneType_tuple
@[simp] theorem isi_bool_tuple {b : Bool} : isiTy "tuple" (.bl b) = some false := kit_bool_tuple
@[simp] theorem isi_int_tuple {i : Int} : isiTy "tuple" (.int i) = some false := kit_int_tuple
@[simp] theorem isi_str_tuple {s : Str} : isiTy "tuple" (.str s) = some false := kit_str_tuple
@[simp] theorem isi_tuple_tuple {ds : List D} : isiTy "tuple" (.tup ds) = some true := kit_tuple_tuple
@[simp] theorem isi_list_tuple {ds : List D} : isiTy "tuple" (.lst ds) = some false := kit_list_tuple
@[simp] theorem isi_list_scr_tuple {ns : List Int} : isiTy "tuple" (.scr ns) = some false := kit_list_tuple
theorem kit_NoneType_list : L2.kitB "NoneType" "list" = some false := by decide +kernel
theorem kit_bool_list : L2.kitB "bool" "list" = some false := by decide +kernel
theorem kit_int_list : L2.kitB "int" "list" = some false := by decide +kernel
theorem kit_str_list : L2.kitB "str" "list" = some false := by decide +kernel
theorem kit_tuple_list : L2.kitB "tuple" "list" = some false := by decide +kernel
theorem kit_list_list : L2.kitB "list" "list" = some true := by decide +kernel
@[simp] theorem isi_NoneType_list  : isiTy "list" .non = some false := kit_NoneType_list
@[simp] theorem isi_bool_list {b : Bool} : isiTy "list" (.bl b) = some false := kit_bool_list
@[simp] theorem isi_int_list {i : Int} : isiTy "list" (.int i) = some false := kit_int_list
@[simp] theorem isi_str_list {s : Str} : isiTy "list" (.str s) = some false := kit_str_list
@[simp] theorem isi_tuple_list {ds : List D} : isiTy "list" (.tup ds) = some false := kit_tuple_list
@[simp] theorem isi_list_list {ds : List D} : isiTy "list" (.lst ds) = some true := kit_list_list
@[simp] theorem isi_list_scr_list {ns : List Int} : isiTy "list" (.scr ns) = some true := kit_list_list
def R.turn (r : R Bool) (te : M) (k : Option D → Env → R (List D)) : R (List D) := match r with
  | .ok true e2 => (match te e2 with
    | .ok y e3 => k (some y) e3
    | _ => .stk)
  | .ok false e2 => k none e2
  | _ => .stk
def turnE (r : R D) (k : Option D → Env → R (List D)) : R (List D) := match r with
  | .ok y e3 => k (some y) e3
  | _ => .stk
section
variable {vs : List Nat} {g : TGM} {tt : MT} {te : M} {d : D} {ds : List D} {e e1 e2 e3 e' : Env} {k : Option D → Env → R (List D)}
@[simp] theorem compL_n : compL vs g tt te [] e = .ok [] e := rfl
@[simp] theorem turn_t : (R.ok true e2).turn te k = turnE (te e2) k := rfl
@[simp] theorem turn_f : (R.ok false e2).turn te k = k none e2 := rfl
@[simp] theorem turnE_ok {y : D} : turnE (.ok y e3) k = k (some y) e3 := rfl
def putO (o : Option D) (r : R (List D)) : R (List D) := match o with | none => r | some y => r.bind fun ys e' => .ok (y :: ys) e'
@[simp] theorem putO_n {r : R (List D)} : putO none r = r := rfl
@[simp] theorem putO_s {y : D} {r : R (List D)} : putO (some y) r = r.bind fun ys e' => .ok (y :: ys) e' := rfl
theorem compL_c : compL vs g tt te (d :: ds) e = if vsOk e vs then (match g d (wipeE e vs) with | none => .stk | some e1 => (tt e1).turn te fun o e2 => putO o (compL vs g tt te ds (restE e e2 vs))) else .stk := by
  show (if vsOk e vs then _ else _) = _
  by_cases h : vsOk e vs = true
  · rw [if_pos h, if_pos h]
    cases g d (wipeE e vs) with
    | none => rfl
    | some e1 =>
      simp only
      cases tt e1 with
      | ok b e2 =>
        cases b with
        | true => cases h2 : te e2 <;> simp [turnE, h2]
        | false => rfl
      | exc _ _ _ => rfl
      | stk => rfl
  · rw [if_neg h, if_neg h]
@[simp] theorem wipe_n : wipeE e [] = e := rfl
@[simp] theorem wipe_c {i : Nat} : wipeE e (i :: vs) = (wipeE e vs).set i none := rfl
@[simp] theorem vsOk_n : vsOk e [] = true := rfl
@[simp] theorem vsOk_c {i : Nat} : vsOk e (i :: vs) = ((match e[i]? with | some (some x) => !x.isOwn | _ => true) && vsOk e vs) := rfl
end
theorem z_le {n : Nat} (h : n ≤ 1000) : n ≤ sizeLine := Nat.le_trans h (by rw [show sizeLine = _ from sizeLine_eq]; decide)
end Ue
set_option linter.all false
set_option Elab.async false
set_option maxRecDepth 100000
set_option maxHeartbeats 4000000
namespace Ue
open PySem PySem.Spec L2
section
variable {X : Cx} {C : Addr} {k : Nat} {f : Addr} {fd : FuncData} {ps : List Str} {sp : Sp} {dvs : List V} {ds : List Value} {E : L2.St → XK} {x m : Str} {p pos apos : Pos} {e o : Expr} {es : List Expr} {ta : TE} {t : TA} {CX : CXT}
end
end Ue
namespace Ue
open PySem PySem.Spec L2
def callS (F : FM) (dfl : List D) (ss : List AD) (e : Env) : R D := match resA ss e with
  | none => .stk
  | some as => if fewO ss then (F (as ++ dfl.map EV.v)).go ss e else .stk
section
variable {T : Tab} {W : WX} {kr : Kd} {env : Env} {σ : L2.St} {P H H0 : Hp} {X : Cx} {F : FM} {n : Nat} {dfl : List D} {dvs : List V} {xs : List V} {ss : List AD} {Q : VK}
def methM (c : Nat) (F : FM) (mo : M) (ags : List Ag) (dfl : List D) : M := fun env => (mo env).bind fun d e1 => match d with
  | .obj c' fs => if c' = c then (argG ags e1).bind fun ss e => callS F dfl (.d (.obj c' fs) :: ss) e else .stk
  | _ => .stk
end
end Ue
namespace Ue
open PySem PySem.Spec L2
def makeS (c nf : Nat) (F : FM) (dfl : List D) (ss : List AD) (e : Env) : R D := match resA ss e with
  | none => .stk
  | some as => if fewO ss then (match F (.new c [] :: (as ++ dfl.map EV.v)) with
    | .ok .non (.new c' fs :: as') => if c' = c ∧ fs.length = nf then .ok (.obj c fs) (putA ss as' e) else .stk
    | .exc k fs (.new _ _ :: as') => .exc k fs (putA ss as' e)
    | _ => .stk) else .stk
def mkM (c nf : Nat) (F : FM) (ags : List Ag) (dfl : List D) : M := fun env => (argG ags env).bind fun ss e => makeS c nf F dfl ss e
section
variable {T : Tab} {as as' : List EV} {vs : List V} {P H P' H' P2 : Hp} {x dx : Addr} {c c' : Nat} {fs : List D}
theorem own_cons {f : EV} {v : V} {J : Hp} {b : Addr} (h : Own ((f :: as).map some) ((v :: vs).map some) J b) : (f.isOwn = true ∧ Foot f v J b) ∨ Own (as.map some) (vs.map some) J b := by
  obtain ⟨i, e, x, h1, h2, h3, h4⟩ := h
  cases i with
  | zero => simp at h1 h3; subst h1; subst h3; exact .inl ⟨h2, h4⟩
  | succ i => exact .inr ⟨i, e, x, by simpa using h1, h2, by simpa using h3, h4⟩
theorem own_tail {f : EV} {v : V} {J : Hp} {b : Addr} (h : Own (as.map some) (vs.map some) J b) : Own ((f :: as).map some) ((v :: vs).map some) J b := by
  obtain ⟨i, e, x, h1, h2, h3, h4⟩ := h
  exact ⟨i + 1, e, x, by simpa using h1, h2, by simpa using h3, h4⟩
end
end Ue
namespace Ue
open PySem PySem.Spec L2
section
variable {T : Tab} {W : WX} {kr : Kd} {env : Env} {σ : L2.St} {P H H0 : Hp} {X : Cx} {F : FM} {n nf c : Nat} {dfl : List D} {dvs : List V} {xs : List V} {ss : List AD} {Q : VK}
variable {k : Nat} {f : Addr} {fd : FuncData} {ps : List Str} {ds : List Value} {x m : Str} {p pos apos : Pos} {e o : Expr} {es : List Expr} {mo : M} {ags : List Ag}
end
end Ue
set_option linter.all false
set_option Elab.async false
set_option maxRecDepth 100000
set_option maxHeartbeats 4000000
namespace Ue
open PySem PySem.Spec L2
section
variable {T : Tab} {W : WX} {kr : Kd} {pins : List Nat} {env env' : Env} {σ σ' : L2.St} {P H P' H' : Hp} {X : Cx} {pos pos' : Pos} {o e : Expr} {m : M}
def attrM (c j : Nat) (m : M) : M := fun env => (m env).bind fun d e => match d with
  | .obj c' fs => if c' = c then (match fs[j]? with | some x => .ok x e | none => .stk) else .stk
  | _ => .stk
def natM (c i j : Nat) : M := fun env => match env[i]? with
  | some (some (.new c' fs)) => if c' = c then (match fs[j]? with | some x => .ok x env | none => .stk) else .stk
  | _ => .stk
def stfM (c i j : Nat) (m : M) : MS := fun env => (m env).toS fun d e => match e[i]? with
  | some (some (.new c' fs)) => if c' = c ∧ fs.length = j then .nx (e.set i (some (.new c' (fs ++ [d])))) else .stk
  | _ => .stk
end
end Ue
set_option linter.all false
set_option Elab.async false
set_option maxRecDepth 100000
set_option maxHeartbeats 4000000
namespace Ue
open PySem PySem.Spec L2
def noEx (e : Env) : Bool := e.all fun o => match o with | some (.ex _ _) => false | _ => true
def dropE (i : Nat) (r : SR) : SR := match r with
  | .nx e => .nx (e.set i none)
  | .brk e => .brk (e.set i none)
  | .cnt e => .cnt (e.set i none)
  | .ret d e => .ret d (e.set i none)
  | _ => .stk
def tryAsM (body : MS) (caught : Nat → Option Bool) (i : Nat) (suite : MS) : MS := fun env => match body env with
  | .exc c fs e => (match caught c with | some true => if noEx e ∧ i < e.length then dropE i (suite (e.set i (some (.ex c fs)))) else .stk | some false => .exc c fs e | none => .stk)
  | r => r
section
variable {T T' : Tab} {W : WX} {kr : Kd} {pins : List Nat} {env env' : Env} {σ σ' : L2.St} {P H P' H' : Hp} {X : Cx} {pos : Pos} {i : Nat}
theorem Rel.drop (RR : Rel T env σ P H) (hl : σ'.length = σ.length) (hs : ∀ j, j ≠ i → σ'[j]? = σ[j]?) : Rel T (env.set i none) σ' P H ∧ Fr env σ P H (env.set i none) σ' P H := by
  obtain ⟨R2, w1, _⟩ := RR.slot (i := i) (o := none) (σ' := σ') (P' := P) (H' := H) hl hs (PSub.refl _) RR.sub RR.tabs (fun b u q1 q2 => ⟨q1, (RR.ownAt q2.own).choose_spec.2⟩) (fun g hg _ => nomatch hg)
  refine ⟨R2, fun b o h _ _ => h, fun b hb n z => ?_, PSub.refl _, fun b h => .inl h, fun b h => h⟩
  rcases w1 b z with q | ⟨g, y, q, _⟩
  · exact n q.own
  · cases q
theorem ExRep.toB {c : Nat} {fs : List D} {cls : Value} {dd : Option Addr} (h : ExRep T P c fs cls dd) : ExRep T.nb P c fs cls dd := by
  obtain ⟨q1, q2⟩ := h
  refine ⟨q1, ?_⟩
  rcases q2 with q2 | ⟨dx, xfs, vs, w1, w2, w3, w4⟩
  · exact .inl q2
  · exact .inr ⟨dx, xfs, vs, w1, w2, w3, (reps_nb _ _).mpr w4⟩
def exfM (c i j : Nat) : M := fun env => match env[i]? with
  | some (some (.ex c' fs)) => if c' = c then (match fs[j]? with | some x => .ok x env | none => .stk) else .stk
  | _ => .stk
end
end Ue
set_option linter.all false
set_option Elab.async false
set_option maxRecDepth 100000
set_option maxHeartbeats 4000000
namespace Ue
open PySem PySem.Spec L2
section
variable {X : Cx} {C : Addr} {k n : Nat} {f : Addr} {fd : FuncData} {ps ks : List Str} {sp : Sp} {E : L2.St → XK} {x : Str} {p pos : Pos} {e : Expr} {es : List Expr} {kws : List Keyword} {t tk : TA} {CX : CXT} {g : List Value → List Value → List Value} {gV : List V → List V → List V}
end
section
variable {T : Tab} {W : WX} {env : Env} {σ : L2.St} {P H H0 : Hp} {X : Cx} {e : Expr} {kws : List Keyword} {m : M} {ags kgs : List Ag} {nm : Option Str} {kpos : Pos}
end
def mkKM (c nf : Nat) (F : FM) (ags kgs : List Ag) (dfl : List D) : M := fun env => (argG ags env).bind fun ss e => (argG kgs e).bind fun zs e2 => makeS c nf F dfl (ss ++ zs) e2
theorem SReps.append {T : Tab} {σ : L2.St} {P : Hp} : ∀ {as bs : List AD} {vs ws : List V}, SReps T σ P as vs → SReps T σ P bs ws → SReps T σ P (as ++ bs) (vs ++ ws)
  | _, _, _, _, .nil, k => k
  | _, _, _, _, .d h t, k => .d h (t.append k)
  | _, _, _, _, .s h t, k => .s h (t.append k)
section
variable {T : Tab} {W : WX} {env : Env} {σ : L2.St} {P H : Hp} {X : Cx} {F : FM} {n nf c : Nat} {dfl : List D} {dvs : List V} {Q : VK} {ags kgs : List Ag}
end
section
variable {T : Tab} {W : WX} {X : Cx} {F : FM} {k n nf c : Nat} {dfl : List D} {dvs : List V} {ags kgs : List Ag} {f : Addr} {fd : FuncData} {ps ks : List Str} {x : Str} {p pos : Pos} {e : Expr} {es : List Expr} {kws : List Keyword} {g : List Value → List Value → List Value}
end
end Ue
set_option linter.all false
set_option Elab.async false
set_option maxRecDepth 100000
set_option maxHeartbeats 4000000
namespace Ue
open PySem PySem.Spec L2
def dfunB (K : PySem.W.Frag) (d : He.DefD) : Obj → Bool
  | ⟨_, _, .func z, _⟩ => z.closure.isEmpty && (PySem.W.codeIn K z.code d.qual && (He.dflB K z.defaults (d.dvs K) && He.kwdB K z.kwdefaults (d.kws K)))
  | _ => false
def DefG.okB (K : PySem.W.Frag) (g : DefG) : Bool := PySem.W.keepIn K (.ref (g.ad K)) && (K.lookup (g.ad K)).any (dfunB K g.d)
theorem DefG.funD {K : PySem.W.Frag} {g : DefG} (e : seenAt K (g.ad K) = g.d.val) (c : g.okB K = true) : ∃ fd, FunD K g.d.name g.d.qual g.d.params g.d.body g.d.scope (g.d.dvs K) (g.d.kws K) (g.ad K) fd := by
  obtain ⟨kp, c2⟩ := He.ba c
  unfold seenAt at e
  cases q : K.lookup (g.ad K) with
  | none => rw [q] at c2; cases c2
  | some o =>
    obtain ⟨oc, od, dt, osl⟩ := o
    rw [q] at c2 e
    cases dt with
    | func z =>
      obtain ⟨a1, a2, a3, a4, a5, a6, a7, dV, kV, doc, pm, an, cdv, ct, a8⟩ := z
      have e2 : (some (a1, a2, a3, a4, a5, a6, a7.filter fun p => !(p.1 == ("__class__" : Str)), a8) : FnA) = some (g.d.name, g.d.qual, g.d.params, .stmts g.d.body, g.d.scope, mainGlobals, [], builtinsNs) := e
      have e3 := Option.some.inj e2
      simp only [Prod.mk.injEq] at e3
      obtain ⟨rfl, rfl, rfl, rfl, rfl, rfl, _, rfl⟩ := e3
      obtain ⟨k0, c3⟩ := He.ba (show (a7.isEmpty && (PySem.W.codeIn K cdv g.d.qual && (He.dflB K dV (g.d.dvs K) && He.kwdB K kV (g.d.kws K)))) = true from c2)
      obtain rfl := List.isEmpty_iff.mp k0
      obtain ⟨k1, k2⟩ := He.ba c3
      obtain ⟨k3, k4⟩ := He.ba k2
      exact ⟨_, ⟨oc, od, dV, kV, doc, pm, an, cdv, ct, osl, rfl, q, k1, He.dflB_ok k3, He.kwdB_ok k4⟩, kp⟩
    | _ => cases c2
structure InsF (K : PySem.W.Frag) (C : Addr) : Prop where
  cl : Cls K C
  a : PySem.W.findIn K (.ref C) "__class__" = some (some (.builtin "object.__class__"))
  n : PySem.W.specialIn K (.builtin "object.__class__") "__get__" = some (some (.builtin "getset_descriptor.__get__"))
  t : PySem.W.takesIn K (.builtin "object.__class__") = some true
  m : PySem.W.mroIn K C (.type "object") = some true
theorem insB_ok {K : PySem.W.Frag} {C : Addr} (cl : Cls K C) (h : insB K C = true) : InsF K C := by
  obtain ⟨h1, h⟩ := He.ba h
  obtain ⟨h2, h⟩ := He.ba h
  obtain ⟨h3, h4⟩ := He.ba h
  exact ⟨cl, of_decide_eq_true h1, of_decide_eq_true h2, of_decide_eq_true h3, of_decide_eq_true h4⟩
def isC (tys : List (String × Bool)) (cls : List (Nat × Bool)) : D → Option Bool
  | .obj c _ => cls.lookup c
  | d => (tyN d).bind fun n => tys.lookup n
structure IsTab (K : PySem.W.Frag) (cA : Nat → Addr) (ans : Value → Option Bool) (tys : List (String × Bool)) (cls : List (Nat × Bool)) : Prop where
  t : ∀ n b, tys.lookup n = some b → ans (.type n) = some b
  c : ∀ n b, cls.lookup n = some b → ans (.ref (cA n)) = some b ∧ insB K (cA n) = true
theorem lookup_memG {α β : Type} [BEq α] [LawfulBEq α] {a : α} {b : β} : ∀ {l : List (α × β)}, l.lookup a = some b → (a, b) ∈ l
  | [], h => by cases h
  | (x, y) :: r, h => by
    rw [List.lookup_cons] at h
    cases q : (a == x) with
    | true => rw [q] at h; cases h; rw [beq_iff_eq.mp q]; exact List.mem_cons_self
    | false => rw [q] at h; exact List.mem_cons_of_mem _ (lookup_memG h)
theorem isTab_ok {K : PySem.W.Frag} {cA : Nat → Addr} {ans : Value → Option Bool} {tys : List (String × Bool)} {cls : List (Nat × Bool)} (h : isTabB K cA ans tys cls = true) : IsTab K cA ans tys cls := by
  obtain ⟨h1, h2⟩ := He.ba h
  refine ⟨fun n b e => of_decide_eq_true (List.all_eq_true.mp h1 _ (lookup_memG e)), fun n b e => ?_⟩
  obtain ⟨q1, q2⟩ := He.ba (List.all_eq_true.mp h2 _ (lookup_memG e))
  exact ⟨of_decide_eq_true q1, q2⟩
theorem SaysV.def_ {fa : List He.Fa} {fn : List He.DefD} {gs : List DefG} {ex : PySem.W.Frag → Bool} {K : PySem.W.Frag} (c : SaysV fa fn gs ex K) (i : Nat) {g : DefG} (h : gs[i]? = some g) (hk : g.okB K = true) :
    ∃ fd, FunD K g.d.name g.d.qual g.d.params g.d.body g.d.scope (g.d.dvs K) (g.d.kws K) (g.ad K) fd := by
  refine DefG.funD ?_ hk
  have e := congrArg (fun l : List FnA => l[i]?) c.g
  simp only [List.getElem?_map, h, Option.map_some] at e
  exact Option.some.inj e
end Ue
set_option linter.all false
set_option Elab.async false
set_option maxRecDepth 100000
set_option maxHeartbeats 4000000
namespace Ue
open PySem PySem.Spec L2
section
variable {X : Cx} {Z : CXT} {k n : Nat} {C g f : Addr} {fd : FuncData} {ps ks : List Str} {sp : Sp} {dvs : List V} {ds : List Value} {E : L2.St → XK} {x m : Str} {xp pos apos : Pos} {e : Expr} {es : List Expr} {kws : List Keyword} {t tk : TA} {gg : List Value → List Value → List Value} {gV : List V → List V → List V}
end
end Ue
set_option linter.all false
set_option Elab.async false
set_option maxRecDepth 100000
set_option maxHeartbeats 4000000
namespace Ue
open PySem PySem.Spec PyProof.Rows L2
def rNotInA (K : PySem.W.Frag) : R2 := fun x y H Q => ∃ d ds, Dp K H x d ∧ (Dp K H y (.list ds) ∨ Dp K H y (.tuple ds)) ∧ SeqAt.shaped d = true ∧ SeqAt.shaped (.list ds) = true ∧ Q (.bl (!ds.any fun z => PyData.eqv z d)) H
theorem op_notInA {X : Cx} (hu : X.A.units + 65 < cLine) : OpR X (compareOp .NotIn) (rNotInA X.K) := by
  intro pins s σ H x y v u Q I rx ry h
  obtain ⟨d, ds, hd, he, sd, se, q⟩ := h
  obtain ⟨as, r1⟩ := Dp.reads I d x v hd rx
  rcases he with he | he
  · obtain ⟨bs, r2⟩ := Dp.reads I (.list ds) y u he ry
    exact SeqAt.notIn_list_reads r2 r1 (SeqAt.canLay_of_shaped se) (SeqAt.canLay_of_shaped sd) (room_in_shaped sd hu) ⟨.bl _, H, I, rfl, q⟩
  · obtain ⟨bs, r2⟩ := Dp.reads I (.tuple ds) y u he ry
    exact SeqAt.notIn_tuple_reads r2 r1 (SeqAt.canLay_of_shaped se) (SeqAt.canLay_of_shaped sd) (room_in_shaped sd hu) ⟨.bl _, H, I, rfl, q⟩
def inA (a b : D) : Option Bool := match toPy a, b with
  | some p, .lst es => (toPys es).bind fun qs => if SeqAt.shaped p = true ∧ SeqAt.shaped (.list qs) = true then some (qs.any fun z => PyData.eqv z p) else none
  | some p, .tup es => (toPys es).bind fun qs => if SeqAt.shaped p = true ∧ SeqAt.shaped (.list qs) = true then some (qs.any fun z => PyData.eqv z p) else none
  | _, _ => none
def notInA (a b : D) : Option Bool := (inA a b).map (!·)
theorem inA_some {a b : D} {t : Bool} (h : inA a b = some t) : ∃ p es qs, toPy a = some p ∧ ((b = .lst es ∧ toPy b = some (.list qs)) ∨ (b = .tup es ∧ toPy b = some (.tuple qs))) ∧ SeqAt.shaped p = true ∧ SeqAt.shaped (.list qs) = true ∧ t = qs.any fun z => PyData.eqv z p := by
  unfold inA at h
  cases ea : toPy a with
  | none => rw [ea] at h; cases h
  | some p =>
    rw [ea] at h
    have key : ∀ (es : List D), ((toPys es).bind fun qs => if SeqAt.shaped p = true ∧ SeqAt.shaped (.list qs) = true then some (qs.any fun z => PyData.eqv z p) else none) = some t → ∃ qs, toPys es = some qs ∧ SeqAt.shaped p = true ∧ SeqAt.shaped (.list qs) = true ∧ t = qs.any fun z => PyData.eqv z p := fun es h => by
      cases eq : toPys es with
      | none => rw [eq] at h; cases h
      | some qs =>
        rw [eq] at h
        have h : (if SeqAt.shaped p = true ∧ SeqAt.shaped (.list qs) = true then some (qs.any fun z => PyData.eqv z p) else none) = some t := h
        by_cases c : SeqAt.shaped p = true ∧ SeqAt.shaped (.list qs) = true
        · rw [if_pos c] at h; cases h; exact ⟨qs, rfl, c.1, c.2, rfl⟩
        · rw [if_neg c] at h; cases h
    cases b with
    | lst es => obtain ⟨qs, h1, h2, h3, h4⟩ := key es h; exact ⟨p, es, qs, rfl, .inl ⟨rfl, by rw [toPy, h1]; rfl⟩, h2, h3, h4⟩
    | tup es => obtain ⟨qs, h1, h2, h3, h4⟩ := key es h; exact ⟨p, es, qs, rfl, .inr ⟨rfl, by rw [toPy, h1]; rfl⟩, h2, h3, h4⟩
    | _ => cases h
theorem cd_notInA {T : Tab} : CmpD T (rNotInA T.K) notInA := fun P H dx dy x y b Q R1 hx hy e q => by
  unfold notInA at e
  cases c : inA dx dy with
  | none => rw [c] at e; cases e
  | some t =>
    rw [c] at e; cases e
    obtain ⟨p, es, qs, h1, h2, h3, h4, rfl⟩ := inA_some c
    refine ⟨p, qs, hx.dp R1 h1, ?_, h3, h4, q⟩
    rcases h2 with ⟨_, h2⟩ | ⟨_, h2⟩
    · exact .inl (hy.dp R1 h2)
    · exact .inr (hy.dp R1 h2)
end Ue
namespace Ue
open PySem PySem.Spec L2
def putK (o : Bool) (i : Nat) (d : D) (e : Env) : Option Env := if o then (match d with | .lst ds => some (e.set i (some (.own ds))) | _ => none) else some (e.set i (some (.v d)))
section
variable {T : Tab} {W : WX} {kr : Kd} {pins : List Nat} {env env' : Env} {σ σ' : L2.St} {P H P' H' : Hp} {X : Cx} {pos : Pos} {a b c : Expr} {ma mb mc : M} {o o1 o2 o3 : Bool} {i j l : Nat} {d : D} {x : V}
theorem Rel.putK (RR : Rel T env σ P H) (k : KRep T (kdOf o) env σ P H d x) (e : putK o i d env = some env') : Rel T env' (σ.set i (some x)) P H ∧ ∀ b, Own env' (σ.set i (some x)) H b → Own env σ H b ∨ (o = true ∧ x = .ref b) := by
  cases o with
  | false =>
    cases e
    obtain ⟨R2, F2⟩ := RR.setV (i := i) (show Rep T P d x from k)
    refine ⟨R2, fun b z => .inl ?_⟩
    obtain ⟨o, ho, _⟩ := R2.ownAt z
    exact Classical.byContradiction fun n => F2.own b (by rw [ho]; exact fun z => nomatch z) n z
  | true =>
    obtain ⟨p, vs, ds, rfl, h1, h2, h3, h4, rfl⟩ := k
    cases e
    obtain ⟨R2, w⟩ := RR.setO' (i := i) h1 h2 h3 h4
    exact ⟨R2, fun b z => (w b z).elim (fun z => .inr ⟨rfl, by rw [z]⟩) .inl⟩
theorem KRep.put {o' : Bool} {d' : D} {y : V} (k : KRep T (kdOf o') env σ P H d' y) (h : ∀ b, Own env' σ' H b → Own env σ H b ∨ (o = true ∧ x = .ref b)) (n : o = true → o' = true → x ≠ y) : KRep T (kdOf o') env' σ' P H d' y := by
  cases o' with
  | false => exact k
  | true =>
    obtain ⟨p, vs, ds, rfl, h1, h2, h3, h4, rfl⟩ := k
    refine ⟨p, vs, ds, rfl, h1, h2, fun z => ?_, h4, rfl⟩
    rcases h p z with z | ⟨ho, e⟩
    · exact h3 z
    · exact n ho rfl e
theorem kdOf_not {o : Bool} : ∀ i, kdOf o ≠ .own i := fun i h => by cases o <;> cases h
def parKM (o1 o2 : Bool) (i j : Nat) (ma mb : M) : MS := fun env => (ma env).toS fun d1 e1 => (mb e1).toS fun d2 e2 => match putK o1 i d1 e2 with
  | some e3 => (match putK o2 j d2 e3 with | some e4 => .nx e4 | none => .stk)
  | none => .stk
theorem fresh_ne {k1 : Bool} {y : V} (hx : KRep T (kdOf o) env σ P H d x) (ny : NewV (kdOf k1) H y) (ho : o = true) (hk : k1 = true) : x ≠ y := by
  subst ho hk
  obtain ⟨p, vs, ds, rfl, h1, _⟩ := hx
  obtain ⟨q, rfl, hq⟩ := ny
  intro z; cases z
  rw [h1] at hq; cases hq
theorem ds_parK {x y : Str} {px py pt : Pos} {kt k2 : Nat} {pt2 : Pos} (hc : X.calm = true) (hN : X.N.Nodup) (hi : X.N[i]? = some x) (hj : X.N[j]? = some y) (hij : i ≠ j)
    (hx : X.env.scope.names.lookup x = some .local) (hy : X.env.scope.names.lookup y = some .local) (ha : DE T W X a (kdOf o1) ma) (hb : DE T W X b (kdOf o2) mb) (hpi : i ∉ pins := by decide) (hpj : j ∉ pins := by decide)
    (hw : swappedStores [.Tuple [.Name x px, .Name y py] kt pt] (.Tuple [a, b] k2 pt2) X.env = pure (some [x, y]) := by rfl)
    (hs : swapsWithSole [.Tuple [.Name x px, .Name y py] kt pt] (.Tuple [a, b] k2 pt2) pos.line X.env = pure false := by rfl)
    (h1 : starEach [a, b] X.env = (false, eval a X.env) :: starEach [b] X.env := by rfl) (h2 : starEach [b] X.env = (false, eval b X.env) :: starEach [] X.env := by rfl) :
    DS T W kr pins X (.Assign [.Tuple [.Name x px, .Name y py] kt pt] (.Tuple [a, b] k2 pt2) pos) (parKM o1 o2 i j ma mb) := by
  refine ps_imp (ps_par hc hN hi hj hij hx hy (pa_cons ha (pa_cons hb pa_nil h2) h1) hw hs) fun D σ H h => ?_
  obtain ⟨env, P, RR, h⟩ := h
  refine ⟨env, P, RR, ?_⟩
  unfold parKM at h
  cases e1 : ma env with
  | stk => rw [e1] at h; exact h
  | exc c fs env1 => rw [e1] at h; exact fun P1 H1 cls dd R1 F1 q => h σ P1 H1 cls dd R1 F1 FrP.refl q
  | ok d1 env1 =>
    rw [e1] at h
    intro P1 H1 R1 F1 x kx nx
    refine ⟨env1, P1, R1, ?_⟩
    have h : AfterS T W kr pins env σ P H ((mb env1).toS fun d2 e2 => match Ue.putK o1 i d1 e2 with
      | some e3 => (match Ue.putK o2 j d2 e3 with | some e4 => .nx e4 | none => .stk)
      | none => .stk) D := h
    cases e2 : mb env1 with
    | stk => rw [e2] at h; exact h
    | exc c fs env2 => rw [e2] at h; exact fun P2 H2 cls dd R2 F2 q => h σ P2 H2 cls dd R2 (F1.trans F2) FrP.refl q
    | ok d2 env2 =>
      rw [e2] at h
      intro P2 H2 R2 F2 y ky ny
      have h : AfterS T W kr pins env σ P H (match Ue.putK o1 i d1 env2 with
        | some e3 => (match Ue.putK o2 j d2 e3 with | some e4 => .nx e4 | none => .stk)
        | none => .stk) D := h
      have hne : o1 = true → o2 = true → x ≠ y := fresh_ne kx ny
      have kx2 := kx.carry F2 (fun i z => absurd z (kdOf_not i))
      have F := F1.trans F2
      cases q1 : Ue.putK o1 i d1 env2 with
      | none => rw [q1] at h; exact h.elim
      | some e3 =>
        rw [q1] at h
        obtain ⟨R3, w3⟩ := R2.putK kx2 q1
        have ky3 : KRep T (kdOf o2) e3 (σ.set i (some x)) P2 H2 d2 y := ky.put w3 hne
        have h : AfterS T W kr pins env σ P H (match Ue.putK o2 j d2 e3 with | some e4 => .nx e4 | none => .stk) D := h
        cases q2 : Ue.putK o2 j d2 e3 with
        | none => rw [q2] at h; exact h.elim
        | some e4 =>
          rw [q2] at h
          obtain ⟨R4, w4⟩ := R3.putK ky3 q2
          refine ⟨x, y, rfl, h _ P2 H2 R4 ⟨F.keep, fun b hbb n z => ?_, F.mono, F.new, F.there⟩ ((FrP.set hpi).trans (FrP.set hpj))⟩
          rcases w4 b z with z | ⟨ho, ey⟩
          · rcases w3 b z with z | ⟨ho, ex⟩
            · exact F.own b hbb n z
            · subst ho; obtain ⟨p, ep, hp⟩ := nx; rw [ex] at ep; cases ep; exact hbb hp
          · subst ho; obtain ⟨p, ep, hp⟩ := ny; rw [ey] at ep; cases ep; exact F1.there b hbb hp
def parK3 (o1 o2 o3 : Bool) (i j l : Nat) (ma mb mc : M) : MS := fun env => (ma env).toS fun d1 e1 => (mb e1).toS fun d2 e2 => (mc e2).toS fun d3 e3 => match putK o1 i d1 e3 with
  | some e4 => (match putK o2 j d2 e4 with
    | some e5 => (match putK o3 l d3 e5 with | some e6 => .nx e6 | none => .stk)
    | none => .stk)
  | none => .stk
end
end Ue
set_option linter.all false
set_option Elab.async false
set_option maxRecDepth 100000
set_option maxHeartbeats 4000000
namespace Ue
open PySem PySem.Spec L2
section
variable {T : Tab} {as as' : List EV} {vs : List V} {v : V} {P H P' H' : Hp} {c c' : Nat} {fs fs' : List D}
theorem Rel.tl {f : EV} (h : Rel T ((f :: as).map some) ((v :: vs).map some) P H) : Rel T (as.map some) (vs.map some) P H :=
  ⟨h.sub, fun i e q => by simpa using h.ent (i + 1) e (by simpa using q), fun i j e f x y a n h1 h2 o1 o2 s1 s2 t1 t2 => h.dis (i + 1) (j + 1) e f x y a (fun z => n (by omega)) (by simpa using h1) (by simpa using h2) o1 o2 (by simpa using s1) (by simpa using s2) t1 t2, by simpa using h.len, h.tabs⟩
theorem Fr.tl {f f' : EV} (hf : f.isOwn = false) (hf' : f'.isOwn = false) (F : Fr ((f :: as).map some) ((v :: vs).map some) P H ((f' :: as').map some) ((v :: vs).map some) P' H') : Fr (as.map some) (vs.map some) P H (as'.map some) (vs.map some) P' H' := by
  have on : ∀ {g : EV} {bs : List EV} {J : Hp} {b : Addr}, g.isOwn = false → Own ((g :: bs).map some) ((v :: vs).map some) J b → Own (bs.map some) (vs.map some) J b := fun {g bs J b} hg z => by
    rcases own_cons z with ⟨h, _⟩ | z
    · rw [hg] at h; cases h
    · exact z
  exact ⟨fun b o h n t => F.keep b o h (fun z => n (on hf z)) t, fun b h n z => F.own b h (fun z => n (on hf z)) (own_tail z), F.mono, fun b h => (F.new b h).imp_right fun q => q.imp_right (on hf), F.there⟩
end
def CRes.go1 (r : CRes) (ss : List AD) (e : Env) : R D := match r with
  | .ok d (.ex _ _ :: as') => .ok d (putA ss as' e)
  | .exc c fs (.ex _ _ :: as') => .exc c fs (putA ss as' e)
  | _ => .stk
def cmS (F : FM) (dfl : List D) (ss : List AD) (e : Env) : R D := match resA ss e with
  | none => .stk
  | some as => if fewO ss then (F (.ex 0 [] :: (as ++ dfl.map EV.v))).go1 ss e else .stk
section
variable {T : Tab} {W : WX} {kr : Kd} {env : Env} {σ : L2.St} {P H H0 : Hp} {X : Cx} {F : FM} {n : Nat} {dfl : List D} {dvs : List V} {xs : List V} {ss : List AD} {Q : VK} {v0 : V}
end
def cmM (F : FM) (ags : List Ag) (dfl : List D) : M := fun env => (argG ags env).bind fun ss e => cmS F dfl ss e
def cmKM (F : FM) (ags kgs : List Ag) (dfl : List D) : M := fun env => (argG ags env).bind fun ss e => (argG kgs e).bind fun zs e2 => cmS F dfl (ss ++ zs) e2
section
variable {T : Tab} {W : WX} {kr : Kd} {env : Env} {σ : L2.St} {P H H0 : Hp} {X : Cx} {F : FM} {k n : Nat} {dfl : List D} {dvs : List V} {ds : List Value} {xs : List V} {ss : List AD} {Q : VK} {ags kgs : List Ag} {f C : Addr} {fd : FuncData} {ps ks : List Str} {x m : Str} {p xp pos apos : Pos} {e : Expr} {es : List Expr} {kws : List Keyword} {gg : List Value → List Value → List Value}
end
def nfD (tys : List String) (cs : List Nat) : D → Bool
  | .obj c _ => cs.contains c
  | d => (tyN d).any fun n => tys.contains n
def cmpO (c : Nat) (F : FM) (tys : List String) (cs : List Nat) (ma mb : M) : MT := fun env => (ma env).bind fun x e1 => (mb e1).bind fun y e2 => match x with
  | .obj c' fs => if c' = c ∧ nfD tys cs y = true then (match F [.v x, .v y] with | .ok (.bl b) _ => .ok b e2 | _ => .stk) else .stk
  | _ => .stk
section
variable {T : Tab} {W : WX} {env : Env} {σ : L2.St} {P H : Hp} {X : Cx} {F : FM} {k c : Nat} {ma mb : M} {a b : Expr} {pos : Pos} {f : Addr} {fd : FuncData} {ps : List Str} {tys : List String} {cs : List Nat}
end
end Ue
set_option linter.all false
set_option Elab.async false
set_option maxRecDepth 100000
set_option maxHeartbeats 4000000
namespace Ue
open PySem PySem.Spec L2
def isTabM (tys : List (String × Bool)) (cls : List (Nat × Bool)) (ma : M) : M := fun env => (ma env).bind fun d e => match isC tys cls d with | some b => .ok (.bl b) e | none => .stk
section
variable {T : Tab} {W : WX} {env : Env} {σ : L2.St} {P H : Hp} {X : Cx} {ma : M} {ka : Kd} {a : Expr} {tys : List (String × Bool)} {cls : List (Nat × Bool)} {ans : Value → Option Bool} {pos p p2 p3 pt : Pos}
theorem isC_ty {d : D} {x : V} {b : Bool} (hI : IsTab T.K T.clsA ans tys cls) (hcl : ∀ n b, cls.lookup n = some b → Cls T.K (T.clsA n)) (R1 : PSub P H) (h : Rdb T P H d x) (e : isC tys cls d = some b) : ∃ t, TyX T.K H x t ∧ ans t = some b := by
  have ty : ∀ (s : String), tyN d = some s → ((tyN d).bind fun n => tys.lookup n) = some b → ∃ t, TyX T.K H x t ∧ ans t = some b := fun s e1 z => by
    rw [e1] at z
    exact ⟨_, tyx_of R1 h e1, hI.t s b z⟩
  cases d with
  | obj c fs =>
    obtain ⟨q1, q2⟩ := hI.c c b e
    have f := insB_ok (hcl c b e) q2
    obtain ⟨p, dx, vs, rfl, h1, _⟩ := h.objE R1
    exact ⟨_, .base (.ins h1 f.cl f.a f.n f.t f.m), q1⟩
  | tpx ds => cases (show (none : Option Bool) = some b from e)
  | _ => exact ty _ rfl e
theorem de_isT {ce : Expr} {v : V} {u : Value} (hK : X.K = T.K) (hI : IsTab T.K T.clsA (fun t => PySem.W.kitOne T.K t u) tys cls) (hcl : ∀ n b, cls.lookup n = some b → Cls T.K (T.clsA n)) (hg : Gl X "isinstance") (hm : X.mg "isinstance" = none) (ha : DE T W X a ka ma) (hc : PE X ce (tC v)) (cv : ClsV v u)
    (he : starEach [a, ce] X.env = (false, eval a X.env) :: starEach [ce] X.env := by rfl) (h2 : starEach [ce] X.env = (false, eval ce X.env) :: starEach [] X.env := by rfl) (hpl : (backTo pos (starEach [ce] X.env)).any (·.1) = false := by rfl) :
    DE T W X (.Call (.Name "isinstance" p) [a, ce] [] pos) .pure (isTabM tys cls ma) :=
  pe_imp (pe_callB call_isi hg hm (by decide +kernel) (pa_cons ha (pa_cons hc pa_nil h2) he) (by decide) (by decide) he hpl) fun σ H Q h => by
    obtain ⟨env, P, RR, h⟩ := h
    refine ⟨env, P, RR, After.mono h.bind fun d env1 P1 H1 R1 F1 h1 x kx nx => ?_⟩
    cases e : isC tys cls d with
    | none => simp only [e] at h1; exact False.elim h1
    | some b =>
      simp only [e] at h1
      obtain ⟨t, ty, an⟩ := isC_ty hI hcl R1.sub (kx.rdb R1) e
      rw [hK]
      exact ⟨x, v, t, u, b, rfl, cv, ty, an, h1.here R1 (Fr.refl _ _ _ _) _ (show Rep T P1 (.bl b) (.bl b) from rep_bl) trivial⟩
end
section
variable {α β : Type} {e env : Env} {c c' i j l nf : Nat} {fs gs : List D} {d : D} {m ma mb mc mo : M} {F : FM} {ags kgs : List Ag} {dfl : List D} {as : List EV} {ss : List AD}
@[simp] theorem attrM_s : attrM c j m env = (m env).bind fun d e => match d with
  | .obj c' fs => if c' = c then (match fs[j]? with | some x => .ok x e | none => .stk) else .stk
  | _ => .stk := (rfl)
@[simp] theorem natM_s : natM c i j env = match env[i]? with
  | some (some (.new c' fs)) => if c' = c then (match fs[j]? with | some x => .ok x env | none => .stk) else .stk
  | _ => .stk := (rfl)
@[simp] theorem stfM_s : stfM c i j m env = (m env).toS fun d e => match e[i]? with
  | some (some (.new c' fs)) => if c' = c ∧ fs.length = j then .nx (e.set i (some (.new c' (fs ++ [d])))) else .stk
  | _ => .stk := (rfl)
@[simp] theorem exfM_s : exfM c i j env = match env[i]? with
  | some (some (.ex c' fs)) => if c' = c then (match fs[j]? with | some x => .ok x env | none => .stk) else .stk
  | _ => .stk := (rfl)
def SR.caE (r : SR) (cg : Nat → Option Bool) (i : Nat) (s : MS) : SR := match r with
  | .exc c fs e => (match cg c with | some true => if noEx e ∧ i < e.length then dropE i (s (e.set i (some (.ex c fs)))) else .stk | some false => .exc c fs e | none => .stk)
  | r => r
@[simp] theorem tryAsM_s {s1 s2 : MS} {cg : Nat → Option Bool} : tryAsM s1 cg i s2 env = (s1 env).caE cg i s2 := (rfl)
@[simp] theorem caE_nx {s2 : MS} {cg : Nat → Option Bool} : (SR.nx e).caE cg i s2 = .nx e := (rfl)
@[simp] theorem caE_ret {s2 : MS} {cg : Nat → Option Bool} : (SR.ret d e).caE cg i s2 = .ret d e := (rfl)
@[simp] theorem caE_brk {s2 : MS} {cg : Nat → Option Bool} : (SR.brk e).caE cg i s2 = .brk e := (rfl)
@[simp] theorem caE_cnt {s2 : MS} {cg : Nat → Option Bool} : (SR.cnt e).caE cg i s2 = .cnt e := (rfl)
@[simp] theorem caE_exc {s2 : MS} {cg : Nat → Option Bool} : (SR.exc c fs e).caE cg i s2 = (match cg c with | some true => if noEx e ∧ i < e.length then dropE i (s2 (e.set i (some (.ex c fs)))) else .stk | some false => .exc c fs e | none => .stk) := (rfl)
@[simp] theorem dropE_nx : dropE i (.nx e) = .nx (e.set i none) := (rfl)
@[simp] theorem dropE_brk : dropE i (.brk e) = .brk (e.set i none) := (rfl)
@[simp] theorem dropE_cnt : dropE i (.cnt e) = .cnt (e.set i none) := (rfl)
@[simp] theorem dropE_ret : dropE i (.ret d e) = .ret d (e.set i none) := (rfl)
@[simp] theorem noEx_n : noEx [] = true := (rfl)
@[simp] theorem noEx_no : noEx (none :: e) = noEx e := (rfl)
@[simp] theorem noEx_v : noEx (some (.v d) :: e) = noEx e := (rfl)
@[simp] theorem noEx_o : noEx (some (.own fs) :: e) = noEx e := (rfl)
@[simp] theorem noEx_w : noEx (some (.new c fs) :: e) = noEx e := (rfl)
@[simp] theorem callS_s : callS F dfl ss e = match resA ss e with
  | none => .stk
  | some as => if fewO ss then (F (as ++ dfl.map EV.v)).go ss e else .stk := (rfl)
@[simp] theorem methM_s : methM c F mo ags dfl env = (mo env).bind fun d e1 => match d with
  | .obj c' fs => if c' = c then (argG ags e1).bind fun ss e => callS F dfl (.d (.obj c' fs) :: ss) e else .stk
  | _ => .stk := (rfl)
def CRes.mk1 (r : CRes) (c nf : Nat) (ss : List AD) (e : Env) : R D := match r with
  | .ok .non (.new c' fs :: as') => if c' = c ∧ fs.length = nf then .ok (.obj c fs) (putA ss as' e) else .stk
  | .exc k fs (.new _ _ :: as') => .exc k fs (putA ss as' e)
  | _ => .stk
@[simp] theorem makeS_s : makeS c nf F dfl ss e = match resA ss e with
  | none => .stk
  | some as => if fewO ss then (F (.new c [] :: (as ++ dfl.map EV.v))).mk1 c nf ss e else .stk := (rfl)
@[simp] theorem mk1_ok : (CRes.ok .non (.new c' fs :: as)).mk1 c nf ss e = if c' = c ∧ fs.length = nf then .ok (.obj c fs) (putA ss as e) else .stk := (rfl)
@[simp] theorem mk1_exc : (CRes.exc i gs (.new c' fs :: as)).mk1 c nf ss e = .exc i gs (putA ss as e) := (rfl)
@[simp] theorem mkM_s : mkM c nf F ags dfl env = (argG ags env).bind fun ss e => makeS c nf F dfl ss e := (rfl)
@[simp] theorem mkKM_s : mkKM c nf F ags kgs dfl env = (argG ags env).bind fun ss e => (argG kgs e).bind fun zs e2 => makeS c nf F dfl (ss ++ zs) e2 := (rfl)
@[simp] theorem cmS_s : cmS F dfl ss e = match resA ss e with
  | none => .stk
  | some as => if fewO ss then (F (.ex 0 [] :: (as ++ dfl.map EV.v))).go1 ss e else .stk := (rfl)
@[simp] theorem go1_ok : (CRes.ok d (.ex c fs :: as)).go1 ss e = .ok d (putA ss as e) := (rfl)
@[simp] theorem go1_exc : (CRes.exc i gs (.ex c fs :: as)).go1 ss e = .exc i gs (putA ss as e) := (rfl)
@[simp] theorem cmM_s : cmM F ags dfl env = (argG ags env).bind fun ss e => cmS F dfl ss e := (rfl)
@[simp] theorem cmKM_s : cmKM F ags kgs dfl env = (argG ags env).bind fun ss e => (argG kgs e).bind fun zs e2 => cmS F dfl (ss ++ zs) e2 := (rfl)
def CRes.toB (r : CRes) (e : Env) : R Bool := match r with | .ok (.bl b) _ => .ok b e | _ => .stk
@[simp] theorem toB_s {b : Bool} : (CRes.ok (.bl b) as).toB e = .ok b e := (rfl)
@[simp] theorem cmpO_s {tys : List String} {cs : List Nat} : cmpO c F tys cs ma mb env = (ma env).bind fun x e1 => (mb e1).bind fun y e2 => match x with
  | .obj c' fs => if c' = c ∧ nfD tys cs y = true then (F [.v x, .v y]).toB e2 else .stk
  | _ => .stk := (rfl)
@[simp] theorem putK_v : putK false i d e = some (e.set i (some (.v d))) := (rfl)
@[simp] theorem putK_o : putK true i (.lst fs) e = some (e.set i (some (.own fs))) := (rfl)
@[simp] theorem parKM_s {o1 o2 : Bool} : parKM o1 o2 i j ma mb env = (ma env).toS fun d1 e1 => (mb e1).toS fun d2 e2 => match putK o1 i d1 e2 with
  | some e3 => (match putK o2 j d2 e3 with | some e4 => .nx e4 | none => .stk)
  | none => .stk := (rfl)
@[simp] theorem parK3_s {o1 o2 o3 : Bool} : parK3 o1 o2 o3 i j l ma mb mc env = (ma env).toS fun d1 e1 => (mb e1).toS fun d2 e2 => (mc e2).toS fun d3 e3 => match putK o1 i d1 e3 with
  | some e4 => (match putK o2 j d2 e4 with
    | some e5 => (match putK o3 l d3 e5 with | some e6 => .nx e6 | none => .stk)
    | none => .stk)
  | none => .stk := (rfl)
@[simp] theorem isTabM_s {tys : List (String × Bool)} {cls : List (Nat × Bool)} : isTabM tys cls ma env = (ma env).bind fun d e => match isC tys cls d with | some b => .ok (.bl b) e | none => .stk := (rfl)
@[simp] theorem finA_w {pins : List Nat} : finA pins i (.new c fs :: as) e = if i ∈ pins then (match e[i]? with | some (some (.new c fs)) => (finA pins (i + 1) as e).map (.new c fs :: ·) | _ => none) else none := (rfl)
@[simp] theorem finA_e {pins : List Nat} : finA pins i (.ex c fs :: as) e = (finA pins (i + 1) as e).map (.ex c fs :: ·) := (rfl)
@[simp] theorem notInA_s {x y : D} : notInA x y = (inA x y).map (!·) := (rfl)
end
end Ue
set_option linter.all false
set_option Elab.async false
set_option maxRecDepth 100000
set_option maxHeartbeats 4000000
namespace Ue
open PySem PySem.Spec L2
end Ue
set_option linter.all false
set_option Elab.async false
set_option maxRecDepth 100000
set_option maxHeartbeats 4000000
namespace Ue
open PySem PySem.Spec PyProof.Rows L2
section
variable {X : Cx} {Z : CXT} {k n : Nat} {C g f : Addr} {fd : FuncData} {ps : List Str} {sp : Sp} {dvs : List V} {ds : List Value} {E : L2.St → XK} {x m nm : Str} {xp pos apos : Pos} {a b : Expr} {ta tb : TE} {op : Operator}
end
def opO (c : Nat) (F : FM) (ma mb : M) : M := fun env => (ma env).bind fun x e1 => (mb e1).bind fun y e2 => match x, y with
  | .obj c1 fs, .obj c2 gs => if c1 = c ∧ c2 = c then callS F [] [.d (.obj c1 fs), .d (.obj c2 gs)] e2 else .stk
  | _, _ => .stk
section
variable {T : Tab} {W : WX} {env : Env} {σ : L2.St} {P H : Hp} {X : Cx} {F : FM} {k n c : Nat} {dfl : List D} {dvs : List V} {ds : List Value} {ma mb : M} {a b : Expr} {pos xp apos : Pos} {f C : Addr} {fd : FuncData} {ps : List Str} {nm x m : Str} {op : Operator}
@[simp] theorem opO_s : opO c F ma mb env = (ma env).bind fun x e1 => (mb e1).bind fun y e2 => match x, y with
  | .obj c1 fs, .obj c2 gs => if c1 = c ∧ c2 = c then callS F [] [.d (.obj c1 fs), .d (.obj c2 gs)] e2 else .stk
  | _, _ => .stk := (rfl)
end
section
variable {X : Cx} {T : Tab}
def rEqNil (K : PySem.W.Frag) (ne : Bool) : R2 := fun x y H Q => ∃ a b xs, x = .ref a ∧ y = .ref b ∧ SqL K H a xs ∧ SqL K H b [] ∧ Q (.bl (xs.isEmpty != ne)) H
theorem op_neNil (hu : X.A.units < cLine) : OpR X (compareOp .NotEq) (rEqNil X.K true) := by
  intro pins s σ H x y v u Q I rx ry h
  obtain ⟨a, b, xs, rfl, rfl, ha, hb, q⟩ := h
  cases rx; cases ry
  obtain ⟨us, r1, p1, _⟩ := I.list ha
  obtain ⟨ws, r2, p2, _⟩ := I.list hb
  have l2 : ws = [] := by cases r2; rfl
  subst l2
  cases us with
  | nil =>
    have l1 : xs = [] := by cases r1; rfl
    subst l1
    exact SeqAt.RcNeAt.lists (e := fun _ => true) p1.isList p2.isList rfl hu (fun j h1 _ => absurd h1 (by simp)) _ _ _ _ ⟨.bl false, H, I, rfl, q⟩
  | cons w ws =>
    have l1 : xs.isEmpty = false := by cases r1; rfl
    rw [l1] at q
    exact SeqAt.RcNeAt.lists_lengths p1.isList p2.isList (by simp) hu _ _ _ _ ⟨.bl true, H, I, rfl, q⟩
def eqNil (a b : D) : Option Bool := match a, b with | .lst xs, .lst [] => some xs.isEmpty | _, _ => none
def neNil (a b : D) : Option Bool := match a, b with | .lst xs, .lst [] => some (!xs.isEmpty) | _, _ => none
theorem cd_neNil : CmpD T (rEqNil T.K true) neNil := fun P H dx dy x y b Q R1 hx hy e q => by
  cases dx with
  | lst xs =>
    cases dy with
    | lst ys =>
      cases ys with
      | nil =>
        cases e
        obtain ⟨a, vs, rfl, h1, h2⟩ := hx.lstE R1
        obtain ⟨b, ws, rfl, h3, h4⟩ := hy.lstE R1
        rw [Reps] at h4; subst h4
        have l := h2.length
        have e : vs.isEmpty = xs.isEmpty := by cases xs <;> cases vs <;> first | rfl | (simp at l)
        exact ⟨a, b, vs, rfl, rfl, .inl h1, .inl h3, by rw [e]; simpa using q⟩
      | cons _ _ => cases e
    | _ => cases e
  | _ => cases e
@[simp] theorem eqNil_s {xs : List D} : eqNil (.lst xs) (.lst []) = some xs.isEmpty := (rfl)
@[simp] theorem neNil_s {xs : List D} : neNil (.lst xs) (.lst []) = some (!xs.isEmpty) := (rfl)
end
end Ue
set_option linter.all false
set_option Elab.async false
set_option maxRecDepth 100000
set_option maxHeartbeats 4000000
namespace Ue
open PySem PySem.Spec PyProof.Rows L2
section
variable {X : Cx} {T : Tab} {W : WX} {a b : Expr} {ma mb : M} {ka kb : Kd} {pos : Pos}
end
end Ue
set_option linter.all false
set_option Elab.async false
set_option maxRecDepth 100000
set_option maxHeartbeats 4000000
namespace Ue
open PySem PySem.Spec L2
section
variable {T : Tab} {W : WX} {kr : Kd} {pins : List Nat} {env env' : Env} {σ σ' : L2.St} {P H P' H' : Hp} {X : Cx} {pos : Pos} {a b c : Expr} {ma mb mc : M} {o o1 o2 o3 : Bool} {i j l : Nat} {d : D} {x : V}
theorem ds_parC {x y : Str} {px py pt : Pos} {kt k2 : Nat} {pt2 : Pos} (hK : X.K = T.K) (hc : X.calm = true) (hN : X.N.Nodup) (hi : X.N[i]? = some x) (hj : X.N[j]? = some y)
    (hx : Loc X.env.scope x) (hy : Loc X.env.scope y) (fx : X.fn x = true ∨ X.env.scope.names.lookup x = some .local) (fy : X.fn y = true ∨ X.env.scope.names.lookup y = some .local)
    (ha : DE T W X a (kdOf o1) ma) (hb : DE T W X b (kdOf o2) mb) (hpi : i ∉ pins := by decide) (hpj : j ∉ pins := by decide)
    (hw : swappedStores [.Tuple [.Name x px, .Name y py] kt pt] (.Tuple [a, b] k2 pt2) X.env = pure none := by rfl)
    (hs : swapsWithSole [.Tuple [.Name x px, .Name y py] kt pt] (.Tuple [a, b] k2 pt2) pos.line X.env = pure false := by rfl)
    (h1 : starEach [a, b] X.env = (false, eval a X.env) :: starEach [b] X.env := by rfl) (h2 : starEach [b] X.env = (false, eval b X.env) :: starEach [] X.env := by rfl)
    (h3 : (assignEach [.Name x px, .Name y py] X.env).map (·.2) = assign (.Name x px) X.env :: (assignEach [.Name y py] X.env).map (·.2) := by rfl)
    (h4 : (assignEach [.Name y py] X.env).map (·.2) = assign (.Name y py) X.env :: (assignEach [] X.env).map (·.2) := by rfl)
    (h5 : (assignEach [.Name x px, .Name y py] X.env).length = 2 := by rfl) (h6 : (assignEach [.Name x px, .Name y py] X.env).findIdx? (·.1) = none := by rfl)
    (h7 : (assignEach [.Tuple [.Name x px, .Name y py] kt pt] X.env).map (·.2) = [assign (.Tuple [.Name x px, .Name y py] kt pt) X.env] := by rfl) :
    DS T W kr pins X (.Assign [.Tuple [.Name x px, .Name y py] kt pt] (.Tuple [a, b] k2 pt2) pos) (parKM o1 o2 i j ma mb) := by
  refine ps_imp (ps_asg (pe_tup (pa_cons ha (pa_cons hb pa_nil h2) h1)) (pg_tup hc (pgs_cons (pg_name hN hi hx fx) (pgs_cons (pg_name hN hj hy fy) pgs_nil h4) h3) h5 h6) hs hw h7) fun D σ H h => ?_
  obtain ⟨env, P, RR, h⟩ := h
  refine ⟨env, P, RR, ?_⟩
  unfold parKM at h
  cases e1 : ma env with
  | stk => rw [e1] at h; exact h
  | exc c fs env1 => rw [e1] at h; exact fun P1 H1 cls dd R1 F1 q => h σ P1 H1 cls dd R1 F1 FrP.refl q
  | ok d1 env1 =>
    rw [e1] at h
    intro P1 H1 R1 F1 x kx nx
    refine ⟨env1, P1, R1, ?_⟩
    have h : AfterS T W kr pins env σ P H ((mb env1).toS fun d2 e2 => match Ue.putK o1 i d1 e2 with
      | some e3 => (match Ue.putK o2 j d2 e3 with | some e4 => .nx e4 | none => .stk)
      | none => .stk) D := h
    cases e2 : mb env1 with
    | stk => rw [e2] at h; exact h
    | exc c fs env2 => rw [e2] at h; exact fun P2 H2 cls dd R2 F2 q => h σ P2 H2 cls dd R2 (F1.trans F2) FrP.refl q
    | ok d2 env2 =>
      rw [e2] at h
      intro P2 H2 R2 F2 y ky ny
      have h : AfterS T W kr pins env σ P H (match Ue.putK o1 i d1 env2 with
        | some e3 => (match Ue.putK o2 j d2 e3 with | some e4 => .nx e4 | none => .stk)
        | none => .stk) D := h
      have hne : o1 = true → o2 = true → x ≠ y := fresh_ne kx ny
      have kx2 := kx.carry F2 (fun i z => absurd z (kdOf_not i))
      refine ⟨by rw [sizeLine_eq]; exact (by decide : (2:Nat) ≤ 16777216), fun p hp => ?_⟩
      obtain ⟨R2, F3⟩ := R2.newP (o := .tup [x, y]) hp
      have kx2 := kx2.carry F3 (fun i z => absurd z (kdOf_not i))
      have ky := ky.carry F3 (fun i z => absurd z (kdOf_not i))
      have F := (F1.trans F2).trans F3
      refine ⟨p, [x, y], rfl, .inl (by first | exact .inl upd_same | exact rd_upd | (unfold Rd; exact upd_same)), rfl, x, [y], rfl, y, [], rfl, rfl, ?_⟩
      cases q1 : Ue.putK o1 i d1 env2 with
      | none => rw [q1] at h; exact h.elim
      | some e3 =>
        rw [q1] at h
        obtain ⟨R3, w3⟩ := R2.putK kx2 q1
        have ky3 : KRep T (kdOf o2) e3 (σ.set i (some x)) _ _ d2 y := ky.put w3 hne
        have h : AfterS T W kr pins env σ P H (match Ue.putK o2 j d2 e3 with | some e4 => .nx e4 | none => .stk) D := h
        cases q2 : Ue.putK o2 j d2 e3 with
        | none => rw [q2] at h; exact h.elim
        | some e4 =>
          rw [q2] at h
          obtain ⟨R4, w4⟩ := R3.putK ky3 q2
          refine h _ _ _ R4 ⟨F.keep, fun b hbb n z => ?_, F.mono, F.new, F.there⟩ ((FrP.set hpi).trans (FrP.set hpj))
          rcases w4 b z with z | ⟨ho, ey⟩
          · rcases w3 b z with z | ⟨ho, ex⟩
            · exact F.own b hbb n z
            · subst ho; obtain ⟨p, ep, hp⟩ := nx; rw [ex] at ep; cases ep; exact hbb hp
          · subst ho; obtain ⟨p, ep, hp⟩ := ny; rw [ey] at ep; cases ep; exact F1.there b hbb hp
end
end Ue
set_option linter.all false
set_option Elab.async false
set_option maxRecDepth 100000
set_option maxHeartbeats 4000000
namespace Ue
open PySem PySem.Spec PyProof.Rows L2
section
variable {X : Cx} {Z : CXT} {k n : Nat} {C g f : Addr} {fd : FuncData} {ps : List Str} {sp : Sp} {E : L2.St → XK} {A1 : Around} {pins : List (Addr × Obj)} {σ : L2.St} {H : Hp} {s : Shared} {Q : VK}
end
end Ue
set_option linter.all false
set_option Elab.async false
set_option maxRecDepth 100000
set_option maxHeartbeats 4000000
namespace Ue
open PySem PySem.Spec PyProof.Rows L2
section
variable {X : Cx} {Z : CXT} {k n : Nat} {C g f fi : Addr} {fd fdi : FuncData} {ps psi : List Str} {sp : Sp} {E : L2.St → XK} {A1 : Around} {pins : List (Addr × Obj)} {σ : L2.St} {H : Hp} {s : Shared} {Q : VK}
def noE : XK := fun _ _ _ => False
end
end Ue
set_option linter.all false
set_option Elab.async false
set_option maxRecDepth 100000
set_option maxHeartbeats 4000000
namespace Ue
open PySem PySem.Spec PyProof.Rows L2
def lenO (c : Nat) (F : FM) (m : M) : M := fun env => (m env).bind fun d e => match d with
  | .obj c1 fs => if c1 = c then (callS F [] [.d (.obj c1 fs)] e).bind fun v e' => (match v with | .int n => if 0 ≤ n ∧ n < 2 ^ 63 then .ok (.int n) e' else .stk | _ => .stk) else .stk
  | _ => .stk
def getO (c : Nat) (F : FM) (ma mb : M) : M := fun env => (ma env).bind fun x e1 => (mb e1).bind fun y e2 => match x with
  | .obj c1 fs => if c1 = c then callS F [] [.d (.obj c1 fs), .d y] e2 else .stk
  | _ => .stk
def asO (c j : Nat) (m : M) : MI := fun env => (m env).bind fun d e => match d with
  | .obj c1 fs => if c1 = c then (match fs[j]? with | some (.tup ds) => .ok ds e | _ => .stk) else .stk
  | _ => .stk
def lstO (c j : Nat) (F : FM) (m : M) : M := fun env => (m env).bind fun d e => match d with
  | .obj c1 fs => if c1 = c then (match fs[j]?, callS F [] [.d (.obj c1 fs)] e with
    | some (.tup ys), .ok (.int n) e' => if 0 ≤ n ∧ n.toNat ≤ sizeLine then .ok (.lst ys) e' else .stk
    | _, _ => .stk) else .stk
  | _ => .stk
section
variable {T : Tab} {W : WX} {env env' : Env} {σ : L2.St} {P H H' P' : Hp} {X : Cx} {F : FM} {k n c j : Nat} {m ma mb : M} {a b e : Expr} {pos : Pos} {f fi : Addr} {fd fdi : FuncData} {ps psi : List Str} {fl : Str}
end
end Ue
set_option linter.all false
set_option Elab.async false
set_option maxRecDepth 100000
set_option maxHeartbeats 4000000
namespace Ue
open PySem PySem.Spec PyProof.Rows L2
def isXM (i : Nat) (tab : List (Nat × Bool)) : M := fun env => match env[i]? with
  | some (some (.ex c _)) => (match tab.lookup c with | some b => .ok (.bl b) env | none => .stk)
  | _ => .stk
section
variable {T : Tab} {W : WX} {X : Cx} {i : Nat} {tab : List (Nat × Bool)} {e ce : Expr} {v : V} {cv : Value} {p pos : Pos}
@[simp] theorem isXM_s {env : Env} : isXM i tab env = match env[i]? with
  | some (some (.ex c _)) => (match tab.lookup c with | some b => .ok (.bl b) env | none => .stk)
  | _ => .stk := (rfl)
end
section
variable {c j : Nat} {F : FM} {m ma mb : M} {env : Env}
@[simp] theorem lenO_s : lenO c F m env = (m env).bind fun d e => match d with
  | .obj c1 fs => if c1 = c then (callS F [] [.d (.obj c1 fs)] e).bind fun v e' => (match v with | .int n => if 0 ≤ n ∧ n < 2 ^ 63 then .ok (.int n) e' else .stk | _ => .stk) else .stk
  | _ => .stk := (rfl)
@[simp] theorem getO_s : getO c F ma mb env = (ma env).bind fun x e1 => (mb e1).bind fun y e2 => match x with
  | .obj c1 fs => if c1 = c then callS F [] [.d (.obj c1 fs), .d y] e2 else .stk
  | _ => .stk := (rfl)
@[simp] theorem asO_s : asO c j m env = (m env).bind fun d e => match d with
  | .obj c1 fs => if c1 = c then (match fs[j]? with | some (.tup ds) => .ok ds e | _ => .stk) else .stk
  | _ => .stk := (rfl)
@[simp] theorem lstO_s : lstO c j F m env = (m env).bind fun d e => match d with
  | .obj c1 fs => if c1 = c then (match fs[j]?, callS F [] [.d (.obj c1 fs)] e with
    | some (.tup ys), .ok (.int n) e' => if 0 ≤ n ∧ n.toNat ≤ sizeLine then .ok (.lst ys) e' else .stk
    | _, _ => .stk) else .stk
  | _ => .stk := (rfl)
end
end Ue
set_option linter.all false
set_option Elab.async false
set_option maxRecDepth 100000
set_option maxHeartbeats 4000000
namespace Ue
open PySem PySem.Spec PyProof.Rows L2
mutual
def noL : D → Bool
  | .lst _ => false
  | .scr _ => false
  | .dct _ => false
  | .tpx ds => noLs ds
  | .tup ds => noLs ds
  | .obj _ ds => noLs ds
  | .non => true
  | .bl _ => true
  | .int _ => true
  | .str _ => true
def noLs : List D → Bool
  | [] => true
  | d :: ds => noL d && noLs ds
end
section
variable {T : Tab} {P : Hp} {a : Addr} {ws : List V}
theorem drop_ne {b : Addr} {u : HO} (ha : P a = some (.lst ws)) (h : P b = some u) (n : ∀ zs, u ≠ .lst zs) : ItX.dropH P a b = some u := by
  have hb : b ≠ a := fun z => by
    subst z; rw [ha] at h; exact n _ (Option.some.inj h).symm
  rw [ItX.dropH_ne hb]; exact h
mutual
theorem Rep.dropL (ha : P a = some (.lst ws)) : ∀ (d : D) (v : V), noL d = true → Rep T P d v → Rep T (ItX.dropH P a) d v
  | .non, _, _, h => h
  | .bl _, _, _, h => h
  | .int _, _, _, h => h
  | .str _, _, _, h => h
  | .tup ds, _, n, h => by
    rw [Rep] at h ⊢
    rw [noL] at n
    obtain ⟨b, vs, e, h1, h2⟩ := h
    refine ⟨b, vs, e, ?_, Reps.dropL ha ds vs n h2⟩
    rcases h1 with h1 | h1
    · refine .inl ?_
      rcases h1 with h1 | ⟨o, h1⟩
      · exact .inl (drop_ne ha h1 fun _ z => nomatch z)
      · exact .inr ⟨o, drop_ne ha h1 fun _ z => nomatch z⟩
    · exact .inr h1
  | .lst ds, _, n, h => by rw [noL] at n; cases n
  | .scr ns, _, n, h => by rw [noL] at n; cases n
  | .dct _, _, n, h => by rw [noL] at n; cases n
  | .tpx ds, _, n, h => by
    rw [Rep] at h ⊢
    rw [noL] at n
    obtain ⟨b, vs, o, e, h1, h3, h2⟩ := h
    exact ⟨b, vs, o, e, drop_ne ha h1 (fun _ z => nomatch z), h3, Reps.dropL ha ds vs n h2⟩
  | .obj c ds, _, n, h => by
    rw [Rep] at h ⊢
    rw [noL] at n
    obtain ⟨b, dx, vs, e, h1, hl, h2⟩ := h
    exact ⟨b, dx, vs, e, drop_ne ha h1 (fun _ z => nomatch z), hl, Reps.dropL ha ds vs n h2⟩
theorem Reps.dropL (ha : P a = some (.lst ws)) : ∀ (ds : List D) (vs : List V), noLs ds = true → Reps T P ds vs → Reps T (ItX.dropH P a) ds vs
  | [], _, _, h => h
  | d :: ds, _, n, h => by
    rw [Reps] at h ⊢
    rw [noLs, Bool.and_eq_true] at n
    obtain ⟨v, r, e, h1, h2⟩ := h
    exact ⟨v, r, e, Rep.dropL ha d v n.1 h1, Reps.dropL ha ds r n.2 h2⟩
end
end
def ownL : Option EV → Bool
  | some (.own ds) => noLs ds
  | some (.new _ fs) => noLs fs
  | some (.mob _ _) => false
  | _ => true
def lendM (i : Nat) (m : M) : M := fun env => match env[i]? with
  | some (some (.own ds)) => if (env.set i none).all ownL then (match m (env.set i (some (.v (.lst ds)))) with
    | .ok d _ => if noL d then .ok d env else .stk
    | .exc c fs _ => if noLs fs then .exc c fs env else .stk
    | .stk => .stk) else .stk
  | _ => .stk
section
variable {T : Tab} {W : WX} {env : Env} {σ : L2.St} {P H H' P' : Hp} {X : Cx} {i : Nat} {m : M} {e : Expr} {ds : List D} {a : Addr} {vs : List V}
theorem Rel.unlend (R : Rel T env σ P H) (e0 : env[i]? = some (some (.own ds))) (hs : σ[i]? = some (some (V.ref a))) (hp : P a = none) (hr : Reps T P ds vs) (all : (env.set i none).all ownL = true)
    (R2 : Rel T (env.set i (some (.v (.lst ds)))) σ P' H') (hP : PSub P P') (ha : P' a = some (.lst vs)) : Rel T env σ (ItX.dropH P' a) H' := by
  have sub : PSub P (ItX.dropH P' a) := fun b o h => by
    have hb : b ≠ a := fun z => by rw [z, hp] at h; cases h
    rw [ItX.dropH_ne hb]; exact hP b o h
  have w0 : (env.set i none).all ownL = true := all
  have w1 : ∀ (j : Nat) (f : EV) (x : V) (b : Addr), env[j]? = some (some f) → Foot f x H' b → Foot f x H b := fun j f x b h t => by
    have nm : ∀ c fs, f ≠ .mob c fs := fun c fs z => by
      subst z
      by_cases hj : j = i
      · subst hj; rw [e0] at h; cases h
      · have h3 : (env.set i none)[j]? = some (some (.mob c fs)) := by rw [List.getElem?_set_ne (fun z => hj z.symm)]; exact h
        have := List.all_eq_true.mp w0 _ (List.mem_of_getElem? h3)
        cases this
    rw [t.plain nm]; exact .here
  refine ⟨fun b o h => ?_, fun j f h => ?_, fun j l f g x y b n h1 h2 o1 o2 s1 s2 t1 t2 => R.dis j l f g x y b n h1 h2 o1 o2 s1 s2 (w1 j f x b h1 t1) (w1 l g y b h2 t2), R.len, R2.tabs.setP fun b q => .inl fun z => q (by
    by_cases hb : b = a
    · rw [hb]; exact ItX.dropH_same
    · rw [ItX.dropH_ne hb]; exact z)⟩
  · by_cases hb : b = a
    · rw [hb, ItX.dropH_same] at h; cases h
    · rw [ItX.dropH_ne hb] at h; exact R2.sub b o h
  · by_cases hj : j = i
    · subst hj
      rw [e0] at h; cases h
      exact ⟨_, hs, a, vs, rfl, R2.sub _ _ ha, ItX.dropH_same, Reps.sub sub _ _ hr⟩
    · have h2 : (env.set i (some (.v (.lst ds))))[j]? = some (some f) := by rw [List.getElem?_set_ne (fun z => hj z.symm)]; exact h
      have h3 : (env.set i none)[j]? = some (some f) := by rw [List.getElem?_set_ne (fun z => hj z.symm)]; exact h
      have hn : ownL (some f) = true := List.all_eq_true.mp all _ (List.mem_of_getElem? h3)
      obtain ⟨v, hv, r⟩ := R2.ent j f h2
      obtain ⟨v0, hv0, r0⟩ := R.ent j f h
      rw [hv] at hv0; cases hv0
      refine ⟨v, hv, ?_⟩
      cases f with
      | v d => exact Rep.sub sub d v r0
      | own es =>
        obtain ⟨b, ws, q1, q2, q3, q4⟩ := r
        refine ⟨b, ws, q1, q2, ?_, Reps.dropL ha es ws hn q4⟩
        by_cases hb : b = a
        · rw [hb, ItX.dropH_same]
        · rw [ItX.dropH_ne hb]; exact q3
      | new c fs =>
        obtain ⟨b, dx, ws, q1, q2, q3, q4, q5⟩ := r
        refine ⟨b, dx, ws, q1, q2, ?_, q4, Reps.dropL ha fs ws hn q5⟩
        by_cases hb : b = a
        · rw [hb, ItX.dropH_same]
        · rw [ItX.dropH_ne hb]; exact q3
      | mob c fs => cases hn
      | ex c fs =>
        intro b d cls hc
        obtain ⟨q1, q2, q3⟩ := r0 b d cls hc
        refine ⟨q1, q2, q3.imp_right fun ⟨dx, xfs, ws, z1, z2, z3, z4⟩ => ⟨dx, xfs, ws, z1, sub _ _ z2, z3, Reps.sub sub _ _ z4⟩⟩
theorem Fr.unlend (R : Rel T env σ P H) (all : (env.set i none).all ownL = true) (e0 : env[i]? = some (some (.own ds))) (hs : σ[i]? = some (some (V.ref a))) (hp : P a = none) (F : Fr env σ P H (env.set i (some (.v (.lst ds)))) σ P' H') : Fr env σ P H env σ (ItX.dropH P' a) H' := by
  refine ⟨F.keep, fun b _ n ⟨j, f, x, h1, h2, h3, h4⟩ => ?_, fun b o h => ?_, fun b h => ?_, F.there⟩
  · have nm : ∀ c fs, f ≠ .mob c fs := fun c fs z => by
      subst z
      by_cases hj : j = i
      · subst hj; rw [e0] at h1; cases h1
      · have h3 : (env.set i none)[j]? = some (some (.mob c fs)) := by rw [List.getElem?_set_ne (fun z => hj z.symm)]; exact h1
        have := List.all_eq_true.mp all _ (List.mem_of_getElem? h3)
        cases this
    have := h4.plain nm
    subst this
    exact n ⟨j, f, _, h1, h2, h3, .here⟩
  · have hb : b ≠ a := fun z => by rw [z, hp] at h; cases h
    rw [ItX.dropH_ne hb]; exact F.mono b o h
  · refine F.new b ?_
    by_cases hb : b = a
    · rw [hb, ItX.dropH_same] at h; exact absurd rfl h
    · rw [ItX.dropH_ne hb] at h; exact h
end
end Ue
set_option linter.all false
set_option Elab.async false
set_option maxRecDepth 100000
set_option maxHeartbeats 4000000
namespace Ue
open PySem PySem.Spec PyProof.Rows L2
@[simp] theorem lendM_s {i : Nat} {m : M} {env : Env} : lendM i m env = match env[i]? with
  | some (some (.own ds)) => if (env.set i none).all ownL then (match m (env.set i (some (.v (.lst ds)))) with
    | .ok d _ => if noL d then .ok d env else .stk
    | .exc c fs _ => if noLs fs then .exc c fs env else .stk
    | .stk => .stk) else .stk
  | _ => .stk := (rfl)
end Ue
set_option linter.all false
set_option Elab.async false
set_option maxRecDepth 100000
set_option maxHeartbeats 4000000
namespace PySem
section
variable {prog : Program} {w : World} {A : Around} {E : Value → Shared → Prop} {s : Shared} {l : Addr} {xs : Array (Int × Tok)}
theorem ue_iterT {Q : Value → Shared → Prop} (hl : s.heap.IsTuple l (intItems xs))
    (h : ∀ s₂ : Shared, s₂ = { s with heap := s.heap.push { cls := .type "tuple_iterator", data := .fields #[.ref l, .int 0 0] } } →
      (s₂.heap.IsTupleIter s.heap.objs.size l 0 ∧ s₂.heap.IsTuple l (intItems xs)) → (∀ b ∈ [s.heap.objs.size, l], b < s₂.heap.objs.size) → l ≠ s.heap.objs.size → Q (.ref s.heap.objs.size) s₂) :
    wpAny (model prog w) A (pyIter (.ref l)) Q E s := by
  have hlt : l < s.heap.objs.size := by obtain ⟨_, e, _⟩ := hl; exact Heap.lt_size e
  refine wpAny_pyIter_tuple hl (h _ rfl ⟨⟨_, Heap.get?_push_size _ rfl, rfl, rfl⟩, hl.push _⟩ (fun b hb => ?_) (Nat.ne_of_lt hlt))
  show b < (s.heap.push _).objs.size
  rw [Heap.size_push]
  rcases List.mem_cons.mp hb with rfl | hb
  · exact Nat.lt_succ_self _
  · rcases List.mem_cons.mp hb with rfl | hb
    · exact Nat.lt_succ_of_lt hlt
    · cases hb
theorem ue_kept {h' : Heap} (hk : ∀ b o, b ∉ [s.heap.objs.size] → (s.heap.push { cls := .type "tuple_iterator", data := .fields #[.ref l, .int 0 0] }).get? b = some o → h'.get? b = some o) :
    ∀ b o, s.heap.get? b = some o → h'.get? b = some o := fun b o e => by
  refine hk b o (fun hm => ?_) (Heap.get?_push_of_some _ e)
  rcases List.mem_cons.mp hm with e1 | hm
  · exact absurd (e1 ▸ Heap.lt_size e) (Nat.lt_irrefl _)
  · cases hm
end
end PySem
namespace L2
open PySem PySem.Spec PyProof.Rows
section
variable {X : Cx}
end
end L2
namespace Ue
open PySem L2
def listOf1 : List D → Option (List D) | [.lst ds] => some ds | [.tup ds] => some ds | _ => none
section
variable {T : Tab}
theorem listOf1_some {P H : Hp} {ds es : List D} {ns : List Int} {xs : List V} (R1 : PSub P H) (hx : Rdbs T P H ds xs) (e : listOf1 ds = some es) (q : dInts es = some ns) : ∃ a, xs = [.ref a] ∧ (SqL T.K H a (ns.map V.int) ∨ SqT T.K H a (ns.map V.int)) := by
  have key : ∀ d x, Rdb T P H d x → (d = .lst es ∨ d = .tup es) → ∃ a, [x] = [V.ref a] ∧ (SqL T.K H a (ns.map V.int) ∨ SqT T.K H a (ns.map V.int)) := fun d x h hd => by
    obtain ⟨a, vs, rfl, h1, h2⟩ := h.seqE R1 hd
    rw [dInts_ok q] at h2
    rw [Reps.ints ns h2] at h1
    exact ⟨a, rfl, h1⟩
  cases ds with
  | nil => cases e
  | cons d ds =>
    cases ds with
    | nil =>
      obtain ⟨x, rfl, h0⟩ := hx.one
      cases d with
      | lst fs => cases e; exact key _ x h0 (.inl rfl)
      | tup fs => cases e; exact key _ x h0 (.inr rfl)
      | _ => cases e
    | cons d2 ds => cases d <;> cases e
end
end Ue
set_option linter.all false
set_option Elab.async false
set_option maxRecDepth 100000
set_option maxHeartbeats 4000000
namespace Ue
open PySem PySem.Spec PyProof.Rows L2 RZ
def zipL (xs ys : List D) : List D := (List.range (min xs.length ys.length)).map fun i => D.tup [xs.getD i .non, ys.getD i .non]
section
variable {T : Tab} {W : WX} {env : Env} {σ : L2.St} {P H : Hp} {X : Cx} {ma mb : M} {a b : Expr}
def zipM (ma mb : M) : MI := fun env => (ma env).bind fun x e1 => (mb e1).bind fun y e2 => match x, y with
  | .lst xs, .lst ys => .ok (zipL xs ys) e2
  | .tup xs, .tup ys => .ok (zipL xs ys) e2
  | _, _ => .stk
@[simp] theorem zipM_s : zipM ma mb env = (ma env).bind fun x e1 => (mb e1).bind fun y e2 => match x, y with
  | .lst xs, .lst ys => .ok (zipL xs ys) e2
  | .tup xs, .tup ys => .ok (zipL xs ys) e2
  | _, _ => .stk := (rfl)
end
end Ue
set_option linter.all false
set_option Elab.async false
set_option maxRecDepth 100000
set_option maxHeartbeats 4000000
namespace PySem
open Sem (wp)
section
variable {prog : Program} {w : World} {A : Around} {E : Value → Shared → Prop} {s : Shared}
end
end PySem
set_option linter.all false
set_option Elab.async false
set_option maxRecDepth 100000
set_option maxHeartbeats 4000000
namespace PySem
section
variable {prog : Program} {w : World} {A : Around} {E : Value → Shared → Prop} {s : Shared}
end
end PySem
namespace L2
open PySem PySem.Spec PyProof.Rows
end L2
namespace Ue
open PySem PySem.Spec PyProof.Rows L2
def enumAM (m : M) : MI := fun env => (m env).bind fun d e => match d with | .lst ds => .ok (enumL ds) e | .tup ds => .ok (enumL ds) e | _ => .stk
section
variable {T : Tab} {W : WX} {env : Env} {σ : L2.St} {P H : Hp} {X : Cx} {m : M} {e : Expr}
@[simp] theorem enumAM_s : enumAM m env = (m env).bind fun d e => match d with | .lst ds => .ok (enumL ds) e | .tup ds => .ok (enumL ds) e | _ => .stk := (rfl)
end
end Ue
set_option linter.all false
set_option Elab.async false
set_option maxRecDepth 100000
set_option maxHeartbeats 4000000
namespace PySem
section
variable {prog : Program} {w : World} {A : Around} {E : Value → Shared → Prop} {s : Shared} {l : Addr} {xs : Array (Int × Tok)}
theorem ue_sumT {Q : Value → Shared → Prop} (hh : A.handled = none) (hl : s.heap.IsTuple l (intItems xs))
    (h : ∀ h' tk t', (∀ b o, s.heap.get? b = some o → h'.get? b = some o) → Q (.int (preSum (numAt xs) xs.size) t') { s with heap := h', toks := tk }) :
    wpAny (model prog w) A (call (.builtin "sum") [.ref l]) Q E s := by
  refine call_sum_walkG (ue_iterT hl fun s₂ e st hfp hlI => ?_)
  subst e
  refine ⟨_, _, _, _, _, _, numAt xs, rfl, Walks.tuple (A := A.in1) hh _ l hlI (intItems xs), st, hfp, (fun _ _ => intItems_at), fun h' tk t' hk => ?_⟩
  have := h h' tk t' (ue_kept hk)
  simpa [intItems] using this
end
end PySem
namespace L2
open PySem PySem.Spec PyProof.Rows
section
variable {X : Cx}
def rSumT (K : PySem.W.Frag) : List V → Hp → VK → Prop := fun vs H Q => ∃ (a : Addr) (ns : List Int), vs = [V.ref a] ∧ (SqL K H a (ns.map V.int) ∨ SqT K H a (ns.map V.int)) ∧ Q (.int ns.sum) H
theorem cr_sumT (hc : X.calm = true) : CallR X (.builtin "sum") (rSumT X.K) := by
  intro pins s σ H vs us Q I r h
  obtain ⟨a, ns, e, hs, q⟩ := h
  rcases hs with hs | hs
  · exact cr_sum hc pins s σ H vs us Q I r ⟨a, ns, e, hs, q⟩
  subst e
  obtain ⟨its, rv, hl, _⟩ := I.tuple hs
  rw [Vals.ref1 r]
  have hl : s.heap.IsTuple a its.toArray := hl
  have hi := rv.ints
  obtain ⟨xs, e⟩ := hi.allInts.items
  have hn : numsOf (intItems xs).toList = ns := by rw [← e]; exact hi.numsOf
  rw [nums_intItems] at hn
  rw [e] at hl
  refine PySem.ue_sumT (I.ok.hd hc) hl fun h' tk t' hk => ?_
  refine ⟨.int ns.sum, H, I.kept hk, ⟨t', ?_⟩, q⟩
  rw [preSum_eq, List.take_of_length_le (by simp), hn]
end
end L2
namespace Ue
open PySem L2
def sumAD (ds : List D) : Option D := (listOf1 ds).bind fun es => (dInts es).map fun ns => .int ns.sum
section
variable {T : Tab}
theorem cd_sumA : CallD T (rSumT T.K) .pure sumAD := fun env σ P H ds xs d Q R1 hx e k => by
  unfold sumAD at e
  cases e1 : listOf1 ds with
  | none => rw [e1] at e; cases e
  | some es =>
    rw [e1] at e
    have e : ((dInts es).map fun ns => D.int ns.sum) = some d := e
    cases q : dInts es with
    | none => rw [q] at e; cases e
    | some ns =>
      rw [q] at e
      cases e
      obtain ⟨a, rfl, h⟩ := listOf1_some R1.sub hx e1 q
      exact ⟨a, ns, rfl, h, k _ P H R1 (Fr.refl _ _ _ _) (show Rep T P _ _ from rep_int) trivial⟩
theorem sumA_l {ns : List Int} : sumAD [.lst (ns.map D.int)] = some (.int ns.sum) := by
  show (dInts (ns.map D.int)).map _ = _; rw [dInts_map]; rfl
end
end Ue
set_option linter.all false
set_option Elab.async false
set_option maxRecDepth 100000
set_option maxHeartbeats 4000000
namespace Ue
open PySem PySem.Spec PyProof.Rows L2
section
variable {X : Cx} {k : Nat} {C p g a dx : Addr} {fs : List (Str × V)} {f : Str} {fd : FuncData} {ps : List Str} {sp : Sp} {e : Expr} {pos : Pos} {ta : TE}
end
def propM (c : Nat) (F : FM) (m : M) : M := fun env => (m env).bind fun d e => match d with
  | .obj c1 fs => if c1 = c then (match callS F [] [.d (.obj c1 fs)] e with | .ok v e' => .ok v e' | _ => .stk) else .stk
  | _ => .stk
section
variable {T : Tab} {W : WX} {X : Cx} {F : FM} {k c : Nat} {m : M} {e : Expr} {pos : Pos} {f : Str} {p g : Addr} {fd : FuncData} {ps : List Str} {env : Env}
@[simp] theorem propM_s : propM c F m env = (m env).bind fun d e => match d with
  | .obj c1 fs => if c1 = c then (match callS F [] [.d (.obj c1 fs)] e with | .ok v e' => .ok v e' | _ => .stk) else .stk
  | _ => .stk := (rfl)
end
end Ue
set_option linter.all false
set_option Elab.async false
set_option maxRecDepth 100000
set_option maxHeartbeats 4000000
namespace Ue
open PySem PySem.Spec PyProof.Rows L2
section
variable {X : Cx} {Z : CXT} {k n : Nat} {C g f : Addr} {fd : FuncData} {ps : List Str} {sp : Sp} {E : L2.St → XK} {nm : Str} {pos : Pos} {a b : Expr} {ta tb : TE} {op : Operator}
end
def immD : D → Bool | .int _ => true | .bl _ => true | .non => true | .str _ => true | _ => false
def opI (c : Nat) (F : FM) (ma mb : M) : M := fun env => (ma env).bind fun x e1 => (mb e1).bind fun y e2 => match x with
  | .obj c1 fs => if c1 = c ∧ immD y = true then callS F [] [.d (.obj c1 fs), .d y] e2 else .stk
  | _ => .stk
section
variable {T : Tab} {W : WX} {env : Env} {σ : L2.St} {P H : Hp} {X : Cx} {F : FM} {k c : Nat} {ma mb : M} {a b : Expr} {pos : Pos} {f : Addr} {fd : FuncData} {ps : List Str} {nm : Str} {op : Operator}
@[simp] theorem opI_s : opI c F ma mb env = (ma env).bind fun x e1 => (mb e1).bind fun y e2 => match x with
  | .obj c1 fs => if c1 = c ∧ immD y = true then callS F [] [.d (.obj c1 fs), .d y] e2 else .stk
  | _ => .stk := (rfl)
@[simp] theorem immD_i {i : Int} : immD (.int i) = true := (rfl)
@[simp] theorem immD_b {i : Bool} : immD (.bl i) = true := (rfl)
@[simp] theorem immD_n : immD .non = true := (rfl)
@[simp] theorem immD_s {i : Str} : immD (.str i) = true := (rfl)
end
end Ue
set_option linter.all false
set_option Elab.async false
set_option maxRecDepth 100000
set_option maxHeartbeats 4000000
namespace Ue
open PySem PySem.Spec PyProof.Rows L2
section
variable {X : Cx} {pins : List (Addr × Obj)} {B : Heap} {sI s : Shared} {a : Addr} {cls : Value} {d : Option Addr} {σ : L2.St} {H : Hp} {D : Ends} {w : WX}
end
end Ue
set_option linter.all false
set_option Elab.async false
set_option maxRecDepth 100000
set_option maxHeartbeats 4000000
namespace Ue
open PySem PySem.Spec L2
def hNil : HM := fun c fs e => .exc c fs e
def hAs (caught : Nat → Option Bool) (i : Nat) (suite : MS) (rest : HM) : HM := fun c fs e => match caught c with
  | some true => if noEx e ∧ i < e.length then dropE i (suite (e.set i (some (.ex c fs)))) else .stk
  | some false => rest c fs e
  | none => .stk
def hPl (caught : Nat → Option Bool) (suite : MS) (rest : HM) : HM := fun c fs e => match caught c with
  | some true => (match suite e with | .exc _ _ _ => .stk | r => r)
  | some false => rest c fs e
  | none => .stk
def tryC (body : MS) (h : HM) : MS := fun env => match body env with
  | .exc c fs e => h c fs e
  | r => r
section
variable {T : Tab} {W : WX} {kr : Kd} {pins : List Nat} {X : Cx} {pos : Pos} {i : Nat} {D : Ends} {w : WX} {rest : HM}
end
def SR.caC (r : SR) (h : HM) : SR := match r with | .exc c fs e => h c fs e | r => r
section
variable {e : Env} {d : D} {c : Nat} {fs : List D} {h : HM}
@[simp] theorem tryC_s {s : MS} {env : Env} : tryC s h env = (s env).caC h := (rfl)
@[simp] theorem caC_nx : (SR.nx e).caC h = .nx e := (rfl)
@[simp] theorem caC_ret : (SR.ret d e).caC h = .ret d e := (rfl)
@[simp] theorem caC_exc : (SR.exc c fs e).caC h = h c fs e := (rfl)
@[simp] theorem hNil_s : hNil c fs e = .exc c fs e := (rfl)
@[simp] theorem hAs_s {caught : Nat → Option Bool} {i : Nat} {s : MS} {rest : HM} : hAs caught i s rest c fs e = match caught c with
  | some true => if noEx e ∧ i < e.length then dropE i (s (e.set i (some (.ex c fs)))) else .stk
  | some false => rest c fs e
  | none => .stk := (rfl)
@[simp] theorem hPl_s {caught : Nat → Option Bool} {s : MS} {rest : HM} : hPl caught s rest c fs e = match caught c with
  | some true => (match s e with | .exc _ _ _ => .stk | r => r)
  | some false => rest c fs e
  | none => .stk := (rfl)
end
end Ue
set_option linter.all false
set_option Elab.async false
set_option maxRecDepth 100000
set_option maxHeartbeats 4000000
namespace L2
open PySem PySem.Spec PyProof.Rows
section
variable {X : Cx}
theorem alike_ints (ns : List Int) : PySem.W.AlikeAll (ns.map PyData.int) := by
  constructor
  · intro x hx y hy
    obtain ⟨i, _, rfl⟩ := List.mem_map.mp hx
    obtain ⟨j, _, rfl⟩ := List.mem_map.mp hy
    rfl
  · intro x hx
    obtain ⟨i, _, rfl⟩ := List.mem_map.mp hx
    exact fun z => nomatch z
end
end L2
namespace Ue
open PySem PySem.Spec PyProof.Rows L2
def minDM (m : M) : M := fun env => (m env).bind fun d e => match d with
  | .lst ds => (match dInts ds with | some [] => .ok .non e | some (n :: ns) => .ok (.int (minOf (n :: ns))) e | none => .stk)
  | _ => .stk
section
variable {T : Tab} {W : WX} {X : Cx} {k : Nat} {ke : Kd} {m : M} {e : Expr} {p pos kp q : Pos} {j : Nat}
end
@[simp] theorem minDM_s {m : M} {env : Env} : minDM m env = (m env).bind fun d e => match d with
  | .lst ds => (match dInts ds with | some [] => .ok .non e | some (n :: ns) => .ok (.int (minOf (n :: ns))) e | none => .stk)
  | _ => .stk := (rfl)
end Ue
set_option linter.all false
set_option Elab.async false
set_option maxRecDepth 100000
set_option maxHeartbeats 4000000
namespace Ue
open PySem PySem.Spec PyProof.Rows L2
section
variable {prog : Program} {w : World} {A : Around} {E : Value → Shared → Prop} {s : Shared} {K : PySem.W.Frag} {a C dx f : Addr} {us : List Value} {Q : Value → Shared → Prop} {od : Option Obj}
end
section
variable {X : Cx} {Z : CXT} {k : Nat} {C f : Addr} {fd : FuncData} {ps : List Str} {ds : List Value} {dvs : List V} {sp : Sp} {E : L2.St → XK} {x : Str} {p pos : Pos} {e : Expr} {es : List Expr} {ta : TE} {t : TA}
end
section
variable {T : Tab} {W : WX} {kr : Kd} {X : Cx} {σ : L2.St} {H : Hp} {Q : VK} {c n k : Nat} {F : FM} {mo : M} {ags : List Ag} {dfl : List D} {dvs : List V} {ds : List Value} {f : Addr} {fd : FuncData} {ps : List Str} {x : Str} {p pos : Pos} {e : Expr} {es : List Expr}
end
end Ue
set_option linter.all false
set_option Elab.async false
set_option maxRecDepth 100000
set_option maxHeartbeats 4000000
namespace PySem
open Sem (wp)
end PySem
namespace Ue
open PySem PySem.Spec PyProof.Rows L2
section
variable {X : Cx} {Z : CXT} {k : Nat} {C f : Addr} {fd : FuncData} {ps : List Str} {E : L2.St → XK}
end
end Ue
set_option linter.all false
set_option Elab.async false
set_option maxRecDepth 100000
set_option maxHeartbeats 4000000
namespace Ue
open PySem PySem.Spec PyProof.Rows L2
def pickI (m : M) (a b : MI) : MI := fun env => match m env with | .ok (.obj _ _) _ => a env | _ => b env
def enumO (c j : Nat) (m : M) : MI := fun env => (m env).bind fun d e => match d with
  | .obj c1 fs => if c1 = c then (match fs[j]? with | some (.tup ds) => .ok (enumL ds) e | _ => .stk) else .stk
  | _ => .stk
section
variable {T : Tab} {W : WX} {X : Cx} {σ : L2.St} {H : Hp} {c j k : Nat} {m : M} {a b : MI} {e tg : Expr} {f : Addr} {fd : FuncData} {ps : List Str} {fl : Str} {p pos tpos : Pos} {elts : List Expr} {kk : Nat}
@[simp] theorem enumO_s {env : Env} : enumO c j m env = (m env).bind fun d e => match d with
  | .obj c1 fs => if c1 = c then (match fs[j]? with | some (.tup ds) => .ok (enumL ds) e | _ => .stk) else .stk
  | _ => .stk := (rfl)
@[simp] theorem pickI_s {env : Env} : pickI m a b env = match m env with | .ok (.obj _ _) _ => a env | _ => b env := (rfl)
end
end Ue
set_option linter.all false
set_option Elab.async false
set_option maxRecDepth 100000
set_option maxHeartbeats 4000000
namespace Ue
open PySem PySem.Spec PyProof.Rows L2
section
variable {X : Cx}
end
def dStrs : List D → Option (List Str)
  | [] => some []
  | .str s :: ds => (dStrs ds).map (s :: ·)
  | _ :: _ => none
def idxD (ds : List D) (y : D) : Option D := match y with
  | .int n => (dInts ds).bind fun ns => (ns.findIdx? (· == n)).map fun j => .int (j : Int)
  | .str n => (dStrs ds).bind fun ns => (ns.findIdx? (· == n)).map fun j => .int (j : Int)
  | .bl n => (dBls ds).bind fun ns => (ns.findIdx? (· == n)).map fun j => .int (j : Int)
  | _ => none
def idxLM (mo m : M) : M := fun env => (mo env).bind fun d e1 => match d with | .lst ds => (m e1).bind fun y e2 => liftO (idxD ds y) e2 | _ => .stk
def idxTM (ms : List M) (m : M) : M := fun env => (argsM ms env).bind fun ds e1 => if ds.length ≤ sizeLine then (m e1).bind fun y e2 => liftO (idxD ds y) e2 else .stk
section
variable {T : Tab} {W : WX} {X : Cx} {ka : Kd} {ks : List Kd} {mo m : M} {ms : List M} {o e : Expr} {os : List Expr} {apos cpos pos : Pos} {kk : Nat}
theorem After.step {α : Type} {σ : L2.St} {env : Env} {P H P' H' : Hp} {r : R α} {Q : α → Env → Hp → Hp → Prop} (h : After T W σ env P H r Q) (F1 : Fr env σ P H env σ P' H') : After T W σ env P' H' r Q := by
  cases r with
  | ok a e => exact fun P2 H2 R2 F2 => h P2 H2 R2 (F1.trans F2)
  | exc c fs e => exact fun P2 H2 cls dd R2 F2 x => h P2 H2 cls dd R2 (F1.trans F2) x
  | stk => exact h
@[simp] theorem idxLM_s {env : Env} : idxLM mo m env = (mo env).bind fun d e1 => match d with | .lst ds => (m e1).bind fun y e2 => liftO (idxD ds y) e2 | _ => .stk := (rfl)
@[simp] theorem idxTM_s {env : Env} : idxTM ms m env = (argsM ms env).bind fun ds e1 => if ds.length ≤ sizeLine then (m e1).bind fun y e2 => liftO (idxD ds y) e2 else .stk := (rfl)
end
end Ue
set_option linter.all false
set_option Elab.async false
set_option maxRecDepth 100000
set_option maxHeartbeats 4000000
namespace Ue
open PySem PySem.Spec PyProof.Rows L2
def insG (ds es : List D) : Option (D × List D) := match es with
  | [.int i, d] => if ds.length < sizeLine ∧ 0 ≤ i ∧ i < 2 ^ 63 then some (.non, ds.take i.toNat ++ [d] ++ ds.drop i.toNat) else none
  | _ => none
@[simp] theorem insG_s {ds : List D} {i : Int} {d : D} : insG ds [.int i, d] = if ds.length < sizeLine ∧ 0 ≤ i ∧ i < 2 ^ 63 then some (.non, ds.take i.toNat ++ [d] ++ ds.drop i.toNat) else none := (rfl)
end Ue
set_option linter.all false
set_option Elab.async false
set_option maxRecDepth 100000
set_option maxHeartbeats 4000000
namespace Ue
open PySem PySem.Spec PyProof.Rows L2
section
variable {X : Cx} {e st : Expr} {te : TE} {pos p2 : Pos}
end
def revM (m : M) : M := fun env => (m env).bind fun d e => match d with | .lst ds => .ok (.lst ds.reverse) e | _ => .stk
section
variable {T : Tab} {W : WX} {X : Cx} {k : Kd} {m : M} {e : Expr} {pos p2 q q2 : Pos} {j : Nat}
@[simp] theorem revM_s {env : Env} : revM m env = (m env).bind fun d e => match d with | .lst ds => .ok (.lst ds.reverse) e | _ => .stk := (rfl)
end
end Ue
set_option linter.all false
set_option Elab.async false
set_option maxRecDepth 100000
set_option maxHeartbeats 4000000
namespace Ue
open PySem PySem.Spec PyProof.Rows L2
def noSl (ss : List AD) : Bool := ss.all fun a => match a with | .d _ => true | .s _ => false
def fnNM (F : FM) (m : M) (ags : List Ag) (dfl : List D) : M := fun env => (m env).bind fun d e1 => match d with
  | .lst ds => (argG ags e1).bind fun ss e2 => (match resA ss e2 with
    | some as => if noSl ss then (match F (.own ds :: (as ++ dfl.map EV.v)) with | .ok d _ => .ok d e2 | .exc c fs _ => .exc c fs e2 | .stk => .stk) else .stk
    | none => .stk)
  | _ => .stk
section
variable {T : Tab} {W : WX} {kr : Kd} {env env' : Env} {σ : L2.St} {P H P' H' : Hp} {a : Addr} {x : EV}
end
def CRes.goN (r : CRes) (e : Env) : R D := match r with | .ok d _ => .ok d e | .exc c fs _ => .exc c fs e | .stk => .stk
section
variable {F : FM} {m : M} {ags : List Ag} {dfl : List D} {env e : Env} {d x : D} {c : Nat} {fs : List D} {as : List EV} {ss : List AD}
@[simp] theorem goN_ok : (CRes.ok d as).goN e = .ok d e := (rfl)
@[simp] theorem goN_exc : (CRes.exc c fs as).goN e = .exc c fs e := (rfl)
@[simp] theorem noSl_n : noSl [] = true := (rfl)
@[simp] theorem noSl_d : noSl (.d x :: ss) = noSl ss := by simp [noSl]
@[simp] theorem fnNM_s : fnNM F m ags dfl env = (m env).bind fun d e1 => match d with
  | .lst ds => (argG ags e1).bind fun ss e2 => (match resA ss e2 with
    | some as => if noSl ss then (F (.own ds :: (as ++ dfl.map EV.v))).goN e2 else .stk
    | none => .stk)
  | _ => .stk := (rfl)
end
end Ue
set_option linter.all false
set_option Elab.async false
set_option maxRecDepth 100000
set_option maxHeartbeats 4000000
namespace Ue
open PySem PySem.Spec PyProof.Rows L2
def inStr (x y : D) : Option Bool := match x, y with | .str i, .str j => some (!(Builtin.Str.occurrences j i 0 j.length 1).isEmpty) | _, _ => none
def notInStr (x y : D) : Option Bool := (inStr x y).map (!·)
section
variable {T : Tab} {W : WX} {X : Cx} {P H : Hp} {m : M} {e tg : Expr}
def signs (z : Str) : List D := z.cps.toList.map fun c => D.str ⟨#[c]⟩
def asStr (m : M) : MI := fun env => (m env).bind fun d e => match d with | .str z => .ok (signs z) e | _ => .stk
@[simp] theorem asStr_s {env : Env} : asStr m env = (m env).bind fun d e => match d with | .str z => .ok (signs z) e | _ => .stk := (rfl)
@[simp] theorem notInStr_s {x y : D} : notInStr x y = (inStr x y).map (!·) := (rfl)
end
end Ue
set_option linter.all false
set_option Elab.async false
set_option maxRecDepth 100000
set_option maxHeartbeats 4000000
namespace L2
open PySem PySem.Spec PyProof.Rows
section
variable {X : Cx}
end
end L2
namespace Ue
open PySem PySem.Spec PyProof.Rows L2
def insU (a : Int) : List Int → List Int
  | [] => [a]
  | b :: l => if a < b then a :: b :: l else if a = b then b :: l else b :: insU a l
def sortU (ns : List Int) : List Int := ns.foldr insU []
theorem steady_lst0 {k : Kd} : Steady k (lstM []) := by
  cases k with
  | own i =>
    intro env d env' h
    have h : (if 0 ≤ sizeLine then R.ok (D.lst []) env else .stk) = .ok d env' := h
    rw [if_pos (Nat.zero_le _)] at h
    cases h; rfl
  | _ => trivial
def sortSetM (m : M) : M := fun env => (m env).bind fun d e => match d with
  | .tup ds => (match dInts ds with | some ns => if ns.length < 60 then .ok (.lst ((sortU ns).map D.int)) e else .stk | none => .stk)
  | _ => .stk
def lenSetM (m : M) : M := fun env => (m env).bind fun d e => match d with
  | .lst ds => (match dInts ds with | some ns => if ns.length < 60 then .ok (.int ((sortU ns).length : Int)) e else .stk | none => .stk)
  | _ => .stk
section
variable {T : Tab} {W : WX} {X : Cx} {k : Kd} {m : M} {e : Expr} {p p2 q pos : Pos}
end
@[simp] theorem sortSetM_s {m : M} {env : Env} : sortSetM m env = (m env).bind fun d e => match d with
  | .tup ds => (match dInts ds with | some ns => if ns.length < 60 then .ok (.lst ((sortU ns).map D.int)) e else .stk | none => .stk)
  | _ => .stk := (rfl)
@[simp] theorem lenSetM_s {m : M} {env : Env} : lenSetM m env = (m env).bind fun d e => match d with
  | .lst ds => (match dInts ds with | some ns => if ns.length < 60 then .ok (.int ((sortU ns).length : Int)) e else .stk | none => .stk)
  | _ => .stk := (rfl)
end Ue
set_option linter.all false
set_option Elab.async false
set_option maxRecDepth 100000
set_option maxHeartbeats 4000000
namespace Ue
open PySem PySem.Spec PyProof.Rows L2
def pickS (i : Nat) (a b : MS) : MS := fun env => match env[i]? with | some (some (.own _)) => a env | _ => b env
section
variable {T : Tab} {W : WX} {kr : Kd} {pins : List Nat} {X : Cx} {st : List Stmt} {a b : MS} {i : Nat}
end
@[simp] theorem pickS_s {i : Nat} {a b : MS} {env : Ue.Env} : pickS i a b env = match env[i]? with | some (some (.own _)) => a env | _ => b env := (rfl)
end Ue
set_option linter.all false
set_option Elab.async false
set_option maxRecDepth 100000
set_option maxHeartbeats 4000000
namespace Ue
open PySem PySem.Spec PyProof.Rows L2
def kvsOf (ps : List (Int × Int)) : List (Key × V) := ps.map fun p => (Sum.inl p.1, V.int p.2)
def askI (ps : List (Int × Int)) (n : Int) : Option Int := match L2.valV (mergeK [] (kvsOf ps)) (Sum.inl n) with | some (.int v) => some v | _ => none
def dictIxM (ps : List (Int × Int)) (m : M) : M := fun env => (m env).bind fun d e => match d with
  | .int n => (match askI ps n with | some v => .ok (.int v) e | none => .stk)
  | _ => .stk
section
variable {T : Tab} {W : WX} {X : Cx} {m : M} {e : Expr} {pos q : Pos} {ps : List (Int × Int)} {keys : List (Option Expr)} {values : List Expr}
end
@[simp] theorem dictIxM_s {ps : List (Int × Int)} {m : M} {env : Ue.Env} : dictIxM ps m env = (m env).bind fun d e => match d with
  | .int n => (match askI ps n with | some v => .ok (.int v) e | none => .stk)
  | _ => .stk := (rfl)
end Ue
set_option linter.all false
set_option Elab.async false
set_option maxRecDepth 100000
set_option maxHeartbeats 4000000
namespace Ue
open PySem PySem.Spec PyProof.Rows L2
section
variable {P : Program} {w : World} {K : PySem.W.Frag} {mg : Str → Option Value} {base : Heap} {Z : CXT} {j k n : Nat} {f : Addr} {fd : FuncData} {ps N : List Str} {sp sp2 : Sp} {pv : Str}
end
def initV (n : Nat) (as : List EV) : Option (List EV) := match as.reverse with
  | .v _ :: rs => if rs.length = n then some rs.reverse else none
  | _ => none
def starF (G : FM) : FM := fun as => match G (as ++ [.v (.tup [])]) with
  | .ok d bs => (match initV as.length bs with | some cs => .ok d cs | none => .stk)
  | .exc c fs bs => (match initV as.length bs with | some cs => .exc c fs cs | none => .stk)
  | .stk => .stk
section
variable {T : Tab} {env : Ue.Env} {σ : L2.St} {P H : Hp} {d : D} {x : V}
end
section
variable {T : Tab} {N : List Str} {pins : List Nat} {prog : Program} {w : World} {K : PySem.W.Frag} {mg : Str → Option Value} {base : Heap} {f : Addr} {ps : List Str} {k n : Nat} {fr : Bool} {m : MS}
end
section
variable {X : Cx} {Z : CXT} {k n : Nat} {f : Addr} {sp : Sp} {x : Str} {p pos : Pos} {e : Expr} {es : List Expr} {t : TA} {pins : List (Addr × Obj)} {σ : L2.St} {H : Hp} {s : Shared} {Q : VK}
end
section
variable {T : Tab} {W : WX} {kr : Kd} {X : Cx} {pos : Pos} {e : Expr} {es : List Expr} {ags : List Ag}
end
@[simp] theorem starF_s {G : FM} {as : List EV} : starF G as = match G (as ++ [.v (.tup [])]) with
  | .ok d bs => (match initV as.length bs with | some cs => .ok d cs | none => .stk)
  | .exc c fs bs => (match initV as.length bs with | some cs => .exc c fs cs | none => .stk)
  | .stk => .stk := (rfl)
end Ue
set_option linter.all false
set_option Elab.async false
set_option maxRecDepth 100000
set_option maxHeartbeats 4000000
namespace Ue
open PySem PySem.Spec PyProof.Rows L2
def enumZM (ma mb : M) : MI := fun env => (zipM ma mb env).bind fun ds e => .ok (enumL ds) e
@[simp] theorem enumZM_s {ma mb : M} {env : Ue.Env} : enumZM ma mb env = (zipM ma mb env).bind fun ds e => .ok (enumL ds) e := (rfl)
end Ue
set_option linter.all false
set_option Elab.async false
set_option maxRecDepth 100000
set_option maxHeartbeats 4000000
namespace L2
open PySem PySem.Spec PyProof.Rows
section
variable {X : Cx}
end
end L2
namespace Ue
open PySem PySem.Spec PyProof.Rows L2
def mulS (a b : D) : Option D := match a, b with
  | .str z, .int n => if n ≤ 30 ∧ -30 < n ∧ z.length ≤ 30 then some (.str (Txt.mul z n)) else none
  | _, _ => none
section
variable {T : Tab}
end
@[simp] theorem mulS_s {z : Str} {n : Int} : mulS (.str z) (.int n) = if n ≤ 30 ∧ -30 < n ∧ z.length ≤ 30 then some (.str (Txt.mul z n)) else none := (rfl)
end Ue
set_option linter.all false
set_option Elab.async false
set_option maxRecDepth 100000
set_option maxHeartbeats 4000000
namespace Ue
open PySem PySem.Spec PyProof.Rows L2
end Ue
set_option linter.all false
set_option Elab.async false
set_option maxRecDepth 100000
set_option maxHeartbeats 4000000
namespace Ue
open PySem PySem.Spec PyProof.Rows L2
variable {T : Tab} {W : World} {X : Cx} {pos : Pos}
def tgQ (gs : List TGM) : TGM := fun d env => match d with | .lst ds => tgL gs ds env | _ => none
@[simp] theorem tgQ_s {gs : List TGM} {ds : List D} {env : Ue.Env} : tgQ gs (.lst ds) env = tgL gs ds env := (rfl)
end Ue
set_option linter.all false
set_option Elab.async false
set_option maxRecDepth 100000
set_option maxHeartbeats 4000000
namespace Ue
open PySem PySem.Spec PyProof.Rows L2
def askJ : List (Int × Int) → Int → Option Int
  | [], _ => none
  | p :: ps, n => if p.1 = n then some p.2 else askJ ps n
def getJM (ps : List (Int × Int)) (m : M) : M := fun env => (m env).bind fun d e => match d with
  | .int n => (match askJ ps n with | some v => .ok (.int v) e | none => .stk)
  | _ => .stk
def notJM (ps : List (Int × Int)) (m : M) : MT := fun env => (m env).bind fun d e => match d with
  | .int n => .ok (!(askJ ps n).isSome) e
  | _ => .stk
section
variable {X : Cx} {o i : Expr} {pos : Pos} {ty : TE} {q : Addr} {ps : List (Int × Int)}
end
section
variable {T : Tab} {W : WX} {X : Cx} {m : M} {e : Expr} {pos pos' : Pos} {q : Addr} {ps : List (Int × Int)} {x : Str}
end
@[simp] theorem getJM_s {ps : List (Int × Int)} {m : M} {env : Ue.Env} : getJM ps m env = (m env).bind fun d e => match d with
  | .int n => (match askJ ps n with | some v => .ok (.int v) e | none => .stk)
  | _ => .stk := (rfl)
@[simp] theorem notJM_s {ps : List (Int × Int)} {m : M} {env : Ue.Env} : notJM ps m env = (m env).bind fun d e => match d with
  | .int n => .ok (!(askJ ps n).isSome) e
  | _ => .stk := (rfl)
end Ue
set_option linter.all false
set_option Elab.async false
set_option maxRecDepth 100000
set_option maxHeartbeats 4000000
namespace Ue
open PySem PySem.Spec PyProof.Rows L2
section
variable {M : Model} {prog : Program} {w : World} {A : Around} {E : Value → Shared → Prop} {s : Shared} {K : PySem.W.Frag} {x C f : Addr} {ox : Obj} {od : Option Obj}
end
section
variable {X : Cx} {k : Nat} {C f : Addr} {fd : FuncData} {ps : List Str} {sp : Sp}
end
def cmpN (c : Nat) (F : FM) (tys : List String) (cs : List Nat) (ma mb : M) : MT := fun env => (cmpO c F tys cs ma mb env).bind fun b e => .ok (!b) e
section
variable {T : Tab} {W : WX} {σ : L2.St} {H : Hp} {X : Cx} {F : FM} {k c : Nat} {ma mb : M} {a b : Expr} {pos : Pos} {f : Addr} {fd : FuncData} {ps : List Str} {tys : List String} {cs : List Nat}
end
@[simp] theorem cmpN_s {c : Nat} {F : FM} {tys : List String} {cs : List Nat} {ma mb : M} {env : Ue.Env} : cmpN c F tys cs ma mb env = (cmpO c F tys cs ma mb env).bind fun b e => .ok (!b) e := (rfl)
end Ue
set_option linter.all false
set_option Elab.async false
set_option maxRecDepth 100000
set_option maxHeartbeats 4000000
namespace Ue
open PySem PySem.Spec PyProof.Rows L2
section
variable {T : Tab} {P P' H H' : Hp}
theorem subs_d {x : D} {fs : List FV} {v : V} {vs : List V} : subs (.d x :: fs) (v :: vs) = subs fs vs := by
  rw [subs]; intro _ _ z _; cases z
theorem subs_o {xs : List D} {fs : List FV} {b : Addr} {vs : List V} : subs (.o xs :: fs) (.ref b :: vs) = b :: subs fs vs := by rw [subs]
theorem FReps.consD {x : D} {fs : List FV} {v : V} {r : List V} (h : Rep T P x v) (k : FReps T P H fs r) : FReps T P H (.d x :: fs) (v :: r) := by rw [FReps]; exact ⟨v, r, rfl, h, k⟩
theorem FReps.consO {xs : List D} {fs : List FV} {b : Addr} {ws r : List V} (h1 : H b = some (.lst ws)) (h2 : P b = none) (h3 : Reps T P xs ws) (k : FReps T P H fs r) : FReps T P H (.o xs :: fs) (.ref b :: r) := by rw [FReps]; exact ⟨b, ws, r, rfl, h1, h2, h3, k⟩
theorem FReps.getO : ∀ {fs : List FV} {vs : List V} {j : Nat} {xs : List D}, FReps T P H fs vs → fs[j]? = some (.o xs) → ∃ b ws, vs[j]? = some (.ref b) ∧ H b = some (.lst ws) ∧ P b = none ∧ Reps T P xs ws ∧ b ∈ subs fs vs
  | [], _, _, _, _, e => by simp at e
  | .o y :: _, _, 0, x, h, e => by
    obtain ⟨b, ws, r, rfl, h1, h3, h4, _⟩ := h.oE
    simp at e; subst e
    exact ⟨b, ws, rfl, h1, h3, h4, by rw [subs_o]; exact List.mem_cons_self⟩
  | .d y :: _, _, 0, x, h, e => by simp at e
  | .d y :: _, _, j + 1, x, h, e => by
    obtain ⟨v, r, rfl, _, h2⟩ := h.dE
    obtain ⟨b, ws, h3, h4, h5, h6, h7⟩ := FReps.getO h2 (by simpa using e)
    exact ⟨b, ws, by simpa using h3, h4, h5, h6, by rw [subs_d]; exact h7⟩
  | .o y :: _, _, j + 1, x, h, e => by
    obtain ⟨b', ws', r, rfl, _, _, _, h2⟩ := h.oE
    obtain ⟨b, ws, h3, h4, h5, h6, h7⟩ := FReps.getO h2 (by simpa using e)
    exact ⟨b, ws, by simpa using h3, h4, h5, h6, by rw [subs_o]; exact List.mem_cons_of_mem _ h7⟩
theorem FReps.setO : ∀ {fs : List FV} {vs : List V} {j : Nat} {xs : List D} {b : Addr} {ws : List V}, FReps T P H fs vs → H b = some (.lst ws) → P b = none → Reps T P xs ws → j < fs.length → b ∉ subs fs vs → (subs fs vs).Nodup →
    FReps T P H (fs.set j (.o xs)) (vs.set j (.ref b)) ∧ (subs (fs.set j (.o xs)) (vs.set j (.ref b))).Nodup ∧ ∀ c ∈ subs (fs.set j (.o xs)) (vs.set j (.ref b)), c = b ∨ c ∈ subs fs vs
  | [], _, _, _, _, _, _, _, _, _, l, _, _ => by simp at l
  | .d z :: fs, _, 0, x, b, ws, h, k1, k2, k3, _, nb, nd => by
    obtain ⟨v, s, rfl, h1, h2⟩ := h.dE
    rw [subs_d] at nb nd
    rw [List.set_cons_zero, List.set_cons_zero, subs_o, subs_d]
    exact ⟨.consO k1 k2 k3 h2, List.nodup_cons.mpr ⟨nb, nd⟩, fun c hc => List.mem_cons.mp hc⟩
  | .o z :: fs, _, 0, x, b, ws, h, k1, k2, k3, _, nb, nd => by
    obtain ⟨b', ws', s, rfl, h1, h3, h4, h2⟩ := h.oE
    rw [subs_o] at nb nd
    rw [List.set_cons_zero, List.set_cons_zero, subs_o, subs_o]
    exact ⟨.consO k1 k2 k3 h2, List.nodup_cons.mpr ⟨fun q => nb (List.mem_cons_of_mem _ q), (List.nodup_cons.mp nd).2⟩, fun c hc => (List.mem_cons.mp hc).imp_right (List.mem_cons_of_mem _)⟩
  | .d z :: fs, _, j + 1, x, b, ws, h, k1, k2, k3, l, nb, nd => by
    obtain ⟨v, s, rfl, h1, h2⟩ := h.dE
    rw [subs_d] at nb nd
    obtain ⟨a1, a2, a3⟩ := FReps.setO (j := j) h2 k1 k2 k3 (by simpa using l) nb nd
    rw [List.set_cons_succ, List.set_cons_succ, subs_d, subs_d]
    exact ⟨.consD h1 a1, a2, a3⟩
  | .o z :: fs, _, j + 1, x, b, ws, h, k1, k2, k3, l, nb, nd => by
    obtain ⟨b', ws', s, rfl, h1, h3, h4, h2⟩ := h.oE
    rw [subs_o] at nb nd
    obtain ⟨n1, n2⟩ := List.nodup_cons.mp nd
    obtain ⟨a1, a2, a3⟩ := FReps.setO (j := j) h2 k1 k2 k3 (by simpa using l) (fun q => nb (List.mem_cons_of_mem _ q)) n2
    rw [List.set_cons_succ, List.set_cons_succ, subs_o, subs_o]
    refine ⟨.consO h1 h3 h4 a1, List.nodup_cons.mpr ⟨fun q => ?_, a2⟩, fun c hc => ?_⟩
    · rcases a3 _ q with q | q
      · exact nb (by rw [q]; exact List.mem_cons_self)
      · exact n1 q
    · rcases List.mem_cons.mp hc with q | q
      · exact .inr (by rw [q]; exact List.mem_cons_self)
      · exact (a3 _ q).imp_right (List.mem_cons_of_mem _)
theorem Foot.mobE {c : Nat} {fs : List FV} {C dx a b : Addr} {ns : List Str} {vs : List V} (q1 : H a = some (.ins C dx (ns.zip vs))) (q3 : vs.length ≤ ns.length) : Foot (.mob c fs) (.ref a) H b ↔ b ∈ (a :: subs fs vs) := by
  rw [List.mem_cons]
  constructor
  · rintro (h | ⟨a', C', dx', l, ha, hl, m⟩)
    · cases h; exact .inl rfl
    · cases ha; rw [q1] at hl; cases hl
      rw [zip_snd q3] at m; exact .inr m
  · rintro (rfl | m)
    · exact .here
    · exact .inr ⟨a, _, _, _, rfl, q1, by rw [zip_snd q3]; exact m⟩
variable {env : Env} {σ : L2.St}
end
end Ue
set_option linter.all false
set_option Elab.async false
set_option maxRecDepth 100000
set_option maxHeartbeats 4000000
namespace Ue
open PySem PySem.Spec PyProof.Rows L2
def FV.toD : FV → D | .d x => x | .o xs => .lst xs
def frzS (P H : Hp) (S : List Addr) : Hp := fun b => if b ∈ S then H b else P b
def dropS (P : Hp) (S : List Addr) : Hp := fun b => if b ∈ S then none else P b
mutual
def noB (ok : Nat → Bool) : D → Bool
  | .lst _ => false
  | .scr _ => false
  | .dct _ => false
  | .tpx ds => noBs ok ds
  | .tup ds => noBs ok ds
  | .obj c ds => ok c && noBs ok ds
  | .non => true
  | .bl _ => true
  | .int _ => true
  | .str _ => true
def noBs (ok : Nat → Bool) : List D → Bool
  | [] => true
  | d :: ds => noB ok d && noBs ok ds
end
def ownB (ok : Nat → Bool) : Option EV → Bool
  | some (.own ds) => noBs ok ds
  | some (.new _ fs) => noBs ok fs
  | some (.mob _ _) => false
  | _ => true
def freeD (fr : Bool) (ok : Nat → Bool) (d : D) : Bool := if fr then (match d with | .lst ds => noBs ok ds | _ => false) else noB ok d
def borM (fr : Bool) (ok : Nat → Bool) (c n i : Nat) (m : M) : M := fun env => match env[i]? with
  | some (some (.mob c' fs)) => if c' = c ∧ fs.length = n ∧ (env.set i none).all (ownB ok) = true then (match m (env.set i (some (.v (.obj c' (fs.map FV.toD))))) with
    | .ok d _ => if freeD fr ok d then .ok d env else .stk
    | .exc k gs _ => if noBs ok gs then .exc k gs env else .stk
    | .stk => .stk) else .stk
  | _ => .stk
section
variable {T : Tab} {P P2 H H2 : Hp} {S : List Addr} {C : Addr} {ok : Nat → Bool}
theorem frzS_in {b : Addr} (h : b ∈ S) : frzS P H S b = H b := by unfold frzS; rw [if_pos h]
theorem frzS_out {b : Addr} (h : b ∉ S) : frzS P H S b = P b := by unfold frzS; rw [if_neg h]
theorem dropS_out {b : Addr} (h : b ∉ S) : dropS P S b = P b := by unfold dropS; rw [if_neg h]
theorem dropS_keep {b : Addr} {u : HO} (hS : ∀ b ∈ S, (∃ ws, P b = some (.lst ws)) ∨ ∃ dx l, P b = some (.ins C dx l)) (h : P b = some u) (n1 : ∀ ws, u ≠ .lst ws) (n2 : ∀ dx l, u ≠ .ins C dx l) : dropS P S b = some u := by
  rw [dropS_out fun z => ?_]; · exact h
  rcases hS b z with ⟨ws, q⟩ | ⟨dx, l, q⟩
  · rw [h] at q; exact n1 _ (Option.some.inj q)
  · rw [h] at q; exact n2 _ _ (Option.some.inj q)
mutual
theorem Rep.dropS (hS : ∀ b ∈ S, (∃ ws, P b = some (.lst ws)) ∨ ∃ dx l, P b = some (.ins C dx l)) (hok : ∀ k, ok k = true → T.clsA k ≠ C) : ∀ (d : D) (v : V), noB ok d = true → Rep T P d v → Rep T (Ue.dropS P S) d v
  | .non, _, _, h => by rw [Rep] at h ⊢; exact h
  | .bl _, _, _, h => by rw [Rep] at h ⊢; exact h
  | .int _, _, _, h => by rw [Rep] at h ⊢; exact h
  | .str _, _, _, h => by rw [Rep] at h ⊢; exact h
  | .tup ds, _, n, h => by
    rw [Rep] at h ⊢
    rw [noB] at n
    obtain ⟨b, vs, e, h1, h2⟩ := h
    refine ⟨b, vs, e, ?_, Reps.dropS hS hok ds vs n h2⟩
    rcases h1 with h1 | h1
    · refine .inl ?_
      rcases h1 with h1 | ⟨o, h1⟩
      · exact .inl (dropS_keep hS h1 (fun _ z => nomatch z) (fun _ _ z => nomatch z))
      · exact .inr ⟨o, dropS_keep hS h1 (fun _ z => nomatch z) (fun _ _ z => nomatch z)⟩
    · exact .inr h1
  | .lst ds, _, n, h => by rw [noB] at n; cases n
  | .scr ns, _, n, h => by rw [noB] at n; cases n
  | .dct _, _, n, h => by rw [noB] at n; cases n
  | .tpx ds, _, n, h => by
    rw [Rep] at h ⊢
    rw [noB] at n
    obtain ⟨b, vs, o, e, h1, h3, h2⟩ := h
    exact ⟨b, vs, o, e, dropS_keep hS h1 (fun _ z => nomatch z) (fun _ _ z => nomatch z), h3, Reps.dropS hS hok ds vs n h2⟩
  | .obj c ds, _, n, h => by
    rw [Rep] at h ⊢
    rw [noB, Bool.and_eq_true] at n
    obtain ⟨b, dx, vs, e, h1, hl, h2⟩ := h
    exact ⟨b, dx, vs, e, dropS_keep hS h1 (fun _ z => nomatch z) (fun _ _ z => hok c n.1 (by injection z)), hl, Reps.dropS hS hok ds vs n.2 h2⟩
theorem Reps.dropS (hS : ∀ b ∈ S, (∃ ws, P b = some (.lst ws)) ∨ ∃ dx l, P b = some (.ins C dx l)) (hok : ∀ k, ok k = true → T.clsA k ≠ C) : ∀ (ds : List D) (vs : List V), noBs ok ds = true → Reps T P ds vs → Reps T (Ue.dropS P S) ds vs
  | [], _, _, h => by rw [Reps] at h ⊢; exact h
  | d :: ds, _, n, h => by
    rw [Reps] at h ⊢
    rw [noBs, Bool.and_eq_true] at n
    obtain ⟨v, r, e, h1, h2⟩ := h
    exact ⟨v, r, e, Rep.dropS hS hok d v n.1 h1, Reps.dropS hS hok ds r n.2 h2⟩
end
theorem FReps.toReps : ∀ {fs : List FV} {vs : List V}, FReps T P H fs vs → PSub P P2 → (∀ b ∈ subs fs vs, P2 b = H b) → Reps T P2 (fs.map FV.toD) vs
  | [], _, h, _, _ => by rw [FReps] at h; subst h; exact Reps.nil
  | .d x :: fs, _, h, s, k => by
    obtain ⟨v, r, rfl, h1, h2⟩ := h.dE
    exact Reps.cons (Rep.sub s _ _ h1) (h2.toReps s fun b hb => k b (by rw [subs_d]; exact hb))
  | .o xs :: fs, _, h, s, k => by
    obtain ⟨b, ws, r, rfl, h1, h3, h4, h2⟩ := h.oE
    exact Reps.cons (show Rep T P2 (.lst xs) (.ref b) from rep_lst (by rw [k b (by rw [subs_o]; exact List.mem_cons_self)]; exact h1) (Reps.sub s _ _ h4)) (h2.toReps s fun c hc => k c (by rw [subs_o]; exact List.mem_cons_of_mem _ hc))
variable {env : Env} {σ : L2.St} {i c : Nat} {fs : List FV}
theorem Rel.lendM (R : Rel T env σ P H) (e : env[i]? = some (some (.mob c fs))) (hl : fs.length = (T.clsF c).length) : ∃ a dx vs, σ[i]? = some (some (.ref a)) ∧ H a = some (.ins (T.clsA c) dx ((T.clsF c).zip vs)) ∧ FReps T P H fs vs ∧ (a :: subs fs vs).Nodup ∧ P a = none ∧ vs.length ≤ (T.clsF c).length ∧
    Rep T (frzS P H (a :: subs fs vs)) (.obj c (fs.map FV.toD)) (.ref a) ∧ Rel T (env.set i (some (.v (.obj c (fs.map FV.toD))))) σ (frzS P H (a :: subs fs vs)) H ∧ Fr env σ P H (env.set i (some (.v (.obj c (fs.map FV.toD))))) σ (frzS P H (a :: subs fs vs)) H := by
  obtain ⟨u, hu, a, dx, vs, rfl, q1, q2, q3, q4, q5⟩ := R.ent i _ e
  have hvl := q4.length
  have nS : ∀ b ∈ a :: subs fs vs, P b = none ∧ ∃ o, H b = some o := fun b hb => by
    rcases List.mem_cons.mp hb with rfl | hb
    · exact ⟨q2, _, q1⟩
    · obtain ⟨ws, w1, w2⟩ := q4.at_ hb; exact ⟨w2, _, w1⟩
  have ps : PSub P (frzS P H (a :: subs fs vs)) := fun b o h => by
    rw [frzS_out fun z => ?_]; · exact h
    rw [(nS b z).1] at h; cases h
  have rep : Rep T (frzS P H (a :: subs fs vs)) (.obj c (fs.map FV.toD)) (.ref a) := by
    rw [Rep]
    exact ⟨a, dx, vs, rfl, by rw [frzS_in List.mem_cons_self]; exact q1, by omega, q4.toReps ps fun b hb => frzS_in (List.mem_cons_of_mem _ hb)⟩
  have nx : ∀ b, OwnX env σ H i b → b ∉ a :: subs fs vs := fun b q z => q.ne R e rfl hu ((Foot.mobE q1 q3).mpr z)
  obtain ⟨R2, w1, _⟩ := R.slot (i := i) (o := some (.v (.obj c (fs.map FV.toD)))) (σ' := σ) (P' := frzS P H (a :: subs fs vs)) (H' := H) rfl (fun _ _ => rfl) ps (fun b o h => by
    by_cases hb : b ∈ a :: subs fs vs
    · rw [frzS_in hb] at h; exact h
    · rw [frzS_out hb] at h; exact R.sub b o h) (R.tabs.setP fun b q => by
    by_cases hb : b ∈ a :: subs fs vs
    · exact .inr fun ps z => (R.ownK ⟨i, _, _, e, rfl, hu, (Foot.mobE q1 q3).mpr hb⟩ z).1 ps rfl
    · rw [frzS_out hb] at q; exact .inl q) (fun b u h1 h2 => ⟨h1, by rw [frzS_out (nx b h2)]; exact (R.ownAt h2.own).choose_spec.2⟩) (fun g hg _ => by
    cases hg
    exact ⟨_, hu, rep, fun z => nomatch z⟩)
  refine ⟨a, dx, vs, hu, q1, q4, q5, q2, q3, rep, R2, fun b o h _ _ => h, fun b _ n z => ?_, ps, fun b h => ?_, fun b h => h⟩
  · rcases w1 b z with q | ⟨g, y, q, o, _⟩
    · exact n q.own
    · cases q; cases o
  · by_cases hb : b ∈ a :: subs fs vs
    · exact .inr (.inr ⟨i, _, _, e, rfl, hu, (Foot.mobE q1 q3).mpr hb⟩)
    · rw [frzS_out hb] at h; exact .inl h
variable {W : WX} {X : Cx} {m : M} {e : Expr} {fr : Bool} {n : Nat}
def frzNM (c n i : Nat) : M := fun env => match env[i]? with
  | some (some (.mob c' fs)) => if c' = c ∧ fs.length = n then .ok (.obj c' (fs.map FV.toD)) (env.set i (some (.v (.obj c' (fs.map FV.toD))))) else .stk
  | _ => .stk
end
end Ue
set_option linter.all false
set_option Elab.async false
set_option maxRecDepth 100000
set_option maxHeartbeats 4000000
namespace Ue
open PySem PySem.Spec PyProof.Rows L2
def putFs (fs : List FV) (j : Nat) (x : FV) : List FV := if j < fs.length then fs.set j x else fs ++ [x]
def matM (c i j : Nat) : M := fun env => match env[i]? with
  | some (some (.mob c' fs)) => if c' = c then (match fs[j]? with | some (.d x) => .ok x env | _ => .stk) else .stk
  | _ => .stk
def mstM (c i j : Nat) (m : M) : MS := fun env => (m env).toS fun d e => match e[i]? with
  | some (some (.mob c' fs)) => if c' = c ∧ j ≤ fs.length then .nx (e.set i (some (.mob c' (putFs fs j (.d d))))) else .stk
  | _ => .stk
def mstOM (c i j : Nat) (m : M) : MS := fun env => (m env).toS fun d e => match e[i]?, d with
  | some (some (.mob c' fs)), .lst ds => if c' = c ∧ j ≤ fs.length then .nx (e.set i (some (.mob c' (putFs fs j (.o ds))))) else .stk
  | _, _ => .stk
section
variable {T : Tab} {W : WX} {kr : Kd} {pins : List Nat} {env env' : Env} {σ σ' : L2.St} {P H P' H' : Hp} {X : Cx} {pos pos' : Pos} {o e : Expr} {m mi : M} {c i j : Nat} {f : Str}
end
end Ue
set_option linter.all false
set_option Elab.async false
set_option maxRecDepth 100000
set_option maxHeartbeats 4000000
namespace Ue
open PySem PySem.Spec PyProof.Rows L2
section
variable {T : Tab} {W : WX} {kr : Kd} {pins : List Nat} {env env' : Env} {σ σ' : L2.St} {P H P' H' : Hp} {X : Cx} {pos pos' : Pos} {o e : Expr} {m mi : M} {c i j n : Nat} {f : Str} {ok : Nat → Bool}
def msiM (ok : Nat → Bool) (c n i j : Nat) (m mi : M) : MS := fun env => (m env).toS fun d e => match e[i]? with
  | some (some (.mob c' fs)) => if c' = c ∧ fs.length = n ∧ (e.set i none).all (ownB ok) = true then (match fs[j]?, mi (e.set i (some (.v (.obj c' (fs.map FV.toD))))) with
    | some (.o ds), .ok (.int k) _ => (match ixN ds.length k with | some q => .nx (e.set i (some (.mob c' (fs.set j (.o (ds.set q d)))))) | none => .stk)
    | _, _ => .stk) else .stk
  | _ => .stk
def mgiM (ok : Nat → Bool) (c n i j : Nat) (mi : M) : M := fun env => match env[i]? with
  | some (some (.mob c' fs)) => if c' = c ∧ fs.length = n ∧ (env.set i none).all (ownB ok) = true then (match fs[j]?, mi (env.set i (some (.v (.obj c' (fs.map FV.toD))))) with
    | some (.o ds), .ok (.int k) _ => (match L2.atI ds k with | some d => .ok d env | none => .stk)
    | _, _ => .stk) else .stk
  | _ => .stk
def mfzM (c i j : Nat) : M := fun env => match env[i]? with
  | some (some (.mob c' fs)) => if c' = c then (match fs[j]? with | some (.o ds) => .ok (.lst ds) (env.set i (some (.mob c' (fs.set j (.d (.lst ds)))))) | _ => .stk) else .stk
  | _ => .stk
def mapM (ok : Nat → Bool) (c n i j : Nat) (m : M) : M := fun env => match env[i]? with
  | some (some (.mob c' fs)) => if c' = c ∧ fs.length = n ∧ (env.set i none).all (ownB ok) = true then (match fs[j]?, m (env.set i (some (.v (.obj c' (fs.map FV.toD))))) with
    | some (.o ds), .ok d _ => if noB ok d = true ∧ ds.length < sizeLine then .ok .non (env.set i (some (.mob c' (fs.set j (.o (ds ++ [d])))))) else .stk
    | _, _ => .stk) else .stk
  | _ => .stk
end
end Ue
set_option linter.all false
set_option Elab.async false
set_option maxRecDepth 100000
set_option maxHeartbeats 4000000
namespace Ue
open PySem PySem.Spec PyProof.Rows L2
def mmethM (c i : Nat) (F : FM) (ags : List Ag) (dfl : List D) : M := fun env => match env[i]? with
  | some (some (.mob c' _)) => if c' = c then (argG ags env).bind fun ss e => callS F dfl (.s i :: ss) e else .stk
  | _ => .stk
section
variable {T : Tab} {W : WX} {kr : Kd} {pins : List Nat} {env env' : Env} {σ σ' : L2.St} {P H P' H' : Hp} {X : Cx} {F : FM} {n nf c i : Nat} {dfl : List D} {dvs : List V} {Q : VK}
variable {k : Nat} {f : Addr} {fd : FuncData} {ps : List Str} {ds : List Value} {x m : Str} {p pos apos : Pos} {e o : Expr} {es : List Expr} {ags : List Ag}
end
def makeN (c nf i : Nat) (F : FM) (dfl : List D) (ss : List AD) (e : Env) : SR := match resA ss e with
  | none => .stk
  | some as => if noSl ss then (match F (.mob c [] :: (as ++ dfl.map EV.v)) with
    | .ok .non (.mob c' fs :: _) => if c' = c ∧ fs.length = nf then .nx (e.set i (some (.mob c fs))) else .stk
    | .exc k gs (.mob _ _ :: _) => .exc k gs e
    | _ => .stk) else .stk
def setNM (c nf i : Nat) (F : FM) (ags : List Ag) (dfl : List D) : MS := fun env => (argG ags env).toS fun ss e => makeN c nf i F dfl ss e
section
variable {T : Tab} {W : WX} {kr : Kd} {pins : List Nat} {env env' : Env} {σ σ' : L2.St} {P H P' H' : Hp} {X : Cx} {F : FM} {n nf c i : Nat} {dfl : List D} {dvs : List V} {Q : VK}
variable {k : Nat} {f : Addr} {fd : FuncData} {ps : List Str} {ds : List Value} {x y m : Str} {p pos pos' cpos : Pos} {e o : Expr} {es : List Expr} {ags : List Ag}
end
section
variable {m ma mb : M} {t : MT} {ms : List M}
end
end Ue
set_option linter.all false
set_option Elab.async false
set_option maxRecDepth 100000
set_option maxHeartbeats 4000000
namespace Ue
open PySem PySem.Spec PyProof.Rows L2
section
variable {c : Nat} {F : FM} {mo m1 m2 m3 : M} {dfl : List D}
end
section
variable {env : Env} {c n i j nf : Nat} {m mi : M} {ok : Nat → Bool} {fr : Bool} {F : FM} {ags : List Ag} {dfl : List D} {ss : List AD} {fs : List FV} {x : FV} {ds : List D}
@[simp] theorem toD_d {d : D} : FV.toD (.d d) = d := (rfl)
@[simp] theorem toD_o : FV.toD (.o ds) = .lst ds := (rfl)
@[simp] theorem putFs_s : putFs fs j x = if j < fs.length then fs.set j x else fs ++ [x] := (rfl)
@[simp] theorem matM_s : matM c i j env = match env[i]? with
  | some (some (.mob c' fs)) => if c' = c then (match fs[j]? with | some (.d x) => .ok x env | _ => .stk) else .stk
  | _ => .stk := (rfl)
@[simp] theorem mstM_s : mstM c i j m env = (m env).toS fun d e => match e[i]? with
  | some (some (.mob c' fs)) => if c' = c ∧ j ≤ fs.length then .nx (e.set i (some (.mob c' (putFs fs j (.d d))))) else .stk
  | _ => .stk := (rfl)
@[simp] theorem mstOM_s : mstOM c i j m env = (m env).toS fun d e => match e[i]?, d with
  | some (some (.mob c' fs)), .lst ds => if c' = c ∧ j ≤ fs.length then .nx (e.set i (some (.mob c' (putFs fs j (.o ds))))) else .stk
  | _, _ => .stk := (rfl)
@[simp] theorem msiM_s : msiM ok c n i j m mi env = (m env).toS fun d e => match e[i]? with
  | some (some (.mob c' fs)) => if c' = c ∧ fs.length = n ∧ (e.set i none).all (ownB ok) = true then (match fs[j]?, mi (e.set i (some (.v (.obj c' (fs.map FV.toD))))) with
    | some (.o ds), .ok (.int k) _ => (match ixN ds.length k with | some q => .nx (e.set i (some (.mob c' (fs.set j (.o (ds.set q d)))))) | none => .stk)
    | _, _ => .stk) else .stk
  | _ => .stk := (rfl)
@[simp] theorem mgiM_s : mgiM ok c n i j mi env = match env[i]? with
  | some (some (.mob c' fs)) => if c' = c ∧ fs.length = n ∧ (env.set i none).all (ownB ok) = true then (match fs[j]?, mi (env.set i (some (.v (.obj c' (fs.map FV.toD))))) with
    | some (.o ds), .ok (.int k) _ => (match L2.atI ds k with | some d => .ok d env | none => .stk)
    | _, _ => .stk) else .stk
  | _ => .stk := (rfl)
@[simp] theorem mfzM_s : mfzM c i j env = match env[i]? with
  | some (some (.mob c' fs)) => if c' = c then (match fs[j]? with | some (.o ds) => .ok (.lst ds) (env.set i (some (.mob c' (fs.set j (.d (.lst ds)))))) | _ => .stk) else .stk
  | _ => .stk := (rfl)
@[simp] theorem mapM_s : mapM ok c n i j m env = match env[i]? with
  | some (some (.mob c' fs)) => if c' = c ∧ fs.length = n ∧ (env.set i none).all (ownB ok) = true then (match fs[j]?, m (env.set i (some (.v (.obj c' (fs.map FV.toD))))) with
    | some (.o ds), .ok d _ => if noB ok d = true ∧ ds.length < sizeLine then .ok .non (env.set i (some (.mob c' (fs.set j (.o (ds ++ [d])))))) else .stk
    | _, _ => .stk) else .stk
  | _ => .stk := (rfl)
@[simp] theorem mmethM_s : mmethM c i F ags dfl env = match env[i]? with
  | some (some (.mob c' _)) => if c' = c then (argG ags env).bind fun ss e => callS F dfl (.s i :: ss) e else .stk
  | _ => .stk := (rfl)
@[simp] theorem makeN_s {e : Env} : makeN c nf i F dfl ss e = match resA ss e with
  | none => .stk
  | some as => if noSl ss then (match F (.mob c [] :: (as ++ dfl.map EV.v)) with
    | .ok .non (.mob c' fs :: _) => if c' = c ∧ fs.length = nf then .nx (e.set i (some (.mob c fs))) else .stk
    | .exc k gs (.mob _ _ :: _) => .exc k gs e
    | _ => .stk) else .stk := (rfl)
@[simp] theorem setNM_s : setNM c nf i F ags dfl env = (argG ags env).toS fun ss e => makeN c nf i F dfl ss e := (rfl)
@[simp] theorem borM_s : borM fr ok c n i m env = match env[i]? with
  | some (some (.mob c' fs)) => if c' = c ∧ fs.length = n ∧ (env.set i none).all (ownB ok) = true then (match m (env.set i (some (.v (.obj c' (fs.map FV.toD))))) with
    | .ok d _ => if freeD fr ok d then .ok d env else .stk
    | .exc k gs _ => if noBs ok gs then .exc k gs env else .stk
    | .stk => .stk) else .stk
  | _ => .stk := (rfl)
@[simp] theorem frzNM_s : frzNM c n i env = match env[i]? with
  | some (some (.mob c' fs)) => if c' = c ∧ fs.length = n then .ok (.obj c' (fs.map FV.toD)) (env.set i (some (.v (.obj c' (fs.map FV.toD))))) else .stk
  | _ => .stk := (rfl)
@[simp] theorem ownB_v {d : D} : ownB ok (some (.v d)) = true := (rfl)
@[simp] theorem ownB_n : ownB ok none = true := (rfl)
@[simp] theorem ownB_o : ownB ok (some (.own ds)) = noBs ok ds := (rfl)
@[simp] theorem ownB_x {k : Nat} : ownB ok (some (.ex k ds)) = true := (rfl)
@[simp] theorem freeD_t : freeD true ok (.lst ds) = noBs ok ds := (rfl)
@[simp] theorem freeD_f {d : D} : freeD false ok d = noB ok d := (rfl)
@[simp] theorem noBs_n : noBs ok [] = true := (rfl)
@[simp] theorem noBs_c {d : D} : noBs ok (d :: ds) = (noB ok d && noBs ok ds) := (rfl)
@[simp] theorem noB_i {k : Int} : noB ok (.int k) = true := (rfl)
@[simp] theorem noB_b {k : Bool} : noB ok (.bl k) = true := (rfl)
@[simp] theorem noB_s {k : Str} : noB ok (.str k) = true := (rfl)
@[simp] theorem noB_n : noB ok .non = true := (rfl)
@[simp] theorem noB_t : noB ok (.tup ds) = noBs ok ds := (rfl)
@[simp] theorem noB_o : noB ok (.obj c ds) = (ok c && noBs ok ds) := (rfl)
end
end Ue
set_option linter.all false
set_option Elab.async false
set_option maxRecDepth 100000
set_option maxHeartbeats 4000000
namespace Ue
open PySem PySem.Spec PyProof.Rows L2
def lrgM (m : M) : M := fun env => (m env).bind fun d e => match d with
  | .int n => if 0 ≤ n ∧ n ≤ 16777216 then .ok (.lst (rngL 0 n.toNat)) e else .stk
  | _ => .stk
@[simp] theorem lrgM_s {m : M} {env : Env} : lrgM m env = (m env).bind fun d e => match d with
  | .int n => if 0 ≤ n ∧ n ≤ 16777216 then .ok (.lst (rngL 0 n.toNat)) e else .stk
  | _ => .stk := (rfl)
section
variable {T : Tab} {W : WX} {X : Cx} {e : Expr} {m : M} {k : Kd}
end
end Ue
set_option linter.all false
set_option Elab.async false
set_option maxRecDepth 100000
set_option maxHeartbeats 4000000
namespace Ue
open PySem PySem.Spec PyProof.Rows L2
def dataL : List EV → Option (List D)
  | [] => some []
  | .v d :: as => (dataL as).map (d :: ·)
  | _ :: _ => none
@[simp] theorem dataL_n : dataL [] = some [] := (rfl)
@[simp] theorem dataL_v {d : D} {as : List EV} : dataL (.v d :: as) = (dataL as).map (d :: ·) := (rfl)
def starD (n j : Nat) (dfl : List D) (G : FM) : FM := fun as => match dataL as with
  | some ds => (match G ((ds.take n ++ (dfl ++ [D.tup (ds.drop n)])).map EV.v) with
    | .ok d _ => .ok d as
    | .exc c fs _ => .exc c fs as
    | .stk => .stk)
  | none => .stk
@[simp] theorem starD_s {n j : Nat} {dfl : List D} {G : FM} {as : List EV} : starD n j dfl G as = match dataL as with
  | some ds => (match G ((ds.take n ++ (dfl ++ [D.tup (ds.drop n)])).map EV.v) with
    | .ok d _ => .ok d as
    | .exc c fs _ => .exc c fs as
    | .stk => .stk)
  | none => .stk := (rfl)
section
variable {T : Tab} {P H P' H' : Hp}
end
section
variable {P : Program} {w : World} {K : PySem.W.Frag} {mg : Str → Option Value} {base : Heap} {Z : CXT} {j k n : Nat} {f : Addr} {fd : FuncData} {ps N : List Str} {sp sp2 : Sp} {pv : Str}
end
section
variable {N : List Str} {pins : List Nat} {prog : Program} {w : World} {K : PySem.W.Frag} {mg : Str → Option Value} {base : Heap} {f : Addr} {ps : List Str} {k n : Nat} {fr : Bool} {m : MS} {T : Tab}
end
section
variable {K : PySem.W.Frag} {f : Addr} {ps : List Str} {x qual pv : Str} {params : Arguments} {body : List Stmt} {scope : Scope} {kws : List (Str × V)} {fd : FuncData}
end
end Ue
set_option linter.all false
set_option Elab.async false
set_option maxRecDepth 100000
set_option maxHeartbeats 4000000
namespace PySem
open PySem.Spec L2
section
variable {P : Program} {w : World} {A : Around} {E : Value → Shared → Prop} {s : Shared}
end
end PySem
namespace L2
open PySem PySem.Spec PyProof.Rows
end L2
namespace Ue
open PySem PySem.Spec PyProof.Rows L2
def sortLSM (m : M) : M := fun env => (m env).bind fun d e => match d with
  | .lst ds => (match dInts ds with | some ns => if ns.length < 60 then .ok (.lst ((sortU ns).map D.int)) e else .stk | none => .stk)
  | _ => .stk
@[simp] theorem sortLSM_s {m : M} {env : Env} : sortLSM m env = (m env).bind fun d e => match d with
  | .lst ds => (match dInts ds with | some ns => if ns.length < 60 then .ok (.lst ((sortU ns).map D.int)) e else .stk | none => .stk)
  | _ => .stk := (rfl)
section
variable {T : Tab} {W : WX} {X : Cx} {k : Kd} {m : M} {e : Expr} {p p2 q pos : Pos}
end
end Ue
set_option linter.all false
set_option Elab.async false
set_option maxRecDepth 100000
set_option maxHeartbeats 4000000
namespace Ue
open PySem PySem.Spec PyProof.Rows L2
def starK (n j : Nat) (G : FM) : FM := fun as => match dataL as with
  | some ds => (match G ((ds.take n ++ (ds.drop (n + j) ++ [D.tup ((ds.drop n).take j)])).map EV.v) with
    | .ok d _ => .ok d as
    | .exc c fs _ => .exc c fs as
    | .stk => .stk)
  | none => .stk
@[simp] theorem starK_s {n j : Nat} {G : FM} {as : List EV} : starK n j G as = match dataL as with
  | some ds => (match G ((ds.take n ++ (ds.drop (n + j) ++ [D.tup ((ds.drop n).take j)])).map EV.v) with
    | .ok d _ => .ok d as
    | .exc c fs _ => .exc c fs as
    | .stk => .stk)
  | none => .stk := (rfl)
section
variable {P : Program} {w : World} {K : PySem.W.Frag} {mg : Str → Option Value} {base : Heap} {Z : CXT} {j k n : Nat} {f : Addr} {fd : FuncData} {ps N : List Str} {sp sp2 : Sp} {pv nm : Str}
end
section
variable {N : List Str} {pins : List Nat} {prog : Program} {w : World} {K : PySem.W.Frag} {mg : Str → Option Value} {base : Heap} {f : Addr} {ps : List Str} {k n : Nat} {fr : Bool} {m : MS} {T : Tab}
end
section
variable {X : Cx} {Z : CXT} {k n : Nat} {f : Addr} {sp : Sp} {x nm : Str} {p pos : Pos} {e : Expr} {es : List Expr} {kws : List Keyword} {t tk : TA}
end
def fnKM (F : FM) (ags kgs : List Ag) : M := fun env => (argG ags env).bind fun ss e => (argG kgs e).bind fun zs e2 => callS F [] (ss ++ zs) e2
@[simp] theorem fnKM_s {F : FM} {ags kgs : List Ag} {env : Env} : fnKM F ags kgs env = (argG ags env).bind fun ss e => (argG kgs e).bind fun zs e2 => callS F [] (ss ++ zs) e2 := (rfl)
section
variable {T : Tab} {W : WX} {kr : Kd} {σ : L2.St} {H : Hp} {X : Cx} {F : FM} {n : Nat} {Q : VK} {ags kgs : List Ag}
end
end Ue
set_option linter.all false
set_option Elab.async false
set_option maxRecDepth 100000
set_option maxHeartbeats 4000000
namespace L2
open PySem PySem.Spec PyProof.Rows
end L2
namespace L2
open PySem PySem.Spec PyProof.Rows
end L2
namespace Ue
open PySem PySem.Spec PyProof.Rows L2
def zipTL (ma mb : M) : MI := fun env => (ma env).bind fun x e1 => (mb e1).bind fun y e2 => match x, y with
  | .tup xs, .lst ys => .ok (zipL xs ys) e2
  | _, _ => .stk
section
variable {T : Tab} {W : WX} {env : Env} {σ : L2.St} {P H : Hp} {X : Cx} {ma mb : M} {a b : Expr}
@[simp] theorem zipTL_s : zipTL ma mb env = (ma env).bind fun x e1 => (mb e1).bind fun y e2 => match x, y with
  | .tup xs, .lst ys => .ok (zipL xs ys) e2
  | _, _ => .stk := (rfl)
end
end Ue
set_option linter.all false
set_option Elab.async false
set_option maxRecDepth 100000
set_option maxHeartbeats 4000000
namespace Ue
open PySem PySem.Spec PyProof.Rows L2
section
variable {X : Cx} {k1 k2 : Nat} {C1 C2 p1 p2 g1 g2 : Addr} {f : Str} {fd1 fd2 : FuncData} {ps1 ps2 : List Str} {sp1 sp2 : Sp} {e : Expr} {pos : Pos} {ta : TE}
end
def propUM (c1 : Nat) (F1 : FM) (c2 : Nat) (F2 : FM) (m : M) : M := fun env => (m env).bind fun d e => match d with
  | .obj c fs => if c = c1 then (match callS F1 [] [.d (.obj c1 fs)] e with | .ok v e' => .ok v e' | _ => .stk) else if c = c2 then (match callS F2 [] [.d (.obj c2 fs)] e with | .ok v e' => .ok v e' | _ => .stk) else .stk
  | _ => .stk
section
variable {T : Tab} {W : WX} {X : Cx} {F1 F2 : FM} {k1 k2 c1 c2 : Nat} {m : M} {e : Expr} {pos : Pos} {f : Str} {p1 p2 g1 g2 : Addr} {fd1 fd2 : FuncData} {ps1 ps2 : List Str} {env : Env}
@[simp] theorem propUM_s : propUM c1 F1 c2 F2 m env = (m env).bind fun d e => match d with
  | .obj c fs => if c = c1 then (match callS F1 [] [.d (.obj c1 fs)] e with | .ok v e' => .ok v e' | _ => .stk) else if c = c2 then (match callS F2 [] [.d (.obj c2 fs)] e with | .ok v e' => .ok v e' | _ => .stk) else .stk
  | _ => .stk := (rfl)
end
end Ue
set_option linter.all false
set_option Elab.async false
set_option maxRecDepth 100000
set_option maxHeartbeats 4000000
namespace Ue
open PySem PySem.Spec PyProof.Rows L2
def StillO (j : Nat) (m : M) : Prop := ∀ env d e xs, m env = .ok d e → e[j]? = some (some (.own xs)) → e = env.set j (some (.own xs))
def lendF (i j : Nat) (m : M) : M := fun env => match env[i]? with
  | some (some (.own ds)) => if i ≠ j ∧ (env.set i none).all ownL = true then (match m (env.set i (some (.v (.lst ds)))) with
    | .ok (.lst es) e => (match e[j]? with
      | some (some (.own xs)) => if noLs es = true ∧ noLs xs = true then .ok (.lst es) (env.set j (some (.own xs))) else .stk
      | _ => .stk)
    | _ => .stk) else .stk
  | _ => .stk
@[simp] theorem lendF_s {i j : Nat} {m : M} {env : Env} : lendF i j m env = match env[i]? with
  | some (some (.own ds)) => if i ≠ j ∧ (env.set i none).all ownL = true then (match m (env.set i (some (.v (.lst ds)))) with
    | .ok (.lst es) e => (match e[j]? with
      | some (some (.own xs)) => if noLs es = true ∧ noLs xs = true then .ok (.lst es) (env.set j (some (.own xs))) else .stk
      | _ => .stk)
    | _ => .stk) else .stk
  | _ => .stk := (rfl)
section
variable {T : Tab} {W : WX} {env : Env} {σ : L2.St} {P H H' P' : Hp} {X : Cx} {i j : Nat} {m : M} {e : Expr} {ds xs : List D} {a : Addr} {vs : List V}
theorem set_two (hij : i ≠ j) {f : EV} {u : Option EV} {l : Nat} (hl : l ≠ i) (h : (env.set j (some f))[l]? = some u) : ((env.set i (some (.v (.lst ds)))).set j (some f))[l]? = some u := by
  by_cases hj : l = j
  · subst hj
    have hlt : l < env.length := by
      rcases Nat.lt_or_ge l env.length with q | q
      · exact q
      · rw [List.getElem?_eq_none (by rw [List.length_set]; exact q)] at h; cases h
    rw [List.getElem?_set_self hlt] at h
    rw [List.getElem?_set_self (by rw [List.length_set]; exact hlt)]; exact h
  · rw [List.getElem?_set_ne (fun z => hj z.symm)] at h
    rw [List.getElem?_set_ne (fun z => hj z.symm), List.getElem?_set_ne (fun z => hl z.symm)]; exact h
theorem Rel.unlendF (R : Rel T env σ P H) (e0 : env[i]? = some (some (.own ds))) (hs : σ[i]? = some (some (V.ref a))) (hp : P a = none) (hr : Reps T P ds vs) (all : (env.set i none).all ownL = true) (hij : i ≠ j) (nx : noLs xs = true)
    (R2 : Rel T ((env.set i (some (.v (.lst ds)))).set j (some (.own xs))) σ P' H') (hP : PSub P P') (ha : P' a = some (.lst vs)) : Rel T (env.set j (some (.own xs))) σ (ItX.dropH P' a) H' := by
  have sub : PSub P (ItX.dropH P' a) := fun b o h => by
    have hb : b ≠ a := fun z => by rw [z, hp] at h; cases h
    rw [ItX.dropH_ne hb]; exact hP b o h
  have ei : (env.set j (some (.own xs)))[i]? = some (some (.own ds)) := by rw [List.getElem?_set_ne hij.symm]; exact e0
  have nm : ∀ (l : Nat) (f : EV), (env.set j (some (.own xs)))[l]? = some (some f) → ∀ c fs, f ≠ .mob c fs := fun l f h c fs z => by
    subst z
    by_cases hj : l = j
    · subst hj
      have h2 := set_two (ds := ds) hij (fun z => hij z.symm) h
      have hlt : l < env.length := by
        rcases Nat.lt_or_ge l env.length with q | q
        · exact q
        · rw [List.getElem?_eq_none (by rw [List.length_set]; exact q)] at h; cases h
      rw [List.getElem?_set_self hlt] at h; cases h
    · rw [List.getElem?_set_ne (fun z => hj z.symm)] at h
      by_cases hi : l = i
      · subst hi; rw [e0] at h; cases h
      · have h3 : (env.set i none)[l]? = some (some (.mob c fs)) := by rw [List.getElem?_set_ne (fun z => hi z.symm)]; exact h
        have := List.all_eq_true.mp all _ (List.mem_of_getElem? h3)
        cases this
  have ownAt : ∀ (l : Nat) (f : EV) (x : V) (b : Addr), l ≠ i → (env.set j (some (.own xs)))[l]? = some (some f) → f.isOwn = true → σ[l]? = some (some x) → Foot f x H' b → P' b = none := fun l f x b hl h o s t => by
    have h2 := set_two (ds := ds) hij hl h
    obtain ⟨v, hv, r⟩ := R2.ent l f h2
    rw [s] at hv; cases hv
    have := t.plain (nm l f h)
    subst this
    cases f with
    | own es => obtain ⟨b', ws, q1, q2, q3, q4⟩ := r; cases q1; exact q3
    | new c fs => obtain ⟨b', dx, ws, q1, q2, q3, q4⟩ := r; cases q1; exact q3
    | mob c fs => exact absurd rfl (nm l _ h c fs)
    | v d => cases o
    | ex c fs => cases o
  refine ⟨fun b o h => ?_, fun l f h => ?_, fun l1 l2 f g x y b n h1 h2 o1 o2 s1 s2 t1 t2 => ?_, by rw [List.length_set]; exact R.len, R2.tabs.setP fun b q => .inl fun z => q (by
    by_cases hb : b = a
    · rw [hb]; exact ItX.dropH_same
    · rw [ItX.dropH_ne hb]; exact z)⟩
  · by_cases hb : b = a
    · rw [hb, ItX.dropH_same] at h; cases h
    · rw [ItX.dropH_ne hb] at h; exact R2.sub b o h
  · by_cases hi : l = i
    · subst hi
      rw [ei] at h; cases h
      exact ⟨_, hs, a, vs, rfl, R2.sub _ _ ha, ItX.dropH_same, Reps.sub sub _ _ hr⟩
    · have h2 := set_two (ds := ds) hij hi h
      obtain ⟨v, hv, r⟩ := R2.ent l f h2
      refine ⟨v, hv, ?_⟩
      by_cases hj : l = j
      · subst hj
        have hlt : l < env.length := by
          rcases Nat.lt_or_ge l env.length with q | q
          · exact q
          · rw [List.getElem?_eq_none (by rw [List.length_set]; exact q)] at h; cases h
        rw [List.getElem?_set_self hlt] at h; cases h
        obtain ⟨b, ws, q1, q2, q3, q4⟩ := r
        refine ⟨b, ws, q1, q2, ?_, Reps.dropL ha xs ws nx q4⟩
        by_cases hb : b = a
        · rw [hb, ItX.dropH_same]
        · rw [ItX.dropH_ne hb]; exact q3
      · have h4 : env[l]? = some (some f) := by rw [List.getElem?_set_ne (fun z => hj z.symm)] at h; exact h
        have h3 : (env.set i none)[l]? = some (some f) := by rw [List.getElem?_set_ne (fun z => hi z.symm)]; exact h4
        have hn : ownL (some f) = true := List.all_eq_true.mp all _ (List.mem_of_getElem? h3)
        obtain ⟨v0, hv0, r0⟩ := R.ent l f h4
        rw [hv] at hv0; cases hv0
        cases f with
        | v d => exact Rep.sub sub d v r0
        | own es =>
          obtain ⟨b, ws, q1, q2, q3, q4⟩ := r
          refine ⟨b, ws, q1, q2, ?_, Reps.dropL ha es ws hn q4⟩
          by_cases hb : b = a
          · rw [hb, ItX.dropH_same]
          · rw [ItX.dropH_ne hb]; exact q3
        | new c fs =>
          obtain ⟨b, dx, ws, q1, q2, q3, q4, q5⟩ := r
          refine ⟨b, dx, ws, q1, q2, ?_, q4, Reps.dropL ha fs ws hn q5⟩
          by_cases hb : b = a
          · rw [hb, ItX.dropH_same]
          · rw [ItX.dropH_ne hb]; exact q3
        | mob c fs => cases hn
        | ex c fs =>
          intro b d cls hc
          obtain ⟨q1, q2, q3⟩ := r0 b d cls hc
          refine ⟨q1, q2, q3.imp_right fun ⟨dx, xfs, ws, z1, z2, z3, z4⟩ => ⟨dx, xfs, ws, z1, sub _ _ z2, z3, Reps.sub sub _ _ z4⟩⟩
  · have atI : ∀ (g : EV) (x : V) (l : Nat), l = i → (env.set j (some (.own xs)))[l]? = some (some g) → σ[l]? = some (some x) → Foot g x H' b → b = a := fun g x l hl h s t => by
      subst hl
      have := t.plain (nm l g h)
      subst this
      rw [hs] at s; cases s; rfl
    by_cases hi1 : l1 = i
    · have hi2 : l2 ≠ i := fun z => n (hi1.trans z.symm)
      have e1 := atI f x l1 hi1 h1 s1 t1
      have e2 := ownAt l2 g y b hi2 h2 o2 s2 t2
      rw [e1, ha] at e2; cases e2
    · by_cases hi2 : l2 = i
      · have e1 := atI g y l2 hi2 h2 s2 t2
        have e2 := ownAt l1 f x b hi1 h1 o1 s1 t1
        rw [e1, ha] at e2; cases e2
      · exact R2.dis l1 l2 f g x y b n (set_two (ds := ds) hij hi1 h1) (set_two (ds := ds) hij hi2 h2) o1 o2 s1 s2 t1 t2
theorem Fr.unlendF (R : Rel T env σ P H) (all : (env.set i none).all ownL = true) (hij : i ≠ j) (e0 : env[i]? = some (some (.own ds))) (hs : σ[i]? = some (some (V.ref a))) (hp : P a = none) (F : Fr env σ P H ((env.set i (some (.v (.lst ds)))).set j (some (.own xs))) σ P' H') : Fr env σ P H (env.set j (some (.own xs))) σ (ItX.dropH P' a) H' := by
  refine ⟨F.keep, fun b hb n ⟨l, f, x, h1, h2, h3, h4⟩ => ?_, fun b o h => ?_, fun b h => ?_, F.there⟩
  · by_cases hi : l = i
    · subst hi
      rw [List.getElem?_set_ne hij.symm, e0] at h1; cases h1
      have := h4.plain fun _ _ z => by cases z
      subst this
      exact n ⟨l, _, _, e0, rfl, h3, .here⟩
    · exact F.own b hb n ⟨l, f, x, set_two (ds := ds) hij hi h1, h2, h3, h4⟩
  · have hb : b ≠ a := fun z => by rw [z, hp] at h; cases h
    rw [ItX.dropH_ne hb]; exact F.mono b o h
  · refine F.new b ?_
    by_cases hb : b = a
    · rw [hb, ItX.dropH_same] at h; exact absurd rfl h
    · rw [ItX.dropH_ne hb] at h; exact h
end
end Ue
set_option linter.all false
set_option Elab.async false
set_option maxRecDepth 100000
set_option maxHeartbeats 4000000
namespace Ue
open PySem PySem.Spec PyProof.Rows L2
def repT (a b : D) : Option D := match a, b with
  | .tup (d :: i), .int k => if 2 ≤ k ∧ k ≤ 1000 ∧ i.length < 1000 then some (.tup (List.replicate k.toNat (d :: i)).flatten) else none
  | _, _ => none
@[simp] theorem repT_s {d : D} {i : List D} {k : Int} : repT (.tup (d :: i)) (.int k) = if 2 ≤ k ∧ k ≤ 1000 ∧ i.length < 1000 then some (.tup (List.replicate k.toNat (d :: i)).flatten) else none := (rfl)
end Ue
set_option linter.all false
set_option Elab.async false
set_option maxRecDepth 100000
set_option maxHeartbeats 4000000
namespace L2
open PySem PySem.Spec PyProof.Rows
end L2
namespace Ue
open PySem PySem.Spec PyProof.Rows L2
def sortASM (m : M) : M := fun env => (m env).bind fun d e => match d with
  | .lst ds => (match dInts ds with | some ns => if ns.length < 60 then .ok (.lst ((sortU ns).map D.int)) e else .stk | none => .stk)
  | .tup ds => (match dInts ds with | some ns => if ns.length < 60 then .ok (.lst ((sortU ns).map D.int)) e else .stk | none => .stk)
  | _ => .stk
@[simp] theorem sortASM_s {m : M} {env : Env} : sortASM m env = (m env).bind fun d e => match d with
  | .lst ds => (match dInts ds with | some ns => if ns.length < 60 then .ok (.lst ((sortU ns).map D.int)) e else .stk | none => .stk)
  | .tup ds => (match dInts ds with | some ns => if ns.length < 60 then .ok (.lst ((sortU ns).map D.int)) e else .stk | none => .stk)
  | _ => .stk := (rfl)
section
variable {T : Tab} {W : WX} {X : Cx} {k : Kd} {m : M} {e : Expr} {p p2 q pos : Pos}
end
end Ue
set_option linter.all false
set_option Elab.async false
set_option maxRecDepth 100000
set_option maxHeartbeats 4000000
namespace Ue
open PySem PySem.Spec PyProof.Rows L2
def argX : List M → M → Env → R (List D)
  | [], mx => fun e => (mx e).bind fun d e2 => match d with
    | .tup xs => .ok xs e2
    | .lst xs => .ok xs e2
    | _ => .stk
  | m :: ms, mx => fun e => (m e).bind fun d e1 => (argX ms mx e1).bind fun ds e2 => .ok (d :: ds) e2
def fnXM (F : Nat → FM) (n : Nat) (ms : List M) (mx : M) : M := fun env => (argX ms mx env).bind fun ds e =>
  if n ≤ ds.length ∧ ds.length ≤ n + 4000 then (match F (ds.length - n) (ds.map EV.v) with
    | .ok d _ => .ok d e
    | .exc c fs _ => .exc c fs e
    | .stk => .stk) else .stk
@[simp] theorem argX_n {mx : M} {e : Env} : argX [] mx e = (mx e).bind fun d e2 => match d with
    | .tup xs => .ok xs e2
    | .lst xs => .ok xs e2
    | _ => .stk := (rfl)
@[simp] theorem argX_c {m : M} {ms : List M} {mx : M} {e : Env} : argX (m :: ms) mx e = (m e).bind fun d e1 => (argX ms mx e1).bind fun ds e2 => .ok (d :: ds) e2 := (rfl)
@[simp] theorem fnXM_s {F : Nat → FM} {n : Nat} {ms : List M} {mx : M} {env : Env} : fnXM F n ms mx env = (argX ms mx env).bind fun ds e =>
  if n ≤ ds.length ∧ ds.length ≤ n + 4000 then (match F (ds.length - n) (ds.map EV.v) with
    | .ok d _ => .ok d e
    | .exc c fs _ => .exc c fs e
    | .stk => .stk) else .stk := (rfl)
section
variable {T : Tab} {W : WX} {kr : Kd} {X : Cx} {pos p : Pos} {e : Expr} {es : List Expr} {m mx : M} {ms : List M}
end
section
variable {X : Cx} {Z : CXT} {k n : Nat} {f : Addr} {sp : Nat → Sp} {x : Str} {p pos : Pos} {e : Expr} {es : List Expr} {t : TA} {pins : List (Addr × Obj)} {σ : L2.St} {H : Hp} {s : Shared} {Q : VK}
end
section
variable {T : Tab} {W : WX} {kr : Kd} {X : Cx} {pos : Pos} {e : Expr} {es : List Expr} {m mx : M} {ms : List M}
end
end Ue
set_option linter.all false
set_option Elab.async false
set_option maxRecDepth 100000
set_option maxHeartbeats 4000000
namespace L2
open PySem PySem.Spec PyProof.Rows
end L2
namespace Ue
open PySem PySem.Spec PyProof.Rows L2
def atK : List Int → List D → Int → Option D
  | k :: ks, d :: ds, n => if k = n then some d else atK ks ds n
  | _, _, _ => none
def dictDM (ks : List Int) (ms : List M) (m : M) : M := fun env => (argsM ms env).bind fun ds e1 => (m e1).bind fun d e => match d with
  | .int n => (match atK ks ds n with | some v => .ok v e | none => .stk)
  | _ => .stk
@[simp] theorem dictDM_s {ks : List Int} {ms : List M} {m : M} {env : Ue.Env} : dictDM ks ms m env = (argsM ms env).bind fun ds e1 => (m e1).bind fun d e => match d with
  | .int n => (match atK ks ds n with | some v => .ok v e | none => .stk)
  | _ => .stk := (rfl)
@[simp] theorem atK_c {k n : Int} {ks : List Int} {d : D} {ds : List D} : atK (k :: ks) (d :: ds) n = if k = n then some d else atK ks ds n := (rfl)
section
variable {T : Tab} {W : WX}
theorem Fr.put {env env' : Env} {σ σ' : L2.St} {P H P' H' : Hp} {p : Addr} {o : HO} (F : Fr env σ P H env' σ' P' H') (hp : H p = none) (hw : ∀ b, Own env' σ' (upd H' p o) b ↔ Own env' σ' H' b) : Fr env σ P H env' σ' P' (upd H' p o) :=
  ⟨fun b u e n t => by rw [upd_ne (ne_of_none e hp)]; exact F.keep b u e n t, fun b h n z => F.own b h n ((hw b).mp z), F.mono, F.new, fun b h => by
    by_cases e : b = p
    · subst e; rw [upd_same]; exact fun z => nomatch z
    · rw [upd_ne e]; exact F.there b h⟩
variable {X : Cx} {m : M} {e : Expr} {pos q : Pos} {ks : List Int} {ms : List M} {keys : List (Option Expr)} {values : List Expr}
end
end Ue
set_option linter.all false
set_option Elab.async false
set_option maxRecDepth 100000
set_option maxHeartbeats 4000000
namespace Ue
open PySem PySem.Spec PyProof.Rows L2
end Ue
set_option linter.all false
set_option Elab.async false
set_option maxRecDepth 100000
set_option maxHeartbeats 4000000
namespace Ue
open PySem PySem.Spec PyProof.Rows L2
def stayS (i : Nat) : MS := fun env => match env[i]? with | some (some (.own ds)) => .nx (env.set i (some (.v (.lst ds)))) | _ => .nx env
section
variable {T : Tab} {W : WX} {kr : Kd} {pins : List Nat} {X : Cx} {st : List Stmt} {s1 : Stmt} {a : MS} {i : Nat}
end
@[simp] theorem stayS_s {i : Nat} {env : Ue.Env} : stayS i env = match env[i]? with | some (some (.own ds)) => .nx (env.set i (some (.v (.lst ds)))) | _ => .nx env := (rfl)
end Ue
set_option linter.all false
set_option Elab.async false
set_option maxRecDepth 100000
set_option maxHeartbeats 4000000
namespace L2
open PySem PySem.Spec PyProof.Rows
end L2
namespace Ue
open PySem PySem.Spec PyProof.Rows L2
variable {T : Tab}
section
variable {W : WX} {env : Env} {σ : L2.St} {P H H' P' : Hp} {X : Cx} {i j : Nat} {m : M} {e : Expr} {ds xs : List D} {a : Addr} {vs : List V}
end
section
variable {T : Tab} {W : WX} {kr : Kd} {pins : List Nat} {X : Cx} {pos : Pos} {tg : Expr}
variable {i ia ja : Nat} {y : Str} {py spos : Pos} {elt iter : Expr} {ifs : List Expr} {scope : Scope} {own : List (Str × Nat)} {mi : MI} {g : TGM} {tt : MT} {te : M} {sl : List Nat}
end
end Ue
set_option linter.all false
set_option Elab.async false
set_option maxRecDepth 100000
set_option maxHeartbeats 4000000
namespace Ue
open PySem PySem.Spec PyProof.Rows L2
def tgX (gs : List TGM) : TGM := fun d env => match d with | .lst ds => tgL gs ds env | .tup ds => tgL gs ds env | _ => none
@[simp] theorem tgX_l {gs : List TGM} {ds : List D} {env : Ue.Env} : tgX gs (.lst ds) env = tgL gs ds env := (rfl)
@[simp] theorem tgX_t {gs : List TGM} {ds : List D} {env : Ue.Env} : tgX gs (.tup ds) env = tgL gs ds env := (rfl)
end Ue
set_option linter.all false
set_option Elab.async false
set_option maxRecDepth 100000
set_option maxHeartbeats 4000000
namespace Ue
open PySem PySem.Spec PyProof.Rows L2
def bitsI (d : D) : Option D := match d with | .int i => some (.int ((Builtin.Int.intBits i : Nat) : Int)) | _ => none
@[simp] theorem bitsI_i {i : Int} : bitsI (.int i) = some (.int ((Builtin.Int.intBits i : Nat) : Int)) := (rfl)
section
variable {T : Tab} {W : WX} {k : Kd} {X : Cx} {e : Expr} {m : M} {apos pos : Pos}
end
end Ue
set_option linter.all false
set_option Elab.async false
set_option maxRecDepth 100000
set_option maxHeartbeats 4000000
namespace Ue
open PySem PySem.Spec PyProof.Rows L2
section
variable {T : Tab} {W : WX} {X : Cx} {pos : Pos}
end
end Ue
set_option linter.all false
set_option Elab.async false
set_option maxRecDepth 100000
set_option maxHeartbeats 4000000
namespace Ue
open PySem PySem.Spec L2
section
variable {T : Tab} {W : WX} {kr : Kd} {pins : List Nat} {env env' : Env} {σ σ' : L2.St} {P H P' H' : Hp} {X : Cx} {pos : Pos} {a b c : Expr} {ma mb mc : M} {o o1 o2 o3 : Bool} {i j l : Nat} {d : D} {x : V}
end
end Ue
set_option linter.all false
set_option Elab.async false
set_option maxRecDepth 100000
set_option maxHeartbeats 4000000
namespace L2
open PySem PySem.Spec PyProof.Rows
end L2
namespace Ue
open PySem PySem.Spec PyProof.Rows L2
def sortLS2M (m : M) : M := fun env => (m env).bind fun d e => match d with
  | .lst ds => (match dInts ds with | some ns => if ns.length < 4000 ∧ (sortU ns).length < 60 then .ok (.lst ((sortU ns).map D.int)) e else .stk | none => .stk)
  | _ => .stk
@[simp] theorem sortLS2M_s {m : M} {env : Env} : sortLS2M m env = (m env).bind fun d e => match d with
  | .lst ds => (match dInts ds with | some ns => if ns.length < 4000 ∧ (sortU ns).length < 60 then .ok (.lst ((sortU ns).map D.int)) e else .stk | none => .stk)
  | _ => .stk := (rfl)
section
variable {T : Tab} {W : WX} {X : Cx} {k : Kd} {m : M} {e : Expr} {p p2 q pos : Pos}
end
end Ue
set_option linter.all false
set_option Elab.async false
set_option maxRecDepth 100000
set_option maxHeartbeats 4000000
namespace L2
open PySem PySem.Spec PyProof.Rows
end L2
namespace L2
open PySem PySem.Spec PyProof.Rows
end L2
namespace Ue
open PySem PySem.Spec PyProof.Rows L2
def zipLT (ma mb : M) : MI := fun env => (ma env).bind fun x e1 => (mb e1).bind fun y e2 => match x, y with
  | .lst xs, .tup ys => .ok (zipL xs ys) e2
  | _, _ => .stk
section
variable {T : Tab} {W : WX} {env : Env} {σ : L2.St} {P H : Hp} {X : Cx} {ma mb : M} {a b : Expr}
@[simp] theorem zipLT_s : zipLT ma mb env = (ma env).bind fun x e1 => (mb e1).bind fun y e2 => match x, y with
  | .lst xs, .tup ys => .ok (zipL xs ys) e2
  | _, _ => .stk := (rfl)
end
end Ue
set_option linter.all false
set_option Elab.async false
set_option maxRecDepth 100000
set_option maxHeartbeats 4000000
namespace PySem.SeqAt
open AutoSeq1 (wpAny_loadPart')
open MeetsSeq
section
variable {A : Around} {s : Shared}
end
end PySem.SeqAt
namespace L2
open PySem PySem.Spec PyProof.Rows
end L2
namespace Ue
open PySem PySem.Spec PyProof.Rows L2
def eqX (a b : D) : Option Bool := match a with
  | .dct _ => (match b with | .lst _ => some false | _ => none)
  | _ => eqD a b
@[simp] theorem eqX_dct {ds : List D} {kvs : List (Key × V)} : eqX (.dct kvs) (.lst ds) = some false := (rfl)
end Ue
set_option linter.all false
set_option Elab.async false
set_option maxRecDepth 100000
set_option maxHeartbeats 4000000
namespace Ue
open PySem PySem.Spec PyProof.Rows L2
def lendP (i j : Nat) (m : M) : M := fun env => match env[i]? with
  | some (some (.own ds)) => if i ≠ j ∧ (env.set i none).all ownL = true then (match m (env.set i (some (.v (.lst ds)))) with
    | .ok d e => (match e[j]? with
      | some (some (.own xs)) => if noL d = true ∧ noLs xs = true then .ok d (env.set j (some (.own xs))) else .stk
      | _ => .stk)
    | _ => .stk) else .stk
  | _ => .stk
@[simp] theorem lendP_s {i j : Nat} {m : M} {env : Env} : lendP i j m env = match env[i]? with
  | some (some (.own ds)) => if i ≠ j ∧ (env.set i none).all ownL = true then (match m (env.set i (some (.v (.lst ds)))) with
    | .ok d e => (match e[j]? with
      | some (some (.own xs)) => if noL d = true ∧ noLs xs = true then .ok d (env.set j (some (.own xs))) else .stk
      | _ => .stk)
    | _ => .stk) else .stk
  | _ => .stk := (rfl)
section
variable {T : Tab} {W : WX} {env : Env} {σ : L2.St} {P H H' P' : Hp} {X : Cx} {i j : Nat} {m : M} {e : Expr} {ds xs : List D} {a : Addr} {vs : List V}
theorem de_lendP (h : DE T W X e .pure m) (st : StillO j m) : DE T W X e .pure (lendP i j m) := pe_imp h fun σ H Q h => by
  obtain ⟨env, P, R, h⟩ := h
  unfold lendP at h
  obtain ⟨ds, e0⟩ : ∃ ds, env[i]? = some (some (.own ds)) := by
    cases e : env[i]? with
    | none => rw [e] at h; exact h.elim
    | some o =>
      cases o with
      | none => rw [e] at h; exact h.elim
      | some v =>
        cases v with
        | own ds => exact ⟨ds, rfl⟩
        | _ => rw [e] at h; exact h.elim
  rw [e0] at h
  simp only at h
  by_cases all : i ≠ j ∧ (env.set i none).all ownL = true
  · rw [if_pos all] at h
    obtain ⟨hij, all⟩ := all
    obtain ⟨u, hu, r⟩ := R.ent i _ e0
    obtain ⟨a, vs, rfl, h1, h2, h3⟩ := r
    obtain ⟨a', vs', P1, hu', hp1, hr1, R1, F1⟩ := R.freezeO e0
    rw [hu] at hu'; cases hu'
    have ev : vs' = vs := by
      have := R1.sub _ _ hp1
      rw [h1] at this; cases this; rfl
    subst ev
    refine ⟨env.set i (some (.v (.lst ds))), P1, R1, ?_⟩
    cases e1 : m (env.set i (some (.v (.lst ds)))) with
    | ok d env2 =>
      rw [e1] at h
      simp only at h
      cases e2 : env2[j]? with
      | none => rw [e2] at h; exact h.elim
      | some o =>
        cases o with
        | none => rw [e2] at h; exact h.elim
        | some v =>
          cases v with
          | own xs =>
            rw [e2] at h
            simp only at h
            obtain rfl := st _ _ _ _ e1 e2
            by_cases hd : noL d = true ∧ noLs xs = true
            · rw [if_pos hd] at h
              obtain ⟨ne, nx⟩ := hd
              intro P2 H2 R2 F2 x kx nw
              have kx : Rep T P2 d x := kx
              have F := F1.trans F2
              have ha := F2.mono _ _ hp1
              exact h (ItX.dropH P2 a) H2 (R.unlendF e0 hu h2 h3 all hij nx R2 F.mono ha) (Fr.unlendF R all hij e0 hu h2 F) x (Rep.dropL ha d x ne kx) trivial
            · rw [if_neg hd] at h; exact h.elim
          | _ => rw [e2] at h; exact h.elim
    | exc c fs env2 => rw [e1] at h; exact h.elim
    | stk => rw [e1] at h; exact h.elim
  · rw [if_neg all] at h; exact h.elim
end
theorem stillO_fn1 {F : FM} {j a : Nat} {dfl : List D} : StillO j (fnM F [.o j, .p (varM a)] dfl) := fun env d e xs h hj => by
  unfold fnM at h
  have put : ∀ (d1 : D) (as' : List EV), (∃ u, putA [.s j, .d d1] as' env = env.set j u) := fun d1 as' => by
    unfold putA
    show ∃ u, (match as'[0]? with | some a => env.set j (unEx a) | none => env) = env.set j u
    cases as'[0]? with
    | some a => exact ⟨_, rfl⟩
    | none =>
      refine ⟨env[j]?.getD none, ?_⟩
      show env = _
      apply List.ext_getElem?
      intro l
      by_cases hl : l = j
      · subst hl
        rcases Nat.lt_or_ge l env.length with q | q
        · rw [List.getElem?_set_self q, List.getElem?_eq_getElem q]; rfl
        · rw [List.getElem?_eq_none q, List.getElem?_eq_none (by rw [List.length_set]; exact q)]
      · rw [List.getElem?_set_ne (fun z => hl z.symm)]
  have fin : ∀ (d1 : D) (as' : List EV), putA [.s j, .d d1] as' env = e → e = env.set j (some (.own xs)) := fun d1 as' h => by
    obtain ⟨u, hu⟩ := put d1 as'
    rw [hu] at h
    subst h
    have hlt : j < env.length := by
      rcases Nat.lt_or_ge j env.length with q | q
      · exact q
      · rw [List.getElem?_eq_none (by rw [List.length_set]; exact q)] at hj; cases hj
    rw [List.getElem?_set_self hlt] at hj
    cases hj; rfl
  have key : ∀ (d1 : D) (o : Option (List EV)) , (match o with
      | none => R.stk
      | some as => if fewO [AD.s j, .d d1] = true then (match F (as ++ dfl.map EV.v) with
        | .ok d as' => R.ok d (putA [.s j, .d d1] as' env)
        | .exc c fs as' => .exc c fs (putA [.s j, .d d1] as' env)
        | .stk => .stk) else .stk) = R.ok d e → e = env.set j (some (.own xs)) := fun d1 o h => by
    cases o with
    | none => cases h
    | some as =>
      have h : (match F (as ++ dfl.map EV.v) with
        | .ok d as' => R.ok d (putA [.s j, .d d1] as' env)
        | .exc c fs as' => .exc c fs (putA [.s j, .d d1] as' env)
        | .stk => .stk) = R.ok d e := h
      cases q : F (as ++ dfl.map EV.v) with
      | ok d' as' => rw [q] at h; cases h; exact fin d1 as' rfl
      | exc c fs as' => rw [q] at h; cases h
      | stk => rw [q] at h; cases h
  have var : ∀ (k : Nat) (d : D) (e1 : Env), varM k env = .ok d e1 → e1 = env := fun k d e1 h => by
    unfold varM at h
    split at h <;> cases h <;> rfl
  have go : ∀ (h : ((argG [.p (varM a)] env).bind (fun ds e2 => R.ok (AD.s j :: ds) e2)).bind (fun ss e => match resA ss e with
      | none => R.stk
      | some as => if fewO ss = true then (match F (as ++ dfl.map EV.v) with
        | .ok d as' => R.ok d (putA ss as' e)
        | .exc c fs as' => .exc c fs (putA ss as' e)
        | .stk => .stk) else .stk) = R.ok d e), e = env.set j (some (.own xs)) := fun h => by
    unfold argG at h
    cases v1 : varM a env with
    | ok d1 e1 =>
      obtain rfl := var _ _ _ v1
      rw [v1] at h
      simp only [R.bind] at h
      exact key d1 _ h
    | exc c fs e1 => rw [v1] at h; cases h
    | stk => rw [v1] at h; cases h
  cases q : env[j]? with
  | none => unfold argG at h; rw [q] at h; cases h
  | some o =>
    cases o with
    | none => unfold argG at h; rw [q] at h; cases h
    | some v =>
      cases v with
      | own ds => refine go ?_; rw [argG, q] at h; exact h
      | mob c fs => refine go ?_; rw [argG, q] at h; exact h
      | v d => rw [argG, q] at h; cases h
      | new c fs => rw [argG, q] at h; cases h
      | ex c fs => rw [argG, q] at h; cases h
end Ue
set_option linter.all false
set_option Elab.async false
set_option maxRecDepth 100000
set_option maxHeartbeats 4000000
namespace L2
open PySem PySem.Spec PyProof.Rows
section
variable {X : Cx}
def rExt : V → List V → Hp → VK → Prop := fun x vs H Q => ∃ l b xs zs, x = .ref l ∧ vs = [.ref b] ∧ H l = some (.lst xs) ∧ Rd H b (.lst zs) ∧ xs.length + zs.length ≤ sizeLine ∧ Q .non (upd H l (.lst (xs ++ zs)))
theorem mt_ext : MtR X "list.extend" rExt := by
  intro pins s σ H x vs v us Q I rx rv h
  obtain ⟨l, b, xs, zs, rfl, rfl, hH, hB, hz, q⟩ := h
  cases rx
  obtain ⟨u, rfl, ru⟩ := rv.one
  cases ru
  obtain ⟨z, its, n, r, hl, e⟩ := I.lstM hH
  have hb : ∃ (its2 : List Value) (n2 : Nat), Vals zs its2 ∧ s.heap.get? b = some { cls := .type "list", data := .seq its2.toArray n2 } := by
    rcases hB with hB | ⟨o, hB⟩
    · obtain ⟨_, its2, n2, r2, e2⟩ := I.hok b _ hB
      exact ⟨its2, n2, r2, e2⟩
    · obtain ⟨_, _, its2, n2, r2, e2⟩ := I.hok b _ hB
      exact ⟨its2, n2, r2, e2⟩
  obtain ⟨its2, n2, r2, e2⟩ := hb
  have hl2 := r2.length
  have hsz : its.toArray.size + its2.toArray.size ≤ sizeLine := by rw [List.size_toArray, List.size_toArray]; omega
  have hlong : ¬ (!its.toArray.isEmpty && Builtin.List.listTooLong (its.toArray.size + its2.toArray.size)) = true := by
    rw [notLongL hsz, Bool.and_false]
    exact Bool.false_ne_true
  refine call_meets F.slot_list_extend ⟨_, e, rfl⟩ F.entry_list_extend (F.args_list_extend_2 _ _)
    (AutoSeq1.list_extend_list_list_0 l its.toArray n b its2.toArray n2 hlong (by rw [List.size_toArray]; omega) (by omega)) ⟨e, e2, ?_⟩
  refine ⟨.non, _, I.lset (its' := its ++ its2) hH e (by simp) (r.append r2) ?_, rfl, q⟩
  rw [List.length_append]
  omega
end
end L2
namespace Ue
open PySem PySem.Spec PyProof.Rows L2
section
variable {T : Tab} {W : WX} {env : Env} {σ : L2.St} {P H P' H' : Hp} {X : Cx} {pos : Pos} {e a b : Expr} {es : List Expr} {m m1 m2 : M}
def MtD2 (T : Tab) (r : V → List V → Hp → VK → Prop) (g : List D → List D → Option (D × List D)) : Prop :=
  ∀ (P H : Hp) (a : Addr) (vs : List V) (ds es : List D) (xs : List V) (d : D) (ds' : List D) (Q : VK), PSub P H → H a = some (.lst vs) → Reps T P ds vs → Reps T P es xs → g ds es = some (d, ds') →
    (∀ x vs', Rep T P d x → Reps T P ds' vs' → Q x (upd H a (.lst vs'))) → r (.ref a) xs H Q
theorem rd_mt2 {i : Nat} {r : V → List V → Hp → VK → Prop} {g : List D → List D → Option (D × List D)} {ms : List M} {ks : List Kd} (hD : MtD2 T r g) (hp : ∀ k ∈ ks, k = Kd.pure) {Q : VK} (h : rdE T W .pure (mtM i g ms) σ H Q) :
    tBM T.K "list" r (tVar i) (rdA T W ks ms) σ H Q := by
  obtain ⟨env, P, RR, h⟩ := h
  unfold mtM at h
  cases e0 : env[i]? with
  | none => rw [e0] at h; exact False.elim h
  | some o =>
    cases o with
    | none => rw [e0] at h; exact False.elim h
    | some v =>
      cases v with
      | own d0 =>
        rw [e0] at h
        obtain ⟨u, hu, r0⟩ := RR.ent i _ e0
        obtain ⟨a, vs0, rfl, q0, p0, _⟩ := r0
        refine ⟨_, hu, .inl ⟨rfl, vs0, .of q0⟩, env, P, RR, After.at h.bind fun es env1 P1 H1 _ R1 F1 h1 xs kxs => ?_⟩
        cases e1 : env1[i]? with
        | none => rw [e1] at h1; exact False.elim h1
        | some o =>
          cases o with
          | none => rw [e1] at h1; exact False.elim h1
          | some v =>
            cases v with
            | own ds =>
              rw [e1] at h1
              obtain ⟨u, hu2, r1⟩ := R1.ent i _ e1
              rw [hu] at hu2; cases hu2
              obtain ⟨a', vs, ea, q1, p1, w1⟩ := r1
              cases ea
              cases e2 : g ds es with
              | none => simp only [e2] at h1; exact False.elim h1
              | some p =>
                obtain ⟨d, ds'⟩ := p
                simp only [e2] at h1
                refine hD P1 H1 a vs ds es xs d ds' Q R1.sub q1 w1 (kxs.pures hp) e2 fun x vs' rx rvs => ?_
                obtain ⟨R2, F2⟩ := R1.updO (vs' := vs') e1 hu rvs
                exact h1 _ _ R2 F2 x rx trivial
            | _ => rw [e1] at h1; exact False.elim h1
      | _ => rw [e0] at h; exact False.elim h
theorem de_mt2 {i : Nat} {x name : Str} {id : String} {r : V → List V → Hp → VK → Prop} {g : List D → List D → Option (D × List D)} {ms : List M} {ks : List Kd} {es : List Expr} {p apos cpos : Pos} (hK : X.K = T.K) (pa : PlainAttrs "list") (slot : Slot "list" name id)
    (hty : typeOf (.builtin id) = pure (.type "method_descriptor")) (hm : MtR X id r) (hD : MtD2 T r g) (hv : PE X (.Name x p) (tVar i)) (ha : DA T W X (e :: es) ks ms) (hp : ∀ k ∈ ks, k = Kd.pure)
    (hfew : ((backTo cpos (starEach (e :: es) X.env)).all (fun x => !x.1) && (backToKw cpos (keywordEach [] X.env)).all (fun x => x.1.isSome)
      && decide ((e :: es).length + ([] : List Keyword).length + (if ([] : List Keyword).isEmpty then 0 else 1) < 30)) = true := by rfl)
    (hline : (apos.endLine == cpos.line) = true := by rfl) (hs : starEach (e :: es) X.env = (false, eval e X.env) :: starEach es X.env := by rfl) (hplain : (backTo cpos (starEach es X.env)).any (·.1) = false := by rfl) :
    DE T W X (.Call (.Attribute (.Name x p) name apos) (e :: es) [] cpos) .pure (mtM i g ms) :=
  pe_imp (pe_bm pa slot hty hm hv ha (by rfl) hfew hline hs hplain) fun σ H Q h => by rw [hK]; exact rd_mt2 hD hp h
def extG (ds es : List D) : Option (D × List D) := match es with | [.lst zs] => if ds.length + zs.length ≤ sizeLine then some (.non, ds ++ zs) else none | _ => none
@[simp] theorem extG_s {ds zs : List D} : extG ds [.lst zs] = if ds.length + zs.length ≤ sizeLine then some (.non, ds ++ zs) else none := (rfl)
theorem extG_some {ds es : List D} {d : D} {ds' : List D} (e : extG ds es = some (d, ds')) : ∃ zs, es = [.lst zs] ∧ ds.length + zs.length ≤ sizeLine ∧ d = .non ∧ ds' = ds ++ zs := by
  unfold extG at e
  split at e
  · rename_i zs
    by_cases z : ds.length + zs.length ≤ sizeLine
    · rw [if_pos z] at e; cases e; exact ⟨_, rfl, z, rfl, rfl⟩
    · rw [if_neg z] at e; cases e
  · cases e
theorem md_ext : MtD2 T rExt extG := fun P H a vs ds es xs d ds' Q sub h1 h2 h3 e k => by
  obtain ⟨zs, rfl, z, rfl, rfl⟩ := extG_some e
  rw [Reps] at h3
  obtain ⟨v, r, rfl, h4, h5⟩ := h3
  rw [Reps] at h5; subst h5
  rw [Rep] at h4
  obtain ⟨c, ws, rfl, h6, h7⟩ := h4
  have l1 := h2.length
  have l2 := h7.length
  exact ⟨a, c, vs, ws, rfl, rfl, h1, Rd.sub sub h6, by omega, k _ _ rep_non (h2.append h7)⟩
end
end Ue
set_option linter.all false
set_option Elab.async false
set_option maxRecDepth 100000
set_option maxHeartbeats 4000000
namespace Ue
open PySem PySem.Spec PyProof.Rows L2 StX
section
variable {T : Tab} {W : WX} {env : Env} {σ : L2.St} {P H P' H' : Hp} {X : Cx} {pos : Pos} {e a b : Expr} {es : List Expr} {m m1 m2 : M}
def lstSM (m1 m2 : M) : M := fun env => (m1 env).bind fun d e1 => match d with
  | .tup ds => (m2 e1).bind fun y e2 => if ds.length + 1 ≤ sizeLine then .ok (.lst (ds ++ [y])) e2 else .stk
  | _ => .stk
@[simp] theorem lstSM_s : lstSM m1 m2 env = (m1 env).bind fun d e1 => match d with
  | .tup ds => (m2 e1).bind fun y e2 => if ds.length + 1 ≤ sizeLine then .ok (.lst (ds ++ [y])) e2 else .stk
  | _ => .stk := (rfl)
end
end Ue
set_option linter.all false
set_option Elab.async false
set_option maxRecDepth 100000
set_option maxHeartbeats 4000000
namespace Ue
open PySem PySem.Spec PyProof.Rows L2 RZ
section
variable {T : Tab} {W : WX} {env : Env} {σ : L2.St} {P H : Hp} {X : Cx} {m ma mb : M} {a b e tg : Expr}
def revI (m : M) : MI := fun env => (m env).bind fun d e => match d with | .lst ds => .ok ds.reverse e | _ => .stk
@[simp] theorem revI_s : revI m env = (m env).bind fun d e => match d with | .lst ds => .ok ds.reverse e | _ => .stk := (rfl)
def zipX (ma mb : M) : MI := fun env => (ma env).bind fun x e1 => (mb e1).bind fun y e2 => match x, y with
  | .lst xs, .lst ys => .ok (zipL xs ys) e2
  | .tup xs, .tup ys => .ok (zipL xs ys) e2
  | .tup xs, .lst ys => .ok (zipL xs ys) e2
  | .lst xs, .tup ys => .ok (zipL xs ys) e2
  | _, _ => .stk
@[simp] theorem zipX_s : zipX ma mb env = (ma env).bind fun x e1 => (mb e1).bind fun y e2 => match x, y with
  | .lst xs, .lst ys => .ok (zipL xs ys) e2
  | .tup xs, .tup ys => .ok (zipL xs ys) e2
  | .tup xs, .lst ys => .ok (zipL xs ys) e2
  | .lst xs, .tup ys => .ok (zipL xs ys) e2
  | _, _ => .stk := (rfl)
def nevM : MS := fun _ => .stk
@[simp] theorem nevM_s : nevM env = .stk := (rfl)
open Classical in
noncomputable def lendE (i : Nat) (m : M) : M := fun env => match env[i]? with
  | some (some (.own ds)) => if (env.set i none).all ownL then (match m (env.set i (some (.v (.lst ds)))) with
    | .ok d e => if noL d = true ∧ e = env.set i (some (.v (.lst ds))) then .ok d env else .stk
    | _ => .stk) else .stk
  | _ => .stk
open Classical in
@[simp] theorem lendE_s {i : Nat} {m : M} {env : Env} : lendE i m env = match env[i]? with
  | some (some (.own ds)) => if (env.set i none).all ownL then (match m (env.set i (some (.v (.lst ds)))) with
    | .ok d e => if noL d = true ∧ e = env.set i (some (.v (.lst ds))) then .ok d env else .stk
    | _ => .stk) else .stk
  | _ => .stk := (rfl)
theorem de_lendE {i : Nat} (h : DE T W X e .pure m) : DE T W X e .pure (lendE i m) := pe_imp h fun σ H Q h => by
  obtain ⟨env, P, R, h⟩ := h
  unfold lendE at h
  obtain ⟨ds, e0⟩ : ∃ ds, env[i]? = some (some (.own ds)) := by
    cases e : env[i]? with
    | none => rw [e] at h; exact h.elim
    | some o =>
      cases o with
      | none => rw [e] at h; exact h.elim
      | some v =>
        cases v with
        | own ds => exact ⟨ds, rfl⟩
        | _ => rw [e] at h; exact h.elim
  rw [e0] at h
  simp only at h
  by_cases all : (env.set i none).all ownL = true
  · rw [if_pos all] at h
    obtain ⟨u, hu, r⟩ := R.ent i _ e0
    obtain ⟨a, vs, rfl, h1, h2, h3⟩ := r
    obtain ⟨a', vs', P1, hu', hp1, hr1, R1, F1⟩ := R.freezeO e0
    rw [hu] at hu'; cases hu'
    have ev : vs' = vs := by
      have := R1.sub _ _ hp1
      rw [h1] at this; cases this; rfl
    subst ev
    refine ⟨env.set i (some (.v (.lst ds))), P1, R1, ?_⟩
    cases e1 : m (env.set i (some (.v (.lst ds)))) with
    | ok d env2 =>
      rw [e1] at h
      simp only at h
      by_cases hd : noL d = true ∧ env2 = env.set i (some (.v (.lst ds)))
      · rw [if_pos hd] at h
        obtain ⟨hd, rfl⟩ := hd
        intro P2 H2 R2 F2 x kx _
        have kx : Rep T P2 d x := kx
        have F := F1.trans F2
        have ha := F2.mono _ _ hp1
        exact h (ItX.dropH P2 a) H2 (R.unlend e0 hu h2 h3 all R2 F.mono ha) (Fr.unlend R all e0 hu h2 F) x (Rep.dropL ha d x hd kx) trivial
      · rw [if_neg hd] at h; exact h.elim
    | exc c fs env2 => rw [e1] at h; exact h.elim
    | stk => rw [e1] at h; exact h.elim
  · rw [if_neg all] at h; exact h.elim
end
end Ue
set_option linter.all false
set_option Elab.async false
set_option maxRecDepth 100000
set_option maxHeartbeats 4000000
namespace Ue
open PySem PySem.Spec PyProof.Rows L2
section
variable {T : Tab} {W : WX} {env : Env} {σ : L2.St} {P H : Hp} {X : Cx} {m mo : M} {a b e o tg : Expr} {ko : Kd}
def rrgL (n : Nat) : List D := (List.range n).map fun (i : Nat) => D.int ((n : Int) - 1 - (i : Int))
def rrgM (m : M) : MI := fun env => (m env).bind fun d e => match d with | .int j => if -(2 ^ 62) ≤ j ∧ j < 2 ^ 62 then .ok (rrgL j.toNat) e else .stk | _ => .stk
@[simp] theorem rrgM_s : rrgM m env = (m env).bind fun d e => match d with | .int j => if -(2 ^ 62) ≤ j ∧ j < 2 ^ 62 then .ok (rrgL j.toNat) e else .stk | _ => .stk := (rfl)
def sidxD (x y : D) : Option D := match x, y with
  | .str a, .str b => (match Builtin.Str.occurrences a b 0 a.length 1 with | i :: _ => some (.int (i : Nat)) | [] => none)
  | _, _ => none
@[simp] theorem sidxD_s {a b : Str} : sidxD (.str a) (.str b) = (match Builtin.Str.occurrences a b 0 a.length 1 with | i :: _ => some (.int (i : Nat)) | [] => none) := (rfl)
def sidxM (mo m : M) : M := fun env => (mo env).bind fun d e1 => match d with | .str s => (m e1).bind fun y e2 => liftO (sidxD (.str s) y) e2 | _ => .stk
@[simp] theorem sidxM_s : sidxM mo m env = (mo env).bind fun d e1 => match d with | .str s => (m e1).bind fun y e2 => liftO (sidxD (.str s) y) e2 | _ => .stk := (rfl)
def slSM (m : M) (lo hi : Option M) : M := fun env => (m env).bind fun d e => (optM lo e).bind fun l e => (optM hi e).bind fun u e => match d with | .str z => if z.length ≤ sizeLine then .ok (.str (cutS z l u)) e else .stk | _ => .stk
@[simp] theorem slSM_s {lo hi : Option M} : slSM m lo hi env = (m env).bind fun d e => (optM lo e).bind fun l e => (optM hi e).bind fun u e => match d with | .str z => if z.length ≤ sizeLine then .ok (.str (cutS z l u)) e else .stk | _ => .stk := (rfl)
def trgM (m : M) : M := fun env => (m env).bind fun d e => match d with
  | .int n => if 0 ≤ n ∧ n ≤ 16777216 then .ok (.tup (rngL 0 n.toNat)) e else .stk
  | _ => .stk
@[simp] theorem trgM_s : trgM m env = (m env).bind fun d e => match d with
  | .int n => if 0 ≤ n ∧ n ≤ 16777216 then .ok (.tup (rngL 0 n.toNat)) e else .stk
  | _ => .stk := (rfl)
end
end Ue
set_option linter.all false
set_option Elab.async false
set_option maxRecDepth 100000
set_option maxHeartbeats 4000000
namespace L2
open PySem PySem.Spec PyProof.Rows
end L2
namespace Ue
open PySem PySem.Spec PyProof.Rows L2
def lenSetTM (m : M) : M := fun env => (m env).bind fun d e => match d with
  | .tup ds => (match dInts ds with | some ns => if ns.length < 60 then .ok (.int ((sortU ns).length : Int)) e else .stk | none => .stk)
  | _ => .stk
@[simp] theorem lenSetTM_s {m : M} {env : Env} : lenSetTM m env = (m env).bind fun d e => match d with
  | .tup ds => (match dInts ds with | some ns => if ns.length < 60 then .ok (.int ((sortU ns).length : Int)) e else .stk | none => .stk)
  | _ => .stk := (rfl)
section
variable {T : Tab} {W : WX} {X : Cx} {k : Kd} {m : M} {e : Expr} {p p2 q pos : Pos}
end
end Ue
set_option linter.all false
set_option Elab.async false
set_option maxRecDepth 100000
set_option maxHeartbeats 4000000
namespace PyProof.Rows
open PySem
section
variable {prog : Program} {w : World} {A : Around} {E : Value → Shared → Prop} {s : Shared}
end
end PyProof.Rows
namespace SrtO
open PySem PyProof.Rows Srt
section
variable {prog : Program} {w : World} {A : Around} {E : Value → Shared → Prop} {s : Shared}
end
end SrtO
namespace L2
open PySem PySem.Spec PyProof.Rows
end L2
namespace Ue
open PySem PySem.Spec PyProof.Rows L2
section
variable {T : Tab}
end
end Ue
set_option linter.all false
set_option Elab.async false
set_option maxRecDepth 100000
set_option maxHeartbeats 4000000
namespace HT
open PySem PySem.Spec PyProof.Rows
section
variable {prog : Program} {w : World} {A : Around} {E : Value → Shared → Prop} {s : Shared}
end
end HT
namespace Ue
open PySem PySem.Spec PyProof.Rows L2
def atS : List Str → List D → Str → Option D
  | k :: ks, d :: ds, n => if k = n then some d else atS ks ds n
  | _, _, _ => none
def dictSM (ks : List Str) (ms : List M) (m : M) : M := fun env => (argsM ms env).bind fun ds e1 => (m e1).bind fun d e => match d with
  | .str n => (match atS ks ds n with | some v => .ok v e | none => .stk)
  | _ => .stk
@[simp] theorem dictSM_s {ks : List Str} {ms : List M} {m : M} {env : Ue.Env} : dictSM ks ms m env = (argsM ms env).bind fun ds e1 => (m e1).bind fun d e => match d with
  | .str n => (match atS ks ds n with | some v => .ok v e | none => .stk)
  | _ => .stk := (rfl)
@[simp] theorem atS_c {k n : Str} {ks : List Str} {d : D} {ds : List D} : atS (k :: ks) (d :: ds) n = if k = n then some d else atS ks ds n := (rfl)
section
variable {T : Tab} {W : WX}
variable {X : Cx} {m : M} {e : Expr} {pos q : Pos} {ks : List Str} {ms : List M} {keys : List (Option Expr)} {values : List Expr}
end
section
variable {X : Cx} {e st : Expr} {te : TE} {pos p2 : Pos}
end
def revTM (m : M) : M := fun env => (m env).bind fun d e => match d with | .tup ds => .ok (.tup ds.reverse) e | _ => .stk
@[simp] theorem revTM_s {m : M} {env : Env} : revTM m env = (m env).bind fun d e => match d with | .tup ds => .ok (.tup ds.reverse) e | _ => .stk := (rfl)
section
variable {T : Tab} {W : WX} {X : Cx} {k : Kd} {m : M} {e : Expr} {pos p2 q q2 : Pos} {j : Nat}
end
def set2IM (i j q : Nat) (m : M) : MS := fun env => (m env).toS fun d e => match d, e[i]?, e[j]?, e[q]? with
  | .tup [d1, d2], some (some (.own ds)), some (some (.own es)), some (some (.v (.int n))) => (match ixN ds.length n, ixN es.length n with
    | some a, some b => .nx ((e.set i (some (.own (ds.set a d1)))).set j (some (.own (es.set b d2))))
    | _, _ => .stk)
  | _, _, _, _ => .stk
@[simp] theorem set2IM_s {i j q : Nat} {m : M} {env : Env} : set2IM i j q m env = (m env).toS fun d e => match d, e[i]?, e[j]?, e[q]? with
  | .tup [d1, d2], some (some (.own ds)), some (some (.own es)), some (some (.v (.int n))) => (match ixN ds.length n, ixN es.length n with
    | some a, some b => .nx ((e.set i (some (.own (ds.set a d1)))).set j (some (.own (es.set b d2))))
    | _, _ => .stk)
  | _, _, _, _ => .stk := (rfl)
section
variable {T : Tab} {W : WX} {X : Cx} {m : M} {e : Expr} {kr : Kd} {pins : List Nat} {pos : Pos}
end
end Ue
set_option linter.all false
set_option Elab.async false
set_option maxRecDepth 100000
set_option maxHeartbeats 4000000
namespace Ue
open PySem PySem.Spec PyProof.Rows L2
def keyD : D → Option Key | .int i => some (Sum.inl i) | .str s => some (Sum.inr s) | _ => none
def vD : V → Option D | .non => some .non | .bl b => some (.bl b) | .int i => some (.int i) | .str s => some (.str s) | _ => none
def askD (d k : D) : Option D := match d with
  | .dct kvs => (keyD k).bind fun key => (L2.valV kvs key).bind vD
  | _ => none
def dgetM (m mk : M) : M := fun env => (m env).bind fun d e1 => (mk e1).bind fun k e => liftO (askD d k) e
@[simp] theorem dgetM_s {m mk : M} {env : Env} : dgetM m mk env = (m env).bind fun d e1 => (mk e1).bind fun k e => liftO (askD d k) e := (rfl)
section
variable {T : Tab} {W : WX} {X : Cx} {m mk : M} {o e : Expr} {pos q : Pos} {keys : List (Option Expr)} {values : List Expr}
end
end Ue
set_option linter.all false
set_option Elab.async false
set_option maxRecDepth 100000
set_option maxHeartbeats 4000000
namespace PySem
open Sem (wp)
end PySem
namespace Ue
open PySem PySem.Spec PyProof.Rows L2 RZ
section
variable {X : Cx} {Z : CXT} {k : Nat} {C f : Addr} {fd : FuncData} {ps : List Str} {E : L2.St → XK}
end
def zipOT (c j : Nat) (ma mb : M) : MI := fun env => (ma env).bind fun x e1 => (mb e1).bind fun y e2 => match x, y with
  | .obj c1 fs, .tup ys => if c1 = c then (match fs[j]? with | some (.tup xs) => .ok (zipL xs ys) e2 | _ => .stk) else .stk
  | _, _ => .stk
section
variable {T : Tab} {W : WX} {X : Cx} {σ : L2.St} {H : Hp} {c j k : Nat} {ma mb : M} {a b : Expr} {f : Addr} {fd : FuncData} {ps : List Str} {fl : Str} {p pos tpos : Pos} {elts : List Expr} {kk : Nat}
@[simp] theorem zipOT_s {env : Env} : zipOT c j ma mb env = (ma env).bind fun x e1 => (mb e1).bind fun y e2 => match x, y with
  | .obj c1 fs, .tup ys => if c1 = c then (match fs[j]? with | some (.tup xs) => .ok (zipL xs ys) e2 | _ => .stk) else .stk
  | _, _ => .stk := (rfl)
end
end Ue
set_option linter.all false
set_option Elab.async false
set_option maxRecDepth 100000
set_option maxHeartbeats 4000000
namespace Ue
open PySem PySem.Spec PyProof.Rows L2
def attrUM (c1 j1 c2 j2 : Nat) (m : M) : M := fun env => (m env).bind fun d e => match d with
  | .obj c fs => if c = c1 then (match fs[j1]? with | some x => .ok x e | none => .stk) else if c = c2 then (match fs[j2]? with | some x => .ok x e | none => .stk) else .stk
  | _ => .stk
@[simp] theorem attrUM_s {c1 j1 c2 j2 : Nat} {m : M} {env : Env} : attrUM c1 j1 c2 j2 m env = (m env).bind fun d e => match d with
  | .obj c fs => if c = c1 then (match fs[j1]? with | some x => .ok x e | none => .stk) else if c = c2 then (match fs[j2]? with | some x => .ok x e | none => .stk) else .stk
  | _ => .stk := (rfl)
section
variable {T : Tab} {W : WX} {X : Cx} {m : M} {e : Expr} {k : Kd}
end
end Ue
set_option linter.all false
set_option Elab.async false
set_option maxRecDepth 100000
set_option maxHeartbeats 4000000
namespace L2
open PySem PySem.Spec PyProof.Rows
section
variable {X : Cx}
end
end L2
namespace Ue
open PySem PySem.Spec PyProof.Rows L2
def tupXD : List D → Option D | [.lst ds] => some (.tpx ds) | _ => none
@[simp] theorem tupXD_l {ds : List D} : tupXD [.lst ds] = some (.tpx ds) := (rfl)
def unxD : D → D | .tpx ds => .tup ds | d => d
@[simp] theorem unxD_t {ds : List D} : unxD (.tpx ds) = .tup ds := (rfl)
def unxM (m : M) : M := fun env => (m env).bind fun d e => .ok (unxD d) e
@[simp] theorem unxM_s {m : M} {env : Env} : unxM m env = (m env).bind fun d e => .ok (unxD d) e := (rfl)
def idxXM (mo m : M) : M := fun env => (mo env).bind fun d e1 => match d with | .tpx ds => (m e1).bind fun y e2 => liftO (idxD ds y) e2 | _ => .stk
@[simp] theorem idxXM_s {mo m : M} {env : Env} : idxXM mo m env = (mo env).bind fun d e1 => match d with | .tpx ds => (m e1).bind fun y e2 => liftO (idxD ds y) e2 | _ => .stk := (rfl)
section
variable {T : Tab} {W : WX} {X : Cx} {mo m : M} {o e : Expr} {apos cpos : Pos} {P : Hp}
end
end Ue
set_option linter.all false
set_option Elab.async false
set_option maxRecDepth 100000
set_option maxHeartbeats 4000000
namespace Ue
open PySem PySem.Spec PyProof.Rows L2
def pickM (m a b : M) : M := fun env => match m env with | .ok (.obj _ _) _ => a env | _ => b env
@[simp] theorem pickM_s {m a b : M} {env : Env} : pickM m a b env = match m env with | .ok (.obj _ _) _ => a env | _ => b env := (rfl)
section
variable {T : Tab} {W : WX} {X : Cx} {m a b : M} {e : Expr} {k : Kd}
end
end Ue
set_option linter.all false
set_option Elab.async false
set_option maxRecDepth 100000
set_option maxHeartbeats 4000000
namespace Ue
open PySem PySem.Spec PyProof.Rows L2
section
open AutoSeq1 (wpAny_loadPart')
open MeetsSeq MeetsSeq2 MeetsSeq3 SeqRoads2 PySem.SeqAt
variable {prog : Program} {w : World} {A : Around} {E : Value → Shared → Prop} {s : Shared}
end
section
variable {X : Cx} {k : Nat} {C f : Addr} {fd : FuncData} {ps : List Str} {sp : Sp}
end
def flat1 : D → Bool
  | .non => true
  | .bl _ => true
  | .int _ => true
  | .str _ => true
  | _ => false
def flatB : List D → Bool
  | [] => true
  | d :: ds => flat1 d && flatB ds
def pairB (c : Nat) (F : FM) (d e : D) : Option Bool := match d, e with
  | .obj c1 fs, .obj c2 gs => if c1 = c ∧ c2 = c ∧ flatB fs = true ∧ flatB gs = true then (match F [.v d, .v e], F [.v d, .v d] with | .ok (.bl b) _, .ok (.bl true) _ => some b | _, _ => none) else none
  | _, _ => none
def pairsB (c : Nat) (F : FM) : List D → List D → Option (List Bool)
  | d :: ds, e :: es => (pairB c F d e).bind fun b => (pairsB c F ds es).map (b :: ·)
  | _, _ => some []
def cmpTO (c : Nat) (F : FM) (ma mb : M) : MT := fun env => (ma env).bind fun x e1 => (mb e1).bind fun y e2 => match x, y with
  | .tup ds, .tup es => (match pairsB c F ds es with | some bs => .ok (bs.all id && ds.length == es.length) e2 | none => .stk)
  | _, _ => .stk
@[simp] theorem cmpTO_s {c : Nat} {F : FM} {ma mb : M} {env : Ue.Env} : cmpTO c F ma mb env = (ma env).bind fun x e1 => (mb e1).bind fun y e2 => match x, y with
  | .tup ds, .tup es => (match pairsB c F ds es with | some bs => .ok (bs.all id && ds.length == es.length) e2 | none => .stk)
  | _, _ => .stk := (rfl)
section
variable {T : Tab} {P : Hp}
variable {W : WX} {σ : L2.St} {H : Hp} {X : Cx} {F : FM} {k c : Nat} {ma mb : M} {a b : Expr} {pos : Pos} {f : Addr} {fd : FuncData} {ps : List Str}
end
end Ue
set_option linter.all false
set_option Elab.async false
set_option maxRecDepth 100000
set_option maxHeartbeats 4000000
namespace Ue
open PySem L2
def slotsO : List AD → List Nat
  | [] => []
  | .d _ :: as => slotsO as
  | .s i :: as => i :: slotsO as
def fewN (ss : List AD) : Bool := decide (slotsO ss).Nodup
def putN : List AD → List EV → Env → Env
  | .d _ :: ss, _ :: as, e => putN ss as e
  | .s i :: ss, a :: as, e => (putN ss as e).set i (unEx a)
  | _, _, e => e
def fnQ (F : FM) (ags : List Ag) (dfl : List D) : M := fun env => (argG ags env).bind fun ss e => match resA ss e with
  | none => .stk
  | some as => if fewN ss then (match F (as ++ dfl.map EV.v) with
    | .ok d as' => .ok d (putN ss as' e)
    | .exc c fs as' => .exc c fs (putN ss as' e)
    | .stk => .stk) else .stk
section
variable {T : Tab} {W : WX} {kr : Kd} {pins : List Nat} {env env' : Env} {σ σ' : L2.St} {P H P' H' : Hp} {X : Cx} {pos : Pos} {e : Expr} {es : List Expr} {m : M} {ags : List Ag}
end
def CRes.goQ (r : CRes) (ss : List AD) (e : Env) : R D := match r with
  | .ok d as' => .ok d (putN ss as' e)
  | .exc c fs as' => .exc c fs (putN ss as' e)
  | .stk => .stk
@[simp] theorem goQ_ok {ss : List AD} {as : List EV} {d : D} {e : Ue.Env} : (CRes.ok d as).goQ ss e = .ok d (putN ss as e) := (rfl)
@[simp] theorem goQ_exc {ss : List AD} {as : List EV} {c : Nat} {fs : List D} {e : Ue.Env} : (CRes.exc c fs as).goQ ss e = .exc c fs (putN ss as e) := (rfl)
@[simp] theorem fnQ_s {F : FM} {ags : List Ag} {dfl : List D} {env : Ue.Env} : fnQ F ags dfl env = (argG ags env).bind fun ss e => match resA ss e with
  | none => .stk
  | some as => if fewN ss then (F (as ++ dfl.map EV.v)).goQ ss e else .stk := rfl
@[simp] theorem fewN_two {i j : Nat} : fewN [.s i, .s j] = decide (i ≠ j) := by simp [fewN, slotsO]
@[simp] theorem putN_n {as : List EV} {e : Ue.Env} : putN [] as e = e := by cases as <;> rfl
@[simp] theorem putN_d {x : D} {a : EV} {ss : List AD} {as : List EV} {e : Ue.Env} : putN (.d x :: ss) (a :: as) e = putN ss as e := (rfl)
@[simp] theorem putN_s {i : Nat} {a : EV} {ss : List AD} {as : List EV} {e : Ue.Env} : putN (.s i :: ss) (a :: as) e = (putN ss as e).set i (unEx a) := (rfl)
end Ue
set_option linter.all false
set_option Elab.async false
set_option maxRecDepth 100000
set_option maxHeartbeats 4000000
namespace Ue
open PySem PySem.Spec PyProof.Rows L2
def prD (p : Int × Int) : D := .tup [.int p.1, .int p.2]
instance : DecidablePred PrOk := fun p => inferInstanceAs (Decidable (0 ≤ p.1 ∧ p.1 < BB ∧ 0 ≤ p.2 ∧ p.2 < BB))
def prOf : D → Option (Int × Int)
  | .tup [.int a, .int b] => some (a, b)
  | _ => none
def pairsD : List D → Option (List (Int × Int))
  | [] => some []
  | d :: r => (prOf d).bind fun p => if PrOk p then (pairsD r).map (p :: ·) else none
def cdP (p : Int × Int) : Int := p.1 * BB + p.2
def unP (c : Int) : Int × Int := (c / BB, c % BB)
def sortP (ps : List (Int × Int)) : List (Int × Int) := (sortU (ps.map cdP)).map unP
def sortPM (m : M) : M := fun env => (m env).bind fun d e => match d with
  | .lst ds => (match pairsD ds with | some ps => if ps.length < 60 then .ok (.lst ((sortP ps).map prD)) e else .stk | none => .stk)
  | _ => .stk
@[simp] theorem sortPM_s {m : M} {env : Env} : sortPM m env = (m env).bind fun d e => match d with
  | .lst ds => (match pairsD ds with | some ps => if ps.length < 60 then .ok (.lst ((sortP ps).map prD)) e else .stk | none => .stk)
  | _ => .stk := (rfl)
section
variable {T : Tab} {W : WX} {X : Cx} {k : Kd} {m : M} {e : Expr} {p p2 q pos : Pos}
end
def idxDD (ds : List D) (y : D) : Option D := match toPys ds, toPy y with
  | some qs, some p => if SeqAt.shaped p = true ∧ SeqAt.shaped (.list qs) = true then (qs.findIdx? fun z => PyData.eqv z p).map fun j => .int (j : Int) else none
  | _, _ => none
def idxDM (mo m : M) : M := fun env => (mo env).bind fun d e1 => match d with | .lst ds => (m e1).bind fun y e2 => liftO (idxDD ds y) e2 | _ => .stk
@[simp] theorem idxDM_s {mo m : M} {env : Env} : idxDM mo m env = (mo env).bind fun d e1 => match d with | .lst ds => (m e1).bind fun y e2 => liftO (idxDD ds y) e2 | _ => .stk := (rfl)
section
variable {T : Tab} {W : WX} {X : Cx} {ka : Kd} {mo m : M} {o e : Expr} {apos cpos : Pos}
end
end Ue
set_option linter.all false
set_option Elab.async false
set_option maxRecDepth 100000
set_option maxHeartbeats 4000000
namespace Ue
open PySem PySem.Spec PyProof.Rows L2
section
variable {T : Tab}
end
def fnMM (F : FM) (m : M) (ags : List Ag) : M := fun env => (m env).bind fun d e1 => match d with
  | .lst ds => (argG ags e1).bind fun ss e2 => (match resA ss e2 with
    | some as => if noSl ss then (F (.own ds :: as)).goN e2 else .stk
    | none => .stk)
  | _ => .stk
@[simp] theorem fnMM_s {F : FM} {m : M} {ags : List Ag} {env : Env} : fnMM F m ags env = (m env).bind fun d e1 => match d with
  | .lst ds => (argG ags e1).bind fun ss e2 => (match resA ss e2 with
    | some as => if noSl ss then (F (.own ds :: as)).goN e2 else .stk
    | none => .stk)
  | _ => .stk := (rfl)
section
variable {T : Tab} {W : WX} {σ : L2.St} {H : Hp}
end
end Ue
set_option linter.all false
set_option Elab.async false
set_option maxRecDepth 100000
set_option maxHeartbeats 4000000
namespace Ue
open PySem PySem.Spec PyProof.Rows L2
def repU (a b : D) : Option D := match a, b with
  | .tup i, .int k => if k = 1 then some (.tup i) else repT a b
  | _, _ => none
@[simp] theorem repU_1 {i : List D} : repU (.tup i) (.int 1) = some (.tup i) := by simp [repU]
end Ue
set_option linter.all false
set_option Elab.async false
set_option maxRecDepth 100000
set_option maxHeartbeats 4000000
namespace Ue
open PySem PySem.Spec PyProof.Rows L2 NdefX
def supFile : Str := "/claim/cut.py"
class SupP (P : Program) : Prop where
  file : P.main.file = supFile
  top : (P.main.scope.names.lookup ("super" : Str)).isSome = false
structure FunS (K : PySem.W.Frag) (C f : Addr) (F : NF) (fd : FuncData) : Prop where
  ex : ∃ (oc : Value) (od : Option Addr) (kV doc pm : Value) (an : Option Addr) (ct : Value) (osl : Array (Option Value)),
    fd = PySem.W.fnX F.name F.qual F.params F.body F.scope F.cl .none kV doc pm an (.ref F.c) ct ∧ K.lookup f = some ⟨oc, od, .func fd, osl⟩
  cd : PySem.W.codeIn K (.ref F.c) F.qual = true
  fi : ∃ (o : Obj) (vs : Array Value) (tf : Tok), K.lookup F.c = some o ∧ o.data = .fields vs ∧ vs[2]? = some (.str supFile tf)
  cl : ∃ (cc : Addr) (o : Obj), F.cl = [(("__class__" : Str), cc)] ∧ K.lookup cc = some o ∧ o.data = .cell (some (.ref C))
  su : PySem.W.ks_superIn K C C "__init__" = some (some (.builtin "ValueError.__init__"))
  ve : PySem.W.subIn K (.ref C) (.type "ValueError") = some true
  me : PySem.W.mroIn K C (.ref C) = some true
  st : PySem.W.nsIn K PySem.cStatics "thirdparty.any" = some none
theorem FunS.bindsN {K : PySem.W.Frag} {C f : Addr} {F : NF} {fd : FuncData} {ps : List Str} (S : FunS K C f F fd)
    (h : ∀ (kV doc pm : Value) (an : Option Addr) (cdv ct : Value) (us : List Value), us.length = ps.length → bindArgs (PySem.W.fnX F.name F.qual F.params F.body F.scope F.cl .none kV doc pm an cdv ct) ⟨us, []⟩ = pure (ps.zip us)) : Binds K fd ps [] := by
  obtain ⟨oc, od, kV, doc, pm, an, ct, osl, rfl, lk⟩ := S.ex
  exact .all (h kV doc pm an _ ct)
section
variable {X : Cx} {pins : List (Addr × Obj)} {σ : L2.St} {H : Hp} {s : Shared} {a C u : Addr} {A : Around} {E : Value → Shared → Prop}
end
section
variable {P : Program} {w : World} {K : PySem.W.Frag} {mg : Str → Option Value} {base : Heap} {msg g : Str} {F : NF} {f C : Addr} {fd : FuncData} {p1 p2 p3 p4 p5 p6 p7 p8 p9 p10 : Pos} {j : Nat} {ar : Arg}
end
end Ue
set_option linter.all false
set_option Elab.async false
set_option maxRecDepth 100000
set_option maxHeartbeats 4000000
namespace Ue
open PySem PySem.Spec PyProof.Rows L2 LamX NdefX
section
variable {X : Cx} {pins : List (Addr × Obj)} {σ : L2.St} {H : Hp} {s : Shared}
theorem lam_makeN {tb : List NTab} {nm : Nat → Nat → Str} {c pt : Addr} {params : Arguments} {body : Expr} {scope : Scope} {pos : Pos} {E : Value → Shared → Prop} {Q : Value → Shared → Prop} (I : Inv X pins σ H s) (TB : TabB X.base X.mg c pt) (hcode : X.env.code = .ref c)
    (hm : (pt, nm) ∈ tb) (hn : nm pos.line pos.col = X.env.qual ++ "<lambda>") (hu : ∀ p ∈ tb, p.1 = pt → p.2 = nm) (hT : TabsN tb H) (hdef : defaultsOf params X.env = ([], [])) (hfree : ∀ y ∈ scope.names, y.2 = .free → ∃ c, X.env.cells.lookup y.1 = some c)
    (h : ∀ (f c' : Addr) (pm ctv : Value) (H1 : Hp) (s' : Shared), Inv X pins σ H1 s' → (∀ b o, b ≠ pt → H b = some o → H1 b = some o) → (∀ b, H b ≠ none → H1 b ≠ none) → TabsN tb H1 →
      s'.heap.get? f = some (PySem.W.kla_obj "<lambda>" (X.env.qual ++ "<lambda>") params body scope (cloFrom X.env.cells scope.names []) pm c' ctv) → H1 f = none → f ∉ frs X.stack → H1 c' = some (CodeO c' (X.env.qual ++ "<lambda>")) → Q (.ref f) s') :
    wpAny (model X.prog X.w) X.A (eval (.Lambda params body scope pos) X.env) Q E s := by
  obtain ⟨ps, hP, ht, ha⟩ := (show TabN H pt nm from hT _ hm)
  refine PySem.W.kla_eval hdef ?_
  have bP : s.heap.BuiltinsAt X.mg pt := TB.bm.keeps I.bk
  have hP' : s.heap.get? pt = some { cls := .none, data := .fields ps } := I.hok pt _ hP
  have nofr : ∀ f, s.heap.objs.size ≤ f → f ∉ frs X.stack := fun f hf z => by
    rcases List.mem_cons.mp (I.stkSub _ z) with e | e
    · have h1 := I.lt
      rw [← e] at h1
      exact Nat.lt_irrefl _ (Nat.lt_of_lt_of_le h1 hf)
    · exact I.nofs hf e
  cases hc : codeAmong pos ps.toList with
  | none =>
    refine PySem.W.kla_makeFunction (mg := X.mg) (c := c) (P := pt) (ps := ps) (closure_ok hfree) I.ok.glob (I.mod.glob.keeps I.bk) hcode (TB.code.keeps I.bk) hP' ht hc TB.gP bP fun c' ctv h' tk hx hge hlt hrec htb => ?_
    obtain ⟨c2, oc, vs, t, e2, hoc, hd, hv⟩ := hrec
    cases e2
    have hsz : s.heap.objs.size ≤ h'.objs.size := Nat.le_trans hge (Nat.le_of_lt hlt)
    have nC : H c' = none := I.hok.fresh hge
    have nPc : pt ≠ c' := ne_of_none hP nC
    have I1 := inv_table (t' := tk) (more := #[rawInt pos.line, rawInt pos.col, .ref c']) (h' := h'.push (PySem.W.kla_obj "<lambda>" (X.env.qual ++ "<lambda>") params body scope (cloFrom X.env.cells scope.names []) ((X.mg "__name__").getD .none) c' ctv)) I hP
      (fun b o hb e => Heap.get?_push_of_some _ (hx b o hb e)) (Heap.get?_push_of_some _ htb) hge ⟨oc, vs, t, Heap.get?_push_of_some _ hoc, hd, hv⟩
    have hE : ∀ b o, b ≠ pt → H b = some o → (upd (upd H pt (.tbl (ps ++ #[rawInt pos.line, rawInt pos.col, .ref c']))) c' (CodeO c' (X.env.qual ++ "<lambda>"))) b = some o := fun b o n e => by
      rw [upd_ne (ne_of_none e nC), upd_ne n]
      exact e
    have eL : (ps ++ #[rawInt pos.line, rawInt pos.col, .ref c']).toList = ps.toList ++ [rawInt pos.line, rawInt pos.col, .ref c'] := by simp
    refine h h'.objs.size c' ((X.mg "__name__").getD .none) ctv _ _ I1 hE (fun b n => ?_) (fun p hp => ?_) (Heap.get?_push_size _ rfl) ?_ (nofr _ hsz) upd_same
    · by_cases hb : b = pt
      · rw [hb, upd_ne nPc, upd_same]; exact fun z => nomatch z
      · cases e : H b with
        | none => exact absurd e n
        | some o => rw [hE b o hb e]; exact fun z => nomatch z
    · by_cases hb : p.1 = pt
      · rw [hu p hp hb, hb]
        refine ⟨_, by rw [upd_ne nPc, upd_same], by rw [eL]; exact PySem.TriplesOk_snoc _ _ _ _ ht, fun p' cv hcv => ?_⟩
        rw [eL] at hcv
        rcases among_app2 _ ht hcv with z | ⟨z, z1, z2⟩
        · obtain ⟨c0, e1, e2⟩ := ha p' cv z
          exact ⟨c0, e1, hE _ _ (fun w => by rw [w, hP] at e2; exact codeO_ne _ (Option.some.inj e2).symm) e2⟩
        · refine ⟨c', z, ?_⟩
          rw [← z1, ← z2, hn]
          exact upd_same
      · obtain ⟨ps', a1, a2, a3⟩ := hT p hp
        refine ⟨ps', hE _ _ hb a1, a2, fun p' cv hcv => ?_⟩
        obtain ⟨c0, e1, e2⟩ := a3 p' cv hcv
        exact ⟨c0, e1, hE _ _ (fun w => by rw [w, hP] at e2; exact codeO_ne _ (Option.some.inj e2).symm) e2⟩
    · have n1 : h'.objs.size ≠ c' := Nat.ne_of_gt hlt
      have n2 : h'.objs.size ≠ pt := Nat.ne_of_gt (Nat.lt_of_lt_of_le (Heap.lt_size hP') hsz)
      rw [upd_ne n1, upd_ne n2]
      exact I.hok.fresh hsz
  | some cv =>
    obtain ⟨c', e, hco⟩ := ha pos cv hc
    subst e
    rw [hn] at hco
    refine PySem.W.kla_makeFunctionHit (mg := X.mg) (c := c) (P := pt) (ps := ps) (closure_ok hfree) I.ok.glob (I.mod.glob.keeps I.bk) hcode (TB.code.keeps I.bk) hP' ht hc bP fun ctv h' tk hx hsz => ?_
    have I1 : Inv X pins σ H { s with heap := h'.push (PySem.W.kla_obj "<lambda>" (X.env.qual ++ "<lambda>") params body scope (cloFrom X.env.cells scope.names []) ((X.mg "__name__").getD .none) c' ctv), toks := tk } := I.kept fun b o e => Heap.get?_push_of_some _ (hx b o e)
    exact h h'.objs.size c' ((X.mg "__name__").getD .none) ctv H _ I1 (fun _ _ _ e => e) (fun _ n => n) hT (Heap.get?_push_size _ rfl) (I.hok.fresh hsz) (nofr _ hsz) hco
end
section
variable {T : Tab} {env : Ue.Env} {σ : L2.St} {P H H1 : Hp}
theorem Rel.lam {pt : Addr} {nm : Nat → Nat → Str} (R : Rel T env σ P H) (hm : (pt, nm) ∈ T.tbs) (k : ∀ b o, b ≠ pt → H b = some o → H1 b = some o) (k2 : ∀ b, H b ≠ none → H1 b ≠ none) (t : TabsN T.tbs H1) : Rel T env σ P H1 ∧ Ue.Fr env σ P H env σ P H1 := by
  obtain ⟨ps, hp⟩ := R.tabs.at_ hm
  have ne : ∀ {b o}, H b = some o → NoT o → b ≠ pt := fun {b o} e n z => by
    rw [z, hp] at e; exact n ps (Option.some.inj e).symm
  obtain ⟨R2, w⟩ := R.reH (P' := P) (H' := H1) (PSub.refl _) (fun b o e => k b o (fun z => by rw [z, R.tabs.2 _ hm] at e; cases e) (R.sub b o e)) ⟨t, R.tabs.2⟩ fun b u h1 h2 => ⟨k b u (ne h1 (R.ownK h2 h1).1) h1, (R.ownAt h2).choose_spec.2⟩
  exact ⟨R2, fun b o e _ n => k b o (ne e n) e, fun b _ n z => n ((w b).mp z), PSub.refl _, fun b h => .inl h, k2⟩
end
end Ue
set_option linter.all false
set_option Elab.async false
set_option maxRecDepth 100000
set_option maxHeartbeats 4000000
namespace Ue
open PySem PySem.W PySem.Calls PyProof.Rows
section
variable {fs X : List Addr} {h h' h'' : Heap} {s s' s'' : Shared}
mutual
theorem reads_kb (k : ∀ b o, h.get? b = some o → o.cls = .type "tuple" → ∃ sl, h'.get? b = some { o with slots := sl }) : ∀ {v : Value} {d : PyData} {as : List Addr}, Reads h v d as → as = [] → Reads h' v d as
  | _, _, _, .none, _ => .none
  | _, _, _, .bool b, _ => .bool b
  | _, _, _, .int i t, _ => .int i t
  | _, _, _, .str x t, _ => .str x t
  | _, _, _, .list _ _ _ _, z => nomatch z
  | _, _, _, .tuple e c d r, z => by
    obtain ⟨sl, q⟩ := k _ _ e c
    exact .tuple q c d (readsAll_kb k r z)
  | _, _, _, .dict _ _ _ _ _, z => by simp at z
theorem readsAll_kb (k : ∀ b o, h.get? b = some o → o.cls = .type "tuple" → ∃ sl, h'.get? b = some { o with slots := sl }) : ∀ {vs : List Value} {ds : List PyData} {as : List Addr}, ReadsAll h vs ds as → as = [] → ReadsAll h' vs ds as
  | _, _, _, .nil, _ => .nil
  | _, _, _, .cons r t, z => .cons (reads_kb k r (List.append_eq_nil_iff.mp z).1) (readsAll_kb k t (List.append_eq_nil_iff.mp z).2)
end
end
section
variable {prog : Program} {w : World} {A : Around} {E : Value → Shared → Prop} {s s₁ : Shared} {a kS : Addr} {b : Bool} {vs : List Value} {keys : Array Value} {e e1 : Nat} {P : PySem.Fin → Shared → Prop} {kz : List PyData} {fs : List Addr}
theorem kf_rest {f : Value} (kp : SB fs [a] s₁ s) (hkS : s₁.heap.get? kS = none) (nk : s.heap.get? kS = some (seqObj "list" #[] 0)) (na : s.heap.get? a = some (seqObj "list" #[] e1)) (hka : kS ≠ a) (fk : kS ∉ fs) (fa : a ∉ fs)
    (hlen : kz.length = vs.length) (hZ : vs.length ≤ sizeLine) (hal : AllAlike kz) (hsk : Sortable kz) (hu : ∀ d, d ∈ kz → A.units + d.depth < cLine)
    (turn : ∀ (i : Nat) (v : Value) (k : PyData), vs[i]? = some v → kz[i]? = some k → ∀ t : Shared, SB fs [a] s₁ t → wpAny (model prog w) A (call f [v]) (fun u t' => SB fs [] t t' ∧ Reads t'.heap u k []) (fun _ _ => False) t)
    (h : ∀ s' out c, SB fs [a] s₁ s' → s'.heap.get? a = some (seqObj "list" (List.toArray out) c) → KeyedOut b kz vs out → P (.done (.ret .none)) s') :
    wpAny (model prog w) A (ksk_rest a f b vs.toArray e1 (.ref kS)) P E s := by
  unfold ksk_rest
  refine wpAny_bind (wpAny_rule ?_)
  first
    | rw [List.forIn_toArray]
    | (rw [← Array.forIn_toList]; simp only [List.toList_toArray])
    | rw [← Array.forIn_toList]
  refine wpAny_bind (ksk_fold (fun i t => ∃ kA e, SB fs [a] s₁ t ∧ t.heap.get? kS = some (seqObj "list" kA e) ∧ t.heap.get? a = some (seqObj "list" #[] e1) ∧ EachIs (fun v k => Reads t.heap v k [] ∧ alike k k = true) kA.toList (kz.take i)) vs 0 s
    ⟨#[], 0, kp, nk, na, by rw [List.take_zero]; exact EachIs.nil⟩ ?step ?done)
  case step =>
    rintro j x t hx ⟨kA, e, kp', nk', na', hk⟩
    simp only [Nat.zero_add] at hk ⊢
    have hj : j < vs.length := (List.getElem?_eq_some_iff.mp hx).1
    obtain ⟨k, hkj⟩ : ∃ k, kz[j]? = some k := ⟨_, List.getElem?_eq_getElem (by omega)⟩
    have hkk : alike k k = true := hal k (List.mem_of_getElem? hkj) k (List.mem_of_getElem? hkj)
    have hz : kA.size ≤ vs.length := by
      have h1 := hk.length
      rw [Array.length_toList, List.length_take] at h1
      omega
    refine wpAny_bind (wpAny_attempt (wpAny_mono (turn j x k hx hkj t kp') (fun v t' he => ?_) fun _ _ hF => hF.elim))
    obtain ⟨sb, hr⟩ := he
    try dsimp only
    have nk2 : t'.heap.get? kS = some (seqObj "list" kA e) := (sb.kb _ _ (by simp) nk').1 fk
    have na2 : t'.heap.get? a = some (seqObj "list" #[] e1) := (sb.kb _ _ (by simp) na').1 fa
    have s1 := Heap.SameBut.update t'.heap kS (Obj.mapSeq (·.push v))
    obtain ⟨c2, hc2⟩ : ∃ c2, (t'.heap.update kS (Obj.mapSeq (·.push v))).get? kS = some (seqObj "list" (kA.push v) c2) := ⟨_, get?_update_seq nk2 (·.push v)⟩
    have ek : kz.take (j + 1) = kz.take j ++ [k] := by rw [List.take_add_one, hkj]; simp
    have ea : (kA.push v).toList = kA.toList ++ [v] := by simp
    refine wpAny_bind (listUpdate_at nk2 rfl ?_ (Nat.le_trans hz hZ) (Nat.le_trans (Nat.le_of_eq (Array.size_push ..)) (Nat.succ_le_succ (Nat.le_trans hz hZ))))
    have tup : ∀ b o, t'.heap.get? b = some o → o.cls = .type "tuple" → ∃ sl, (t'.heap.update kS (Obj.mapSeq (·.push v))).get? b = some { o with slots := sl } := fun b o e c => by
      have hb : b ≠ kS := fun z => by
        rw [z, nk2] at e
        cases e
        have c : Value.type "list" = .type "tuple" := c
        injection c with c
        exact absurd c (by decide)
      exact ⟨o.slots, (s1.2 b hb).trans e⟩
    refine wpAny_pure ⟨rfl, kA.push v, c2, ⟨sb.os.trans kp'.os, fun z => sb.bare (kp'.bare z), ?_⟩, hc2, (s1.2 a hka.symm).trans na2, ?_⟩
    · refine (kp'.trans sb).kb.trans fun b o _ e ⟨o', e'⟩ => ?_
      have hb : b ≠ kS := fun z => by rw [z, hkS] at e'; cases e'
      exact ⟨fun _ => (s1.2 b hb).trans e, o.slots, (s1.2 b hb).trans e⟩
    · rw [ea, ek]
      refine each_snoc (R := fun (u : Value) (d : PyData) => Reads (t'.heap.update kS (Obj.mapSeq (·.push v))) u d [] ∧ alike d d = true) ⟨reads_kb tup hr rfl, hkk⟩ ?_
      exact hk.mono fun u d q => ⟨reads_kb tup (reads_kb (fun b o e _ => (sb.kb b o (by simp) e).2) q.1 rfl) rfl, q.2⟩
  case done =>
    rintro t ⟨kA, e, kp', nk', na', hk⟩
    have hk' : EachIs (fun v k => ∃ as, Reads t.heap v k as) kA.toList kz := by
      have e3 : kz.take (0 + vs.length) = kz := List.take_of_length_le (by omega)
      rw [e3] at hk
      exact hk.mono fun v k q => ⟨[], q.1⟩
    have hsz : kA.size = vs.length := by
      have h1 := hk'.length
      rw [Array.length_toList] at h1
      omega
    try dsimp only
    refine wpAny_bind (listItems_at nk' rfl ?_)
    have hid : ∀ b o, b ≠ kS → t.heap.get? b = some o → (hideAll t.heap [kS]).get? b = some o := fun b o n e => hideAll_get _ e (by simpa using n)
    refine keyH_end (κ := dataKind t.heap kz) (h₁ := hideAll t.heap [kS]) (fun b o n e => of_hideAll _ e) (hideAll_none _ (by simp)) nk' na' hka (SortsAt.data (s := t) hk' hal hsk hu) hsz hZ fun h3 tk3 c k3 n3 => ?_
    refine h { t with heap := h3, toks := tk3 } _ c ⟨kp'.os, kp'.bare, ?_⟩ n3 ⟨t.heap, kA.toList, hal, rfl, hk'⟩
    refine kp'.kb.trans fun b o n e ⟨o', e'⟩ => ?_
    have hb : b ≠ kS := fun z => by rw [z, hkS] at e'; cases e'
    have q := k3 b o (by simpa using n) (hid b o hb e)
    exact ⟨fun _ => q, o.slots, q⟩
theorem kf_tree {f : Value} {n : Nat} (ho : s.heap.get? a = some (seqObj "list" vs.toArray n)) (hlen : kz.length = vs.length) (hZ : vs.length ≤ sizeLine) (hal : AllAlike kz) (hsk : Sortable kz) (hu : ∀ d, d ∈ kz → A.units + d.depth < cLine)
    (hfs : ∀ b ∈ fs, b < a)
    (turn : ∀ (i : Nat) (v : Value) (k : PyData), vs[i]? = some v → kz[i]? = some k → ∀ t : Shared, SB fs [a] s t → wpAny (model prog w) A (call f [v]) (fun u t' => SB fs [] t t' ∧ Reads t'.heap u k []) (fun _ _ => False) t)
    (h : ∀ s' out c, SB fs [a] s s' → s'.heap.get? a = some (seqObj "list" (List.toArray out) c) → KeyedOut b kz vs out → P (.done (.ret .none)) s') :
    wpAny (model prog w) A (ksk_tree a f b) P E s := by
  have ha : a < s.heap.objs.size := Heap.lt_size ho
  obtain ⟨e1, ho1⟩ : ∃ e1, (s.heap.update a (Obj.mapSeq fun _ => (#[] : Array Value))).get? a = some (seqObj "list" #[] e1) := ⟨_, get?_update_seq ho fun _ => #[]⟩
  have hkS : ((s.heap.update a (Obj.mapSeq fun _ => (#[] : Array Value))).push (seqObj "tuple" vs.toArray 0)).objs.size = s.heap.objs.size + 1 := by rw [size_push', Heap.size_update]
  unfold ksk_tree
  refine wpAny_bind (listItems_at ho rfl ?_)
  refine wpAny_bind (listUpdate_at ho rfl ?_ (by rw [List.size_toArray]; exact hZ) (Nat.zero_le _))
  refine wpAny_bind (seqEpoch_at ho1 rfl ?_)
  refine wpAny_bind (wpAny_newTuple ?_ (by show vs.length ≤ _; exact hZ))
  refine wpAny_bind (wpAny_newList ?_ (Nat.zero_le _))
  refine wpAny_holding ?_
  have nf : ∀ c, a ≤ c → c ∉ fs := fun c hc z => Nat.lt_irrefl _ (Nat.lt_of_lt_of_le (hfs c z) hc)
  refine kf_rest (kz := kz) (s₁ := s) (fs := fs) (kS := ((s.heap.update a (Obj.mapSeq fun _ => (#[] : Array Value))).push (seqObj "tuple" vs.toArray 0)).objs.size)
    ⟨rfl, id, .of fun b o hb q => sortingHeap_old (by simpa using hb) q⟩ (Heap.get?_none_of_le (by rw [hkS]; exact Nat.le_succ _)) (Heap.get?_push_size _ rfl) (Heap.get?_push_of_some _ (Heap.get?_push_of_some _ ho1)) (by rw [hkS]; exact Nat.ne_of_gt (Nat.lt_succ_of_lt ha)) (nf _ (by rw [hkS]; exact Nat.le_of_lt (Nat.lt_succ_of_lt ha))) (nf _ (Nat.le_refl _)) hlen hZ hal hsk hu turn h
end
section
variable {prog : Program} {w : World} {A : Around} {E : Value → Shared → Prop} {s : Shared} {β : Type} {vs : List Value} {bs : List β} {R : Value → β → Prop} {fs : List Addr}
theorem sorted_kb {l : Addr} {f : Value} {kw : List (Str × Value)} {b : Bool} {Q : Value → Shared → Prop} (k : β → PyData) (hl : s.heap.IsList l vs.toArray) (e : EachIs R vs bs) (hal : AllAlike (bs.map k)) (hk : Sortable (bs.map k)) (hL : bs.length ≤ sizeLine)
    (hu : ∀ x, x ∈ bs → A.units + 2 + (k x).depth < cLine) (ha1 : argsOk "sorted" ⟨[.ref l], kw⟩) (ha2 : ∀ x, argsOk "list.sort" ⟨[.ref x], kw⟩) (ht : ∀ x, Builtin.«list.sort» ⟨[.ref x], kw⟩ = ksk_tree x f b) (hfs : ∀ b ∈ fs, b < s.heap.objs.size)
    (turn : ∀ (v : Value) (x : β), R v x → x ∈ bs → ∀ t : Shared, SB fs [] s t → wpAny (model prog w) A.in1.in1 (call f [v]) (fun u t' => SB fs [] t t' ∧ Reads t'.heap u (k x) []) (fun _ _ => False) t)
    (h : ∀ out c s', SB fs [] s s' → s'.heap.get? (s.heap.objs.size + 1) = some (seqObj "list" (List.toArray out) c) → out.length = bs.length → EachIs R out (bs.mergeSort (dataLe b k)) → Q (.ref (s.heap.objs.size + 1)) s') :
    wpAny (model prog w) A (call (.builtin "sorted") [.ref l] kw) Q E s := by
  have up : ∀ {t : Shared}, SB fs [s.heap.objs.size + 1] { s with heap := copyHeap s.heap vs } t → SB fs [] s t := fun {t} kp => ⟨kp.os, kp.bare, fun b o _ q => kp.kb b o (fun z => by
    have l : b < s.heap.objs.size := Heap.lt_size q
    rw [List.mem_singleton.mp z] at l
    exact Nat.lt_irrefl _ (Nat.lt_of_succ_lt l)) (copyHeap_old q)⟩
  refine sorted_of_sort hl (by rw [e.length]; exact hL) ha1 ha2 fun E' => ?_
  rw [ht]
  refine kf_tree (kz := bs.map k) (fs := fs) (s := { s with heap := copyHeap s.heap vs }) (copyHeap_at s.heap vs) (by rw [List.length_map]; exact e.length.symm) (by rw [e.length]; exact hL) hal hk (bound_map (A := A.in1.in1) hu) (fun b hb => Nat.lt_succ_of_lt (hfs b hb)) (fun i v d hv hd t kp => ?_) fun s' out c kp hD ko => ⟨rfl, ?_⟩
  · rw [List.getElem?_map] at hd
    cases q : bs[i]? with
    | none => rw [q] at hd; simp at hd
    | some x =>
      rw [q] at hd
      have hd' : some (k x) = some d := hd
      rw [← Option.some.inj hd']
      have hz : (v, x) ∈ vs.zip bs := List.mem_of_getElem? (i := i) (by rw [List.getElem?_zip_eq_some]; exact ⟨hv, q⟩)
      exact turn v x (e.zip _ hz) (List.mem_of_getElem? q) t (up kp)
  · exact h out c s' (up kp) hD ((ko.length (by rw [List.length_map]; exact e.length.symm)).trans e.length) (keyedOut_each k ko e)
end
end Ue
set_option linter.all false
set_option Elab.async false
set_option maxRecDepth 100000
set_option maxHeartbeats 4000000
namespace Ue
open PySem PySem.Spec PyProof.Rows L2 LamX NdefX
mutual
def flatP : PyData → Bool
  | .none => true
  | .bool _ => true
  | .int _ => true
  | .str _ => true
  | .list _ => false
  | .tuple xs => flatPs xs
  | .dict _ => false
def flatPs : List PyData → Bool
  | [] => true
  | x :: xs => flatP x && flatPs xs
end
mutual
def flatD : D → Bool
  | .non => true
  | .bl _ => true
  | .int _ => true
  | .str _ => true
  | .tup ds => flatDs ds
  | .lst _ => false
  | .obj _ _ => false
  | .scr _ => false
  | .dct _ => false
  | .tpx _ => false
def flatDs : List D → Bool
  | [] => true
  | d :: ds => flatD d && flatDs ds
end
section
variable {P : Program} {w : World} {K : PySem.W.Frag} {H : Hp} {h : Heap}
mutual
theorem dp_reads (hok : HOk P w H h) (kin : K.In h) : ∀ (d : PyData) (v : V) (u : Value), flatP d = true → Dp K H v d → RelV v u → Reads h u d []
  | .none, _, _, _, q, r => by cases q; cases r; exact .none
  | .bool b, _, _, _, q, r => by cases q; cases r; exact .bool b
  | .int i, _, _, _, q, r => by cases q; obtain ⟨t, rfl⟩ := r; exact .int i t
  | .str x, _, _, _, q, r => by cases q; obtain ⟨t, rfl⟩ := r; exact .str x t
  | .list _, _, _, f, _, _ => by cases f
  | .dict _, _, _, f, _, _ => by cases f
  | .tuple ds, _, _, f, q, r => by
    have f : flatPs ds = true := f
    cases q with
    | tup hs ha =>
      cases r
      rcases hs with hs | ⟨o, its, n, hk, hc, hd, _, rv⟩
      · obtain ⟨_, its, rv, ⟨o, ho, hc, n, hd⟩⟩ := hs.ok hok
        exact .tuple ho hc hd (dp_readsAll hok kin ds _ its f ha rv)
      · exact .tuple (kin _ _ hk) hc hd (dp_readsAll hok kin ds _ its.toList f ha rv)
theorem dp_readsAll (hok : HOk P w H h) (kin : K.In h) : ∀ (ds : List PyData) (vs : List V) (us : List Value), flatPs ds = true → DpAll K H vs ds → Vals vs us → ReadsAll h us ds []
  | [], _, _, _, q, r => by cases q; cases r; exact .nil
  | d :: ds, _, _, f, q, r => by
    have f : (flatP d && flatPs ds) = true := f
    rw [Bool.and_eq_true] at f
    cases q with
    | cons q1 q2 =>
      cases r with
      | cons r1 r2 => exact .cons (dp_reads hok kin d _ _ f.1 q1 r1) (dp_readsAll hok kin ds _ _ f.2 q2 r2)
end
end
section
variable {X : Cx} {pins : List (Addr × Obj)} {σ : L2.St} {H : Hp} {s s' : Shared}
theorem hok_sb (I : Inv X pins σ H s) (b : SB (frs X.stack) [] s s') : ∀ d v, H d ≠ none → s.heap.get? d = some v → s'.heap.get? d = some v := fun d v n q =>
  (b.kb d v (by simp) q).1 fun z => n (I.stkFree d z)
theorem inv_sb (I : Inv X pins σ H s) (b : SB (frs X.stack) [] s s') : Inv X pins σ H s' := by
  have key := hok_sb I b
  have ho : HOk X.prog X.w H s'.heap := fun a o e => (I.hok a o e).stay (fun d v hd q => key d v (by
    rcases hd with rfl | hd
    · rw [e]; exact fun z => nomatch z
    · rw [hd]; exact fun z => nomatch z) q) (fun _ q => q) (fun _ _ q => q)
  have un : Un (frs X.stack) [] H H s.heap s'.heap := ⟨fun c o q _ n _ => (b.kb c o (by simp) q).1 n, fun c o q _ _ _ => (b.kb c o (by simp) q).2, fun _ _ _ n _ => n, fun c o q _ => let ⟨sl, z⟩ := (b.kb c o (by simp) q).2; ⟨_, z⟩, fun _ _ q => q, fun _ _ _ q => q, fun _ ps q => ⟨#[], by simpa using q⟩⟩
  obtain ⟨v, H', J, _, q⟩ := I.after (Q := fun _ H' => H' = H) (u := Value.none) (s' := s') ⟨.non, H, b.os, b.bare I.bare, un, ho, rfl, rfl⟩
  have q : H' = H := q
  subst q; exact J
theorem ep_sb {Q : VK} {p : Addr} {ws : List V} {out : List Value} {c : Nat} (I : Inv X pins σ H s) (b : SB (frs X.stack) [] s s') (hp : s.heap.objs.size ≤ p) (hl : ws.length ≤ sizeLine) (r : Vals ws out) (e : s'.heap.get? p = some { cls := .type "list", data := .seq out.toArray c })
    (q : Q (.ref p) (upd H p (.lst ws))) : EP X pins σ Q (.ref p) s' := by
  have key := hok_sb I b
  have hn := I.hok.fresh hp
  have ne : ∀ {d o}, s.heap.get? d = some o → d ≠ p := fun {d o} e z => by
    have := Heap.lt_size e
    rw [z] at this
    exact Nat.lt_irrefl _ (Nat.lt_of_lt_of_le this hp)
  have neH : ∀ {d o}, H d = some o → d ≠ p := fun {d o} e => ne_of_none e hn
  have ho : HOk X.prog X.w (upd H p (.lst ws)) s'.heap := fun a o e2 => by
    by_cases ha : a = p
    · subst ha
      rw [upd_same] at e2; cases e2
      exact ⟨hl, out, c, r, e⟩
    · rw [upd_ne ha] at e2
      refine (I.hok a o e2).stay (fun d v hd q => key d v (by
        rcases hd with rfl | hd
        · rw [e2]; exact fun z => nomatch z
        · rw [hd]; exact fun z => nomatch z) q) (fun d q => (upd_ne (neH q)).trans q) (fun d xs q => (upd_ne (neH q)).trans q)
  have un : Un (frs X.stack) [] H (upd H p (.lst ws)) s.heap s'.heap := ⟨fun c o q _ n _ => (b.kb c o (by simp) q).1 n, fun c o q _ _ _ => (b.kb c o (by simp) q).2, fun d o q n _ => (upd_ne (ne q)).trans n, fun c o q _ => let ⟨sl, z⟩ := (b.kb c o (by simp) q).2; ⟨_, z⟩, fun d xs q => (upd_ne (neH q)).trans q, fun d o u q => (upd_ne (neH q)).trans q, fun d ps q => ⟨#[], by rw [upd_ne (neH q)]; simpa using q⟩⟩
  exact I.after ⟨.ref p, _, b.os, b.bare I.bare, un, ho, rfl, q⟩
end
theorem clo_nil {cells : List (Str × Addr)} : ∀ {names : List (Str × NameKind)} {acc : List (Str × Addr)}, (∀ y ∈ names, y.2 ≠ .free) → cloFrom cells names acc = acc
  | [], _, _ => rfl
  | (n, k) :: r, acc, h => by
    have hk : k ≠ .free := h (n, k) List.mem_cons_self
    have ih := clo_nil (cells := cells) (names := r) (acc := acc) fun y hy => h y (List.mem_cons_of_mem _ hy)
    cases k <;> first | exact absurd rfl hk | exact ih
theorem run_lam {Z : CXT} {P : Program} {w : World} {K : PySem.W.Frag} {mg : Str → Option Value} {base : Heap} {k : Nat} {f c' : Addr} {qual : Str} {params : Arguments} {body : Expr} {scope : Scope} {pm ctv : Value} {y : Str} {A : Around} {outer : List PySem.Env} {s : Shared} {H : Hp} {v : V} {u : Value} {Q : VK} {E : XK}
    (hf : s.heap.get? f = some (PySem.W.kla_obj "<lambda>" qual params body scope [] pm c' ctv)) (hcd : s.heap.CodeRec (.ref c') qual) (S : FnScope [y] [y] scope) (hr : Room (k + 1) A) (e0 : Env0 P w K mg base A outer s H)
    (hbind : ∀ (q : Str) (cl : List (Str × Addr)) (pm cv ctv u : Value), bindArgs (PySem.W.kla_fn "<lambda>" q params body scope cl pm cv ctv) ⟨[u], []⟩ = pure [(y, u)]) (r : RelV v u)
    (hbody : Room k (A.deeper (envOfC qual scope s.heap.objs.size f (.ref c'))) → ∃ t, PE (cxOf Z P w K mg base [y] qual scope f (.ref c') A outer s H E) body t ∧ t (L2.start [y] [v]) H Q) :
    codeAny (model P w) A (.call (.ref f) ⟨[u], []⟩) (CR Z outer P w H s Q E) s := by
  have lim : s.heap.NoLimit := e0.mod.nolimit.keeps fun b o e => (e0.bs b o e).1
  have hkind : ∀ z ∈ [y].zip [u], scope.names.lookup z.1 = some .local ∨ (scope.names.lookup z.1 = some .cell ∧ ((cellsFrom (s.heap.objs.size + 1) scope.names []).lookup z.1).isSome = true) := fun ⟨n, v⟩ hy => by
    rcases S.par n (List.of_mem_zip hy).1 with q | q
    · exact .inl q
    · exact .inr ⟨q, PySem.W.cellsFrom_some _ _ _ (.inl q)⟩
  refine PySem.W.kla_callFunE hr.depth hf rfl S.co S.gen rfl hcd ?_
  rw [hbind]
  refine wpAny_pure ?_
  refine wpAny_newFunctionEnv_cells S.kind hkind fun env he s1 x => ?_
  subst he
  refine ⟨lim.keeps x.toInCall.keep, PySem.W.kla_codeExpr ?_⟩
  obtain ⟨t, ht, hq⟩ := hbody (hr.deeper _)
  have I : Inv (cxOf Z P w K mg base [y] qual scope f (.ref c') A outer s H E) [] (L2.start [y] [v]) H s1 := inv_start S hr.hd e0 rfl (.cons r .nil) x
  exact wpAny_mono (ht.run [] s1 (L2.start [y] [v]) H Q I hq) (fun u' s' ⟨v', H', J, rv, q⟩ => ⟨v', H', J.os, J.bare, J.base, J.hok, rv, q⟩) fun e s' hs => hs
end Ue
set_option linter.all false
set_option Elab.async false
set_option maxRecDepth 100000
set_option maxHeartbeats 4000000
namespace Ue
open PySem PySem.Spec PyProof.Rows L2 LamX NdefX
def keyPy (mk : M) (d : D) : Option PyData := match mk [some (.v d)] with
  | .ok k _ => (match toPy k with | some p => if flatP p then some p else none | none => none)
  | _ => none
def keyOf (mk : M) (d : D) : PyData := (keyPy mk d).getD .none
def alikeL (ps : List PyData) : Bool := ps.all fun p => ps.all fun q => PySem.W.alike p q
def isTupP : PyData → Bool
  | .tuple (_ :: _) => true
  | _ => false
def isOthP : PyData → Bool
  | .none => false
  | .tuple _ => false
  | _ => true
def sortL (ps : List PyData) : Bool := ps.all isTupP || ps.all isOthP
def keyB (mk : M) (ds : List D) : Bool := decide (ds.length ≤ sizeLine) && ds.all (fun d => flatD d && (keyPy mk d).isSome && decide ((keyOf mk d).depth ≤ 100)) && alikeL (ds.map (keyOf mk)) && sortL (ds.map (keyOf mk))
def sortKL (mk : M) (ds : List D) : Option (List D) := if keyB mk ds then some (ds.mergeSort (PySem.W.dataLe false (keyOf mk))) else none
def sortKM (mk ma : M) : M := fun env => (ma env).bind fun d e => match d with
  | .lst ds => (match sortKL mk ds with | some es => .ok (.lst es) e | none => .stk)
  | _ => .stk
theorem keyPy_some {mk : M} {d : D} (h : (keyPy mk d).isSome = true) : ∃ k e, mk [some (.v d)] = .ok k e ∧ toPy k = some (keyOf mk d) ∧ flatP (keyOf mk d) = true := by
  unfold keyOf
  unfold keyPy at h ⊢
  cases q : mk [some (.v d)] with
  | ok k e =>
    rw [q] at h
    dsimp only at h ⊢
    cases q2 : toPy k with
    | none => rw [q2] at h; cases h
    | some p =>
      rw [q2] at h
      dsimp only at h ⊢
      by_cases f : flatP p = true
      · rw [if_pos f]; exact ⟨k, e, rfl, q2, f⟩
      · rw [if_neg f] at h; cases h
  | exc _ _ _ => rw [q] at h; cases h
  | stk => rw [q] at h; cases h
theorem sortL_ok {ps : List PyData} (h : sortL ps = true) : PySem.W.Sortable ps := by
  unfold sortL at h
  rw [Bool.or_eq_true, List.all_eq_true, List.all_eq_true] at h
  rcases h with h | h
  · refine .inl fun d hd => ?_
    have := h d hd
    cases d with
    | tuple xs =>
      cases xs with
      | nil => cases this
      | cons x r => exact ⟨x, r, rfl⟩
    | _ => cases this
  · refine .inr fun d hd => ?_
    have := h d hd
    cases d with
    | none => cases this
    | tuple xs => cases this
    | _ => exact ⟨fun z => (nomatch z), fun _ z => (nomatch z)⟩
def frzT (h : Heap) (P : Hp) : Hp := fun b => match P b, h.get? b with
  | some (.tup xs), some o => some (.frz o (.tup xs))
  | some (.frz _ (.tup xs)), some o => some (.frz o (.tup xs))
  | _, _ => none
theorem frzT_some {h : Heap} {P : Hp} {b : Addr} {u : HO} (e : frzT h P b = some u) : ∃ xs o, u = .frz o (.tup xs) ∧ h.get? b = some o ∧ (P b = some (.tup xs) ∨ ∃ o', P b = some (.frz o' (.tup xs))) := by
  unfold frzT at e
  split at e
  · rename_i xs o q1 q2; cases e; exact ⟨xs, o, rfl, q2, .inl q1⟩
  · rename_i o' xs o q1 q2; cases e; exact ⟨xs, o, rfl, q2, .inr ⟨o', q1⟩⟩
  · cases e
section
variable {T T0 : Tab} {P H : Hp} {h : Heap} {prog : Program} {w : World}
theorem frzT_rd {a : Addr} {xs : List V} (s : PSub P H) (hok : HOk prog w H h) (r : Rd P a (.tup xs)) : Rd (frzT h P) a (.tup xs) := by
  rcases r with r | ⟨o, r⟩
  · obtain ⟨_, its, _, ⟨o, ho, _⟩⟩ := hok a _ (s _ _ r)
    exact .inr ⟨o, by unfold frzT; rw [r, ho]⟩
  · obtain ⟨ho, _⟩ := hok a _ (s _ _ r)
    exact .inr ⟨o, by unfold frzT; rw [r, ho]⟩
mutual
theorem rep_frzT (hK : T0.K = T.K) (s : PSub P H) (hok : HOk prog w H h) : ∀ (d : D) (x : V), flatD d = true → Rep T P d x → Rep T0 (frzT h P) d x
  | .non, _, _, r => by rw [Rep] at r ⊢; exact r
  | .bl _, _, _, r => by rw [Rep] at r ⊢; exact r
  | .int _, _, _, r => by rw [Rep] at r ⊢; exact r
  | .str _, _, _, r => by rw [Rep] at r ⊢; exact r
  | .tup ds, x, q, r => by
    have q : flatDs ds = true := q
    rw [Rep] at r ⊢
    obtain ⟨a, vs, e, h1, h2⟩ := r
    refine ⟨a, vs, e, ?_, reps_frzT hK s hok ds vs q h2⟩
    rcases h1 with h1 | h1
    · exact .inl (frzT_rd s hok h1)
    · rw [hK]; exact .inr h1
  | .lst _, _, q, _ => by cases q
  | .obj _ _, _, q, _ => by cases q
  | .scr _, _, q, _ => by cases q
  | .dct _, _, q, _ => by cases q
  | .tpx _, _, q, _ => by cases q
theorem reps_frzT (hK : T0.K = T.K) (s : PSub P H) (hok : HOk prog w H h) : ∀ (ds : List D) (vs : List V), flatDs ds = true → Reps T P ds vs → Reps T0 (frzT h P) ds vs
  | [], _, _, r => by rw [Reps] at r ⊢; exact r
  | d :: ds, _, q, r => by
    have q : (flatD d && flatDs ds) = true := q
    rw [Bool.and_eq_true] at q
    rw [Reps] at r ⊢
    obtain ⟨v, vs, e, h1, h2⟩ := r
    exact ⟨v, vs, e, rep_frzT hK s hok d v q.1 h1, reps_frzT hK s hok ds vs q.2 h2⟩
end
theorem each_reps : ∀ {out : List Value} {es : List D}, PySem.W.EachIs (fun (v : Value) (d : D) => ∃ x, RelV x v ∧ Rep T P d x) out es → ∃ ws, Vals ws out ∧ Reps T P es ws
  | _, _, .nil => ⟨[], .nil, Reps.nil⟩
  | _, _, .cons ⟨x, r, k⟩ t => by
    obtain ⟨ws, a, b⟩ := each_reps t
    exact ⟨x :: ws, .cons r a, Reps.cons k b⟩
theorem reps_each : ∀ {its : List Value} {ds : List D} {vs : List V}, Vals vs its → Reps T P ds vs → PySem.W.EachIs (fun (v : Value) (d : D) => ∃ x, RelV x v ∧ Rep T P d x) its ds
  | _, [], _, r, k => by rw [Reps] at k; subst k; cases r; exact .nil
  | _, d :: ds, _, r, k => by
    rw [Reps] at k
    obtain ⟨v, vs, rfl, h1, h2⟩ := k
    cases r with
    | cons r1 r2 => exact .cons ⟨v, r1, h1⟩ (reps_each r2 h2)
end
section
variable {T T0 : Tab} {X : Cx} {pins : List (Addr × Obj)} {σ : L2.St} {P H : Hp} {s : Shared}
theorem key_turn {f c' : Addr} {params : Arguments} {body : Expr} {scope : Scope} {pm ctv : Value} {y : Str} {k : Nat} {mk : M} {d : D} {v : Value} {x : V} (hK0 : T0.K = X.K) (hKT : T0.K = T.K) (h0 : T0.tbs = []) (I : Inv X pins σ H s) (sub : PSub P H)
    (hf : s.heap.get? f = some (PySem.W.kla_obj "<lambda>" (X.env.qual ++ "<lambda>") params body scope [] pm c' ctv)) (hfr : f ∉ frs X.stack) (hco : H c' = some (CodeO c' (X.env.qual ++ "<lambda>"))) (hr : Room (k + 1) X.A.in1.in1) (gd : X.A.guards = some []) (S : FnScope [y] [y] scope)
    (hbind : ∀ (q : Str) (cl : List (Str × Addr)) (pm cv ctv u : Value), bindArgs (PySem.W.kla_fn "<lambda>" q params body scope cl pm cv ctv) ⟨[u], []⟩ = pure [(y, u)])
    (hbody : ∀ (A : Around) (outer : List PySem.Env) (t : Shared) (H : Hp) (f c' : Addr), A.guards = some [] → Room k (A.deeper (envOfC (X.env.qual ++ "<lambda>") scope t.heap.objs.size f (.ref c'))) → DE T0 (fun _ _ _ _ => False) (cxOf (L2.CX X.prog X.w) X.prog X.w X.K X.mg X.base [y] (X.env.qual ++ "<lambda>") scope f (.ref c') A outer t H (fun _ _ _ => False)) body .pure mk)
    (rv : RelV x v) (rp : Rep T P d x) (pl : flatD d = true) (ok : (keyPy mk d).isSome = true) (t : Shared) (sb : SB (frs X.stack) [] s t) :
    wpAny (model X.prog X.w) X.A.in1.in1 (call (.ref f) [v]) (fun u t' => SB (frs X.stack) [] t t' ∧ Reads t'.heap u (keyOf mk d) []) (fun _ _ => False) t := by
  obtain ⟨kd, ke, e1, e2, fl⟩ := keyPy_some ok
  have J := inv_sb I sb
  have e0 : Env0 X.prog X.w X.K X.mg X.base X.A.in1.in1 X.stack t H := J.env0.in1.in1
  have hf' : t.heap.get? f = some (PySem.W.kla_obj "<lambda>" (X.env.qual ++ "<lambda>") params body scope [] pm c' ctv) := (sb.kb f _ (by simp) hf).1 hfr
  have hcd : t.heap.CodeRec (.ref c') (X.env.qual ++ "<lambda>") := codeO_at J.hok hco
  have fz : ∀ b u, frzT t.heap P b = some u → H b ≠ none ∧ ∃ xs o, u = .frz o (.tup xs) ∧ t.heap.get? b = some o ∧ ObjOk X.prog X.w H t.heap b (.tup xs) := fun b u e => by
    obtain ⟨xs, o, rfl, q1, q2⟩ := frzT_some e
    rcases q2 with q2 | ⟨o', q2⟩
    · exact ⟨by rw [sub _ _ q2]; exact fun z => (nomatch z), xs, o, rfl, q1, J.hok b _ (sub _ _ q2)⟩
    · exact ⟨by rw [sub _ _ q2]; exact fun z => (nomatch z), xs, o, rfl, q1, (J.hok b _ (sub _ _ q2)).2⟩
  have hok0 : HOk X.prog X.w (frzT t.heap P) t.heap := fun b u e => by
    obtain ⟨_, xs, o, rfl, q1, q2⟩ := fz b u e
    exact ⟨q1, q2⟩
  have nonF : ∀ b, H b = none → frzT t.heap P b = none := fun b n => by
    cases q : frzT t.heap P b with
    | none => rfl
    | some u => exact absurd n (fz b u q).1
  have e00 : Env0 X.prog X.w X.K X.mg X.base X.A.in1.in1 X.stack t (frzT t.heap P) := ⟨e0.frames, e0.mod, fun b o e => ⟨(e0.bs b o e).1, nonF b (e0.bs b o e).2⟩, e0.bsz, e0.funs, fun b hb => nonF b (e0.frf b hb), hok0, e0.bare⟩
  have rp0 : Rep T0 (frzT t.heap P) d x := rep_frzT hKT sub J.hok d x pl rp
  refine wpAny_call (codeAny_mono (run_lam (Z := L2.CX X.prog X.w) (Q := fun v' H' => ∃ P', PSub P' H' ∧ Rep T0 P' kd v') (E := fun _ _ _ => False) hf' hcd S hr e00 hbind rv fun hr' => ⟨_, hbody X.A.in1.in1 X.stack t _ f c' gd hr', [some (.v d)], frzT t.heap P, ⟨PSub.refl _, fun i e q => ?_, fun i j e g x y a n q1 q2 o1 o2 => ?_, rfl, by rw [h0]; exact Tbs.nil⟩, ?_⟩) fun r s' hq => ?_)
  · cases i with
    | zero => cases q; exact ⟨x, rfl, rp0⟩
    | succ i => simp at q
  · cases i with
    | zero => cases q1; cases o1
    | succ i => simp at q1
  · rw [e1]
    exact fun P' H' R' F' z kz _ => ⟨P', R'.sub, kz⟩
  · cases r with
    | error er =>
      obtain ⟨_, _, _, _, _, _, _, _, _, _, _, _, z⟩ := (show L2.CX X.prog X.w X.stack (frzT t.heap P) t (fun _ _ _ => False) er s' from hq)
      exact z
    | ok fl' =>
      cases fl' with
      | ret u =>
        obtain ⟨z, H', os, bare, un, hok', rz, P', sub', rep'⟩ := hq
        have kin' : X.K.In s'.heap := fun b o e => by
          have q1 : X.base.get? b = some o := e0.mod.kin b o e
          exact un.keep b o (e0.bs b o q1).1 (nonF b (e0.bs b o q1).2) (fun m => by
            have := (e0.funs.mem m).1
            rw [q1] at this; cases this) (by simp)
        refine ⟨⟨os, fun _ => bare, fun b o _ e => ?_⟩, ?_⟩
        · cases q : frzT t.heap P b with
          | none =>
            refine ⟨fun n => un.keep b o e q n (by simp), ?_⟩
            by_cases m : b ∈ frs X.stack
            · exact un.slot b o e q m (by simp)
            · exact ⟨o.slots, un.keep b o e q m (by simp)⟩
          | some uu =>
            obtain ⟨_, xs, o', rfl, q1, _⟩ := fz b uu q
            have q3 : s'.heap.get? b = some o' := (hok' b _ (un.frzs b o' _ q)).1
            rw [e] at q1
            cases q1
            exact ⟨fun _ => q3, o.slots, q3⟩
        · have dp : Dp T0.K H' z (keyOf mk d) := dp_of sub' kd z _ rep' e2
          rw [hK0] at dp
          exact dp_reads hok' kin' _ _ _ fl dp rz
      | next => exact False.elim hq
      | brk => exact False.elim hq
      | cont => exact False.elim hq
end
end Ue
set_option linter.all false
set_option Elab.async false
set_option maxRecDepth 100000
set_option maxHeartbeats 4000000
namespace Ue
open PySem PySem.Spec PyProof.Rows L2 LamX NdefX
theorem de_sortK {T T0 : Tab} {W : WX} {X : Cx} {x y : Str} {p pos lpos kp : Pos} {e body : Expr} {params : Arguments} {scope : Scope} {ka : Kd} {ma mk : M} {k : Nat} {c pt : Addr} {nm : Nat → Nat → Str} (hK : X.K = T.K) (hK0 : T0.K = T.K) (h0 : T0.tbs = [])
    (hg : Gl X x) (hm : X.mg x = none) (hv : bootBuiltins x = some (.builtin "sorted")) (ha : DE T W X e ka ma) (TB : TabB X.base X.mg c pt) (hcode : X.env.code = .ref c) (hmT : (pt, nm) ∈ T.tbs) (hn : nm lpos.line lpos.col = X.env.qual ++ "<lambda>") (hu : ∀ q ∈ T.tbs, q.1 = pt → q.2 = nm)
    (hr : Room (k + 3) X.A) (gd : X.A.guards = some []) (S : FnScope [y] [y] scope) (hdef : defaultsOf params X.env = ([], []))
    (hbind : ∀ (q : Str) (cl : List (Str × Addr)) (pm cv ctv u : Value), bindArgs (PySem.W.kla_fn "<lambda>" q params body scope cl pm cv ctv) ⟨[u], []⟩ = pure [(y, u)])
    (hbody : ∀ (A : Around) (outer : List PySem.Env) (t : Shared) (H : Hp) (f c' : Addr), A.guards = some [] → Room k (A.deeper (envOfC (X.env.qual ++ "<lambda>") scope t.heap.objs.size f (.ref c'))) → DE T0 (fun _ _ _ _ => False) (cxOf (L2.CX X.prog X.w) X.prog X.w X.K X.mg X.base [y] (X.env.qual ++ "<lambda>") scope f (.ref c') A outer t H (fun _ _ _ => False)) body .pure mk)
    (hnn : x ≠ "__name__" := by decide) (hdb : (x == ("__debug__" : Str)) = false := by decide) (he1 : starEach [e] X.env = (false, eval e X.env) :: starEach [] X.env := by rfl)
    (he : backTo pos (starEach [e] X.env) = (false, eval e X.env) :: backTo pos (starEach [] X.env) := by rfl) (hpl : (backTo pos (starEach [e] X.env)).any (·.1) = false := by rfl) :
    DE T W X (.Call (.Name x p) [e] [⟨some "key", .Lambda params body scope lpos, kp⟩] pos) .fresh (sortKM mk ma) := by
  refine ⟨fun pins s σ H Q I h => ?_⟩
  obtain ⟨env, P, RR, h⟩ := h
  have nofree : ∀ z ∈ scope.names, z.2 ≠ .free := S.nofree
  have hA : PA X [e] (tCons (rdE T W ka ma) tNil) := pa_cons ha pa_nil he1
  refine wpAny_Call_Name_kw (ld_blt I hg hm hv ?_ hnn hdb)
  refine PyProof.Rows.callWith_kw (thn (hA.run pos pins s σ H (fun vs H1 => ∃ (l : Addr) (xs : List V) (ds es : List D) (env1 : Ue.Env) (P1 : Hp), vs = [V.ref l] ∧ Rel T env1 σ P1 H1 ∧ Ue.Fr env σ P H env1 σ P1 H1 ∧ Rd H1 l (.lst xs) ∧ Reps T P1 ds xs ∧ sortKL mk ds = some es ∧
      ∀ P' H', Rel T env1 σ P' H' → Ue.Fr env1 σ P1 H1 env1 σ P' H' → ∀ x, KRep T .fresh env1 σ P' H' (.lst es) x → NewV .fresh H x → Q x H') I ?_) fun us s1 ⟨vs, H1, I1, r1, l, xs, ds, es, env1, P1, ev, R1, F1, hl, rx, hs, fin⟩ => ?_) he hpl rfl rfl
  · show rdE T W ka ma σ H fun x H1 => _
    refine ⟨env, P, RR, After.mono h.bind fun d env1 P1 H1 R1 F1 h1 x kx nx => ?_⟩
    cases d with
    | lst ds =>
      obtain ⟨l, xs, rfl, q1, q2⟩ := (kx.rdb R1).lstE R1.sub
      cases hs : sortKL mk ds with
      | none => simp only [hs] at h1; exact False.elim h1
      | some es =>
        simp only [hs] at h1
        exact ⟨l, xs, ds, es, env1, P1, rfl, R1, F1, q1, q2, hs, h1⟩
    | _ => exact False.elim h1
  · subst ev
    obtain rfl := Vals.ref1 r1
    refine PyProof.Rows.kws_cons (lam_makeN I1 TB hcode hmT hn hu R1.tabs.1 hdef (fun z hz q => absurd q (nofree z hz)) fun f c' pm ctv H2 s2 I2 k1 k2 t2 hf hfn hfr hco => PyProof.Rows.kws_nil ?_)
    obtain ⟨R2, F2⟩ := R1.lam hmT k1 k2 t2
    obtain ⟨ps, hpt⟩ := R1.tabs.at_ hmT
    have hl2 : Rd H2 l (.lst xs) := by
      rcases hl with hl | ⟨o, hl⟩
      · exact .inl (k1 l _ (fun z => by rw [z, hpt] at hl; cases hl) hl)
      · exact .inr ⟨o, k1 l _ (fun z => by rw [z, hpt] at hl; cases hl) hl⟩
    rw [clo_nil nofree] at hf
    obtain ⟨its, rv, hli, hz⟩ := I2.list (xs := xs) (.inl hl2)
    have kb : keyB mk ds = true ∧ es = ds.mergeSort (PySem.W.dataLe false (keyOf mk)) := by
      unfold sortKL at hs
      by_cases q : keyB mk ds = true
      · rw [if_pos q] at hs; exact ⟨q, (Option.some.inj hs).symm⟩
      · rw [if_neg q] at hs; cases hs
    obtain ⟨kb, rfl⟩ := kb
    unfold keyB at kb
    simp only [Bool.and_eq_true, decide_eq_true_eq, List.all_eq_true] at kb
    obtain ⟨⟨⟨kb1, kb2⟩, kb3⟩, kb4⟩ := kb
    have hun := hr.un
    have fsz : ∀ b ∈ frs X.stack, b < s2.heap.objs.size := fun b hb => by
      obtain ⟨_, o, ho, _⟩ := I2.stack.mem hb
      exact Heap.lt_size ho
    show wpAny _ _ (call (.builtin "sorted") [.ref l] [("key", .ref f)]) _ _ s2
    refine sorted_kb (fs := frs X.stack) (b := false) (vs := its) (bs := ds) (R := fun (v : Value) (d : D) => ∃ x, RelV x v ∧ Rep T P1 d x) (keyOf mk) hli.isList (reps_each rv rx) (fun p hp q hq => ?_) (sortL_ok kb4) kb1 (fun d hd => ?_) (PyProof.Rows.ksk_s1 _ _) (fun _ => PyProof.Rows.ksk_l1 _ _) (fun _ => PyProof.Rows.ksk_t1 _ _) fsz (fun v d ⟨x, hx, rd⟩ hd t sb => ?_) fun out c' s3 sb hD hlen hE => ?_
    · exact List.all_eq_true.mp (List.all_eq_true.mp kb3 p hp) q hq
    · have := (kb2 d hd).2
      have : (keyOf mk d).depth ≤ 100 := this
      omega
    · have q := (kb2 d hd).1
      exact key_turn (T := T) (T0 := T0) (hK0.trans hK.symm) hK0 h0 I2 R2.sub hf hfr hco hr.in1.in1 gd S hbind hbody hx rd q.1 q.2 t sb
    · obtain ⟨ws, wv, wr⟩ := each_reps hE
      have hp : s2.heap.objs.size ≤ s2.heap.objs.size + 1 := Nat.le_succ _
      have pn := I2.hok.fresh hp
      obtain ⟨R3, F3, no, pp⟩ := R2.newF (o := .lst ws) pn
      refine ep_sb I2 sb hp (by rw [wv.length, hlen]; exact kb1) wv hD (fin P1 _ R3 (F2.trans F3) (.ref _) ⟨_, ws, _, rfl, upd_same, pp, no, wr, rfl⟩ ⟨_, rfl, ?_⟩)
      cases q : H (s2.heap.objs.size + 1) with
      | none => rfl
      | some o => exact absurd pn (k2 _ (F1.there _ (by rw [q]; exact fun z => nomatch z)))
end Ue
set_option linter.all false
set_option Elab.async false
set_option maxRecDepth 100000
set_option maxHeartbeats 4000000
namespace Ue
open PySem PySem.Spec PyProof.Rows L2 LamX NdefX
theorem tabKB_hd {K : PySem.W.Frag} {x : Str} {h : Heap} (KX : K.In h) (e : tabKB K x = true) : PySem.W.CodeHd h (tabA K (He.ga K x)).1 (tabA K (He.ga K x)).2 := by
  obtain ⟨_, e⟩ := He.ba e
  exact PySem.W.codeHd_of_K KX (He.ba e).1
theorem tabKB_no {K : PySem.W.Frag} {x : Str} (e : tabKB K x = true) : K.lookup (tabA K (He.ga K x)).2 = none := by
  obtain ⟨_, e⟩ := He.ba e
  exact Option.isNone_iff_eq_none.mp (He.ba e).2
theorem tabA_code {K : PySem.W.Frag} {x : Str} {cdv : Value} (e : tabKB K x = true) (c : CodeOf K (He.ga K x) cdv) : cdv = .ref (tabA K (He.ga K x)).1 := by
  obtain ⟨oc, od, fd, osl, q, rfl⟩ := c
  obtain ⟨e, _⟩ := He.ba e
  have h : fcode K (He.ga K x) = fd.code := by unfold fcode; rw [q]
  unfold tabA
  rw [h] at e ⊢
  cases w : fd.code with
  | ref c => rfl
  | _ => rw [w] at e; cases e
def csOf (K : PySem.W.Frag) (nq : List (Str × Str)) : List (Addr × Addr) := nq.map fun q => tabA K (He.ga K q.1)
def TabsB (K : PySem.W.Frag) (mg : Str → Option Value) (xs : List Str) (base : Heap) : Prop := ∀ x ∈ xs, TabB base mg (tabA K (He.ga K x)).1 (tabA K (He.ga K x)).2
section
variable {K : PySem.W.Frag} {nq : List (Str × Str)} {x y : Str}
theorem tbs_mem (h : (x, y) ∈ nq) : ((tabA K (He.ga K x)).2, fun (_ _ : Nat) => y) ∈ tbsOf K nq := List.mem_map.mpr ⟨(x, y), h, rfl⟩
theorem tbs_only (d : tabsDB K nq = true) (h : (x, y) ∈ nq) : ∀ q ∈ tbsOf K nq, q.1 = (tabA K (He.ga K x)).2 → q.2 = fun (_ _ : Nat) => y := fun q hq e => by
  obtain ⟨r, hr, rfl⟩ := List.mem_map.mp hq
  have w := List.all_eq_true.mp (List.all_eq_true.mp d r hr) (x, y) h
  have e : (tabA K (He.ga K r.1)).2 = (tabA K (He.ga K x)).2 := e
  rw [e] at w
  simp only [bne_self_eq_false, Bool.false_or, beq_iff_eq] at w
  show (fun (_ _ : Nat) => r.2) = _
  rw [w]
theorem cs_mem {p : Addr × Addr} (h : p ∈ csOf K nq) : ∃ x ∈ nq.map (·.1), p = tabA K (He.ga K x) := by
  obtain ⟨r, hr, rfl⟩ := List.mem_map.mp h
  exact ⟨r.1, List.mem_map.mpr ⟨r, hr, rfl⟩, rfl⟩
theorem cs_tbs {q : NTab} (h : q ∈ tbsOf K nq) : ∃ p ∈ csOf K nq, p.2 = q.1 := by
  obtain ⟨r, hr, rfl⟩ := List.mem_map.mp h
  exact ⟨_, List.mem_map.mpr ⟨r, hr, rfl⟩, rfl⟩
theorem mem_cs (h : x ∈ nq.map (·.1)) : tabA K (He.ga K x) ∈ csOf K nq := by
  obtain ⟨r, hr, rfl⟩ := List.mem_map.mp h
  exact List.mem_map.mpr ⟨r, hr, rfl⟩
end
theorem obsT_eq {L : List Addr} {fa : List He.Fa} {fn : List He.DefD} {gs : List DefG} {ex : PySem.W.Frag → Bool} {nq : List (Str × Str)} {g : Addr → Option Obj} {s : Shared} (q : ∀ a, g a = s.heap.get? a) : obsT L fa fn gs ex nq g = (hookT L fa fn gs ex nq).obs s := by
  have e : g = s.heap.get? := funext q
  subst e; rfl
def withT (ps : List Addr) (H : Hp) : Hp := fun b => if b ∈ ps then some (.tbl #[]) else H b
theorem withT_in {ps : List Addr} {H : Hp} {b : Addr} (h : b ∈ ps) : withT ps H b = some (.tbl #[]) := if_pos h
theorem withT_out {ps : List Addr} {H : Hp} {b : Addr} (h : b ∉ ps) : withT ps H b = H b := if_neg h
theorem law_callGT {P : Program} {w : World} {K : PySem.W.Frag} {mg mb : Str → Option Value} {Z : CXT} {k : Nat} {fa a : Addr} {cs : List (Addr × Addr)} {fd : FuncData} {x : Str} {sp : Sp} {t : Shared} {vs : List Value} {ns : List Int}
    (KX : K.In t.heap) (hm : t.heap.Ns mainGlobals mg) (hb : t.heap.Ns builtinsNs mb) (hbb : ∀ x : Str, x ≠ "__name__" → mb x = bootBuiltins x) (hlim : t.heap.NoLimit) (hgen : t.gens = #[])
    (hemp : ∀ p ∈ cs, t.heap.get? p.2 = some { cls := .none, data := .fields #[] }) (hout : ∀ p ∈ cs, K.lookup p.2 = none) (hhd : ∀ p ∈ cs, PySem.W.CodeHd t.heap p.1 p.2)
    (hmod : ∃ (bm : Addr) (ob : Obj), mg "__builtins__" = some (.ref bm) ∧ bm ≠ builtinsNs ∧ t.heap.get? bm = some ob ∧ ob.cls = .type "module" ∧ ob.dict = some builtinsNs ∧ ob.data = .plain)
    (ha : t.heap.get? a = some { cls := .type "list", data := .seq vs.toArray }) (hi : IntsAre vs ns) (hl : ns.length ≤ sizeLine) (room : Room k callerA)
    (F : ∀ base : Heap, K.In base → base.Ns mainGlobals mg → (∀ p ∈ cs, TabB base mg p.1 p.2) → FnG P w K mg base Z k fa fd [x] sp) (bind : ∀ (s : Shared) (u : Value), BindsTo s fd ⟨[u], []⟩ [(x, u)])
    (hsp : ∀ H : Hp, (∀ p ∈ cs, H p.2 = some (.tbl #[])) → SqL K H a (ns.map V.int) → sp [.ref a] H (fun v _ => v = .bl true) fun _ _ _ => False)
    (noE : ∀ H e t', Z [] H t (fun _ _ _ => False) e t' → False) :
    codeAny (model P w) callerA (.call (.ref fa) ⟨[.ref a], []⟩) (fun r t' => r = .ok (.ret (.bool true)) ∧ OldK t.heap t'.heap ∧ t'.os = t.os ∧ AllBare t'.gens) t := by
  obtain ⟨H0, only, seen, hok0, hA0⟩ := script_heap (P := P) (w := w) KX ha hi hl
  obtain ⟨ps, eps⟩ : ∃ ps, ps = cs.map (·.2) := ⟨_, rfl⟩
  have emp : ∀ b ∈ ps, t.heap.get? b = some { cls := .none, data := .fields #[] } := fun b hb => by
    rw [eps] at hb
    obtain ⟨p, hp, rfl⟩ := List.mem_map.mp hb
    exact hemp p hp
  have inP : ∀ p ∈ cs, p.2 ∈ ps := fun p hp => by rw [eps]; exact List.mem_map.mpr ⟨p, hp, rfl⟩
  have noP : ∀ {b : Addr} {o : Obj}, t.heap.get? b = some o → o.data ≠ .fields #[] → b ∉ ps := fun {b o} e n z => by
    have q := emp b z
    rw [e] at q
    exact n (congrArg Obj.data (Option.some.inj q))
  have aP : a ∉ ps := noP ha fun z => nomatch z
  have inH : ∀ p ∈ cs, withT ps H0 p.2 = some (.tbl #[]) := fun p hp => withT_in (inP p hp)
  have see : SqL K (withT ps H0) a (ns.map V.int) := by
    rcases seen with (h | ⟨o, h⟩) | h
    · exact .inl (.inl ((withT_out aP).trans h))
    · exact .inl (.inr ⟨o, (withT_out aP).trans h⟩)
    · exact .inr h
  have hok : HOk P w (withT ps H0) t.heap := fun b u e => by
    by_cases hb : b ∈ ps
    · rw [withT_in hb] at e; cases e; exact emp b hb
    · rw [withT_out hb] at e
      rcases only b with z | ⟨o, xs, z⟩
      · rw [z] at e; cases e
      · rw [z] at e; cases e; exact hok0 b _ z
  have low : ∀ {b : Addr} {o : Obj}, t.heap.get? b = some o → withT ps H0 b = none → (hidT t.heap (withT ps H0)).get? b = some o := fun e n => hidT_get e n
  have noH : ∀ {b : Addr}, b ≠ a → b ∉ ps → withT ps H0 b = none := fun {b} n1 n2 => by
    rw [withT_out n2]
    cases q : H0 b with
    | none => rfl
    | some u => exact absurd (hA0 b u q).1 n1
  have neA : ∀ {b : Addr} {o : Obj}, t.heap.get? b = some o → (∀ us n, o.data ≠ .seq us n) → b ≠ a := fun {b o} e n z => by
    rw [z, ha] at e
    cases e
    exact n _ _ rfl
  have ns' : ∀ {b : Addr} {m : Str → Option Value}, t.heap.Ns b m → (hidT t.heap (withT ps H0)).Ns b m := fun {b m} ⟨o, es, ep, e, d, r⟩ => ⟨o, es, ep, low e (noH (neA e fun us n z => by rw [d] at z; cases z) (noP e fun z => by rw [d] at z; cases z)), d, r⟩
  have inB : K.In (hidT t.heap (withT ps H0)) := fun b o e => low (KX b o e) (by
    have n2 : b ∉ ps := fun z => by
      rw [eps] at z
      obtain ⟨p, hp, rfl⟩ := List.mem_map.mp z
      rw [hout p hp] at e; cases e
    rw [withT_out n2]
    cases q : H0 b with
    | none => rfl
    | some u =>
      obtain ⟨rfl, z⟩ := hA0 b u q
      rw [z] at e; cases e)
  have tb : ∀ p ∈ cs, TabB (hidT t.heap (withT ps H0)) mg p.1 p.2 := fun p hp => by
    have e0 := hemp p hp
    have gp : mainGlobals ≠ p.2 := fun z => by
      obtain ⟨o, es, ep, e, d, _⟩ := hm
      rw [z, e0] at e
      cases e
      cases (show Data.fields #[] = Data.dict es ep from d)
    refine ⟨?_, ?_, gp⟩
    · obtain ⟨o, us, q1, q2, q3, q4, q5, q6, q7, e1, e2, e3, e4, rest⟩ := hhd p hp
      refine ⟨o, us, q1, q2, q3, q4, q5, q6, q7, low e1 (noH (neA e1 fun vs n z => by rw [e3] at z; cases z) (noP e1 fun z => ?_)), e2, e3, e4, rest⟩
      rw [e3] at z
      cases z
      simp at e4
    · obtain ⟨bm, ob, m1, m2, m3, m4, m5, m6⟩ := hmod
      have n1 : bm ≠ mainGlobals := fun z => by
        obtain ⟨o, es, ep, e, d, _⟩ := hm
        rw [z, e] at m3
        cases m3
        rw [m6] at d; cases d
      have n2 : bm ≠ p.2 := fun z => by
        rw [z, e0] at m3
        cases m3
        cases m6
      exact ⟨bm, ob, m1, m2, n1, n2, low m3 (noH (neA m3 fun vs n z => by rw [m6] at z; cases z) (noP m3 fun z => by rw [m6] at z; cases z)), m4, m5, m6⟩
  obtain ⟨mc, l1, l2⟩ := hlim
  have e0 : Env0 P w K mg (hidT t.heap (withT ps H0)) callerA [] t (withT ps H0) := ⟨rfl, ⟨inB, ns' hm, ⟨mb, ns' hb, hbb⟩, ⟨mc, ns' l1, l2⟩⟩, fun b o e => of_hidT e, Nat.le_of_eq (hidT_size _ _), trivial, fun b z => (List.not_mem_nil (show b ∈ ([] : List Addr) from z)).elim, hok, .of_eq hgen⟩
  refine codeAny_mono ((F _ inB (ns' hm) tb).go callerA [] t _ ⟨[.ref a], []⟩ [.ref a] [.ref a] _ _ rfl room e0 (bind t (.ref a)) (.cons rfl .nil) (hsp _ inH see)) fun res t' hq => ?_
  match res, hq with
  | .error er, hq => exact (noE _ er t' hq).elim
  | .ok .next, hq => exact False.elim hq
  | .ok .brk, hq => exact False.elim hq
  | .ok .cont, hq => exact False.elim hq
  | .ok (.ret u), ⟨v, J, os, bare, un, hok', rv, qv⟩ =>
    have qv : v = .bl true := qv
    subst qv
    obtain rfl : u = Value.bool true := rv
    have stay : ∀ b o, b ∉ ps → t.heap.get? b = some o → t'.heap.get? b = some o := fun b o n e => by
      rcases only b with z | ⟨ob, xs, z⟩
      · exact un.keep b o e ((withT_out n).trans z) (List.not_mem_nil (a := b)) (List.not_mem_nil (a := b))
      · obtain ⟨e1, _⟩ := hok0 b _ z
        obtain ⟨e2, _⟩ := hok' b _ (un.frzs b ob _ ((withT_out n).trans z))
        rw [e] at e1; cases e1
        exact e2
    have grow : ∀ p ∈ cs, ∃ more : Array Value, t'.heap.get? p.2 = some { cls := .none, data := .fields more } := fun p hp => by
      obtain ⟨more, z⟩ := un.tbls p.2 #[] (inH p hp)
      exact ⟨_, hok' p.2 _ z⟩
    have back : ∀ b, b ∈ ps → ∃ p ∈ cs, p.2 = b := fun b hb => by
      rw [eps] at hb
      obtain ⟨p, hp, e⟩ := List.mem_map.mp hb
      exact ⟨p, hp, e⟩
    refine ⟨rfl, ⟨fun b o e => ?_, fun b o e => ?_⟩, os, bare⟩
    · by_cases n : b ∈ ps
      · obtain ⟨p, hp, rfl⟩ := back b n
        obtain ⟨more, z⟩ := grow p hp
        have e1 := hemp p hp
        rw [e] at e1; cases e1
        exact .inr (.inl ⟨((hhd p hp).tab (hemp p hp)).isCodeTable, rfl, #[], more, rfl, by rw [Array.empty_append]; exact z⟩)
      · exact .inl (stay b o n e)
    · by_cases n : b ∈ ps
      · obtain ⟨p, hp, rfl⟩ := back b n
        obtain ⟨more, z⟩ := grow p hp
        exact ⟨_, z⟩
      · exact ⟨o, stay b o n e⟩
theorem tabs0 {tb : List NTab} {cs : List (Addr × Addr)} {H : Hp} (c : ∀ q ∈ tb, ∃ p ∈ cs, p.2 = q.1) (h : ∀ p ∈ cs, H p.2 = some (.tbl #[])) : TabsN tb H := fun q hq => by
  obtain ⟨p, hp, e⟩ := c q hq
  exact ⟨#[], e ▸ h p hp, trivial, fun pos cv z => by cases (show (none : Option Value) = some cv from z)⟩
theorem startT {K : PySem.W.Frag} {nq : List (Str × Str)} {hp : Heap} (KX : K.In hp) (a : (nq.map (·.1)).all (tabKB K) = true) (t : TabAt K nq hp) :
    (∀ p ∈ csOf K nq, hp.get? p.2 = some { cls := .none, data := .fields #[] }) ∧ (∀ p ∈ csOf K nq, K.lookup p.2 = none) ∧ (∀ p ∈ csOf K nq, PySem.W.CodeHd hp p.1 p.2) ∧ ∀ q ∈ tbsOf K nq, ∃ p ∈ csOf K nq, p.2 = q.1 := by
  refine ⟨fun p hp => ?_, fun p hp => ?_, fun p hp => ?_, fun q hq => cs_tbs hq⟩ <;> obtain ⟨x, hx, rfl⟩ := cs_mem hp
  · exact t x hx
  · exact tabKB_no (List.all_eq_true.mp a x hx)
  · exact tabKB_hd KX (List.all_eq_true.mp a x hx)
theorem walk_ofT {lw : PySem.W.OpenLaw} {mx lv : Nat} {pq : Program} {ls : List Str} {XQ : (Str → Option Value) → Heap → Prop} {YQ : World → Heap → Prop} {dr : DefRec} {x : Str}
    (h1 : lw.most = some mx) (h2 : mx ≤ sizeLine) (h3 : dr.params.defaults = []) (h4 : Room lv callerA)
    (Z : ∀ (w : World) (mg : Str → Option Value) (f0 : Addr) (hp : Heap), YQ w hp → hp.Ns mainGlobals mg → mg dr.name = some (.ref f0) →
      ∃ (T : Tab) (fd : FuncData) (F : FM) (cs : List (Addr × Addr)), T.K.In hp ∧ ((∀ p ∈ cs, hp.get? p.2 = some { cls := .none, data := .fields #[] }) ∧ (∀ p ∈ cs, T.K.lookup p.2 = none) ∧ (∀ p ∈ cs, PySem.W.CodeHd hp p.1 p.2) ∧ ∀ q ∈ T.tbs, ∃ p ∈ cs, p.2 = q.1) ∧
        (∀ (s : Shared) (u : Value), BindsTo s fd ⟨[u], []⟩ [(x, u)]) ∧ (∀ ns : List Int, ns.length ≤ mx → ∃ as, F [.v (.scr ns)] = .ok (.bl true) as) ∧
        ∀ base : Heap, T.K.In base → base.Ns mainGlobals mg → (∀ p ∈ cs, TabB base mg p.1 p.2) → FnG lw.prog w T.K mg base (L2.CX lw.prog w) lv f0 fd [x] (spF T .pure 1 F)) :
    PySem.W.WalkO pq ls XQ YQ lw.row.toRowW dr [] (fun f vs => PySem.call f vs) := by
  refine Att.attach_call h1 h3 ?_
  intro w sA sB mg mb f0 _ _ _ _ a vs ns GG YY _ _ _ hmg hobj hints hlen hg
  obtain ⟨T, fd, F, cs, KX, ⟨t1, t2, t3, t4⟩, hb, hF, hok⟩ := Z w mg f0 _ YY GG.T.g hmg
  refine law_callGT KX GG.T.g GG.T.b GG.T.builtins GG.T.nolimit hg t1 t2 t3 GG.T.bmain hobj hints (Nat.le_trans hlen h2) h4 hok hb ?_ ?_
  · exact fun H hT hS => law_sp hF H a ns hlen (tabs0 t4 hT) hS
  · rintro H e s' ⟨_, _, _, _, _, _, _, _, _, _, _, _, z⟩
    exact z
end Ue
set_option linter.all false
set_option Elab.async false
set_option maxRecDepth 100000
set_option maxHeartbeats 4000000
namespace Ue
open PySem PySem.Spec PyProof.Rows L2
def dPy (d : D) : Option PyData := match toPy d with | some p => if flatP p then some p else none | none => none
def dKey (d : D) : PyData := (dPy d).getD .none
def sortPB (ds : List D) : Bool := decide (ds.length ≤ sizeLine) && ds.all (fun d => (dPy d).isSome && decide ((dKey d).depth ≤ 60)) && alikeL (ds.map dKey) && sortL (ds.map dKey)
theorem dPy_some {d : D} (h : (dPy d).isSome = true) : toPy d = some (dKey d) ∧ flatP (dKey d) = true := by
  unfold dKey
  unfold dPy at h ⊢
  cases q : toPy d with
  | none => rw [q] at h; cases h
  | some p =>
    rw [q] at h
    dsimp only at h ⊢
    by_cases f : flatP p = true
    · rw [if_pos f]; exact ⟨rfl, f⟩
    · rw [if_neg f] at h; cases h
def rSortD (T : Tab) : List V → Hp → VK → Prop := fun xs H Q => ∃ (P : Hp) (l : Addr) (vs : List V) (ds : List D), xs = [.ref l] ∧ PSub P H ∧ Rd H l (.lst vs) ∧ Reps T P ds vs ∧ sortPB ds = true ∧ ∀ b ws, Reps T P (ds.mergeSort (PySem.W.dataLe false dKey)) ws → H b = none → Q (.ref b) (upd H b (.lst ws))
theorem cr_sortD {T : Tab} {X : Cx} (hK : X.K = T.K) (hu : X.A.units + 65 < cLine) : CallR X (.builtin "sorted") (rSortD T) := by
  intro pins s σ H vs us Q I r h
  obtain ⟨P, l, xs, ds, rfl, sub, hl, rx, hs, q⟩ := h
  rw [Vals.ref1 r]
  obtain ⟨its, rv, hli, hz⟩ := I.list (xs := xs) (.inl hl)
  unfold sortPB at hs
  simp only [Bool.and_eq_true, decide_eq_true_eq, List.all_eq_true] at hs
  obtain ⟨⟨⟨k1, k2⟩, k3⟩, k4⟩ := hs
  have er := reps_each (T := T) (P := P) rv rx
  refine PySem.W.sorted_data (R := fun (v : Value) (d : D) => ∃ x, RelV x v ∧ Rep T P d x) (enc := dKey) (bs := ds) hli.isList er ?_ ?_ (sortL_ok k4) k1 ?_ fun out ho eo => ?_
  · refine (PySem.W.each_mem er).mono fun v d ⟨⟨x, r1, r2⟩, hd⟩ => ⟨[], ?_⟩
    obtain ⟨e1, e2⟩ := dPy_some (k2 d hd).1
    have dp : Dp T.K H x (dKey d) := dp_of sub d x _ r2 e1
    rw [← hK] at dp
    exact dp_reads I.hok I.kIn _ _ _ e2 dp r1
  · intro p hp q hq
    exact List.all_eq_true.mp (List.all_eq_true.mp k3 p hp) q hq
  · intro d hd
    have : (dKey d).depth ≤ 60 := (k2 d hd).2
    omega
  · obtain ⟨ws, wv, wr⟩ := each_reps eo
    obtain ⟨ep, he'⟩ := PyProof.Rows.sortedAll_at s.heap its out.toArray
    have hlen : ws.length ≤ sizeLine := by rw [wv.length, ho]; exact k1
    exact ⟨.ref _, upd H (s.heap.objs.size + 1) (.lst ws), I.laid (t' := s.toks) (fun _ _ => PyProof.Rows.sortedAll_old) (Nat.le_succ _) ⟨hlen, out, ep, wv, he'⟩, rfl, q _ _ wr (I.hok.fresh (Nat.le_succ _))⟩
def sortDD : List D → Option D | [.lst ds] => if sortPB ds then some (.lst (ds.mergeSort (PySem.W.dataLe false dKey))) else none | _ => none
theorem sortDD_s {ds : List D} : sortDD [.lst ds] = if sortPB ds then some (.lst (ds.mergeSort (PySem.W.dataLe false dKey))) else none := rfl
theorem cd_sortD {T : Tab} : CallD T (rSortD T) .fresh sortDD := fun env σ P H ds xs d Q R1 hx e k => by
  match ds, hx, e with
  | [.lst es], hx, e =>
    obtain ⟨x, rfl, h0⟩ := hx.one
    rw [sortDD_s] at e
    by_cases hs : sortPB es = true
    · rw [if_pos hs] at e; cases e
      obtain ⟨a, vs, rfl, hl, rs⟩ := h0.lstE R1.sub
      refine ⟨P, a, vs, es, rfl, R1.sub, hl, rs, hs, fun p ws rw' hf => ?_⟩
      obtain ⟨R2, F2, no, pn⟩ := R1.newF (o := .lst ws) hf
      exact k _ _ _ R2 F2 ⟨p, _, _, rfl, upd_same, pn, no, rw', rfl⟩ ⟨p, rfl, hf⟩
    · rw [if_neg hs] at e; cases e
end Ue
set_option linter.all false
set_option Elab.async false
set_option maxRecDepth 100000
set_option maxHeartbeats 4000000
namespace Ue
open PySem PySem.Spec PyProof.Rows L2
theorem keyPy_of {mk : M} {d k : D} {e : Ue.Env} {p : PyData} (h1 : mk [some (.v d)] = .ok k e) (h2 : toPy k = some p) (h3 : flatP p = true) : keyPy mk d = some p := by
  unfold keyPy
  rw [h1]; dsimp only
  rw [h2]; dsimp only
  rw [if_pos h3]
theorem dPy_of {d : D} {p : PyData} (h2 : toPy d = some p) (h3 : flatP p = true) : dPy d = some p := by
  unfold dPy
  rw [h2]; dsimp only
  rw [if_pos h3]
theorem keyOf_of {mk : M} {d : D} {p : PyData} (h : keyPy mk d = some p) : keyOf mk d = p := by unfold keyOf; rw [h]; rfl
theorem dKey_of {d : D} {p : PyData} (h : dPy d = some p) : dKey d = p := by unfold dKey; rw [h]; rfl
theorem dataLe_eq {α β : Type} {k : α → PyData} {k' : β → PyData} {a b : α} {c d : β} (h1 : k a = k' c) (h2 : k b = k' d) : PySem.W.dataLe false k a b = PySem.W.dataLe false k' c d := by
  show (!(PyProof.Rows.listOrd PyProof.Rows.itemOrd).blt (PySem.W.keyToks (k b)) (PySem.W.keyToks (k a))) = (!(PyProof.Rows.listOrd PyProof.Rows.itemOrd).blt (PySem.W.keyToks (k' d)) (PySem.W.keyToks (k' c)))
  rw [h1, h2]
theorem map_sort {α β : Type} {f : α → β} {k : α → PyData} {k' : β → PyData} {xs : List α} (h : ∀ x ∈ xs, k' (f x) = k x) : (xs.map f).mergeSort (PySem.W.dataLe false k') = (xs.mergeSort (PySem.W.dataLe false k)).map f :=
  (List.map_mergeSort fun a ha b hb => dataLe_eq (h a ha).symm (h b hb).symm).symm
theorem alike_map {α : Type} {k : α → PyData} {xs : List α} (ha : ∀ x ∈ xs, ∀ y ∈ xs, PySem.W.alike (k x) (k y) = true) : alikeL (xs.map k) = true := by
  unfold alikeL
  rw [List.all_eq_true]
  intro p hp
  obtain ⟨x, hx, rfl⟩ := List.mem_map.mp hp
  rw [List.all_eq_true]
  intro q hq
  obtain ⟨y, hy, rfl⟩ := List.mem_map.mp hq
  exact ha x hx y hy
theorem sortKL_map {α : Type} {mk : M} {f : α → D} {kz : α → PyData} {xs : List α} (hl : xs.length ≤ sizeLine) (hk : ∀ x ∈ xs, keyPy mk (f x) = some (kz x)) (hp : ∀ x ∈ xs, flatD (f x) = true) (hd : ∀ x ∈ xs, (kz x).depth ≤ 100) (ha : ∀ x ∈ xs, ∀ y ∈ xs, PySem.W.alike (kz x) (kz y) = true) (hs : sortL (xs.map kz) = true) :
    sortKL mk (xs.map f) = some ((xs.mergeSort (PySem.W.dataLe false kz)).map f) := by
  have e : (xs.map f).map (keyOf mk) = xs.map kz := by
    rw [List.map_map]
    exact List.map_congr_left fun x hx => keyOf_of (hk x hx)
  have kb : keyB mk (xs.map f) = true := by
    unfold keyB
    rw [e, alike_map ha, hs, Bool.and_true, Bool.and_true, Bool.and_eq_true, List.length_map]
    refine ⟨decide_eq_true hl, List.all_eq_true.mpr fun d hd0 => ?_⟩
    obtain ⟨x, hx, rfl⟩ := List.mem_map.mp hd0
    rw [hp x hx, hk x hx, keyOf_of (hk x hx), decide_eq_true (hd x hx)]; rfl
  unfold sortKL
  rw [if_pos kb, map_sort fun x hx => keyOf_of (hk x hx)]
theorem sortDD_map {α : Type} {f : α → D} {kz : α → PyData} {xs : List α} (hl : xs.length ≤ sizeLine) (hk : ∀ x ∈ xs, dPy (f x) = some (kz x)) (hd : ∀ x ∈ xs, (kz x).depth ≤ 60) (ha : ∀ x ∈ xs, ∀ y ∈ xs, PySem.W.alike (kz x) (kz y) = true) (hs : sortL (xs.map kz) = true) :
    sortDD [.lst (xs.map f)] = some (.lst ((xs.mergeSort (PySem.W.dataLe false kz)).map f)) := by
  have e : (xs.map f).map dKey = xs.map kz := by
    rw [List.map_map]
    exact List.map_congr_left fun x hx => dKey_of (hk x hx)
  have kb : sortPB (xs.map f) = true := by
    unfold sortPB
    rw [e, alike_map ha, hs, Bool.and_true, Bool.and_true, Bool.and_eq_true, List.length_map]
    refine ⟨decide_eq_true hl, List.all_eq_true.mpr fun d hd0 => ?_⟩
    obtain ⟨x, hx, rfl⟩ := List.mem_map.mp hd0
    rw [hk x hx, dKey_of (hk x hx), decide_eq_true (hd x hx)]; rfl
  rw [sortDD_s, if_pos kb, map_sort fun x hx => dKey_of (hk x hx)]
section
variable {α : Type} {k : α → PyData}
theorem dsort_trans (a b c : α) (h1 : PySem.W.dataLe false k a b = true) (h2 : PySem.W.dataLe false k b c = true) : PySem.W.dataLe false k a c = true := (PySem.W.sortLe_total (PyProof.Rows.listOrd PyProof.Rows.itemOrd) false fun b => PySem.W.keyToks (k b)).trans a b c h1 h2
theorem dsort_total (a b : α) : (PySem.W.dataLe false k a b || PySem.W.dataLe false k b a) = true := Bool.or_eq_true_iff.mpr ((PySem.W.sortLe_total (PyProof.Rows.listOrd PyProof.Rows.itemOrd) false fun b => PySem.W.keyToks (k b)).total a b)
theorem dsort_pw (xs : List α) : (xs.mergeSort (PySem.W.dataLe false k)).Pairwise fun a b => PySem.W.dataLe false k a b = true := List.pairwise_mergeSort dsort_trans dsort_total xs
theorem dsort_anti {a b : α} (h1 : PySem.W.dataLe false k a b = true) (h2 : PySem.W.dataLe false k b a = true) : PySem.W.keyToks (k a) = PySem.W.keyToks (k b) := by
  have h1 : (!(PyProof.Rows.listOrd PyProof.Rows.itemOrd).blt (PySem.W.keyToks (k b)) (PySem.W.keyToks (k a))) = true := h1
  have h2 : (!(PyProof.Rows.listOrd PyProof.Rows.itemOrd).blt (PySem.W.keyToks (k a)) (PySem.W.keyToks (k b))) = true := h2
  rw [Bool.not_eq_true'] at h1 h2
  exact (PyProof.Rows.listOrd PyProof.Rows.itemOrd).total _ _ h2 h1
theorem dsort_uniq {xs ys : List α} (h : xs.Perm ys) (inj : ∀ x ∈ xs, ∀ y ∈ xs, PySem.W.keyToks (k x) = PySem.W.keyToks (k y) → x = y) : xs.mergeSort (PySem.W.dataLe false k) = ys.mergeSort (PySem.W.dataLe false k) := by
  have p1 := List.mergeSort_perm xs (PySem.W.dataLe false k)
  have p2 := List.mergeSort_perm ys (PySem.W.dataLe false k)
  refine List.Perm.eq_of_pairwise (fun a b ha hb h1 h2 => inj a (p1.mem_iff.mp ha) b (h.mem_iff.mpr (p2.mem_iff.mp hb)) (dsort_anti h1 h2)) (dsort_pw xs) (dsort_pw ys) (p1.trans (h.trans p2.symm))
end
theorem le_ints (a b : Int) : PySem.W.dataLe false (fun x : Int => PyData.int x) a b = decide (a ≤ b) := by
  show (!(PyProof.Rows.lexLt PyProof.Rows.itemOrd [Sum.inl b] [Sum.inl a])) = _
  rw [PyProof.Rows.lex_cons]
  show (!(decide (b < a) || (!decide (a < b) && false))) = _
  by_cases h : b < a
  · rw [decide_eq_true h, decide_eq_false (show ¬ a ≤ b by omega)]; simp
  · rw [decide_eq_false h, decide_eq_true (show a ≤ b by omega)]; simp
theorem toks_ints : ∀ (a b : List Int) (x y : List (Int ⊕ List Nat)), PySem.W.keyToksAll (a.map PyData.int) ++ x = PySem.W.keyToksAll (b.map PyData.int) ++ y → a = b ∧ x = y
  | [], [], x, y, h => by
    simp only [List.map_nil, PySem.W.keyToksAll, List.cons_append, List.nil_append, List.cons.injEq, true_and] at h
    exact ⟨rfl, h⟩
  | [], _ :: _, x, y, h => by simp [PySem.W.keyToksAll] at h
  | _ :: _, [], x, y, h => by simp [PySem.W.keyToksAll] at h
  | i :: a, j :: b, x, y, h => by
    simp only [List.map_cons, PySem.W.keyToksAll, PySem.W.keyToks, List.cons_append, List.nil_append, List.cons.injEq, true_and, Sum.inl.injEq] at h
    obtain ⟨h1, h2⟩ := toks_ints a b x y h.2
    exact ⟨by rw [h.1, h1], h2⟩
def lenKey (l : List Int) : PyData := .tuple [.int l.length, .tuple (l.map PyData.int)]
theorem lenKey_inj {a b : List Int} (h : PySem.W.keyToks (lenKey a) = PySem.W.keyToks (lenKey b)) : a = b := by
  simp only [lenKey, PySem.W.keyToks, PySem.W.keyToksAll, List.cons_append, List.nil_append, List.cons.injEq, true_and, Sum.inl.injEq] at h
  exact (toks_ints a b _ _ h.2).1
theorem alike_ints : ∀ (a b : List Int), PySem.W.alikeAll (a.map PyData.int) (b.map PyData.int) = true
  | [], _ => by simp [PySem.W.alikeAll]
  | _ :: _, [] => by simp [PySem.W.alikeAll]
  | i :: a, j :: b => by simp [PySem.W.alikeAll, PySem.W.alike, alike_ints a b]
theorem lenKey_alike (a b : List Int) : PySem.W.alike (lenKey a) (lenKey b) = true := by simp [lenKey, PySem.W.alike, PySem.W.alikeAll, alike_ints]
theorem flat_ints : ∀ a : List Int, flatPs (a.map PyData.int) = true
  | [] => rfl
  | i :: a => by simp [flatPs, flatP, flat_ints a]
theorem lenKey_flat (a : List Int) : flatP (lenKey a) = true := by simp [lenKey, flatP, flatPs, flat_ints]
theorem depth_intsK : ∀ a : List Int, PyData.depthAll (a.map PyData.int) = 0
  | [] => by simp [PyData.depthAll]
  | i :: a => by simp [PyData.depthAll, PyData.depth, depth_intsK a]
theorem lenKey_depth (a : List Int) : (lenKey a).depth ≤ 60 := by simp [lenKey, PyData.depth, PyData.depthAll, depth_intsK]
theorem lenKey_toPy (l : List Int) : toPy (.tup [.int l.length, .tup (l.map D.int)]) = some (lenKey l) := by simp [toPy, toPys, toPys_ints, lenKey]
theorem sortL_tup {α : Type} {k : α → PyData} {xs : List α} (h : ∀ x ∈ xs, isTupP (k x) = true) : sortL (xs.map k) = true := by
  unfold sortL
  rw [Bool.or_eq_true, List.all_eq_true]
  refine .inl fun p hp => ?_
  obtain ⟨x, hx, rfl⟩ := List.mem_map.mp hp
  exact h x hx
theorem sortL_oth {α : Type} {k : α → PyData} {xs : List α} (h : ∀ x ∈ xs, isOthP (k x) = true) : sortL (xs.map k) = true := by
  unfold sortL
  rw [Bool.or_eq_true, List.all_eq_true, List.all_eq_true]
  refine .inr fun p hp => ?_
  obtain ⟨x, hx, rfl⟩ := List.mem_map.mp hp
  exact h x hx
end Ue
set_option linter.all false
set_option Elab.async false
set_option maxRecDepth 100000
set_option maxHeartbeats 4000000
set_option exponentiation.threshold 5000
namespace Ue
open PySem
theorem inA_ints {a : List Int} {n : Int} : inA (.int n) (.tup (a.map D.int)) = some (decide (n ∈ a)) := by
  show ((toPys (a.map D.int)).bind fun qs => if SeqAt.shaped (.int n) = true ∧ SeqAt.shaped (.list qs) = true then some (qs.any fun z => PyData.eqv z (.int n)) else none) = _
  rw [toPys_ints]
  show (if SeqAt.shaped (.int n) = true ∧ SeqAt.shaped (.list (a.map PyData.int)) = true then some ((a.map PyData.int).any fun z => PyData.eqv z (.int n)) else none) = _
  rw [if_pos ⟨shaped_int n, shaped_ints a⟩, any_ints]
theorem inA_intsL {a : List Int} {n : Int} : inA (.int n) (.lst (a.map D.int)) = some (decide (n ∈ a)) := inA_ints
def br (w t : Nat) : Nat := w - (w &&& t)
theorem and_le (w t : Nat) : w &&& t ≤ w := Nat.and_le_left
theorem bAnd (w t : Nat) : Builtin.bitAnd (w : Int) (t : Int) = ((w &&& t : Nat) : Int) := bitAnd_nat w t
theorem bAndN (w t : Nat) : Builtin.bitAnd (w : Int) (Builtin.bitNot (t : Int)) = ((br w t : Nat) : Int) := by
  rw [bitAndNot_nat]; unfold br; have := and_le w t; omega
theorem bOr (w t : Nat) : Builtin.bitOr (w : Int) (t : Int) = ((w ||| t : Nat) : Int) := bitOr_nat w t
theorem bit_int (w d : Nat) : Builtin.bitAnd ((w : Int) / 2 ^ d) 1 = if w.testBit d then 1 else 0 := by
  have e : ((w / 2 ^ d : Nat) : Int) = (w : Int) / 2 ^ d := by simp
  have h := bitAnd_nat (w / 2 ^ d) 1
  rw [Nat.and_one_is_mod] at h
  rw [← e, Nat.testBit_eq_decide_div_mod_eq]
  rcases Nat.mod_two_eq_zero_or_one (w / 2 ^ d) with q | q <;> rw [q] at h ⊢ <;> simpa using h
theorem add_or {x y : Nat} (h : x &&& y = 0) : x + y = x ||| y := by
  have hw : x + y < 2 ^ (x + y) := Nat.lt_two_pow_self
  have hx : x % 2 ^ (x + y) = x := Nat.mod_eq_of_lt (by omega)
  have hy : y % 2 ^ (x + y) = y := Nat.mod_eq_of_lt (by omega)
  have h1 : (BitVec.ofNat (x + y) x) &&& (BitVec.ofNat (x + y) y) = 0#(x + y) := by
    apply BitVec.eq_of_toNat_eq
    rw [BitVec.toNat_and, BitVec.toNat_ofNat, BitVec.toNat_ofNat, hx, hy, h]; simp
  have h2 := congrArg BitVec.toNat (BitVec.add_eq_or_of_and_eq_zero _ _ h1)
  rw [BitVec.toNat_add, BitVec.toNat_or, BitVec.toNat_ofNat, BitVec.toNat_ofNat, hx, hy, Nat.mod_eq_of_lt hw] at h2
  exact h2
theorem br_xor (w t : Nat) : br w t = w ^^^ (w &&& t) := by
  have h1 : (w ^^^ (w &&& t)) &&& (w &&& t) = 0 := by
    apply Nat.eq_of_testBit_eq; intro i
    simp only [Nat.testBit_and, Nat.testBit_xor, Nat.zero_testBit]
    cases w.testBit i <;> cases t.testBit i <;> rfl
  have h2 : (w ^^^ (w &&& t)) ||| (w &&& t) = w := by
    apply Nat.eq_of_testBit_eq; intro i
    simp only [Nat.testBit_or, Nat.testBit_and, Nat.testBit_xor]
    cases w.testBit i <;> cases t.testBit i <;> rfl
  have h3 := add_or h1
  rw [h2] at h3
  unfold br; omega
theorem br_bit (w t i : Nat) : (br w t).testBit i = (w.testBit i && !t.testBit i) := by
  rw [br_xor]
  simp only [Nat.testBit_and, Nat.testBit_xor]
  cases w.testBit i <;> cases t.testBit i <;> rfl
theorem hi_bit {n k i : Nat} (h : n < 2 ^ k) (hi : k ≤ i) : n.testBit i = false := Nat.testBit_lt_two_pow (Nat.lt_of_lt_of_le h (Nat.pow_le_pow_right (by decide) hi))
theorem and0_iff {x y : Nat} : x &&& y = 0 ↔ ∀ i, x.testBit i = true → y.testBit i = false := by
  constructor
  · intro h i hi
    have := congrArg (fun n => n.testBit i) h
    simp only [Nat.testBit_and, Nat.zero_testBit, hi, Bool.true_and] at this
    exact this
  · intro h
    apply Nat.eq_of_testBit_eq; intro i
    rw [Nat.testBit_and, Nat.zero_testBit]
    cases q : x.testBit i with
    | false => rfl
    | true => rw [h i q]; rfl
theorem br0_iff {x y : Nat} : br x y = 0 ↔ ∀ i, x.testBit i = true → y.testBit i = true := by
  constructor
  · intro h i hi
    have := congrArg (fun n => n.testBit i) h
    simp only [br_bit, Nat.zero_testBit, hi, Bool.true_and] at this
    cases q : y.testBit i with
    | true => rfl
    | false => rw [q] at this; cases this
  · intro h
    apply Nat.eq_of_testBit_eq; intro i
    rw [br_bit, Nat.zero_testBit]
    cases q : x.testBit i with
    | false => rfl
    | true => rw [h i q]; rfl
theorem pow_bit (d i : Nat) : (2 ^ d).testBit i = decide (d = i) := by rw [Nat.testBit_two_pow]
theorem add_day {x d : Nat} (h : x.testBit d = false) : x + 2 ^ d = x ||| 2 ^ d := by
  apply add_or
  rw [and0_iff]
  intro i hi
  rw [pow_bit]
  apply decide_eq_false
  intro e; subst e; rw [h] at hi; cases hi
theorem shl1 {i : Nat} (h : i < 64) : shlOk 1 (i : Int) = true := by
  unfold shlOk
  rw [show Builtin.Int.intBits 1 = 1 by decide]
  simp; omega
theorem forM_rng {g : TGM} {s : MS} (I : Nat → Env → Prop) (n : Nat) (env : Env) (h : ∀ i < n, ∀ e, I i e → ∃ e1 e2, g (.int (i : Int)) e = some e1 ∧ (s e1 = .nx e2 ∨ s e1 = .cnt e2) ∧ I (i + 1) e2) (h0 : I 0 env) : ∃ e2, forM g s (rngL 0 n) env = .nx e2 ∧ I n e2 := by
  have hl : (rngL 0 n).length = n := by simp [rngL]
  obtain ⟨e2, q, r⟩ := forM_idx (g := g) (s := s) I (rngL 0 n) 0 env (by
    intro i d hd e he
    have hi : i < n := by
      rcases Nat.lt_or_ge i n with q | q
      · exact q
      · rw [List.getElem?_eq_none (by omega)] at hd; cases hd
    have : d = .int (i : Int) := by
      simp only [rngL, List.getElem?_map] at hd
      rw [List.getElem?_range (by omega)] at hd
      simp at hd; exact hd.symm
    subst this
    rw [Nat.zero_add] at he ⊢
    exact h i hi e he) h0
  rw [hl, Nat.zero_add] at r
  exact ⟨e2, q, r⟩
def Vl (x : Option EV) : Prop := x = none ∨ ∃ d, x = some (.v d)
theorem compL_map {α : Type} {vs : List Nat} {g : TGM} {te : M} {env : Env} (h f : α → D) (hv : vsOk env vs = true) : ∀ (xs : List α),
    (∀ x ∈ xs, ∃ e1 e3, g (h x) (wipeE env vs) = some e1 ∧ te e1 = .ok (f x) e3 ∧ restE env e3 vs = env) → compL vs g yesT te (xs.map h) env = .ok (xs.map f) env
  | [], _ => rfl
  | x :: xs, k => by
    obtain ⟨e1, e3, q1, q2, q3⟩ := k x (by simp)
    have ih := compL_map h f hv xs fun d hd => k d (by simp [hd])
    rw [List.map_cons, compL_c, if_pos hv, q1]
    simp [q2, q3, ih]
theorem compL_mapF {α : Type} {vs : List Nat} {g : TGM} {tt : MT} {te : M} {env : Env} (h f : α → D) (p : α → Bool) (hv : vsOk env vs = true) : ∀ (xs : List α),
    (∀ x ∈ xs, ∃ e1 e2, g (h x) (wipeE env vs) = some e1 ∧ tt e1 = .ok (p x) e2 ∧ (p x = false → restE env e2 vs = env) ∧ (p x = true → ∃ e3, te e2 = .ok (f x) e3 ∧ restE env e3 vs = env)) → compL vs g tt te (xs.map h) env = .ok ((xs.filter p).map f) env
  | [], _ => rfl
  | x :: xs, k => by
    obtain ⟨e1, e2, q1, q2, q3, q4⟩ := k x (by simp)
    have ih := compL_mapF h f p hv xs fun d hd => k d (by simp [hd])
    rw [List.map_cons, compL_c, if_pos hv, q1]
    cases hp : p x with
    | false => rw [hp] at q2; simp [q2, q3 hp, ih, hp]
    | true =>
      obtain ⟨e3, q5, q6⟩ := q4 hp
      rw [hp] at q2; simp [q2, q5, q6, ih, hp]
end Ue
set_option linter.all false
set_option Elab.async false
set_option maxRecDepth 100000
set_option maxHeartbeats 4000000
noncomputable section
namespace Lw
open PySem PySem.Spec L2 Ue
@[simp] theorem is_int_non : isC ty_int cn_int .non = some false := (rfl)
@[simp] theorem is_int_bl {x : Bool} : isC ty_int cn_int (.bl x) = some true := (rfl)
@[simp] theorem is_int_int {x : Int} : isC ty_int cn_int (.int x) = some true := (rfl)
@[simp] theorem is_int_str {x : Str} : isC ty_int cn_int (.str x) = some false := (rfl)
@[simp] theorem is_int_tup {x : List D} : isC ty_int cn_int (.tup x) = some false := (rfl)
@[simp] theorem is_int_lst {x : List D} : isC ty_int cn_int (.lst x) = some false := (rfl)
@[simp] theorem is_int_scr {x : List Int} : isC ty_int cn_int (.scr x) = some false := (rfl)
@[simp] theorem is_int_dct {x : List (Key × V)} : isC ty_int cn_int (.dct x) = some false := (rfl)
@[simp] theorem is_bool_non : isC ty_bool cn_bool .non = some false := (rfl)
@[simp] theorem is_bool_bl {x : Bool} : isC ty_bool cn_bool (.bl x) = some true := (rfl)
@[simp] theorem is_bool_int {x : Int} : isC ty_bool cn_bool (.int x) = some false := (rfl)
@[simp] theorem is_bool_str {x : Str} : isC ty_bool cn_bool (.str x) = some false := (rfl)
@[simp] theorem is_bool_tup {x : List D} : isC ty_bool cn_bool (.tup x) = some false := (rfl)
@[simp] theorem is_bool_lst {x : List D} : isC ty_bool cn_bool (.lst x) = some false := (rfl)
@[simp] theorem is_bool_scr {x : List Int} : isC ty_bool cn_bool (.scr x) = some false := (rfl)
@[simp] theorem is_bool_dct {x : List (Key × V)} : isC ty_bool cn_bool (.dct x) = some false := (rfl)
@[simp] theorem is_tuple_non : isC ty_tuple cn_tuple .non = some false := (rfl)
@[simp] theorem is_tuple_bl {x : Bool} : isC ty_tuple cn_tuple (.bl x) = some false := (rfl)
@[simp] theorem is_tuple_int {x : Int} : isC ty_tuple cn_tuple (.int x) = some false := (rfl)
@[simp] theorem is_tuple_str {x : Str} : isC ty_tuple cn_tuple (.str x) = some false := (rfl)
@[simp] theorem is_tuple_tup {x : List D} : isC ty_tuple cn_tuple (.tup x) = some true := (rfl)
@[simp] theorem is_tuple_lst {x : List D} : isC ty_tuple cn_tuple (.lst x) = some false := (rfl)
@[simp] theorem is_tuple_scr {x : List Int} : isC ty_tuple cn_tuple (.scr x) = some false := (rfl)
@[simp] theorem is_tuple_dct {x : List (Key × V)} : isC ty_tuple cn_tuple (.dct x) = some false := (rfl)
abbrev N_days_in : List Str := ["day_set", "found", "day"]
theorem sc_days_in : FnScope N_days_in ["day_set"] (defScope s_days_in) := ⟨rfl, rfl, rfl, by decide +kernel, rfl, by decide +kernel, by decide +kernel⟩
abbrev N_set_of : List Str := ["days", "total", "day"]
theorem sc_set_of : FnScope N_set_of ["days"] (defScope s_set_of) := ⟨rfl, rfl, rfl, by decide +kernel, rfl, by decide +kernel, by decide +kernel⟩
abbrev N_within : List Str := ["one", "other"]
theorem sc_within : FnScope N_within ["one", "other"] (defScope s_within) := ⟨rfl, rfl, rfl, by decide +kernel, rfl, by decide +kernel, by decide +kernel⟩
abbrev N_least_masks : List Str := ["masks", "found", "mask", "one"]
theorem sc_least_masks : FnScope N_least_masks ["masks"] (defScope s_least_masks) := ⟨rfl, rfl, rfl, by decide +kernel, rfl, by decide +kernel, by decide +kernel⟩
abbrev N_sorted_lots : List Str := ["masks", "mask"]
theorem sc_sorted_lots : FnScope N_sorted_lots ["masks"] (defScope s_sorted_lots) := ⟨rfl, rfl, rfl, by decide +kernel, rfl, by decide +kernel, by decide +kernel⟩
abbrev N_least_meeting : List Str := ["lots", "found", "mask", "grown", "one", "lot", "number"]
theorem sc_least_meeting : FnScope N_least_meeting ["lots"] (defScope s_least_meeting) := ⟨rfl, rfl, rfl, by decide +kernel, rfl, by decide +kernel, by decide +kernel⟩
abbrev N_law_bag : List Str := ["_law_script", "_law_at", "_law_cell", "_law_mix", "_law_k", "_law_each"]
theorem sc_law_bag : FnScope N_law_bag ["_law_script", "_law_at"] (defScope s_law_bag) := ⟨rfl, rfl, rfl, by decide +kernel, rfl, by decide +kernel, by decide +kernel⟩
abbrev N_law_take : List Str := ["_law_bag_here", "_law_many_here", "_law_digit"]
theorem sc_law_take : FnScope N_law_take ["_law_bag_here", "_law_many_here"] (defScope s_law_take) := ⟨rfl, rfl, rfl, by decide +kernel, rfl, by decide +kernel, by decide +kernel⟩
abbrev N_law_of : List Str := ["_law_bag_here", "_law_some"]
theorem sc_law_of : FnScope N_law_of ["_law_bag_here", "_law_some"] (defScope s_law_of) := ⟨rfl, rfl, rfl, by decide +kernel, rfl, by decide +kernel, by decide +kernel⟩
abbrev N_law_lot : List Str := ["_law_mask", "_law_number"]
theorem sc_law_lot : FnScope N_law_lot ["_law_mask"] (defScope s_law_lot) := ⟨rfl, rfl, rfl, by decide +kernel, rfl, by decide +kernel, by decide +kernel⟩
abbrev N_law_set : List Str := ["_law_lot_here", "_law_number"]
theorem sc_law_set : FnScope N_law_set ["_law_lot_here"] (defScope s_law_set) := ⟨rfl, rfl, rfl, by decide +kernel, rfl, by decide +kernel, by decide +kernel⟩
abbrev N_law_sorted : List Str := ["_law_masks", "_law_mask", "_law_pair"]
theorem sc_law_sorted : FnScope N_law_sorted ["_law_masks"] (defScope s_law_sorted) := ⟨rfl, rfl, rfl, by decide +kernel, rfl, by decide +kernel, by decide +kernel⟩
abbrev N_law_is_number : List Str := ["_law_thing"]
theorem sc_law_is_number : FnScope N_law_is_number ["_law_thing"] (defScope s_law_is_number) := ⟨rfl, rfl, rfl, by decide +kernel, rfl, by decide +kernel, by decide +kernel⟩
abbrev N_law_places : List Str := ["_law_bag_here", "_law_many_here", "_law_left", "_law_found", "_law_k", "_law_number"]
theorem sc_law_places : FnScope N_law_places ["_law_bag_here", "_law_many_here"] (defScope s_law_places) := ⟨rfl, rfl, rfl, by decide +kernel, rfl, by decide +kernel, by decide +kernel⟩
abbrev N_law_barest : List Str := ["_law_masks", "_law_found", "_law_mask", "_law_other"]
theorem sc_law_barest : FnScope N_law_barest ["_law_masks"] (defScope s_law_barest) := ⟨rfl, rfl, rfl, by decide +kernel, rfl, by decide +kernel, by decide +kernel⟩
abbrev N_law_meeting : List Str := ["_law_masks", "_law_places_here", "_law_whole", "_law_found", "_law_row", "_law_lot_here", "_law_fewer", "_law_at", "_law_number", "_law_mask", "_law_part"]
theorem sc_law_meeting : FnScope N_law_meeting ["_law_masks", "_law_places_here"] (defScope s_law_meeting) := ⟨rfl, rfl, rfl, by decide +kernel, rfl, by decide +kernel, by decide +kernel⟩
abbrev N_law_many : List Str := ["_law_bag_here", "_law_first", "_law_others", "_law_step", "_law_lots", "_law_k", "_law_number"]
theorem sc_law_many : FnScope N_law_many ["_law_bag_here"] (defScope s_law_many) := ⟨rfl, rfl, rfl, by decide +kernel, rfl, by decide +kernel, by decide +kernel⟩
abbrev N_law : List Str := ["_law_script", "_law_bag_here", "_law_great", "_law_places_here", "_law_lots", "_law_k", "_law_part", "_law_handed", "_law_kept", "_law_some", "_law_told", "_law_masks", "_law_lot_here", "_law_at", "_law_number"]
theorem sc_law : FnScope N_law ["_law_script"] (defScope s_law) := ⟨rfl, rfl, rfl, by decide +kernel, rfl, by decide +kernel, by decide +kernel⟩
def tab0 (K : PySem.W.Frag) : Tab := { tab K with tbs := [] }
end Lw
end
set_option linter.all false
set_option Elab.async false
set_option maxRecDepth 100000
set_option maxHeartbeats 4000000
namespace Lw
open PySem PySem.Spec L2 Ue
theorem ob_eq (s : PySem.W.SharedT) : ob s = hk.obs s.abs := obsT_eq (HandSHeadRun.getT_eq s)
end Lw
set_option linter.all false
set_option Elab.async false
set_option maxRecDepth 100000
set_option maxHeartbeats 4000000
noncomputable section
namespace Lw
open PySem PySem.Spec L2 Ue
def L_days_in_0 : MS := (seqM (iffM (trM (op2M andI (op2M shrI (varM 0) (varM 2)) (cM (.int 1)))) (exprM (mtM 1 appG [(varM 2)])) nilM) (augM 2 addI (cM (.int 1))))
def T_days_in_3 : MS := (retM (callM tupleD [(frzM 1)]))
def T_days_in_2 : MS := (seqM (whileM (trM (op2M shrI (varM 0) (varM 2))) L_days_in_0 40) T_days_in_3)
def T_days_in_1 : MS := (seqM (setM 2 (cM (.int 0))) T_days_in_2)
def B_days_in' : MS := (seqM (setOM 1 (lstM [])) T_days_in_1)
def F_days_in : FM := runF false 3 [] B_days_in'
theorem u_days_in (as : List EV) : F_days_in as = runF false 3 [] (seqM (setOM 1 (lstM [])) (seqM (setM 2 (cM (.int 0))) (seqM (whileM (trM (op2M shrI (varM 0) (varM 2))) L_days_in_0 40) (retM (callM tupleD [(frzM 1)]))))) as := rfl
def L_set_of_0 : MS := (setM 1 (op2M orI (varM 1) (op2M shlI (cM (.int 1)) (varM 2))))
def T_set_of_2 : MS := (retM (varM 1))
def T_set_of_1 : MS := (seqM (forS (asSeq (varM 0)) (tgN 2) L_set_of_0) T_set_of_2)
def B_set_of' : MS := (seqM (setM 1 (cM (.int 0))) T_set_of_1)
def F_set_of : FM := runF false 3 [] B_set_of'
theorem u_set_of (as : List EV) : F_set_of as = runF false 3 [] (seqM (setM 1 (cM (.int 0))) (seqM (forS (asSeq (varM 0)) (tgN 2) L_set_of_0) (retM (varM 1)))) as := rfl
def B_within' : MS := (retM (bV (cmpM eqS (op2M andI (varM 0) (op1M invI (varM 1))) (cM (.int 0)))))
def F_within : FM := runF false 2 [] B_within'
theorem u_within (as : List EV) : F_within as = runF false 2 [] (retM (bV (cmpM eqS (op2M andI (varM 0) (op1M invI (varM 1))) (cM (.int 0))))) as := rfl
def L_least_masks_0 : MS := (iffM (notT (trM (lendE 1 (callM anyD [(compM [3] (asL (varM 1)) (tgN 3) yesT (fnM F_within [.p (varM 3), .p (varM 2)] []))])))) (exprM (mtM 1 appG [(varM 2)])) nilM)
def T_least_masks_2 : MS := (retOM 1)
def T_least_masks_1 : MS := (seqM (forS (asL (sortKM (callM lenD [(fnM F_days_in [.p (varM 0)] [])]) (varM 0))) (tgN 2) L_least_masks_0) T_least_masks_2)
def B_least_masks' : MS := (seqM (setOM 1 (lstM [])) T_least_masks_1)
def F_least_masks : FM := runF true 4 [] B_least_masks'
theorem u_least_masks (as : List EV) : F_least_masks as = runF true 4 [] (seqM (setOM 1 (lstM [])) (seqM (forS (asL (sortKM (callM lenD [(fnM F_days_in [.p (varM 0)] [])]) (varM 0))) (tgN 2) L_least_masks_0) (retOM 1))) as := rfl
def B_sorted_lots' : MS := (retM (callM tupleD [(sortKM (tupM [(callM lenD [(varM 0)]), (varM 0)]) (compM [1] (asL (varM 0)) (tgN 1) yesT (fnM F_days_in [.p (varM 1)] [])))]))
def F_sorted_lots : FM := runF false 2 [] B_sorted_lots'
theorem u_sorted_lots (as : List EV) : F_sorted_lots as = runF false 2 [] (retM (callM tupleD [(sortKM (tupM [(callM lenD [(varM 0)]), (varM 0)]) (compM [1] (asL (varM 0)) (tgN 1) yesT (fnM F_days_in [.p (varM 1)] [])))])) as := rfl
def L_least_meeting_0 : MS := (iffM (trM (op2M andI (varM 4) (varM 2))) (exprM (mtM 3 appG [(varM 4)])) (exprM (mtM 3 extG [(compM [6] (asT (fnM F_days_in [.p (varM 2)] [])) (tgN 6) yesT (op2M orI (varM 4) (fnM F_set_of [.p (tupM [(varM 6)])] [])))])))
def L_least_meeting_1 : MS := (seqM (setOM 3 (lstM [])) (seqM (forS (asL (varM 1)) (tgN 4) L_least_meeting_0) (setM 1 (fnM F_least_masks [.p (frzM 3)] []))))
def T_least_meeting_2 : MS := (retM (fnM F_sorted_lots [.p (varM 1)] []))
def T_least_meeting_1 : MS := (seqM (forS (asL (fnM F_least_masks [.p (compM [5] (asSeq (varM 0)) (tgN 5) yesT (fnM F_set_of [.p (varM 5)] []))] [])) (tgN 2) L_least_meeting_1) T_least_meeting_2)
def B_least_meeting' : MS := (seqM (setM 1 (lstM [(cM (.int 0))])) T_least_meeting_1)
def F_least_meeting : FM := runF false 7 [] B_least_meeting'
theorem u_least_meeting (as : List EV) : F_least_meeting as = runF false 7 [] (seqM (setM 1 (lstM [(cM (.int 0))])) (seqM (forS (asL (fnM F_least_masks [.p (compM [5] (asSeq (varM 0)) (tgN 5) yesT (fnM F_set_of [.p (varM 5)] []))] [])) (tgN 2) L_least_meeting_1) (retM (fnM F_sorted_lots [.p (varM 1)] [])))) as := rfl
def L_law_bag_0 : MS := (setM 3 (op2M modI (callM intD [(op2M addI (op2M addI (op2M mulI (varM 3) (cM (.int 40014))) (op2M modI (callM intD [(varM 5)]) (cM (.int 2147483543)))) (op2M mulI (cM (.int 103)) (varM 4)))]) (cM (.int 2147483563))))
def T_law_bag_3 : MS := (retM (lstM [(ifM (cmpM geI (varM 2) (op2M powI (cM (.int 10)) (cM (.int 18)))) (varM 2) (cM (.int 0))), (varM 3), (cM (.int 0))]))
def T_law_bag_2 : MS := (seqM (forS (enumM (slLM (varM 0) none (some (cM (.int 63))))) (tgT [(tgN 4), (tgN 5)]) L_law_bag_0) T_law_bag_3)
def T_law_bag_1 : MS := (seqM (setM 3 (op2M addI (cM (.int 90001)) (op2M mulI (cM (.int 7919)) (varM 1)))) T_law_bag_2)
def B_law_bag' : MS := (seqM (setM 2 (ifM (cmpM ltI (varM 1) (callM lenD [(varM 0)])) (callM absD [(op2M ixD (varM 0) (varM 1))]) (cM (.int 0)))) T_law_bag_1)
def F_law_bag : FM := runF true 6 [] B_law_bag'
theorem u_law_bag (as : List EV) : F_law_bag as = runF true 6 [] (seqM (setM 2 (ifM (cmpM ltI (varM 1) (callM lenD [(varM 0)])) (callM absD [(op2M ixD (varM 0) (varM 1))]) (cM (.int 0)))) (seqM (setM 3 (op2M addI (cM (.int 90001)) (op2M mulI (cM (.int 7919)) (varM 1)))) (seqM (forS (enumM (slLM (varM 0) none (some (cM (.int 63))))) (tgT [(tgN 4), (tgN 5)]) L_law_bag_0) (retM (lstM [(ifM (cmpM geI (varM 2) (op2M powI (cM (.int 10)) (cM (.int 18)))) (varM 2) (cM (.int 0))), (varM 3), (cM (.int 0))]))))) as := rfl
def T_law_take_3 : MS := (retM (op2M modI (op2M fdivI (op2M modI (callM intD [(op2M mulI (op2M ixD (ovarM 0) (cM (.int 1))) (cM (.int 16807)))]) (cM (.int 2147483629))) (cM (.int 64))) (varM 1)))
def T_law_take_2 : MS := (seqM (setIM 0 (op2M modI (callM intD [(op2M addI (op2M addI (op2M mulI (op2M ixD (ovarM 0) (cM (.int 1))) (cM (.int 48271))) (op2M mulI (cM (.int 11)) (op2M ixD (ovarM 0) (cM (.int 2))))) (cM (.int 7)))]) (cM (.int 2147483647))) (cM (.int 1))) T_law_take_3)
def T_law_take_1 : MS := (seqM (setIM 0 (op2M addI (op2M ixD (ovarM 0) (cM (.int 2))) (cM (.int 1))) (cM (.int 2))) T_law_take_2)
def B_law_take' : MS := (seqM (iffM (cmpM gtI (op2M ixD (ovarM 0) (cM (.int 0))) (cM (.int 0))) (seqM (setM 2 (op2M modI (callM intD [(op2M ixD (ovarM 0) (cM (.int 0)))]) (varM 1))) (seqM (setIM 0 (op2M fdivI (op2M ixD (ovarM 0) (cM (.int 0))) (varM 1)) (cM (.int 0))) (retM (varM 2)))) nilM) T_law_take_1)
def F_law_take : FM := runF false 3 [0] B_law_take'
theorem u_law_take (as : List EV) : F_law_take as = runF false 3 [0] (seqM (iffM (cmpM gtI (op2M ixD (ovarM 0) (cM (.int 0))) (cM (.int 0))) (seqM (setM 2 (op2M modI (callM intD [(op2M ixD (ovarM 0) (cM (.int 0)))]) (varM 1))) (seqM (setIM 0 (op2M fdivI (op2M ixD (ovarM 0) (cM (.int 0))) (varM 1)) (cM (.int 0))) (retM (varM 2)))) nilM) (seqM (setIM 0 (op2M addI (op2M ixD (ovarM 0) (cM (.int 2))) (cM (.int 1))) (cM (.int 2))) (seqM (setIM 0 (op2M modI (callM intD [(op2M addI (op2M addI (op2M mulI (op2M ixD (ovarM 0) (cM (.int 1))) (cM (.int 48271))) (op2M mulI (cM (.int 11)) (op2M ixD (ovarM 0) (cM (.int 2))))) (cM (.int 7)))]) (cM (.int 2147483647))) (cM (.int 1))) (retM (op2M modI (op2M fdivI (op2M modI (callM intD [(op2M mulI (op2M ixD (ovarM 0) (cM (.int 1))) (cM (.int 16807)))]) (cM (.int 2147483629))) (cM (.int 64))) (varM 1)))))) as := rfl
def B_law_of' : MS := (retM (op2M ixD (varM 1) (fnM F_law_take [.o 0, .p (callM lenD [(varM 1)])] [])))
def F_law_of : FM := runF false 2 [0] B_law_of'
theorem u_law_of (as : List EV) : F_law_of as = runF false 2 [0] (retM (op2M ixD (varM 1) (fnM F_law_take [.o 0, .p (callM lenD [(varM 1)])] []))) as := rfl
def B_law_lot' : MS := (retM (callM tupleD [(compM [1] (rng1M (cM (.int 12))) (tgN 1) (cmpM eqS (op2M andI (op2M shrI (varM 0) (varM 1)) (cM (.int 1))) (cM (.int 1))) (varM 1))]))
def F_law_lot : FM := runF false 2 [] B_law_lot'
theorem u_law_lot (as : List EV) : F_law_lot as = runF false 2 [] (retM (callM tupleD [(compM [1] (rng1M (cM (.int 12))) (tgN 1) (cmpM eqS (op2M andI (op2M shrI (varM 0) (varM 1)) (cM (.int 1))) (cM (.int 1))) (varM 1))])) as := rfl
def B_law_set' : MS := (retM (callM sumAD [(compM [1] (asSeq (varM 0)) (tgN 1) yesT (op2M shlI (cM (.int 1)) (varM 1)))]))
def F_law_set : FM := runF false 2 [] B_law_set'
theorem u_law_set (as : List EV) : F_law_set as = runF false 2 [] (retM (callM sumAD [(compM [1] (asSeq (varM 0)) (tgN 1) yesT (op2M shlI (cM (.int 1)) (varM 1)))])) as := rfl
def B_law_sorted' : MS := (retM (compM [2] (asL (callM sortDD [(compM [1] (asL (varM 0)) (tgN 1) yesT (tupM [(callM lenD [(fnM F_law_lot [.p (varM 1)] [])]), (fnM F_law_lot [.p (varM 1)] [])]))])) (tgN 2) yesT (op2M ixD (varM 2) (cM (.int 1)))))
def F_law_sorted : FM := runF true 3 [] B_law_sorted'
theorem u_law_sorted (as : List EV) : F_law_sorted as = runF true 3 [] (retM (compM [2] (asL (callM sortDD [(compM [1] (asL (varM 0)) (tgN 1) yesT (tupM [(callM lenD [(fnM F_law_lot [.p (varM 1)] [])]), (fnM F_law_lot [.p (varM 1)] [])]))])) (tgN 2) yesT (op2M ixD (varM 2) (cM (.int 1))))) as := rfl
def B_law_is_number' : MS := (retM (andV (isTabM ty_int cn_int (varM 0)) (notV (isTabM ty_bool cn_bool (varM 0)))))
def F_law_is_number : FM := runF false 1 [] B_law_is_number'
theorem u_law_is_number (as : List EV) : F_law_is_number as = runF false 1 [] (retM (andV (isTabM ty_int cn_int (varM 0)) (notV (isTabM ty_bool cn_bool (varM 0))))) as := rfl
def L_law_places_0 : MS := (exprM (mtM 3 appG [(mtM 2 popAtG [(fnM F_law_take [.o 0, .p (callM lenD [(ovarM 2)])] [])])]))
def T_law_places_2 : MS := (retM (callM sortedD [(ovarM 3)]))
def T_law_places_1 : MS := (seqM (forS (rng1M (varM 1)) (tgN 4) L_law_places_0) T_law_places_2)
def B_law_places' : MS := (seqM (parKM true true 2 3 (compM [5] (rng1M (cM (.int 12))) (tgN 5) yesT (varM 5)) (lstM [])) T_law_places_1)
def F_law_places : FM := runF true 6 [0] B_law_places'
theorem u_law_places (as : List EV) : F_law_places as = runF true 6 [0] (seqM (parKM true true 2 3 (compM [5] (rng1M (cM (.int 12))) (tgN 5) yesT (varM 5)) (lstM [])) (seqM (forS (rng1M (varM 1)) (tgN 4) L_law_places_0) (retM (callM sortedD [(ovarM 3)])))) as := rfl
def L_law_barest_0 : MS := (iffM (andT (cmpM notInA (varM 2) (ovarM 1)) (notT (trM (callM anyD [(compM [3] (asL (varM 0)) (tgN 3) yesT (andV (bV (cmpM neS (varM 3) (varM 2))) (bV (cmpM eqS (op2M andI (varM 3) (varM 2)) (varM 3)))))])))) (exprM (mtM 1 appG [(varM 2)])) nilM)
def T_law_barest_2 : MS := (retM (frzM 1))
def T_law_barest_1 : MS := (seqM (forS (asL (varM 0)) (tgN 2) L_law_barest_0) T_law_barest_2)
def B_law_barest' : MS := (seqM (setOM 1 (lstM [])) T_law_barest_1)
def F_law_barest : FM := runF false 4 [] B_law_barest'
theorem u_law_barest (as : List EV) : F_law_barest as = runF false 4 [] (seqM (setOM 1 (lstM [])) (seqM (forS (asL (varM 0)) (tgN 2) L_law_barest_0) (retM (frzM 1)))) as := rfl
def L_law_meeting_0 : MS := (seqM (setM 5 (callM sumAD [(compM [7, 8] (enumM (varM 1)) (tgT [(tgN 7), (tgN 8)]) (cmpM eqS (op2M andI (op2M shrI (varM 4) (varM 7)) (cM (.int 1))) (cM (.int 1))) (op2M shlI (cM (.int 1)) (varM 8)))])) (seqM (iffM (notT (trM (callM allD [(compM [9] (asL (varM 0)) (tgN 9) yesT (bV (cmpM neS (op2M andI (varM 5) (varM 9)) (cM (.int 0)))))]))) cntM nilM) (seqM (setM 6 (compM [8] (asL (varM 1)) (tgN 8) (cmpM eqS (op2M andI (op2M shrI (varM 5) (varM 8)) (cM (.int 1))) (cM (.int 1))) (op2M andI (varM 5) (op1M invI (op2M shlI (cM (.int 1)) (varM 8)))))) (iffM (notT (trM (callM anyD [(compM [10] (asL (varM 6)) (tgN 10) yesT (callM allD [(compM [9] (asL (varM 0)) (tgN 9) yesT (bV (cmpM neS (op2M andI (varM 10) (varM 9)) (cM (.int 0)))))]))]))) (exprM (mtM 3 appG [(op2M andI (varM 5) (varM 2))])) nilM))))
def T_law_meeting_2 : MS := (retM (frzM 3))
def T_law_meeting_1 : MS := (seqM (forS (rng1M (op2M shlI (cM (.int 1)) (callM lenD [(varM 1)]))) (tgN 4) L_law_meeting_0) T_law_meeting_2)
def B_law_meeting' : MS := (seqM (parKM false true 2 3 (fnM F_law_set [.p (varM 1)] []) (lstM [])) T_law_meeting_1)
def F_law_meeting : FM := runF false 11 [] B_law_meeting'
theorem u_law_meeting (as : List EV) : F_law_meeting as = runF false 11 [] (seqM (parKM false true 2 3 (fnM F_law_set [.p (varM 1)] []) (lstM [])) (seqM (forS (rng1M (op2M shlI (cM (.int 1)) (callM lenD [(varM 1)]))) (tgN 4) L_law_meeting_0) (retM (frzM 3)))) as := rfl
def L_law_many_0 : MS := (exprM (mtM 4 appG [(callM tupleD [(callM sortedD [(lstM [(varM 1), (op2M ixD (varM 2) (op2M modI (callM intD [(op2M mulI (varM 5) (varM 3))]) (cM (.int 11))))])])])]))
def T_law_many_4 : MS := (retM (andV (bV (cmpM eqD (fnM F_least_meeting [.p (frzM 4)] []) (tupM [(tupM [(varM 1)]), (callM tupleD [(varM 2)])]))) (bV (cmpM eqS (callM lenD [(varM 4)]) (cM (.int 1000))))))
def T_law_many_3 : MS := (seqM (forS (rng1M (cM (.int 1000))) (tgN 5) L_law_many_0) T_law_many_4)
def T_law_many_2 : MS := (seqM (parKM false true 3 4 (op2M addI (cM (.int 1)) (fnM F_law_take [.o 0, .p (cM (.int 10))] [])) (lstM [])) T_law_many_3)
def T_law_many_1 : MS := (seqM (setM 2 (compM [6] (rng1M (cM (.int 12))) (tgN 6) (cmpM neS (varM 6) (varM 1)) (varM 6))) T_law_many_2)
def B_law_many' : MS := (seqM (setM 1 (fnM F_law_take [.o 0, .p (cM (.int 12))] [])) T_law_many_1)
def F_law_many : FM := runF false 7 [0] B_law_many'
theorem u_law_many (as : List EV) : F_law_many as = runF false 7 [0] (seqM (setM 1 (fnM F_law_take [.o 0, .p (cM (.int 12))] [])) (seqM (setM 2 (compM [6] (rng1M (cM (.int 12))) (tgN 6) (cmpM neS (varM 6) (varM 1)) (varM 6))) (seqM (parKM false true 3 4 (op2M addI (cM (.int 1)) (fnM F_law_take [.o 0, .p (cM (.int 10))] [])) (lstM [])) (seqM (forS (rng1M (cM (.int 1000))) (tgN 5) L_law_many_0) (retM (andV (bV (cmpM eqD (fnM F_least_meeting [.p (frzM 4)] []) (tupM [(tupM [(varM 1)]), (callM tupleD [(varM 2)])]))) (bV (cmpM eqS (callM lenD [(varM 4)]) (cM (.int 1000)))))))))) as := rfl
def L_law_0 : MS := (seqM (setM 6 (op2M andI (fnM F_law_take [.o 1, .p (op2M shlI (cM (.int 1)) (callM lenD [(varM 3)]))] []) (fnM F_law_of [.o 1, .p (lstM [(cM (.int 4095)), (cM (.int 4095)), (fnM F_law_take [.o 1, .p (op2M shlI (cM (.int 1)) (callM lenD [(varM 3)]))] [])])] []))) (seqM (iffM (andT (cmpM eqS (varM 6) (cM (.int 0))) (cmpM gtI (fnM F_law_take [.o 1, .p (cM (.int 4))] []) (cM (.int 0)))) (setM 6 (op2M shlI (cM (.int 1)) (fnM F_law_take [.o 1, .p (callM lenD [(varM 3)])] []))) nilM) (iffM (andT (cmpM neNil (ovarM 4) (lstM [])) (cmpM eqS (fnM F_law_take [.o 1, .p (cM (.int 6))] []) (cM (.int 0)))) (exprM (mtM 4 appG [(lendP 4 1 (fnM F_law_of [.o 1, .p (varM 4)] []))])) (exprM (mtM 4 appG [(callM tupleD [(compM [13, 14] (enumM (varM 3)) (tgT [(tgN 13), (tgN 14)]) (cmpM eqS (op2M andI (op2M shrI (varM 6) (varM 13)) (cM (.int 1))) (cM (.int 1))) (varM 14))])])))))
def L_law_1 : MS := (iffM (notT (trM (callM allD [(compM [14] (asT (varM 12)) (tgN 14) yesT (fnM F_law_is_number [.p (varM 14)] []))]))) (retM (cM (.bl false))) nilM)
def T_law_15 : MS := (retM (orV (bV (cmpM gtI (fnM F_law_take [.o 1, .p (cM (.int 12))] []) (cM (.int 0)))) (fnM F_law_many [.o 1] [])))
def T_law_14 : MS := (seqM (iffM (cmpM neD (callM listD [(fnM F_least_meeting [.p (varM 10)] [])]) (fnM F_law_sorted [.p (fnM F_law_barest [.p (varM 11)] [])] [])) (retM (cM (.bl false))) nilM) T_law_15)
def T_law_13 : MS := (seqM (iffM (orT (cmpM neD (compM [12] (asL (varM 7)) (tgN 12) yesT (callM listD [(varM 12)])) (varM 8)) (cmpM neS (callM lenD [(varM 9)]) (callM lenD [(varM 4)]))) (retM (cM (.bl false))) nilM) T_law_14)
def T_law_12 : MS := (seqM (iffM (cmpM neD (callM listD [(varM 10)]) (fnM F_law_sorted [.p (fnM F_law_meeting [.p (varM 11), .p (varM 3)] [])] [])) (retM (cM (.bl false))) nilM) T_law_13)
def T_law_11 : MS := (seqM (forS (asT (varM 10)) (tgN 12) L_law_1) T_law_12)
def T_law_10 : MS := (seqM (iffM (orT (notT (trM (isTabM ty_tuple cn_tuple (varM 10)))) (notT (trM (callM allD [(compM [12] (asT (varM 10)) (tgN 12) yesT (isTabM ty_tuple cn_tuple (varM 12)))])))) (retM (cM (.bl false))) nilM) T_law_11)
def T_law_9 : MS := (seqM (setM 11 (compM [12] (asL (varM 4)) (tgN 12) yesT (fnM F_law_set [.p (varM 12)] []))) T_law_10)
def T_law_8 : MS := (seqM (setM 10 (fnM F_least_meeting [.p (varM 9)] [])) T_law_9)
def T_law_7 : MS := (seqM (setM 9 (ifM (cmpM eqS (fnM F_law_take [.o 1, .p (cM (.int 2))] []) (cM (.int 0))) (varM 7) (callM tupleD [(varM 7)]))) T_law_8)
def T_law_6 : MS := (seqM (setM 8 (compM [12] (asL (varM 7)) (tgN 12) yesT (callM listD [(varM 12)]))) T_law_7)
def T_law_5 : MS := (seqM (setM 7 (compM [12] (asL (frzM 4)) (tgN 12) yesT (ifM (cmpM eqS (fnM F_law_take [.o 1, .p (cM (.int 3))] []) (cM (.int 0))) (callM listD [(varM 12)]) (varM 12)))) T_law_6)
def T_law_4 : MS := (seqM (forS (rng1M (fnM F_law_take [.o 1, .p (ifM (trM (varM 2)) (cM (.int 13)) (cM (.int 9)))] [])) (tgN 5) L_law_0) T_law_5)
def T_law_3 : MS := (seqM (parKM true true 4 1 (lstM []) (fnM F_law_bag [.p (varM 0), .p (cM (.int 1))] [])) T_law_4)
def T_law_2 : MS := (seqM (setM 3 (fnM F_law_places [.o 1, .p (ifM (trM (varM 2)) (cM (.int 9)) (op2M addI (cM (.int 1)) (fnM F_law_take [.o 1, .p (cM (.int 7))] [])))] [])) T_law_3)
def T_law_1 : MS := (seqM (setM 2 (bV (cmpM eqS (fnM F_law_take [.o 1, .p (cM (.int 16))] []) (cM (.int 0))))) T_law_2)
def B_law' : MS := (seqM (setOM 1 (fnM F_law_bag [.p (varM 0), .p (cM (.int 0))] [])) T_law_1)
def F_law : FM := runF false 15 [] B_law'
section
variable {P : Program} {w : World} {K : PySem.W.Frag} {h : Heap} {mg : Str → Option Value} {base : Heap}
theorem m_days_in (KX : K.In h) (G : h.Ns mainGlobals mg) (c : SaysV fa fn gs ex K) : mg "days_in" = some (.ref (He.ga K "days_in")) := He.glo_ok KX G (c.d.fact 0 rfl)
theorem m_set_of (KX : K.In h) (G : h.Ns mainGlobals mg) (c : SaysV fa fn gs ex K) : mg "set_of" = some (.ref (He.ga K "set_of")) := He.glo_ok KX G (c.d.fact 1 rfl)
theorem m_within (KX : K.In h) (G : h.Ns mainGlobals mg) (c : SaysV fa fn gs ex K) : mg "within" = some (.ref (He.ga K "within")) := He.glo_ok KX G (c.d.fact 2 rfl)
theorem m_least_masks (KX : K.In h) (G : h.Ns mainGlobals mg) (c : SaysV fa fn gs ex K) : mg "least_masks" = some (.ref (He.ga K "least_masks")) := He.glo_ok KX G (c.d.fact 3 rfl)
theorem m_sorted_lots (KX : K.In h) (G : h.Ns mainGlobals mg) (c : SaysV fa fn gs ex K) : mg "sorted_lots" = some (.ref (He.ga K "sorted_lots")) := He.glo_ok KX G (c.d.fact 4 rfl)
theorem m_least_meeting (KX : K.In h) (G : h.Ns mainGlobals mg) (c : SaysV fa fn gs ex K) : mg "least_meeting" = some (.ref (He.ga K "least_meeting")) := He.glo_ok KX G (c.d.fact 5 rfl)
theorem m__law_bag (KX : K.In h) (G : h.Ns mainGlobals mg) (c : SaysV fa fn gs ex K) : mg "_law_bag" = some (.ref (He.ga K "_law_bag")) := He.glo_ok KX G (c.d.fact 6 rfl)
theorem m__law_take (KX : K.In h) (G : h.Ns mainGlobals mg) (c : SaysV fa fn gs ex K) : mg "_law_take" = some (.ref (He.ga K "_law_take")) := He.glo_ok KX G (c.d.fact 7 rfl)
theorem m__law_of (KX : K.In h) (G : h.Ns mainGlobals mg) (c : SaysV fa fn gs ex K) : mg "_law_of" = some (.ref (He.ga K "_law_of")) := He.glo_ok KX G (c.d.fact 8 rfl)
theorem m__law_lot (KX : K.In h) (G : h.Ns mainGlobals mg) (c : SaysV fa fn gs ex K) : mg "_law_lot" = some (.ref (He.ga K "_law_lot")) := He.glo_ok KX G (c.d.fact 9 rfl)
theorem m__law_set (KX : K.In h) (G : h.Ns mainGlobals mg) (c : SaysV fa fn gs ex K) : mg "_law_set" = some (.ref (He.ga K "_law_set")) := He.glo_ok KX G (c.d.fact 10 rfl)
theorem m__law_sorted (KX : K.In h) (G : h.Ns mainGlobals mg) (c : SaysV fa fn gs ex K) : mg "_law_sorted" = some (.ref (He.ga K "_law_sorted")) := He.glo_ok KX G (c.d.fact 11 rfl)
theorem m__law_is_number (KX : K.In h) (G : h.Ns mainGlobals mg) (c : SaysV fa fn gs ex K) : mg "_law_is_number" = some (.ref (He.ga K "_law_is_number")) := He.glo_ok KX G (c.d.fact 12 rfl)
theorem m__law_places (KX : K.In h) (G : h.Ns mainGlobals mg) (c : SaysV fa fn gs ex K) : mg "_law_places" = some (.ref (He.ga K "_law_places")) := He.glo_ok KX G (c.d.fact 13 rfl)
theorem m__law_barest (KX : K.In h) (G : h.Ns mainGlobals mg) (c : SaysV fa fn gs ex K) : mg "_law_barest" = some (.ref (He.ga K "_law_barest")) := He.glo_ok KX G (c.d.fact 14 rfl)
theorem m__law_meeting (KX : K.In h) (G : h.Ns mainGlobals mg) (c : SaysV fa fn gs ex K) : mg "_law_meeting" = some (.ref (He.ga K "_law_meeting")) := He.glo_ok KX G (c.d.fact 15 rfl)
theorem m__law_many (KX : K.In h) (G : h.Ns mainGlobals mg) (c : SaysV fa fn gs ex K) : mg "_law_many" = some (.ref (He.ga K "_law_many")) := He.glo_ok KX G (c.d.fact 16 rfl)
theorem m_law (KX : K.In h) (G : h.Ns mainGlobals mg) (c : SaysV fa fn gs ex K) : mg "law" = some (.ref (He.ga K "law")) := He.glo_ok KX G (c.d.fact 17 rfl)
theorem m_tuple (KX : K.In h) (G : h.Ns mainGlobals mg) (c : SaysV fa fn gs ex K) : mg "tuple" = none := He.free_ok KX G (c.d.fact 18 rfl)
theorem m_len (KX : K.In h) (G : h.Ns mainGlobals mg) (c : SaysV fa fn gs ex K) : mg "len" = none := He.free_ok KX G (c.d.fact 19 rfl)
theorem m_sorted (KX : K.In h) (G : h.Ns mainGlobals mg) (c : SaysV fa fn gs ex K) : mg "sorted" = none := He.free_ok KX G (c.d.fact 20 rfl)
theorem m_any (KX : K.In h) (G : h.Ns mainGlobals mg) (c : SaysV fa fn gs ex K) : mg "any" = none := He.free_ok KX G (c.d.fact 21 rfl)
theorem m_abs (KX : K.In h) (G : h.Ns mainGlobals mg) (c : SaysV fa fn gs ex K) : mg "abs" = none := He.free_ok KX G (c.d.fact 22 rfl)
theorem m_enumerate (KX : K.In h) (G : h.Ns mainGlobals mg) (c : SaysV fa fn gs ex K) : mg "enumerate" = none := He.free_ok KX G (c.d.fact 23 rfl)
theorem m_int (KX : K.In h) (G : h.Ns mainGlobals mg) (c : SaysV fa fn gs ex K) : mg "int" = none := He.free_ok KX G (c.d.fact 24 rfl)
theorem m_range (KX : K.In h) (G : h.Ns mainGlobals mg) (c : SaysV fa fn gs ex K) : mg "range" = none := He.free_ok KX G (c.d.fact 25 rfl)
theorem m_sum (KX : K.In h) (G : h.Ns mainGlobals mg) (c : SaysV fa fn gs ex K) : mg "sum" = none := He.free_ok KX G (c.d.fact 26 rfl)
theorem m_isinstance (KX : K.In h) (G : h.Ns mainGlobals mg) (c : SaysV fa fn gs ex K) : mg "isinstance" = none := He.free_ok KX G (c.d.fact 27 rfl)
theorem m_bool (KX : K.In h) (G : h.Ns mainGlobals mg) (c : SaysV fa fn gs ex K) : mg "bool" = none := He.free_ok KX G (c.d.fact 28 rfl)
theorem m_all (KX : K.In h) (G : h.Ns mainGlobals mg) (c : SaysV fa fn gs ex K) : mg "all" = none := He.free_ok KX G (c.d.fact 29 rfl)
theorem m_list (KX : K.In h) (G : h.Ns mainGlobals mg) (c : SaysV fa fn gs ex K) : mg "list" = none := He.free_ok KX G (c.d.fact 30 rfl)
theorem it_int (KX : K.In h) (G : h.Ns mainGlobals mg) (c : SaysV fa fn gs ex K) : IsTab K (cA K) (fun t => PySem.W.kitOne K t (.type "int")) ty_int cn_int := isTab_ok (allB_ok c.more 0 rfl)
theorem ca_int (c : SaysV fa fn gs ex K) : ∀ (n : Nat) (b : Bool), cn_int.lookup n = some b → Cls K (cA K n) := fun n b e => match n, e with
  | _ + 0, e => absurd e (by simp [cn_int, List.lookup])
theorem it_bool (KX : K.In h) (G : h.Ns mainGlobals mg) (c : SaysV fa fn gs ex K) : IsTab K (cA K) (fun t => PySem.W.kitOne K t (.type "bool")) ty_bool cn_bool := isTab_ok (allB_ok c.more 1 rfl)
theorem ca_bool (c : SaysV fa fn gs ex K) : ∀ (n : Nat) (b : Bool), cn_bool.lookup n = some b → Cls K (cA K n) := fun n b e => match n, e with
  | _ + 0, e => absurd e (by simp [cn_bool, List.lookup])
theorem it_tuple (KX : K.In h) (G : h.Ns mainGlobals mg) (c : SaysV fa fn gs ex K) : IsTab K (cA K) (fun t => PySem.W.kitOne K t (.type "tuple")) ty_tuple cn_tuple := isTab_ok (allB_ok c.more 2 rfl)
theorem ca_tuple (c : SaysV fa fn gs ex K) : ∀ (n : Nat) (b : Bool), cn_tuple.lookup n = some b → Cls K (cA K n) := fun n b e => match n, e with
  | _ + 0, e => absurd e (by simp [cn_tuple, List.lookup])
theorem tkT (c : SaysV fa fn gs ex K) : (nqT.map (·.1)).all (tabKB K) = true := allB_ok c.more 3 rfl
theorem tdT (c : SaysV fa fn gs ex K) : tabsDB K nqT = true := allB_ok c.more 4 rfl
theorem ok_days_in (KX : K.In h) (G : h.Ns mainGlobals mg) (c : SaysV fa fn gs ex K) (TB : TabsB K mg (nqT.map (·.1)) base) : ∃ fd, FnG P w K mg base (L2.CX P w) 1 (He.ga K "days_in") fd ["day_set"] (spF (tab K) (kdOf false) 1 F_days_in) ∧ PySem.W.keepIn K (.ref (He.ga K "days_in")) = true ∧ Binds K fd ["day_set"] [] := by
  obtain ⟨fd, F⟩ := c.d.def_ 0 (d := d_days_in) rfl
  refine ⟨fd, fn_ok F sc_days_in (by decide) rfl fun cdv A outer s H E hgd hr => ?_, F.kp, F.bindsN fun _ _ _ _ _ _ us hl => match us, hl with | [_], _ => rfl⟩
  have gd : (cxOf (L2.CX P w) P w K mg base N_days_in "days_in" (defScope s_days_in) (He.ga K "days_in") cdv A outer s H E).A.guards = some [] := deeper_guards.trans hgd
  have tk := L2.takes_of (X := cxOf (L2.CX P w) P w K mg base N_days_in "days_in" (defScope s_days_in) (He.ga K "days_in") cdv A outer s H E) rfl rfl rfl rfl
  have hp := L2.passes_of (X := cxOf (L2.CX P w) P w K mg base N_days_in "days_in" (defScope s_days_in) (He.ga K "days_in") cdv A outer s H E) rfl
  exact (dss_cons (ds_setO (i := 1) (de_lst da_nil pures_nil) sc_days_in.nd rfl (by first | exact Or.inl rfl | exact Or.inr rfl)) (dss_cons (ds_set (i := 2) de_int sc_days_in.nd rfl (by first | exact Or.inl rfl | exact Or.inr rfl)) (dss_cons (ds_while 40 hp (dt_tr rfl (de_op2 op_shr od_shr (de_var (pv 0)) (de_var (pv 2))) (by intro _; rfl)) (dss_cons (ds_if (dt_tr rfl (de_op2 op_and od_and (de_op2 op_shr od_shr (de_var (pv 0)) (de_var (pv 2))) de_int) (by intro _; rfl)) (dss_one (ds_expr (de_mt (i := 1) rfl PySem.F.plainAttrs_list PySem.F.slot_list_append PySem.F.type_list_append mt_append md_append (pv 1) (da_cons (de_var (pv 2)) da_nil) (pures_cons pures_nil)))) dss_nil) (dss_one (ds_aug (i := 2) sc_days_in.nd rfl (by first | exact Or.inl rfl | exact Or.inr rfl) de_int iop_add od_add)))) (dss_one (ds_ret (de_callTy call_tuple_of cd_tuple rfl (m_tuple KX G c) (by decide +kernel) (da_cons (de_ofrz (pv 1)) da_nil)))))))
theorem ok0_days_in (KX : K.In h) (G : h.Ns mainGlobals mg) (c : SaysV fa fn gs ex K) (TB : TabsB K mg (nqT.map (·.1)) base) : ∃ fd, FnG P w K mg base (L2.CX P w) 1 (He.ga K "days_in") fd ["day_set"] (spF (tab0 K) (kdOf false) 1 F_days_in) ∧ PySem.W.keepIn K (.ref (He.ga K "days_in")) = true ∧ Binds K fd ["day_set"] [] := by
  obtain ⟨fd, F⟩ := c.d.def_ 0 (d := d_days_in) rfl
  refine ⟨fd, fn_ok F sc_days_in (by decide) rfl fun cdv A outer s H E hgd hr => ?_, F.kp, F.bindsN fun _ _ _ _ _ _ us hl => match us, hl with | [_], _ => rfl⟩
  have gd : (cxOf (L2.CX P w) P w K mg base N_days_in "days_in" (defScope s_days_in) (He.ga K "days_in") cdv A outer s H E).A.guards = some [] := deeper_guards.trans hgd
  have tk := L2.takes_of (X := cxOf (L2.CX P w) P w K mg base N_days_in "days_in" (defScope s_days_in) (He.ga K "days_in") cdv A outer s H E) rfl rfl rfl rfl
  have hp := L2.passes_of (X := cxOf (L2.CX P w) P w K mg base N_days_in "days_in" (defScope s_days_in) (He.ga K "days_in") cdv A outer s H E) rfl
  exact (dss_cons (ds_setO (i := 1) (de_lst da_nil pures_nil) sc_days_in.nd rfl (by first | exact Or.inl rfl | exact Or.inr rfl)) (dss_cons (ds_set (i := 2) de_int sc_days_in.nd rfl (by first | exact Or.inl rfl | exact Or.inr rfl)) (dss_cons (ds_while 40 hp (dt_tr rfl (de_op2 op_shr od_shr (de_var (pv 0)) (de_var (pv 2))) (by intro _; rfl)) (dss_cons (ds_if (dt_tr rfl (de_op2 op_and od_and (de_op2 op_shr od_shr (de_var (pv 0)) (de_var (pv 2))) de_int) (by intro _; rfl)) (dss_one (ds_expr (de_mt (i := 1) rfl PySem.F.plainAttrs_list PySem.F.slot_list_append PySem.F.type_list_append mt_append md_append (pv 1) (da_cons (de_var (pv 2)) da_nil) (pures_cons pures_nil)))) dss_nil) (dss_one (ds_aug (i := 2) sc_days_in.nd rfl (by first | exact Or.inl rfl | exact Or.inr rfl) de_int iop_add od_add)))) (dss_one (ds_ret (de_callTy call_tuple_of cd_tuple rfl (m_tuple KX G c) (by decide +kernel) (da_cons (de_ofrz (pv 1)) da_nil)))))))
theorem ok_set_of (KX : K.In h) (G : h.Ns mainGlobals mg) (c : SaysV fa fn gs ex K) (TB : TabsB K mg (nqT.map (·.1)) base) : ∃ fd, FnG P w K mg base (L2.CX P w) 1 (He.ga K "set_of") fd ["days"] (spF (tab K) (kdOf false) 1 F_set_of) ∧ PySem.W.keepIn K (.ref (He.ga K "set_of")) = true ∧ Binds K fd ["days"] [] := by
  obtain ⟨fd, F⟩ := c.d.def_ 1 (d := d_set_of) rfl
  refine ⟨fd, fn_ok F sc_set_of (by decide) rfl fun cdv A outer s H E hgd hr => ?_, F.kp, F.bindsN fun _ _ _ _ _ _ us hl => match us, hl with | [_], _ => rfl⟩
  have gd : (cxOf (L2.CX P w) P w K mg base N_set_of "set_of" (defScope s_set_of) (He.ga K "set_of") cdv A outer s H E).A.guards = some [] := deeper_guards.trans hgd
  have tk := L2.takes_of (X := cxOf (L2.CX P w) P w K mg base N_set_of "set_of" (defScope s_set_of) (He.ga K "set_of") cdv A outer s H E) rfl rfl rfl rfl
  have hp := L2.passes_of (X := cxOf (L2.CX P w) P w K mg base N_set_of "set_of" (defScope s_set_of) (He.ga K "set_of") cdv A outer s H E) rfl
  exact (dss_cons (ds_set (i := 1) de_int sc_set_of.nd rfl (by first | exact Or.inl rfl | exact Or.inr rfl)) (dss_cons (ds_for hp rfl (di_seq rfl (de_var (pv 0))) (dg_name (i := 2) sc_set_of.nd rfl (by first | exact Or.inl rfl | exact Or.inr rfl)) (dss_one (ds_set (i := 1) (de_op2 op_or od_or (de_var (pv 1)) (de_op2 op_shlW od_shl de_int (de_var (pv 2)))) sc_set_of.nd rfl (by first | exact Or.inl rfl | exact Or.inr rfl)))) (dss_one (ds_ret (de_var (pv 1))))))
theorem ok_within (KX : K.In h) (G : h.Ns mainGlobals mg) (c : SaysV fa fn gs ex K) (TB : TabsB K mg (nqT.map (·.1)) base) : ∃ fd, FnG P w K mg base (L2.CX P w) 1 (He.ga K "within") fd ["one", "other"] (spF (tab K) (kdOf false) 2 F_within) ∧ PySem.W.keepIn K (.ref (He.ga K "within")) = true ∧ Binds K fd ["one", "other"] [] := by
  obtain ⟨fd, F⟩ := c.d.def_ 2 (d := d_within) rfl
  refine ⟨fd, fn_ok F sc_within (by decide) rfl fun cdv A outer s H E hgd hr => ?_, F.kp, F.bindsN fun _ _ _ _ _ _ us hl => match us, hl with | [_, _], _ => rfl⟩
  have gd : (cxOf (L2.CX P w) P w K mg base N_within "within" (defScope s_within) (He.ga K "within") cdv A outer s H E).A.guards = some [] := deeper_guards.trans hgd
  have tk := L2.takes_of (X := cxOf (L2.CX P w) P w K mg base N_within "within" (defScope s_within) (He.ga K "within") cdv A outer s H E) rfl rfl rfl rfl
  have hp := L2.passes_of (X := cxOf (L2.CX P w) P w K mg base N_within "within" (defScope s_within) (He.ga K "within") cdv A outer s H E) rfl
  exact (dss_one (ds_ret (de_cmp op_eq cd_eqS (de_op2 op_and od_and (de_var (pv 0)) (de_un un_inv ud_inv (de_var (pv 1)))) de_int)))
theorem ok_least_masks (KX : K.In h) (G : h.Ns mainGlobals mg) (c : SaysV fa fn gs ex K) (TB : TabsB K mg (nqT.map (·.1)) base) : ∃ fd, FnG P w K mg base (L2.CX P w) 5 (He.ga K "least_masks") fd ["masks"] (spF (tab K) (kdOf true) 1 F_least_masks) ∧ PySem.W.keepIn K (.ref (He.ga K "least_masks")) = true ∧ Binds K fd ["masks"] [] := by
  obtain ⟨fd, F⟩ := c.d.def_ 3 (d := d_least_masks) rfl
  obtain ⟨fd_within, G_within, K_within, B_within⟩ := ok_within (P := P) (w := w) (base := base) KX G c TB
  obtain ⟨fd0_days_in, G0_days_in, K0_days_in, B0_days_in⟩ := ok0_days_in (P := P) (w := w) (base := base) KX G c TB
  refine ⟨fd, fn_okC F sc_least_masks (by decide) rfl fun cdv hcd_ A outer s H E hgd hr => ?_, F.kp, F.bindsN fun _ _ _ _ _ _ us hl => match us, hl with | [_], _ => rfl⟩
  obtain rfl := tabA_code (x := "least_masks") (List.all_eq_true.mp (tkT c) _ (by decide +kernel)) hcd_
  have hcode_ : (cxOf (L2.CX P w) P w K mg base N_least_masks "least_masks" (defScope s_least_masks) (He.ga K "least_masks") (.ref (tabA K (He.ga K "least_masks")).1) A outer s H E).env.code = .ref (tabA K (He.ga K "least_masks")).1 := rfl
  have tb_ := TB "least_masks" (by decide +kernel)
  have tm_ : ((tabA K (He.ga K "least_masks")).2, fun (_ _ : Nat) => ("least_masks.<locals>.<lambda>" : Str)) ∈ (tab K).tbs := tbs_mem (K := K) (nq := nqT) (x := "least_masks") (y := "least_masks.<locals>.<lambda>") (by decide +kernel)
  have tu_ : ∀ q ∈ (tab K).tbs, q.1 = (tabA K (He.ga K "least_masks")).2 → q.2 = fun (_ _ : Nat) => ("least_masks.<locals>.<lambda>" : Str) := tbs_only (K := K) (nq := nqT) (x := "least_masks") (y := "least_masks.<locals>.<lambda>") (tdT c) (by decide +kernel)
  have gd : (cxOf (L2.CX P w) P w K mg base N_least_masks "least_masks" (defScope s_least_masks) (He.ga K "least_masks") (.ref (tabA K (He.ga K "least_masks")).1) A outer s H E).A.guards = some [] := deeper_guards.trans hgd
  have tk := L2.takes_of (X := cxOf (L2.CX P w) P w K mg base N_least_masks "least_masks" (defScope s_least_masks) (He.ga K "least_masks") (.ref (tabA K (He.ga K "least_masks")).1) A outer s H E) rfl rfl rfl rfl
  have hp := L2.passes_of (X := cxOf (L2.CX P w) P w K mg base N_least_masks "least_masks" (defScope s_least_masks) (He.ga K "least_masks") (.ref (tabA K (He.ga K "least_masks")).1) A outer s H E) rfl
  exact (dss_cons (ds_setO (i := 1) (de_lst da_nil pures_nil) sc_least_masks.nd rfl (by first | exact Or.inl rfl | exact Or.inr rfl)) (dss_cons (ds_for hp rfl (di_list rfl (de_frz (de_sortK (T0 := tab0 K) (y := "each") (k := 1) (mk := (callM lenD [(fnM F_days_in [.p (varM 0)] [])])) rfl rfl rfl rfl (m_sorted KX G c) rfl (de_var (pv 0)) tb_ hcode_ tm_ (by show (_ : Str) = (("least_masks.<locals>." : Str) ++ "<lambda>"); decide +kernel) tu_ (hr.mono (by decide)) gd (by exact ⟨rfl, rfl, rfl, by decide +kernel, rfl, by decide +kernel, by decide +kernel⟩) (by rfl) (by exact fun _ _ _ _ _ _ => rfl) (fun A outer t H f c' hgd hr => (de_callB call_len cd_len rfl (m_len KX G c) boot_len (da_cons (de_call G0_days_in (.inl rfl) (deeper_guards.trans hgd) (hr.mono (by decide)) rfl (m_days_in KX G c) K0_days_in B0_days_in .nil (fun _ => Reps.nil) tk0 (ga_p (de_var (pv 0)) ga_nil)) da_nil)))))) (dg_name (i := 2) sc_least_masks.nd rfl (by first | exact Or.inl rfl | exact Or.inr rfl)) (dss_one (ds_if (dt_not (dt_tr rfl (de_lendE (i := 1) (de_callB (cr_any rfl) cd_any rfl (m_any KX G c) (by decide +kernel) (da_cons (de_lc (own := [("one", 3)]) rfl sc_least_masks.nd (di_list rfl (de_var (pv 1))) (blkOk_by (by first | rfl | decide +kernel)) (fun _ _ _ _ _ => (dg_name (i := 3) sc_least_masks.nd rfl (by first | exact Or.inl rfl | exact Or.inr rfl))) (fun _ _ _ _ _ => dts_nil) (fun _ _ _ _ _ => (de_call G_within (.inl rfl) gd (hr.mono (by decide)) rfl (m_within KX G c) K_within B_within .nil (fun _ => Reps.nil) tk0 (ga_p (de_var (pv 3)) (ga_p (de_var (pv 2)) ga_nil))))) da_nil))) (by intro _; rfl))) (dss_one (ds_expr (de_mt (i := 1) rfl PySem.F.plainAttrs_list PySem.F.slot_list_append PySem.F.type_list_append mt_append md_append (pv 1) (da_cons (de_var (pv 2)) da_nil) (pures_cons pures_nil)))) dss_nil))) (dss_one (ds_retO (pv 1)))))
theorem ok_sorted_lots (KX : K.In h) (G : h.Ns mainGlobals mg) (c : SaysV fa fn gs ex K) (TB : TabsB K mg (nqT.map (·.1)) base) : ∃ fd, FnG P w K mg base (L2.CX P w) 5 (He.ga K "sorted_lots") fd ["masks"] (spF (tab K) (kdOf false) 1 F_sorted_lots) ∧ PySem.W.keepIn K (.ref (He.ga K "sorted_lots")) = true ∧ Binds K fd ["masks"] [] := by
  obtain ⟨fd, F⟩ := c.d.def_ 4 (d := d_sorted_lots) rfl
  obtain ⟨fd_days_in, G_days_in, K_days_in, B_days_in⟩ := ok_days_in (P := P) (w := w) (base := base) KX G c TB
  refine ⟨fd, fn_okC F sc_sorted_lots (by decide) rfl fun cdv hcd_ A outer s H E hgd hr => ?_, F.kp, F.bindsN fun _ _ _ _ _ _ us hl => match us, hl with | [_], _ => rfl⟩
  obtain rfl := tabA_code (x := "sorted_lots") (List.all_eq_true.mp (tkT c) _ (by decide +kernel)) hcd_
  have hcode_ : (cxOf (L2.CX P w) P w K mg base N_sorted_lots "sorted_lots" (defScope s_sorted_lots) (He.ga K "sorted_lots") (.ref (tabA K (He.ga K "sorted_lots")).1) A outer s H E).env.code = .ref (tabA K (He.ga K "sorted_lots")).1 := rfl
  have tb_ := TB "sorted_lots" (by decide +kernel)
  have tm_ : ((tabA K (He.ga K "sorted_lots")).2, fun (_ _ : Nat) => ("sorted_lots.<locals>.<lambda>" : Str)) ∈ (tab K).tbs := tbs_mem (K := K) (nq := nqT) (x := "sorted_lots") (y := "sorted_lots.<locals>.<lambda>") (by decide +kernel)
  have tu_ : ∀ q ∈ (tab K).tbs, q.1 = (tabA K (He.ga K "sorted_lots")).2 → q.2 = fun (_ _ : Nat) => ("sorted_lots.<locals>.<lambda>" : Str) := tbs_only (K := K) (nq := nqT) (x := "sorted_lots") (y := "sorted_lots.<locals>.<lambda>") (tdT c) (by decide +kernel)
  have gd : (cxOf (L2.CX P w) P w K mg base N_sorted_lots "sorted_lots" (defScope s_sorted_lots) (He.ga K "sorted_lots") (.ref (tabA K (He.ga K "sorted_lots")).1) A outer s H E).A.guards = some [] := deeper_guards.trans hgd
  have tk := L2.takes_of (X := cxOf (L2.CX P w) P w K mg base N_sorted_lots "sorted_lots" (defScope s_sorted_lots) (He.ga K "sorted_lots") (.ref (tabA K (He.ga K "sorted_lots")).1) A outer s H E) rfl rfl rfl rfl
  have hp := L2.passes_of (X := cxOf (L2.CX P w) P w K mg base N_sorted_lots "sorted_lots" (defScope s_sorted_lots) (He.ga K "sorted_lots") (.ref (tabA K (He.ga K "sorted_lots")).1) A outer s H E) rfl
  exact (dss_one (ds_ret (de_callTy call_tuple_of cd_tuple rfl (m_tuple KX G c) (by decide +kernel) (da_cons (de_sortK (T0 := tab0 K) (y := "lot") (k := 1) (mk := (tupM [(callM lenD [(varM 0)]), (varM 0)])) rfl rfl rfl rfl (m_sorted KX G c) rfl (de_lc (own := [("mask", 1)]) rfl sc_sorted_lots.nd (di_list rfl (de_var (pv 0))) (blkOk_by (by first | rfl | decide +kernel)) (fun _ _ _ _ _ => (dg_name (i := 1) sc_sorted_lots.nd rfl (by first | exact Or.inl rfl | exact Or.inr rfl))) (fun _ _ _ _ _ => dts_nil) (fun _ _ _ _ _ => (de_call G_days_in (.inl rfl) gd (hr.mono (by decide)) rfl (m_days_in KX G c) K_days_in B_days_in .nil (fun _ => Reps.nil) tk0 (ga_p (de_var (pv 1)) ga_nil)))) tb_ hcode_ tm_ (by show (_ : Str) = (("sorted_lots.<locals>." : Str) ++ "<lambda>"); decide +kernel) tu_ (hr.mono (by decide)) gd (by exact ⟨rfl, rfl, rfl, by decide +kernel, rfl, by decide +kernel, by decide +kernel⟩) (by rfl) (by exact fun _ _ _ _ _ _ => rfl) (fun A outer t H f c' hgd hr => (de_tup (da_cons (de_callB call_len cd_len rfl (m_len KX G c) boot_len (da_cons (de_var (pv 0)) da_nil)) (da_cons (de_var (pv 0)) da_nil)) (pures_cons (pures_cons pures_nil))))) da_nil))))
theorem ok_least_meeting (KX : K.In h) (G : h.Ns mainGlobals mg) (c : SaysV fa fn gs ex K) (TB : TabsB K mg (nqT.map (·.1)) base) : ∃ fd, FnG P w K mg base (L2.CX P w) 6 (He.ga K "least_meeting") fd ["lots"] (spF (tab K) (kdOf false) 1 F_least_meeting) ∧ PySem.W.keepIn K (.ref (He.ga K "least_meeting")) = true ∧ Binds K fd ["lots"] [] := by
  obtain ⟨fd, F⟩ := c.d.def_ 5 (d := d_least_meeting) rfl
  obtain ⟨fd_days_in, G_days_in, K_days_in, B_days_in⟩ := ok_days_in (P := P) (w := w) (base := base) KX G c TB
  obtain ⟨fd_least_masks, G_least_masks, K_least_masks, B_least_masks⟩ := ok_least_masks (P := P) (w := w) (base := base) KX G c TB
  obtain ⟨fd_set_of, G_set_of, K_set_of, B_set_of⟩ := ok_set_of (P := P) (w := w) (base := base) KX G c TB
  obtain ⟨fd_sorted_lots, G_sorted_lots, K_sorted_lots, B_sorted_lots⟩ := ok_sorted_lots (P := P) (w := w) (base := base) KX G c TB
  refine ⟨fd, fn_ok F sc_least_meeting (by decide) rfl fun cdv A outer s H E hgd hr => ?_, F.kp, F.bindsN fun _ _ _ _ _ _ us hl => match us, hl with | [_], _ => rfl⟩
  have gd : (cxOf (L2.CX P w) P w K mg base N_least_meeting "least_meeting" (defScope s_least_meeting) (He.ga K "least_meeting") cdv A outer s H E).A.guards = some [] := deeper_guards.trans hgd
  have tk := L2.takes_of (X := cxOf (L2.CX P w) P w K mg base N_least_meeting "least_meeting" (defScope s_least_meeting) (He.ga K "least_meeting") cdv A outer s H E) rfl rfl rfl rfl
  have hp := L2.passes_of (X := cxOf (L2.CX P w) P w K mg base N_least_meeting "least_meeting" (defScope s_least_meeting) (He.ga K "least_meeting") cdv A outer s H E) rfl
  exact (dss_cons (ds_set (i := 1) (de_frz (de_lst (da_cons de_int da_nil) (pures_cons pures_nil))) sc_least_meeting.nd rfl (by first | exact Or.inl rfl | exact Or.inr rfl)) (dss_cons (ds_for hp rfl (di_list rfl (de_frz (de_call G_least_masks (.inr rfl) gd (hr.mono (by decide)) rfl (m_least_masks KX G c) K_least_masks B_least_masks .nil (fun _ => Reps.nil) tk (ga_p (de_frz (de_lc (own := [("lot", 5)]) rfl sc_least_meeting.nd (di_seq rfl (de_var (pv 0))) (blkOk_by (by first | rfl | decide +kernel)) (fun _ _ _ _ _ => (dg_name (i := 5) sc_least_meeting.nd rfl (by first | exact Or.inl rfl | exact Or.inr rfl))) (fun _ _ _ _ _ => dts_nil) (fun _ _ _ _ _ => (de_call G_set_of (.inl rfl) gd (hr.mono (by decide)) rfl (m_set_of KX G c) K_set_of B_set_of .nil (fun _ => Reps.nil) tk0 (ga_p (de_var (pv 5)) ga_nil))))) ga_nil)))) (dg_name (i := 2) sc_least_meeting.nd rfl (by first | exact Or.inl rfl | exact Or.inr rfl)) (dss_cons (ds_setO (i := 3) (de_lst da_nil pures_nil) sc_least_meeting.nd rfl (by first | exact Or.inl rfl | exact Or.inr rfl)) (dss_cons (ds_for hp rfl (di_list rfl (de_var (pv 1))) (dg_name (i := 4) sc_least_meeting.nd rfl (by first | exact Or.inl rfl | exact Or.inr rfl)) (dss_one (ds_if (dt_tr rfl (de_op2 op_and od_and (de_var (pv 4)) (de_var (pv 2))) (by intro _; rfl)) (dss_one (ds_expr (de_mt (i := 3) rfl PySem.F.plainAttrs_list PySem.F.slot_list_append PySem.F.type_list_append mt_append md_append (pv 3) (da_cons (de_var (pv 4)) da_nil) (pures_cons pures_nil)))) (dss_one (ds_expr (de_mt2 (i := 3) rfl PySem.F.plainAttrs_list PySem.F.slot_list_extend PySem.F.type_list_extend mt_ext md_ext (pv 3) (da_cons (de_frz (de_lc (own := [("number", 6)]) rfl sc_least_meeting.nd (di_tup rfl (de_call G_days_in (.inl rfl) gd (hr.mono (by decide)) rfl (m_days_in KX G c) K_days_in B_days_in .nil (fun _ => Reps.nil) tk (ga_p (de_var (pv 2)) ga_nil))) (blkOk_by (by first | rfl | decide +kernel)) (fun _ _ _ _ _ => (dg_name (i := 6) sc_least_meeting.nd rfl (by first | exact Or.inl rfl | exact Or.inr rfl))) (fun _ _ _ _ _ => dts_nil) (fun _ _ _ _ _ => (de_op2 op_or od_or (de_var (pv 4)) (de_call G_set_of (.inl rfl) gd (hr.mono (by decide)) rfl (m_set_of KX G c) K_set_of B_set_of .nil (fun _ => Reps.nil) tk0 (ga_p (de_tup (da_cons (de_var (pv 6)) da_nil) (pures_cons pures_nil)) ga_nil)))))) da_nil) (pures_cons pures_nil))))))) (dss_one (ds_set (i := 1) (de_frz (de_call G_least_masks (.inr rfl) gd (hr.mono (by decide)) rfl (m_least_masks KX G c) K_least_masks B_least_masks .nil (fun _ => Reps.nil) tk (ga_p (de_ofrz (pv 3)) ga_nil))) sc_least_meeting.nd rfl (by first | exact Or.inl rfl | exact Or.inr rfl)))))) (dss_one (ds_ret (de_call G_sorted_lots (.inl rfl) gd (hr.mono (by decide)) rfl (m_sorted_lots KX G c) K_sorted_lots B_sorted_lots .nil (fun _ => Reps.nil) tk (ga_p (de_var (pv 1)) ga_nil))))))
theorem ok_law_bag (KX : K.In h) (G : h.Ns mainGlobals mg) (c : SaysV fa fn gs ex K) (TB : TabsB K mg (nqT.map (·.1)) base) : ∃ fd, FnG P w K mg base (L2.CX P w) 1 (He.ga K "_law_bag") fd ["_law_script", "_law_at"] (spF (tab K) (kdOf true) 2 F_law_bag) ∧ PySem.W.keepIn K (.ref (He.ga K "_law_bag")) = true ∧ Binds K fd ["_law_script", "_law_at"] [] := by
  obtain ⟨fd, F⟩ := c.d.def_ 6 (d := d_law_bag) rfl
  refine ⟨fd, fn_ok F sc_law_bag (by decide) rfl fun cdv A outer s H E hgd hr => ?_, F.kp, F.bindsN fun _ _ _ _ _ _ us hl => match us, hl with | [_, _], _ => rfl⟩
  have gd : (cxOf (L2.CX P w) P w K mg base N_law_bag "_law_bag" (defScope s_law_bag) (He.ga K "_law_bag") cdv A outer s H E).A.guards = some [] := deeper_guards.trans hgd
  have tk := L2.takes_of (X := cxOf (L2.CX P w) P w K mg base N_law_bag "_law_bag" (defScope s_law_bag) (He.ga K "_law_bag") cdv A outer s H E) rfl rfl rfl rfl
  have hp := L2.passes_of (X := cxOf (L2.CX P w) P w K mg base N_law_bag "_law_bag" (defScope s_law_bag) (He.ga K "_law_bag") cdv A outer s H E) rfl
  exact (dss_cons (ds_set (i := 2) (de_ifExp (dt_cmp op_lt cd_c2 (de_var (pv 1)) (de_callB call_len cd_len rfl (m_len KX G c) boot_len (da_cons (de_var (pv 0)) da_nil))) (de_callB call_abs cd_abs rfl (m_abs KX G c) (by decide +kernel) (da_cons (de_ix rfl (de_var (pv 0)) (de_var (pv 1)) (fun _ _ => rfl)) da_nil)) de_int) sc_law_bag.nd rfl (by first | exact Or.inl rfl | exact Or.inr rfl)) (dss_cons (ds_set (i := 3) (de_op2 op_add od_add de_int (de_op2 op_mulA od_mul de_int (de_var (pv 1)))) sc_law_bag.nd rfl (by first | exact Or.inl rfl | exact Or.inr rfl)) (dss_cons (ds_for hp rfl (di_enum rfl rfl (m_enumerate KX G c) (de_frz (de_slL rfl (de_var (pv 0)) do_none (do_some de_int)))) (dg_tup rfl rfl (dgs_cons (dg_name (i := 4) sc_law_bag.nd rfl (by first | exact Or.inl rfl | exact Or.inr rfl)) (dgs_cons (dg_name (i := 5) sc_law_bag.nd rfl (by first | exact Or.inl rfl | exact Or.inr rfl)) dgs_nil))) (dss_one (ds_set (i := 3) (de_op2 op_modN od_mod (de_callTy call_int1 cd_int rfl (m_int KX G c) (by decide +kernel) (da_cons (de_op2 op_add od_add (de_op2 op_add od_add (de_op2 op_mulA od_mul (de_var (pv 3)) de_int) (de_op2 op_modN od_mod (de_callTy call_int1 cd_int rfl (m_int KX G c) (by decide +kernel) (da_cons (de_var (pv 5)) da_nil)) de_int)) (de_op2 op_mulA od_mul de_int (de_var (pv 4)))) da_nil)) de_int) sc_law_bag.nd rfl (by first | exact Or.inl rfl | exact Or.inr rfl)))) (dss_one (ds_ret (de_lst (da_cons (de_ifExp (dt_cmp op_ge cd_c2 (de_var (pv 2)) (de_op2 op_pow od_pow de_int de_int)) (de_var (pv 2)) de_int) (da_cons (de_var (pv 3)) (da_cons de_int da_nil))) (pures_cons (pures_cons (pures_cons pures_nil)))))))))
theorem ok_law_take (KX : K.In h) (G : h.Ns mainGlobals mg) (c : SaysV fa fn gs ex K) (TB : TabsB K mg (nqT.map (·.1)) base) : ∃ fd, FnG P w K mg base (L2.CX P w) 1 (He.ga K "_law_take") fd ["_law_bag_here", "_law_many_here"] (spF (tab K) (kdOf false) 2 F_law_take) ∧ PySem.W.keepIn K (.ref (He.ga K "_law_take")) = true ∧ Binds K fd ["_law_bag_here", "_law_many_here"] [] := by
  obtain ⟨fd, F⟩ := c.d.def_ 7 (d := d_law_take) rfl
  refine ⟨fd, fn_ok F sc_law_take (by decide) rfl fun cdv A outer s H E hgd hr => ?_, F.kp, F.bindsN fun _ _ _ _ _ _ us hl => match us, hl with | [_, _], _ => rfl⟩
  have gd : (cxOf (L2.CX P w) P w K mg base N_law_take "_law_take" (defScope s_law_take) (He.ga K "_law_take") cdv A outer s H E).A.guards = some [] := deeper_guards.trans hgd
  have tk := L2.takes_of (X := cxOf (L2.CX P w) P w K mg base N_law_take "_law_take" (defScope s_law_take) (He.ga K "_law_take") cdv A outer s H E) rfl rfl rfl rfl
  have hp := L2.passes_of (X := cxOf (L2.CX P w) P w K mg base N_law_take "_law_take" (defScope s_law_take) (He.ga K "_law_take") cdv A outer s H E) rfl
  exact (dss_cons (ds_if (dt_cmp op_gt cd_c2 (de_ix rfl (de_ovar (pv 0)) de_int (fun _ _ => rfl) (hst := steady_c)) de_int) (dss_cons (ds_set (i := 2) (de_op2 op_modN od_mod (de_callTy call_int1 cd_int rfl (m_int KX G c) (by decide +kernel) (da_cons (de_ix rfl (de_ovar (pv 0)) de_int (fun _ _ => rfl) (hst := steady_c)) da_nil)) (de_var (pv 1))) sc_law_take.nd rfl (by first | exact Or.inl rfl | exact Or.inr rfl)) (dss_cons (ds_setI (pv 0) (de_op2 op_fdivA od_fdiv (de_ix rfl (de_ovar (pv 0)) de_int (fun _ _ => rfl) (hst := steady_c)) (de_var (pv 1))) de_int) (dss_one (ds_ret (de_var (pv 2)))))) dss_nil) (dss_cons (ds_setI (pv 0) (de_op2 op_add od_add (de_ix rfl (de_ovar (pv 0)) de_int (fun _ _ => rfl) (hst := steady_c)) de_int) de_int) (dss_cons (ds_setI (pv 0) (de_op2 op_modN od_mod (de_callTy call_int1 cd_int rfl (m_int KX G c) (by decide +kernel) (da_cons (de_op2 op_add od_add (de_op2 op_add od_add (de_op2 op_mulA od_mul (de_ix rfl (de_ovar (pv 0)) de_int (fun _ _ => rfl) (hst := steady_c)) de_int) (de_op2 op_mulA od_mul de_int (de_ix rfl (de_ovar (pv 0)) de_int (fun _ _ => rfl) (hst := steady_c)))) de_int) da_nil)) de_int) de_int) (dss_one (ds_ret (de_op2 op_modN od_mod (de_op2 op_fdivA od_fdiv (de_op2 op_modN od_mod (de_callTy call_int1 cd_int rfl (m_int KX G c) (by decide +kernel) (da_cons (de_op2 op_mulA od_mul (de_ix rfl (de_ovar (pv 0)) de_int (fun _ _ => rfl) (hst := steady_c)) de_int) da_nil)) de_int) de_int) (de_var (pv 1))))))))
theorem ok_law_of (KX : K.In h) (G : h.Ns mainGlobals mg) (c : SaysV fa fn gs ex K) (TB : TabsB K mg (nqT.map (·.1)) base) : ∃ fd, FnG P w K mg base (L2.CX P w) 2 (He.ga K "_law_of") fd ["_law_bag_here", "_law_some"] (spF (tab K) (kdOf false) 2 F_law_of) ∧ PySem.W.keepIn K (.ref (He.ga K "_law_of")) = true ∧ Binds K fd ["_law_bag_here", "_law_some"] [] := by
  obtain ⟨fd, F⟩ := c.d.def_ 8 (d := d_law_of) rfl
  obtain ⟨fd_law_take, G_law_take, K_law_take, B_law_take⟩ := ok_law_take (P := P) (w := w) (base := base) KX G c TB
  refine ⟨fd, fn_ok F sc_law_of (by decide) rfl fun cdv A outer s H E hgd hr => ?_, F.kp, F.bindsN fun _ _ _ _ _ _ us hl => match us, hl with | [_, _], _ => rfl⟩
  have gd : (cxOf (L2.CX P w) P w K mg base N_law_of "_law_of" (defScope s_law_of) (He.ga K "_law_of") cdv A outer s H E).A.guards = some [] := deeper_guards.trans hgd
  have tk := L2.takes_of (X := cxOf (L2.CX P w) P w K mg base N_law_of "_law_of" (defScope s_law_of) (He.ga K "_law_of") cdv A outer s H E) rfl rfl rfl rfl
  have hp := L2.passes_of (X := cxOf (L2.CX P w) P w K mg base N_law_of "_law_of" (defScope s_law_of) (He.ga K "_law_of") cdv A outer s H E) rfl
  exact (dss_one (ds_ret (de_ix rfl (de_var (pv 1)) (de_call G_law_take (.inl rfl) gd (hr.mono (by decide)) rfl (m__law_take KX G c) K_law_take B_law_take .nil (fun _ => Reps.nil) tk (ga_o (pv 0) (ga_p (de_callB call_len cd_len rfl (m_len KX G c) boot_len (da_cons (de_var (pv 1)) da_nil)) ga_nil))) (fun _ _ => rfl))))
theorem ok_law_lot (KX : K.In h) (G : h.Ns mainGlobals mg) (c : SaysV fa fn gs ex K) (TB : TabsB K mg (nqT.map (·.1)) base) : ∃ fd, FnG P w K mg base (L2.CX P w) 1 (He.ga K "_law_lot") fd ["_law_mask"] (spF (tab K) (kdOf false) 1 F_law_lot) ∧ PySem.W.keepIn K (.ref (He.ga K "_law_lot")) = true ∧ Binds K fd ["_law_mask"] [] := by
  obtain ⟨fd, F⟩ := c.d.def_ 9 (d := d_law_lot) rfl
  refine ⟨fd, fn_ok F sc_law_lot (by decide) rfl fun cdv A outer s H E hgd hr => ?_, F.kp, F.bindsN fun _ _ _ _ _ _ us hl => match us, hl with | [_], _ => rfl⟩
  have gd : (cxOf (L2.CX P w) P w K mg base N_law_lot "_law_lot" (defScope s_law_lot) (He.ga K "_law_lot") cdv A outer s H E).A.guards = some [] := deeper_guards.trans hgd
  have tk := L2.takes_of (X := cxOf (L2.CX P w) P w K mg base N_law_lot "_law_lot" (defScope s_law_lot) (He.ga K "_law_lot") cdv A outer s H E) rfl rfl rfl rfl
  have hp := L2.passes_of (X := cxOf (L2.CX P w) P w K mg base N_law_lot "_law_lot" (defScope s_law_lot) (He.ga K "_law_lot") cdv A outer s H E) rfl
  exact (dss_one (ds_ret (de_callTy call_tuple_of cd_tuple rfl (m_tuple KX G c) (by decide +kernel) (da_cons (de_lc (own := [("_law_number", 1)]) rfl sc_law_lot.nd (di_range1 rfl (m_range KX G c) de_int) (blkOk_by (by first | rfl | decide +kernel)) (fun _ _ _ _ _ => (dg_name (i := 1) sc_law_lot.nd rfl (by first | exact Or.inl rfl | exact Or.inr rfl))) (fun _ _ _ _ _ => (dts_one (dt_cmp op_eq cd_eqS (de_op2 op_and od_and (de_op2 op_shr od_shr (de_var (pv 0)) (de_var (pv 1))) de_int) de_int))) (fun _ _ _ _ _ => (de_var (pv 1)))) da_nil))))
theorem ok_law_set (KX : K.In h) (G : h.Ns mainGlobals mg) (c : SaysV fa fn gs ex K) (TB : TabsB K mg (nqT.map (·.1)) base) : ∃ fd, FnG P w K mg base (L2.CX P w) 1 (He.ga K "_law_set") fd ["_law_lot_here"] (spF (tab K) (kdOf false) 1 F_law_set) ∧ PySem.W.keepIn K (.ref (He.ga K "_law_set")) = true ∧ Binds K fd ["_law_lot_here"] [] := by
  obtain ⟨fd, F⟩ := c.d.def_ 10 (d := d_law_set) rfl
  refine ⟨fd, fn_ok F sc_law_set (by decide) rfl fun cdv A outer s H E hgd hr => ?_, F.kp, F.bindsN fun _ _ _ _ _ _ us hl => match us, hl with | [_], _ => rfl⟩
  have gd : (cxOf (L2.CX P w) P w K mg base N_law_set "_law_set" (defScope s_law_set) (He.ga K "_law_set") cdv A outer s H E).A.guards = some [] := deeper_guards.trans hgd
  have tk := L2.takes_of (X := cxOf (L2.CX P w) P w K mg base N_law_set "_law_set" (defScope s_law_set) (He.ga K "_law_set") cdv A outer s H E) rfl rfl rfl rfl
  have hp := L2.passes_of (X := cxOf (L2.CX P w) P w K mg base N_law_set "_law_set" (defScope s_law_set) (He.ga K "_law_set") cdv A outer s H E) rfl
  exact (dss_one (ds_ret (de_callB (cr_sumT rfl) cd_sumA rfl (m_sum KX G c) (by decide +kernel) (da_cons (de_lc (own := [("_law_number", 1)]) rfl sc_law_set.nd (di_seq rfl (de_var (pv 0))) (blkOk_by (by first | rfl | decide +kernel)) (fun _ _ _ _ _ => (dg_name (i := 1) sc_law_set.nd rfl (by first | exact Or.inl rfl | exact Or.inr rfl))) (fun _ _ _ _ _ => dts_nil) (fun _ _ _ _ _ => (de_op2 op_shlW od_shl de_int (de_var (pv 1))))) da_nil))))
theorem ok_law_sorted (KX : K.In h) (G : h.Ns mainGlobals mg) (c : SaysV fa fn gs ex K) (TB : TabsB K mg (nqT.map (·.1)) base) : ∃ fd, FnG P w K mg base (L2.CX P w) 2 (He.ga K "_law_sorted") fd ["_law_masks"] (spF (tab K) (kdOf true) 1 F_law_sorted) ∧ PySem.W.keepIn K (.ref (He.ga K "_law_sorted")) = true ∧ Binds K fd ["_law_masks"] [] := by
  obtain ⟨fd, F⟩ := c.d.def_ 11 (d := d_law_sorted) rfl
  obtain ⟨fd_law_lot, G_law_lot, K_law_lot, B_law_lot⟩ := ok_law_lot (P := P) (w := w) (base := base) KX G c TB
  refine ⟨fd, fn_ok F sc_law_sorted (by decide) rfl fun cdv A outer s H E hgd hr => ?_, F.kp, F.bindsN fun _ _ _ _ _ _ us hl => match us, hl with | [_], _ => rfl⟩
  have gd : (cxOf (L2.CX P w) P w K mg base N_law_sorted "_law_sorted" (defScope s_law_sorted) (He.ga K "_law_sorted") cdv A outer s H E).A.guards = some [] := deeper_guards.trans hgd
  have tk := L2.takes_of (X := cxOf (L2.CX P w) P w K mg base N_law_sorted "_law_sorted" (defScope s_law_sorted) (He.ga K "_law_sorted") cdv A outer s H E) rfl rfl rfl rfl
  have hp := L2.passes_of (X := cxOf (L2.CX P w) P w K mg base N_law_sorted "_law_sorted" (defScope s_law_sorted) (He.ga K "_law_sorted") cdv A outer s H E) rfl
  exact (dss_one (ds_ret (de_lc (own := [("_law_pair", 2)]) rfl sc_law_sorted.nd (di_list rfl (de_frz (de_callB (cr_sortD rfl (hu65 hr)) cd_sortD rfl (m_sorted KX G c) (by decide +kernel) (da_cons (de_lc (own := [("_law_mask", 1)]) rfl sc_law_sorted.nd (di_list rfl (de_var (pv 0))) (blkOk_by (by first | rfl | decide +kernel)) (fun _ _ _ _ _ => (dg_name (i := 1) sc_law_sorted.nd rfl (by first | exact Or.inl rfl | exact Or.inr rfl))) (fun _ _ _ _ _ => dts_nil) (fun _ _ _ _ _ => (de_tup (da_cons (de_callB call_len cd_len rfl (m_len KX G c) boot_len (da_cons (de_call G_law_lot (.inl rfl) gd (hr.mono (by decide)) rfl (m__law_lot KX G c) K_law_lot B_law_lot .nil (fun _ => Reps.nil) tk0 (ga_p (de_var (pv 1)) ga_nil)) da_nil)) (da_cons (de_call G_law_lot (.inl rfl) gd (hr.mono (by decide)) rfl (m__law_lot KX G c) K_law_lot B_law_lot .nil (fun _ => Reps.nil) tk0 (ga_p (de_var (pv 1)) ga_nil)) da_nil)) (pures_cons (pures_cons pures_nil))))) da_nil)))) (blkOk_by (by first | rfl | decide +kernel)) (fun _ _ _ _ _ => (dg_name (i := 2) sc_law_sorted.nd rfl (by first | exact Or.inl rfl | exact Or.inr rfl))) (fun _ _ _ _ _ => dts_nil) (fun _ _ _ _ _ => (de_ix rfl (de_var (pv 2)) de_int (fun _ _ => rfl))))))
theorem ok_law_is_number (KX : K.In h) (G : h.Ns mainGlobals mg) (c : SaysV fa fn gs ex K) (TB : TabsB K mg (nqT.map (·.1)) base) : ∃ fd, FnG P w K mg base (L2.CX P w) 1 (He.ga K "_law_is_number") fd ["_law_thing"] (spF (tab K) (kdOf false) 1 F_law_is_number) ∧ PySem.W.keepIn K (.ref (He.ga K "_law_is_number")) = true ∧ Binds K fd ["_law_thing"] [] := by
  obtain ⟨fd, F⟩ := c.d.def_ 12 (d := d_law_is_number) rfl
  refine ⟨fd, fn_ok F sc_law_is_number (by decide) rfl fun cdv A outer s H E hgd hr => ?_, F.kp, F.bindsN fun _ _ _ _ _ _ us hl => match us, hl with | [_], _ => rfl⟩
  have gd : (cxOf (L2.CX P w) P w K mg base N_law_is_number "_law_is_number" (defScope s_law_is_number) (He.ga K "_law_is_number") cdv A outer s H E).A.guards = some [] := deeper_guards.trans hgd
  have tk := L2.takes_of (X := cxOf (L2.CX P w) P w K mg base N_law_is_number "_law_is_number" (defScope s_law_is_number) (He.ga K "_law_is_number") cdv A outer s H E) rfl rfl rfl rfl
  have hp := L2.passes_of (X := cxOf (L2.CX P w) P w K mg base N_law_is_number "_law_is_number" (defScope s_law_is_number) (He.ga K "_law_is_number") cdv A outer s H E) rfl
  exact (dss_one (ds_ret (de_and (de_isT rfl (it_int KX G c) (ca_int c) rfl (m_isinstance KX G c) (de_var (pv 0)) (pe_bltn (v := .ty "int") rfl (m_int KX G c) rfl rfl) (.ty _)) (de_one (de_notV (de_isT rfl (it_bool KX G c) (ca_bool c) rfl (m_isinstance KX G c) (de_var (pv 0)) (pe_bltn (v := .ty "bool") rfl (m_bool KX G c) rfl rfl) (.ty _)))))))
theorem ok_law_places (KX : K.In h) (G : h.Ns mainGlobals mg) (c : SaysV fa fn gs ex K) (TB : TabsB K mg (nqT.map (·.1)) base) : ∃ fd, FnG P w K mg base (L2.CX P w) 2 (He.ga K "_law_places") fd ["_law_bag_here", "_law_many_here"] (spF (tab K) (kdOf true) 2 F_law_places) ∧ PySem.W.keepIn K (.ref (He.ga K "_law_places")) = true ∧ Binds K fd ["_law_bag_here", "_law_many_here"] [] := by
  obtain ⟨fd, F⟩ := c.d.def_ 13 (d := d_law_places) rfl
  obtain ⟨fd_law_take, G_law_take, K_law_take, B_law_take⟩ := ok_law_take (P := P) (w := w) (base := base) KX G c TB
  refine ⟨fd, fn_ok F sc_law_places (by decide) rfl fun cdv A outer s H E hgd hr => ?_, F.kp, F.bindsN fun _ _ _ _ _ _ us hl => match us, hl with | [_, _], _ => rfl⟩
  have gd : (cxOf (L2.CX P w) P w K mg base N_law_places "_law_places" (defScope s_law_places) (He.ga K "_law_places") cdv A outer s H E).A.guards = some [] := deeper_guards.trans hgd
  have tk := L2.takes_of (X := cxOf (L2.CX P w) P w K mg base N_law_places "_law_places" (defScope s_law_places) (He.ga K "_law_places") cdv A outer s H E) rfl rfl rfl rfl
  have hp := L2.passes_of (X := cxOf (L2.CX P w) P w K mg base N_law_places "_law_places" (defScope s_law_places) (He.ga K "_law_places") cdv A outer s H E) rfl
  exact (dss_cons (ds_parK (o1 := true) (o2 := true) (i := 2) (j := 3) rfl sc_law_places.nd rfl rfl (by decide) rfl rfl (de_lc (own := [("_law_number", 5)]) rfl sc_law_places.nd (di_range1 rfl (m_range KX G c) de_int) (blkOk_by (by first | rfl | decide +kernel)) (fun _ _ _ _ _ => (dg_name (i := 5) sc_law_places.nd rfl (by first | exact Or.inl rfl | exact Or.inr rfl))) (fun _ _ _ _ _ => dts_nil) (fun _ _ _ _ _ => (de_var (pv 5)))) (de_lst da_nil pures_nil)) (dss_cons (ds_for hp rfl (di_range1 rfl (m_range KX G c) (de_var (pv 1))) (dg_name (i := 4) sc_law_places.nd rfl (by first | exact Or.inl rfl | exact Or.inr rfl)) (dss_one (ds_expr (de_mt (i := 3) rfl PySem.F.plainAttrs_list PySem.F.slot_list_append PySem.F.type_list_append mt_append md_append (pv 3) (da_cons (de_mt (i := 2) rfl PySem.F.plainAttrs_list PySem.F.slot_list_pop PySem.F.type_list_pop mt_popAt md_popAt (pv 2) (da_cons (de_call G_law_take (.inl rfl) gd (hr.mono (by decide)) rfl (m__law_take KX G c) K_law_take B_law_take .nil (fun _ => Reps.nil) tk (ga_o (pv 0) (ga_p (de_callB call_len cd_len rfl (m_len KX G c) boot_len (da_cons (de_ovar (pv 2)) da_nil (steady_args steady_nil))) ga_nil))) da_nil) (pures_cons pures_nil)) da_nil) (pures_cons pures_nil))))) (dss_one (ds_ret (de_callB cr_sortedI cd_sorted rfl (m_sorted KX G c) (by decide +kernel) (da_cons (de_ovar (pv 3)) da_nil (steady_args steady_nil)))))))
theorem ok_law_barest (KX : K.In h) (G : h.Ns mainGlobals mg) (c : SaysV fa fn gs ex K) (TB : TabsB K mg (nqT.map (·.1)) base) : ∃ fd, FnG P w K mg base (L2.CX P w) 1 (He.ga K "_law_barest") fd ["_law_masks"] (spF (tab K) (kdOf false) 1 F_law_barest) ∧ PySem.W.keepIn K (.ref (He.ga K "_law_barest")) = true ∧ Binds K fd ["_law_masks"] [] := by
  obtain ⟨fd, F⟩ := c.d.def_ 14 (d := d_law_barest) rfl
  refine ⟨fd, fn_ok F sc_law_barest (by decide) rfl fun cdv A outer s H E hgd hr => ?_, F.kp, F.bindsN fun _ _ _ _ _ _ us hl => match us, hl with | [_], _ => rfl⟩
  have gd : (cxOf (L2.CX P w) P w K mg base N_law_barest "_law_barest" (defScope s_law_barest) (He.ga K "_law_barest") cdv A outer s H E).A.guards = some [] := deeper_guards.trans hgd
  have tk := L2.takes_of (X := cxOf (L2.CX P w) P w K mg base N_law_barest "_law_barest" (defScope s_law_barest) (He.ga K "_law_barest") cdv A outer s H E) rfl rfl rfl rfl
  have hp := L2.passes_of (X := cxOf (L2.CX P w) P w K mg base N_law_barest "_law_barest" (defScope s_law_barest) (He.ga K "_law_barest") cdv A outer s H E) rfl
  exact (dss_cons (ds_setO (i := 1) (de_lst da_nil pures_nil) sc_law_barest.nd rfl (by first | exact Or.inl rfl | exact Or.inr rfl)) (dss_cons (ds_for hp rfl (di_list rfl (de_var (pv 0))) (dg_name (i := 2) sc_law_barest.nd rfl (by first | exact Or.inl rfl | exact Or.inr rfl)) (dss_one (ds_if (dt_w (dw_and (dt_cmp (op_notInA (hu65 hr)) cd_notInA (de_var (pv 2)) (de_ovar (pv 1))) (dw_and1 (dt_not (dt_tr rfl (de_callB (cr_any rfl) cd_any rfl (m_any KX G c) (by decide +kernel) (da_cons (de_lc (own := [("_law_other", 3)]) rfl sc_law_barest.nd (di_list rfl (de_var (pv 0))) (blkOk_by (by first | rfl | decide +kernel)) (fun _ _ _ _ _ => (dg_name (i := 3) sc_law_barest.nd rfl (by first | exact Or.inl rfl | exact Or.inr rfl))) (fun _ _ _ _ _ => dts_nil) (fun _ _ _ _ _ => (de_and (de_cmp op_ne cd_neS (de_var (pv 3)) (de_var (pv 2))) (de_one (de_cmp op_eq cd_eqS (de_op2 op_and od_and (de_var (pv 3)) (de_var (pv 2))) (de_var (pv 3))))))) da_nil)) (by intro _; rfl)))))) (dss_one (ds_expr (de_mt (i := 1) rfl PySem.F.plainAttrs_list PySem.F.slot_list_append PySem.F.type_list_append mt_append md_append (pv 1) (da_cons (de_var (pv 2)) da_nil) (pures_cons pures_nil)))) dss_nil))) (dss_one (ds_ret (de_ofrz (pv 1))))))
theorem ok_law_meeting (KX : K.In h) (G : h.Ns mainGlobals mg) (c : SaysV fa fn gs ex K) (TB : TabsB K mg (nqT.map (·.1)) base) : ∃ fd, FnG P w K mg base (L2.CX P w) 2 (He.ga K "_law_meeting") fd ["_law_masks", "_law_places_here"] (spF (tab K) (kdOf false) 2 F_law_meeting) ∧ PySem.W.keepIn K (.ref (He.ga K "_law_meeting")) = true ∧ Binds K fd ["_law_masks", "_law_places_here"] [] := by
  obtain ⟨fd, F⟩ := c.d.def_ 15 (d := d_law_meeting) rfl
  obtain ⟨fd_law_set, G_law_set, K_law_set, B_law_set⟩ := ok_law_set (P := P) (w := w) (base := base) KX G c TB
  refine ⟨fd, fn_ok F sc_law_meeting (by decide) rfl fun cdv A outer s H E hgd hr => ?_, F.kp, F.bindsN fun _ _ _ _ _ _ us hl => match us, hl with | [_, _], _ => rfl⟩
  have gd : (cxOf (L2.CX P w) P w K mg base N_law_meeting "_law_meeting" (defScope s_law_meeting) (He.ga K "_law_meeting") cdv A outer s H E).A.guards = some [] := deeper_guards.trans hgd
  have tk := L2.takes_of (X := cxOf (L2.CX P w) P w K mg base N_law_meeting "_law_meeting" (defScope s_law_meeting) (He.ga K "_law_meeting") cdv A outer s H E) rfl rfl rfl rfl
  have hp := L2.passes_of (X := cxOf (L2.CX P w) P w K mg base N_law_meeting "_law_meeting" (defScope s_law_meeting) (He.ga K "_law_meeting") cdv A outer s H E) rfl
  exact (dss_cons (ds_parK (o1 := false) (o2 := true) (i := 2) (j := 3) rfl sc_law_meeting.nd rfl rfl (by decide) rfl rfl (de_call G_law_set (.inl rfl) gd (hr.mono (by decide)) rfl (m__law_set KX G c) K_law_set B_law_set .nil (fun _ => Reps.nil) tk (ga_p (de_var (pv 1)) ga_nil)) (de_lst da_nil pures_nil)) (dss_cons (ds_for hp rfl (di_range1 rfl (m_range KX G c) (de_op2 op_shlW od_shl de_int (de_callB call_len cd_len rfl (m_len KX G c) boot_len (da_cons (de_var (pv 1)) da_nil)))) (dg_name (i := 4) sc_law_meeting.nd rfl (by first | exact Or.inl rfl | exact Or.inr rfl)) (dss_cons (ds_set (i := 5) (de_callB (cr_sumT rfl) cd_sumA rfl (m_sum KX G c) (by decide +kernel) (da_cons (de_lc (own := [("_law_at", 7), ("_law_number", 8)]) rfl sc_law_meeting.nd (di_enum rfl rfl (m_enumerate KX G c) (de_var (pv 1))) (blkOk_by (by first | rfl | decide +kernel)) (fun _ _ _ _ _ => (dg_tup rfl rfl (dgs_cons (dg_name (i := 7) sc_law_meeting.nd rfl (by first | exact Or.inl rfl | exact Or.inr rfl)) (dgs_cons (dg_name (i := 8) sc_law_meeting.nd rfl (by first | exact Or.inl rfl | exact Or.inr rfl)) dgs_nil)))) (fun _ _ _ _ _ => (dts_one (dt_cmp op_eq cd_eqS (de_op2 op_and od_and (de_op2 op_shr od_shr (de_var (pv 4)) (de_var (pv 7))) de_int) de_int))) (fun _ _ _ _ _ => (de_op2 op_shlW od_shl de_int (de_var (pv 8))))) da_nil)) sc_law_meeting.nd rfl (by first | exact Or.inl rfl | exact Or.inr rfl)) (dss_cons (ds_if (dt_not (dt_tr rfl (de_callB (cr_all rfl) cd_all rfl (m_all KX G c) (by decide +kernel) (da_cons (de_lc (own := [("_law_mask", 9)]) rfl sc_law_meeting.nd (di_list rfl (de_var (pv 0))) (blkOk_by (by first | rfl | decide +kernel)) (fun _ _ _ _ _ => (dg_name (i := 9) sc_law_meeting.nd rfl (by first | exact Or.inl rfl | exact Or.inr rfl))) (fun _ _ _ _ _ => dts_nil) (fun _ _ _ _ _ => (de_cmp op_ne cd_neS (de_op2 op_and od_and (de_var (pv 5)) (de_var (pv 9))) de_int))) da_nil)) (by intro _; rfl))) (dss_one ds_continue) dss_nil) (dss_cons (ds_setLc (i := 6) (own := [("_law_number", 8)]) rfl sc_law_meeting.nd rfl rfl (sw_true rfl rfl rfl (by decide +kernel)) (di_list rfl (de_var (pv 1))) (blkOk_by (by first | rfl | decide +kernel)) (fun _ _ _ _ _ => (dg_name (i := 8) sc_law_meeting.nd rfl (by first | exact Or.inl rfl | exact Or.inr rfl))) (fun _ _ _ _ _ => (dts_one (dt_cmp op_eq cd_eqS (de_op2 op_and od_and (de_op2 op_shr od_shr (de_var (pv 5)) (de_var (pv 8))) de_int) de_int))) (fun _ _ _ _ _ => (de_op2 op_and od_and (de_var (pv 5)) (de_un un_inv ud_inv (de_op2 op_shlW od_shl de_int (de_var (pv 8))))))) (dss_one (ds_if (dt_not (dt_tr rfl (de_callB (cr_any rfl) cd_any rfl (m_any KX G c) (by decide +kernel) (da_cons (de_lc (own := [("_law_part", 10)]) rfl sc_law_meeting.nd (di_list rfl (de_var (pv 6))) (blkOk_by (by first | rfl | decide +kernel)) (fun _ _ _ _ _ => (dg_name (i := 10) sc_law_meeting.nd rfl (by first | exact Or.inl rfl | exact Or.inr rfl))) (fun _ _ _ _ _ => dts_nil) (fun _ _ _ _ _ => (de_callB (cr_all rfl) cd_all rfl (m_all KX G c) (by decide +kernel) (da_cons (de_lc (own := [("_law_mask", 9)]) rfl sc_law_meeting.nd (di_list rfl (de_var (pv 0))) (blkOk_by (by first | rfl | decide +kernel)) (fun _ _ _ _ _ => (dg_name (i := 9) sc_law_meeting.nd rfl (by first | exact Or.inl rfl | exact Or.inr rfl))) (fun _ _ _ _ _ => dts_nil) (fun _ _ _ _ _ => (de_cmp op_ne cd_neS (de_op2 op_and od_and (de_var (pv 10)) (de_var (pv 9))) de_int))) da_nil)))) da_nil)) (by intro _; rfl))) (dss_one (ds_expr (de_mt (i := 3) rfl PySem.F.plainAttrs_list PySem.F.slot_list_append PySem.F.type_list_append mt_append md_append (pv 3) (da_cons (de_op2 op_and od_and (de_var (pv 5)) (de_var (pv 2))) da_nil) (pures_cons pures_nil)))) dss_nil)))))) (dss_one (ds_ret (de_ofrz (pv 3))))))
theorem ok_law_many (KX : K.In h) (G : h.Ns mainGlobals mg) (c : SaysV fa fn gs ex K) (TB : TabsB K mg (nqT.map (·.1)) base) : ∃ fd, FnG P w K mg base (L2.CX P w) 7 (He.ga K "_law_many") fd ["_law_bag_here"] (spF (tab K) (kdOf false) 1 F_law_many) ∧ PySem.W.keepIn K (.ref (He.ga K "_law_many")) = true ∧ Binds K fd ["_law_bag_here"] [] := by
  obtain ⟨fd, F⟩ := c.d.def_ 16 (d := d_law_many) rfl
  obtain ⟨fd_law_take, G_law_take, K_law_take, B_law_take⟩ := ok_law_take (P := P) (w := w) (base := base) KX G c TB
  obtain ⟨fd_least_meeting, G_least_meeting, K_least_meeting, B_least_meeting⟩ := ok_least_meeting (P := P) (w := w) (base := base) KX G c TB
  refine ⟨fd, fn_ok F sc_law_many (by decide) rfl fun cdv A outer s H E hgd hr => ?_, F.kp, F.bindsN fun _ _ _ _ _ _ us hl => match us, hl with | [_], _ => rfl⟩
  have gd : (cxOf (L2.CX P w) P w K mg base N_law_many "_law_many" (defScope s_law_many) (He.ga K "_law_many") cdv A outer s H E).A.guards = some [] := deeper_guards.trans hgd
  have tk := L2.takes_of (X := cxOf (L2.CX P w) P w K mg base N_law_many "_law_many" (defScope s_law_many) (He.ga K "_law_many") cdv A outer s H E) rfl rfl rfl rfl
  have hp := L2.passes_of (X := cxOf (L2.CX P w) P w K mg base N_law_many "_law_many" (defScope s_law_many) (He.ga K "_law_many") cdv A outer s H E) rfl
  exact (dss_cons (ds_set (i := 1) (de_call G_law_take (.inl rfl) gd (hr.mono (by decide)) rfl (m__law_take KX G c) K_law_take B_law_take .nil (fun _ => Reps.nil) tk (ga_o (pv 0) (ga_p de_int ga_nil))) sc_law_many.nd rfl (by first | exact Or.inl rfl | exact Or.inr rfl)) (dss_cons (ds_setLc (i := 2) (own := [("_law_number", 6)]) rfl sc_law_many.nd rfl rfl (sw_true rfl rfl rfl (by decide +kernel)) (di_range1 rfl (m_range KX G c) de_int) (blkOk_by (by first | rfl | decide +kernel)) (fun _ _ _ _ _ => (dg_name (i := 6) sc_law_many.nd rfl (by first | exact Or.inl rfl | exact Or.inr rfl))) (fun _ _ _ _ _ => (dts_one (dt_cmp op_ne cd_neS (de_var (pv 6)) (de_var (pv 1))))) (fun _ _ _ _ _ => (de_var (pv 6)))) (dss_cons (ds_parK (o1 := false) (o2 := true) (i := 3) (j := 4) rfl sc_law_many.nd rfl rfl (by decide) rfl rfl (de_op2 op_add od_add de_int (de_call G_law_take (.inl rfl) gd (hr.mono (by decide)) rfl (m__law_take KX G c) K_law_take B_law_take .nil (fun _ => Reps.nil) tk (ga_o (pv 0) (ga_p de_int ga_nil)))) (de_lst da_nil pures_nil)) (dss_cons (ds_for hp rfl (di_range1 rfl (m_range KX G c) de_int) (dg_name (i := 5) sc_law_many.nd rfl (by first | exact Or.inl rfl | exact Or.inr rfl)) (dss_one (ds_expr (de_mt (i := 4) rfl PySem.F.plainAttrs_list PySem.F.slot_list_append PySem.F.type_list_append mt_append md_append (pv 4) (da_cons (de_callTy call_tuple_of cd_tuple rfl (m_tuple KX G c) (by decide +kernel) (da_cons (de_callB cr_sortedI cd_sorted rfl (m_sorted KX G c) (by decide +kernel) (da_cons (de_lst (da_cons (de_var (pv 1)) (da_cons (de_ix rfl (de_var (pv 2)) (de_op2 op_modN od_mod (de_callTy call_int1 cd_int rfl (m_int KX G c) (by decide +kernel) (da_cons (de_op2 op_mulA od_mul (de_var (pv 5)) (de_var (pv 3))) da_nil)) de_int) (fun _ _ => rfl)) da_nil)) (pures_cons (pures_cons pures_nil))) da_nil)) da_nil)) da_nil) (pures_cons pures_nil))))) (dss_one (ds_ret (de_and (de_cmp (op_eqD hr.units) cd_eqD (de_call G_least_meeting (.inl rfl) gd (hr.mono (by decide)) rfl (m_least_meeting KX G c) K_least_meeting B_least_meeting .nil (fun _ => Reps.nil) tk (ga_p (de_ofrz (pv 4)) ga_nil)) (de_tup (da_cons (de_tup (da_cons (de_var (pv 1)) da_nil) (pures_cons pures_nil)) (da_cons (de_callTy call_tuple_of cd_tuple rfl (m_tuple KX G c) (by decide +kernel) (da_cons (de_var (pv 2)) da_nil)) da_nil)) (pures_cons (pures_cons pures_nil)))) (de_one (de_cmp op_eq cd_eqS (de_callB call_len cd_len rfl (m_len KX G c) boot_len (da_cons (de_var (pv 4)) da_nil)) de_int)))))))))
theorem ok_law (KX : K.In h) (G : h.Ns mainGlobals mg) (c : SaysV fa fn gs ex K) : ∃ fd, (∀ (s : Shared) (v : Value), PySem.BindsTo s fd ⟨[v], []⟩ [("_law_script", v)]) ∧ ∀ base : Heap, TabsB K mg (nqT.map (·.1)) base → FnG P w K mg base (L2.CX P w) 8 (He.ga K "law") fd ["_law_script"] (spF (tab K) .pure 1 F_law) := by
  obtain ⟨fd, F⟩ := c.d.def_ 17 (d := d_law) rfl
  have b := FunD.bindsA (ps := ["_law_script"]) F fun _ _ _ _ _ _ us hl => match us, hl with | [_], _ => rfl
  refine ⟨fd, fun s v => b s [v] rfl, fun base TB => ?_⟩
  obtain ⟨fd_law_bag, G_law_bag, K_law_bag, B_law_bag⟩ := ok_law_bag (P := P) (w := w) (base := base) KX G c TB
  obtain ⟨fd_law_barest, G_law_barest, K_law_barest, B_law_barest⟩ := ok_law_barest (P := P) (w := w) (base := base) KX G c TB
  obtain ⟨fd_law_is_number, G_law_is_number, K_law_is_number, B_law_is_number⟩ := ok_law_is_number (P := P) (w := w) (base := base) KX G c TB
  obtain ⟨fd_law_many, G_law_many, K_law_many, B_law_many⟩ := ok_law_many (P := P) (w := w) (base := base) KX G c TB
  obtain ⟨fd_law_meeting, G_law_meeting, K_law_meeting, B_law_meeting⟩ := ok_law_meeting (P := P) (w := w) (base := base) KX G c TB
  obtain ⟨fd_law_of, G_law_of, K_law_of, B_law_of⟩ := ok_law_of (P := P) (w := w) (base := base) KX G c TB
  obtain ⟨fd_law_places, G_law_places, K_law_places, B_law_places⟩ := ok_law_places (P := P) (w := w) (base := base) KX G c TB
  obtain ⟨fd_law_set, G_law_set, K_law_set, B_law_set⟩ := ok_law_set (P := P) (w := w) (base := base) KX G c TB
  obtain ⟨fd_law_sorted, G_law_sorted, K_law_sorted, B_law_sorted⟩ := ok_law_sorted (P := P) (w := w) (base := base) KX G c TB
  obtain ⟨fd_law_take, G_law_take, K_law_take, B_law_take⟩ := ok_law_take (P := P) (w := w) (base := base) KX G c TB
  obtain ⟨fd_least_meeting, G_least_meeting, K_least_meeting, B_least_meeting⟩ := ok_least_meeting (P := P) (w := w) (base := base) KX G c TB
  refine fn_ok (T := tab K) (fr := false) (N := N_law) (pins := []) (m := B_law') F sc_law (by decide) rfl fun cdv A outer s H E hgd hr => ?_
  have gd : (cxOf (L2.CX P w) P w K mg base N_law "law" (defScope s_law) (He.ga K "law") cdv A outer s H E).A.guards = some [] := deeper_guards.trans hgd
  have tk := L2.takes_of (X := cxOf (L2.CX P w) P w K mg base N_law "law" (defScope s_law) (He.ga K "law") cdv A outer s H E) rfl rfl rfl rfl
  have hp := L2.passes_of (X := cxOf (L2.CX P w) P w K mg base N_law "law" (defScope s_law) (He.ga K "law") cdv A outer s H E) rfl
  exact (dss_cons (ds_setO (i := 1) (de_call G_law_bag (.inr rfl) gd (hr.mono (by decide)) rfl (m__law_bag KX G c) K_law_bag B_law_bag .nil (fun _ => Reps.nil) tk (ga_p (de_var (pv 0)) (ga_p de_int ga_nil))) sc_law.nd rfl (by first | exact Or.inl rfl | exact Or.inr rfl)) (dss_cons (ds_set (i := 2) (de_cmp op_eq cd_eqS (de_call G_law_take (.inl rfl) gd (hr.mono (by decide)) rfl (m__law_take KX G c) K_law_take B_law_take .nil (fun _ => Reps.nil) tk (ga_o (pv 1) (ga_p de_int ga_nil))) de_int) sc_law.nd rfl (by first | exact Or.inl rfl | exact Or.inr rfl)) (dss_cons (ds_set (i := 3) (de_frz (de_call G_law_places (.inr rfl) gd (hr.mono (by decide)) rfl (m__law_places KX G c) K_law_places B_law_places .nil (fun _ => Reps.nil) tk (ga_o (pv 1) (ga_p (de_ifExp (dt_tr rfl (de_var (pv 2)) (by intro _; rfl)) de_int (de_op2 op_add od_add de_int (de_call G_law_take (.inl rfl) gd (hr.mono (by decide)) rfl (m__law_take KX G c) K_law_take B_law_take .nil (fun _ => Reps.nil) tk (ga_o (pv 1) (ga_p de_int ga_nil))))) ga_nil)))) sc_law.nd rfl (by first | exact Or.inl rfl | exact Or.inr rfl)) (dss_cons (ds_parC (o1 := true) (o2 := true) (i := 4) (j := 1) rfl rfl sc_law.nd rfl rfl (by first | exact Or.inl rfl | exact Or.inr rfl) (by first | exact Or.inl rfl | exact Or.inr rfl) (by first | exact .inl rfl | exact .inr rfl) (by first | exact .inl rfl | exact .inr rfl) (de_lst da_nil pures_nil) (de_call G_law_bag (.inr rfl) gd (hr.mono (by decide)) rfl (m__law_bag KX G c) K_law_bag B_law_bag .nil (fun _ => Reps.nil) tk (ga_p (de_var (pv 0)) (ga_p de_int ga_nil)))) (dss_cons (ds_for hp rfl (di_range1 rfl (m_range KX G c) (de_call G_law_take (.inl rfl) gd (hr.mono (by decide)) rfl (m__law_take KX G c) K_law_take B_law_take .nil (fun _ => Reps.nil) tk (ga_o (pv 1) (ga_p (de_ifExp (dt_tr rfl (de_var (pv 2)) (by intro _; rfl)) de_int de_int) ga_nil)))) (dg_name (i := 5) sc_law.nd rfl (by first | exact Or.inl rfl | exact Or.inr rfl)) (dss_cons (ds_set (i := 6) (de_op2 op_and od_and (de_call G_law_take (.inl rfl) gd (hr.mono (by decide)) rfl (m__law_take KX G c) K_law_take B_law_take .nil (fun _ => Reps.nil) tk (ga_o (pv 1) (ga_p (de_op2 op_shlW od_shl de_int (de_callB call_len cd_len rfl (m_len KX G c) boot_len (da_cons (de_var (pv 3)) da_nil))) ga_nil))) (de_call G_law_of (.inl rfl) gd (hr.mono (by decide)) rfl (m__law_of KX G c) K_law_of B_law_of .nil (fun _ => Reps.nil) tk (ga_o (pv 1) (ga_p (de_frz (de_lst (da_cons de_int (da_cons de_int (da_cons (de_call G_law_take (.inl rfl) gd (hr.mono (by decide)) rfl (m__law_take KX G c) K_law_take B_law_take .nil (fun _ => Reps.nil) tk (ga_o (pv 1) (ga_p (de_op2 op_shlW od_shl de_int (de_callB call_len cd_len rfl (m_len KX G c) boot_len (da_cons (de_var (pv 3)) da_nil))) ga_nil))) da_nil))) (pures_cons (pures_cons (pures_cons pures_nil))))) ga_nil)))) sc_law.nd rfl (by first | exact Or.inl rfl | exact Or.inr rfl)) (dss_cons (ds_if (dt_w (dw_and (dt_cmp op_eq cd_eqS (de_var (pv 6)) de_int) (dw_and1 (dt_cmp op_gt cd_c2 (de_call G_law_take (.inl rfl) gd (hr.mono (by decide)) rfl (m__law_take KX G c) K_law_take B_law_take .nil (fun _ => Reps.nil) tk (ga_o (pv 1) (ga_p de_int ga_nil))) de_int)))) (dss_one (ds_set (i := 6) (de_op2 op_shlW od_shl de_int (de_call G_law_take (.inl rfl) gd (hr.mono (by decide)) rfl (m__law_take KX G c) K_law_take B_law_take .nil (fun _ => Reps.nil) tk (ga_o (pv 1) (ga_p (de_callB call_len cd_len rfl (m_len KX G c) boot_len (da_cons (de_var (pv 3)) da_nil)) ga_nil)))) sc_law.nd rfl (by first | exact Or.inl rfl | exact Or.inr rfl))) dss_nil) (dss_one (ds_if (dt_w (dw_and (dt_cmp (op_neNil hr.units0) cd_neNil (de_ovar (pv 4)) (de_lst da_nil pures_nil) (hs := steady_lst0)) (dw_and1 (dt_cmp op_eq cd_eqS (de_call G_law_take (.inl rfl) gd (hr.mono (by decide)) rfl (m__law_take KX G c) K_law_take B_law_take .nil (fun _ => Reps.nil) tk (ga_o (pv 1) (ga_p de_int ga_nil))) de_int)))) (dss_one (ds_expr (de_mt (i := 4) rfl PySem.F.plainAttrs_list PySem.F.slot_list_append PySem.F.type_list_append mt_append md_append (pv 4) (da_cons (de_lendP (i := 4) (j := 1) (de_call G_law_of (.inl rfl) gd (hr.mono (by decide)) rfl (m__law_of KX G c) K_law_of B_law_of .nil (fun _ => Reps.nil) tk (ga_o (pv 1) (ga_p (de_var (pv 4)) ga_nil))) stillO_fn1) da_nil) (pures_cons pures_nil)))) (dss_one (ds_expr (de_mt (i := 4) rfl PySem.F.plainAttrs_list PySem.F.slot_list_append PySem.F.type_list_append mt_append md_append (pv 4) (da_cons (de_callTy call_tuple_of cd_tuple rfl (m_tuple KX G c) (by decide +kernel) (da_cons (de_lc (own := [("_law_at", 13), ("_law_number", 14)]) rfl sc_law.nd (di_enum rfl rfl (m_enumerate KX G c) (de_var (pv 3))) (blkOk_by (by first | rfl | decide +kernel)) (fun _ _ _ _ _ => (dg_tup rfl rfl (dgs_cons (dg_name (i := 13) sc_law.nd rfl (by first | exact Or.inl rfl | exact Or.inr rfl)) (dgs_cons (dg_name (i := 14) sc_law.nd rfl (by first | exact Or.inl rfl | exact Or.inr rfl)) dgs_nil)))) (fun _ _ _ _ _ => (dts_one (dt_cmp op_eq cd_eqS (de_op2 op_and od_and (de_op2 op_shr od_shr (de_var (pv 6)) (de_var (pv 13))) de_int) de_int))) (fun _ _ _ _ _ => (de_var (pv 14)))) da_nil)) da_nil) (pures_cons pures_nil))))))))) (dss_cons (ds_setLc (i := 7) (own := [("_law_lot_here", 12)]) rfl sc_law.nd rfl rfl (sw_true rfl rfl rfl (by decide +kernel)) (di_list rfl (de_ofrz (pv 4))) (blkOk_by (by first | rfl | decide +kernel)) (fun _ _ _ _ _ => (dg_name (i := 12) sc_law.nd rfl (by first | exact Or.inl rfl | exact Or.inr rfl))) (fun _ _ _ _ _ => dts_nil) (fun _ _ _ _ _ => (de_ifExp (dt_cmp op_eq cd_eqS (de_call G_law_take (.inl rfl) gd (hr.mono (by decide)) rfl (m__law_take KX G c) K_law_take B_law_take .nil (fun _ => Reps.nil) tk0 (ga_o (pv 1) (ga_p de_int ga_nil))) de_int) (de_frz (de_callTy call_list_of cd_list rfl (m_list KX G c) (by decide +kernel) (da_cons (de_var (pv 12)) da_nil))) (de_var (pv 12))))) (dss_cons (ds_setLc (i := 8) (own := [("_law_lot_here", 12)]) rfl sc_law.nd rfl rfl (sw_true rfl rfl rfl (by decide +kernel)) (di_list rfl (de_var (pv 7))) (blkOk_by (by first | rfl | decide +kernel)) (fun _ _ _ _ _ => (dg_name (i := 12) sc_law.nd rfl (by first | exact Or.inl rfl | exact Or.inr rfl))) (fun _ _ _ _ _ => dts_nil) (fun _ _ _ _ _ => (de_frz (de_callTy call_list_of cd_list rfl (m_list KX G c) (by decide +kernel) (da_cons (de_var (pv 12)) da_nil))))) (dss_cons (ds_set (i := 9) (de_ifExp (dt_cmp op_eq cd_eqS (de_call G_law_take (.inl rfl) gd (hr.mono (by decide)) rfl (m__law_take KX G c) K_law_take B_law_take .nil (fun _ => Reps.nil) tk (ga_o (pv 1) (ga_p de_int ga_nil))) de_int) (de_var (pv 7)) (de_callTy call_tuple_of cd_tuple rfl (m_tuple KX G c) (by decide +kernel) (da_cons (de_var (pv 7)) da_nil))) sc_law.nd rfl (by first | exact Or.inl rfl | exact Or.inr rfl)) (dss_cons (ds_set (i := 10) (de_call G_least_meeting (.inl rfl) gd (hr.mono (by decide)) rfl (m_least_meeting KX G c) K_least_meeting B_least_meeting .nil (fun _ => Reps.nil) tk (ga_p (de_var (pv 9)) ga_nil)) sc_law.nd rfl (by first | exact Or.inl rfl | exact Or.inr rfl)) (dss_cons (ds_setLc (i := 11) (own := [("_law_lot_here", 12)]) rfl sc_law.nd rfl rfl (sw_true rfl rfl rfl (by decide +kernel)) (di_list rfl (de_var (pv 4))) (blkOk_by (by first | rfl | decide +kernel)) (fun _ _ _ _ _ => (dg_name (i := 12) sc_law.nd rfl (by first | exact Or.inl rfl | exact Or.inr rfl))) (fun _ _ _ _ _ => dts_nil) (fun _ _ _ _ _ => (de_call G_law_set (.inl rfl) gd (hr.mono (by decide)) rfl (m__law_set KX G c) K_law_set B_law_set .nil (fun _ => Reps.nil) tk0 (ga_p (de_var (pv 12)) ga_nil)))) (dss_cons (ds_if (dt_w (dw_or (dt_not (dt_tr rfl (de_isT rfl (it_tuple KX G c) (ca_tuple c) rfl (m_isinstance KX G c) (de_var (pv 10)) (pe_bltn (v := .ty "tuple") rfl (m_tuple KX G c) rfl rfl) (.ty _)) (by intro _; rfl))) (dw_or1 (dt_not (dt_tr rfl (de_callB (cr_all rfl) cd_all rfl (m_all KX G c) (by decide +kernel) (da_cons (de_lc (own := [("_law_lot_here", 12)]) rfl sc_law.nd (di_tup rfl (de_var (pv 10))) (blkOk_by (by first | rfl | decide +kernel)) (fun _ _ _ _ _ => (dg_name (i := 12) sc_law.nd rfl (by first | exact Or.inl rfl | exact Or.inr rfl))) (fun _ _ _ _ _ => dts_nil) (fun _ _ _ _ _ => (de_isT rfl (it_tuple KX G c) (ca_tuple c) rfl (m_isinstance KX G c) (de_var (pv 12)) (pe_bltn (v := .ty "tuple") rfl (m_tuple KX G c) rfl rfl) (.ty _)))) da_nil)) (by intro _; rfl)))))) (dss_one (ds_ret de_bl)) dss_nil) (dss_cons (ds_for hp rfl (di_tup rfl (de_var (pv 10))) (dg_name (i := 12) sc_law.nd rfl (by first | exact Or.inl rfl | exact Or.inr rfl)) (dss_one (ds_if (dt_not (dt_tr rfl (de_callB (cr_all rfl) cd_all rfl (m_all KX G c) (by decide +kernel) (da_cons (de_lc (own := [("_law_number", 14)]) rfl sc_law.nd (di_tup rfl (de_var (pv 12))) (blkOk_by (by first | rfl | decide +kernel)) (fun _ _ _ _ _ => (dg_name (i := 14) sc_law.nd rfl (by first | exact Or.inl rfl | exact Or.inr rfl))) (fun _ _ _ _ _ => dts_nil) (fun _ _ _ _ _ => (de_call G_law_is_number (.inl rfl) gd (hr.mono (by decide)) rfl (m__law_is_number KX G c) K_law_is_number B_law_is_number .nil (fun _ => Reps.nil) tk0 (ga_p (de_var (pv 14)) ga_nil)))) da_nil)) (by intro _; rfl))) (dss_one (ds_ret de_bl)) dss_nil))) (dss_cons (ds_if (dt_cmp (op_neD hr.units) cd_neD (de_callTy call_list_of cd_list rfl (m_list KX G c) (by decide +kernel) (da_cons (de_var (pv 10)) da_nil)) (de_call G_law_sorted (.inr rfl) gd (hr.mono (by decide)) rfl (m__law_sorted KX G c) K_law_sorted B_law_sorted .nil (fun _ => Reps.nil) tk (ga_p (de_call G_law_meeting (.inl rfl) gd (hr.mono (by decide)) rfl (m__law_meeting KX G c) K_law_meeting B_law_meeting .nil (fun _ => Reps.nil) tk (ga_p (de_var (pv 11)) (ga_p (de_var (pv 3)) ga_nil))) ga_nil))) (dss_one (ds_ret de_bl)) dss_nil) (dss_cons (ds_if (dt_w (dw_or (dt_cmp (op_neD hr.units) cd_neD (de_lc (own := [("_law_lot_here", 12)]) rfl sc_law.nd (di_list rfl (de_var (pv 7))) (blkOk_by (by first | rfl | decide +kernel)) (fun _ _ _ _ _ => (dg_name (i := 12) sc_law.nd rfl (by first | exact Or.inl rfl | exact Or.inr rfl))) (fun _ _ _ _ _ => dts_nil) (fun _ _ _ _ _ => (de_frz (de_callTy call_list_of cd_list rfl (m_list KX G c) (by decide +kernel) (da_cons (de_var (pv 12)) da_nil))))) (de_var (pv 8))) (dw_or1 (dt_cmp op_ne cd_neS (de_callB call_len cd_len rfl (m_len KX G c) boot_len (da_cons (de_var (pv 9)) da_nil)) (de_callB call_len cd_len rfl (m_len KX G c) boot_len (da_cons (de_var (pv 4)) da_nil)))))) (dss_one (ds_ret de_bl)) dss_nil) (dss_cons (ds_if (dt_cmp (op_neD hr.units) cd_neD (de_callTy call_list_of cd_list rfl (m_list KX G c) (by decide +kernel) (da_cons (de_call G_least_meeting (.inl rfl) gd (hr.mono (by decide)) rfl (m_least_meeting KX G c) K_least_meeting B_least_meeting .nil (fun _ => Reps.nil) tk (ga_p (de_var (pv 10)) ga_nil)) da_nil)) (de_call G_law_sorted (.inr rfl) gd (hr.mono (by decide)) rfl (m__law_sorted KX G c) K_law_sorted B_law_sorted .nil (fun _ => Reps.nil) tk (ga_p (de_call G_law_barest (.inl rfl) gd (hr.mono (by decide)) rfl (m__law_barest KX G c) K_law_barest B_law_barest .nil (fun _ => Reps.nil) tk (ga_p (de_var (pv 11)) ga_nil)) ga_nil))) (dss_one (ds_ret de_bl)) dss_nil) (dss_one (ds_ret (de_or (de_cmp op_gt cd_c2 (de_call G_law_take (.inl rfl) gd (hr.mono (by decide)) rfl (m__law_take KX G c) K_law_take B_law_take .nil (fun _ => Reps.nil) tk (ga_o (pv 1) (ga_p de_int ga_nil))) de_int) (de_one (de_call G_law_many (.inl rfl) gd (hr.mono (by decide)) rfl (m__law_many KX G c) K_law_many B_law_many .nil (fun _ => Reps.nil) tk (ga_o (pv 1) ga_nil)))))))))))))))))))))
end
end Lw
end
set_option linter.all false
set_option Elab.async false
set_option maxRecDepth 100000
set_option maxHeartbeats 4000000
set_option exponentiation.threshold 5000
namespace Lw
open PySem Ue
theorem z_leB {n : Nat} (h : n ≤ 10000) : n ≤ sizeLine := Nat.le_trans h (by rw [show sizeLine = _ from sizeLine_eq]; decide)
def bg (b : Int × Int × Int) : List D := [.int b.1, .int b.2.1, .int b.2.2]
theorem take_int {b : Int × Int × Int} {n : Int} (h0 : 0 < n) (hn : Mid n) : ∃ (d : Int) (b' : Int × Int × Int), F_law_take [.own (bg b), .v (.int n)] = .ok (.int d) [.own (bg b'), .v (.int n)] ∧ 0 ≤ d ∧ d < n := by
  obtain ⟨c, m, k⟩ := b
  have e1 : n ≠ 0 := by omega
  have e2 := divOk_mid (i := c) e1 hn
  unfold bg
  by_cases hc : 0 < c
  · refine ⟨c.fmod n, (c.fdiv n, m, k), ?_, Int.fmod_nonneg_of_pos _ h0, Int.fmod_lt_of_pos _ h0⟩
    simp [u_law_take, L2.atI, L2.ixN, hc, e1, e2]
  · refine ⟨((((m * 48271 + 11 * (k + 1) + 7).fmod 2147483647 * 16807).fmod 2147483629).fdiv 64).fmod n, (c, (m * 48271 + 11 * (k + 1) + 7).fmod 2147483647, k + 1), ?_, Int.fmod_nonneg_of_pos _ h0, Int.fmod_lt_of_pos _ h0⟩
    simp [u_law_take, L2.atI, L2.ixN, hc, e1, e2, mulOk_r, mulOk_l, divOk, small64]
theorem take_ok (b : Int × Int × Int) {n : Nat} (h0 : 0 < n) (hn : n ≤ 1000000) : ∃ (d : Nat) (b' : Int × Int × Int), F_law_take [.own (bg b), .v (.int (n : Int))] = .ok (.int (d : Int)) [.own (bg b'), .v (.int (n : Int))] ∧ d < n := by
  obtain ⟨d, b', e, h1, h2⟩ := take_int (b := b) (n := (n : Int)) (by omega) (by unfold Mid; exact Nat.lt_of_lt_of_le (by omega : (n : Int).natAbs < 2 ^ 20) (Nat.pow_le_pow_right (by decide) (by decide)))
  obtain ⟨j, rfl⟩ := Int.eq_ofNat_of_zero_le h1
  exact ⟨j, b', e, by omega⟩
theorem of_ok (b : Int × Int × Int) {ds : List D} (h0 : ds ≠ []) (hn : ds.length < 1000) : ∃ (d : D) (b' : Int × Int × Int), F_law_of [.own (bg b), .v (.lst ds)] = .ok d [.own (bg b'), .v (.lst ds)] ∧ d ∈ ds := by
  have hl : 0 < ds.length := List.length_pos_iff.mpr h0
  obtain ⟨j, b', e, hj⟩ := take_ok b (n := ds.length) hl (by omega)
  refine ⟨ds[j], b', ?_, List.getElem_mem hj⟩
  have e3 : L2.atI ds (j : Int) = some ds[j] := atI_nat (List.getElem?_eq_getElem hj)
  simp [u_law_of, e, e3]
theorem bag_ok {ns : List Int} {i : Nat} (hl : ns.length ≤ 63) : ∃ b : Int × Int × Int, F_law_bag [.v (.scr ns), .v (.int (i : Int))] = .ok (.lst (bg b)) [.v (.scr ns), .v (.int (i : Int))] := by
  have z : (3 : Nat) ≤ sizeLine := by rw [show sizeLine = _ from sizeLine_eq]; decide
  have key : ∀ (c0 m0 : Int) (x4 x5 : Option EV), ∃ m e4 e5, forM (tgT [tgN 4, tgN 5]) L_law_bag_0 (enumL (cutD (ns.map D.int) none (some 63))) [some (.v (.scr ns)), some (.v (.int (i : Int))), some (.v (.int c0)), some (.v (.int m0)), x4, x5] = .nx [some (.v (.scr ns)), some (.v (.int (i : Int))), some (.v (.int c0)), some (.v (.int m)), e4, e5] := by
    intro c0 m0 x4 x5
    have step : ∀ d ∈ enumL (cutD (ns.map D.int) none (some 63)), ∀ e, (∃ (m : Int) (y4 y5 : Option EV), e = [some (.v (.scr ns)), some (.v (.int (i : Int))), some (.v (.int c0)), some (.v (.int m)), y4, y5]) → ∃ e1 e2, (tgT [tgN 4, tgN 5]) d e = some e1 ∧ (L_law_bag_0 e1 = .nx e2 ∨ L_law_bag_0 e1 = .cnt e2) ∧ (∃ (m : Int) (y4 y5 : Option EV), e2 = [some (.v (.scr ns)), some (.v (.int (i : Int))), some (.v (.int c0)), some (.v (.int m)), y4, y5]) := by
      rintro d hd e ⟨m, y4, y5, rfl⟩
      unfold enumL at hd
      obtain ⟨j, hj, rfl⟩ := List.mem_map.mp hd
      have hm : ∀ x ∈ cutD (ns.map D.int) none (some 63), ∃ n : Int, x = .int n := fun x hx => by
        unfold cutD at hx
        obtain ⟨n, _, rfl⟩ := List.mem_map.mp (List.mem_of_mem_drop (List.mem_of_mem_take hx))
        exact ⟨n, rfl⟩
      have hj : j < (cutD (ns.map D.int) none (some 63)).length := by simpa using hj
      obtain ⟨n, hn⟩ := hm _ (List.getElem_mem hj)
      have e : (cutD (ns.map D.int) none (some 63)).getD j .non = .int n := by rw [List.getD_eq_getElem?_getD, List.getElem?_eq_getElem hj, hn]; rfl
      rw [e]
      have w1 : mulOk m 40014 = true := mulOk_r (by decide)
      have w2 : mulOk 103 (j : Int) = true := mulOk_l (by decide)
      exact ⟨[some (.v (.scr ns)), some (.v (.int (i : Int))), some (.v (.int c0)), some (.v (.int m)), some (.v (.int j)), some (.v (.int n))], [some (.v (.scr ns)), some (.v (.int (i : Int))), some (.v (.int c0)), some (.v (.int ((m * 40014 + n.fmod 2147483543 + 103 * j).fmod 2147483563))), some (.v (.int j)), some (.v (.int n))], rfl, .inl (by simp [L_law_bag_0, w1, w2]), _, _, _, rfl⟩
    obtain ⟨e2, h1, m, y4, y5, rfl⟩ := forM_inv (g := tgT [tgN 4, tgN 5]) (s := L_law_bag_0) (fun e => ∃ (m : Int) (y4 y5 : Option EV), e = [some (.v (.scr ns)), some (.v (.int (i : Int))), some (.v (.int c0)), some (.v (.int m)), y4, y5]) (enumL (cutD (ns.map D.int) none (some 63))) _ step ⟨m0, x4, x5, rfl⟩
    exact ⟨m, y4, y5, h1⟩
  have w1 : mulOk 7919 (i : Int) = true := mulOk_l (by decide)
  have w2 : powOk 10 18 = true := by decide
  unfold bg
  by_cases h : i < ns.length
  · have e3 : L2.atI ns (i : Int) = some ns[i] := atI_nat (List.getElem?_eq_getElem h)
    have h' : ((i : Int) < (ns.length : Int)) = True := eq_true (by omega)
    obtain ⟨m, e4, e5, e⟩ := key (if ns[i] < 0 then -ns[i] else ns[i]) (90001 + 7919 * (i : Int)) none none
    by_cases g : (1000000000000000000 : Int) ≤ (if ns[i] < 0 then -ns[i] else ns[i])
    · refine ⟨((if ns[i] < 0 then -ns[i] else ns[i]), m, 0), ?_⟩
      simp [u_law_bag, e3, h', w1, w2, e, z, g]
    · refine ⟨(0, m, 0), ?_⟩
      simp [u_law_bag, e3, h', w1, w2, e, z, g]
  · have h' : ((i : Int) < (ns.length : Int)) = False := eq_false (by omega)
    obtain ⟨m, e4, e5, e⟩ := key 0 (90001 + 7919 * (i : Int)) none none
    refine ⟨(0, m, 0), ?_⟩
    simp [u_law_bag, h', w1, w2, e, z]
end Lw
set_option linter.all false
set_option Elab.async false
set_option maxRecDepth 100000
set_option maxHeartbeats 4000000
set_option exponentiation.threshold 5000
namespace Lw
open PySem Ue
theorem z_le {n : Nat} (h : n ≤ 1000) : n ≤ sizeLine := z_leB (by omega)
def nd (l : List Nat) : List D := l.map fun i : Nat => D.int (i : Int)
@[simp] theorem nd_len (l : List Nat) : (nd l).length = l.length := by simp [nd]
theorem nd_eq (l : List Nat) : nd l = (l.map fun i : Nat => (i : Int)).map D.int := by simp [nd]
def bitsN (m : Nat) : List Nat := (List.range 16).filter m.testBit
theorem day_cond {m day : Nat} {x : Option EV} : (trM (op2M shrI (varM 0) (varM 2))) [some (.v (.int (m : Int))), x, some (.v (.int (day : Int)))] = .ok (decide (m / 2 ^ day ≠ 0)) [some (.v (.int (m : Int))), x, some (.v (.int (day : Int)))] := by
  have e : (m : Int) / 2 ^ day = ((m / 2 ^ day : Nat) : Int) := by simp
  have q : ((m : Int) / 2 ^ day != 0) = decide (m / 2 ^ day ≠ 0) := by
    rw [e]
    by_cases h : m / 2 ^ day = 0
    · rw [h]; rfl
    · have h' : ((m / 2 ^ day : Nat) : Int) ≠ 0 := by omega
      rw [decide_eq_true h, bne_iff_ne]; exact h'
  simp only [trM_s, op2M_s, varM_s, List.getElem?_cons_zero, List.getElem?_cons_succ, bind_ok, i2c_s, Int.toNat_natCast, show decide (0 ≤ (day : Int)) = true from decide_eq_true (by omega), if_true, liftO_s, truth_i, liftB_s, q]
theorem day_body {m day : Nat} {ds : List D} (hl : ds.length < sizeLine) : L_days_in_0 [some (.v (.int (m : Int))), some (.own ds), some (.v (.int (day : Int)))] = .nx [some (.v (.int (m : Int))), some (.own (if m.testBit day then ds ++ [.int (day : Int)] else ds)), some (.v (.int ((day + 1 : Nat) : Int)))] := by
  have hbit : m.testBit day = decide (m / 2 ^ day % 2 = 1) := Nat.testBit_eq_decide_div_mod_eq ..
  have e : ((m / 2 ^ day : Nat) : Int) = (m : Int) / 2 ^ day := by simp
  have hand : Builtin.bitAnd ((m : Int) / 2 ^ day) 1 = ((m / 2 ^ day % 2 : Nat) : Int) := by
    rw [← e]
    have := bitAnd_nat (m / 2 ^ day) 1
    rw [Nat.and_one_is_mod] at this
    exact this
  rcases Nat.mod_two_eq_zero_or_one (m / 2 ^ day) with h | h
  · have hb : m.testBit day = false := by rw [hbit, h]; rfl
    rw [h] at hand
    simp [L_days_in_0, hand, hb]
  · have hb : m.testBit day = true := by rw [hbit, h]; rfl
    rw [h] at hand
    simp [L_days_in_0, hand, hb, appG, hl]
theorem days_loop (m : Nat) (hm : m < 2 ^ 16) : ∀ (n day : Nat) (found : List Nat), 16 - day ≤ n → day ≤ 16 → found.length ≤ day →
    ∃ day' : Nat, whileM (trM (op2M shrI (varM 0) (varM 2))) L_days_in_0 (n + 1) [some (.v (.int (m : Int))), some (.own (nd found)), some (.v (.int (day : Int)))] = .nx [some (.v (.int (m : Int))), some (.own (nd (found ++ ((List.range 16).drop day).filter m.testBit))), some (.v (.int (day' : Int)))] := by
  intro n
  induction n with
  | zero =>
    intro day found h1 h2 h3
    have : day = 16 := by omega
    subst this
    refine ⟨16, ?_⟩
    have h0 : m / 2 ^ 16 = 0 := Nat.div_eq_of_lt hm
    have hd : (List.range 16).drop 16 = [] := rfl
    rw [whileM_s, day_cond, toS_ok, decide_eq_false (by omega), hd, List.filter_nil, List.append_nil]
    rfl
  | succ n ih =>
    intro day found h1 h2 h3
    rw [whileM_s, day_cond, toS_ok]
    by_cases h0 : m / 2 ^ day = 0
    · refine ⟨day, ?_⟩
      have hz : ((List.range 16).drop day).filter m.testBit = [] := by
        rw [List.filter_eq_nil_iff]
        intro i hi
        have hi' : day ≤ i := by
          rw [List.mem_drop_iff_getElem] at hi
          obtain ⟨j, hj, e⟩ := hi
          simp at e
          omega
        have hlt : m < 2 ^ i := Nat.lt_of_lt_of_le ((Nat.div_eq_zero_iff_lt (Nat.two_pow_pos day)).mp h0) (Nat.pow_le_pow_right (by decide) hi')
        simp [Nat.testBit_lt_two_pow hlt]
      rw [decide_eq_false (by omega), hz, List.append_nil]
      rfl
    · have hd : day < 16 := by
        rcases Nat.lt_or_ge day 16 with q | q
        · exact q
        · exfalso; exact h0 (Nat.div_eq_of_lt (Nat.lt_of_lt_of_le hm (Nat.pow_le_pow_right (by decide) q)))
      have hdr : (List.range 16).drop day = day :: (List.range 16).drop (day + 1) := by
        rw [List.drop_eq_getElem_cons (by simpa using hd)]; simp
      have hl : (nd found).length < sizeLine := by
        have : (nd found).length = found.length := by simp [nd]
        have z := z_le (n := 1000) (by omega)
        omega
      rw [decide_eq_true h0, if_pos rfl, day_body hl, loopS_nx, hdr]
      cases hb : m.testBit day with
      | true =>
        obtain ⟨day', e⟩ := ih (day + 1) (found ++ [day]) (by omega) (by omega) (by simp; omega)
        refine ⟨day', ?_⟩
        rw [List.filter_cons_of_pos (by simpa using hb), if_pos rfl]
        have e1 : nd found ++ [D.int (day : Int)] = nd (found ++ [day]) := by simp [nd]
        rw [e1, e, List.append_assoc]; rfl
      | false =>
        obtain ⟨day', e⟩ := ih (day + 1) found (by omega) (by omega) (by omega)
        refine ⟨day', ?_⟩
        rw [List.filter_cons_of_neg (by simp [hb])]
        exact e
theorem days_in_ok {m : Nat} (hm : m < 2 ^ 16) : F_days_in [.v (.int (m : Int))] = .ok (.tup (nd (bitsN m))) [.v (.int (m : Int))] := by
  obtain ⟨d', e⟩ := days_loop m hm 39 0 [] (by omega) (by omega) (by simp)
  rw [List.nil_append, List.drop_zero] at e
  have e' : whileM (trM (op2M shrI (varM 0) (varM 2))) L_days_in_0 40 [some (.v (.int (m : Int))), some (.own []), some (.v (.int 0))] = .nx [some (.v (.int (m : Int))), some (.own (nd (bitsN m))), some (.v (.int (d' : Int)))] := e
  simp [u_days_in, e', bitsN]
def maskN (l : List Nat) : Nat := l.foldl (fun t d => t ||| 2 ^ d) 0
theorem set_loop {x : Option EV} : ∀ (l : List Nat) (t : Nat) (y : Option EV), (∀ d ∈ l, d < 1000) → ∃ y', forM (tgN 2) L_set_of_0 (nd l) [x, some (.v (.int (t : Int))), y] = .nx [x, some (.v (.int ((l.foldl (fun t d => t ||| 2 ^ d) t : Nat) : Int))), y']
  | [], t, y, _ => ⟨y, rfl⟩
  | d :: l, t, y, h => by
    obtain ⟨y', e⟩ := set_loop (x := x) l (t ||| 2 ^ d) (some (.v (.int (d : Int)))) fun d hd => h d (by simp [hd])
    refine ⟨y', ?_⟩
    have w : shlOk 1 (d : Int) = true := by
      have := h d (by simp)
      unfold shlOk
      rw [show Builtin.Int.intBits 1 = 1 by decide]
      simp
      omega
    have o : Builtin.bitOr (t : Int) (2 ^ d) = ((t ||| 2 ^ d : Nat) : Int) := by
      have := bitOr_nat t (2 ^ d)
      rw [← this]; simp
    rw [show nd (d :: l) = D.int (d : Int) :: nd l from rfl, forM_c]
    simp [L_set_of_0, w, o]
    simpa [L_set_of_0] using e
theorem set_of_l {l : List Nat} (h : ∀ d ∈ l, d < 1000) : F_set_of [.v (.lst (nd l))] = .ok (.int (maskN l : Nat)) [.v (.lst (nd l))] := by
  obtain ⟨y, e⟩ := set_loop (x := some (.v (.lst (nd l)))) l 0 none h
  have e' : forM (tgN 2) L_set_of_0 (nd l) [some (.v (.lst (nd l))), some (.v (.int 0)), none] = _ := e
  simp [u_set_of, e', maskN]
theorem set_of_t {l : List Nat} (h : ∀ d ∈ l, d < 1000) : F_set_of [.v (.tup (nd l))] = .ok (.int (maskN l : Nat)) [.v (.tup (nd l))] := by
  obtain ⟨y, e⟩ := set_loop (x := some (.v (.tup (nd l)))) l 0 none h
  have e' : forM (tgN 2) L_set_of_0 (nd l) [some (.v (.tup (nd l))), some (.v (.int 0)), none] = _ := e
  simp [u_set_of, e', maskN]
theorem within_ok (a b : Nat) : F_within [.v (.int (a : Int)), .v (.int (b : Int))] = .ok (.bl (decide (br a b = 0))) [.v (.int (a : Int)), .v (.int (b : Int))] := by
  have h := bAndN a b
  by_cases g : br a b = 0
  · rw [g] at h ⊢
    simp [u_within, h]
  · have g' : ¬ ((br a b : Nat) : Int) = 0 := by omega
    generalize br a b = c at *
    simp [u_within, h, g, g']
end Lw
set_option linter.all false
set_option Elab.async false
set_option maxRecDepth 100000
set_option maxHeartbeats 4000000
set_option exponentiation.threshold 5000
namespace Lw
open PySem Ue
def Sub (x y : Nat) : Prop := br x y = 0
instance (x y : Nat) : Decidable (Sub x y) := inferInstanceAs (Decidable (br x y = 0))
theorem sub_iff {x y : Nat} : Sub x y ↔ ∀ i, x.testBit i = true → y.testBit i = true := br0_iff
theorem Sub.refl (x : Nat) : Sub x x := sub_iff.mpr fun _ h => h
theorem Sub.trans {x y z : Nat} (h1 : Sub x y) (h2 : Sub y z) : Sub x z := sub_iff.mpr fun i h => sub_iff.mp h2 i (sub_iff.mp h1 i h)
theorem Sub.antisymm {x y : Nat} (h1 : Sub x y) (h2 : Sub y x) : x = y := Nat.eq_of_testBit_eq fun i => by
  cases q : x.testBit i with
  | true => exact (sub_iff.mp h1 i q).symm
  | false =>
    cases r : y.testBit i with
    | false => rfl
    | true => rw [sub_iff.mp h2 i r] at q; cases q
theorem Sub.le {x y : Nat} (h : Sub x y) : x ≤ y := by
  unfold Sub br at h
  have h1 : x &&& y ≤ y := Nat.and_le_right
  omega
theorem and_ne {x y : Nat} : x &&& y ≠ 0 ↔ ∃ i, x.testBit i = true ∧ y.testBit i = true := by
  constructor
  · intro h
    refine Classical.byContradiction fun n => h (and0_iff.mpr fun i hi => ?_)
    cases q : y.testBit i with
    | false => rfl
    | true => exact absurd ⟨i, hi, q⟩ n
  · rintro ⟨i, h1, h2⟩ z
    rw [and0_iff.mp z i h1] at h2; cases h2
def Hits (h : Nat) (F : List Nat) : Prop := ∀ m ∈ F, h &&& m ≠ 0
def IsMin (h : Nat) (F : List Nat) : Prop := Hits h F ∧ ∀ g, Hits g F → Sub g h → g = h
theorem Hits.mono {g h : Nat} {F : List Nat} (k : Hits g F) (s : Sub g h) : Hits h F := fun m hm => by
  obtain ⟨i, h1, h2⟩ := and_ne.mp (k m hm)
  exact and_ne.mpr ⟨i, sub_iff.mp s i h1, h2⟩
theorem exists_min {F : List Nat} : ∀ (n g : Nat), g ≤ n → Hits g F → ∃ h, IsMin h F ∧ Sub h g
  | n, g, hn, hg => by
    by_cases m : ∀ g', Hits g' F → Sub g' g → g' = g
    · exact ⟨g, ⟨hg, m⟩, Sub.refl g⟩
    · have : ∃ g', Hits g' F ∧ Sub g' g ∧ g' ≠ g := Classical.byContradiction fun z => m fun g' h1 h2 => Classical.byContradiction fun h3 => z ⟨g', h1, h2, h3⟩
      obtain ⟨g', h1, h2, h3⟩ := this
      have := h2.le
      cases n with
      | zero => omega
      | succ n =>
        obtain ⟨h, q1, q2⟩ := exists_min n g' (by omega) h1
        exact ⟨h, q1, q2.trans h2⟩
def Lst (x : Nat) (F : List Nat) : Prop := x ∈ F ∧ ∀ y ∈ F, Sub y x → y = x
theorem lst_below {F : List Nat} : ∀ (n y : Nat), y ≤ n → y ∈ F → ∃ x, Lst x F ∧ Sub x y
  | n, y, hn, hy => by
    by_cases m : ∀ z ∈ F, Sub z y → z = y
    · exact ⟨y, ⟨hy, m⟩, Sub.refl y⟩
    · have : ∃ z, z ∈ F ∧ Sub z y ∧ z ≠ y := Classical.byContradiction fun q => m fun z h1 h2 => Classical.byContradiction fun h3 => q ⟨z, h1, h2, h3⟩
      obtain ⟨z, h1, h2, h3⟩ := this
      have := h2.le
      cases n with
      | zero => omega
      | succ n =>
        obtain ⟨x, q1, q2⟩ := lst_below n z (by omega) h1
        exact ⟨x, q1, q2.trans h2⟩
theorem hits_lst {h : Nat} {F G : List Nat} (g : ∀ x, x ∈ G ↔ Lst x F) : Hits h G ↔ Hits h F := by
  constructor
  · intro k m hm
    obtain ⟨x, q1, q2⟩ := lst_below m m (Nat.le_refl _) hm
    obtain ⟨i, h1, h2⟩ := and_ne.mp (k x ((g x).mpr q1))
    exact and_ne.mpr ⟨i, h1, sub_iff.mp q2 i h2⟩
  · exact fun k m hm => k m ((g m).mp hm).1
theorem isMin_congr {h : Nat} {F G : List Nat} (g : ∀ x, Hits x G ↔ Hits x F) : IsMin h G ↔ IsMin h F := by
  unfold IsMin
  rw [g]
  exact and_congr_right fun _ => forall_congr' fun x => by rw [g]
def stepL (found : List Nat) (m : Nat) : List Nat := if found.any (fun o => decide (br o m = 0)) then found else found ++ [m]
structure LInv (pre f : List Nat) : Prop where
  nd : f.Nodup
  sub : ∀ x ∈ f, x ∈ pre
  cov : ∀ y ∈ pre, ∃ o ∈ f, Sub o y
  lst : ∀ x ∈ f, ∀ y ∈ pre, Sub y x → y = x
theorem linv_step {sz : Nat → Nat} {pre f : List Nat} {m : Nat} (I : LInv pre f) (hs : ∀ x ∈ pre, sz x ≤ sz m) (hz : ∀ x ∈ pre, Sub m x → sz x ≤ sz m → m = x) : LInv (pre ++ [m]) (stepL f m) := by
  unfold stepL
  by_cases a : f.any (fun o => decide (br o m = 0)) = true
  · rw [if_pos a]
    obtain ⟨o, ho, hd⟩ := List.any_eq_true.mp a
    have hd : Sub o m := of_decide_eq_true hd
    refine ⟨I.nd, fun x hx => List.mem_append_left _ (I.sub x hx), fun y hy => ?_, fun x hx y hy s => ?_⟩
    · rcases List.mem_append.mp hy with hy | hy
      · exact I.cov y hy
      · rw [List.mem_singleton.mp hy]; exact ⟨o, ho, hd⟩
    · rcases List.mem_append.mp hy with hy | hy
      · exact I.lst x hx y hy s
      · rw [List.mem_singleton.mp hy] at s ⊢
        have e := I.lst x hx o (I.sub o ho) (hd.trans s)
        subst e
        exact s.antisymm hd
  · rw [if_neg a]
    have no : ∀ o ∈ f, ¬ Sub o m := fun o ho s => a (List.any_eq_true.mpr ⟨o, ho, decide_eq_true s⟩)
    refine ⟨?_, fun x hx => ?_, fun y hy => ?_, fun x hx y hy s => ?_⟩
    · rw [List.nodup_append]
      refine ⟨I.nd, by simp, fun x hx y hy e => ?_⟩
      rw [List.mem_singleton.mp hy] at e
      exact no x hx (e ▸ Sub.refl _)
    · rcases List.mem_append.mp hx with hx | hx
      · exact List.mem_append_left _ (I.sub x hx)
      · exact List.mem_append_right _ hx
    · rcases List.mem_append.mp hy with hy | hy
      · obtain ⟨o, h1, h2⟩ := I.cov y hy
        exact ⟨o, List.mem_append_left _ h1, h2⟩
      · rw [List.mem_singleton.mp hy]; exact ⟨m, by simp, Sub.refl _⟩
    · rcases List.mem_append.mp hx with hx | hx <;> rcases List.mem_append.mp hy with hy | hy
      · exact I.lst x hx y hy s
      · rw [List.mem_singleton.mp hy] at s ⊢
        exact hz x (I.sub x hx) s (hs x (I.sub x hx))
      · rw [List.mem_singleton.mp hx] at s ⊢
        obtain ⟨o, h1, h2⟩ := I.cov y hy
        exact absurd (h2.trans s) (no o h1)
      · rw [List.mem_singleton.mp hx, List.mem_singleton.mp hy]
theorem linv_all {sz : Nat → Nat} : ∀ (l pre f : List Nat), LInv pre f → (pre ++ l).Pairwise (fun a b => sz a ≤ sz b) → (∀ x ∈ pre ++ l, ∀ y ∈ pre ++ l, Sub y x → sz x ≤ sz y → y = x) → LInv (pre ++ l) (l.foldl stepL f)
  | [], pre, f, I, _, _ => by simpa using I
  | m :: l, pre, f, I, hp, hz => by
    have e : pre ++ m :: l = (pre ++ [m]) ++ l := by simp
    rw [List.foldl_cons]
    rw [e] at hp hz ⊢
    refine linv_all l (pre ++ [m]) _ (linv_step (sz := sz) I (fun x hx => ?_) fun x hx s h => ?_) hp hz
    · exact (List.pairwise_append.mp (List.pairwise_append.mp hp).1).2.2 x hx m (by simp)
    · exact hz x (by simp [hx]) m (by simp) s h
theorem lst_spec {sz : Nat → Nat} {l : List Nat} (hp : l.Pairwise (fun a b => sz a ≤ sz b)) (hz : ∀ x ∈ l, ∀ y ∈ l, Sub y x → sz x ≤ sz y → y = x) : (l.foldl stepL []).Nodup ∧ ∀ x, x ∈ l.foldl stepL [] ↔ Lst x l := by
  have I := linv_all (sz := sz) l [] [] ⟨by simp, fun _ h => (nomatch h), fun _ h => (nomatch h), fun _ h => (nomatch h)⟩ (by simpa using hp) (by simpa using hz)
  rw [List.nil_append] at I
  refine ⟨I.nd, fun x => ⟨fun h => ⟨I.sub x h, I.lst x h⟩, fun ⟨h1, h2⟩ => ?_⟩⟩
  obtain ⟨o, q1, q2⟩ := I.cov x h1
  rw [← h2 o (I.sub o q1) q2]; exact q1
def growN (f : List Nat) (m : Nat) : List Nat := f.flatMap fun o => if o &&& m = 0 then (bitsN m).map (fun n => o ||| 2 ^ n) else [o]
theorem bitsN_mem {m i : Nat} (hm : m < 2 ^ 16) : i ∈ bitsN m ↔ m.testBit i = true := by
  unfold bitsN
  rw [List.mem_filter, List.mem_range]
  refine ⟨fun h => h.2, fun h => ⟨?_, h⟩⟩
  rcases Nat.lt_or_ge i 16 with q | q
  · exact q
  · rw [hi_bit hm q] at h; cases h
theorem orp_bit {o n i : Nat} : (o ||| 2 ^ n).testBit i = true ↔ o.testBit i = true ∨ i = n := by
  rw [Nat.testBit_or, Bool.or_eq_true, pow_bit, decide_eq_true_eq]
  exact or_congr Iff.rfl eq_comm
theorem grow_hits {f F : List Nat} {m y : Nat} (hm : m < 2 ^ 16) (hf : ∀ x, x ∈ f ↔ IsMin x F) (hy : y ∈ growN f m) : Hits y (m :: F) := by
  unfold growN at hy
  obtain ⟨o, ho, h⟩ := List.mem_flatMap.mp hy
  have h0 := ((hf o).mp ho).1
  by_cases z : o &&& m = 0
  · rw [if_pos z] at h
    obtain ⟨n, hn, rfl⟩ := List.mem_map.mp h
    have hb := (bitsN_mem hm).mp hn
    have s : Sub o (o ||| 2 ^ n) := sub_iff.mpr fun i hi => orp_bit.mpr (.inl hi)
    intro x hx
    rcases List.mem_cons.mp hx with rfl | hx
    · exact and_ne.mpr ⟨n, orp_bit.mpr (.inr rfl), hb⟩
    · exact (h0.mono s) x hx
  · rw [if_neg z] at h
    rw [List.mem_singleton.mp h]
    intro x hx
    rcases List.mem_cons.mp hx with rfl | hx
    · exact z
    · exact h0 x hx
theorem grow_below {f F : List Nat} {m g : Nat} (hm : m < 2 ^ 16) (hf : ∀ x, x ∈ f ↔ IsMin x F) (hg : Hits g (m :: F)) : ∃ y ∈ growN f m, Sub y g := by
  obtain ⟨h, q1, q2⟩ := exists_min (F := F) g g (Nat.le_refl _) fun x hx => hg x (List.mem_cons_of_mem _ hx)
  have ho := (hf h).mpr q1
  by_cases z : h &&& m = 0
  · obtain ⟨n, h1, h2⟩ := and_ne.mp (hg m List.mem_cons_self)
    refine ⟨h ||| 2 ^ n, List.mem_flatMap.mpr ⟨h, ho, ?_⟩, sub_iff.mpr fun i hi => ?_⟩
    · rw [if_pos z]; exact List.mem_map.mpr ⟨n, (bitsN_mem hm).mpr h2, rfl⟩
    · rcases orp_bit.mp hi with hi | rfl
      · exact sub_iff.mp q2 i hi
      · exact h1
  · exact ⟨h, List.mem_flatMap.mpr ⟨h, ho, by rw [if_neg z]; simp⟩, q2⟩
theorem grow_min {f F : List Nat} {m x : Nat} (hm : m < 2 ^ 16) (hf : ∀ x, x ∈ f ↔ IsMin x F) : Lst x (growN f m) ↔ IsMin x (m :: F) := by
  constructor
  · rintro ⟨h1, h2⟩
    refine ⟨grow_hits hm hf h1, fun g hg s => ?_⟩
    obtain ⟨y, q1, q2⟩ := grow_below hm hf hg
    have e := h2 y q1 (q2.trans s)
    subst e
    exact s.antisymm q2
  · rintro ⟨h1, h2⟩
    obtain ⟨y, q1, q2⟩ := grow_below hm hf h1
    have e := h2 y (grow_hits hm hf q1) q2
    subst e
    exact ⟨q1, fun z hz s => h2 z (grow_hits hm hf hz) s⟩
theorem min_twice {F G : List Nat} (N : Nat) (hN : ∀ m ∈ F, m < 2 ^ N) (hg : ∀ x, x ∈ G ↔ IsMin x F) (x : Nat) : IsMin x G ↔ Lst x F := by
  have key : ∀ g, Hits g G → ∃ m ∈ F, Sub m g := fun g hh => Classical.byContradiction fun no => by
    have c : Hits (br (2 ^ N - 1) g) F := fun m hm => by
      have : ¬ Sub m g := fun s => no ⟨m, hm, s⟩
      have : ∃ i, m.testBit i = true ∧ g.testBit i = false := Classical.byContradiction fun z => this (sub_iff.mpr fun i hi => by
        cases q : g.testBit i with
        | true => rfl
        | false => exact absurd ⟨i, hi, q⟩ z)
      obtain ⟨i, h1, h2⟩ := this
      refine and_ne.mpr ⟨i, ?_, h1⟩
      have hi : i < N := by
        rcases Nat.lt_or_ge i N with q | q
        · exact q
        · rw [hi_bit (hN m hm) q] at h1; cases h1
      rw [br_bit, h2, Nat.testBit_two_pow_sub_one]; simp [hi]
    obtain ⟨h, q1, q2⟩ := exists_min _ _ (Nat.le_refl _) c
    obtain ⟨i, h1, h2⟩ := and_ne.mp (hh h ((hg h).mpr q1))
    have := sub_iff.mp q2 i h2
    rw [br_bit, h1] at this; simp at this
  have hit : ∀ m ∈ F, Hits m G := fun m hm h hh => by
    obtain ⟨i, h1, h2⟩ := and_ne.mp (((hg h).mp hh).1 m hm)
    exact and_ne.mpr ⟨i, h2, h1⟩
  constructor
  · rintro ⟨h1, h2⟩
    obtain ⟨m, q1, q2⟩ := key x h1
    have e := h2 m (hit m q1) q2
    subst e
    exact ⟨q1, fun y hy s => h2 y (hit y hy) s⟩
  · rintro ⟨h1, h2⟩
    refine ⟨hit x h1, fun g hh s => ?_⟩
    obtain ⟨m, q1, q2⟩ := key g hh
    have e := h2 m q1 (q2.trans s)
    subst e
    exact s.antisymm q2
theorem min_one {F : List Nat} {x : Nat} (N : Nat) (hN : x < 2 ^ N) : IsMin x F ↔ Hits x F ∧ ∀ n, n < N → x.testBit n = true → ¬ Hits (br x (2 ^ n)) F := by
  constructor
  · rintro ⟨h1, h2⟩
    refine ⟨h1, fun n _ hb hh => ?_⟩
    have e := h2 _ hh (sub_iff.mpr fun i hi => by rw [br_bit] at hi; exact (Bool.and_eq_true_iff.mp hi).1)
    have : (br x (2 ^ n)).testBit n = true := by rw [e]; exact hb
    rw [br_bit, pow_bit] at this; simp at this
  · rintro ⟨h1, h2⟩
    refine ⟨h1, fun g hg s => s.antisymm (sub_iff.mpr fun n hn => ?_)⟩
    cases q : g.testBit n with
    | true => rfl
    | false =>
      have hl : n < N := by
        rcases Nat.lt_or_ge n N with z | z
        · exact z
        · rw [hi_bit hN z] at hn; cases hn
      refine absurd (hg.mono (sub_iff.mpr fun i hi => ?_)) (h2 n hl hn)
      rw [br_bit, sub_iff.mp s i hi, pow_bit]
      by_cases z : n = i
      · subst z; rw [q] at hi; cases hi
      · simp [z]
end Lw
set_option linter.all false
set_option Elab.async false
set_option maxRecDepth 100000
set_option maxHeartbeats 4000000
set_option exponentiation.threshold 5000
namespace Lw
open PySem Ue
def szN (m : Nat) : Nat := (bitsN m).length
def szK (m : Nat) : PyData := .int (szN m : Int)
def sortZ (ms : List Nat) : List Nat := ms.mergeSort (PySem.W.dataLe false szK)
def leastN (ms : List Nat) : List Nat := (sortZ ms).foldl stepL []
theorem filter_sub {p q : Nat → Bool} (h : ∀ i, p i = true → q i = true) : ∀ l : List Nat, (l.filter p).Sublist (l.filter q)
  | [] => by simp
  | i :: l => by
    have ih := filter_sub h l
    by_cases hp : p i = true
    · rw [List.filter_cons_of_pos hp, List.filter_cons_of_pos (h i hp)]; exact ih.cons_cons i
    · rw [List.filter_cons_of_neg hp]
      by_cases hq : q i = true
      · rw [List.filter_cons_of_pos hq]; exact ih.cons i
      · rw [List.filter_cons_of_neg hq]; exact ih
theorem sz_anti {x y : Nat} (hx : x < 2 ^ 16) (hy : y < 2 ^ 16) (s : Sub y x) (h : szN x ≤ szN y) : y = x := by
  have sl : (bitsN y).Sublist (bitsN x) := filter_sub (sub_iff.mp s) _
  have e := sl.eq_of_length (Nat.le_antisymm sl.length_le h)
  refine Nat.eq_of_testBit_eq fun i => ?_
  have k := bitsN_mem (m := x) (i := i) hx
  rw [← e, bitsN_mem hy] at k
  cases q : x.testBit i with
  | true => exact k.mpr q
  | false =>
    cases r : y.testBit i with
    | false => rfl
    | true => rw [k.mp r] at q; cases q
theorem sz_le (a b : Nat) : PySem.W.dataLe false szK a b = decide (szN a ≤ szN b) := by
  have := le_ints (szN a : Int) (szN b : Int)
  rw [show PySem.W.dataLe false szK a b = PySem.W.dataLe false (fun x : Int => PyData.int x) (szN a : Int) (szN b : Int) from dataLe_eq rfl rfl, this]
  exact decide_eq_decide.mpr (by omega)
theorem sortZ_mem {ms : List Nat} {x : Nat} : x ∈ sortZ ms ↔ x ∈ ms := (List.mergeSort_perm ms _).mem_iff
theorem sortZ_len {ms : List Nat} : (sortZ ms).length = ms.length := (List.mergeSort_perm ms _).length_eq
theorem least_spec {ms : List Nat} (h : ∀ m ∈ ms, m < 2 ^ 16) : (leastN ms).Nodup ∧ ∀ x, x ∈ leastN ms ↔ Lst x ms := by
  have p : (sortZ ms).Pairwise fun a b => szN a ≤ szN b := (dsort_pw ms).imp fun {a b} q => by rw [sz_le] at q; exact of_decide_eq_true q
  obtain ⟨h1, h2⟩ := lst_spec (sz := szN) p fun x hx y hy s q => sz_anti (h x (sortZ_mem.mp hx)) (h y (sortZ_mem.mp hy)) s q
  refine ⟨h1, fun x => (h2 x).trans ?_⟩
  unfold Lst
  rw [sortZ_mem]
  exact and_congr_right fun _ => forall_congr' fun y => by rw [sortZ_mem]
theorem key_mask {m : Nat} (h : m < 2 ^ 16) : keyPy (callM lenD [(fnM F_days_in [.p (varM 0)] [])]) (.int (m : Int)) = some (szK m) := by
  refine keyPy_of (k := .int (szN m : Int)) (e := [some (.v (.int (m : Int)))]) ?_ (by simp [toPy, szK]) rfl
  have e := days_in_ok h
  have l : (nd (bitsN m)).length = szN m := nd_len _
  generalize nd (bitsN m) = A at *
  simp [e, l]
theorem sort_masks {ms : List Nat} (h : ∀ m ∈ ms, m < 2 ^ 16) (hl : ms.length ≤ sizeLine) : sortKL (callM lenD [(fnM F_days_in [.p (varM 0)] [])]) (nd ms) = some (nd (sortZ ms)) :=
  sortKL_map (f := fun i : Nat => D.int (i : Int)) (kz := szK) hl (fun m hm => key_mask (h m hm)) (fun _ _ => rfl) (fun m _ => by simp [szK, PyData.depth]) (fun x _ y _ => by simp [szK, PySem.W.alike]) (sortL_oth fun x _ => rfl)
theorem dBls_map {α : Type} (f : α → Bool) : ∀ l : List α, dBls (l.map fun a => D.bl (f a)) = some (l.map f)
  | [] => rfl
  | a :: l => by rw [List.map_cons, dBls, dBls_map f l]; rfl
theorem any_map {α : Type} (f : α → Bool) (l : List α) : anyD [.lst (l.map fun a => D.bl (f a))] = some (.bl (l.any f)) := by
  show (dBls _).map _ = _
  rw [dBls_map]
  show some (D.bl ((l.map f).any id)) = _
  rw [List.any_map]; rfl
theorem all_map {α : Type} (f : α → Bool) (l : List α) : allD [.lst (l.map fun a => D.bl (f a))] = some (.bl (l.all f)) := by
  show (dBls _).map _ = _
  rw [dBls_map]
  show some (D.bl ((l.map f).all id)) = _
  rw [List.all_map]; rfl
theorem noLs_nd : ∀ l : List Nat, noLs (nd l) = true
  | [] => rfl
  | i :: l => by
    show (true && noLs (nd l)) = true
    rw [noLs_nd l]; rfl
theorem any_within {f : List Nat} {m : Nat} {x0 : D} (hl : f.length ≤ sizeLine) : lendE 1 (callM anyD [(compM [3] (asL (varM 1)) (tgN 3) yesT (fnM F_within [.p (varM 3), .p (varM 2)] []))]) [some (.v x0), some (.own (nd f)), some (.v (.int (m : Int))), none] = .ok (.bl (f.any fun o => decide (br o m = 0))) [some (.v x0), some (.own (nd f)), some (.v (.int (m : Int))), none] := by
  have c : compL [3] (tgN 3) yesT (fnM F_within [.p (varM 3), .p (varM 2)] []) (nd f) [some (.v x0), some (.v (.lst (nd f))), some (.v (.int (m : Int))), none] = .ok (f.map fun o => D.bl (decide (br o m = 0))) [some (.v x0), some (.v (.lst (nd f))), some (.v (.int (m : Int))), none] := by
    refine compL_map (fun i : Nat => D.int (i : Int)) _ (by simp [vsOk]) f fun o ho => ?_
    have w := within_ok o m
    generalize nd f = A at *
    exact ⟨[some (.v x0), some (.v (.lst A)), some (.v (.int (m : Int))), some (.v (.int (o : Int)))], [some (.v x0), some (.v (.lst A)), some (.v (.int (m : Int))), some (.v (.int (o : Int)))], by simp, by simp [w], rfl⟩
  have an := any_map (fun o => decide (br o m = 0)) f
  have l1 : (nd f).length ≤ sizeLine := by rw [nd_len]; exact hl
  have l2 : (f.map fun o => D.bl (decide (br o m = 0))).length ≤ sizeLine := by rw [List.length_map]; exact hl
  have nb := noLs_nd f
  generalize (f.map fun o => D.bl (decide (br o m = 0))) = FF at *
  generalize f.any (fun o => decide (br o m = 0)) = AA at *
  generalize nd f = A at *
  simp [ownL, nb, l1, l2, c, an, noL]
theorem nd_snoc (f : List Nat) (m : Nat) : nd f ++ [D.int (m : Int)] = nd (f ++ [m]) := by simp [nd]
theorem least_step {x0 : D} {f : List Nat} {m : Nat} (h : f.length < sizeLine) : L_least_masks_0 [some (.v x0), some (.own (nd f)), some (.v (.int (m : Int))), none] = .nx [some (.v x0), some (.own (nd (stepL f m))), some (.v (.int (m : Int))), none] := by
  have w := any_within (x0 := x0) (f := f) (m := m) (by omega)
  have l1 : (nd f).length < sizeLine := by rw [nd_len]; omega
  have sn := nd_snoc f m
  have st : nd (stepL f m) = if f.any (fun o => decide (br o m = 0)) = true then nd f else nd f ++ [D.int (m : Int)] := by
    unfold stepL
    rw [sn]
    split <;> rfl
  rw [st]
  unfold L_least_masks_0
  generalize f.any (fun o => decide (br o m = 0)) = AA at *
  generalize nd f = A at *
  generalize lendE 1 (callM anyD [(compM [3] (asL (varM 1)) (tgN 3) yesT (fnM F_within [.p (varM 3), .p (varM 2)] []))]) = LE at *
  cases AA with
  | true => simp [w]
  | false => simp [w, l1, appG]
theorem least_loop {x0 : D} : ∀ (l f : List Nat) (x2 : Option EV), f.length + l.length ≤ sizeLine → ∃ y2, forM (tgN 2) L_least_masks_0 (nd l) [some (.v x0), some (.own (nd f)), x2, none] = .nx [some (.v x0), some (.own (nd (l.foldl stepL f))), y2, none]
  | [], f, x2, _ => ⟨x2, rfl⟩
  | m :: l, f, x2, h => by
    have h : f.length + (l.length + 1) ≤ sizeLine := h
    have lf : (stepL f m).length ≤ f.length + 1 := by
      unfold stepL
      split
      · omega
      · simp
    obtain ⟨y2, e⟩ := least_loop (x0 := x0) l (stepL f m) (some (.v (.int (m : Int)))) (by omega)
    refine ⟨y2, ?_⟩
    have w := least_step (x0 := x0) (f := f) (m := m) (by omega)
    rw [show nd (m :: l) = D.int (m : Int) :: nd l from rfl, forM_c, List.foldl_cons, ← e]
    simp [w]
theorem least_masks_ok {ms : List Nat} (h : ∀ m ∈ ms, m < 2 ^ 16) (hl : ms.length ≤ sizeLine) : F_least_masks [.v (.lst (nd ms))] = .ok (.lst (nd (leastN ms))) [.v (.lst (nd ms))] := by
  have s := sort_masks h hl
  obtain ⟨y2, e⟩ := least_loop (x0 := .lst (nd ms)) (sortZ ms) [] none (by rw [sortZ_len]; simpa using hl)
  unfold leastN
  have e : forM (tgN 2) L_least_masks_0 (nd (sortZ ms)) [some (.v (.lst (nd ms))), some (.own []), none, none] = .nx [some (.v (.lst (nd ms))), some (.own (nd ((sortZ ms).foldl stepL []))), y2, none] := e
  generalize nd ((sortZ ms).foldl stepL []) = A at *
  generalize nd (sortZ ms) = B at *
  generalize nd ms = C at *
  simp [u_least_masks, sortKM, s, e]
def lotI (m : Nat) : List Int := (bitsN m).map fun i : Nat => (i : Int)
def lotD (m : Nat) : D := .tup (nd (bitsN m))
def lotK (m : Nat) : PyData := lenKey (lotI m)
def sortT (ms : List Nat) : List Nat := ms.mergeSort (PySem.W.dataLe false lotK)
theorem lotD_eq (m : Nat) : lotD m = .tup ((lotI m).map D.int) := by
  unfold lotD lotI
  rw [nd_eq]
theorem lotI_inj {x y : Nat} (hx : x < 2 ^ 16) (hy : y < 2 ^ 16) (h : lotI x = lotI y) : x = y := by
  have h : bitsN x = bitsN y := by
    unfold lotI at h
    exact List.map_inj_right (fun _ _ e => by omega) |>.mp h
  refine Nat.eq_of_testBit_eq fun i => ?_
  have k := bitsN_mem (m := x) (i := i) hx
  rw [h, bitsN_mem hy] at k
  cases q : x.testBit i with
  | true => exact (k.mpr q).symm
  | false =>
    cases r : y.testBit i with
    | false => rfl
    | true => rw [k.mp r] at q; cases q
theorem sortT_uniq {xs ys : List Nat} (h : ∀ m ∈ xs, m < 2 ^ 16) (nx : xs.Nodup) (ny : ys.Nodup) (hm : ∀ m, m ∈ xs ↔ m ∈ ys) : sortT xs = sortT ys :=
  dsort_uniq ((List.perm_ext_iff_of_nodup nx ny).mpr hm) fun x hx y hy e => lotI_inj (h x hx) (h y hy) (lenKey_inj e)
theorem sortT_mem {ms : List Nat} {x : Nat} : x ∈ sortT ms ↔ x ∈ ms := (List.mergeSort_perm ms _).mem_iff
theorem sortT_len {ms : List Nat} : (sortT ms).length = ms.length := (List.mergeSort_perm ms _).length_eq
theorem flatDs_nd : ∀ l : List Nat, flatDs (nd l) = true
  | [] => rfl
  | i :: l => by
    show (true && flatDs (nd l)) = true
    rw [flatDs_nd l]; rfl
theorem key_lot {m : Nat} : keyPy (tupM [(callM lenD [(varM 0)]), (varM 0)]) (lotD m) = some (lotK m) := by
  refine keyPy_of (k := .tup [.int ((lotI m).length : Int), lotD m]) (e := [some (.v (lotD m))]) ?_ (by rw [lotD_eq]; exact lenKey_toPy _) (lenKey_flat _)
  have l : ((nd (bitsN m)).length : Int) = ((lotI m).length : Int) := by rw [nd_len]; unfold lotI; rw [List.length_map]
  unfold lotD
  generalize nd (bitsN m) = A at *
  have z : (2 : Nat) ≤ sizeLine := z_le (by decide)
  simp [l, z]
theorem sort_lots {ms : List Nat} (hl : ms.length ≤ sizeLine) : sortKL (tupM [(callM lenD [(varM 0)]), (varM 0)]) (ms.map lotD) = some ((sortT ms).map lotD) :=
  sortKL_map (f := lotD) (kz := lotK) hl (fun m hm => key_lot) (fun m _ => flatDs_nd _) (fun m _ => Nat.le_trans (lenKey_depth _) (by decide)) (fun x _ y _ => lenKey_alike _ _) (sortL_tup fun x _ => rfl)
theorem sorted_lots_ok {ms : List Nat} (h : ∀ m ∈ ms, m < 2 ^ 16) (hl : ms.length ≤ sizeLine) : F_sorted_lots [.v (.lst (nd ms))] = .ok (.tup ((sortT ms).map lotD)) [.v (.lst (nd ms))] := by
  have s := sort_lots hl
  have c : compL [1] (tgN 1) yesT (fnM F_days_in [.p (varM 1)] []) (nd ms) [some (.v (.lst (nd ms))), none] = .ok (ms.map lotD) [some (.v (.lst (nd ms))), none] := by
    refine compL_map (fun i : Nat => D.int (i : Int)) _ (by simp [vsOk]) ms fun m hm => ?_
    have w := days_in_ok (h m hm)
    unfold lotD
    generalize nd (bitsN m) = B at *
    generalize nd ms = A at *
    exact ⟨[some (.v (.lst A)), some (.v (.int (m : Int)))], [some (.v (.lst A)), some (.v (.int (m : Int)))], by simp, by simp [w], rfl⟩
  have l1 : (nd ms).length ≤ sizeLine := by rw [nd_len]; exact hl
  have l2 : (ms.map lotD).length ≤ sizeLine := by rw [List.length_map]; exact hl
  have l3 : ((sortT ms).map lotD).length ≤ sizeLine := by rw [List.length_map, sortT_len]; exact hl
  generalize (sortT ms).map lotD = T at *
  generalize ms.map lotD = M at *
  generalize nd ms = A at *
  simp [u_sorted_lots, sortKM, l1, l2, l3, c, s]
end Lw
set_option linter.all false
set_option Elab.async false
set_option maxRecDepth 100000
set_option maxHeartbeats 4000000
set_option exponentiation.threshold 5000
namespace Lw
open PySem Ue
def growO (o m : Nat) : List Nat := if o &&& m = 0 then (bitsN m).map (fun n => o ||| 2 ^ n) else [o]
def meetN (ms : List Nat) : List Nat := (leastN ms).foldl (fun f m => leastN (growN f m)) [0]
theorem maskN_go : ∀ (l : List Nat) (t i : Nat), (l.foldl (fun t d => t ||| 2 ^ d) t).testBit i = true ↔ t.testBit i = true ∨ i ∈ l
  | [], t, i => by simp
  | d :: l, t, i => by
    rw [List.foldl_cons, maskN_go l, orp_bit, List.mem_cons, or_assoc]
theorem maskN_bit {l : List Nat} {i : Nat} : (maskN l).testBit i = true ↔ i ∈ l := by
  unfold maskN
  rw [maskN_go]; simp
theorem lt_of_bits {x N : Nat} (h : ∀ i, x.testBit i = true → i < N) : x < 2 ^ N := Nat.lt_pow_two_of_testBit x fun i hi => by
  cases q : x.testBit i with
  | false => rfl
  | true => have := h i q; omega
theorem maskN_lt {l : List Nat} {N : Nat} (h : ∀ d ∈ l, d < N) : maskN l < 2 ^ N := lt_of_bits fun i hi => h i (maskN_bit.mp hi)
theorem maskN_bits {m : Nat} (h : m < 2 ^ 16) : maskN (bitsN m) = m := Nat.eq_of_testBit_eq fun i => by
  have k : (maskN (bitsN m)).testBit i = true ↔ m.testBit i = true := maskN_bit.trans (bitsN_mem h)
  cases q : m.testBit i with
  | true => exact k.mpr q
  | false =>
    cases r : (maskN (bitsN m)).testBit i with
    | false => rfl
    | true => rw [k.mp r] at q; cases q
theorem bitsN_lt {m i : Nat} (h : i ∈ bitsN m) : i < 16 := List.mem_range.mp (List.mem_filter.mp h).1
theorem bitsN_len (m : Nat) : (bitsN m).length ≤ 16 := by
  have := List.length_filter_le m.testBit (List.range 16)
  rwa [List.length_range] at this
theorem growO_lt {o m y : Nat} (ho : o < 2 ^ 16) (h : y ∈ growO o m) : y < 2 ^ 16 := by
  unfold growO at h
  split at h
  · obtain ⟨n, hn, rfl⟩ := List.mem_map.mp h
    exact Nat.or_lt_two_pow ho (Nat.pow_lt_pow_right (by decide) (bitsN_lt hn))
  · rw [List.mem_singleton.mp h]; exact ho
theorem growN_lt {f : List Nat} {m y : Nat} (hf : ∀ o ∈ f, o < 2 ^ 16) (h : y ∈ growN f m) : y < 2 ^ 16 := by
  obtain ⟨o, ho, h⟩ := List.mem_flatMap.mp h
  exact growO_lt (hf o ho) h
theorem growO_len (o m : Nat) : (growO o m).length ≤ 16 := by
  unfold growO
  split
  · rw [List.length_map]; exact bitsN_len m
  · simp
theorem growN_len (m : Nat) : ∀ f : List Nat, (growN f m).length ≤ 16 * f.length
  | [] => by simp [growN]
  | o :: f => by
    have e : growN (o :: f) m = growO o m ++ growN f m := rfl
    have := growN_len m f
    have := growO_len o m
    rw [e, List.length_append, List.length_cons]; omega
theorem nodup_lt : ∀ {m : Nat} {l : List Nat}, l.Nodup → (∀ x ∈ l, x < m) → l.length ≤ m
  | 0, [], _, _ => Nat.le_refl _
  | 0, x :: l, _, h => absurd (h x List.mem_cons_self) (Nat.not_lt_zero x)
  | m + 1, l, nd, h => by
    by_cases g : m ∈ l
    · have e := List.length_erase_of_mem g
      have i := nodup_lt (m := m) (l := l.erase m) (List.Pairwise.sublist (List.erase_sublist ..) nd) fun x hx => by
        have h1 := h x (List.mem_of_mem_erase hx)
        have h2 : x ≠ m := fun z => by
          rw [z] at hx
          exact nd.not_mem_erase hx
        omega
      have := List.length_pos_of_mem g
      omega
    · have i := nodup_lt (m := m) (l := l) nd fun x hx => by
        have h1 := h x hx
        have h2 : x ≠ m := fun z => g (by rw [← z]; exact hx)
        omega
      omega
theorem sz24 : 16777216 ≤ sizeLine := by rw [show sizeLine = _ from sizeLine_eq]; decide
theorem nd_app (a b : List Nat) : nd a ++ nd b = nd (a ++ b) := by simp [nd]
theorem set_one {n : Nat} (h : n < 16) : F_set_of [.v (.tup [.int (n : Int)])] = .ok (.int ((2 ^ n : Nat) : Int)) [.v (.tup [.int (n : Int)])] := by
  have := set_of_t (l := [n]) (fun d hd => by rw [List.mem_singleton.mp hd]; omega)
  have e : maskN [n] = 2 ^ n := by simp [maskN]
  rw [e] at this
  exact this
theorem grow_comp {x0 x1 x3 : EV} {o m : Nat} : compL [6] (tgN 6) yesT (op2M orI (varM 4) (fnM F_set_of [.p (tupM [(varM 6)])] [])) (nd (bitsN m)) [some x0, some x1, some (.v (.int (m : Int))), some x3, some (.v (.int (o : Int))), none, none] = .ok ((bitsN m).map fun n => D.int ((o ||| 2 ^ n : Nat) : Int)) [some x0, some x1, some (.v (.int (m : Int))), some x3, some (.v (.int (o : Int))), none, none] := by
  refine compL_map (fun i : Nat => D.int (i : Int)) _ (by simp [vsOk]) (bitsN m) fun n hn => ?_
  have w := set_one (bitsN_lt hn)
  have b := bOr o (2 ^ n)
  have z : (1 : Nat) ≤ sizeLine := z_le (by decide)
  generalize ((2 ^ n : Nat) : Int) = P2 at *
  generalize ((o ||| 2 ^ n : Nat) : Int) = OO at *
  exact ⟨[some x0, some x1, some (.v (.int (m : Int))), some x3, some (.v (.int (o : Int))), none, some (.v (.int (n : Int)))], [some x0, some x1, some (.v (.int (m : Int))), some x3, some (.v (.int (o : Int))), none, some (.v (.int (n : Int)))], by simp, by simp [w, b, z], rfl⟩
theorem grow_step {x0 x1 : EV} {g : List Nat} {o m : Nat} (hm : m < 2 ^ 16) (hg : g.length + 16 ≤ sizeLine) : L_least_meeting_0 [some x0, some x1, some (.v (.int (m : Int))), some (.own (nd g)), some (.v (.int (o : Int))), none, none] = .nx [some x0, some x1, some (.v (.int (m : Int))), some (.own (nd (g ++ growO o m))), some (.v (.int (o : Int))), none, none] := by
  have b := bAnd o m
  have c := grow_comp (x0 := x0) (x1 := x1) (x3 := .own (nd g)) (o := o) (m := m)
  have w := days_in_ok hm
  have l0 := bitsN_len m
  have l1 : (nd (bitsN m)).length ≤ sizeLine := by rw [nd_len]; exact z_le (by omega)
  have l2 : ((bitsN m).map fun n => D.int ((o ||| 2 ^ n : Nat) : Int)).length ≤ sizeLine := by rw [List.length_map]; exact z_le (by omega)
  have l3 : (nd g).length + ((bitsN m).map fun n => D.int ((o ||| 2 ^ n : Nat) : Int)).length ≤ sizeLine := by rw [List.length_map, nd_len]; omega
  have l4 : (nd g).length < sizeLine := by rw [nd_len]; omega
  have e1 : nd g ++ ((bitsN m).map fun n => D.int ((o ||| 2 ^ n : Nat) : Int)) = nd (g ++ (bitsN m).map fun n => o ||| 2 ^ n) := by
    rw [← nd_app]; unfold nd; rw [List.map_map]; rfl
  have e2 := nd_snoc g o
  unfold L_least_meeting_0 growO
  by_cases z : o &&& m = 0
  · rw [if_pos z, ← e1]
    rw [z] at b
    have b : Builtin.bitAnd (o : Int) (m : Int) = 0 := b
    generalize ((bitsN m).map fun n => D.int ((o ||| 2 ^ n : Nat) : Int)) = RR at *
    generalize nd (bitsN m) = BB at *
    generalize nd g = G at *
    simp [b, w, l1, c, l2, l3]
  · rw [if_neg z, ← e2]
    have z' : (((o &&& m : Nat) : Int) != 0) = true := by rw [bne_iff_ne]; omega
    generalize ((o &&& m : Nat) : Int) = OM at *
    generalize nd g = G at *
    have z'' : ¬ OM = 0 := by simpa using z'
    simp [b, z'', l4, appG]
theorem grow_loop {x0 x1 : EV} {m : Nat} (hm : m < 2 ^ 16) : ∀ (l g : List Nat) (x4 : Option EV), Vl x4 → g.length + 16 * l.length + 16 ≤ sizeLine → ∃ y4, Vl y4 ∧ forM (tgN 4) L_least_meeting_0 (nd l) [some x0, some x1, some (.v (.int (m : Int))), some (.own (nd g)), x4, none, none] = .nx [some x0, some x1, some (.v (.int (m : Int))), some (.own (nd (g ++ growN l m))), y4, none, none]
  | [], g, x4, h4, _ => ⟨x4, h4, by simp [growN]; rfl⟩
  | o :: l, g, x4, h4, h => by
    have h : g.length + 16 * (l.length + 1) + 16 ≤ sizeLine := h
    have lo := growO_len o m
    obtain ⟨y4, v4, e⟩ := grow_loop (x0 := x0) (x1 := x1) hm l (g ++ growO o m) (some (.v (.int (o : Int)))) (.inr ⟨_, rfl⟩) (by rw [List.length_append]; omega)
    refine ⟨y4, v4, ?_⟩
    have w := grow_step (x0 := x0) (x1 := x1) (g := g) (o := o) hm (by omega)
    have e3 : growN (o :: l) m = growO o m ++ growN l m := rfl
    rw [show nd (o :: l) = D.int (o : Int) :: nd l from rfl, forM_c, e3, ← List.append_assoc, ← e]
    rcases h4 with rfl | ⟨d, rfl⟩ <;> simp [w]
theorem meet_step {x0 : EV} {f : List Nat} {m : Nat} {x3 x4 : Option EV} (hm : m < 2 ^ 16) (hf : ∀ o ∈ f, o < 2 ^ 16) (nf : f.Nodup) (h3 : Vl x3 ∨ ∃ g, x3 = some (.own g)) (h4 : Vl x4) :
    ∃ y3 y4, Vl y3 ∧ Vl y4 ∧ L_least_meeting_1 [some x0, some (.v (.lst (nd f))), some (.v (.int (m : Int))), x3, x4, none, none] = .nx [some x0, some (.v (.lst (nd (leastN (growN f m))))), some (.v (.int (m : Int))), y3, y4, none, none] := by
  have lf := nodup_lt nf hf
  have z := sz24
  obtain ⟨y4, v4, e⟩ := grow_loop (x0 := x0) (x1 := .v (.lst (nd f))) hm f [] x4 h4 (by simp; omega)
  have e : forM (tgN 4) L_least_meeting_0 (nd f) [some x0, some (.v (.lst (nd f))), some (.v (.int (m : Int))), some (.own []), x4, none, none] = .nx [some x0, some (.v (.lst (nd f))), some (.v (.int (m : Int))), some (.own (nd (growN f m))), y4, none, none] := e
  have lg := growN_len m f
  have w := least_masks_ok (ms := growN f m) (fun y hy => growN_lt hf hy) (by omega)
  refine ⟨some (.v (.lst (nd (growN f m)))), y4, .inr ⟨_, rfl⟩, v4, ?_⟩
  unfold L_least_meeting_1
  generalize nd (leastN (growN f m)) = LL at *
  generalize nd (growN f m) = GG at *
  generalize nd f = FF at *
  rcases h3 with (rfl | ⟨d, rfl⟩) | ⟨g, rfl⟩ <;> rcases h4 with rfl | ⟨d', rfl⟩ <;> simp [e, w]
structure MInv (ps f : List Nat) : Prop where
  lt : ∀ o ∈ f, o < 2 ^ 16
  nd : f.Nodup
  min : ∀ x, x ∈ f ↔ IsMin x ps
theorem minv_nil : MInv [] [0] := ⟨fun o ho => by rw [List.mem_singleton.mp ho]; decide, by simp, fun x => by
  rw [List.mem_singleton]
  constructor
  · rintro rfl
    exact ⟨fun m hm => (nomatch hm), fun g _ s => by have := s.le; omega⟩
  · rintro ⟨_, h⟩
    exact (h 0 (fun m hm => (nomatch hm)) (sub_iff.mpr fun i hi => by simp at hi)).symm⟩
theorem minv_step {ps f : List Nat} {m : Nat} (hm : m < 2 ^ 16) (I : MInv ps f) : MInv (m :: ps) (leastN (growN f m)) := by
  obtain ⟨h1, h2⟩ := least_spec (ms := growN f m) fun y hy => growN_lt I.lt hy
  exact ⟨fun o ho => growN_lt I.lt ((h2 o).mp ho).1, h1, fun x => (h2 x).trans (grow_min hm I.min)⟩
theorem minv_all : ∀ (l ps f : List Nat), (∀ m ∈ l, m < 2 ^ 16) → MInv ps f → MInv (l.reverse ++ ps) (l.foldl (fun f m => leastN (growN f m)) f)
  | [], ps, f, _, I => by simpa using I
  | m :: l, ps, f, h, I => by
    have := minv_all l (m :: ps) _ (fun x hx => h x (List.mem_cons_of_mem _ hx)) (minv_step (h m List.mem_cons_self) I)
    simpa using this
theorem meetN_spec {ms : List Nat} (h : ∀ m ∈ ms, m < 2 ^ 16) : (∀ o ∈ meetN ms, o < 2 ^ 16) ∧ (meetN ms).Nodup ∧ ∀ x, x ∈ meetN ms ↔ IsMin x ms := by
  obtain ⟨h1, h2⟩ := least_spec h
  have I := minv_all (leastN ms) [] [0] (fun m hm => h m ((h2 m).mp hm).1) minv_nil
  refine ⟨I.lt, I.nd, fun x => (I.min x).trans (isMin_congr fun y => ?_)⟩
  rw [List.append_nil]
  have : Hits y (leastN ms).reverse ↔ Hits y (leastN ms) := by unfold Hits; simp
  rw [this]
  exact hits_lst h2
theorem meet_loop {x0 : EV} : ∀ (l ps f : List Nat) (x2 x3 x4 : Option EV), (∀ m ∈ l, m < 2 ^ 16) → MInv ps f → Vl x3 → Vl x4 → ∃ y2 y3 y4, forM (tgN 2) L_least_meeting_1 (nd l) [some x0, some (.v (.lst (nd f))), x2, x3, x4, none, none] = .nx [some x0, some (.v (.lst (nd (l.foldl (fun f m => leastN (growN f m)) f)))), y2, y3, y4, none, none]
  | [], ps, f, x2, x3, x4, _, I, _, _ => ⟨x2, x3, x4, rfl⟩
  | m :: l, ps, f, x2, x3, x4, h, I, h3, h4 => by
    have hm := h m List.mem_cons_self
    obtain ⟨z3, z4, v3, v4, w⟩ := meet_step (x0 := x0) (x3 := x3) (x4 := x4) hm I.lt I.nd (.inl h3) h4
    obtain ⟨y2, y3, y4, e⟩ := meet_loop (x0 := x0) l (m :: ps) (leastN (growN f m)) (some (.v (.int (m : Int)))) z3 z4 (fun x hx => h x (List.mem_cons_of_mem _ hx)) (minv_step hm I) v3 v4
    refine ⟨y2, y3, y4, ?_⟩
    rw [show nd (m :: l) = D.int (m : Int) :: nd l from rfl, forM_c, List.foldl_cons, ← e]
    simp [w]
def ltD (p : Bool × List Nat) : D := if p.1 then .lst (nd p.2) else .tup (nd p.2)
def famD (b : Bool) (Ls : List (Bool × List Nat)) : D := if b then .lst (Ls.map ltD) else .tup (Ls.map ltD)
def mk2 (p : Bool × List Nat) : Nat := maskN p.2
theorem set_of_lt {p : Bool × List Nat} (h : ∀ d ∈ p.2, d < 16) : F_set_of [.v (ltD p)] = .ok (.int (mk2 p : Nat)) [.v (ltD p)] := by
  unfold ltD mk2
  cases p.1 with
  | true => exact set_of_l fun d hd => by have := h d hd; omega
  | false => exact set_of_t fun d hd => by have := h d hd; omega
theorem meeting_ok (b : Bool) {Ls : List (Bool × List Nat)} (h : ∀ p ∈ Ls, ∀ d ∈ p.2, d < 16) (hl : Ls.length ≤ 65536) : F_least_meeting [.v (famD b Ls)] = .ok (.tup ((sortT (meetN (Ls.map mk2))).map lotD)) [.v (famD b Ls)] := by
  have hm : ∀ m ∈ Ls.map mk2, m < 2 ^ 16 := fun m hm => by
    obtain ⟨p, hp, rfl⟩ := List.mem_map.mp hm
    exact maskN_lt (h p hp)
  have z := sz24
  have c : compL [5] (tgN 5) yesT (fnM F_set_of [.p (varM 5)] []) (Ls.map ltD) [some (.v (famD b Ls)), some (.v (.lst [.int 0])), none, none, none, none, none] = .ok (nd (Ls.map mk2)) [some (.v (famD b Ls)), some (.v (.lst [.int 0])), none, none, none, none, none] := by
    have := compL_map (vs := [5]) (g := tgN 5) (te := fnM F_set_of [.p (varM 5)] []) (env := [some (.v (famD b Ls)), some (.v (.lst [.int 0])), none, none, none, none, none]) ltD (fun p => D.int (mk2 p : Int)) (by simp [vsOk]) Ls fun p hp => by
      have w := set_of_lt (h p hp)
      generalize famD b Ls = X at *
      generalize ltD p = A at *
      exact ⟨[some (.v X), some (.v (.lst [.int 0])), none, none, none, some (.v A), none], [some (.v X), some (.v (.lst [.int 0])), none, none, none, some (.v A), none], by simp, by simp [w], rfl⟩
    rw [this]; unfold nd; rw [List.map_map]; rfl
  have w1 := least_masks_ok hm (by rw [List.length_map]; omega)
  obtain ⟨hs1, hs2⟩ := least_spec hm
  obtain ⟨y2, y3, y4, lp⟩ := meet_loop (x0 := .v (famD b Ls)) (leastN (Ls.map mk2)) [] [0] none none none (fun m h0 => hm m ((hs2 m).mp h0).1) minv_nil (.inl rfl) (.inl rfl)
  have lp : forM (tgN 2) L_least_meeting_1 (nd (leastN (Ls.map mk2))) [some (.v (famD b Ls)), some (.v (.lst [.int 0])), none, none, none, none, none] = .nx [some (.v (famD b Ls)), some (.v (.lst (nd (meetN (Ls.map mk2))))), y2, y3, y4, none, none] := lp
  obtain ⟨q1, q2, _⟩ := meetN_spec hm
  have w2 := sorted_lots_ok q1 (by have := nodup_lt q2 q1; omega)
  have l1 : (Ls.map ltD).length ≤ sizeLine := by rw [List.length_map]; omega
  have l2 : (nd (Ls.map mk2)).length ≤ sizeLine := by rw [nd_len, List.length_map]; omega
  have z1 : (1 : Nat) ≤ sizeLine := by omega
  generalize (sortT (meetN (Ls.map mk2))).map lotD = R at *
  generalize nd (meetN (Ls.map mk2)) = M at *
  generalize nd (leastN (Ls.map mk2)) = LM at *
  generalize nd (Ls.map mk2) = MM at *
  unfold famD at *
  generalize Ls.map ltD = LL at *
  cases b with
  | true =>
    simp only [if_true] at *
    simp [u_least_meeting, z1, l1, l2, c, w1, lp, w2]
  | false =>
    simp only [Bool.false_eq_true, if_false] at *
    simp [u_least_meeting, z1, l1, l2, c, w1, lp, w2]
end Lw
set_option linter.all false
set_option Elab.async false
set_option maxRecDepth 100000
set_option maxHeartbeats 4000000
set_option exponentiation.threshold 5000
namespace Lw
open PySem Ue
theorem asc_bits {l : List Nat} (ha : l.Pairwise (· < ·)) (h : ∀ d ∈ l, d < 16) : l = bitsN (maskN l) := by
  have hb : (bitsN (maskN l)).Pairwise (· < ·) := List.Pairwise.sublist List.filter_sublist List.pairwise_lt_range
  have nd1 : l.Nodup := ha.imp fun h => by omega
  have nd2 : (bitsN (maskN l)).Nodup := hb.imp fun h => by omega
  refine List.Perm.eq_of_pairwise (le := (· ≤ ·)) (fun a b _ _ h1 h2 => Nat.le_antisymm h1 h2) (ha.imp fun h => by omega) (hb.imp fun h => by omega) ((List.perm_ext_iff_of_nodup nd1 nd2).mpr fun i => ?_)
  rw [bitsN_mem (maskN_lt h), maskN_bit]
theorem bits_asc (m : Nat) : (bitsN m).Pairwise (· < ·) := List.Pairwise.sublist List.filter_sublist List.pairwise_lt_range
theorem bits_nodup (m : Nat) : (bitsN m).Nodup := (bits_asc m).imp fun h => by omega
theorem pw_i (d : Nat) : ((2 ^ d : Nat) : Int) = (2 : Int) ^ d := by rw [Int.natCast_pow]; rfl
def sumP (l : List Nat) : Nat := (l.map fun d => 2 ^ d).sum
theorem sumP_mask : ∀ {l : List Nat}, l.Nodup → sumP l = maskN l
  | [], _ => rfl
  | d :: l, h => by
    obtain ⟨h1, h2⟩ := List.nodup_cons.mp h
    have ih := sumP_mask h2
    have e : sumP (d :: l) = 2 ^ d + sumP l := by unfold sumP; rw [List.map_cons, List.sum_cons]
    have b : (maskN l).testBit d = false := by
      cases q : (maskN l).testBit d with
      | false => rfl
      | true => exact absurd (maskN_bit.mp q) h1
    rw [e, ih, Nat.add_comm, add_day b]
    refine Nat.eq_of_testBit_eq fun i => ?_
    have k1 : (maskN (d :: l)).testBit i = true ↔ (maskN l ||| 2 ^ d).testBit i = true := by
      rw [maskN_bit, orp_bit, maskN_bit, List.mem_cons]
      exact or_comm
    cases q : (maskN l ||| 2 ^ d).testBit i with
    | true => exact (k1.mpr q).symm
    | false =>
      cases r : (maskN (d :: l)).testBit i with
      | false => rfl
      | true => rw [k1.mp r] at q; cases q
theorem nat_sum {α : Type} (f : α → Nat) : ∀ l : List α, (l.map fun i => ((f i : Nat) : Int)).sum = (((l.map f).sum : Nat) : Int)
  | [] => rfl
  | d :: l => by rw [List.map_cons, List.map_cons, List.sum_cons, List.sum_cons, nat_sum f l, Int.natCast_add]
theorem sum_D {α : Type} (f : α → Nat) (l : List α) : sumAD [.lst (l.map fun i => D.int ((f i : Nat) : Int))] = some (.int (((l.map f).sum : Nat) : Int)) := by
  have sm := sumA_l (ns := l.map fun i => ((f i : Nat) : Int))
  rw [nat_sum, List.map_map] at sm
  exact sm
theorem sum_mask {l : List Nat} (h : l.Nodup) : sumAD [.lst (l.map fun d => D.int ((2 ^ d : Nat) : Int))] = some (.int ((maskN l : Nat) : Int)) := by
  rw [sum_D, ← sumP_mask h]; rfl
theorem law_set_ok {X : D} {l : List Nat} (hX : X = .lst (nd l) ∨ X = .tup (nd l)) (hn : l.Nodup) (h : ∀ d ∈ l, d < 16) : F_law_set [.v X] = .ok (.int ((maskN l : Nat) : Int)) [.v X] := by
  have c : compL [1] (tgN 1) yesT (op2M shlI (cM (.int 1)) (varM 1)) (nd l) [some (.v X), none] = .ok (l.map fun d => D.int ((2 ^ d : Nat) : Int)) [some (.v X), none] := by
    refine compL_map (fun d : Nat => D.int (d : Int)) _ (by simp [vsOk]) l fun d hd => ?_
    have sh := shl1 (i := d) (by have := h d hd; omega)
    have pw := pw_i d
    refine ⟨[some (.v X), some (.v (.int (d : Int)))], [some (.v X), some (.v (.int (d : Int)))], by simp, by simp [sh, pw], rfl⟩
  have sm := sum_mask hn
  have ll := nodup_lt hn h
  have l1 : (nd l).length ≤ sizeLine := by rw [nd_len]; exact z_le (by omega)
  have l2 : (l.map fun d => D.int ((2 ^ d : Nat) : Int)).length ≤ sizeLine := by rw [List.length_map]; exact z_le (by omega)
  generalize (l.map fun d => D.int ((2 ^ d : Nat) : Int)) = LL at *
  generalize nd l = A at *
  rcases hX with rfl | rfl <;> simp [u_law_set, l1, l2, c, sm]
theorem range_12 {m : Nat} (h : m < 2 ^ 12) : (List.range 12).filter m.testBit = bitsN m := by
  unfold bitsN
  rw [show List.range 16 = List.range 12 ++ [12, 13, 14, 15] from rfl, List.filter_append]
  have : [12, 13, 14, 15].filter m.testBit = [] := by
    rw [List.filter_eq_nil_iff]
    intro i hi
    have hi : 12 ≤ i := by
      simp only [List.mem_cons, List.not_mem_nil, or_false] at hi
      omega
    simp [hi_bit h hi]
  rw [this, List.append_nil]
theorem law_lot_ok {m : Nat} (h : m < 2 ^ 12) : F_law_lot [.v (.int (m : Int))] = .ok (lotD m) [.v (.int (m : Int))] := by
  have c := compL_mapF (vs := [1]) (g := tgN 1) (tt := cmpM eqS (op2M andI (op2M shrI (varM 0) (varM 1)) (cM (.int 1))) (cM (.int 1))) (te := varM 1) (env := [some (.v (.int (m : Int))), none]) (fun d : Nat => D.int (d : Int)) (fun d : Nat => D.int (d : Int)) m.testBit (by simp [vsOk]) (List.range 12) fun d _ => by
    have bi := bit_int m d
    refine ⟨[some (.v (.int (m : Int))), some (.v (.int (d : Int)))], [some (.v (.int (m : Int))), some (.v (.int (d : Int)))], by simp, ?_, fun _ => rfl, fun _ => ⟨[some (.v (.int (m : Int))), some (.v (.int (d : Int)))], by simp, rfl⟩⟩
    generalize (m : Int) = wi at *
    cases qb : m.testBit d with
    | false => rw [qb] at bi; simp at bi; simp [bi]
    | true => rw [qb] at bi; simp at bi; simp [bi]
  rw [range_12 h] at c
  have r12 : (List.range 12).map (fun d : Nat => D.int (d : Int)) = rngL 0 12 := by simp [rngL]
  rw [r12] at c
  have l2 := bitsN_len m
  have l1 : ((bitsN m).map fun d : Nat => D.int (d : Int)).length ≤ sizeLine := by rw [List.length_map]; exact z_le (by omega)
  have l0 : (rngL 0 12).length ≤ sizeLine := z_le (by decide)
  unfold lotD nd
  generalize ((bitsN m).map fun d : Nat => D.int (d : Int)) = N at *
  simp [u_law_lot, l0, l1, c]
def prD' (m : Nat) : D := .tup [.int ((lotI m).length : Int), lotD m]
theorem law_sorted_ok {ms : List Nat} (h : ∀ m ∈ ms, m < 2 ^ 12) (hl : ms.length ≤ sizeLine) : F_law_sorted [.v (.lst (nd ms))] = .ok (.lst ((sortT ms).map lotD)) [.v (.lst (nd ms))] := by
  have z2 : (2 : Nat) ≤ sizeLine := z_le (by decide)
  have c : compL [1] (tgN 1) yesT (tupM [(callM lenD [(fnM F_law_lot [.p (varM 1)] [])]), (fnM F_law_lot [.p (varM 1)] [])]) (nd ms) [some (.v (.lst (nd ms))), none, none] = .ok (ms.map prD') [some (.v (.lst (nd ms))), none, none] := by
    refine compL_map (fun i : Nat => D.int (i : Int)) _ (by simp [vsOk]) ms fun m hm => ?_
    have w := law_lot_ok (h m hm)
    have e : prD' m = .tup [.int ((nd (bitsN m)).length : Int), lotD m] := by unfold prD'; rw [nd_len]; unfold lotI; rw [List.length_map]
    rw [e]
    unfold lotD at *
    generalize nd (bitsN m) = B at *
    generalize nd ms = A at *
    exact ⟨[some (.v (.lst A)), some (.v (.int (m : Int))), none], [some (.v (.lst A)), some (.v (.int (m : Int))), none], by simp, by simp [w, z2], rfl⟩
  have s : sortDD [.lst (ms.map prD')] = some (.lst ((sortT ms).map prD')) := sortDD_map (f := prD') (kz := lotK) hl (fun m hm => dPy_of (by unfold prD'; rw [lotD_eq]; exact lenKey_toPy _) (lenKey_flat _)) (fun m _ => lenKey_depth _) (fun x _ y _ => lenKey_alike _ _) (sortL_tup fun x _ => rfl)
  have c2 : compL [2] (tgN 2) yesT (op2M ixD (varM 2) (cM (.int 1))) ((sortT ms).map prD') [some (.v (.lst (nd ms))), none, none] = .ok ((sortT ms).map lotD) [some (.v (.lst (nd ms))), none, none] := by
    refine compL_map prD' _ (by simp [vsOk]) (sortT ms) fun m hm => ?_
    unfold prD'
    generalize lotD m = B at *
    generalize nd ms = A at *
    exact ⟨[some (.v (.lst A)), none, some (.v (.tup [.int ((lotI m).length : Int), B]))], [some (.v (.lst A)), none, some (.v (.tup [.int ((lotI m).length : Int), B]))], by simp, by simp [L2.atI, L2.ixN], rfl⟩
  have l1 : (nd ms).length ≤ sizeLine := by rw [nd_len]; exact hl
  have l2 : (ms.map prD').length ≤ sizeLine := by rw [List.length_map]; exact hl
  have l3 : ((sortT ms).map prD').length ≤ sizeLine := by rw [List.length_map, sortT_len]; exact hl
  have l4 : ((sortT ms).map lotD).length ≤ sizeLine := by rw [List.length_map, sortT_len]; exact hl
  generalize (sortT ms).map lotD = T at *
  generalize (sortT ms).map prD' = T' at *
  generalize ms.map prD' = M at *
  generalize nd ms = A at *
  simp [u_law_sorted, l1, l2, l3, l4, c, s, c2]
theorem is_number_ok (n : Int) : F_law_is_number [.v (.int n)] = .ok (.bl true) [.v (.int n)] := by simp [u_law_is_number]
theorem pop_at {ds : List D} {j : Nat} (h : j < ds.length) (hl : ds.length < 1000) : popAtG ds [.int (j : Int)] = some (ds[j], ds.eraseIdx j) := by
  have ix : L2.ixN ds.length (j : Int) = some j := by unfold L2.ixN; simp [h]
  unfold popAtG popAtI
  simp only []
  rw [if_pos (by omega), ix]
  simp [h]
theorem pl_1 {x1 x4 x5 : Option EV} {left found : List D} {j : Nat} {B B1 : List D} (e : F_law_take [.own B, .v (.int (left.length : Int))] = .ok (.int (j : Int)) [.own B1, .v (.int (left.length : Int))]) : (fnM F_law_take [.o 0, .p (callM lenD [(ovarM 2)])] []) [some (.own B), x1, some (.own left), some (.own found), x4, x5] = .ok (.int (j : Int)) [some (.own B1), x1, some (.own left), some (.own found), x4, x5] := by
  simp [e]
theorem pl_2 {x1 x4 x5 : Option EV} {left found LE : List D} {lj : D} {j : Nat} {B B1 : List D} {g : List D → List D → Option (D × List D)} {m : M} (po : g left [.int (j : Int)] = some (lj, LE)) (e : m [some (.own B), x1, some (.own left), some (.own found), x4, x5] = .ok (.int (j : Int)) [some (.own B1), x1, some (.own left), some (.own found), x4, x5]) : (mtM 2 g [m]) [some (.own B), x1, some (.own left), some (.own found), x4, x5] = .ok lj [some (.own B1), x1, some (.own LE), some (.own found), x4, x5] := by
  simp [e, po]
theorem pl_3 {x1 x4 x5 : Option EV} {left found LE : List D} {lj : D} {B B1 : List D} {m : M} (z : found.length < sizeLine) (e : m [some (.own B), x1, some (.own left), some (.own found), x4, x5] = .ok lj [some (.own B1), x1, some (.own LE), some (.own found), x4, x5]) : (exprM (mtM 3 appG [m])) [some (.own B), x1, some (.own left), some (.own found), x4, x5] = .nx [some (.own B1), x1, some (.own LE), some (.own (found ++ [lj])), x4, x5] := by
  simp [e, appG, z]
theorem place_step {x1 x4 x5 : Option EV} {left found LE : List D} {lj : D} {j : Nat} {b b1 : Int × Int × Int} (e : F_law_take [.own (bg b), .v (.int (left.length : Int))] = .ok (.int (j : Int)) [.own (bg b1), .v (.int (left.length : Int))]) (po : popAtG left [.int (j : Int)] = some (lj, LE)) (z : found.length < sizeLine) :
    L_law_places_0 [some (.own (bg b)), x1, some (.own left), some (.own found), x4, x5] = .nx [some (.own (bg b1)), x1, some (.own LE), some (.own (found ++ [lj])), x4, x5] := by
  unfold L_law_places_0
  exact pl_3 z (pl_2 po (pl_1 e))
theorem places_loop {x1 x5 : Option EV} : ∀ (ks : List D) (left found : List Nat) (b : Int × Int × Int) (x4 : Option EV), ks.length ≤ left.length → left.length + found.length ≤ 100 → (left ++ found).Nodup → ∃ (left' found' : List Nat) (b' : Int × Int × Int) (y4 : Option EV), (∀ x, x ∈ left' ++ found' ↔ x ∈ left ++ found) ∧ (left' ++ found').Nodup ∧ found'.length = found.length + ks.length ∧
    forM (tgN 4) L_law_places_0 ks [some (.own (bg b)), x1, some (.own (nd left)), some (.own (nd found)), x4, x5] = .nx [some (.own (bg b')), x1, some (.own (nd left')), some (.own (nd found')), y4, x5]
  | [], left, found, b, x4, _, _, hn => ⟨left, found, b, x4, fun _ => Iff.rfl, hn, rfl, rfl⟩
  | k :: ks, left, found, b, x4, h1, h2, hn => by
    have h1 : ks.length + 1 ≤ left.length := h1
    obtain ⟨j, b1, e, hj⟩ := take_ok b (n := left.length) (by omega) (by omega)
    have pm : (left.eraseIdx j ++ (found ++ [left[j]])).Perm (left ++ found) := by
      have e1 : left.take j ++ left[j] :: left.drop (j + 1) = left := by rw [← List.drop_eq_getElem_cons, List.take_append_drop]
      have q : (left[j] :: left.eraseIdx j).Perm left := by
        rw [List.eraseIdx_eq_take_drop_succ]
        exact (List.perm_middle.symm).trans (List.Perm.of_eq e1)
      refine (List.perm_append_comm_assoc ..).trans ?_
      refine (List.Perm.append_left found ?_).trans List.perm_append_comm
      exact (List.perm_append_comm (l₁ := left.eraseIdx j) (l₂ := [left[j]])).trans q
    have el : (left.eraseIdx j).length = left.length - 1 := List.length_eraseIdx_of_lt hj
    obtain ⟨l', f', b', y4, q1, q2, q3, q4⟩ := places_loop (x1 := x1) (x5 := x5) ks (left.eraseIdx j) (found ++ [left[j]]) b1 (some (.v k)) (by omega) (by rw [el, List.length_append]; simp; omega) (pm.nodup_iff.mpr hn)
    refine ⟨l', f', b', y4, fun x => (q1 x).trans pm.mem_iff, q2, by rw [q3, List.length_append]; simp; omega, ?_⟩
    have po := pop_at (ds := nd left) (j := j) (by rw [nd_len]; exact hj) (by rw [nd_len]; omega)
    have e2 : (nd left)[j]'(by rw [nd_len]; exact hj) = D.int ((left[j] : Nat) : Int) := by simp [nd]
    have e3 : (nd left).eraseIdx j = nd (left.eraseIdx j) := by unfold nd; rw [List.eraseIdx_eq_take_drop_succ, List.eraseIdx_eq_take_drop_succ, List.map_append, List.map_take, List.map_drop]
    rw [e2, e3] at po
    have st := place_step (x1 := x1) (x4 := some (.v k)) (x5 := x5) (left := nd left) (found := nd found) (LE := nd (left.eraseIdx j)) (j := j) (b := b) (b1 := b1) (by rw [nd_len]; exact e) po (Nat.lt_of_lt_of_le (by rw [nd_len]; omega : (nd found).length < 101) (z_le (by omega)))
    rw [nd_snoc] at st
    rw [forM_c, ← q4]
    simp [st]
theorem dInts_nd (l : List Nat) : dInts (nd l) = some (l.map fun i : Nat => (i : Int)) := by
  rw [nd_eq]
  exact dInts_map _
theorem sorted_nd {l : List Nat} (hn : l.Nodup) (h : ∀ d ∈ l, d < 16) : sortedD [.lst (nd l)] = some (.lst (nd (bitsN (maskN l)))) := by
  show (dInts (nd l)).map _ = _
  rw [dInts_nd]
  show some (D.lst ((sortI (l.map fun i : Nat => (i : Int))).map D.int)) = _
  have pm : (bitsN (maskN l)).Perm l := (List.perm_ext_iff_of_nodup (bits_nodup _) hn).mpr fun i => by rw [bitsN_mem (maskN_lt h), maskN_bit]
  have e : sortI (l.map fun i : Nat => (i : Int)) = (bitsN (maskN l)).map fun i : Nat => (i : Int) := sorted_uniq ((sortI_perm _).trans (pm.symm.map _)) (sortI_sorted _) (by
    rw [List.pairwise_map]
    exact (bits_asc _).imp fun h => by omega)
  rw [e, ← nd_eq]
theorem places_ok (b : Int × Int × Int) {k : Nat} (h : k ≤ 12) : ∃ (W : Nat) (b' : Int × Int × Int), F_law_places [.own (bg b), .v (.int (k : Int))] = .ok (.lst (nd (bitsN W))) [.own (bg b'), .v (.int (k : Int))] ∧ W < 2 ^ 12 ∧ (bitsN W).length = k := by
  have r1 : (rngL 0 k).length = k := by simp [rngL]
  obtain ⟨l', f', b', y4, q1, q2, q3, q4⟩ := places_loop (x1 := some (.v (.int (k : Int)))) (x5 := none) (rngL 0 k) (List.range 12) [] b none (by rw [r1, List.length_range]; exact h) (by simp) (by simp [List.nodup_range])
  have hf : ∀ d ∈ f', d < 12 := fun d hd => by
    have := (q1 d).mp (List.mem_append_right _ hd)
    simpa using this
  have nf : f'.Nodup := (List.nodup_append.mp q2).2.1
  have s := sorted_nd nf fun d hd => by have := hf d hd; omega
  refine ⟨maskN f', b', ?_, maskN_lt hf, ?_⟩
  · have c : compL [5] (tgN 5) yesT (varM 5) (rngL 0 12) [some (.own (bg b)), some (.v (.int (k : Int))), none, none, none, none] = .ok (nd (List.range 12)) [some (.own (bg b)), some (.v (.int (k : Int))), none, none, none, none] := by
      have := compL_map (vs := [5]) (g := tgN 5) (te := varM 5) (env := [some (.own (bg b)), some (.v (.int (k : Int))), none, none, none, none]) (fun d : Nat => D.int (d : Int)) (fun d : Nat => D.int (d : Int)) (by simp [vsOk]) (List.range 12) fun d _ => by
        generalize bg b = B0 at *
        exact ⟨[some (.own B0), some (.v (.int (k : Int))), none, none, none, some (.v (.int (d : Int)))], [some (.own B0), some (.v (.int (k : Int))), none, none, none, some (.v (.int (d : Int)))], by simp, by simp, rfl⟩
      exact this
    have l0 : (rngL 0 12).length ≤ sizeLine := z_le (by decide)
    have l1 : (nd (List.range 12)).length ≤ sizeLine := z_le (by decide)
    have a1 : -4611686018427387904 ≤ (k : Int) := by omega
    have a2 : (k : Int) < 4611686018427387904 := by omega
    have q4 : forM (tgN 4) L_law_places_0 (rngL 0 k) [some (.own (bg b)), some (.v (.int (k : Int))), some (.own (nd (List.range 12))), some (.own []), none, none] = .nx [some (.own (bg b')), some (.v (.int (k : Int))), some (.own (nd l')), some (.own (nd f')), y4, none] := q4
    generalize nd (bitsN (maskN f')) = RR at *
    generalize nd f' = FF at *
    generalize nd l' = L' at *
    generalize nd (List.range 12) = R12 at *
    generalize bg b = B0 at *
    generalize bg b' = B1 at *
    simp [u_law_places, l0, l1, c, a1, a2, q4, s]
  · have pm : (bitsN (maskN f')).Perm f' := (List.perm_ext_iff_of_nodup (bits_nodup _) nf).mpr fun i => by rw [bitsN_mem (maskN_lt fun d hd => by have := hf d hd; omega), maskN_bit]
    rw [pm.length_eq, q3, r1]; simp
end Lw
set_option linter.all false
set_option Elab.async false
set_option maxRecDepth 100000
set_option maxHeartbeats 4000000
set_option exponentiation.threshold 5000
namespace Lw
open PySem Ue
def gP (P : List Nat) (i : Nat) : Nat := P.getD i 0
def pickP (P : List Nat) (r : Nat) : List Nat := ((List.range P.length).filter r.testBit).map (gP P)
def hitB (x : Nat) (F : List Nat) : Bool := F.all fun m => decide (x &&& m ≠ 0)
def fewN (P : List Nat) (x : Nat) : List Nat := (P.filter x.testBit).map fun n => br x (2 ^ n)
def okB (P F : List Nat) (x : Nat) : Bool := hitB x F && !((fewN P x).any fun p => hitB p F)
def rowM (P : List Nat) (r : Nat) : Nat := maskN (pickP P r)
def lawMeet (P F : List Nat) : List Nat := ((List.range (2 ^ P.length)).map (rowM P)).filter (okB P F)
theorem hitB_iff {x : Nat} {F : List Nat} : hitB x F = true ↔ Hits x F := by
  unfold hitB Hits
  rw [List.all_eq_true]
  exact forall_congr' fun m => forall_congr' fun _ => decide_eq_true_iff
theorem gP_get {P : List Nat} {i : Nat} (h : i < P.length) : gP P i = P[i] := by unfold gP; rw [List.getD_eq_getElem?_getD, List.getElem?_eq_getElem h]; rfl
theorem gP_mem {P : List Nat} {i : Nat} (h : i < P.length) : gP P i ∈ P := by rw [gP_get h]; exact List.getElem_mem h
theorem gP_inj {P : List Nat} (hn : P.Nodup) {i j : Nat} (hi : i < P.length) (hj : j < P.length) (e : gP P i = gP P j) : i = j := by
  rw [gP_get hi, gP_get hj] at e
  exact (List.getElem_inj hn).mp e
theorem pick_mem {P : List Nat} {r d : Nat} : d ∈ pickP P r ↔ ∃ i, i < P.length ∧ r.testBit i = true ∧ gP P i = d := by
  unfold pickP
  rw [List.mem_map]
  exact exists_congr fun i => by rw [List.mem_filter, List.mem_range, and_assoc]
theorem pick_sub {P : List Nat} {r d : Nat} (h : d ∈ pickP P r) : d ∈ P := by
  obtain ⟨i, h1, _, rfl⟩ := pick_mem.mp h
  exact gP_mem h1
theorem map_gP : ∀ P : List Nat, (List.range P.length).map (gP P) = P := fun P => by
  refine List.ext_getElem (by simp) fun i h1 h2 => ?_
  rw [List.getElem_map, List.getElem_range, gP_get h2]
theorem pick_asc {P : List Nat} (ha : P.Pairwise (· < ·)) (r : Nat) : (pickP P r).Pairwise (· < ·) := by
  have : (pickP P r).Sublist P := by
    have := (List.filter_sublist (p := r.testBit) (l := List.range P.length)).map (gP P)
    rwa [map_gP] at this
  exact ha.sublist this
theorem pick_nodup {P : List Nat} (hn : P.Nodup) (r : Nat) : (pickP P r).Nodup := by
  have : (pickP P r).Sublist P := by
    have := (List.filter_sublist (p := r.testBit) (l := List.range P.length)).map (gP P)
    rwa [map_gP] at this
  exact hn.sublist this
theorem rowM_bit {P : List Nat} (hn : P.Nodup) {r i : Nat} (hi : i < P.length) : (rowM P r).testBit (gP P i) = true ↔ r.testBit i = true := by
  unfold rowM
  rw [maskN_bit, pick_mem]
  exact ⟨fun ⟨j, h1, h2, h3⟩ => gP_inj hn h1 hi h3 ▸ h2, fun h => ⟨i, hi, h, rfl⟩⟩
theorem rowM_inj {P : List Nat} (hn : P.Nodup) {r r' : Nat} (h1 : r < 2 ^ P.length) (h2 : r' < 2 ^ P.length) (e : rowM P r = rowM P r') : r = r' := Nat.eq_of_testBit_eq fun i => by
  rcases Nat.lt_or_ge i P.length with q | q
  · have k := rowM_bit hn (r := r) q
    rw [e, rowM_bit hn q] at k
    cases a : r.testBit i with
    | true => exact (k.mpr a).symm
    | false =>
      cases b : r'.testBit i with
      | false => rfl
      | true => rw [k.mp b] at a; cases a
  · rw [hi_bit h1 q, hi_bit h2 q]
theorem rowM_onto {P : List Nat} (hn : P.Nodup) {x : Nat} (hx : ∀ i, x.testBit i = true → i ∈ P) : ∃ r, r < 2 ^ P.length ∧ rowM P r = x := by
  refine ⟨maskN ((List.range P.length).filter fun i => x.testBit (gP P i)), maskN_lt fun d hd => List.mem_range.mp (List.mem_filter.mp hd).1, Nat.eq_of_testBit_eq fun i => ?_⟩
  have k : (rowM P (maskN ((List.range P.length).filter fun i => x.testBit (gP P i)))).testBit i = true ↔ x.testBit i = true := by
    unfold rowM
    rw [maskN_bit, pick_mem]
    constructor
    · rintro ⟨j, h1, h2, rfl⟩
      exact (List.mem_filter.mp (maskN_bit.mp h2)).2
    · intro h
      obtain ⟨j, hj, e⟩ := List.mem_iff_getElem.mp (hx i h)
      refine ⟨j, hj, ?_, (gP_get hj).trans e⟩
      rw [maskN_bit, List.mem_filter, List.mem_range, gP_get hj, e]
      exact ⟨hj, h⟩
  cases q : x.testBit i with
  | true => exact k.mpr q
  | false =>
    cases b : (rowM P (maskN ((List.range P.length).filter fun i => x.testBit (gP P i)))).testBit i with
    | false => rfl
    | true => rw [k.mp b] at q; cases q
theorem lawMeet_spec {P F : List Nat} (hn : P.Nodup) (hP : ∀ d ∈ P, d < 12) (hF : ∀ m ∈ F, ∀ i, m.testBit i = true → i ∈ P) : (lawMeet P F).Nodup ∧ ∀ x, x ∈ lawMeet P F ↔ IsMin x F := by
  constructor
  · refine List.Nodup.sublist List.filter_sublist ?_
    refine List.Pairwise.map _ (R := fun a b => a < b ∧ b < 2 ^ P.length) (fun a b h e => ?_) ?_
    · have := rowM_inj hn (Nat.lt_trans h.1 h.2) h.2 e
      omega
    · exact List.Pairwise.imp_of_mem (fun {a b} _ hb h => ⟨h, List.mem_range.mp hb⟩) List.pairwise_lt_range
  · intro x
    have key : ∀ x, (∀ i, x.testBit i = true → i ∈ P) → (okB P F x = true ↔ IsMin x F) := fun x hx => by
      have hx12 : x < 2 ^ 12 := lt_of_bits fun i hi => hP i (hx i hi)
      rw [min_one 12 hx12]
      unfold okB
      rw [Bool.and_eq_true, hitB_iff, Bool.not_eq_true', List.any_eq_false]
      refine and_congr_right fun _ => ⟨fun h n _ hb hh => ?_, fun h p hp => ?_⟩
      · exact h (br x (2 ^ n)) (List.mem_map.mpr ⟨n, List.mem_filter.mpr ⟨hx n hb, hb⟩, rfl⟩) (hitB_iff.mpr hh)
      · obtain ⟨n, hn', rfl⟩ := List.mem_map.mp hp
        obtain ⟨h1, h2⟩ := List.mem_filter.mp hn'
        exact fun z => h n (hP n h1) h2 (hitB_iff.mp z)
    unfold lawMeet
    rw [List.mem_filter]
    constructor
    · rintro ⟨h1, h2⟩
      obtain ⟨r, _, rfl⟩ := List.mem_map.mp h1
      exact (key _ fun i hi => pick_sub (maskN_bit.mp hi)).mp h2
    · intro h
      have hx : ∀ i, x.testBit i = true → i ∈ P := fun i hi => by
        have e := h.2 (x &&& maskN P) (fun m hm => by
          obtain ⟨j, h1, h2⟩ := and_ne.mp (h.1 m hm)
          exact and_ne.mpr ⟨j, by rw [Nat.testBit_and, h1, maskN_bit.mpr (hF m hm j h2)]; rfl, h2⟩) (sub_iff.mpr fun j hj => by rw [Nat.testBit_and] at hj; exact (Bool.and_eq_true_iff.mp hj).1)
        have : (x &&& maskN P).testBit i = true := by rw [e]; exact hi
        rw [Nat.testBit_and] at this
        exact maskN_bit.mp (Bool.and_eq_true_iff.mp this).2
      refine ⟨?_, (key x hx).mpr h⟩
      obtain ⟨r, h1, h2⟩ := rowM_onto hn hx
      exact List.mem_map.mpr ⟨r, List.mem_range.mpr h1, h2⟩
theorem enum_nd (P : List Nat) : enumL (nd P) = (List.range P.length).map fun i : Nat => D.tup [.int (i : Int), .int ((gP P i : Nat) : Int)] := by
  unfold enumL
  rw [nd_len]
  refine List.map_congr_left fun i hi => ?_
  have hi := List.mem_range.mp hi
  rw [gP_get hi, List.getD_eq_getElem?_getD, List.getElem?_eq_getElem (by rw [nd_len]; exact hi)]
  simp [nd]
section
variable {x0 x1 x3 : EV} {x5 x6 : Option EV} {W r x : Nat} {P F : List Nat}
theorem mt_c1 (hP : ∀ d ∈ P, d < 12) (h6 : Vl x6) : compL [7, 8] (tgT [(tgN 7), (tgN 8)]) (cmpM eqS (op2M andI (op2M shrI (varM 4) (varM 7)) (cM (.int 1))) (cM (.int 1))) (op2M shlI (cM (.int 1)) (varM 8)) (enumL (nd P)) [some x0, some x1, some (.v (.int (W : Int))), some x3, some (.v (.int (r : Int))), x5, x6, none, none, none, none] = .ok ((pickP P r).map fun d => D.int ((2 ^ d : Nat) : Int)) [some x0, some x1, some (.v (.int (W : Int))), some x3, some (.v (.int (r : Int))), x5, x6, none, none, none, none] := by
  have c := compL_mapF (vs := [7, 8]) (g := tgT [(tgN 7), (tgN 8)]) (tt := cmpM eqS (op2M andI (op2M shrI (varM 4) (varM 7)) (cM (.int 1))) (cM (.int 1))) (te := op2M shlI (cM (.int 1)) (varM 8)) (env := [some x0, some x1, some (.v (.int (W : Int))), some x3, some (.v (.int (r : Int))), x5, x6, none, none, none, none]) (fun i : Nat => D.tup [.int (i : Int), .int ((gP P i : Nat) : Int)]) (fun i : Nat => D.int ((2 ^ gP P i : Nat) : Int)) r.testBit (by simp [vsOk]) (List.range P.length) fun i hi => by
    have bi := bit_int r i
    have sh := shl1 (i := gP P i) (by have := hP _ (gP_mem (List.mem_range.mp hi)); omega)
    have pw := pw_i (gP P i)
    generalize gP P i = g at *
    refine ⟨[some x0, some x1, some (.v (.int (W : Int))), some x3, some (.v (.int (r : Int))), x5, x6, some (.v (.int (i : Int))), some (.v (.int (g : Int))), none, none], [some x0, some x1, some (.v (.int (W : Int))), some x3, some (.v (.int (r : Int))), x5, x6, some (.v (.int (i : Int))), some (.v (.int (g : Int))), none, none], by simp, ?_, fun _ => rfl, fun _ => ⟨[some x0, some x1, some (.v (.int (W : Int))), some x3, some (.v (.int (r : Int))), x5, x6, some (.v (.int (i : Int))), some (.v (.int (g : Int))), none, none], by simp [sh, pw], rfl⟩⟩
    generalize (r : Int) = wi at *
    cases qb : r.testBit i with
    | false => rw [qb] at bi; simp at bi; simp [bi]
    | true => rw [qb] at bi; simp at bi; simp [bi]
  rw [enum_nd, c]
  unfold pickP
  rw [List.map_map]; rfl
theorem mt_c2 {x10 : Option EV} {x2 x4 : EV} (h6 : Vl x6) : compL [9] (tgN 9) yesT (bV (cmpM neS (op2M andI (varM 5) (varM 9)) (cM (.int 0)))) (nd F) [some x0, some x1, some x2, some x3, some x4, some (.v (.int (x : Int))), x6, none, none, none, x10] = .ok (F.map fun m => D.bl (decide (x &&& m ≠ 0))) [some x0, some x1, some x2, some x3, some x4, some (.v (.int (x : Int))), x6, none, none, none, x10] := by
  refine compL_map (fun i : Nat => D.int (i : Int)) _ (by simp [vsOk]) F fun m hm => ?_
  have b := bAnd x m
  have e : decide (((x &&& m : Nat) : Int) = 0) = decide (x &&& m = 0) := decide_eq_decide.mpr (by omega)
  refine ⟨[some x0, some x1, some x2, some x3, some x4, some (.v (.int (x : Int))), x6, none, none, some (.v (.int (m : Int))), x10], [some x0, some x1, some x2, some x3, some x4, some (.v (.int (x : Int))), x6, none, none, some (.v (.int (m : Int))), x10], by simp, ?_, rfl⟩
  by_cases z : x &&& m = 0
  · rw [z] at b; simp [b, z]
  · have z' : ¬ ((x &&& m : Nat) : Int) = 0 := by omega
    rw [decide_eq_true z]
    generalize ((x &&& m : Nat) : Int) = XM at *
    simp [b, z']
theorem mt_c2' {p : Nat} {x2 x4 x5 x6 : EV} : compL [9] (tgN 9) yesT (bV (cmpM neS (op2M andI (varM 10) (varM 9)) (cM (.int 0)))) (nd F) [some x0, some x1, some x2, some x3, some x4, some x5, some x6, none, none, none, some (.v (.int (p : Int)))] = .ok (F.map fun m => D.bl (decide (p &&& m ≠ 0))) [some x0, some x1, some x2, some x3, some x4, some x5, some x6, none, none, none, some (.v (.int (p : Int)))] := by
  refine compL_map (fun i : Nat => D.int (i : Int)) _ (by simp [vsOk]) F fun m hm => ?_
  have b := bAnd p m
  refine ⟨[some x0, some x1, some x2, some x3, some x4, some x5, some x6, none, none, some (.v (.int (m : Int))), some (.v (.int (p : Int)))], [some x0, some x1, some x2, some x3, some x4, some x5, some x6, none, none, some (.v (.int (m : Int))), some (.v (.int (p : Int)))], by simp, ?_, rfl⟩
  by_cases z : p &&& m = 0
  · rw [z] at b; simp [b, z]
  · have z' : ¬ ((p &&& m : Nat) : Int) = 0 := by omega
    rw [decide_eq_true z]
    generalize ((p &&& m : Nat) : Int) = XM at *
    simp [b, z']
theorem mt_c3 {x2 x4 : EV} (hP : ∀ d ∈ P, d < 12) (h6 : Vl x6) : compL [8] (tgN 8) (cmpM eqS (op2M andI (op2M shrI (varM 5) (varM 8)) (cM (.int 1))) (cM (.int 1))) (op2M andI (varM 5) (op1M invI (op2M shlI (cM (.int 1)) (varM 8)))) (nd P) [some x0, some x1, some x2, some x3, some x4, some (.v (.int (x : Int))), x6, none, none, none, none] = .ok (nd (fewN P x)) [some x0, some x1, some x2, some x3, some x4, some (.v (.int (x : Int))), x6, none, none, none, none] := by
  have c := compL_mapF (vs := [8]) (g := tgN 8) (tt := cmpM eqS (op2M andI (op2M shrI (varM 5) (varM 8)) (cM (.int 1))) (cM (.int 1))) (te := op2M andI (varM 5) (op1M invI (op2M shlI (cM (.int 1)) (varM 8)))) (env := [some x0, some x1, some x2, some x3, some x4, some (.v (.int (x : Int))), x6, none, none, none, none]) (fun i : Nat => D.int (i : Int)) (fun i : Nat => D.int ((br x (2 ^ i) : Nat) : Int)) x.testBit (by simp [vsOk]) P fun i hi => by
    have bi := bit_int x i
    have sh := shl1 (i := i) (by have := hP _ hi; omega)
    have pw := pw_i i
    have bN := bAndN x (2 ^ i)
    rw [pw] at bN
    refine ⟨[some x0, some x1, some x2, some x3, some x4, some (.v (.int (x : Int))), x6, none, some (.v (.int (i : Int))), none, none], [some x0, some x1, some x2, some x3, some x4, some (.v (.int (x : Int))), x6, none, some (.v (.int (i : Int))), none, none], by simp, ?_, fun _ => rfl, fun _ => ⟨[some x0, some x1, some x2, some x3, some x4, some (.v (.int (x : Int))), x6, none, some (.v (.int (i : Int))), none, none], by
      generalize ((br x (2 ^ i) : Nat) : Int) = BB at *
      simp [sh, bN], rfl⟩⟩
    generalize (x : Int) = wi at *
    cases qb : x.testBit i with
    | false => rw [qb] at bi; simp at bi; simp [bi]
    | true => rw [qb] at bi; simp at bi; simp [bi]
  unfold nd at c ⊢
  rw [c]
  unfold fewN
  rw [List.map_map]; rfl
theorem mt_c4 {x2 x4 : EV} {Q : List Nat} {x5 x6 : EV} (hF : F.length ≤ 65536) : compL [10] (tgN 10) yesT (callM allD [(compM [9] (asL (varM 0)) (tgN 9) yesT (bV (cmpM neS (op2M andI (varM 10) (varM 9)) (cM (.int 0)))))]) (nd Q) [some (.v (.lst (nd F))), some x1, some x2, some x3, some x4, some x5, some x6, none, none, none, none] = .ok (Q.map fun p => D.bl (hitB p F)) [some (.v (.lst (nd F))), some x1, some x2, some x3, some x4, some x5, some x6, none, none, none, none] := by
  refine compL_map (fun i : Nat => D.int (i : Int)) _ (by simp [vsOk]) Q fun p hp => ?_
  have c := mt_c2' (x0 := .v (.lst (nd F))) (x1 := x1) (x2 := x2) (x3 := x3) (x4 := x4) (x5 := x5) (x6 := x6) (F := F) (p := p)
  have al := all_map (fun m => decide (p &&& m ≠ 0)) F
  have z := sz24
  have l1 : (nd F).length ≤ sizeLine := by rw [nd_len]; omega
  have l2 : (F.map fun m => D.bl (decide (p &&& m ≠ 0))).length ≤ sizeLine := by rw [List.length_map]; omega
  have hh : hitB p F = F.all fun m => decide (p &&& m ≠ 0) := rfl
  rw [hh]
  generalize (F.all fun m => decide (p &&& m ≠ 0)) = AA at *
  generalize (F.map fun m => D.bl (decide (p &&& m ≠ 0))) = FF at *
  generalize nd F = A at *
  refine ⟨[some (.v (.lst A)), some x1, some x2, some x3, some x4, some x5, some x6, none, none, none, some (.v (.int (p : Int)))], [some (.v (.lst A)), some x1, some x2, some x3, some x4, some x5, some x6, none, none, none, some (.v (.int (p : Int)))], by simp, ?_, rfl⟩
  simp [l1, l2, c, al]
end
theorem meet_row {W r : Nat} {P F fo : List Nat} {x5 x6 : Option EV} (hn : P.Nodup) (hP : ∀ d ∈ P, d < 12) (hW : ∀ d ∈ P, W.testBit d = true) (hF : F.length ≤ 65536) (hf : fo.length < 65536) (h5 : Vl x5) (h6 : Vl x6) :
    ∃ y5 y6 e2, Vl y5 ∧ Vl y6 ∧ e2 = [some (.v (.lst (nd F))), some (.v (.lst (nd P))), some (.v (.int (W : Int))), some (.own (nd (if okB P F (rowM P r) then fo ++ [rowM P r] else fo))), some (.v (.int (r : Int))), y5, y6, none, none, none, none] ∧
      (L_law_meeting_0 [some (.v (.lst (nd F))), some (.v (.lst (nd P))), some (.v (.int (W : Int))), some (.own (nd fo)), some (.v (.int (r : Int))), x5, x6, none, none, none, none] = .nx e2 ∨ L_law_meeting_0 [some (.v (.lst (nd F))), some (.v (.lst (nd P))), some (.v (.int (W : Int))), some (.own (nd fo)), some (.v (.int (r : Int))), x5, x6, none, none, none, none] = .cnt e2) := by
  have z := sz24
  have lP := nodup_lt hn hP
  have c1 := mt_c1 (x0 := .v (.lst (nd F))) (x1 := .v (.lst (nd P))) (x3 := .own (nd fo)) (x5 := x5) (x6 := x6) (W := W) (r := r) hP h6
  have sm := sum_mask (pick_nodup hn r)
  have l1 : (enumL (nd P)).length ≤ sizeLine := by rw [enum_nd, List.length_map, List.length_range]; omega
  have lk : (pickP P r).length ≤ 12 := nodup_lt (pick_nodup hn r) fun d hd => hP d (pick_sub hd)
  have l2 : ((pickP P r).map fun d => D.int ((2 ^ d : Nat) : Int)).length ≤ sizeLine := by rw [List.length_map]; omega
  have hx : maskN (pickP P r) = rowM P r := rfl
  rw [hx] at sm
  have hxb : ∀ i, (rowM P r).testBit i = true → i ∈ P := fun i hi => pick_sub (maskN_bit.mp hi)
  have c2 := mt_c2 (x0 := .v (.lst (nd F))) (x1 := .v (.lst (nd P))) (x2 := .v (.int (W : Int))) (x3 := .own (nd fo)) (x4 := .v (.int (r : Int))) (x6 := x6) (x10 := none) (x := rowM P r) (F := F) h6
  have al := all_map (fun m => decide (rowM P r &&& m ≠ 0)) F
  have l3 : (nd F).length ≤ sizeLine := by rw [nd_len]; omega
  have l4 : (F.map fun m => D.bl (decide (rowM P r &&& m ≠ 0))).length ≤ sizeLine := by rw [List.length_map]; omega
  have c3 := mt_c3 (x0 := .v (.lst (nd F))) (x1 := .v (.lst (nd P))) (x2 := .v (.int (W : Int))) (x3 := .own (nd fo)) (x4 := .v (.int (r : Int))) (x6 := x6) (x := rowM P r) hP h6
  have lq : (fewN P (rowM P r)).length ≤ P.length := by unfold fewN; rw [List.length_map]; exact List.length_filter_le _ _
  have l5 : (nd P).length ≤ sizeLine := by rw [nd_len]; omega
  have l6 : (nd (fewN P (rowM P r))).length ≤ sizeLine := by rw [nd_len]; omega
  have c4 := mt_c4 (x1 := .v (.lst (nd P))) (x2 := .v (.int (W : Int))) (x3 := .own (nd fo)) (x4 := .v (.int (r : Int))) (x5 := .v (.int ((rowM P r : Nat) : Int))) (x6 := .v (.lst (nd (fewN P (rowM P r))))) (Q := fewN P (rowM P r)) hF
  have an := any_map (fun p => hitB p F) (fewN P (rowM P r))
  have l7 : ((fewN P (rowM P r)).map fun p => D.bl (hitB p F)).length ≤ sizeLine := by rw [List.length_map]; omega
  have l8 : (nd fo).length < sizeLine := by rw [nd_len]; omega
  have bw : Builtin.bitAnd ((rowM P r : Nat) : Int) (W : Int) = ((rowM P r : Nat) : Int) := by
    rw [bAnd]
    congr 1
    refine Nat.eq_of_testBit_eq fun i => ?_
    rw [Nat.testBit_and]
    cases q : (rowM P r).testBit i with
    | false => rfl
    | true => rw [hW i (hxb i q)]; rfl
  have sn := nd_snoc fo (rowM P r)
  have hh : hitB (rowM P r) F = F.all fun m => decide (rowM P r &&& m ≠ 0) := rfl
  have ok1 : okB P F (rowM P r) = (hitB (rowM P r) F && !((fewN P (rowM P r)).any fun p => hitB p F)) := rfl
  rw [ok1]
  rw [← hh] at al
  have st : nd (if (hitB (rowM P r) F && !((fewN P (rowM P r)).any fun p => hitB p F)) = true then fo ++ [rowM P r] else fo) = if (hitB (rowM P r) F && !((fewN P (rowM P r)).any fun p => hitB p F)) = true then nd fo ++ [D.int ((rowM P r : Nat) : Int)] else nd fo := by
    rw [sn]
    split <;> rfl
  rw [st]
  clear st ok1 hh hxb hW hP hn lP lk lq hx z sn
  generalize ((fewN P (rowM P r)).any fun p => hitB p F) = AN at *
  generalize hitB (rowM P r) F = HB at *
  generalize ((fewN P (rowM P r)).map fun p => D.bl (hitB p F)) = FH at *
  generalize nd (fewN P (rowM P r)) = FW at *
  generalize (F.map fun m => D.bl (decide (rowM P r &&& m ≠ 0))) = FM at *
  generalize ((pickP P r).map fun d => D.int ((2 ^ d : Nat) : Int)) = PK at *
  generalize ((rowM P r : Nat) : Int) = X at *
  generalize nd fo = FO at *
  generalize nd P = PP at *
  generalize nd F = A at *
  unfold L_law_meeting_0
  cases HB with
  | false =>
    refine ⟨some (.v (.int X)), x6, _, .inr ⟨_, rfl⟩, h6, rfl, .inr ?_⟩
    rcases h5 with rfl | ⟨d5, rfl⟩ <;> rcases h6 with rfl | ⟨d6, rfl⟩ <;> simp [l1, c1, l2, sm, l3, c2, l4, al]
  | true =>
    cases AN with
    | true =>
      refine ⟨some (.v (.int X)), some (.v (.lst FW)), _, .inr ⟨_, rfl⟩, .inr ⟨_, rfl⟩, rfl, .inl ?_⟩
      rcases h5 with rfl | ⟨d5, rfl⟩ <;> rcases h6 with rfl | ⟨d6, rfl⟩ <;> simp [l1, c1, l2, sm, l3, c2, l4, al, l5, c3, l6, c4, l7, an]
    | false =>
      refine ⟨some (.v (.int X)), some (.v (.lst FW)), _, .inr ⟨_, rfl⟩, .inr ⟨_, rfl⟩, rfl, .inl ?_⟩
      rcases h5 with rfl | ⟨d5, rfl⟩ <;> rcases h6 with rfl | ⟨d6, rfl⟩ <;> simp [l1, c1, l2, sm, l3, c2, l4, al, l5, c3, l6, c4, l7, an, l8, bw, appG]
theorem meet_rows {W : Nat} {P F : List Nat} (hn : P.Nodup) (hP : ∀ d ∈ P, d < 12) (hW : ∀ d ∈ P, W.testBit d = true) (hF : F.length ≤ 65536) : ∃ x4 x5 x6, forM (tgN 4) L_law_meeting_0 (rngL 0 (2 ^ P.length)) [some (.v (.lst (nd F))), some (.v (.lst (nd P))), some (.v (.int (W : Int))), some (.own []), none, none, none, none, none, none, none] = .nx [some (.v (.lst (nd F))), some (.v (.lst (nd P))), some (.v (.int (W : Int))), some (.own (nd (lawMeet P F))), x4, x5, x6, none, none, none, none] := by
  have lP := nodup_lt hn hP
  have p12 : 2 ^ P.length ≤ 4096 := Nat.pow_le_pow_right (n := 2) (by decide) lP
  obtain ⟨e2, h, fo, x4, x5, x6, rfl, q1, q2, q3, rfl⟩ := forM_rng (g := tgN 4) (s := L_law_meeting_0) (fun i e => ∃ fo x4 x5 x6, fo = ((List.range i).map (rowM P)).filter (okB P F) ∧ Vl x4 ∧ Vl x5 ∧ Vl x6 ∧ e = [some (.v (.lst (nd F))), some (.v (.lst (nd P))), some (.v (.int (W : Int))), some (.own (nd fo)), x4, x5, x6, none, none, none, none]) (2 ^ P.length) [some (.v (.lst (nd F))), some (.v (.lst (nd P))), some (.v (.int (W : Int))), some (.own []), none, none, none, none, none, none, none] (by
    rintro i hi e ⟨fo, x4, x5, x6, rfl, v4, v5, v6, rfl⟩
    have lf : (((List.range i).map (rowM P)).filter (okB P F)).length ≤ i := by
      have := List.length_filter_le (okB P F) ((List.range i).map (rowM P))
      rwa [List.length_map, List.length_range] at this
    obtain ⟨y5, y6, e2, w5, w6, he, st⟩ := meet_row (W := W) (r := i) (fo := ((List.range i).map (rowM P)).filter (okB P F)) (x5 := x5) (x6 := x6) hn hP hW hF (by omega) v5 v6
    refine ⟨[some (.v (.lst (nd F))), some (.v (.lst (nd P))), some (.v (.int (W : Int))), some (.own (nd (((List.range i).map (rowM P)).filter (okB P F)))), some (.v (.int (i : Int))), x5, x6, none, none, none, none], e2, ?_, st, ?_⟩
    · rcases v4 with rfl | ⟨d4, rfl⟩ <;> simp
    · refine ⟨_, some (.v (.int (i : Int))), y5, y6, rfl, .inr ⟨_, rfl⟩, w5, w6, ?_⟩
      rw [he, List.range_succ, List.map_append, List.filter_append]
      have : ([i].map (rowM P)).filter (okB P F) = if okB P F (rowM P i) then [rowM P i] else [] := by
        rw [List.map_cons, List.map_nil, List.filter_cons]; rfl
      rw [this]
      by_cases q : okB P F (rowM P i) = true
      · rw [if_pos q, if_pos q]
      · rw [if_neg q, if_neg q, List.append_nil]) ⟨[], none, none, none, rfl, .inl rfl, .inl rfl, .inl rfl, rfl⟩
  exact ⟨x4, x5, x6, h⟩
theorem law_meeting_ok {P F : List Nat} (hn : P.Nodup) (hP : ∀ d ∈ P, d < 12) (hF : F.length ≤ 65536) : F_law_meeting [.v (.lst (nd F)), .v (.lst (nd P))] = .ok (.lst (nd (lawMeet P F))) [.v (.lst (nd F)), .v (.lst (nd P))] := by
  obtain ⟨x4, x5, x6, lp⟩ := meet_rows (W := maskN P) hn hP (fun d hd => maskN_bit.mpr hd) hF
  have ws := law_set_ok (X := .lst (nd P)) (l := P) (.inl rfl) hn fun d hd => by have := hP d hd; omega
  have lP := nodup_lt hn hP
  have sh := shl1 (i := P.length) (by omega)
  have ln : (nd P).length = P.length := nd_len _
  have p12 : 2 ^ P.length ≤ 4096 := Nat.pow_le_pow_right (n := 2) (by decide) lP
  have pw := pw_i P.length
  have pI : ((2 ^ P.length : Nat) : Int) ≤ 4096 := Int.ofNat_le.mpr p12
  have p0 : (0 : Int) ≤ ((2 ^ P.length : Nat) : Int) := Int.natCast_nonneg _
  have a1 : -4611686018427387904 ≤ (2 : Int) ^ P.length := by rw [← pw]; exact Int.le_trans (by decide) p0
  have a2 : (2 : Int) ^ P.length < 4611686018427387904 := by rw [← pw]; exact Int.lt_of_le_of_lt pI (by decide)
  have tn : ((2 : Int) ^ P.length).toNat = 2 ^ P.length := by rw [← pw]; exact Int.toNat_natCast _
  clear pI p0 pw
  generalize nd (lawMeet P F) = R at *
  generalize nd P = PP at *
  generalize nd F = A at *
  simp [u_law_meeting, ws, sh, ln, a1, a2, tn, lp]
end Lw
set_option linter.all false
set_option Elab.async false
set_option maxRecDepth 100000
set_option maxHeartbeats 4000000
set_option exponentiation.threshold 5000
namespace Lw
open PySem Ue
theorem can_ints : ∀ l : List Int, PyData.canLayAll0 (l.map PyData.int) = true
  | [] => by simp [PyData.canLayAll0]
  | i :: l => by simp [PyData.canLayAll0, PyData.canLay0, can_ints l]
theorem dep_ints : ∀ l : List Int, PyData.depthAll (l.map PyData.int) = 0
  | [] => by simp [PyData.depthAll]
  | i :: l => by simp [PyData.depthAll, PyData.depth, dep_ints l]
theorem toPys_map {α : Type} {f : α → D} {p : α → PyData} (h : ∀ a, toPy (f a) = some (p a)) : ∀ xs : List α, toPys (xs.map f) = some (xs.map p)
  | [] => by simp [toPys]
  | a :: xs => by simp [toPys, h a, toPys_map h xs]
theorem can_map {α : Type} {p : α → PyData} (h : ∀ a, (p a).canLay0 = true) : ∀ xs : List α, PyData.canLayAll0 (xs.map p) = true
  | [] => by simp [PyData.canLayAll0]
  | a :: xs => by simp [PyData.canLayAll0, h a, can_map h xs]
theorem dep_map {α : Type} {p : α → PyData} (h : ∀ a, (p a).depth ≤ 3) : ∀ xs : List α, PyData.depthAll (xs.map p) ≤ 4
  | [] => by simp [PyData.depthAll]
  | a :: xs => by
    have h1 := h a
    have h2 := dep_map h xs
    simp only [List.map_cons, PyData.depthAll]
    omega
theorem eqD_rows {α : Type} {f : α → D} {p : α → PyData} (h1 : ∀ a, toPy (f a) = some (p a)) (h2 : ∀ a, (p a).canLay0 = true) (h3 : ∀ a, (p a).depth ≤ 3) (xs : List α) : eqD (.lst (xs.map f)) (.lst (xs.map f)) = some true := by
  have e1 : toPy (.lst (xs.map f)) = some (.list (xs.map p)) := by simp [toPy, toPys_map h1]
  have c : (PyData.list (xs.map p)).canLay0 = true := by simp [PyData.canLay0, can_map h2]
  have s : SeqAt.shaped (.list (xs.map p)) = true := by
    have := dep_map h3 xs
    unfold SeqAt.shaped
    rw [c, Bool.true_and, decide_eq_true_eq]
    simp only [PyData.depth]
    omega
  unfold eqD
  rw [e1]
  simp only
  rw [if_pos ⟨s, s⟩]
  exact congrArg some (SeqAt.eqv_refl _ c)
theorem eqD_rowsT {α : Type} {f : α → D} {p : α → PyData} (h1 : ∀ a, toPy (f a) = some (p a)) (h2 : ∀ a, (p a).canLay0 = true) (h3 : ∀ a, (p a).depth ≤ 3) (xs : List α) : eqD (.tup (xs.map f)) (.tup (xs.map f)) = some true := by
  have e1 : toPy (.tup (xs.map f)) = some (.tuple (xs.map p)) := by simp [toPy, toPys_map h1]
  have c : (PyData.tuple (xs.map p)).canLay0 = true := by simp [PyData.canLay0, can_map h2]
  have s : SeqAt.shaped (.tuple (xs.map p)) = true := by
    have := dep_map h3 xs
    unfold SeqAt.shaped
    rw [c, Bool.true_and, decide_eq_true_eq]
    simp only [PyData.depth]
    omega
  unfold eqD
  rw [e1]
  simp only
  rw [if_pos ⟨s, s⟩]
  exact congrArg some (SeqAt.eqv_refl _ c)
theorem lot_py (m : Nat) : toPy (lotD m) = some (.tuple ((lotI m).map PyData.int)) := by rw [lotD_eq]; simp [toPy, toPys_ints]
theorem lot_can (m : Nat) : (PyData.tuple ((lotI m).map PyData.int)).canLay0 = true := by simp [PyData.canLay0, can_ints]
theorem lot_dep (m : Nat) : (PyData.tuple ((lotI m).map PyData.int)).depth ≤ 3 := by simp [PyData.depth, dep_ints]
theorem eqD_lots (xs : List Nat) : eqD (.lst (xs.map lotD)) (.lst (xs.map lotD)) = some true := eqD_rows lot_py lot_can lot_dep xs
theorem eqD_lotsT (xs : List Nat) : eqD (.tup (xs.map lotD)) (.tup (xs.map lotD)) = some true := eqD_rowsT lot_py lot_can lot_dep xs
def lsN (l : List Nat) : D := .lst (nd l)
theorem lsN_py (l : List Nat) : toPy (lsN l) = some (.list ((l.map fun i : Nat => (i : Int)).map PyData.int)) := by unfold lsN; rw [nd_eq]; simp [toPy, toPys_ints, -List.map_map]
theorem lsN_can (l : List Nat) : (PyData.list ((l.map fun i : Nat => (i : Int)).map PyData.int)).canLay0 = true := by simp only [PyData.canLay0, can_ints]
theorem lsN_dep (l : List Nat) : (PyData.list ((l.map fun i : Nat => (i : Int)).map PyData.int)).depth ≤ 3 := by simp only [PyData.depth, dep_ints]; decide
theorem eqD_lists (xs : List (List Nat)) : eqD (.lst (xs.map lsN)) (.lst (xs.map lsN)) = some true := eqD_rows lsN_py lsN_can lsN_dep xs
def barB (F fo : List Nat) (m : Nat) : Bool := !decide (m ∈ fo) && !(F.any fun o => decide (o ≠ m) && decide (o &&& m = o))
def barN (F : List Nat) (l fo : List Nat) : List Nat := l.foldl (fun fo m => if barB F fo m then fo ++ [m] else fo) fo
theorem and_sub {o m : Nat} : o &&& m = o ↔ Sub o m := by
  constructor
  · intro h
    exact sub_iff.mpr fun i hi => by
      rw [← h, Nat.testBit_and] at hi
      exact (Bool.and_eq_true_iff.mp hi).2
  · intro h
    refine Nat.eq_of_testBit_eq fun i => ?_
    rw [Nat.testBit_and]
    cases q : o.testBit i with
    | false => rfl
    | true => rw [sub_iff.mp h i q]; rfl
theorem bar_go (F : List Nat) : ∀ (l pre fo : List Nat), fo.Nodup → (∀ x, x ∈ fo ↔ x ∈ pre ∧ ∀ y ∈ F, Sub y x → y = x) → (barN F l fo).Nodup ∧ ∀ x, x ∈ barN F l fo ↔ (x ∈ pre ∨ x ∈ l) ∧ ∀ y ∈ F, Sub y x → y = x
  | [], pre, fo, h1, h2 => ⟨h1, fun x => by simp [barN, h2]⟩
  | m :: l, pre, fo, h1, h2 => by
    have e : barN F (m :: l) fo = barN F l (if barB F fo m then fo ++ [m] else fo) := rfl
    rw [e]
    have bar : (!(F.any fun o => decide (o ≠ m) && decide (o &&& m = o))) = true ↔ ∀ y ∈ F, Sub y m → y = m := by
      rw [Bool.not_eq_true', List.any_eq_false]
      refine forall_congr' fun y => forall_congr' fun _ => ?_
      rw [Bool.and_eq_true, decide_eq_true_eq, decide_eq_true_eq, and_sub]
      exact ⟨fun h s => Classical.byContradiction fun n => h ⟨n, s⟩, fun h ⟨n, s⟩ => n (h s)⟩
    by_cases b : barB F fo m = true
    · rw [if_pos b]
      have b' := b
      unfold barB at b'
      rw [Bool.and_eq_true, bar, Bool.not_eq_true', decide_eq_false_iff_not] at b'
      obtain ⟨k1, k2⟩ := bar_go F l (pre ++ [m]) (fo ++ [m]) (List.nodup_append.mpr ⟨h1, by simp, fun x hx y hy e => b'.1 (by rw [List.mem_singleton.mp hy] at e; rw [← e]; exact hx)⟩) fun x => by
        rw [List.mem_append, List.mem_append, List.mem_singleton, h2]
        constructor
        · rintro (⟨a, c⟩ | rfl)
          · exact ⟨.inl a, c⟩
          · exact ⟨.inr rfl, b'.2⟩
        · rintro ⟨a | a, c⟩
          · exact .inl ⟨a, c⟩
          · exact .inr a
      refine ⟨k1, fun x => (k2 x).trans ?_⟩
      rw [List.mem_append, List.mem_singleton, List.mem_cons, or_assoc]
    · rw [if_neg b]
      have b' : m ∈ fo ∨ ¬ ∀ y ∈ F, Sub y m → y = m := by
        refine Classical.byContradiction fun n => b ?_
        unfold barB
        rw [Bool.and_eq_true, bar, Bool.not_eq_true', decide_eq_false_iff_not]
        exact ⟨fun z => n (.inl z), Classical.byContradiction fun z => n (.inr z)⟩
      obtain ⟨k1, k2⟩ := bar_go F l (pre ++ [m]) fo h1 fun x => by
        rw [List.mem_append, List.mem_singleton, h2]
        constructor
        · exact fun ⟨a, c⟩ => ⟨.inl a, c⟩
        · rintro ⟨a | rfl, c⟩
          · exact ⟨a, c⟩
          · rcases b' with b' | b'
            · exact (h2 x).mp b'
            · exact absurd c b'
      refine ⟨k1, fun x => (k2 x).trans ?_⟩
      rw [List.mem_append, List.mem_singleton, List.mem_cons, or_assoc]
theorem bar_spec (F : List Nat) : (barN F F []).Nodup ∧ ∀ x, x ∈ barN F F [] ↔ Lst x F := by
  obtain ⟨h1, h2⟩ := bar_go F F [] [] List.nodup_nil (by simp)
  exact ⟨h1, fun x => (h2 x).trans (by simp [Lst])⟩
theorem bar_c {F fo : List Nat} {m : Nat} : compL [3] (tgN 3) yesT (andV (bV (cmpM neS (varM 3) (varM 2))) (bV (cmpM eqS (op2M andI (varM 3) (varM 2)) (varM 3)))) (nd F) [some (.v (.lst (nd F))), some (.own (nd fo)), some (.v (.int (m : Int))), none] = .ok (F.map fun o => D.bl (decide (o ≠ m) && decide (o &&& m = o))) [some (.v (.lst (nd F))), some (.own (nd fo)), some (.v (.int (m : Int))), none] := by
  generalize hA : (D.lst (nd F)) = A
  refine compL_map (fun i : Nat => D.int (i : Int)) _ (by simp [vsOk]) F fun o ho => ?_
  have b := bAnd o m
  have e1 : decide (o = m) = decide ((o : Int) = (m : Int)) := decide_eq_decide.mpr (by omega)
  have e2 : decide (o &&& m = o) = decide (((o &&& m : Nat) : Int) = (o : Int)) := decide_eq_decide.mpr (by omega)
  have e3 : decide (o ≠ m) = !decide ((o : Int) = (m : Int)) := by rw [← e1]; simp
  rw [e3, e2]
  generalize ((o &&& m : Nat) : Int) = OM at *
  generalize nd fo = FO at *
  refine ⟨[some (.v A), some (.own FO), some (.v (.int (m : Int))), some (.v (.int (o : Int)))], [some (.v A), some (.own FO), some (.v (.int (m : Int))), some (.v (.int (o : Int)))], by simp, ?_, rfl⟩
  by_cases z : (o : Int) = (m : Int)
  · simp [z]
  · simp [z, b]
theorem bar_step {F fo : List Nat} {m : Nat} (hF : F.length ≤ 65536) (hf : fo.length < 65536) : L_law_barest_0 [some (.v (.lst (nd F))), some (.own (nd fo)), some (.v (.int (m : Int))), none] = .nx [some (.v (.lst (nd F))), some (.own (nd (if barB F fo m then fo ++ [m] else fo))), some (.v (.int (m : Int))), none] := by
  have z := sz24
  have c := bar_c (F := F) (fo := fo) (m := m)
  have an := any_map (fun o => decide (o ≠ m) && decide (o &&& m = o)) F
  have inn : inA (.int (m : Int)) (.lst (nd fo)) = some (decide (m ∈ fo)) := by
    rw [nd_eq, inA_intsL]
    congr 1
    refine decide_eq_decide.mpr ?_
    rw [List.mem_map]
    exact ⟨fun ⟨a, h1, h2⟩ => by rw [← Int.ofNat_inj.mp h2]; exact h1, fun h => ⟨m, h, rfl⟩⟩
  have l1 : (nd F).length ≤ sizeLine := by rw [nd_len]; omega
  have l2 : (F.map fun o => D.bl (decide (o ≠ m) && decide (o &&& m = o))).length ≤ sizeLine := by rw [List.length_map]; omega
  have l3 : (nd fo).length < sizeLine := by rw [nd_len]; omega
  have sn := nd_snoc fo m
  have st : nd (if barB F fo m = true then fo ++ [m] else fo) = if barB F fo m = true then nd fo ++ [D.int (m : Int)] else nd fo := by
    rw [sn]
    split <;> rfl
  rw [st]
  unfold barB
  clear st sn
  generalize (F.any fun o => decide (o ≠ m) && decide (o &&& m = o)) = AN at *
  generalize (F.map fun o => D.bl (decide (o ≠ m) && decide (o &&& m = o))) = FM at *
  generalize decide (m ∈ fo) = MF at *
  generalize nd fo = FO at *
  generalize nd F = A at *
  unfold L_law_barest_0
  have ni : notInA (.int (m : Int)) (.lst FO) = some (!MF) := by unfold notInA; rw [inn]; rfl
  cases MF with
  | true => simp [inn]
  | false =>
    cases AN with
    | true => simp [inn, l1, c, l2, an]
    | false => simp [inn, l1, c, l2, an, l3, appG]
theorem bar_loop {F : List Nat} (hF : F.length ≤ 60000) : ∀ (l fo : List Nat) (x2 : Option EV), Vl x2 → fo.length + l.length ≤ 60000 → ∃ y2, forM (tgN 2) L_law_barest_0 (nd l) [some (.v (.lst (nd F))), some (.own (nd fo)), x2, none] = .nx [some (.v (.lst (nd F))), some (.own (nd (barN F l fo))), y2, none]
  | [], fo, x2, _, _ => ⟨x2, rfl⟩
  | m :: l, fo, x2, h2, h => by
    have h : fo.length + (l.length + 1) ≤ 60000 := h
    have lf : (if barB F fo m then fo ++ [m] else fo).length ≤ fo.length + 1 := by
      split
      · simp
      · omega
    obtain ⟨y2, e⟩ := bar_loop hF l (if barB F fo m then fo ++ [m] else fo) (some (.v (.int (m : Int)))) (.inr ⟨_, rfl⟩) (by omega)
    refine ⟨y2, ?_⟩
    have w := bar_step (F := F) (fo := fo) (m := m) (by omega) (by omega)
    have e3 : barN F (m :: l) fo = barN F l (if barB F fo m then fo ++ [m] else fo) := rfl
    rw [show nd (m :: l) = D.int (m : Int) :: nd l from rfl, forM_c, e3, ← e]
    rcases h2 with rfl | ⟨d, rfl⟩ <;> simp [w]
theorem barest_ok {F : List Nat} (hF : F.length ≤ 60000) : F_law_barest [.v (.lst (nd F))] = .ok (.lst (nd (barN F F []))) [.v (.lst (nd F))] := by
  obtain ⟨y2, e⟩ := bar_loop hF F [] none (.inl rfl) (by simpa using hF)
  have e : forM (tgN 2) L_law_barest_0 (nd F) [some (.v (.lst (nd F))), some (.own []), none, none] = .nx [some (.v (.lst (nd F))), some (.own (nd (barN F F []))), y2, none] := e
  generalize nd (barN F F []) = B at *
  generalize nd F = A at *
  simp [u_law_barest, e]
end Lw
set_option linter.all false
set_option Elab.async false
set_option maxRecDepth 100000
set_option maxHeartbeats 4000000
set_option exponentiation.threshold 5000
namespace Lw
open PySem Ue
def othN (f : Nat) : List Nat := (List.range 12).filter fun n => !decide (n = f)
theorem oth_mem {f o : Nat} : o ∈ othN f ↔ o < 12 ∧ o ≠ f := by unfold othN; simp
theorem oth_len : ∀ f, f < 12 → (othN f).length = 11 := by decide +kernel
theorem oth_le : ∀ f, f < 12 → PySem.W.dataLe false lotK (2 ^ f) (maskN (othN f)) = true := by decide +kernel
theorem step_all : ∀ s, s < 10 → ∀ j, j < 11 → ∃ k, k < 11 ∧ k * (1 + s) % 11 = j := by decide +kernel
def oN (f s k : Nat) : Nat := gP (othN f) (k * s % 11)
def twoN (f s k : Nat) : List Nat := bitsN (maskN [f, oN f s k])
theorem oN_mem {f : Nat} (hf : f < 12) (s k : Nat) : oN f s k ∈ othN f := gP_mem (by rw [oth_len f hf]; exact Nat.mod_lt _ (by decide))
theorem two_ok {f s k : Nat} (hf : f < 12) : (∀ d ∈ twoN f s k, d < 16) ∧ maskN (twoN f s k) = maskN [f, oN f s k] := by
  have h16 : ∀ d ∈ [f, oN f s k], d < 16 := fun d hd => by
    simp only [List.mem_cons, List.not_mem_nil, or_false] at hd
    have := (oth_mem.mp (oN_mem hf s k)).1
    rcases hd with rfl | rfl <;> omega
  exact ⟨fun d hd => bitsN_lt hd, maskN_bits (maskN_lt h16)⟩
theorem two_min {f s : Nat} (hf : f < 12) (hs : s < 10) (x : Nat) : IsMin x ((List.range 1000).map fun k => maskN [f, oN f (1 + s) k]) ↔ x ∈ [2 ^ f, maskN (othN f)] := by
  have hits : ∀ x, Hits x ((List.range 1000).map fun k => maskN [f, oN f (1 + s) k]) ↔ x.testBit f = true ∨ ∀ o ∈ othN f, x.testBit o = true := fun x => by
    constructor
    · intro h
      cases q : x.testBit f with
      | true => exact .inl rfl
      | false =>
        refine .inr fun o ho => ?_
        obtain ⟨j, hj, e⟩ := List.mem_iff_getElem.mp ho
        rw [oth_len f hf] at hj
        obtain ⟨k, hk, ek⟩ := step_all s hs j hj
        obtain ⟨i, h1, h2⟩ := and_ne.mp (h (maskN [f, oN f (1 + s) k]) (List.mem_map.mpr ⟨k, List.mem_range.mpr (by omega), rfl⟩))
        have hi := maskN_bit.mp h2
        simp only [List.mem_cons, List.not_mem_nil, or_false] at hi
        rcases hi with rfl | rfl
        · rw [q] at h1; cases h1
        · have : oN f (1 + s) k = o := by
            unfold oN
            rw [ek, gP_get (by rw [oth_len f hf]; exact hj)]
            exact e
          rw [← this]; exact h1
    · intro h m hm
      obtain ⟨k, _, rfl⟩ := List.mem_map.mp hm
      rcases h with h | h
      · exact and_ne.mpr ⟨f, h, maskN_bit.mpr (by simp)⟩
      · exact and_ne.mpr ⟨oN f (1 + s) k, h _ (oN_mem hf _ _), maskN_bit.mpr (by simp)⟩
  have b1 : ∀ i, (2 ^ f).testBit i = true ↔ i = f := fun i => by rw [pow_bit, decide_eq_true_eq]; exact eq_comm
  have b2 : ∀ i, (maskN (othN f)).testBit i = true ↔ i ∈ othN f := fun i => maskN_bit
  have nf : f ∉ othN f := fun h => (oth_mem.mp h).2 rfl
  obtain ⟨o0, ho0⟩ : ∃ o, o ∈ othN f := by
    have := oth_len f hf
    cases q : othN f with
    | nil => rw [q] at this; cases this
    | cons a l => exact ⟨a, by simp⟩
  simp only [List.mem_cons, List.not_mem_nil, or_false]
  unfold IsMin
  rw [hits]
  constructor
  · rintro ⟨h1, h2⟩
    rcases h1 with h1 | h1
    · exact .inl (h2 (2 ^ f) ((hits _).mpr (.inl ((b1 f).mpr rfl))) (sub_iff.mpr fun i hi => by rw [(b1 i).mp hi]; exact h1)).symm
    · exact .inr (h2 (maskN (othN f)) ((hits _).mpr (.inr fun o ho => (b2 o).mpr ho)) (sub_iff.mpr fun i hi => h1 i ((b2 i).mp hi))).symm
  · rintro (rfl | rfl)
    · refine ⟨.inl ((b1 f).mpr rfl), fun g hg s => s.antisymm (sub_iff.mpr fun i hi => ?_)⟩
      rw [(b1 i).mp hi]
      rcases (hits g).mp hg with h | h
      · exact h
      · have := (b1 o0).mp (sub_iff.mp s o0 (h o0 ho0))
        rw [this] at ho0
        exact absurd ho0 nf
    · refine ⟨.inr fun o ho => (b2 o).mpr ho, fun g hg s => s.antisymm (sub_iff.mpr fun i hi => ?_)⟩
      rcases (hits g).mp hg with h | h
      · exact absurd ((b2 f).mp (sub_iff.mp s f h)) nf
      · exact h i ((b2 i).mp hi)
theorem two_sorted {f : Nat} (hf : f < 12) : sortT [2 ^ f, maskN (othN f)] = [2 ^ f, maskN (othN f)] :=
  List.mergeSort_of_pairwise (by simp [oth_le f hf])
theorem two_meet {f s : Nat} (hf : f < 12) (hs : s < 10) : sortT (meetN ((List.range 1000).map fun k => maskN [f, oN f (1 + s) k])) = [2 ^ f, maskN (othN f)] := by
  have hm : ∀ m ∈ (List.range 1000).map fun k => maskN [f, oN f (1 + s) k], m < 2 ^ 16 := fun m hm => by
    obtain ⟨k, _, rfl⟩ := List.mem_map.mp hm
    exact maskN_lt fun d hd => by
      simp only [List.mem_cons, List.not_mem_nil, or_false] at hd
      have := (oth_mem.mp (oN_mem hf (1 + s) k)).1
      rcases hd with rfl | rfl <;> omega
  obtain ⟨h1, h2, h3⟩ := meetN_spec hm
  rw [← two_sorted hf]
  refine sortT_uniq h1 h2 ?_ fun m => (h3 m).trans (two_min hf hs m)
  have : 2 ^ f ≠ maskN (othN f) := fun e => by
    have : (maskN (othN f)).testBit f = true := by rw [← e, pow_bit]; simp
    exact (oth_mem.mp (maskN_bit.mp this)).2 rfl
  simp [this]
theorem many_step {x0 x3 : EV} {fo : List D} {f s k : Nat} {x6 : Option EV} (hf : f < 12) (hs : s ≤ 10) (hk : k < 1000) (hl : fo.length ≤ 1000) (e3 : x3 = .v (.int (s : Int))) : L_law_many_0 [some x0, some (.v (.int (f : Int))), some (.v (.lst (nd (othN f)))), some x3, some (.own fo), some (.v (.int (k : Int))), x6] = .nx [some x0, some (.v (.int (f : Int))), some (.v (.lst (nd (othN f)))), some x3, some (.own (fo ++ [.tup (nd (twoN f s k))])), some (.v (.int (k : Int))), x6] := by
  subst e3
  have hj : k * s % 11 < (othN f).length := by rw [oth_len f hf]; exact Nat.mod_lt _ (by decide)
  have ix : L2.atI (nd (othN f)) ((k * s % 11 : Nat) : Int) = some (.int ((oN f s k : Nat) : Int)) := by
    rw [atI_nat (a := D.int ((oN f s k : Nat) : Int))]
    unfold nd oN
    rw [List.getElem?_map, List.getElem?_eq_getElem hj, gP_get hj]; rfl
  have ho := oth_mem.mp (oN_mem hf s k)
  have h16 : ∀ d ∈ [f, oN f s k], d < 16 := fun d hd => by
    simp only [List.mem_cons, List.not_mem_nil, or_false] at hd
    rcases hd with rfl | rfl <;> omega
  have so := sorted_nd (l := [f, oN f s k]) (by simp; exact fun e => ho.2 e.symm) h16
  have so : sortedD [.lst [.int (f : Int), .int ((oN f s k : Nat) : Int)]] = some (.lst (nd (twoN f s k))) := so
  have w1 : mulOk (k : Int) (s : Int) = true := mulOk_r (by omega)
  have fm : ((k : Int) * (s : Int)).fmod 11 = ((k * s % 11 : Nat) : Int) := by
    rw [Int.fmod_eq_emod_of_nonneg _ (by decide)]
    omega
  have z2 : (2 : Nat) ≤ sizeLine := z_le (by decide)
  have l1 : (nd (twoN f s k)).length ≤ sizeLine := by rw [nd_len]; exact z_le (Nat.le_trans (bitsN_len _) (by decide))
  have l2 : fo.length < sizeLine := Nat.lt_of_lt_of_le (by omega : fo.length < 1001) (z_leB (by decide))
  have d1 : divOk ((k : Int) * (s : Int)) 11 = true := by unfold divOk; rw [show small64 11 = true by decide]; simp
  generalize nd (twoN f s k) = T2 at *
  generalize nd (othN f) = OT at *
  generalize ((oN f s k : Nat) : Int) = OO at *
  generalize ((k * s % 11 : Nat) : Int) = JJ at *
  unfold L_law_many_0
  simp [w1, fm, d1, ix, z2, so, l1, l2, appG]
theorem many_ok (b : Int × Int × Int) : ∃ b', F_law_many [.own (bg b)] = .ok (.bl true) [.own (bg b')] := by
  obtain ⟨f, b1, e1, hf⟩ := take_ok b (n := 12) (by decide) (by decide)
  obtain ⟨s, b2, e2, hs⟩ := take_ok b1 (n := 10) (by decide) (by decide)
  have e1 : F_law_take [.own (bg b), .v (.int 12)] = .ok (.int (f : Int)) [.own (bg b1), .v (.int 12)] := e1
  have e2 : F_law_take [.own (bg b1), .v (.int 10)] = .ok (.int (s : Int)) [.own (bg b2), .v (.int 10)] := e2
  refine ⟨b2, ?_⟩
  have c : compL [6] (tgN 6) (cmpM neS (varM 6) (varM 1)) (varM 6) (rngL 0 12) [some (.own (bg b1)), some (.v (.int (f : Int))), none, none, none, none, none] = .ok (nd (othN f)) [some (.own (bg b1)), some (.v (.int (f : Int))), none, none, none, none, none] := by
    have := compL_mapF (vs := [6]) (g := tgN 6) (tt := cmpM neS (varM 6) (varM 1)) (te := varM 6) (env := [some (.own (bg b1)), some (.v (.int (f : Int))), none, none, none, none, none]) (fun d : Nat => D.int (d : Int)) (fun d : Nat => D.int (d : Int)) (fun n => !decide (n = f)) (by simp [vsOk]) (List.range 12) fun d _ => by
      have e : decide (d = f) = decide ((d : Int) = (f : Int)) := decide_eq_decide.mpr (by omega)
      rw [e]
      generalize bg b1 = B1 at *
      exact ⟨[some (.own B1), some (.v (.int (f : Int))), none, none, none, none, some (.v (.int (d : Int)))], [some (.own B1), some (.v (.int (f : Int))), none, none, none, none, some (.v (.int (d : Int)))], by simp, by simp, fun _ => rfl, fun _ => ⟨[some (.own B1), some (.v (.int (f : Int))), none, none, none, none, some (.v (.int (d : Int)))], by simp, rfl⟩⟩
    have r12 : rngL 0 12 = (List.range 12).map fun d : Nat => D.int (d : Int) := by simp [rngL]
    rw [r12]
    exact this
  have cs : ((1 + s : Nat) : Int) = 1 + (s : Int) := by omega
  obtain ⟨e9, lp, fo, x5, rfl, rfl⟩ := forM_rng (g := tgN 5) (s := L_law_many_0) (fun i e => ∃ fo x5, fo = (List.range i).map (fun k => D.tup (nd (twoN f (1 + s) k))) ∧ e = [some (.own (bg b2)), some (.v (.int (f : Int))), some (.v (.lst (nd (othN f)))), some (.v (.int (1 + (s : Int)))), some (.own fo), x5, none]) 1000 [some (.own (bg b2)), some (.v (.int (f : Int))), some (.v (.lst (nd (othN f)))), some (.v (.int (1 + (s : Int)))), some (.own []), none, none] (by
    rintro i hi e ⟨fo, x5, rfl, rfl⟩
    have st := many_step (x0 := .own (bg b2)) (x3 := .v (.int (1 + (s : Int)))) (fo := (List.range i).map (fun k => D.tup (nd (twoN f (1 + s) k)))) (f := f) (s := 1 + s) (k := i) (x6 := none) hf (by omega) hi (by rw [List.length_map, List.length_range]; omega) (by rw [cs])
    refine ⟨[some (.own (bg b2)), some (.v (.int (f : Int))), some (.v (.lst (nd (othN f)))), some (.v (.int (1 + (s : Int)))), some (.own ((List.range i).map (fun k => D.tup (nd (twoN f (1 + s) k))))), some (.v (.int (i : Int))), none], _, by simp, .inl st, ⟨_, some (.v (.int (i : Int))), rfl, ?_⟩⟩
    rw [List.range_succ, List.map_append]; rfl) ⟨[], none, rfl, rfl⟩
  have fam : famD true ((List.range 1000).map fun k => (false, twoN f (1 + s) k)) = .lst ((List.range 1000).map (fun k => D.tup (nd (twoN f (1 + s) k)))) := by
    unfold famD
    rw [if_pos rfl, List.map_map]; rfl
  have me := meeting_ok true (Ls := (List.range 1000).map fun k => (false, twoN f (1 + s) k)) (fun p hp d hd => by
    obtain ⟨k, _, rfl⟩ := List.mem_map.mp hp
    exact (two_ok hf).1 d hd) (by rw [List.length_map, List.length_range]; decide)
  have mk : ((List.range 1000).map fun k => (false, twoN f (1 + s) k)).map mk2 = (List.range 1000).map fun k => maskN [f, oN f (1 + s) k] := by
    rw [List.map_map]
    exact List.map_congr_left fun k _ => (two_ok hf).2
  rw [mk, two_meet hf hs, fam] at me
  have q1 : lotD (2 ^ f) = .tup [.int (f : Int)] := by
    have : [f] = bitsN (maskN [f]) := asc_bits (by simp) fun d hd => by rw [List.mem_singleton.mp hd]; omega
    have e : maskN [f] = 2 ^ f := by simp [maskN]
    rw [e] at this
    unfold lotD
    rw [← this]; rfl
  have q2 : lotD (maskN (othN f)) = .tup (nd (othN f)) := by
    unfold lotD
    rw [← asc_bits (l := othN f) (List.Pairwise.sublist List.filter_sublist List.pairwise_lt_range) fun d hd => by have := (oth_mem.mp hd).1; omega]
  have eq := eqD_lotsT [2 ^ f, maskN (othN f)]
  rw [List.map_cons, List.map_cons, List.map_nil, q1, q2] at eq me
  have l0 : (rngL 0 12).length ≤ sizeLine := z_le (by decide)
  have lo : (othN f).length ≤ 12 := by rw [oth_len f hf]; decide
  have l1 : (nd (othN f)).length ≤ sizeLine := by rw [nd_len]; exact z_le (by omega)
  have l2 : ((List.range 1000).map (fun k => D.tup (nd (twoN f (1 + s) k)))).length = 1000 := by simp
  have z2 : (2 : Nat) ≤ sizeLine := z_le (by decide)
  have z1 : (1 : Nat) ≤ sizeLine := z_le (by decide)
  generalize ((List.range 1000).map (fun k => D.tup (nd (twoN f (1 + s) k)))) = LL at *
  generalize nd (othN f) = OT at *
  generalize bg b = B0 at *
  generalize bg b1 = B1 at *
  generalize bg b2 = B2 at *
  simp [u_law_many, e1, e2, l0, c, l1, lp, me, z1, z2, eq, l2]
end Lw
set_option linter.all false
set_option Elab.async false
set_option maxRecDepth 100000
set_option maxHeartbeats 4000000
set_option exponentiation.threshold 5000
namespace Lw
open PySem Ue
theorem noLs_bg (b : Int × Int × Int) : noLs (bg b) = true := rfl
theorem noLs_lots : ∀ ms : List Nat, noLs (ms.map lotD) = true
  | [] => rfl
  | m :: ms => by
    show (noLs (nd (bitsN m)) && noLs (ms.map lotD)) = true
    rw [noLs_nd, noLs_lots ms]; rfl
def A1 : MS := (setM 6 (op2M andI (fnM F_law_take [.o 1, .p (op2M shlI (cM (.int 1)) (callM lenD [(varM 3)]))] []) (fnM F_law_of [.o 1, .p (lstM [(cM (.int 4095)), (cM (.int 4095)), (fnM F_law_take [.o 1, .p (op2M shlI (cM (.int 1)) (callM lenD [(varM 3)]))] [])])] [])))
def A2 : MS := (iffM (andT (cmpM eqS (varM 6) (cM (.int 0))) (cmpM gtI (fnM F_law_take [.o 1, .p (cM (.int 4))] []) (cM (.int 0)))) (setM 6 (op2M shlI (cM (.int 1)) (fnM F_law_take [.o 1, .p (callM lenD [(varM 3)])] []))) nilM)
def A3 : MS := (iffM (andT (cmpM neNil (ovarM 4) (lstM [])) (cmpM eqS (fnM F_law_take [.o 1, .p (cM (.int 6))] []) (cM (.int 0)))) (exprM (mtM 4 appG [(lendP 4 1 (fnM F_law_of [.o 1, .p (varM 4)] []))])) (exprM (mtM 4 appG [(callM tupleD [(compM [13, 14] (enumM (varM 3)) (tgT [(tgN 13), (tgN 14)]) (cmpM eqS (op2M andI (op2M shrI (varM 6) (varM 13)) (cM (.int 1))) (cM (.int 1))) (varM 14))])])))
theorem law0_eq : L_law_0 = seqM A1 (seqM A2 A3) := rfl
section
variable {sd : D} {gr : Bool} {P : List Nat}
theorem dr_1 {lo : EV} {x5 x6 : Option EV} (b : Int × Int × Int) (h0 : 1 ≤ P.length) (h9 : P.length ≤ 12) (h6 : Vl x6) : ∃ (p : Nat) (b' : Int × Int × Int), A1 [some (.v sd), some (.own (bg b)), some (.v (.bl gr)), some (.v (.lst (nd P))), some lo, x5, x6, none, none, none, none, none, none, none, none] = .nx [some (.v sd), some (.own (bg b')), some (.v (.bl gr)), some (.v (.lst (nd P))), some lo, x5, some (.v (.int (p : Int))), none, none, none, none, none, none, none, none] := by
  have p12 : 2 ^ P.length ≤ 4096 := Nat.pow_le_pow_right (n := 2) (by decide) h9
  have p0 : 0 < 2 ^ P.length := Nat.two_pow_pos _
  obtain ⟨p1, b1, e1, _⟩ := take_ok b (n := 2 ^ P.length) p0 (by omega)
  obtain ⟨p2, b2, e2, _⟩ := take_ok b1 (n := 2 ^ P.length) p0 (by omega)
  obtain ⟨q, b3, e3, hq⟩ := of_ok b2 (ds := [.int 4095, .int 4095, .int (p2 : Int)]) (by simp) (by simp)
  obtain ⟨q, rfl⟩ : ∃ n : Nat, q = .int (n : Int) := by
    simp only [List.mem_cons, List.not_mem_nil, or_false] at hq
    rcases hq with rfl | rfl | rfl
    · exact ⟨4095, rfl⟩
    · exact ⟨4095, rfl⟩
    · exact ⟨p2, rfl⟩
  have sh := shl1 (i := P.length) (by omega)
  have ln : (nd P).length = P.length := nd_len _
  have bA := bAnd p1 q
  have pw := pw_i P.length
  rw [pw] at e1 e2
  have z3 : (3 : Nat) ≤ sizeLine := z_le (by decide)
  refine ⟨p1 &&& q, b3, ?_⟩
  clear p12 p0 hq pw
  generalize ((p1 &&& q : Nat) : Int) = PQ at *
  generalize nd P = PP at *
  generalize bg b = B0 at *
  generalize bg b1 = B1 at *
  generalize bg b2 = B2 at *
  generalize bg b3 = B3 at *
  unfold A1
  rcases h6 with rfl | ⟨d6, rfl⟩ <;> simp [ln, sh, e1, e2, z3, e3, bA]
theorem dr_2 {lo : EV} {x5 : Option EV} (b : Int × Int × Int) (p : Nat) (h0 : 1 ≤ P.length) (h9 : P.length ≤ 12) : ∃ (p' : Nat) (b' : Int × Int × Int), A2 [some (.v sd), some (.own (bg b)), some (.v (.bl gr)), some (.v (.lst (nd P))), some lo, x5, some (.v (.int (p : Int))), none, none, none, none, none, none, none, none] = .nx [some (.v sd), some (.own (bg b')), some (.v (.bl gr)), some (.v (.lst (nd P))), some lo, x5, some (.v (.int (p' : Int))), none, none, none, none, none, none, none, none] := by
  have ln : (nd P).length = P.length := nd_len _
  by_cases hp : p = 0
  · subst hp
    obtain ⟨t, b1, e1, _⟩ := take_ok b (n := 4) (by decide) (by decide)
    have e1 : F_law_take [.own (bg b), .v (.int 4)] = .ok (.int (t : Int)) [.own (bg b1), .v (.int 4)] := e1
    by_cases ht : t = 0
    · subst ht
      refine ⟨0, b1, ?_⟩
      generalize nd P = PP at *
      generalize bg b = B0 at *
      generalize bg b1 = B1 at *
      unfold A2
      simp [e1]
    · obtain ⟨n, b2, e2, hn⟩ := take_ok b1 (n := P.length) (by omega) (by omega)
      have sh := shl1 (i := n) (by omega)
      have pw := pw_i n
      have ht' : (0 : Int) < (t : Int) := by omega
      refine ⟨2 ^ n, b2, ?_⟩
      rw [pw]
      generalize nd P = PP at *
      generalize bg b = B0 at *
      generalize bg b1 = B1 at *
      generalize bg b2 = B2 at *
      unfold A2
      simp [e1, ht', ht, ln, e2, sh]
  · have hp' : ¬ (p : Int) = 0 := by omega
    refine ⟨p, b, ?_⟩
    generalize (p : Int) = pi at *
    generalize nd P = PP at *
    generalize bg b = B0 at *
    unfold A2
    simp [hp']
theorem dr_c {lo : EV} {x5 : Option EV} {b : Int × Int × Int} {p : Nat} : compL [13, 14] (tgT [(tgN 13), (tgN 14)]) (cmpM eqS (op2M andI (op2M shrI (varM 6) (varM 13)) (cM (.int 1))) (cM (.int 1))) (varM 14) (enumL (nd P)) [some (.v sd), some (.own (bg b)), some (.v (.bl gr)), some (.v (.lst (nd P))), some lo, x5, some (.v (.int (p : Int))), none, none, none, none, none, none, none, none] = .ok (nd (pickP P p)) [some (.v sd), some (.own (bg b)), some (.v (.bl gr)), some (.v (.lst (nd P))), some lo, x5, some (.v (.int (p : Int))), none, none, none, none, none, none, none, none] := by
  have c := compL_mapF (vs := [13, 14]) (g := tgT [(tgN 13), (tgN 14)]) (tt := (cmpM eqS (op2M andI (op2M shrI (varM 6) (varM 13)) (cM (.int 1))) (cM (.int 1)))) (te := varM 14) (env := [some (.v sd), some (.own (bg b)), some (.v (.bl gr)), some (.v (.lst (nd P))), some lo, x5, some (.v (.int (p : Int))), none, none, none, none, none, none, none, none]) (fun i : Nat => D.tup [.int (i : Int), .int ((gP P i : Nat) : Int)]) (fun i : Nat => D.int ((gP P i : Nat) : Int)) p.testBit (by simp [vsOk]) (List.range P.length) fun i hi => by
    have bi := bit_int p i
    generalize gP P i = g at *
    generalize nd P = PP at *
    generalize bg b = B0 at *
    refine ⟨[some (.v sd), some (.own B0), some (.v (.bl gr)), some (.v (.lst PP)), some lo, x5, some (.v (.int (p : Int))), none, none, none, none, none, none, some (.v (.int (i : Int))), some (.v (.int (g : Int)))], [some (.v sd), some (.own B0), some (.v (.bl gr)), some (.v (.lst PP)), some lo, x5, some (.v (.int (p : Int))), none, none, none, none, none, none, some (.v (.int (i : Int))), some (.v (.int (g : Int)))], by simp, ?_, fun _ => rfl, fun _ => ⟨[some (.v sd), some (.own B0), some (.v (.bl gr)), some (.v (.lst PP)), some lo, x5, some (.v (.int (p : Int))), none, none, none, none, none, none, some (.v (.int (i : Int))), some (.v (.int (g : Int)))], by simp, rfl⟩⟩
    generalize (p : Int) = wi at *
    cases qb : p.testBit i with
    | false => rw [qb] at bi; simp at bi; simp [bi]
    | true => rw [qb] at bi; simp at bi; simp [bi]
  rw [enum_nd, c]
  unfold pickP nd
  rw [List.map_map]; rfl
theorem dr_3 {x5 : Option EV} {ms : List Nat} (b : Int × Int × Int) (p : Nat) (h5 : Vl x5) (ha : P.Pairwise (· < ·)) (hP : ∀ d ∈ P, d < 12) (hl : ms.length < 100) : ∃ (m : Nat) (b' : Int × Int × Int), (m ∈ ms ∨ ∃ r, m = rowM P r) ∧ A3 [some (.v sd), some (.own (bg b)), some (.v (.bl gr)), some (.v (.lst (nd P))), some (.own (ms.map lotD)), x5, some (.v (.int (p : Int))), none, none, none, none, none, none, none, none] = .nx [some (.v sd), some (.own (bg b')), some (.v (.bl gr)), some (.v (.lst (nd P))), some (.own ((ms ++ [m]).map lotD)), x5, some (.v (.int (p : Int))), none, none, none, none, none, none, none, none] := by
  have hn : P.Nodup := ha.imp fun h => by omega
  have lP := nodup_lt hn hP
  have l4 : (ms.map lotD).length < sizeLine := Nat.lt_of_lt_of_le (by rw [List.length_map]; omega : (ms.map lotD).length < 101) (z_le (by decide))
  have last : ∀ (b1 : Int × Int × Int), (exprM (mtM 4 appG [(callM tupleD [(compM [13, 14] (enumM (varM 3)) (tgT [(tgN 13), (tgN 14)]) (cmpM eqS (op2M andI (op2M shrI (varM 6) (varM 13)) (cM (.int 1))) (cM (.int 1))) (varM 14))])])) [some (.v sd), some (.own (bg b1)), some (.v (.bl gr)), some (.v (.lst (nd P))), some (.own (ms.map lotD)), x5, some (.v (.int (p : Int))), none, none, none, none, none, none, none, none] = .nx [some (.v sd), some (.own (bg b1)), some (.v (.bl gr)), some (.v (.lst (nd P))), some (.own ((ms ++ [rowM P p]).map lotD)), x5, some (.v (.int (p : Int))), none, none, none, none, none, none, none, none] := fun b1 => by
    have c := dr_c (sd := sd) (gr := gr) (P := P) (lo := .own (ms.map lotD)) (x5 := x5) (b := b1) (p := p)
    have l1 : (enumL (nd P)).length ≤ sizeLine := by rw [enum_nd, List.length_map, List.length_range]; exact z_le (by omega)
    have lk : (pickP P p).length ≤ 12 := nodup_lt (pick_nodup hn p) fun d hd => hP d (pick_sub hd)
    have l2 : (nd (pickP P p)).length ≤ sizeLine := by rw [nd_len]; exact z_le (by omega)
    have e : lotD (rowM P p) = .tup (nd (pickP P p)) := by
      unfold lotD rowM
      rw [← asc_bits (pick_asc ha p) fun d hd => by have := hP d (pick_sub hd); omega]
    have e2 : (ms ++ [rowM P p]).map lotD = ms.map lotD ++ [.tup (nd (pickP P p))] := by rw [List.map_append, ← e]; rfl
    rw [e2]
    clear e e2
    generalize nd (pickP P p) = PK at *
    generalize nd P = PP at *
    generalize ms.map lotD = M at *
    generalize bg b1 = B1 at *
    rcases h5 with rfl | ⟨d5, rfl⟩ <;> simp [l1, c, l2, l4, appG]
  by_cases hm : ms = []
  · subst hm
    refine ⟨rowM P p, b, .inr ⟨p, rfl⟩, ?_⟩
    have := last b
    unfold A3
    generalize (exprM (mtM 4 appG [(callM tupleD [(compM [13, 14] (enumM (varM 3)) (tgT [(tgN 13), (tgN 14)]) (cmpM eqS (op2M andI (op2M shrI (varM 6) (varM 13)) (cM (.int 1))) (cM (.int 1))) (varM 14))])])) = LA at *
    generalize ([] ++ [rowM P p]).map lotD = RR at *
    generalize nd P = PP at *
    generalize bg b = B0 at *
    simp at this
    simp [this]
  · obtain ⟨t, b1, e1, _⟩ := take_ok b (n := 6) (by decide) (by decide)
    have e1 : F_law_take [.own (bg b), .v (.int 6)] = .ok (.int (t : Int)) [.own (bg b1), .v (.int 6)] := e1
    have em : (ms.map lotD).isEmpty = false := by
      cases ms with
      | nil => exact absurd rfl hm
      | cons a l => rfl
    by_cases ht : t = 0
    · subst ht
      obtain ⟨d, b2, e2, hd⟩ := of_ok b1 (ds := ms.map lotD) (by simpa using hm) (by rw [List.length_map]; omega)
      obtain ⟨m, hm', rfl⟩ := List.mem_map.mp hd
      refine ⟨m, b2, .inl hm', ?_⟩
      have e3 : (ms ++ [m]).map lotD = ms.map lotD ++ [lotD m] := by rw [List.map_append]; rfl
      rw [e3]
      have n1 := noLs_lots ms
      have n2 := noLs_bg b1
      have n3 := noLs_bg b2
      have n4 : noL (lotD m) = true := noLs_nd _
      clear last hd hm' hm
      generalize lotD m = LM at *
      generalize ms.map lotD = M at *
      generalize nd P = PP at *
      generalize bg b = B0 at *
      generalize bg b1 = B1 at *
      generalize bg b2 = B2 at *
      unfold A3
      rcases h5 with rfl | ⟨d5, rfl⟩ <;> simp [em, e1, e2, ownL, n1, n2, n3, n4, l4, appG]
    · have ht' : ¬ (t : Int) = 0 := by omega
      refine ⟨rowM P p, b1, .inr ⟨p, rfl⟩, ?_⟩
      have := last b1
      clear last
      unfold A3
      generalize (exprM (mtM 4 appG [(callM tupleD [(compM [13, 14] (enumM (varM 3)) (tgT [(tgN 13), (tgN 14)]) (cmpM eqS (op2M andI (op2M shrI (varM 6) (varM 13)) (cM (.int 1))) (cM (.int 1))) (varM 14))])])) = LA at *
      generalize (ms ++ [rowM P p]).map lotD = RR at *
      generalize ms.map lotD = M at *
      generalize nd P = PP at *
      generalize bg b = B0 at *
      generalize bg b1 = B1 at *
      simp [em, e1, ht, this]
theorem dr_loop (h0 : 1 ≤ P.length) (ha : P.Pairwise (· < ·)) (hP : ∀ d ∈ P, d < 12) : ∀ (ks : List D) (ms : List Nat) (b : Int × Int × Int) (x5 x6 : Option EV), Vl x5 → Vl x6 → ms.length + ks.length < 100 → (∀ m ∈ ms, ∃ r, m = rowM P r) →
    ∃ (ms' : List Nat) (b' : Int × Int × Int) (y5 y6 : Option EV), (∀ m ∈ ms', ∃ r, m = rowM P r) ∧ ms'.length = ms.length + ks.length ∧ Vl y5 ∧ Vl y6 ∧ forM (tgN 5) L_law_0 ks [some (.v sd), some (.own (bg b)), some (.v (.bl gr)), some (.v (.lst (nd P))), some (.own (ms.map lotD)), x5, x6, none, none, none, none, none, none, none, none] = .nx [some (.v sd), some (.own (bg b')), some (.v (.bl gr)), some (.v (.lst (nd P))), some (.own (ms'.map lotD)), y5, y6, none, none, none, none, none, none, none, none]
  | [], ms, b, x5, x6, h5, h6, _, h => ⟨ms, b, x5, x6, h, rfl, h5, h6, rfl⟩
  | k :: ks, ms, b, x5, x6, h5, h6, hl, h => by
    have hl : ms.length + (ks.length + 1) < 100 := hl
    have hn : P.Nodup := ha.imp fun h => by omega
    have lP := nodup_lt hn hP
    obtain ⟨p, b1, e1⟩ := dr_1 (sd := sd) (gr := gr) (P := P) (lo := .own (ms.map lotD)) (x5 := some (.v k)) (x6 := x6) b h0 (by omega) h6
    obtain ⟨p', b2, e2⟩ := dr_2 (sd := sd) (gr := gr) (P := P) (lo := .own (ms.map lotD)) (x5 := some (.v k)) b1 p h0 (by omega)
    obtain ⟨m, b3, hm, e3⟩ := dr_3 (sd := sd) (gr := gr) (P := P) (x5 := some (.v k)) (ms := ms) b2 p' (.inr ⟨_, rfl⟩) ha hP (by omega)
    have hm' : ∃ r, m = rowM P r := hm.elim (h m) id
    obtain ⟨ms', b', y5, y6, q1, q2, q3, q4, q5⟩ := dr_loop h0 ha hP ks (ms ++ [m]) b3 (some (.v k)) (some (.v (.int (p' : Int)))) (.inr ⟨_, rfl⟩) (.inr ⟨_, rfl⟩) (by rw [List.length_append]; simp; omega) (fun x hx => by
      rcases List.mem_append.mp hx with hx | hx
      · exact h x hx
      · rw [List.mem_singleton.mp hx]; exact hm')
    refine ⟨ms', b', y5, y6, q1, by rw [q2, List.length_append]; simp; omega, q3, q4, ?_⟩
    rw [forM_c, ← q5, law0_eq]
    generalize A1 = a1 at *
    generalize A2 = a2 at *
    generalize A3 = a3 at *
    generalize (ms ++ [m]).map lotD = M2 at *
    generalize ms.map lotD = M at *
    generalize nd P = PP at *
    generalize bg b = B0 at *
    generalize bg b1 = B1 at *
    generalize bg b2 = B2 at *
    generalize bg b3 = B3 at *
    rcases h5 with rfl | ⟨d5, rfl⟩ <;> simp [e1, e2, e3]
end
end Lw
set_option linter.all false
set_option Elab.async false
set_option maxRecDepth 100000
set_option maxHeartbeats 4000000
set_option exponentiation.threshold 5000
namespace Lw
open PySem Ue
def kpD (p : Bool × List Nat) : D := lsN p.2
def lot2 (b : Bool) (m : Nat) : Bool × List Nat := (b, bitsN m)
section
variable {ns : List Int} {gr : Bool} {P : List Nat} {x5 x6 : Option EV}
theorem hand_comp {M4 : D} (h5 : Vl x5) (h6 : Vl x6) : ∀ (ms : List Nat) (b : Int × Int × Int), ∃ (Ls : List (Bool × List Nat)) (b' : Int × Int × Int), Ls.map (·.2) = ms.map bitsN ∧ compL [12] (tgN 12) yesT (ifM (cmpM eqS (fnM F_law_take [.o 1, .p (cM (.int 3))] []) (cM (.int 0))) (callM listD [(varM 12)]) (varM 12)) (ms.map lotD) [some (.v (.scr ns)), some (.own (bg b)), some (.v (.bl gr)), some (.v (.lst (nd P))), some (.v M4), x5, x6, none, none, none, none, none, none, none, none] = .ok (Ls.map ltD) [some (.v (.scr ns)), some (.own (bg b')), some (.v (.bl gr)), some (.v (.lst (nd P))), some (.v M4), x5, x6, none, none, none, none, none, none, none, none]
  | [], b => ⟨[], b, rfl, rfl⟩
  | m :: ms, b => by
    obtain ⟨t, b1, e1, _⟩ := take_ok b (n := 3) (by decide) (by decide)
    have e1 : F_law_take [.own (bg b), .v (.int 3)] = .ok (.int (t : Int)) [.own (bg b1), .v (.int 3)] := e1
    obtain ⟨Ls, b2, q1, q2⟩ := hand_comp (M4 := M4) h5 h6 ms b1
    refine ⟨(decide (t = 0), bitsN m) :: Ls, b2, by rw [List.map_cons, List.map_cons, q1], ?_⟩
    rw [List.map_cons, List.map_cons, compL_c]
    have lb := bitsN_len m
    have l1 : (nd (bitsN m)).length ≤ sizeLine := by rw [nd_len]; exact z_le (by omega)
    generalize ms.map lotD = MM at *
    generalize Ls.map ltD = LL at *
    unfold ltD lotD
    generalize nd (bitsN m) = BM at *
    generalize nd P = PP at *
    generalize bg b = B0 at *
    generalize bg b1 = B1 at *
    generalize bg b2 = B2 at *
    have rr : ∀ z, restE [some (.v (.scr ns)), some (.own B0), some (.v (.bl gr)), some (.v (.lst PP)), some (.v M4), x5, x6, none, none, none, none, none, none, none, none] [some (.v (.scr ns)), some (.own B1), some (.v (.bl gr)), some (.v (.lst PP)), some (.v M4), x5, x6, none, none, none, none, none, z, none, none] [12] = [some (.v (.scr ns)), some (.own B1), some (.v (.bl gr)), some (.v (.lst PP)), some (.v M4), x5, x6, none, none, none, none, none, none, none, none] := fun _ => rfl
    by_cases ht : t = 0
    · subst ht
      rcases h5 with rfl | ⟨d5, rfl⟩ <;> rcases h6 with rfl | ⟨d6, rfl⟩ <;> simp [vsOk, wipeE, rr, e1, l1, q2, listD]
    · rcases h5 with rfl | ⟨d5, rfl⟩ <;> rcases h6 with rfl | ⟨d6, rfl⟩ <;> simp [vsOk, wipeE, rr, e1, l1, q2, listD, ht]
theorem num_lot {m : Nat} {x7 x8 x9 x10 x11 : EV} (b : Int × Int × Int) {ms : List Nat} : L_law_1 [some (.v (.scr ns)), some (.own (bg b)), some (.v (.bl gr)), some (.v (.lst (nd P))), some (.v (.lst (ms.map lotD))), x5, x6, some x7, some x8, some x9, some x10, some x11, some (.v (lotD m)), none, none] = .nx [some (.v (.scr ns)), some (.own (bg b)), some (.v (.bl gr)), some (.v (.lst (nd P))), some (.v (.lst (ms.map lotD))), x5, x6, some x7, some x8, some x9, some x10, some x11, some (.v (lotD m)), none, none] := by
  have c : compL [14] (tgN 14) yesT (fnM F_law_is_number [.p (varM 14)] []) (nd (bitsN m)) [some (.v (.scr ns)), some (.own (bg b)), some (.v (.bl gr)), some (.v (.lst (nd P))), some (.v (.lst (ms.map lotD))), x5, x6, some x7, some x8, some x9, some x10, some x11, some (.v (lotD m)), none, none] = .ok ((bitsN m).map fun _ => D.bl true) [some (.v (.scr ns)), some (.own (bg b)), some (.v (.bl gr)), some (.v (.lst (nd P))), some (.v (.lst (ms.map lotD))), x5, x6, some x7, some x8, some x9, some x10, some x11, some (.v (lotD m)), none, none] := by
    refine compL_map (fun i : Nat => D.int (i : Int)) _ (by simp [vsOk]) (bitsN m) fun i hi => ?_
    have w := is_number_ok (i : Int)
    generalize lotD m = LM at *
    generalize ms.map lotD = M at *
    generalize nd P = PP at *
    generalize bg b = B0 at *
    exact ⟨[some (.v (.scr ns)), some (.own B0), some (.v (.bl gr)), some (.v (.lst PP)), some (.v (.lst M)), x5, x6, some x7, some x8, some x9, some x10, some x11, some (.v LM), none, some (.v (.int (i : Int)))], [some (.v (.scr ns)), some (.own B0), some (.v (.bl gr)), some (.v (.lst PP)), some (.v (.lst M)), x5, x6, some x7, some x8, some x9, some x10, some x11, some (.v LM), none, some (.v (.int (i : Int)))], by simp, by simp [w], rfl⟩
  have al := all_map (fun _ : Nat => true) (bitsN m)
  have al : allD [.lst ((bitsN m).map fun _ => D.bl true)] = some (.bl true) := by rw [al]; simp
  have lb := bitsN_len m
  have l1 : (nd (bitsN m)).length ≤ sizeLine := by rw [nd_len]; exact z_le (by omega)
  have l2 : ((bitsN m).map fun _ => D.bl true).length ≤ sizeLine := by rw [List.length_map]; exact z_le (by omega)
  unfold L_law_1
  unfold lotD at *
  generalize ((bitsN m).map fun _ => D.bl true) = FM at *
  generalize nd (bitsN m) = BM at *
  generalize ms.map (fun m => D.tup (nd (bitsN m))) = M at *
  generalize nd P = PP at *
  generalize bg b = B0 at *
  simp [l1, c, l2, al]
theorem num_loop {x7 x8 x9 x10 x11 : EV} (b : Int × Int × Int) {ms : List Nat} : ∀ (T : List Nat) (x12 : Option EV), Vl x12 → ∃ y12, Vl y12 ∧ forM (tgN 12) L_law_1 (T.map lotD) [some (.v (.scr ns)), some (.own (bg b)), some (.v (.bl gr)), some (.v (.lst (nd P))), some (.v (.lst (ms.map lotD))), x5, x6, some x7, some x8, some x9, some x10, some x11, x12, none, none] = .nx [some (.v (.scr ns)), some (.own (bg b)), some (.v (.bl gr)), some (.v (.lst (nd P))), some (.v (.lst (ms.map lotD))), x5, x6, some x7, some x8, some x9, some x10, some x11, y12, none, none]
  | [], x12, h => ⟨x12, h, rfl⟩
  | m :: T, x12, h => by
    obtain ⟨y, hy, e⟩ := num_loop (x7 := x7) (x8 := x8) (x9 := x9) (x10 := x10) (x11 := x11) b (ms := ms) T (some (.v (lotD m))) (.inr ⟨_, rfl⟩)
    refine ⟨y, hy, ?_⟩
    have st := num_lot (ns := ns) (gr := gr) (P := P) (x5 := x5) (x6 := x6) (m := m) (x7 := x7) (x8 := x8) (x9 := x9) (x10 := x10) (x11 := x11) b (ms := ms)
    rw [List.map_cons, forM_c, ← e]
    simp only [tgN_s, List.set_cons_zero, List.set_cons_succ]
    rw [st, loopS_nx]
end
section
variable {s0 g2 p3 m4 h7 k8 s9 t10 m11 : D} {x5 x6 : Option EV} {B0 B1 B2 : List D}
theorem st_5 {M H : List D} {B0 : List D} (l1 : M.length ≤ sizeLine) (l2 : H.length ≤ sizeLine) (hc : compL [12] (tgN 12) yesT (ifM (cmpM eqS (fnM F_law_take [.o 1, .p (cM (.int 3))] []) (cM (.int 0))) (callM listD [(varM 12)]) (varM 12)) M [some (.v s0), some (.own B0), some (.v g2), some (.v p3), some (.v (.lst M)), x5, x6, none, none, none, none, none, none, none, none] = .ok H [some (.v s0), some (.own B1), some (.v g2), some (.v p3), some (.v (.lst M)), x5, x6, none, none, none, none, none, none, none, none]) : T_law_5 [some (.v s0), some (.own B0), some (.v g2), some (.v p3), some (.own M), x5, x6, none, none, none, none, none, none, none, none] = T_law_6 [some (.v s0), some (.own B1), some (.v g2), some (.v p3), some (.v (.lst M)), x5, x6, some (.v (.lst H)), none, none, none, none, none, none, none] := by
  simp [T_law_5, l1, l2, hc]
theorem st_6 {H K : List D} (l1 : H.length ≤ sizeLine) (l2 : K.length ≤ sizeLine) (hc : compL [12] (tgN 12) yesT (callM listD [(varM 12)]) H [some (.v s0), some (.own B0), some (.v g2), some (.v p3), some (.v m4), x5, x6, some (.v (.lst H)), none, none, none, none, none, none, none] = .ok K [some (.v s0), some (.own B0), some (.v g2), some (.v p3), some (.v m4), x5, x6, some (.v (.lst H)), none, none, none, none, none, none, none]) : T_law_6 [some (.v s0), some (.own B0), some (.v g2), some (.v p3), some (.v m4), x5, x6, some (.v (.lst H)), none, none, none, none, none, none, none] = T_law_7 [some (.v s0), some (.own B0), some (.v g2), some (.v p3), some (.v m4), x5, x6, some (.v (.lst H)), some (.v (.lst K)), none, none, none, none, none, none] := by
  simp [T_law_6, l1, l2, hc]
theorem st_7 {H : List D} {t : Nat} (l1 : H.length ≤ sizeLine) (e : F_law_take [.own B0, .v (.int 2)] = .ok (.int (t : Int)) [.own B1, .v (.int 2)]) : T_law_7 [some (.v s0), some (.own B0), some (.v g2), some (.v p3), some (.v m4), x5, x6, some (.v (.lst H)), some (.v k8), none, none, none, none, none, none] = T_law_8 [some (.v s0), some (.own B1), some (.v g2), some (.v p3), some (.v m4), x5, x6, some (.v (.lst H)), some (.v k8), some (.v (if t = 0 then .lst H else .tup H)), none, none, none, none, none] := by
  by_cases ht : t = 0
  · subst ht
    simp [T_law_7, e]
  · simp [T_law_7, e, ht, l1]
theorem st_8 (e : F_least_meeting [.v s9] = .ok t10 [.v s9]) : T_law_8 [some (.v s0), some (.own B0), some (.v g2), some (.v p3), some (.v m4), x5, x6, some (.v h7), some (.v k8), some (.v s9), none, none, none, none, none] = T_law_9 [some (.v s0), some (.own B0), some (.v g2), some (.v p3), some (.v m4), x5, x6, some (.v h7), some (.v k8), some (.v s9), some (.v t10), none, none, none, none] := by
  simp [T_law_8, e]
theorem st_9 {M MM : List D} (l1 : M.length ≤ sizeLine) (l2 : MM.length ≤ sizeLine) (hc : compL [12] (tgN 12) yesT (fnM F_law_set [.p (varM 12)] []) M [some (.v s0), some (.own B0), some (.v g2), some (.v p3), some (.v (.lst M)), x5, x6, some (.v h7), some (.v k8), some (.v s9), some (.v t10), none, none, none, none] = .ok MM [some (.v s0), some (.own B0), some (.v g2), some (.v p3), some (.v (.lst M)), x5, x6, some (.v h7), some (.v k8), some (.v s9), some (.v t10), none, none, none, none]) : T_law_9 [some (.v s0), some (.own B0), some (.v g2), some (.v p3), some (.v (.lst M)), x5, x6, some (.v h7), some (.v k8), some (.v s9), some (.v t10), none, none, none, none] = T_law_10 [some (.v s0), some (.own B0), some (.v g2), some (.v p3), some (.v (.lst M)), x5, x6, some (.v h7), some (.v k8), some (.v s9), some (.v t10), some (.v (.lst MM)), none, none, none] := by
  simp [T_law_9, l1, l2, hc]
theorem st_10 {T BT : List D} (l1 : T.length ≤ sizeLine) (l2 : BT.length ≤ sizeLine) (hc : compL [12] (tgN 12) yesT (isTabM ty_tuple cn_tuple (varM 12)) T [some (.v s0), some (.own B0), some (.v g2), some (.v p3), some (.v m4), x5, x6, some (.v h7), some (.v k8), some (.v s9), some (.v (.tup T)), some (.v m11), none, none, none] = .ok BT [some (.v s0), some (.own B0), some (.v g2), some (.v p3), some (.v m4), x5, x6, some (.v h7), some (.v k8), some (.v s9), some (.v (.tup T)), some (.v m11), none, none, none]) (al : allD [.lst BT] = some (.bl true)) : T_law_10 [some (.v s0), some (.own B0), some (.v g2), some (.v p3), some (.v m4), x5, x6, some (.v h7), some (.v k8), some (.v s9), some (.v (.tup T)), some (.v m11), none, none, none] = T_law_11 [some (.v s0), some (.own B0), some (.v g2), some (.v p3), some (.v m4), x5, x6, some (.v h7), some (.v k8), some (.v s9), some (.v (.tup T)), some (.v m11), none, none, none] := by
  simp [T_law_10, l1, l2, hc, al]
theorem st_11 {T : List D} {y12 : Option EV} (lp : forM (tgN 12) L_law_1 T [some (.v s0), some (.own B0), some (.v g2), some (.v p3), some (.v m4), x5, x6, some (.v h7), some (.v k8), some (.v s9), some (.v (.tup T)), some (.v m11), none, none, none] = .nx [some (.v s0), some (.own B0), some (.v g2), some (.v p3), some (.v m4), x5, x6, some (.v h7), some (.v k8), some (.v s9), some (.v (.tup T)), some (.v m11), y12, none, none]) : T_law_11 [some (.v s0), some (.own B0), some (.v g2), some (.v p3), some (.v m4), x5, x6, some (.v h7), some (.v k8), some (.v s9), some (.v (.tup T)), some (.v m11), none, none, none] = T_law_12 [some (.v s0), some (.own B0), some (.v g2), some (.v p3), some (.v m4), x5, x6, some (.v h7), some (.v k8), some (.v s9), some (.v (.tup T)), some (.v m11), y12, none, none] := by
  simp [T_law_11, lp]
theorem st_12 {T : List D} {r : D} {y12 : Option EV} (l1 : T.length ≤ sizeLine) (e1 : F_law_meeting [.v m11, .v p3] = .ok r [.v m11, .v p3]) (e2 : F_law_sorted [.v r] = .ok (.lst T) [.v r]) (eq : eqD (.lst T) (.lst T) = some true) : T_law_12 [some (.v s0), some (.own B0), some (.v g2), some (.v p3), some (.v m4), x5, x6, some (.v h7), some (.v k8), some (.v s9), some (.v (.tup T)), some (.v m11), y12, none, none] = T_law_13 [some (.v s0), some (.own B0), some (.v g2), some (.v p3), some (.v m4), x5, x6, some (.v h7), some (.v k8), some (.v s9), some (.v (.tup T)), some (.v m11), y12, none, none] := by
  simp [T_law_12, l1, e1, e2, eq]
theorem st_13 {T H K M : List D} {y12 : Option EV} (hy : Vl y12) (l1 : H.length ≤ sizeLine) (l2 : K.length ≤ sizeLine) (hc : compL [12] (tgN 12) yesT (callM listD [(varM 12)]) H [some (.v s0), some (.own B0), some (.v g2), some (.v p3), some (.v (.lst M)), x5, x6, some (.v (.lst H)), some (.v (.lst K)), some (.v s9), some (.v (.tup T)), some (.v m11), y12, none, none] = .ok K [some (.v s0), some (.own B0), some (.v g2), some (.v p3), some (.v (.lst M)), x5, x6, some (.v (.lst H)), some (.v (.lst K)), some (.v s9), some (.v (.tup T)), some (.v m11), y12, none, none]) (eq : eqD (.lst K) (.lst K) = some true) (ln : lenD [s9] = some (.int (M.length : Int))) : T_law_13 [some (.v s0), some (.own B0), some (.v g2), some (.v p3), some (.v (.lst M)), x5, x6, some (.v (.lst H)), some (.v (.lst K)), some (.v s9), some (.v (.tup T)), some (.v m11), y12, none, none] = T_law_14 [some (.v s0), some (.own B0), some (.v g2), some (.v p3), some (.v (.lst M)), x5, x6, some (.v (.lst H)), some (.v (.lst K)), some (.v s9), some (.v (.tup T)), some (.v m11), y12, none, none] := by
  have ln2 : lenD [.lst M] = some (.int (M.length : Int)) := rfl
  simp [T_law_13, l1, l2, hc, eq, ln, ln2, -lenD_l]
theorem st_14 {T T2 : List D} {r : D} {y12 : Option EV} (l1 : T2.length ≤ sizeLine) (e0 : F_least_meeting [.v (.tup T)] = .ok (.tup T2) [.v (.tup T)]) (e1 : F_law_barest [.v m11] = .ok r [.v m11]) (e2 : F_law_sorted [.v r] = .ok (.lst T2) [.v r]) (eq : eqD (.lst T2) (.lst T2) = some true) : T_law_14 [some (.v s0), some (.own B0), some (.v g2), some (.v p3), some (.v m4), x5, x6, some (.v h7), some (.v k8), some (.v s9), some (.v (.tup T)), some (.v m11), y12, none, none] = T_law_15 [some (.v s0), some (.own B0), some (.v g2), some (.v p3), some (.v m4), x5, x6, some (.v h7), some (.v k8), some (.v s9), some (.v (.tup T)), some (.v m11), y12, none, none] := by
  simp [T_law_14, l1, e0, e1, e2, eq]
theorem st_15 {T : List D} {y12 : Option EV} {t : Nat} (e : F_law_take [.own B0, .v (.int 12)] = .ok (.int (t : Int)) [.own B1, .v (.int 12)]) (e2 : F_law_many [.own B1] = .ok (.bl true) [.own B2]) : ∃ en, T_law_15 [some (.v s0), some (.own B0), some (.v g2), some (.v p3), some (.v m4), x5, x6, some (.v h7), some (.v k8), some (.v s9), some (.v (.tup T)), some (.v m11), y12, none, none] = .ret (.bl true) en := by
  by_cases ht : t = 0
  · subst ht
    exact ⟨_, by simp [T_law_15, e, e2]; rfl⟩
  · have ht' : 0 < t := by omega
    exact ⟨_, by simp [T_law_15, e, ht']; rfl⟩
end
end Lw
set_option linter.all false
set_option Elab.async false
set_option maxRecDepth 100000
set_option maxHeartbeats 4000000
set_option exponentiation.threshold 5000
namespace Lw
open PySem Ue
theorem famD_len (c : Bool) (Ls : List (Bool × List Nat)) : lenD [famD c Ls] = some (.int (Ls.length : Int)) := by
  unfold famD
  cases c <;> simp
theorem list_comp {Ls : List (Bool × List Nat)} {a0 a1 a2 a3 a4 a5 a6 a7 a8 a9 a10 a11 x12 : Option EV} (hl : ∀ p ∈ Ls, p.2.length ≤ 16) (h : Vl x12) : compL [12] (tgN 12) yesT (callM listD [(varM 12)]) (Ls.map ltD) [a0, a1, a2, a3, a4, a5, a6, a7, a8, a9, a10, a11, x12, none, none] = .ok (Ls.map kpD) [a0, a1, a2, a3, a4, a5, a6, a7, a8, a9, a10, a11, x12, none, none] := by
  refine compL_map ltD _ (by rcases h with rfl | ⟨d, rfl⟩ <;> simp [vsOk, EV.isOwn]) Ls fun p hp => ?_
  have l1 : (nd p.2).length ≤ sizeLine := by rw [nd_len]; exact z_le (Nat.le_trans (hl p hp) (by decide))
  unfold ltD kpD lsN
  generalize nd p.2 = A at *
  exact ⟨[a0, a1, a2, a3, a4, a5, a6, a7, a8, a9, a10, a11, some (.v (if p.1 = true then .lst A else .tup A)), none, none], [a0, a1, a2, a3, a4, a5, a6, a7, a8, a9, a10, a11, some (.v (if p.1 = true then .lst A else .tup A)), none, none], by simp [wipeE], by cases p.1 <;> simp [listD, l1], by rfl⟩
theorem tail_ok {ns : List Int} {gr : Bool} {W : Nat} {ms : List Nat} (b : Int × Int × Int) {x5 x6 : Option EV} (h5 : Vl x5) (h6 : Vl x6) (hW : W < 2 ^ 12) (hm : ∀ m ∈ ms, ∃ r, m = rowM (bitsN W) r) (hl : ms.length ≤ 100) : ∃ en, T_law_5 [some (.v (.scr ns)), some (.own (bg b)), some (.v (.bl gr)), some (.v (.lst (nd (bitsN W)))), some (.own (ms.map lotD)), x5, x6, none, none, none, none, none, none, none, none] = .ret (.bl true) en := by
  have hP : ∀ d ∈ bitsN W, d < 12 := fun d hd => by
    rcases Nat.lt_or_ge d 12 with q | q
    · exact q
    · have := (bitsN_mem (m := W) (i := d) (by omega)).mp hd
      rw [hi_bit hW q] at this; cases this
  have hn := bits_nodup W
  have hb : ∀ m ∈ ms, ∀ i, m.testBit i = true → i ∈ bitsN W := fun m h i hi => by
    obtain ⟨r, rfl⟩ := hm m h
    exact pick_sub (maskN_bit.mp hi)
  have h12 : ∀ m ∈ ms, m < 2 ^ 12 := fun m h => lt_of_bits fun i hi => hP i (hb m h i hi)
  have h16 : ∀ m ∈ ms, m < 2 ^ 16 := fun m h => by have := h12 m h; omega
  have z := sz24
  -- what is handed in
  obtain ⟨Ls, b1, hLs, c5⟩ := hand_comp (ns := ns) (gr := gr) (P := bitsN W) (M4 := .lst (ms.map lotD)) h5 h6 ms b
  have lLs : Ls.length = ms.length := by
    have := congrArg List.length hLs
    rwa [List.length_map, List.length_map] at this
  have dLs : ∀ p ∈ Ls, ∃ m ∈ ms, p.2 = bitsN m := fun p hp => by
    have : p.2 ∈ Ls.map (·.2) := List.mem_map.mpr ⟨p, hp, rfl⟩
    rw [hLs] at this
    obtain ⟨m, h1, h2⟩ := List.mem_map.mp this
    exact ⟨m, h1, h2.symm⟩
  have mLs : Ls.map mk2 = ms := by
    have e : Ls.map mk2 = (Ls.map (·.2)).map maskN := by rw [List.map_map]; rfl
    rw [e, hLs, List.map_map]
    exact (List.map_congr_left fun m h => maskN_bits (h16 m h)).trans (List.map_id _)
  obtain ⟨t7, b2, e7, _⟩ := take_ok b1 (n := 2) (by decide) (by decide)
  have e7 : F_law_take [.own (bg b1), .v (.int 2)] = .ok (.int (t7 : Int)) [.own (bg b2), .v (.int 2)] := e7
  have fam : (if t7 = 0 then D.lst (Ls.map ltD) else .tup (Ls.map ltD)) = famD (decide (t7 = 0)) Ls := by
    unfold famD
    by_cases q : t7 = 0
    · simp [q]
    · simp [q]
  have me := meeting_ok (decide (t7 = 0)) (Ls := Ls) (fun p hp d hd => by
    obtain ⟨m, _, e⟩ := dLs p hp
    rw [e] at hd
    exact bitsN_lt hd) (by omega)
  rw [mLs] at me
  obtain ⟨s1, s2, s3⟩ := meetN_spec h16
  obtain ⟨T, hT⟩ : ∃ T, T = sortT (meetN ms) := ⟨_, rfl⟩
  rw [← hT] at me
  have T16 : ∀ x ∈ T, x < 2 ^ 16 := fun x hx => s1 x (sortT_mem.mp (hT ▸ hx))
  have Tmin : ∀ x, x ∈ T ↔ IsMin x ms := fun x => by rw [hT, sortT_mem]; exact s3 x
  have lT : T.length ≤ 65536 := by rw [hT, sortT_len]; exact nodup_lt s2 s1
  -- the law's own
  obtain ⟨r1, r2⟩ := lawMeet_spec (P := bitsN W) (F := ms) hn hP hb
  have eT : sortT (lawMeet (bitsN W) ms) = T := by
    rw [hT]
    exact (sortT_uniq s1 s2 r1 fun x => (s3 x).trans (r2 x).symm).symm
  have lm12 : ∀ x ∈ lawMeet (bitsN W) ms, x < 2 ^ 12 := fun x hx => by
    unfold lawMeet at hx
    obtain ⟨r, _, rfl⟩ := List.mem_map.mp (List.mem_filter.mp hx).1
    exact lt_of_bits fun i hi => hP i (pick_sub (maskN_bit.mp hi))
  have e12 := law_meeting_ok (P := bitsN W) (F := ms) hn hP (by omega)
  have e12' := law_sorted_ok lm12 (by have := nodup_lt r1 lm12; omega)
  rw [eT] at e12'
  -- twice
  obtain ⟨u1, u2⟩ := bar_spec ms
  have tw := meeting_ok false (Ls := T.map (lot2 false)) (fun p hp d hd => by
    obtain ⟨m, _, rfl⟩ := List.mem_map.mp hp
    exact bitsN_lt hd) (by rw [List.length_map]; exact lT)
  have mk : (T.map (lot2 false)).map mk2 = T := by
    rw [List.map_map]
    exact (List.map_congr_left fun m h => maskN_bits (T16 m h)).trans (List.map_id _)
  have fm : famD false (T.map (lot2 false)) = .tup (T.map lotD) := by
    unfold famD
    rw [if_neg (by decide), List.map_map]; rfl
  obtain ⟨v1, v2, v3⟩ := meetN_spec T16
  have eU : sortT (meetN T) = sortT (barN ms ms []) := sortT_uniq v1 v2 u1 fun x => (v3 x).trans ((min_twice 12 h12 Tmin x).trans (u2 x).symm)
  rw [mk, fm, eU] at tw
  have b12 : ∀ x ∈ barN ms ms [], x < 2 ^ 12 := fun x hx => h12 x ((u2 x).mp hx).1
  have e14 := barest_ok (F := ms) (by omega)
  have e14' := law_sorted_ok b12 (by have := nodup_lt u1 b12; omega)
  -- the comps
  have l2 : ∀ p ∈ Ls, p.2.length ≤ 16 := fun p hp => by
    obtain ⟨m, _, e⟩ := dLs p hp
    rw [e]; exact bitsN_len _
  have c6 : compL [12] (tgN 12) yesT (callM listD [(varM 12)]) (Ls.map ltD) [some (.v (.scr ns)), some (.own (bg b1)), some (.v (.bl gr)), some (.v (.lst (nd (bitsN W)))), some (.v (.lst (ms.map lotD))), x5, x6, some (.v (.lst (Ls.map ltD))), none, none, none, none, none, none, none] = .ok (Ls.map kpD) [some (.v (.scr ns)), some (.own (bg b1)), some (.v (.bl gr)), some (.v (.lst (nd (bitsN W)))), some (.v (.lst (ms.map lotD))), x5, x6, some (.v (.lst (Ls.map ltD))), none, none, none, none, none, none, none] := list_comp l2 (.inl rfl)
  have c9 : compL [12] (tgN 12) yesT (fnM F_law_set [.p (varM 12)] []) (ms.map lotD) [some (.v (.scr ns)), some (.own (bg b2)), some (.v (.bl gr)), some (.v (.lst (nd (bitsN W)))), some (.v (.lst (ms.map lotD))), x5, x6, some (.v (.lst (Ls.map ltD))), some (.v (.lst (Ls.map kpD))), some (.v (famD (decide (t7 = 0)) Ls)), some (.v (.tup (T.map lotD))), none, none, none, none] = .ok (nd ms) [some (.v (.scr ns)), some (.own (bg b2)), some (.v (.bl gr)), some (.v (.lst (nd (bitsN W)))), some (.v (.lst (ms.map lotD))), x5, x6, some (.v (.lst (Ls.map ltD))), some (.v (.lst (Ls.map kpD))), some (.v (famD (decide (t7 = 0)) Ls)), some (.v (.tup (T.map lotD))), none, none, none, none] := by
    have := compL_map (vs := [12]) (g := tgN 12) (te := fnM F_law_set [.p (varM 12)] []) (env := [some (.v (.scr ns)), some (.own (bg b2)), some (.v (.bl gr)), some (.v (.lst (nd (bitsN W)))), some (.v (.lst (ms.map lotD))), x5, x6, some (.v (.lst (Ls.map ltD))), some (.v (.lst (Ls.map kpD))), some (.v (famD (decide (t7 = 0)) Ls)), some (.v (.tup (T.map lotD))), none, none, none, none]) lotD (fun m => D.int (m : Int)) (by rcases h5 with rfl | ⟨d5, rfl⟩ <;> rcases h6 with rfl | ⟨d6, rfl⟩ <;> simp [vsOk]) ms fun m hm' => by
      have ws := law_set_ok (X := lotD m) (l := bitsN m) (.inr rfl) (bits_nodup m) fun d hd => bitsN_lt hd
      rw [maskN_bits (h16 m hm')] at ws
      generalize lotD m = A at *
      generalize famD (decide (t7 = 0)) Ls = FD at *
      generalize T.map lotD = TT at *
      generalize Ls.map ltD = LL at *
      generalize Ls.map kpD = KK at *
      generalize nd (bitsN W) = PP at *
      generalize ms.map lotD = M at *
      generalize bg b2 = B2 at *
      exact ⟨[some (.v (.scr ns)), some (.own B2), some (.v (.bl gr)), some (.v (.lst PP)), some (.v (.lst M)), x5, x6, some (.v (.lst LL)), some (.v (.lst KK)), some (.v FD), some (.v (.tup TT)), none, some (.v A), none, none], [some (.v (.scr ns)), some (.own B2), some (.v (.bl gr)), some (.v (.lst PP)), some (.v (.lst M)), x5, x6, some (.v (.lst LL)), some (.v (.lst KK)), some (.v FD), some (.v (.tup TT)), none, some (.v A), none, none], by rcases h5 with rfl | ⟨d5, rfl⟩ <;> rcases h6 with rfl | ⟨d6, rfl⟩ <;> simp [wipeE], by simp [ws], by rfl⟩
    exact this
  have c10 : compL [12] (tgN 12) yesT (isTabM ty_tuple cn_tuple (varM 12)) (T.map lotD) [some (.v (.scr ns)), some (.own (bg b2)), some (.v (.bl gr)), some (.v (.lst (nd (bitsN W)))), some (.v (.lst (ms.map lotD))), x5, x6, some (.v (.lst (Ls.map ltD))), some (.v (.lst (Ls.map kpD))), some (.v (famD (decide (t7 = 0)) Ls)), some (.v (.tup (T.map lotD))), some (.v (.lst (nd ms))), none, none, none] = .ok (T.map fun _ => D.bl true) [some (.v (.scr ns)), some (.own (bg b2)), some (.v (.bl gr)), some (.v (.lst (nd (bitsN W)))), some (.v (.lst (ms.map lotD))), x5, x6, some (.v (.lst (Ls.map ltD))), some (.v (.lst (Ls.map kpD))), some (.v (famD (decide (t7 = 0)) Ls)), some (.v (.tup (T.map lotD))), some (.v (.lst (nd ms))), none, none, none] := by
    generalize hT2 : D.tup (T.map lotD) = T10
    refine compL_map lotD _ (by rcases h5 with rfl | ⟨d5, rfl⟩ <;> rcases h6 with rfl | ⟨d6, rfl⟩ <;> simp [vsOk]) T fun m _ => ?_
    unfold lotD
    generalize nd (bitsN m) = A at *
    generalize famD (decide (t7 = 0)) Ls = FD at *
    generalize Ls.map ltD = LL at *
    generalize Ls.map kpD = KK at *
    generalize nd (bitsN W) = PP at *
    generalize ms.map (fun m => D.tup (nd (bitsN m))) = M at *
    generalize nd ms = MM at *
    generalize bg b2 = B2 at *
    exact ⟨[some (.v (.scr ns)), some (.own B2), some (.v (.bl gr)), some (.v (.lst PP)), some (.v (.lst M)), x5, x6, some (.v (.lst LL)), some (.v (.lst KK)), some (.v FD), some (.v T10), some (.v (.lst MM)), some (.v (.tup A)), none, none], [some (.v (.scr ns)), some (.own B2), some (.v (.bl gr)), some (.v (.lst PP)), some (.v (.lst M)), x5, x6, some (.v (.lst LL)), some (.v (.lst KK)), some (.v FD), some (.v T10), some (.v (.lst MM)), some (.v (.tup A)), none, none], by rcases h5 with rfl | ⟨d5, rfl⟩ <;> rcases h6 with rfl | ⟨d6, rfl⟩ <;> simp [wipeE], by simp, by rfl⟩
  have al : allD [.lst (T.map fun _ => D.bl true)] = some (.bl true) := by rw [all_map (fun _ : Nat => true) T]; simp
  obtain ⟨y12, hy, lp⟩ := num_loop (ns := ns) (gr := gr) (P := bitsN W) (x5 := x5) (x6 := x6) (x7 := .v (.lst (Ls.map ltD))) (x8 := .v (.lst (Ls.map kpD))) (x9 := .v (famD (decide (t7 = 0)) Ls)) (x10 := .v (.tup (T.map lotD))) (x11 := .v (.lst (nd ms))) b2 (ms := ms) T none (.inl rfl)
  obtain ⟨t15, b3, e15, _⟩ := take_ok b2 (n := 12) (by decide) (by decide)
  have e15 : F_law_take [.own (bg b2), .v (.int 12)] = .ok (.int (t15 : Int)) [.own (bg b3), .v (.int 12)] := e15
  obtain ⟨b4, e16⟩ := many_ok b3
  have z1 : (ms.map lotD).length ≤ sizeLine := by rw [List.length_map]; omega
  have z2 : (Ls.map ltD).length ≤ sizeLine := by rw [List.length_map]; omega
  have z3 : (Ls.map kpD).length ≤ sizeLine := by rw [List.length_map]; omega
  have z4 : (nd ms).length ≤ sizeLine := by rw [nd_len]; omega
  have z5 : (T.map lotD).length ≤ sizeLine := by rw [List.length_map]; omega
  have z6 : (T.map fun _ => D.bl true).length ≤ sizeLine := by rw [List.length_map]; omega
  have z7 : ((sortT (barN ms ms [])).map lotD).length ≤ sizeLine := by rw [List.length_map, sortT_len]; have := nodup_lt u1 b12; omega
  have eqK : eqD (.lst (Ls.map kpD)) (.lst (Ls.map kpD)) = some true := by
    have := eqD_lists (Ls.map (·.2))
    rwa [List.map_map] at this
  have ln : lenD [famD (decide (t7 = 0)) Ls] = some (.int ((ms.map lotD).length : Int)) := by rw [famD_len, List.length_map, lLs]
  rw [st_5 z1 z2 c5, st_6 z2 z3 c6, st_7 z2 e7, fam, st_8 me, st_9 z1 z4 c9, st_10 z5 z6 c10 al, st_11 lp, st_12 z5 e12 e12' (eqD_lots T), st_13 hy z2 z3 (list_comp l2 hy) eqK ln, st_14 z7 tw e14 e14' (eqD_lots _)]
  exact st_15 e15 e16
theorem law_true : ∀ ns : List Int, ns.length ≤ 63 → ∃ as, F_law [.v (.scr ns)] = .ok (.bl true) as := fun ns hl => by
  obtain ⟨b0, e0⟩ := bag_ok (ns := ns) (i := 0) hl
  obtain ⟨b1, e1⟩ := bag_ok (ns := ns) (i := 1) hl
  have e0 : F_law_bag [.v (.scr ns), .v (.int 0)] = .ok (.lst (bg b0)) [.v (.scr ns), .v (.int 0)] := e0
  have e1 : F_law_bag [.v (.scr ns), .v (.int 1)] = .ok (.lst (bg b1)) [.v (.scr ns), .v (.int 1)] := e1
  obtain ⟨g, b2, e2, _⟩ := take_ok b0 (n := 16) (by decide) (by decide)
  have e2 : F_law_take [.own (bg b0), .v (.int 16)] = .ok (.int (g : Int)) [.own (bg b2), .v (.int 16)] := e2
  -- the places
  have pl : ∃ (W : Nat) (b3 : Int × Int × Int), (fnM F_law_places [.o 1, .p (ifM (trM (varM 2)) (cM (.int 9)) (op2M addI (cM (.int 1)) (fnM F_law_take [.o 1, .p (cM (.int 7))] [])))] []) [some (.v (.scr ns)), some (.own (bg b2)), some (.v (.bl (decide (g = 0)))), none, none, none, none, none, none, none, none, none, none, none, none] = .ok (.lst (nd (bitsN W))) [some (.v (.scr ns)), some (.own (bg b3)), some (.v (.bl (decide (g = 0)))), none, none, none, none, none, none, none, none, none, none, none, none] ∧ W < 2 ^ 12 ∧ 1 ≤ (bitsN W).length := by
    by_cases hg : g = 0
    · obtain ⟨W, b3, e3, h1, h2⟩ := places_ok b2 (k := 9) (by decide)
      have e3 : F_law_places [.own (bg b2), .v (.int 9)] = .ok (.lst (nd (bitsN W))) [.own (bg b3), .v (.int 9)] := e3
      refine ⟨W, b3, ?_, h1, by omega⟩
      generalize nd (bitsN W) = NW at *
      generalize bg b2 = B2 at *
      generalize bg b3 = B3 at *
      simp [hg, e3]
    · obtain ⟨t, b3, e3, ht⟩ := take_ok b2 (n := 7) (by decide) (by decide)
      have e3 : F_law_take [.own (bg b2), .v (.int 7)] = .ok (.int (t : Int)) [.own (bg b3), .v (.int 7)] := e3
      obtain ⟨W, b4, e4, h1, h2⟩ := places_ok b3 (k := 1 + t) (by omega)
      have ct : ((1 + t : Nat) : Int) = 1 + (t : Int) := by omega
      rw [ct] at e4
      refine ⟨W, b4, ?_, h1, by omega⟩
      generalize nd (bitsN W) = NW at *
      generalize bg b2 = B2 at *
      generalize bg b3 = B3 at *
      generalize bg b4 = B4 at *
      simp [hg, e3, e4]
  obtain ⟨W, b3, e3, hW, h1⟩ := pl
  have hP : ∀ d ∈ bitsN W, d < 12 := fun d hd => by
    rcases Nat.lt_or_ge d 12 with q | q
    · exact q
    · have := (bitsN_mem (m := W) (i := d) (by omega)).mp hd
      rw [hi_bit hW q] at this; cases this
  -- how many lots
  have nk : ∃ (k : Nat) (b4 : Int × Int × Int), k < 13 ∧ F_law_take [.own (bg b1), .v (.int (if g = 0 then 13 else 9))] = .ok (.int (k : Int)) [.own (bg b4), .v (.int (if g = 0 then 13 else 9))] := by
    by_cases hg : g = 0
    · obtain ⟨k, b4, e4, hk⟩ := take_ok b1 (n := 13) (by decide) (by decide)
      exact ⟨k, b4, hk, by rw [if_pos hg]; exact e4⟩
    · obtain ⟨k, b4, e4, hk⟩ := take_ok b1 (n := 9) (by decide) (by decide)
      exact ⟨k, b4, by omega, by rw [if_neg hg]; exact e4⟩
  obtain ⟨k, b4, hk, e4⟩ := nk
  have r1 : (rngL 0 k).length = k := by simp [rngL]
  obtain ⟨ms, b5, y5, y6, q1, q2, q3, q4, q5⟩ := dr_loop (sd := .scr ns) (gr := decide (g = 0)) (P := bitsN W) h1 (bits_asc W) hP (rngL 0 k) [] b4 none none (.inl rfl) (.inl rfl) (by rw [r1]; simp; omega) (fun m hm => (nomatch hm))
  obtain ⟨en, tl⟩ := tail_ok (ns := ns) (gr := decide (g = 0)) (W := W) (ms := ms) b5 q3 q4 hW q1 (by rw [q2, r1]; simp; omega)
  refine ⟨[.v (.scr ns)], ?_⟩
  have q5 : forM (tgN 5) L_law_0 (rngL 0 k) [some (.v (.scr ns)), some (.own (bg b4)), some (.v (.bl (decide (g = 0)))), some (.v (.lst (nd (bitsN W)))), some (.own []), none, none, none, none, none, none, none, none, none, none] = _ := q5
  have a1 : -4611686018427387904 ≤ (k : Int) := by omega
  have a2 : (k : Int) < 4611686018427387904 := by omega
  have s4 : T_law_4 [some (.v (.scr ns)), some (.own (bg b1)), some (.v (.bl (decide (g = 0)))), some (.v (.lst (nd (bitsN W)))), some (.own []), none, none, none, none, none, none, none, none, none, none] = .ret (.bl true) en := by
    generalize nd (bitsN W) = NW at *
    generalize ms.map lotD = M at *
    generalize bg b1 = B1 at *
    generalize bg b4 = B4 at *
    generalize bg b5 = B5 at *
    by_cases hg : g = 0
    · rw [if_pos hg] at e4
      simp only [hg, decide_true] at *
      simp [T_law_4, e4, a1, a2, q5, tl]
    · rw [if_neg hg] at e4
      simp only [hg, decide_false] at *
      simp [T_law_4, e4, a1, a2, q5, tl]
  have s2 : T_law_2 [some (.v (.scr ns)), some (.own (bg b2)), some (.v (.bl (decide (g = 0)))), none, none, none, none, none, none, none, none, none, none, none, none] = .ret (.bl true) en := by
    unfold T_law_2
    generalize (fnM F_law_places [.o 1, .p (ifM (trM (varM 2)) (cM (.int 9)) (op2M addI (cM (.int 1)) (fnM F_law_take [.o 1, .p (cM (.int 7))] [])))] []) = PL at *
    generalize nd (bitsN W) = NW at *
    generalize bg b1 = B1 at *
    generalize bg b2 = B2 at *
    generalize bg b3 = B3 at *
    simp [e3, T_law_3, e1, s4]
  have fl : ∀ as, F_law as = runF false 15 [] B_law' as := fun _ => rfl
  generalize bg b0 = B0 at *
  generalize bg b2 = B2 at *
  rw [fl]
  simp [B_law', e0, T_law_1, e2, s2]
end Lw
open PySem PySem.W PySem.Calls PyProof.Rows
theorem PySem.Challenge.cw_usualdays_k79_least_meeting_lots_holds : PySem.Challenge.rw_usualdays_k79_least_meeting_lots.Holds := by
  w_on; o_law
  refine HandSHeadRun.head_imp (r := OpenLaw.row PySem.Challenge.rw_usualdays_k79_least_meeting_lots) (q := view (OpenLaw.row PySem.Challenge.rw_usualdays_k79_least_meeting_lots).prog [20]) (H := Lw.hk) (ob := Lw.ob) (M := 6000) (loose := (["days_in", "set_of", "within", "least_masks", "sorted_lots", "least_meeting", "_law_bag", "_law_take", "_law_of", "_law_lot", "_law_set", "_law_sorted", "_law_is_number", "_law_places", "_law_barest", "_law_meeting", "_law_many"] : List PySem.Str)) (d := HandSHeadRun.topDef (OpenLaw.row PySem.Challenge.rw_usualdays_k79_least_meeting_lots).prog 20) (kwd := []) Lw.ob_eq Lw.run
    (by kernel_rfl) (by kernel_rfl) (by kernel_rfl) (by rfl) (by first | assumption | decide +kernel)
    (by decide +kernel) ⟨rfl, rfl, rfl, rfl, rfl, by decide +kernel⟩ ?hw ?hc
  case hw => w_witness2
  case hc =>
    refine Ue.walk_ofT (lw := PySem.Challenge.rw_usualdays_k79_least_meeting_lots) (mx := 63) (lv := 8) (x := "_law_script") rfl (by decide) (by kernel_rfl) ⟨rfl, by decide, by decide⟩ ?Z
    intro w mg f0 hp Y G hmg0
    obtain ⟨K, KX, c, tat⟩ := Y
    have e1 : (HandSHeadRun.topDef (OpenLaw.row PySem.Challenge.rw_usualdays_k79_least_meeting_lots).prog 20).name = ("law" : PySem.Str) := by kernel_rfl
    rw [e1] at hmg0
    have e2 := hmg0.symm.trans (Lw.m_law KX G c)
    cases e2
    obtain ⟨fd, hb, hF⟩ := Lw.ok_law (P := (PySem.Challenge.rw_usualdays_k79_least_meeting_lots).prog) (w := w) KX G c
    exact ⟨Lw.tab K, fd, Lw.F_law, Ue.csOf K Lw.nqT, KX, Ue.startT KX (Lw.tkT c) tat, hb, Lw.law_true, fun base _ _ tb => hF base fun x hx => tb _ (Ue.mem_cs hx)⟩
