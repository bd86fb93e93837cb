import PyProof.Rows.All
import Wide.All
import OpenK.AllK
import Wide.FinOn
import HandS.ForMost
import HandS.Exc
import HandS.TryOnly
import HandS.TryMany
import HandS.ExcOwn
import HandS.ExcInit
import HandS.Property
import HandS.Defaults
import HandS.CallSlots
import HandS.Evl
import KE.KSuper
import KE.KExcSuper
import HandS.ExcSuper
import HandS.FStr
import HandS.ExcIs
import HandS.ExcField
import HandS.IsInst
import HandS.TupAny
import HandS.List
import HandS.IterVal
import HandS.Conv
import HandS.OwnEq
import KE.KStateDown
import HandS.Ends
import HandS.Words
import HandS.WordsExc
import HandS.Head0
import HandS.Head1
import HandS.Head2
import HandS.HeadEnd
import HandS.HeadHook1
import HandS.HeadHook2
import PySem.Challenge.RW_lampcrossings_k36_rate_credits
section
set_option Elab.async false
set_option linter.all false
set_option maxRecDepth 100000
set_option maxHeartbeats 1000000
/-! The data layer: what a body does to data (trees of frozen things, lists that one name owns), over the hand layer. -/
namespace DL
open PySem PySem.Spec PyProof.Rows L2
abbrev Ex := Evl.Ex
/-- the kinds of containers -/
inductive Tag where
  | tup | lst | ins (c : Str) (ns : List Str) | xd (ns : List Str) | dK (ks : List Key) | dT (ks : List (List Key))
/-- data that stands still -/
inductive D where
  | non | bl (b : Bool) | int (i : Int) | str (x : Str)
  | node (t : Tag) (ds : List D)
/-- what a name may hold: data; a container of data that the name owns; one whose items are owned too -/
inductive O where
  | fro (d : D)
  | own (t : Tag) (ds : List D)
  | tree (t : Tag) (os : List O)
mutual
def O.frz : O → D
  | .fro d => d
  | .own t ds => .node t ds
  | .tree t os => .node t (frzs os)
def frzs : List O → List D
  | [] => []
  | o :: os => o.frz :: frzs os
end
abbrev Env := List (Option O)
inductive R (α : Type) where
  | ok (a : α)
  | err (c : Str) (ns : List Str) (ds : List D) (env : Env)
  | stuck
def R.bind {α β : Type} : R α → (α → R β) → R β
  | .ok a, f => f a
  | .err c ns ds env, _ => .err c ns ds env
  | .stuck, _ => .stuck
inductive Fl where
  | nx | bk | ct
  | rt (o : O)
abbrev ES := Env → R (O × Env)
abbrev BS := Env → R (Bool × Env)
abbrev SS := Env → R (Fl × Env)

/-! ### how data lies -/
structure Base where
  K : PySem.W.Frag
  cA : Str → Addr
def Lies (B : Base) (H : Hp) (a : Addr) : Tag → List V → Prop
  | .tup, vs => H a = some (.tup vs)
  | .lst, vs => H a = some (.lst vs)
  | .ins c ns, vs => ∃ dx, H a = some (.ins (B.cA c) dx (ns.zip vs)) ∧ ns.length = vs.length
  | .xd ns, vs => H a = some (.xd (ns.zip vs)) ∧ ns.length = vs.length
  | .dK ks, vs => H a = some (.dK (ks.zip vs)) ∧ ks.length = vs.length
  | .dT ks, vs => H a = some (.dT (ks.zip vs)) ∧ ks.length = vs.length
def Sees (B : Base) (H : Hp) (a : Addr) : Tag → List V → Prop
  | .tup, vs => SqT B.K H a vs
  | .lst, vs => SqL B.K H a vs
  | .ins c ns, vs => ∃ dx, H a = some (.ins (B.cA c) dx (ns.zip vs)) ∧ ns.length = vs.length
  | .xd ns, vs => H a = some (.xd (ns.zip vs)) ∧ ns.length = vs.length
  | .dK ks, vs => H a = some (.dK (ks.zip vs)) ∧ ks.length = vs.length
  | .dT ks, vs => H a = some (.dT (ks.zip vs)) ∧ ks.length = vs.length
theorem Lies.sees {B : Base} {H : Hp} {a : Addr} {vs : List V} : ∀ {t : Tag}, Lies B H a t vs → Sees B H a t vs
  | .tup, h => .inl (.inl h)
  | .lst, h => .inl (.inl h)
  | .ins _ _, h => h
  | .xd _, h => h
  | .dK _, h => h
  | .dT _, h => h
theorem Lies.some {B : Base} {H : Hp} {a : Addr} {vs : List V} : ∀ {t : Tag}, Lies B H a t vs → ∃ o, H a = some o
  | .tup, h => ⟨_, h⟩
  | .lst, h => ⟨_, h⟩
  | .ins _ _, ⟨_, h, _⟩ => ⟨_, h⟩
  | .xd _, h => ⟨_, h.1⟩
  | .dK _, h => ⟨_, h.1⟩
  | .dT _, h => ⟨_, h.1⟩
theorem Lies.at {B : Base} {H H' : Hp} {a : Addr} {vs : List V} (e : H' a = H a) : ∀ {t : Tag}, Lies B H a t vs → Lies B H' a t vs
  | .tup, h => e.trans h
  | .lst, h => e.trans h
  | .ins _ _, ⟨dx, h, l⟩ => ⟨dx, e.trans h, l⟩
  | .xd _, h => ⟨e.trans h.1, h.2⟩
  | .dK _, h => ⟨e.trans h.1, h.2⟩
  | .dT _, h => ⟨e.trans h.1, h.2⟩
theorem Sees.ex {B : Base} {F F' : Hp} {a : Addr} {vs : List V} (e : Ex F F') : ∀ {t : Tag}, Sees B F a t vs → Sees B F' a t vs
  | .tup, h => Evl.ex_t e h
  | .lst, h => Evl.ex_l e h
  | .ins _ _, ⟨dx, h, l⟩ => ⟨dx, e _ _ h, l⟩
  | .xd _, h => ⟨e _ _ h.1, h.2⟩
  | .dK _, h => ⟨e _ _ h.1, h.2⟩
  | .dT _, h => ⟨e _ _ h.1, h.2⟩
mutual
inductive RepD (B : Base) (F : Hp) : V → D → Prop
  | non : RepD B F .non .non
  | bl (b : Bool) : RepD B F (.bl b) (.bl b)
  | int (i : Int) : RepD B F (.int i) (.int i)
  | str (x : Str) : RepD B F (.str x) (.str x)
  | node {a : Addr} {t : Tag} {vs : List V} {ds : List D} : Sees B F a t vs → RepDs B F vs ds → RepD B F (.ref a) (.node t ds)
inductive RepDs (B : Base) (F : Hp) : List V → List D → Prop
  | nil : RepDs B F [] []
  | cons {v : V} {d : D} {vs : List V} {ds : List D} : RepD B F v d → RepDs B F vs ds → RepDs B F (v :: vs) (d :: ds)
end
mutual
inductive RepO (B : Base) (F H : Hp) : V → O → List Addr → Prop
  | fro {v : V} {d : D} : RepD B F v d → RepO B F H v (.fro d) []
  | own {a : Addr} {t : Tag} {vs : List V} {ds : List D} : Lies B H a t vs → RepDs B F vs ds → RepO B F H (.ref a) (.own t ds) [a]
  | tree {a : Addr} {t : Tag} {vs : List V} {os : List O} {fp : List Addr} : Lies B H a t vs → RepOs B F H vs os fp → RepO B F H (.ref a) (.tree t os) (a :: fp)
inductive RepOs (B : Base) (F H : Hp) : List V → List O → List Addr → Prop
  | nil : RepOs B F H [] [] []
  | cons {v : V} {o : O} {vs : List V} {os : List O} {fp fq : List Addr} : RepO B F H v o fp → RepOs B F H vs os fq → RepOs B F H (v :: vs) (o :: os) (fp ++ fq)
end
/-- a slot -/
def RepS (B : Base) (F H : Hp) (w : Option V) : Option O → List Addr → Prop
  | none, fp => fp = []
  | some o, fp => ∃ v, w = some v ∧ RepO B F H v o fp
inductive RepE (B : Base) (F H : Hp) : List (Option V) → Env → List Addr → Prop
  | nil : RepE B F H [] [] []
  | cons {w : Option V} {o : Option O} {σ : List (Option V)} {env : Env} {fp fq : List Addr} : RepS B F H w o fp → RepE B F H σ env fq → RepE B F H (w :: σ) (o :: env) (fp ++ fq)
section
variable {B : Base} {F F' H H' : Hp}
mutual
theorem RepD.ex (e : Ex F F') : ∀ {v : V} {d : D}, RepD B F v d → RepD B F' v d
  | _, _, .non => .non
  | _, _, .bl b => .bl b
  | _, _, .int i => .int i
  | _, _, .str x => .str x
  | _, _, .node h r => .node (h.ex e) (r.ex e)
theorem RepDs.ex (e : Ex F F') : ∀ {vs : List V} {ds : List D}, RepDs B F vs ds → RepDs B F' vs ds
  | _, _, .nil => .nil
  | _, _, .cons h r => .cons (h.ex e) (r.ex e)
end
mutual
theorem RepO.mono (e : Ex F F') : ∀ {v : V} {o : O} {fp : List Addr}, RepO B F H v o fp → (∀ p ∈ fp, H' p = H p) → RepO B F' H' v o fp
  | _, _, _, .fro h, _ => .fro (h.ex e)
  | _, _, _, .own h r, k => .own (h.at (k _ (List.mem_cons_self ..))) (r.ex e)
  | _, _, _, .tree h r, k => .tree (h.at (k _ (List.mem_cons_self ..))) (r.mono e fun p hp => k p (List.mem_cons_of_mem _ hp))
theorem RepOs.mono (e : Ex F F') : ∀ {vs : List V} {os : List O} {fp : List Addr}, RepOs B F H vs os fp → (∀ p ∈ fp, H' p = H p) → RepOs B F' H' vs os fp
  | _, _, _, .nil, _ => .nil
  | _, _, _, .cons h r, k => .cons (h.mono e fun p hp => k p (List.mem_append_left _ hp)) (r.mono e fun p hp => k p (List.mem_append_right _ hp))
end
theorem RepS.mono (e : Ex F F') {w : Option V} : ∀ {o : Option O} {fp : List Addr}, RepS B F H w o fp → (∀ p ∈ fp, H' p = H p) → RepS B F' H' w o fp
  | none, _, h, _ => h
  | some _, _, ⟨v, hw, h⟩, k => ⟨v, hw, h.mono e k⟩
theorem RepE.mono (e : Ex F F') : ∀ {σ : List (Option V)} {env : Env} {fp : List Addr}, RepE B F H σ env fp → (∀ p ∈ fp, H' p = H p) → RepE B F' H' σ env fp
  | _, _, _, .nil, _ => .nil
  | _, _, _, .cons h r, k => .cons (h.mono e fun p hp => k p (List.mem_append_left _ hp)) (r.mono e fun p hp => k p (List.mem_append_right _ hp))
mutual
theorem RepO.lies : ∀ {v : V} {o : O} {fp : List Addr}, RepO B F H v o fp → ∀ p ∈ fp, ∃ ob, H p = some ob
  | _, _, _, .fro _, p, hp => by cases hp
  | _, _, _, .own h _, p, hp => by
    rcases List.mem_singleton.mp hp with rfl
    exact h.some
  | _, _, _, .tree h r, p, hp => by
    rcases List.mem_cons.mp hp with rfl | hp
    · exact h.some
    · exact r.lies p hp
theorem RepOs.lies : ∀ {vs : List V} {os : List O} {fp : List Addr}, RepOs B F H vs os fp → ∀ p ∈ fp, ∃ ob, H p = some ob
  | _, _, _, .nil, p, hp => by cases hp
  | _, _, _, .cons h r, p, hp => by
    rcases List.mem_append.mp hp with hp | hp
    · exact h.lies p hp
    · exact r.lies p hp
end
theorem RepE.lies : ∀ {σ : List (Option V)} {env : Env} {fp : List Addr}, RepE B F H σ env fp → ∀ p ∈ fp, ∃ ob, H p = some ob
  | _, _, _, .nil, p, hp => by cases hp
  | _, _, _, .cons (o := none) h r, p, hp => by
    rcases List.mem_append.mp hp with hp | hp
    · rw [show _ = [] from h] at hp
      cases hp
    · exact r.lies p hp
  | _, _, _, .cons (o := some _) h r, p, hp => by
    rcases List.mem_append.mp hp with hp | hp
    · obtain ⟨v, _, h⟩ := h
      exact h.lies p hp
    · exact r.lies p hp
/-- one slot apart -/
theorem RepE.at : ∀ {σ : List (Option V)} {env : Env} {fp : List Addr}, RepE B F H σ env fp → ∀ (i : Nat) (o : Option O), env[i]? = some o →
    ∃ (w : Option V) (fa fq fb : List Addr), σ[i]? = some w ∧ fp = fa ++ fq ++ fb ∧ RepS B F H w o fq ∧
      ∀ (F' H' : Hp) (w' : Option V) (o' : Option O) (fq' : List Addr), Ex F F' → (∀ p ∈ fa ++ fb, H' p = H p) → RepS B F' H' w' o' fq' → RepE B F' H' (σ.set i w') (env.set i o') (fa ++ fq' ++ fb)
  | _, _, _, .nil, i, o, h => by simp at h
  | _, _, _, .cons (w := w) (fp := fp) (fq := fq) h r, 0, o, e => by
    have e2 := Option.some.inj (show some _ = some o from e)
    subst e2
    refine ⟨w, [], fp, fq, rfl, rfl, h, fun F' H' w' o' fq' ex k h' => ?_⟩
    exact .cons h' (r.mono ex fun p hp => k p (List.mem_append_right _ hp))
  | _, _, _, .cons (w := w) (fp := fp) (fq := fq) h r, i + 1, o, e => by
    obtain ⟨w2, fa, fm, fb, e1, e2, e3, k⟩ := r.at i o e
    refine ⟨w2, fp ++ fa, fm, fb, e1, by rw [e2]; simp, e3, fun F' H' w' o' fq' ex kk h' => ?_⟩
    have q := RepE.cons (h.mono ex fun p hp => kk p (by simp [hp])) (k F' H' w' o' fq' ex (fun p hp => kk p (by
      rcases List.mem_append.mp hp with z | z
      · simp [z]
      · simp [z])) h')
    rw [show fp ++ fa ++ fq' ++ fb = fp ++ (fa ++ fq' ++ fb) by simp]
    exact q
theorem RepE.len : ∀ {σ : List (Option V)} {env : Env} {fp : List Addr}, RepE B F H σ env fp → σ.length = env.length
  | _, _, _, .nil => rfl
  | _, _, _, .cons _ r => congrArg (· + 1) r.len
theorem RepE.append : ∀ {σ σ2 : List (Option V)} {env env2 : Env} {fp fp2 : List Addr}, RepE B F H σ env fp → RepE B F H σ2 env2 fp2 → RepE B F H (σ ++ σ2) (env ++ env2) (fp ++ fp2)
  | _, _, _, _, _, _, .nil, q => q
  | _, _, _, _, _, _, .cons h r, q => by
    have z := RepE.cons h (r.append q)
    rw [List.append_assoc]
    exact z
theorem RepE.split : ∀ {σ σ2 : List (Option V)} {env : Env} {fp : List Addr}, RepE B F H (σ ++ σ2) env fp →
    ∃ fa fb, fp = fa ++ fb ∧ RepE B F H σ (env.take σ.length) fa ∧ RepE B F H σ2 (env.drop σ.length) fb
  | [], _, _, fp, h => ⟨[], fp, rfl, by rw [show ([] : List (Option V)).length = 0 from rfl, List.take_zero]; exact .nil, h⟩
  | _ :: σ, _, _, _, .cons (fp := fp) h r => by
    obtain ⟨fa, fb, e, h1, h2⟩ := RepE.split r
    exact ⟨fp ++ fa, fb, by rw [e, List.append_assoc], .cons h h1, h2⟩
mutual
theorem RepO.froz (hn : ∀ p, F p ≠ none → F' p = F p) : ∀ {v : V} {o : O} {fp : List Addr}, RepO B F H v o fp → (∀ p ∈ fp, F' p = H p) → (e : Ex F F') → RepD B F' v o.frz
  | _, _, _, .fro h, _, e => by
    rw [O.frz]
    exact h.ex e
  | _, _, _, .own h r, k, e => by
    rw [O.frz]
    exact .node (h.at (k _ (List.mem_cons_self ..))).sees (r.ex e)
  | _, _, _, .tree h r, k, e => by
    rw [O.frz]
    exact .node (h.at (k _ (List.mem_cons_self ..))).sees (r.froz hn (fun p hp => k p (List.mem_cons_of_mem _ hp)) e)
theorem RepOs.froz (hn : ∀ p, F p ≠ none → F' p = F p) : ∀ {vs : List V} {os : List O} {fp : List Addr}, RepOs B F H vs os fp → (∀ p ∈ fp, F' p = H p) → (e : Ex F F') → RepDs B F' vs (frzs os)
  | _, _, _, .nil, _, _ => by
    rw [frzs]
    exact .nil
  | _, _, _, .cons h r, k, e => by
    rw [frzs]
    exact .cons (h.froz hn (fun p hp => k p (List.mem_append_left _ hp)) e) (r.froz hn (fun p hp => k p (List.mem_append_right _ hp)) e)
end
/-- the frozen part, grown by what stands at fp -/
def grow (F H : Hp) (fp : List Addr) : Hp := fun a => if a ∈ fp then H a else F a
theorem grow_in {fp : List Addr} {a : Addr} (h : a ∈ fp) : grow F H fp a = H a := if_pos h
theorem grow_out {fp : List Addr} {a : Addr} (h : a ∉ fp) : grow F H fp a = F a := if_neg h
theorem grow_ex {fp : List Addr} (nf : ∀ p ∈ fp, F p = none) : Ex F (grow F H fp) := fun a o e => by
  by_cases h : a ∈ fp
  · rw [nf a h] at e
    cases e
  · rw [grow_out h]
    exact e
theorem grow_le {fp : List Addr} (e : Ex F H) : Ex (grow F H fp) H := fun a o h => by
  by_cases q : a ∈ fp
  · rw [grow_in q] at h
    exact h
  · rw [grow_out q] at h
    exact e a o h
theorem RepO.freeze {v : V} {o : O} {fp : List Addr} (r : RepO B F H v o fp) (nf : ∀ p ∈ fp, F p = none) : RepD B (grow F H fp) v o.frz :=
  r.froz (fun p hp => grow_out fun z => hp (nf p z)) (fun p hp => grow_in hp) (grow_ex nf)
end
end DL
end

section
set_option Elab.async false
set_option linter.all false
set_option maxRecDepth 100000
set_option maxHeartbeats 1000000
namespace DL
open PySem PySem.Spec PyProof.Rows L2
/-! ### where a body stands -/
structure Ctx where
  B : Base
  n : Nat
  ks : List Nat
  xe : Option (Nat × Addr)
  xs : List (Option V)
  xk : ∀ i a, xe = some (i, a) → i ∈ ks
structure S0 where
  σ : L2.St
  F : Hp
  H : Hp
  fp : List Addr
structure St (C : Ctx) (s : S0) (env : Env) : Prop where
  ex : Ex s.F s.H
  rep : RepE C.B s.F s.H (s.σ ++ C.xs) env s.fp
  nd : s.fp.Nodup
  nf : ∀ p ∈ s.fp, s.F p = none
  len : s.σ.length = C.n
  xe : ∀ i a, C.xe = some (i, a) → s.σ[i]? = some (some (.ref a))
/-- from one place to a later one: what is not owned stays -/
structure Step (C : Ctx) (s s' : S0) : Prop where
  exF : Ex s.F s'.F
  keep : ∀ a o, s.H a = some o → a ∉ s.fp → s'.H a = some o
  nof : ∀ a o, s.H a = some o → s.F a = none → a ∉ s.fp → s'.F a = none
  new : ∀ a ∈ s'.fp, a ∈ s.fp ∨ s.H a = none
  sl : ∀ i ∈ C.ks, s'.σ[i]? = s.σ[i]?
section
variable {C : Ctx} {s s1 s2 s3 : S0} {env env1 env2 : Env} {fr fr1 fr2 : List Addr}
theorem Step.refl (s : S0) : Step C s s := ⟨Evl.Ex.refl _, fun _ _ h _ => h, fun _ _ _ h _ => h, fun _ h => .inl h, fun _ _ => rfl⟩
theorem none_or {H : Hp} (a : Addr) : H a = none ∨ ∃ o, H a = some o := by
  cases h : H a with
  | none => exact .inl rfl
  | some o => exact .inr ⟨o, rfl⟩
theorem Step.trans (x : Step C s s1) (y : Step C s1 s2) : Step C s s2 := by
  have nin : ∀ a o, s.H a = some o → a ∉ s.fp → a ∉ s1.fp := fun a o h hn z => by
    rcases x.new a z with q | q
    · exact hn q
    · rw [h] at q
      cases q
  refine ⟨x.exF.trans y.exF, fun a o h hn => y.keep a o (x.keep a o h hn) (nin a o h hn), fun a o h hf hn => y.nof a o (x.keep a o h hn) (x.nof a o h hf hn) (nin a o h hn), fun a ha => ?_, fun i hi => (y.sl i hi).trans (x.sl i hi)⟩
  rcases y.new a ha with q | q
  · exact x.new a q
  · rcases none_or (H := s.H) a with h | ⟨o, h⟩
    · exact .inr h
    · by_cases hn : a ∈ s.fp
      · exact .inl hn
      · rw [x.keep a o h hn] at q
        cases q
/-- fewer are owned -/
theorem Step.less (x : Step C s { s1 with fp := fr }) (h : ∀ a ∈ fr1, a ∈ fr) : Step C s { s1 with fp := fr1 } :=
  ⟨x.exF, x.keep, x.nof, fun a ha => x.new a (h a ha), x.sl⟩
/-- later, something in hand: fr is owned by what is in hand -/
structure Got (C : Ctx) (s s1 : S0) (env : Env) (fr : List Addr) : Prop where
  sl : s1.σ = s.σ
  step : Step C s { s1 with fp := s1.fp ++ fr }
  st : St C s1 env
  nd : (s1.fp ++ fr).Nodup
  nf : ∀ p ∈ fr, s1.F p = none
theorem St.got (h : St C s env) : Got C s s env [] := ⟨rfl, by rw [List.append_nil]; exact .refl s, h, by rw [List.append_nil]; exact h.nd, fun _ hp => by cases hp⟩
theorem Got.step0 (g : Got C s s1 env []) : Step C s s1 := by
  have z := g.step
  rw [List.append_nil] at z
  exact z
theorem Step.got (x : Step C s s1) (h : St C s1 env) (e : s1.σ = s.σ) : Got C s s1 env [] := ⟨e, by rw [List.append_nil]; exact x, h, by rw [List.append_nil]; exact h.nd, fun _ hp => by cases hp⟩
/-- what is in hand stands, whatever comes -/
theorem Got.hold (g : Got C s s1 env1 fr1) (hl : ∀ p ∈ fr1, ∃ o, s1.H p = some o) (g2 : Got C s1 s2 env2 fr2) : Got C s s2 env2 (fr1 ++ fr2) := by
  have nin : ∀ a o, s.H a = some o → a ∉ s.fp → a ∉ s1.fp ++ fr1 := fun a o h hn z => by
    rcases g.step.new a z with q | q
    · exact hn q
    · rw [h] at q
      cases q
  have nd1 := List.nodup_append.mp g.nd
  have nd2 := List.nodup_append.mp g2.nd
  have out : ∀ a ∈ fr1, a ∉ s1.fp := fun a ha z => nd1.2.2 a z a ha rfl
  have out2 : ∀ a ∈ fr1, a ∉ s2.fp ++ fr2 := fun a ha z => by
    rcases g2.step.new a z with q | q
    · exact out a ha q
    · obtain ⟨o, h⟩ := hl a ha
      rw [h] at q
      cases q
  refine ⟨g2.sl.trans g.sl, ⟨g.step.exF.trans g2.step.exF, fun a o h hn => ?_, fun a o h hf hn => ?_, fun a ha => ?_, fun i hi => (g2.step.sl i hi).trans (g.step.sl i hi)⟩, g2.st, ?_, fun p hp => ?_⟩
  · exact g2.step.keep a o (g.step.keep a o h hn) fun z => nin a o h hn (List.mem_append_left _ z)
  · exact g2.step.nof a o (g.step.keep a o h hn) (g.step.nof a o h hf hn) fun z => nin a o h hn (List.mem_append_left _ z)
  · have key : a ∈ s1.fp ∨ s1.H a = none → a ∈ s.fp ∨ s.H a = none := fun q => by
      rcases q with q | q
      · exact g.step.new a (List.mem_append_left _ q)
      · rcases none_or (H := s.H) a with h | ⟨o, h⟩
        · exact .inr h
        · by_cases hn : a ∈ s.fp
          · exact .inl hn
          · rw [g.step.keep a o h hn] at q
            cases q
    have ha : a ∈ s2.fp ++ (fr1 ++ fr2) := ha
    rcases List.mem_append.mp ha with q | q
    · exact key (g2.step.new a (List.mem_append_left _ q))
    · rcases List.mem_append.mp q with q | q
      · exact g.step.new a (List.mem_append_right _ q)
      · exact key (g2.step.new a (List.mem_append_right _ q))
  · rw [List.nodup_append]
    refine ⟨nd2.1, ?_, fun a ha b hb z => ?_⟩
    · rw [List.nodup_append]
      exact ⟨nd1.2.1, nd2.2.1, fun a ha b hb z => out2 a ha (List.mem_append_right _ (z ▸ hb))⟩
    · subst z
      rcases List.mem_append.mp hb with q | q
      · exact out2 a q (List.mem_append_left _ ha)
      · exact nd2.2.2 a ha a q rfl
  · rcases List.mem_append.mp hp with q | q
    · obtain ⟨o, h⟩ := hl p q
      exact g2.step.nof p o h (g.nf p q) (out p q)
    · exact g2.nf p q
/-- .. and what lies there -/
theorem Got.same (g : Got C s s1 env1 fr1) (hl : ∀ p ∈ fr1, ∃ o, s1.H p = some o) (g2 : Got C s1 s2 env2 fr2) : ∀ p ∈ fr1, s2.H p = s1.H p := fun p hp => by
  obtain ⟨o, h⟩ := hl p hp
  have nd1 := List.nodup_append.mp g.nd
  rw [h]
  exact g2.step.keep p o h fun z => nd1.2.2 p z p hp rfl
theorem Got.rep (g : Got C s s1 env1 fr1) {v : V} {o : O} {fp : List Addr} (r : RepO C.B s1.F s1.H v o fp) (hs : ∀ p ∈ fp, p ∈ fr1) (g2 : Got C s1 s2 env2 fr2) : RepO C.B s2.F s2.H v o fp :=
  r.mono g2.step.exF fun p hp => by
    obtain ⟨ob, h⟩ := r.lies p hp
    have nd1 := List.nodup_append.mp g.nd
    rw [h]
    exact g2.step.keep p ob h fun z => nd1.2.2 p z p (hs p hp) rfl
/-- let go of some -/
theorem Got.drop (g : Got C s s1 env fr) (h : fr1.Sublist fr) : Got C s s1 env fr1 :=
  ⟨g.sl, g.step.less fun a ha => (List.mem_append.mp ha).elim (fun q => List.mem_append_left _ q) fun q => List.mem_append_right _ (h.mem q), g.st, g.nd.sublist (h.append_left _), fun p hp => g.nf p (h.mem hp)⟩
/-- what is in hand is frozen -/
theorem Got.freeze (g : Got C s s1 env fr) : Got C s { s1 with F := grow s1.F s1.H fr } env [] := by
  have nd1 := List.nodup_append.mp g.nd
  have e1 := grow_ex (H := s1.H) g.nf
  refine ⟨g.sl, ⟨g.step.exF.trans e1, g.step.keep, fun a o h hf hn => ?_, fun a ha => ?_, g.step.sl⟩, ⟨grow_le g.st.ex, g.st.rep.mono e1 fun _ _ => rfl, g.st.nd, fun p hp => ?_, g.st.len, g.st.xe⟩, by rw [List.append_nil]; exact g.st.nd, fun p hp => by cases hp⟩
  · have z : a ∉ fr := fun z => by
      rcases g.step.new a (List.mem_append_right _ z) with q | q
      · exact hn q
      · rw [h] at q
        cases q
    show grow s1.F s1.H fr a = none
    rw [grow_out z]
    exact g.step.nof a o h hf hn
  · have ha : a ∈ s1.fp ++ [] := ha
    rw [List.append_nil] at ha
    exact g.step.new a (List.mem_append_left _ ha)
  · show grow s1.F s1.H fr p = none
    rw [grow_out fun z => nd1.2.2 p hp p z rfl]
    exact g.st.nf p hp
end

/-! ### what is wanted of an outcome -/
/-- how an exception's own dict lies -/
def XRep (B : Base) (F : Hp) (dx : Option Addr) (ns : List Str) (ds : List D) : Prop :=
  (dx = none ∧ ns = [] ∧ ds = []) ∨ ∃ a vs, dx = some a ∧ ns ≠ [] ∧ F a = some (.xd (ns.zip vs)) ∧ ns.length = vs.length ∧ RepDs B F vs ds
def XFin (C : Ctx) (W : WX) (s : S0) (c : Str) (ns : List Str) (ds : List D) (env : Env) : Prop :=
  ∀ (s1 : S0) (dx : Option Addr), Step C s s1 → St C s1 env → XRep C.B s1.F dx ns ds → W (.ref (C.B.cA c)) dx s1.σ s1.H
def FinE (C : Ctx) (W : WX) (Q : VK) (s : S0) : R (O × Env) → Prop
  | .ok (o, env) => ∀ (v : V) (s1 : S0) (fr : List Addr), Got C s s1 env fr → RepO C.B s1.F s1.H v o fr → Q v s1.H
  | .err c ns ds env => XFin C W s c ns ds env
  | .stuck => False
def FinB (C : Ctx) (W : WX) (Q : Bool → Hp → Prop) (s : S0) : R (Bool × Env) → Prop
  | .ok (b, env) => ∀ (s1 : S0), Got C s s1 env [] → Q b s1.H
  | .err c ns ds env => XFin C W s c ns ds env
  | .stuck => False
def FinS (C : Ctx) (W : WX) (E : Ends) (s : S0) : R (Fl × Env) → Prop
  | .ok (.nx, env) => ∀ (s1 : S0), Step C s s1 → St C s1 env → E.nx s1.σ s1.H
  | .ok (.bk, env) => ∀ (s1 : S0), Step C s s1 → St C s1 env → E.bk s1.σ s1.H
  | .ok (.ct, env) => ∀ (s1 : S0), Step C s s1 → St C s1 env → E.ct s1.σ s1.H
  | .ok (.rt o, env) => ∀ (v : V) (s1 : S0) (fr : List Addr), Step C s { s1 with fp := s1.fp ++ fr } → St C s1 env → RepO C.B s1.F s1.H v o fr → (s1.fp ++ fr).Nodup → (∀ p ∈ fr, s1.F p = none) → E.rt v s1.H
  | .err c ns ds env => XFin C W s c ns ds env
  | .stuck => False
def teOf (C : Ctx) (W : WX) (f : ES) : TE := fun σ H Q => ∃ F fp env, St C ⟨σ, F, H, fp⟩ env ∧ FinE C W Q ⟨σ, F, H, fp⟩ (f env)
def tbOf (C : Ctx) (W : WX) (f : BS) : TT := fun σ H Q => ∃ F fp env, St C ⟨σ, F, H, fp⟩ env ∧ FinB C W Q ⟨σ, F, H, fp⟩ (f env)
def tsOf (C : Ctx) (W : WX) (f : SS) : TS := fun E σ H => ∃ F fp env, St C ⟨σ, F, H, fp⟩ env ∧ FinS C W E ⟨σ, F, H, fp⟩ (f env)
section
variable {C : Ctx} {W : WX} {s s1 : S0} {env : Env}
theorem XFin.later {c : Str} {ns : List Str} {ds : List D} (h : XFin C W s c ns ds env) (x : Step C s s1) : XFin C W s1 c ns ds env := fun s2 dx y t r => h s2 dx (x.trans y) t r
theorem FinS.later {E : Ends} (x : Step C s s1) : ∀ {r : R (Fl × Env)}, FinS C W E s r → FinS C W E s1 r
  | .ok (.nx, _), h => fun s2 y t => h s2 (x.trans y) t
  | .ok (.bk, _), h => fun s2 y t => h s2 (x.trans y) t
  | .ok (.ct, _), h => fun s2 y t => h s2 (x.trans y) t
  | .ok (.rt _, _), h => fun v s2 fr y t r nd nf => h v s2 fr (x.trans y) t r nd nf
  | .err _ _ _ _, h => XFin.later h x
  | .stuck, h => h
/-- the outcome is taken on by what follows -/
theorem FinS.of_XFin {E : Ends} {α : Type} {r : R α} {f : α → R (Fl × Env)} (h : FinS C W E s (r.bind f)) : (∃ a, r = .ok a ∧ FinS C W E s (f a)) ∨ (∃ c ns ds env, r = .err c ns ds env ∧ XFin C W s c ns ds env) := by
  cases r with
  | ok a => exact .inl ⟨a, rfl, h⟩
  | err c ns ds env => exact .inr ⟨c, ns, ds, env, rfl, h⟩
  | stuck => exact False.elim h
theorem FinE.later {Q : VK} (x : Step C s s1) (e : s1.σ = s.σ) : ∀ {r : R (O × Env)}, FinE C W Q s r → FinE C W Q s1 r
  | .ok (_, _), h => fun v s2 fr g r => h v s2 fr ⟨g.sl.trans e, x.trans g.step, g.st, g.nd, g.nf⟩ r
  | .err _ _ _ _, h => XFin.later h x
  | .stuck, h => h
end
end DL
end

section
set_option Elab.async false
set_option linter.all false
set_option maxRecDepth 100000
set_option maxHeartbeats 1000000
namespace DL
open PySem PySem.Spec PyProof.Rows L2
theorem PE_to {X : Cx} {e : Expr} {t t' : TE} (h : PE X e t) (k : ∀ σ H Q, t' σ H Q → t σ H Q) : PE X e t' := ⟨fun pins s σ H Q I q => h.run pins s σ H Q I (k σ H Q q)⟩
theorem PT_to {X : Cx} {e : Expr} {t t' : TT} (h : PT X e t) (k : ∀ σ H Q, t' σ H Q → t σ H Q) : PT X e t' := ⟨fun pins s σ H Q I q => h.run pins s σ H Q I (k σ H Q q)⟩
theorem PS_to {X : Cx} {st : Stmt} {t t' : TS} (h : PS X st t) (k : ∀ D σ H, t' D σ H → t D σ H) : PS X st t' := ⟨fun pins s σ H Q I q => h.run pins s σ H Q I (k Q σ H q)⟩
theorem PSs_to {X : Cx} {st : List Stmt} {t t' : TS} (h : PSs X st t) (k : ∀ D σ H, t' D σ H → t D σ H) : PSs X st t' := ⟨fun pins s σ H Q I q => h.run pins s σ H Q I (k Q σ H q)⟩
/-! ### operands -/
inductive Opd where
  | ev (f : ES)
  | pk (i : Nat)
def getO (env : Env) (i : Nat) : Option O := match env[i]? with
  | some (some o) => some o
  | _ => none
def Opd.go : Opd → Env → R (Option O × Env)
  | .ev f, env => (f env).bind fun r => .ok (some r.1, r.2)
  | .pk i, env => match getO env i with
    | some _ => .ok (none, env)
    | none => .stuck
def goAll : List Opd → Env → R (List (Option O) × Env)
  | [], env => .ok ([], env)
  | a :: as, env => (a.go env).bind fun r => (goAll as r.2).bind fun q => .ok (r.1 :: q.1, q.2)
def Opd.fin : Opd → Option O → Env → Option O
  | .ev _, o, _ => o
  | .pk i, _, env => getO env i
def finAll : List Opd → List (Option O) → Env → Option (List O)
  | [], _, _ => some []
  | a :: as, xs, env => match a.fin (xs.headD none) env, finAll as xs.tail env with
    | some o, some os => some (o :: os)
    | _, _ => none
/-- a function of values, applied to operands -/
def eApp (f : List O → Option O) (ops : List Opd) : ES := fun env => (goAll ops env).bind fun q => match finAll ops q.1 q.2 with
  | some os => (match f os with
    | some o => .ok (o, q.2)
    | none => .stuck)
  | none => .stuck
def Opd.Ok (n : Nat) : Opd → Prop
  | .ev _ => True
  | .pk i => i < n
def toT (C : Ctx) (W : WX) : Opd → TE
  | .ev f => teOf C W f
  | .pk i => tVar i
def tAll : List TE → TA
  | [] => tNil
  | t :: ts => tCons t (tAll ts)
inductive RepTs (C : Ctx) (s : S0) : List Opd → List (Option O) → List V → List Addr → Prop
  | nil : RepTs C s [] [] [] []
  | ev {f : ES} {as : List Opd} {o : O} {xs : List (Option O)} {v : V} {vs : List V} {fp fq : List Addr} : RepO C.B s.F s.H v o fp → RepTs C s as xs vs fq → RepTs C s (.ev f :: as) (some o :: xs) (v :: vs) (fp ++ fq)
  | pk {i : Nat} {as : List Opd} {xs : List (Option O)} {v : V} {vs : List V} {fq : List Addr} : s.σ[i]? = some (some v) → RepTs C s as xs vs fq → RepTs C s (.pk i :: as) (none :: xs) (v :: vs) fq
def FinA (C : Ctx) (W : WX) (Q : List V → Hp → Prop) (ops : List Opd) (s : S0) : R (List (Option O) × Env) → Prop
  | .ok (xs, env) => ∀ (vs : List V) (s1 : S0) (fr : List Addr), Got C s s1 env fr → RepTs C s1 ops xs vs fr → Q vs s1.H
  | .err c ns ds env => XFin C W s c ns ds env
  | .stuck => False
section
variable {X : Cx} {C : Ctx} {W : WX} {s s1 : S0} {env : Env}
theorem getO_some {env : Env} {i : Nat} {o : O} (e : getO env i = some o) : env[i]? = some (some o) := by
  unfold getO at e
  split at e
  · rename_i o' h'
    rw [h', Option.some.inj e]
  · cases e
/-- any slot -/
theorem St.any (h : St C s env) {i : Nat} {o : Option O} (hi : i < C.n) (e : env[i]? = some o) :
    ∃ (w : Option V) (fa fq fb : List Addr), s.σ[i]? = some w ∧ s.fp = fa ++ fq ++ fb ∧ RepS C.B s.F s.H w o fq ∧
      ∀ (F' H' : Hp) (w' : Option V) (o' : Option O) (fq' : List Addr), Ex s.F F' → (∀ p ∈ fa ++ fb, H' p = s.H p) → RepS C.B F' H' w' o' fq' → RepE C.B F' H' (s.σ.set i w' ++ C.xs) (env.set i o') (fa ++ fq' ++ fb) := by
  obtain ⟨w, fa, fq, fb, h1, h2, h3, k⟩ := h.rep.at i _ e
  have hl : i < s.σ.length := by rw [h.len]; exact hi
  rw [List.getElem?_append_left hl] at h1
  refine ⟨w, fa, fq, fb, h1, h2, h3, fun F' H' w' o' fq' ex kk r => ?_⟩
  have q := k F' H' w' o' fq' ex kk r
  rw [List.set_append_left _ _ hl] at q
  exact q
/-- a slot that holds something -/
theorem St.slot (h : St C s env) {i : Nat} {o : O} (hi : i < C.n) (e : getO env i = some o) :
    ∃ (v : V) (fa fq fb : List Addr), s.σ[i]? = some (some v) ∧ s.fp = fa ++ fq ++ fb ∧ RepO C.B s.F s.H v o fq ∧
      ∀ (F' H' : Hp) (w' : Option V) (o' : Option O) (fq' : List Addr), Ex s.F F' → (∀ p ∈ fa ++ fb, H' p = s.H p) → RepS C.B F' H' w' o' fq' → RepE C.B F' H' (s.σ.set i w' ++ C.xs) (env.set i o') (fa ++ fq' ++ fb) := by
  obtain ⟨w, fa, fq, fb, h1, h2, ⟨v, h3, h4⟩, k⟩ := h.any hi (getO_some e)
  exact ⟨v, fa, fq, fb, by rw [h1, h3], h2, h4, k⟩
theorem ta_all : ∀ (ops : List Opd), (∀ a ∈ ops, a.Ok C.n) → ∀ (s : S0) (env : Env) (Q : List V → Hp → Prop), St C s env → FinA C W Q ops s (goAll ops env) → tAll (ops.map (toT C W)) s.σ s.H Q
  | [], _, s, env, Q, h, q => q [] s [] h.got .nil
  | .ev f :: as, ok, s, env, Q, h, q => by
    refine ⟨s.F, s.fp, env, h, ?_⟩
    have q1 : FinA C W Q (.ev f :: as) s (((f env).bind fun r => .ok (some r.1, r.2)).bind fun r => (goAll as r.2).bind fun q => .ok (r.1 :: q.1, q.2)) := q
    cases e : f env with
    | ok r =>
      obtain ⟨o, env1⟩ := r
      rw [e] at q1
      intro v s1 fr g r
      rw [← show s1.σ = s.σ from g.sl]
      refine ta_all as (fun a ha => ok a (List.mem_cons_of_mem _ ha)) s1 env1 _ g.st ?_
      have q2 : FinA C W Q (.ev f :: as) s ((goAll as env1).bind fun q => .ok (some o :: q.1, q.2)) := q1
      cases e2 : goAll as env1 with
      | ok r2 =>
        obtain ⟨xs, env2⟩ := r2
        rw [e2] at q2
        intro vs s2 fr2 g2 rt
        exact q2 (v :: vs) s2 (fr ++ fr2) (g.hold r.lies g2) (.ev (g.rep r (fun _ hp => hp) g2) rt)
      | err c ns ds env2 =>
        rw [e2] at q2
        have st : Step C s s1 := by
          have z := g.drop (fr1 := []) (List.nil_sublist _)
          exact z.step0
        exact XFin.later q2 st
      | stuck =>
        rw [e2] at q2
        exact q2
    | err c ns ds env1 =>
      rw [e] at q1
      exact q1
    | stuck =>
      rw [e] at q1
      exact q1
  | .pk i :: as, ok, s, env, Q, h, q => by
    have q1 : FinA C W Q (.pk i :: as) s ((match getO env i with
      | some _ => .ok (none, env)
      | none => .stuck : R (Option O × Env)).bind fun r => (goAll as r.2).bind fun q => .ok (r.1 :: q.1, q.2)) := q
    cases e : getO env i with
    | none =>
      rw [e] at q1
      exact False.elim q1
    | some o =>
      rw [e] at q1
      obtain ⟨v, fa, fq, fb, h1, _⟩ := h.slot (show i < C.n from ok _ (List.mem_cons_self ..)) e
      refine ⟨v, h1, ?_⟩
      refine ta_all as (fun a ha => ok a (List.mem_cons_of_mem _ ha)) s env _ h ?_
      have q2 : FinA C W Q (.pk i :: as) s ((goAll as env).bind fun q => .ok (none :: q.1, q.2)) := q1
      cases e2 : goAll as env with
      | ok r2 =>
        obtain ⟨xs, env2⟩ := r2
        rw [e2] at q2
        intro vs s2 fr2 g2 rt
        exact q2 (v :: vs) s2 fr2 g2 (.pk (by rw [g2.sl]; exact h1) rt)
      | err c ns ds env2 =>
        rw [e2] at q2
        exact q2
      | stuck =>
        rw [e2] at q2
        exact q2
/-- values and what they are -/
abbrev AllRep (B : Base) (F H : Hp) : List V → List O → Prop := Paired fun v o => ∃ fp, RepO B F H v o fp ∧ ∀ p ∈ fp, F p = none
theorem fin_rep (h : St C s env) : ∀ {ops : List Opd} {xs : List (Option O)} {vs : List V} {fr : List Addr} {os : List O}, (∀ a ∈ ops, a.Ok C.n) → RepTs C s ops xs vs fr → (∀ p ∈ fr, s.F p = none) → finAll ops xs env = some os → AllRep C.B s.F s.H vs os
  | [], _, _, _, _, _, .nil, _, e => by
    have e2 := Option.some.inj (show some _ = some _ from e)
    rw [← e2]
    exact .nil
  | .ev f :: as, _, _, _, os, ok, .ev (o := o) (xs := xs) r rt, nf, e => by
    have e1 : (match (some o : Option O), finAll as xs env with
      | some o, some os => some (o :: os)
      | _, _ => none) = some os := e
    cases e2 : finAll as xs env with
    | none =>
      rw [e2] at e1
      cases e1
    | some os2 =>
      rw [e2] at e1
      have e3 := Option.some.inj e1
      rw [← e3]
      exact .cons ⟨_, r, fun p hp => nf p (List.mem_append_left _ hp)⟩ (fin_rep h (fun a ha => ok a (List.mem_cons_of_mem _ ha)) rt (fun p hp => nf p (List.mem_append_right _ hp)) e2)
  | .pk i :: as, _, _, _, os, ok, .pk (xs := xs) hv rt, nf, e => by
    have e1 : (match getO env i, finAll as xs env with
      | some o, some os => some (o :: os)
      | _, _ => none) = some os := e
    cases e2 : finAll as xs env with
    | none =>
      rw [e2] at e1
      split at e1
      · rename_i z
        cases z
      · cases e1
    | some os2 =>
      rw [e2] at e1
      cases e4 : getO env i with
      | none =>
        rw [e4] at e1
        cases e1
      | some o =>
        rw [e4] at e1
        have e3 := Option.some.inj e1
        rw [← e3]
        obtain ⟨v, fa, fq, fb, h1, h2, h3, _⟩ := h.slot (show i < C.n from ok _ (List.mem_cons_self ..)) e4
        rw [hv] at h1
        cases h1
        exact .cons ⟨fq, h3, fun p hp => h.nf p (by rw [h2]; simp [hp])⟩ (fin_rep h (fun a ha => ok a (List.mem_cons_of_mem _ ha)) rt nf e2)
/-- what an operation makes -/
structure Made (F H F' H' : Hp) (fr : List Addr) : Prop where
  exF : Ex F F'
  exH : Ex H H'
  ex : Ex F' H'
  nof : ∀ a o, H a = some o → F a = none → F' a = none
  new : ∀ a ∈ fr, H a = none
  nd : fr.Nodup
  nf : ∀ a ∈ fr, F' a = none
def Ret (B : Base) (F H : Hp) (o : O) (Q : VK) : Prop := ∀ (v : V) (F' H' : Hp) (fr : List Addr), Made F H F' H' fr → RepO B F' H' v o fr → Q v H'
theorem Made.refl {F H : Hp} (e : Ex F H) : Made F H F H [] := ⟨Evl.Ex.refl _, Evl.Ex.refl _, e, fun _ _ _ h => h, fun _ h => (by cases h), List.nodup_nil, fun _ h => (by cases h)⟩
theorem Ret.same {B : Base} {F H : Hp} {Q : VK} {d : D} {v : V} (e : Ex F H) (r : RepD B F v d) (k : Ret B F H (.fro d) Q) : Q v H := k v F H [] (.refl e) (.fro r)
def AppL (B : Base) (r : List V → Hp → VK → Prop) (f : List O → Option O) : Prop :=
  ∀ (F H : Hp) (vs : List V) (os : List O) (o : O) (Q : VK), Ex F H → AllRep B F H vs os → f os = some o → Ret B F H o Q → r vs H Q
/-- an operation that only makes things leads on -/
theorem Got.made {fr fr' : List Addr} {F' H' : Hp} (g : Got C s s1 env fr) (m : Made s1.F s1.H F' H' fr') : Got C s ⟨s1.σ, F', H', s1.fp⟩ env fr' := by
  have g0 := g.drop (fr1 := []) (List.nil_sublist _)
  have st0 := g0.step0
  have li := g.st.rep.lies
  have out : ∀ a ∈ fr', a ∉ s1.fp := fun a ha z => by
    obtain ⟨o, h⟩ := li a z
    rw [m.new a ha] at h
    cases h
  refine ⟨g.sl, ⟨st0.exF.trans m.exF, fun a o h hn => m.exH a o (st0.keep a o h hn), fun a o h hf hn => m.nof a o (st0.keep a o h hn) (st0.nof a o h hf hn), fun a ha => ?_, st0.sl⟩,
    ⟨m.ex, g.st.rep.mono m.exF fun p hp => ?_, g.st.nd, fun p hp => ?_, g.st.len, g.st.xe⟩, ?_, m.nf⟩
  · rcases List.mem_append.mp ha with q | q
    · exact st0.new a q
    · rcases none_or (H := s.H) a with h | ⟨o, h⟩
      · exact .inr h
      · by_cases hn : a ∈ s.fp
        · exact .inl hn
        · have z := st0.keep a o h hn
          rw [m.new a q] at z
          cases z
  · obtain ⟨o, h⟩ := li p hp
    rw [h]
    exact m.exH p o h
  · obtain ⟨o, h⟩ := li p hp
    exact m.nof p o h (g.st.nf p hp)
  · rw [List.nodup_append]
    exact ⟨g.st.nd, m.nd, fun a ha b hb z => out b hb (z ▸ ha)⟩
theorem app_of {r : List V → Hp → VK → Prop} {f : List O → Option O} (hr : AppL C.B r f) (ops : List Opd) (ok : ∀ a ∈ ops, a.Ok C.n) {σ : L2.St} {H : Hp} {Q : VK} (h : teOf C W (eApp f ops) σ H Q) :
    tAll (ops.map (toT C W)) σ H fun vs H' => r vs H' Q := by
  obtain ⟨F, fp, env, st, q⟩ := h
  refine ta_all ops ok ⟨σ, F, H, fp⟩ env _ st ?_
  have q1 : FinE C W Q ⟨σ, F, H, fp⟩ ((goAll ops env).bind fun q => match finAll ops q.1 q.2 with
    | some os => (match f os with
      | some o => .ok (o, q.2)
      | none => .stuck)
    | none => .stuck) := q
  cases e : goAll ops env with
  | ok r1 =>
    obtain ⟨xs, env1⟩ := r1
    rw [e] at q1
    intro vs s1 fr g rt
    have q2 : FinE C W Q ⟨σ, F, H, fp⟩ (match finAll ops xs env1 with
      | some os => (match f os with
        | some o => .ok (o, env1)
        | none => .stuck)
      | none => .stuck) := q1
    cases e1 : finAll ops xs env1 with
    | none =>
      rw [e1] at q2
      exact False.elim q2
    | some os =>
      rw [e1] at q2
      have q3 : FinE C W Q ⟨σ, F, H, fp⟩ (match f os with
        | some o => .ok (o, env1)
        | none => .stuck) := q2
      cases e2 : f os with
      | none =>
        rw [e2] at q3
        exact False.elim q3
      | some o =>
        rw [e2] at q3
        refine hr s1.F s1.H vs os o Q g.st.ex (fin_rep g.st ok rt g.nf e1) e2 fun v F' H' fr' m r' => ?_
        exact q3 v ⟨s1.σ, F', H', s1.fp⟩ fr' (g.made m) r'
  | err c ns ds env1 =>
    rw [e] at q1
    exact q1
  | stuck =>
    rw [e] at q1
    exact q1
end
/-- an expression as an operand -/
def COpd (X : Cx) (C : Ctx) (W : WX) (e : Expr) (a : Opd) : Prop := PE X e (toT C W a) ∧ a.Ok C.n
theorem o_ev {X : Cx} {C : Ctx} {W : WX} {e : Expr} {f : ES} (h : PE X e (teOf C W f)) : COpd X C W e (.ev f) := ⟨h, trivial⟩
/-- an argument list -/
def CArgs (X : Cx) (C : Ctx) (W : WX) (es : List Expr) (as : List Opd) : Prop := PA X es (tAll (as.map (toT C W))) ∧ ∀ a ∈ as, a.Ok C.n
theorem a_nil {X : Cx} {C : Ctx} {W : WX} : CArgs X C W [] [] := ⟨pa_nil, fun _ h => by cases h⟩
theorem a_cons {X : Cx} {C : Ctx} {W : WX} {e : Expr} {es : List Expr} {a : Opd} {as : List Opd} (h : COpd X C W e a) (r : CArgs X C W es as) (hs : starEach (e :: es) X.env = (false, eval e X.env) :: starEach es X.env := by rfl) : CArgs X C W (e :: es) (a :: as) :=
  ⟨pa_cons h.1 r.1 hs, fun b hb => by
    rcases List.mem_cons.mp hb with rfl | hb
    · exact h.2
    · exact r.2 b hb⟩
def r1l (r : V → Hp → VK → Prop) : List V → Hp → VK → Prop := fun vs H Q => match vs with
  | [x] => r x H Q
  | _ => False
def r2l (r : R2) : List V → Hp → VK → Prop := fun vs H Q => match vs with
  | [x, y] => r x y H Q
  | _ => False
section
variable {X : Cx} {C : Ctx} {W : WX} {a b c e : Expr} {oa ob oc : Opd} {pos : Pos} {f g : List O → Option O}
theorem ok1 (h : COpd X C W a oa) : ∀ z ∈ [oa], z.Ok C.n := fun z hz => by
  rcases List.mem_singleton.mp hz with rfl
  exact h.2
theorem ok2 (h : COpd X C W a oa) (h2 : COpd X C W b ob) : ∀ z ∈ [oa, ob], z.Ok C.n := fun z hz => by
  rcases List.mem_cons.mp hz with rfl | hz
  · exact h.2
  · rcases List.mem_singleton.mp hz with rfl
    exact h2.2
theorem c_op1 {r : V → Hp → VK → Prop} (h : AppL C.B (r1l r) f) (ha : COpd X C W a oa) (hp : PE X e (fun σ H Q => toT C W oa σ H fun x H1 => r x H1 Q)) : PE X e (teOf C W (eApp f [oa])) :=
  PE_to hp fun σ H Q q => app_of h [oa] (ok1 ha) q
theorem c_op2 {r : R2} (h : AppL C.B (r2l r) f) (ha : COpd X C W a oa) (hb : COpd X C W b ob) (hp : PE X e (tOp r (toT C W oa) (toT C W ob))) : PE X e (teOf C W (eApp f [oa, ob])) :=
  PE_to hp fun σ H Q q => app_of h [oa, ob] (ok2 ha hb) q
theorem c_bin {op : Operator} {r : R2} (ho : OpR X (binaryOp op) r) (h : AppL C.B (r2l r) f) (ha : COpd X C W a oa) (hb : COpd X C W b ob) : PE X (.BinOp a op b pos) (teOf C W (eApp f [oa, ob])) :=
  c_op2 h ha hb (pe_op ho ha.1 hb.1)
theorem c_un {op : UnaryOp} {r : V → Hp → VK → Prop} (ho : UnR X (unaryOp op) r) (h : AppL C.B (r1l r) f) (ha : COpd X C W a oa) : PE X (.UnaryOp op a pos) (teOf C W (eApp f [oa])) :=
  c_op1 h ha (pe_un ho ha.1)
theorem c_cmp {op : CmpOp} {r : R2} (ho : OpR X (compareOp op) r) (h : AppL C.B (r2l r) f) (ha : COpd X C W a oa) (hb : COpd X C W b ob) (hm : behindInMarks op b = false) : PE X (.Compare a [op] [b] pos) (teOf C W (eApp f [oa, ob])) :=
  c_op2 h ha hb (pe_cmpR ho ha.1 hb.1 hm)
theorem c_ix {r : R2} (ho : IxR X r) (h : AppL C.B (r2l r) f) (ha : COpd X C W a oa) (hb : COpd X C W b ob) (hs : PlainIx b) : PE X (.Subscript a b pos) (teOf C W (eApp f [oa, ob])) :=
  c_op2 h ha hb (pe_ix ho ha.1 hb.1 hs)
/-- a built-in function, a built-in type, called -/
theorem c_callB {x : Str} {p : Pos} {id : String} {es : List Expr} {as : List Opd} {r : List V → Hp → VK → Prop} (hc : CallR X (.builtin id) r) (h : AppL C.B r f) (hg : Gl X x) (hm : X.mg x = none) (hv : bootBuiltins x = some (.builtin id)) (ha : CArgs X C W (e :: es) as) (hn : x ≠ "__name__" := by decide) (hdb : (x == ("__debug__" : Str)) = false := by decide)
    (he : starEach (e :: es) X.env = (false, eval e X.env) :: starEach es X.env := by rfl) (hpl : (backTo pos (starEach es X.env)).any (·.1) = false := by rfl) : PE X (.Call (.Name x p) (e :: es) [] pos) (teOf C W (eApp f as)) :=
  PE_to (pe_callB hc hg hm hv ha.1 hn hdb he hpl) fun σ H Q q => app_of h as ha.2 q
theorem c_callTy {x : Str} {p : Pos} {T : String} {es : List Expr} {as : List Opd} {r : List V → Hp → VK → Prop} (hc : CallR X (.type T) r) (h : AppL C.B r f) (hg : Gl X x) (hm : X.mg x = none) (hv : bootBuiltins x = some (.type T)) (ha : CArgs X C W (e :: es) as) (hn : x ≠ "__name__" := by decide) (hdb : (x == ("__debug__" : Str)) = false := by decide)
    (he : starEach (e :: es) X.env = (false, eval e X.env) :: starEach es X.env := by rfl) (hpl : (backTo pos (starEach es X.env)).any (·.1) = false := by rfl) : PE X (.Call (.Name x p) (e :: es) [] pos) (teOf C W (eApp f as)) :=
  PE_to (pe_callTy hc hg hm hv ha.1 hn hdb he hpl) fun σ H Q q => app_of h as ha.2 q
end
end DL
end

section
set_option Elab.async false
set_option linter.all false
set_option maxRecDepth 100000
set_option maxHeartbeats 1000000
namespace DL
open PySem PySem.Spec PyProof.Rows L2
section
variable {X : Cx} {C : Ctx} {W : WX} {s s1 : S0} {env : Env} {e a b c : Expr} {pos : Pos} {f g : ES} {t u : BS}
/-! ### constants and names -/
def eC (d : D) : ES := fun env => .ok (.fro d, env)
theorem c_const {v : V} {d : D} (h : PE X e (tC v)) (r : ∀ F, RepD C.B F v d) : PE X e (teOf C W (eC d)) :=
  PE_to h fun σ H Q ⟨F, fp, env, st, q⟩ => q v ⟨σ, F, H, fp⟩ [] st.got (.fro (r F))
theorem c_int {i : Int} {j : Nat} : PE X (.Constant (.int i) j pos) (teOf C W (eC (.int i))) := c_const pe_int fun _ => .int i
theorem c_str {x : Str} {j : Nat} : PE X (.Constant (.str x) j pos) (teOf C W (eC (.str x))) := c_const pe_str fun _ => .str x
theorem c_bl {b : Bool} {j : Nat} : PE X (.Constant (.bool b) j pos) (teOf C W (eC (.bl b))) := c_const pe_bl fun _ => .bl b
theorem c_non {j : Nat} : PE X (.Constant .none j pos) (teOf C W (eC .non)) := c_const pe_non fun _ => .non
/-- a name that holds data -/
def eVar (i : Nat) : ES := fun env => match getO env i with
  | some (.fro d) => .ok (.fro d, env)
  | _ => .stuck
/-- .. that is frozen where it is read -/
def eFz (i : Nat) : ES := fun env => match getO env i with
  | some o => .ok (.fro o.frz, env.set i (some (.fro o.frz)))
  | none => .stuck
/-- .. that is given away -/
def eMv (i : Nat) : ES := fun env => match getO env i with
  | some o => .ok (o, env.set i none)
  | none => .stuck
theorem c_var {i : Nat} (h : PE X e (tVar i)) (hi : i < C.n := by exact of_decide_eq_true rfl) : PE X e (teOf C W (eVar i)) :=
  PE_to h fun σ H Q ⟨F, fp, env, st, q⟩ => by
    have q1 : FinE C W Q ⟨σ, F, H, fp⟩ (match getO env i with
      | some (.fro d) => .ok (.fro d, env)
      | _ => .stuck) := q
    cases e : getO env i with
    | none =>
      rw [e] at q1
      exact False.elim q1
    | some o =>
      rw [e] at q1
      cases o with
      | fro d =>
        obtain ⟨v, fa, fq, fb, h1, h2, h3, _⟩ := st.slot hi e
        refine ⟨v, h1, q1 v ⟨σ, F, H, fp⟩ [] st.got ?_⟩
        cases h3 with
        | fro r => exact .fro r
      | own t ds => exact False.elim q1
      | tree t os => exact False.elim q1
theorem set_self {α : Type} : ∀ {l : List α} {i : Nat} {x : α}, l[i]? = some x → l.set i x = l
  | [], _, _, h => by simp at h
  | y :: l, 0, x, h => by
    have e : y = x := Option.some.inj h
    rw [e] <;> rfl
  | y :: l, i + 1, x, h => congrArg (y :: ·) (set_self (l := l) (i := i) h)
theorem nodup_mid {α : Type} {fa fq fb fr : List α} (h : (fa ++ fq ++ fb ++ fr).Nodup) : (fa ++ fr ++ fb).Nodup := by
  simp only [List.nodup_append, List.mem_append] at *
  grind
theorem nodup_end {α : Type} {fa fq fb : List α} (h : (fa ++ fq ++ fb).Nodup) : (fa ++ fb ++ fq).Nodup := by
  simp only [List.nodup_append, List.mem_append] at *
  grind
theorem nodup_sub {α : Type} {fa fq fb : List α} (h : (fa ++ fq ++ fb).Nodup) : (fa ++ fb).Nodup := by
  simp only [List.nodup_append, List.mem_append] at *
  grind
theorem c_mv {i : Nat} (h : PE X e (tVar i)) (hi : i < C.n := by exact of_decide_eq_true rfl) : PE X e (teOf C W (eMv i)) :=
  PE_to h fun σ H Q ⟨F, fp, env, st, q⟩ => by
    have q1 : FinE C W Q ⟨σ, F, H, fp⟩ (match getO env i with
      | some o => .ok (o, env.set i none)
      | none => .stuck) := q
    cases e : getO env i with
    | none =>
      rw [e] at q1
      exact False.elim q1
    | some o =>
      rw [e] at q1
      obtain ⟨v, fa, fq, fb, h1, h2, h3, k⟩ := st.slot hi e
      have h2 : fp = fa ++ fq ++ fb := h2
      have kk := k F H (some v) none [] (Evl.Ex.refl _) (fun _ _ => rfl) rfl
      rw [set_self h1, List.append_nil] at kk
      have nd : (fa ++ fq ++ fb).Nodup := by
        rw [← h2]
        exact st.nd
      have mem : ∀ a, a ∈ fa ++ fb ++ fq → a ∈ fp := fun a ha => by
        rw [h2]
        simp only [List.mem_append] at *
        grind
      refine ⟨v, h1, q1 v ⟨σ, F, H, fa ++ fb⟩ fq ⟨rfl, ⟨Evl.Ex.refl _, fun _ _ h _ => h, fun _ _ _ h _ => h, fun a ha => .inl (mem a ha), fun _ _ => rfl⟩, ⟨st.ex, kk, nodup_sub nd, fun p hp => st.nf p (mem p (List.mem_append_left _ hp)), st.len, st.xe⟩, nodup_end nd, fun p hp => st.nf p (mem p (List.mem_append_right _ hp))⟩ h3⟩
theorem c_fz {i : Nat} (h : PE X e (tVar i)) (hi : i < C.n := by exact of_decide_eq_true rfl) : PE X e (teOf C W (eFz i)) :=
  PE_to h fun σ H Q ⟨F, fp, env, st, q⟩ => by
    have q1 : FinE C W Q ⟨σ, F, H, fp⟩ (match getO env i with
      | some o => .ok (.fro o.frz, env.set i (some (.fro o.frz)))
      | none => .stuck) := q
    cases e : getO env i with
    | none =>
      rw [e] at q1
      exact False.elim q1
    | some o =>
      rw [e] at q1
      obtain ⟨v, fa, fq, fb, h1, h2, h3, k⟩ := st.slot hi e
      have h2 : fp = fa ++ fq ++ fb := h2
      have nf : ∀ p ∈ fq, F p = none := fun p hp => st.nf p (by
        rw [h2]
        simp [hp])
      have r := h3.freeze nf
      have e1 : Ex F (grow F H fq) := grow_ex nf
      have kk := k (grow F H fq) H (some v) (some (.fro o.frz)) [] e1 (fun _ _ => rfl) ⟨v, rfl, .fro r⟩
      rw [set_self h1, List.append_nil] at kk
      have nd : (fa ++ fq ++ fb).Nodup := by
        rw [← h2]
        exact st.nd
      have mem : ∀ a, a ∈ fa ++ fb → a ∈ fp := fun a ha => by
        rw [h2]
        simp only [List.mem_append] at *
        grind
      have nin : ∀ a, a ∈ fa ++ fb → a ∉ fq := fun a ha z => by
        have z2 := nodup_end nd
        rw [List.nodup_append] at z2
        exact z2.2.2 a ha a z rfl
      refine ⟨v, h1, q1 v ⟨σ, grow F H fq, H, fa ++ fb⟩ [] ⟨rfl, ⟨e1, fun _ _ h _ => h, fun a o h hf hn => ?_, fun a ha => .inl (mem a (by
        have ha : a ∈ fa ++ fb ++ [] := ha
        rw [List.append_nil] at ha
        exact ha)), fun _ _ => rfl⟩, ⟨grow_le st.ex, kk, nodup_sub nd, fun p hp => ?_, st.len, st.xe⟩, ?_, fun p hp => by cases hp⟩ (.fro r)⟩
      · have z : a ∉ fq := fun z => hn (show a ∈ fp by
          rw [h2]
          simp [z])
        exact (grow_out z).trans hf
      · exact (grow_out (nin p hp)).trans (st.nf p (mem p hp))
      · show (fa ++ fb ++ []).Nodup
        rw [List.append_nil]
        exact nodup_sub nd
theorem o_pk {i : Nat} (h : PE X e (tVar i)) (hi : i < C.n := by exact of_decide_eq_true rfl) : COpd X C W e (.pk i) := ⟨h, hi⟩

/-! ### tests -/
/-- a value that is a truth value -/
def O.bool? : O → Option Bool
  | .fro (.bl b) => some b
  | _ => none
theorem bool_of {B : Base} {F H : Hp} {v : V} {o : O} {fp : List Addr} {b : Bool} (r : RepO B F H v o fp) (e : o.bool? = some b) : v = .bl b := by
  cases r with
  | fro r =>
    cases r with
    | bl b' =>
      have z : b' = b := Option.some.inj e
      rw [z]
    | _ => cases e
  | own h r => cases e
  | tree h r => cases e
def bOf (f : ES) : BS := fun env => (f env).bind fun r => match r.1.bool? with
  | some b => .ok (b, r.2)
  | none => .stuck
theorem bOf_of {σ : L2.St} {H : Hp} {Q : Bool → Hp → Prop} (h : tbOf C W (bOf f) σ H Q) : teOf C W f σ H fun x H' => ∃ k, x = .bl k ∧ Q k H' := by
  obtain ⟨F, fp, env, st, q⟩ := h
  refine ⟨F, fp, env, st, ?_⟩
  have q1 : FinB C W Q ⟨σ, F, H, fp⟩ ((f env).bind fun r => match r.1.bool? with
    | some b => .ok (b, r.2)
    | none => .stuck) := q
  cases e : f env with
  | ok r =>
    obtain ⟨o, env1⟩ := r
    rw [e] at q1
    intro v s1 fr g r
    cases e2 : o.bool? with
    | none =>
      have q2 : FinB C W Q ⟨σ, F, H, fp⟩ (match o.bool? with
        | some b => .ok (b, env1)
        | none => .stuck) := q1
      rw [e2] at q2
      exact False.elim q2
    | some b =>
      have q2 : FinB C W Q ⟨σ, F, H, fp⟩ (match o.bool? with
        | some b => .ok (b, env1)
        | none => .stuck) := q1
      rw [e2] at q2
      exact ⟨b, bool_of r e2, q2 s1 (g.drop (List.nil_sublist _))⟩
  | err c ns ds env1 =>
    rw [e] at q1
    exact q1
  | stuck =>
    rw [e] at q1
    exact q1
theorem b_val (h : PE X e (teOf C W f)) (he : ∀ whole, isTrue e X.env whole = (do let v ← whole; standAt e.pos; holding [v] (truthy v)) := by intro _; rfl) : PT X e (tbOf C W (bOf f)) :=
  PT_to (pt_val h he) fun σ H Q q => bOf_of q
theorem b_cmp {op : CmpOp} {r : R2} {k : List O → Option O} {oa ob : Opd} (ho : OpR X (compareOp op) r) (h : AppL C.B (r2l r) k) (ha : COpd X C W a oa) (hb : COpd X C W b ob) (hm : behindInMarks op b = false) :
    PT X (.Compare a [op] [b] pos) (tbOf C W (bOf (eApp k [oa, ob]))) :=
  PT_to (pt_cmpR ho ha.1 hb.1 hm) fun σ H Q q => app_of h [oa, ob] (ok2 ha hb) (bOf_of q)
def bAnd (t u : BS) : BS := fun env => (t env).bind fun r => if r.1 = true then u r.2 else .ok (false, r.2)
def bOr (t u : BS) : BS := fun env => (t env).bind fun r => if r.1 = true then .ok (true, r.2) else u r.2
def bNot (t : BS) : BS := fun env => (t env).bind fun r => .ok (!r.1, r.2)
theorem FinB.later {Q : Bool → Hp → Prop} (x : Step C s s1) (e : s1.σ = s.σ) : ∀ {r : R (Bool × Env)}, FinB C W Q s r → FinB C W Q s1 r
  | .ok (_, _), h => fun s2 g => h s2 ⟨g.sl.trans e, x.trans g.step, g.st, g.nd, g.nf⟩
  | .err _ _ _ _, h => XFin.later h x
  | .stuck, h => h
theorem bAnd_of {σ : L2.St} {H : Hp} {Q : Bool → Hp → Prop} (h : tbOf C W (bAnd t u) σ H Q) : tAnd (tbOf C W t) (tbOf C W u) σ H Q := by
  obtain ⟨F, fp, env, st, q⟩ := h
  refine ⟨F, fp, env, st, ?_⟩
  have q1 : FinB C W Q ⟨σ, F, H, fp⟩ ((t env).bind fun r => if r.1 = true then u r.2 else .ok (false, r.2)) := q
  cases e : t env with
  | ok r =>
    obtain ⟨o, env1⟩ := r
    rw [e] at q1
    intro s1 g
    have q2 : FinB C W Q ⟨σ, F, H, fp⟩ (if o = true then u env1 else .ok (false, env1)) := q1
    cases o with
    | true =>
      refine iteT ?_
      have es : s1.σ = σ := g.sl
      rw [if_pos rfl] at q2
      rw [← es]
      exact ⟨s1.F, s1.fp, env1, g.st, q2.later g.step0 g.sl⟩
    | false =>
      refine iteF ?_
      rw [if_neg Bool.false_ne_true] at q2
      exact q2 s1 g
  | err c ns ds env1 =>
    rw [e] at q1
    exact q1
  | stuck =>
    rw [e] at q1
    exact q1
theorem bOr_of {σ : L2.St} {H : Hp} {Q : Bool → Hp → Prop} (h : tbOf C W (bOr t u) σ H Q) : tOr (tbOf C W t) (tbOf C W u) σ H Q := by
  obtain ⟨F, fp, env, st, q⟩ := h
  refine ⟨F, fp, env, st, ?_⟩
  have q1 : FinB C W Q ⟨σ, F, H, fp⟩ ((t env).bind fun r => if r.1 = true then .ok (true, r.2) else u r.2) := q
  cases e : t env with
  | ok r =>
    obtain ⟨o, env1⟩ := r
    rw [e] at q1
    intro s1 g
    have q2 : FinB C W Q ⟨σ, F, H, fp⟩ (if o = true then .ok (true, env1) else u env1) := q1
    cases o with
    | false =>
      refine iteF ?_
      have es : s1.σ = σ := g.sl
      rw [if_neg Bool.false_ne_true] at q2
      rw [← es]
      exact ⟨s1.F, s1.fp, env1, g.st, q2.later g.step0 g.sl⟩
    | true =>
      refine iteT ?_
      rw [if_pos rfl] at q2
      exact q2 s1 g
  | err c ns ds env1 =>
    rw [e] at q1
    exact q1
  | stuck =>
    rw [e] at q1
    exact q1
theorem bNot_of {σ : L2.St} {H : Hp} {Q : Bool → Hp → Prop} (h : tbOf C W (bNot t) σ H Q) : tNot (tbOf C W t) σ H Q := by
  obtain ⟨F, fp, env, st, q⟩ := h
  refine ⟨F, fp, env, st, ?_⟩
  have q1 : FinB C W Q ⟨σ, F, H, fp⟩ ((t env).bind fun r => .ok (!r.1, r.2)) := q
  cases e : t env with
  | ok r =>
    obtain ⟨o, env1⟩ := r
    rw [e] at q1
    exact q1
  | err c ns ds env1 =>
    rw [e] at q1
    exact q1
  | stuck =>
    rw [e] at q1
    exact q1
variable {rest : List Expr}
def CW (X : Cx) (C : Ctx) (W : WX) (e : Expr) (t : BS) : Prop := PW X e (tbOf C W t)
theorem w_and1 (h : PT X a (tbOf C W t)) : CW X C W (.BoolOp .And [a] pos) t := pw_and1 h
theorem w_or1 (h : PT X a (tbOf C W t)) : CW X C W (.BoolOp .Or [a] pos) t := pw_or1 h
theorem w_and (h : PT X a (tbOf C W t)) (r : CW X C W (.BoolOp .And (b :: rest) pos) u) : CW X C W (.BoolOp .And (a :: b :: rest) pos) (bAnd t u) :=
  ⟨fun wh pins s σ H Q I q => (pw_and h r).run wh pins s σ H Q I (bAnd_of q)⟩
theorem w_or (h : PT X a (tbOf C W t)) (r : CW X C W (.BoolOp .Or (b :: rest) pos) u) : CW X C W (.BoolOp .Or (a :: b :: rest) pos) (bOr t u) :=
  ⟨fun wh pins s σ H Q I q => (pw_or h r).run wh pins s σ H Q I (bOr_of q)⟩
theorem b_w (h : CW X C W e t) : PT X e (tbOf C W t) := PW.pt h
theorem b_not (h : PT X a (tbOf C W t)) : PT X (.UnaryOp .Not a pos) (tbOf C W (bNot t)) := PT_to (pt_not h) fun _ _ _ q => bNot_of q
/-! ### and, or, not as values; conditional expressions -/
def eAnd (f g : ES) : ES := fun env => (bOf f env).bind fun r => if r.1 = true then g r.2 else .ok (.fro (.bl false), r.2)
def eOr (f g : ES) : ES := fun env => (bOf f env).bind fun r => if r.1 = true then .ok (.fro (.bl true), r.2) else g r.2
def eNot (f : ES) : ES := fun env => (bOf f env).bind fun r => .ok (.fro (.bl (!r.1)), r.2)
def eIf (t : BS) (f g : ES) : ES := fun env => (t env).bind fun r => if r.1 = true then f r.2 else g r.2
/-- a test, then a value by it -/
theorem tb_then {σ : L2.St} {H : Hp} {Q : VK} {k : Bool → ES} (h : teOf C W (fun env => (t env).bind fun r => k r.1 r.2) σ H Q) : tbOf C W t σ H fun b H1 => teOf C W (k b) σ H1 Q := by
  obtain ⟨F, fp, env, st, q⟩ := h
  refine ⟨F, fp, env, st, ?_⟩
  have q1 : FinE C W Q ⟨σ, F, H, fp⟩ ((t env).bind fun r => k r.1 r.2) := q
  cases e : t env with
  | ok r =>
    obtain ⟨o, env1⟩ := r
    rw [e] at q1
    intro s1 g
    have es : s1.σ = σ := g.sl
    rw [← es]
    exact ⟨s1.F, s1.fp, env1, g.st, FinE.later g.step0 g.sl q1⟩
  | err c ns ds env1 =>
    rw [e] at q1
    exact q1
  | stuck =>
    rw [e] at q1
    exact q1
theorem te_mono {σ : L2.St} {H : Hp} {Q Q' : VK} (h : teOf C W f σ H Q) (k : ∀ v H', Q v H' → Q' v H') : teOf C W f σ H Q' := by
  obtain ⟨F, fp, env, st, q⟩ := h
  refine ⟨F, fp, env, st, ?_⟩
  cases e : f env with
  | ok r =>
    obtain ⟨o, env1⟩ := r
    rw [e] at q
    exact fun v s1 fr g r => k _ _ (q v s1 fr g r)
  | err c ns ds env1 =>
    rw [e] at q
    exact q
  | stuck =>
    rw [e] at q
    exact q
theorem te_const {σ : L2.St} {H : Hp} {Q : VK} {d : D} {v : V} (r : ∀ F, RepD C.B F v d) (h : teOf C W (eC d) σ H Q) : Q v H := by
  obtain ⟨F, fp, env, st, q⟩ := h
  exact q v ⟨σ, F, H, fp⟩ [] st.got (.fro (r F))
theorem c_and (ha : PE X a (teOf C W f)) (hb : PE X (.BoolOp .And (b :: rest) pos) (teOf C W g)) : PE X (.BoolOp .And (a :: b :: rest) pos) (teOf C W (eAnd f g)) :=
  PE_to (pe_and ha hb) fun σ H Q q => te_mono (bOf_of (tb_then (k := fun b => if b = true then g else eC (.bl false)) (by
    obtain ⟨F, fp, env, st, q⟩ := q
    refine ⟨F, fp, env, st, ?_⟩
    have e : (fun r : Bool × Env => (if r.1 = true then g else eC (.bl false)) r.2) = fun r => if r.1 = true then g r.2 else .ok (.fro (.bl false), r.2) := by
      funext r
      by_cases z : r.1 = true
      · rw [if_pos z, if_pos z]
      · rw [if_neg z, if_neg z]
        rfl
    show FinE C W Q _ ((bOf f env).bind _)
    rw [e]
    exact q))) fun x H1 z => by
      obtain ⟨k, ex, q⟩ := z
      refine ⟨k, ex, ?_⟩
      cases k with
      | true => exact q
      | false => exact te_const (fun _ => .bl false) q
theorem c_or (ha : PE X a (teOf C W f)) (hb : PE X (.BoolOp .Or (b :: rest) pos) (teOf C W g)) : PE X (.BoolOp .Or (a :: b :: rest) pos) (teOf C W (eOr f g)) :=
  PE_to (pe_or ha hb) fun σ H Q q => te_mono (bOf_of (tb_then (k := fun b => if b = true then eC (.bl true) else g) (by
    obtain ⟨F, fp, env, st, q⟩ := q
    refine ⟨F, fp, env, st, ?_⟩
    have e : (fun r : Bool × Env => (if r.1 = true then eC (.bl true) else g) r.2) = fun r => if r.1 = true then .ok (.fro (.bl true), r.2) else g r.2 := by
      funext r
      by_cases z : r.1 = true
      · rw [if_pos z, if_pos z]
        rfl
      · rw [if_neg z, if_neg z]
    show FinE C W Q _ ((bOf f env).bind _)
    rw [e]
    exact q))) fun x H1 z => by
      obtain ⟨k, ex, q⟩ := z
      refine ⟨k, ex, ?_⟩
      cases k with
      | false => exact q
      | true => exact te_const (fun _ => .bl true) q
theorem c_one {op : BoolOp} (h : PE X a (teOf C W f)) : PE X (.BoolOp op [a] pos) (teOf C W f) := pe_one h
theorem c_not (ha : PE X a (teOf C W f)) : PE X (.UnaryOp .Not a pos) (teOf C W (eNot f)) :=
  PE_to (pe_not ha) fun σ H Q q => te_mono (bOf_of (tb_then (k := fun b => eC (.bl (!b))) q)) fun x H1 z => by
    obtain ⟨k, ex, q⟩ := z
    exact ⟨k, ex, te_const (fun _ => .bl _) q⟩
theorem c_if (hc : PT X c (tbOf C W t)) (ha : PE X a (teOf C W f)) (hb : PE X b (teOf C W g)) : PE X (.IfExp c a b pos) (teOf C W (eIf t f g)) :=
  PE_to (pe_ifExp hc ha hb) fun σ H Q q => by
    have z := tb_then (t := t) (k := fun b => if b = true then f else g) (C := C) (W := W) (σ := σ) (H := H) (Q := Q) (by
      obtain ⟨F, fp, env, st, q⟩ := q
      refine ⟨F, fp, env, st, ?_⟩
      have e : (fun r : Bool × Env => (if r.1 = true then f else g) r.2) = fun r => if r.1 = true then f r.2 else g r.2 := by
        funext r
        by_cases z : r.1 = true
        · rw [if_pos z, if_pos z]
        · rw [if_neg z, if_neg z]
      show FinE C W Q _ ((t env).bind _)
      rw [e]
      exact q)
    obtain ⟨F, fp, env, st, q⟩ := z
    refine ⟨F, fp, env, st, ?_⟩
    cases e : t env with
    | ok r =>
      obtain ⟨o, env1⟩ := r
      rw [e] at q
      intro s1 g1
      have z2 := q s1 g1
      cases o with
      | true => exact z2
      | false => exact z2
    | err c ns ds env1 =>
      rw [e] at q
      exact q
    | stuck =>
      rw [e] at q
      exact q
end
end DL
end

section
set_option Elab.async false
set_option linter.all false
set_option maxRecDepth 100000
set_option maxHeartbeats 1000000
namespace DL
open PySem PySem.Spec PyProof.Rows L2
section
variable {X : Cx} {C : Ctx} {W : WX} {s s1 : S0} {env : Env} {e a b c : Expr} {pos : Pos} {f g : ES} {t : BS} {u v : SS} {st : Stmt} {sts : List Stmt}
/-! ### statements -/
def sNx : SS := fun env => .ok (.nx, env)
def sBk : SS := fun env => .ok (.bk, env)
def sCt : SS := fun env => .ok (.ct, env)
def sSeq (u v : SS) : SS := fun env => (u env).bind fun r => match r.1 with
  | .nx => v r.2
  | fl => .ok (fl, r.2)
def sAsg (i : Nat) (f : ES) : SS := fun env => (f env).bind fun r => .ok (.nx, r.2.set i (some r.1))
def sRet (f : ES) : SS := fun env => (f env).bind fun r => .ok (.rt r.1, r.2)
def sRetN : SS := fun env => .ok (.rt (.fro .non), env)
def sExpr (f : ES) : SS := fun env => (f env).bind fun r => .ok (.nx, r.2)
def sIf (t : BS) (u v : SS) : SS := fun env => (t env).bind fun r => if r.1 = true then u r.2 else v r.2
theorem now {F H : Hp} {σ : L2.St} {fp : List Addr} (st : St C ⟨σ, F, H, fp⟩ env) : Step C ⟨σ, F, H, fp⟩ ⟨σ, F, H, fp⟩ := .refl _
theorem k_nx {D : Ends} {σ : L2.St} {H : Hp} (h : tsOf C W sNx D σ H) : D.nx σ H := by
  obtain ⟨F, fp, env, st, q⟩ := h
  exact q ⟨σ, F, H, fp⟩ (now st) st
theorem k_pass : PS X (.Pass pos) (tsOf C W sNx) := PS_to ps_pass fun D σ H h => k_nx h
theorem k_doc {x : Str} {j : Nat} {p : Pos} : PS X (.Expr (.Constant (.str x) j p) pos) (tsOf C W sNx) := PS_to ps_doc fun D σ H h => k_nx h
theorem k_break : PS X (.Break pos) (tsOf C W sBk) := PS_to ps_break fun D σ H h => by
  obtain ⟨F, fp, env, st, q⟩ := h
  exact q ⟨σ, F, H, fp⟩ (now st) st
theorem k_continue : PS X (.Continue pos) (tsOf C W sCt) := PS_to ps_continue fun D σ H h => by
  obtain ⟨F, fp, env, st, q⟩ := h
  exact q ⟨σ, F, H, fp⟩ (now st) st
theorem ks_nil : PSs X [] (tsOf C W sNx) := PSs_to pss_nil fun D σ H h => k_nx h
theorem ts_mono {D D' : Ends} {σ : L2.St} {H : Hp} (h : tsOf C W u D σ H) (k1 : ∀ σ H, D.nx σ H → D'.nx σ H) (k2 : ∀ v H, D.rt v H → D'.rt v H) (k3 : ∀ σ H, D.bk σ H → D'.bk σ H) (k4 : ∀ σ H, D.ct σ H → D'.ct σ H) : tsOf C W u D' σ H := by
  obtain ⟨F, fp, env, st, q⟩ := h
  refine ⟨F, fp, env, st, ?_⟩
  cases e : u env with
  | ok r =>
    obtain ⟨fl, env1⟩ := r
    rw [e] at q
    cases fl with
    | nx => exact fun s1 x y => k1 _ _ (q s1 x y)
    | bk => exact fun s1 x y => k3 _ _ (q s1 x y)
    | ct => exact fun s1 x y => k4 _ _ (q s1 x y)
    | rt o => exact fun v s1 fr x y r nd nf => k2 _ _ (q v s1 fr x y r nd nf)
  | err c ns ds env1 =>
    rw [e] at q
    exact q
  | stuck =>
    rw [e] at q
    exact q
theorem sSeq_of {D : Ends} {σ : L2.St} {H : Hp} (h : tsOf C W (sSeq u v) D σ H) : tSeq (tsOf C W u) (tsOf C W v) D σ H := by
  obtain ⟨F, fp, env, st, q⟩ := h
  refine ⟨F, fp, env, st, ?_⟩
  have q1 : FinS C W D ⟨σ, F, H, fp⟩ ((u env).bind fun r => match r.1 with
    | .nx => v r.2
    | fl => .ok (fl, r.2)) := q
  cases e : u env with
  | ok r =>
    obtain ⟨fl, env1⟩ := r
    rw [e] at q1
    cases fl with
    | nx => exact fun s1 x y => ⟨s1.F, s1.fp, env1, y, FinS.later x q1⟩
    | bk => exact q1
    | ct => exact q1
    | rt o => exact q1
  | err c ns ds env1 =>
    rw [e] at q1
    exact q1
  | stuck =>
    rw [e] at q1
    exact q1
theorem ks_cons (h : PS X st (tsOf C W u)) (r : PSs X sts (tsOf C W v)) : PSs X (st :: sts) (tsOf C W (sSeq u v)) := PSs_to (pss_cons h r) fun D σ H h => sSeq_of h
theorem ks_one (h : PS X st (tsOf C W u)) : PSs X [st] (tsOf C W u) := pss_one h
/-- an expression, then what comes of it -/
theorem te_then {σ : L2.St} {H : Hp} {D : Ends} {k : O → Env → R (Fl × Env)} {Q : VK} (h : tsOf C W (fun env => (f env).bind fun r => k r.1 r.2) D σ H)
    (kk : ∀ (o : O) (env1 : Env) (v : V) (s s1 : S0) (fr : List Addr), s.σ = σ → Got C s s1 env1 fr → RepO C.B s1.F s1.H v o fr → FinS C W D s (k o env1) → Q v s1.H) : teOf C W f σ H Q := by
  obtain ⟨F, fp, env, st, q⟩ := h
  refine ⟨F, fp, env, st, ?_⟩
  have q1 : FinS C W D ⟨σ, F, H, fp⟩ ((f env).bind fun r => k r.1 r.2) := q
  cases e : f env with
  | ok r =>
    obtain ⟨o, env1⟩ := r
    rw [e] at q1
    exact fun v s1 fr g r => kk o env1 v ⟨σ, F, H, fp⟩ s1 fr rfl g r q1
  | err c ns ds env1 =>
    rw [e] at q1
    exact q1
  | stuck =>
    rw [e] at q1
    exact q1
theorem set_ne {α : Type} {l : List α} {i j : Nat} {x : α} (h : i ≠ j) : (l.set i x)[j]? = l[j]? := List.getElem?_set_ne h
/-- a value that is in hand is stored in slot i -/
theorem St.store {env1 : Env} {v : V} {o : O} {fr : List Addr} {i : Nat} (hi : i < C.n) (hk : i ∉ C.ks) (g : Got C s s1 env1 fr) (r : RepO C.B s1.F s1.H v o fr) :
    ∃ fp, Step C s ⟨s1.σ.set i (some v), s1.F, s1.H, fp⟩ ∧ St C ⟨s1.σ.set i (some v), s1.F, s1.H, fp⟩ (env1.set i (some o)) := by
  have hl : i < env1.length := by
    have z := g.st.rep.len
    rw [List.length_append, g.st.len] at z
    omega
  obtain ⟨w, fa, fq, fb, h1, h2, h3, k⟩ := g.st.any hi (List.getElem?_eq_getElem hl)
  have nd := g.nd
  rw [h2] at nd
  have mem : ∀ a, a ∈ fa ++ fr ++ fb → a ∈ s1.fp ++ fr := fun a ha => by
    rw [h2]
    simp only [List.mem_append] at *
    grind
  refine ⟨fa ++ fr ++ fb, ⟨g.step.exF, g.step.keep, g.step.nof, fun a ha => g.step.new a (mem a ha), fun j hj => ?_⟩, ⟨g.st.ex, k _ _ _ _ _ (Evl.Ex.refl _) (fun _ _ => rfl) ⟨v, rfl, r⟩, nodup_mid nd, fun p hp => ?_, ?_, fun j a hj => ?_⟩⟩
  · show (s1.σ.set i (some v))[j]? = s.σ[j]?
    rw [List.getElem?_set_ne (fun z : i = j => hk (by rw [z]; exact hj)), g.sl]
  · rcases List.mem_append.mp (mem p hp) with z | z
    · exact g.st.nf p z
    · exact g.nf p z
  · show (s1.σ.set i (some v)).length = C.n
    rw [List.length_set, g.st.len]
  · show (s1.σ.set i (some v))[j]? = _
    rw [List.getElem?_set_ne (fun z : i = j => hk (by rw [z]; exact C.xk _ _ hj)), g.st.xe j a hj]
theorem sAsg_of {D : Ends} {σ : L2.St} {H : Hp} {i : Nat} (hi : i < C.n) (hk : i ∉ C.ks) (h : tsOf C W (sAsg i f) D σ H) : tAsg (teOf C W f) (gName i) D σ H := by
  refine te_then (k := fun o env => .ok (.nx, env.set i (some o))) h fun o env1 v s s1 fr es g r q => ?_
  obtain ⟨fp, x, y⟩ := St.store hi hk g r
  have z := q _ x y
  rw [show s1.σ = σ from g.sl.trans es] at z
  exact z
theorem k_set {i : Nat} {x : Str} {pos' : Pos} (hN : X.N.Nodup) (hi : X.N[i]? = some x) (he : PE X e (teOf C W f)) (hn : i < C.n := by exact of_decide_eq_true rfl) (hk : i ∉ C.ks := by exact of_decide_eq_true rfl) (hx : Loc X.env.scope x := by first | exact Or.inl rfl | exact Or.inr rfl) (hs : swapsWith e (some (.Name x pos')) pos.line X.env = pure false := by rfl)
    (hf : X.fn x = true ∨ X.env.scope.names.lookup x = some .local := by first | exact .inl rfl | exact .inr rfl | assumption) : PS X (.Assign [.Name x pos'] e pos) (tsOf C W (sAsg i f)) :=
  PS_to (ps_set hN hi hx he hs hf) fun D σ H h => sAsg_of hn hk h
theorem k_ret (he : PE X e (teOf C W f)) : PS X (.Return (some e) pos) (tsOf C W (sRet f)) :=
  PS_to (ps_ret he) fun D σ H h => te_then (k := fun o env => .ok (.rt o, env)) h fun o env1 v s s1 fr es g r q => q v s1 fr g.step g.st r g.nd g.nf
theorem k_retN : PS X (.Return none pos) (tsOf C W sRetN) := PS_to ps_retN fun D σ H h => by
  obtain ⟨F, fp, env, st, q⟩ := h
  exact q .non ⟨σ, F, H, fp⟩ [] (st.got).step st (.fro .non) (st.got).nd (st.got).nf
theorem k_expr (he : PE X e (teOf C W f)) (hs : swapsWith e none pos.line X.env = pure false := by rfl) : PS X (.Expr e pos) (tsOf C W (sExpr f)) :=
  PS_to (ps_expr he hs) fun D σ H h => te_then (k := fun o env => .ok (.nx, env)) h fun o env1 v s s1 fr es g r q => by
    have g0 := g.drop (fr1 := []) (List.nil_sublist _)
    have z := q s1 g0.step0 g0.st
    rw [show s1.σ = σ from g.sl.trans es] at z
    exact z
theorem k_if {xs ys : List Stmt} (hc : PT X c (tbOf C W t)) (ha : PSs X xs (tsOf C W u)) (hb : PSs X ys (tsOf C W v)) : PS X (.If c xs ys pos) (tsOf C W (sIf t u v)) :=
  PS_to (ps_if hc ha hb) fun D σ H h => by
    obtain ⟨F, fp, env, st, q⟩ := h
    refine ⟨F, fp, env, st, ?_⟩
    have q1 : FinS C W D ⟨σ, F, H, fp⟩ ((t env).bind fun r => if r.1 = true then u r.2 else v r.2) := q
    cases e : t env with
    | ok r =>
      obtain ⟨o, env1⟩ := r
      rw [e] at q1
      intro s1 g
      have es : s1.σ = σ := g.sl
      have q2 : FinS C W D ⟨σ, F, H, fp⟩ (if o = true then u env1 else v env1) := q1
      cases o with
      | true =>
        rw [if_pos rfl] at q2
        refine iteT ?_
        rw [← es]
        exact ⟨s1.F, s1.fp, env1, g.st, q2.later g.step0⟩
      | false =>
        rw [if_neg Bool.false_ne_true] at q2
        refine iteF ?_
        rw [← es]
        exact ⟨s1.F, s1.fp, env1, g.st, q2.later g.step0⟩
    | err c ns ds env1 =>
      rw [e] at q1
      exact q1
    | stuck =>
      rw [e] at q1
      exact q1
/-! ### what a loop walks -/
abbrev IS := Env → R (List D × Env)
/-- J walks ds, from F on -/
def Walks (B : Base) (F : Hp) (J : It) (ds : List D) : Prop := ∀ F2 H2, Ex F F2 → Ex F2 H2 →
  (∀ i d, ds[i]? = some d → J.go i H2 ∧ ∀ x H', J.yld i H2 x H' → ∃ F', Made F2 H2 F' H' [] ∧ RepD B F' x d) ∧ J.stop ds.length H2
def FinI (C : Ctx) (W : WX) (Rj : It → Hp → Prop) (s : S0) : R (List D × Env) → Prop
  | .ok (ds, env) => ∀ (s1 : S0) (J : It), Got C s s1 env [] → Walks C.B s1.F J ds → Rj J s1.H
  | .err c ns ds env => XFin C W s c ns ds env
  | .stuck => False
def tiOf (C : Ctx) (W : WX) (f : IS) : TI := fun σ H Rj => ∃ F fp env, St C ⟨σ, F, H, fp⟩ env ∧ FinI C W Rj ⟨σ, F, H, fp⟩ (f env)
theorem PI_to {tg : Expr} {w w' : TI} (h : PI X tg e w) (k : ∀ σ H R, w' σ H R → w σ H R) : PI X tg e w' := ⟨fun pins s σ H R I q => h.run pins s σ H R I (k σ H R q)⟩
/-- the items of a list or tuple that stands still -/
def O.items? : O → Option (Tag × List D)
  | .fro (.node .tup ds) => some (.tup, ds)
  | .fro (.node .lst ds) => some (.lst, ds)
  | .own .lst ds => some (.lst, ds)
  | .own .tup ds => some (.tup, ds)
  | _ => none
def iSeq (f : ES) : IS := fun env => (f env).bind fun r => match r.1.items? with
  | some p => .ok (p.2, r.2)
  | none => .stuck
theorem RepDs.get {B : Base} {F : Hp} : ∀ {vs : List V} {ds : List D}, RepDs B F vs ds → ∀ {i : Nat} {d : D}, ds[i]? = some d → ∃ v, vs[i]? = some v ∧ RepD B F v d
  | _, _, .nil, i, d, e => by simp at e
  | _, _, .cons h r, 0, d, e => by
    have z := Option.some.inj (show some _ = some d from e)
    rw [← z]
    exact ⟨_, rfl, h⟩
  | _, _, .cons h r, i + 1, d, e => r.get (i := i) e
theorem RepDs.getV {B : Base} {F : Hp} : ∀ {vs : List V} {ds : List D}, RepDs B F vs ds → ∀ {i : Nat} {v : V}, vs[i]? = some v → ∃ d, ds[i]? = some d ∧ RepD B F v d
  | _, _, .nil, i, d, e => by simp at e
  | _, _, .cons h r, 0, d, e => by
    have z := Option.some.inj (show some _ = some d from e)
    rw [← z]
    exact ⟨_, rfl, h⟩
  | _, _, .cons h r, i + 1, d, e => r.getV (i := i) e
theorem RepDs.len {B : Base} {F : Hp} : ∀ {vs : List V} {ds : List D}, RepDs B F vs ds → vs.length = ds.length
  | _, _, .nil => rfl
  | _, _, .cons _ r => congrArg (· + 1) r.len
theorem walk_lst {B : Base} {F : Hp} {a : Addr} {vs : List V} {ds : List D} (h : SqL B.K F a vs) (r : RepDs B F vs ds) : Walks B F (Itl B.K a) ds := fun F2 H2 e1 e2 => by
  have hs : SqL B.K H2 a vs := Evl.ex_l (e1.trans e2) h
  refine ⟨fun i d hd => ?_, ⟨vs, hs, by rw [r.len]; exact Nat.le_refl _⟩⟩
  obtain ⟨v, hv, rv⟩ := r.get hd
  exact ⟨⟨vs, v, hs, hv⟩, fun x H' y => by
    obtain ⟨e, y⟩ := y
    subst e
    have z := y vs hs
    rw [hv] at z
    cases z
    exact ⟨F2, .refl e2, rv.ex e1⟩⟩
theorem walk_tup {B : Base} {F : Hp} {a : Addr} {vs : List V} {ds : List D} (h : SqT B.K F a vs) (r : RepDs B F vs ds) : Walks B F (Itt B.K a) ds := fun F2 H2 e1 e2 => by
  have hs : SqT B.K H2 a vs := Evl.ex_t (e1.trans e2) h
  refine ⟨fun i d hd => ?_, ⟨vs, hs, by rw [r.len]; exact Nat.le_refl _⟩⟩
  obtain ⟨v, hv, rv⟩ := r.get hd
  exact ⟨⟨vs, v, hs, hv⟩, fun x H' y => by
    obtain ⟨e, y⟩ := y
    subst e
    have z := y vs hs
    rw [hv] at z
    cases z
    exact ⟨F2, .refl e2, rv.ex e1⟩⟩
theorem walk_rng {B : Base} {F : Hp} (lo : Int) (n : Nat) : Walks B F (Itr lo n) ((List.range n).map fun (k : Nat) => D.int (lo + (k : Int))) := fun F2 H2 e1 e2 => by
  refine ⟨fun i d hd => ?_, by
    show n ≤ ((List.range n).map fun (k : Nat) => D.int (lo + (k : Int))).length
    simp⟩
  rw [List.getElem?_map] at hd
  cases e : (List.range n)[i]? with
  | none =>
    rw [e] at hd
    cases hd
  | some k =>
    rw [e] at hd
    have hi : i < n := by
      have z := (List.getElem?_eq_some_iff.mp e).1
      simpa using z
    have ek : i = k := by
      rw [List.getElem?_range hi] at e
      exact Option.some.inj e
    subst ek
    have ed := Option.some.inj hd
    refine ⟨hi, fun x H' y => ?_⟩
    obtain ⟨e, y⟩ := y
    subst e y
    rw [← ed]
    exact ⟨F2, .refl e2, .int _⟩
/-- a list or tuple, walked -/
def iSeqT (K : PySem.W.Frag) (tl : TE) : TI := fun σ H R => tl σ H fun x H1 => ∃ a, x = .ref a ∧ (((∃ xs, SqL K H1 a xs) ∧ R (Itl K a) H1) ∨ ((∃ xs, SqT K H1 a xs) ∧ R (Itt K a) H1))
theorem pi_seq {tg : Expr} {tl : TE} (hl : PE X e tl) : PI X tg e (iSeqT X.K tl) := by
  refine ⟨fun pins s σ H R I h => ?_⟩
  refine thn (hl.run pins s σ H _ I h) fun v s1 ⟨x, H1, I1, r1, q1⟩ => ?_
  obtain ⟨a, e, ⟨⟨xs, hq⟩, q⟩ | ⟨⟨xs, hq⟩, q⟩⟩ := q1
  · subst e
    cases r1
    obtain ⟨its, rv, p, hz⟩ := I1.list hq
    refine wpAny_pyIter_list p.isList ?_
    refine ⟨s1.heap.objs.size, [s1.heap.objs.size], _, _, H1, rfl, I1.kept (t' := s1.toks) fun b o e => Heap.get?_push_of_some _ e, turn_list a _, ⟨_, Heap.get?_push_size _ rfl, rfl, rfl⟩, fun b hb => ?_, q⟩
    have e : b = s1.heap.objs.size := by simpa using hb
    subst e
    exact I1.fpOk (Nat.le_refl _) (I1.hok.fresh (Nat.le_refl _))
  · subst e
    cases r1
    obtain ⟨its, rv, p, hz⟩ := I1.tuple hq
    refine wpAny_pyIter_tuple (show s1.heap.IsTuple a its.toArray from p) ?_
    refine ⟨s1.heap.objs.size, [s1.heap.objs.size], _, _, H1, rfl, I1.kept (t' := s1.toks) fun b o e => Heap.get?_push_of_some _ e, turn_tuple a _, ⟨_, Heap.get?_push_size _ rfl, rfl, rfl⟩, fun b hb => ?_, q⟩
    have e : b = s1.heap.objs.size := by simpa using hb
    subst e
    exact I1.fpOk (Nat.le_refl _) (I1.hok.fresh (Nat.le_refl _))
/-- a list or tuple in hand, frozen, is seen -/
theorem items_seen {B : Base} {F H : Hp} {v : V} {o : O} {fr : List Addr} {p : Tag × List D} (r : RepO B F H v o fr) (nf : ∀ q ∈ fr, F q = none) (e : o.items? = some p) :
    ∃ a vs, v = .ref a ∧ RepDs B (grow F H fr) vs p.2 ∧ ((p.1 = .lst ∧ SqL B.K (grow F H fr) a vs) ∨ (p.1 = .tup ∧ SqT B.K (grow F H fr) a vs)) := by
  have z := r.freeze nf
  have key : ∀ {t : Tag} {ds : List D}, o.frz = .node t ds → p = (t, ds) → (t = .lst ∨ t = .tup) → ∃ a vs, v = .ref a ∧ RepDs B (grow F H fr) vs p.2 ∧ ((p.1 = .lst ∧ SqL B.K (grow F H fr) a vs) ∨ (p.1 = .tup ∧ SqT B.K (grow F H fr) a vs)) := by
    intro t ds e1 e2 e3
    rw [e1] at z
    subst e2
    cases z with
    | node hs rs =>
      refine ⟨_, _, rfl, rs, ?_⟩
      rcases e3 with rfl | rfl
      · exact .inl ⟨rfl, hs⟩
      · exact .inr ⟨rfl, hs⟩
  unfold O.items? at e
  split at e
  · exact key (by rw [O.frz]) (Option.some.inj e).symm (.inr rfl)
  · exact key (by rw [O.frz]) (Option.some.inj e).symm (.inl rfl)
  · exact key (by rw [O.frz]) (Option.some.inj e).symm (.inl rfl)
  · exact key (by rw [O.frz]) (Option.some.inj e).symm (.inr rfl)
  · cases e
theorem i_seq {tg : Expr} (hK : X.K = C.B.K) (h : PE X e (teOf C W f)) : PI X tg e (tiOf C W (iSeq f)) :=
  PI_to (pi_seq h) fun σ H Rj q => by
    obtain ⟨F, fp, env, st, q⟩ := q
    refine ⟨F, fp, env, st, ?_⟩
    have q1 : FinI C W Rj ⟨σ, F, H, fp⟩ ((f env).bind fun r => match r.1.items? with
      | some p => .ok (p.2, r.2)
      | none => .stuck) := q
    cases e : f env with
    | ok r =>
      obtain ⟨o, env1⟩ := r
      rw [e] at q1
      have q2 : FinI C W Rj ⟨σ, F, H, fp⟩ (match o.items? with
        | some p => .ok (p.2, env1)
        | none => .stuck) := q1
      intro v s1 fr g r
      cases e2 : o.items? with
      | none =>
        rw [e2] at q2
        exact False.elim q2
      | some p =>
        rw [e2] at q2
        obtain ⟨a, vs, ev, rs, hs⟩ := items_seen r g.nf e2
        have gf := g.freeze
        rw [hK]
        refine ⟨a, ev, ?_⟩
        rcases hs with ⟨_, hs⟩ | ⟨_, hs⟩
        · exact .inl ⟨⟨vs, Evl.ex_l gf.st.ex hs⟩, q2 ⟨s1.σ, grow s1.F s1.H fr, s1.H, s1.fp⟩ _ gf (walk_lst hs rs)⟩
        · exact .inr ⟨⟨vs, Evl.ex_t gf.st.ex hs⟩, q2 ⟨s1.σ, grow s1.F s1.H fr, s1.H, s1.fp⟩ _ gf (walk_tup hs rs)⟩
    | err c ns ds env1 =>
      rw [e] at q1
      exact q1
    | stuck =>
      rw [e] at q1
      exact q1
end
end DL
end

section
set_option Elab.async false
set_option linter.all false
set_option maxRecDepth 100000
set_option maxHeartbeats 1000000
namespace DL
open PySem PySem.Spec PyProof.Rows L2
section
variable {X : Cx} {C : Ctx} {W : WX} {s s1 : S0} {env : Env} {e a b c : Expr} {pos : Pos} {f g : ES} {t : BS} {u v : SS} {st : Stmt} {sts : List Stmt}
/-! ### walked things that are made of operands -/
def iApp (k : List O → Option (List D)) (ops : List Opd) : IS := fun env => (goAll ops env).bind fun q => match finAll ops q.1 q.2 with
  | some os => (match k os with
    | some ds => .ok (ds, q.2)
    | none => .stuck)
  | none => .stuck
theorem iApp_of {k : List O → Option (List D)} {r : List V → Hp → (It → Hp → Prop) → Prop} (ops : List Opd) (ok : ∀ a ∈ ops, a.Ok C.n) {σ : L2.St} {H : Hp} {Rj : It → Hp → Prop}
    (hr : ∀ F H vs os ds, Ex F H → AllRep C.B F H vs os → k os = some ds → (∀ F' J, Made F H F' H [] → Walks C.B F' J ds → Rj J H) → r vs H Rj)
    (h : tiOf C W (iApp k ops) σ H Rj) : tAll (ops.map (toT C W)) σ H fun vs H' => r vs H' Rj := by
  obtain ⟨F, fp, env, st, q⟩ := h
  refine ta_all ops ok ⟨σ, F, H, fp⟩ env _ st ?_
  have q1 : FinI C W Rj ⟨σ, F, H, fp⟩ ((goAll ops env).bind fun q => match finAll ops q.1 q.2 with
    | some os => (match k os with
      | some ds => .ok (ds, q.2)
      | none => .stuck)
    | none => .stuck) := q
  cases e : goAll ops env with
  | ok r1 =>
    obtain ⟨xs, env1⟩ := r1
    rw [e] at q1
    intro vs s1 fr g rt
    have q2 : FinI C W Rj ⟨σ, F, H, fp⟩ (match finAll ops xs env1 with
      | some os => (match k os with
        | some ds => .ok (ds, env1)
        | none => .stuck)
      | none => .stuck) := q1
    cases e1 : finAll ops xs env1 with
    | none =>
      rw [e1] at q2
      exact False.elim q2
    | some os =>
      rw [e1] at q2
      have q3 : FinI C W Rj ⟨σ, F, H, fp⟩ (match k os with
        | some ds => .ok (ds, env1)
        | none => .stuck) := q2
      cases e2 : k os with
      | none =>
        rw [e2] at q3
        exact False.elim q3
      | some ds =>
        rw [e2] at q3
        refine hr s1.F s1.H vs os ds g.st.ex (fin_rep g.st ok rt g.nf e1) e2 fun F' J m w => ?_
        exact q3 ⟨s1.σ, F', s1.H, s1.fp⟩ J (g.made m) w
  | err c ns ds env1 =>
    rw [e] at q1
    exact q1
  | stuck =>
    rw [e] at q1
    exact q1
def rngD (lo : Int) (n : Nat) : List D := (List.range n).map fun (k : Nat) => D.int (lo + (k : Int))
def intO : O → Option Int
  | .fro (.int i) => some i
  | _ => none
theorem int_of {B : Base} {F H : Hp} {v : V} {o : O} {fp : List Addr} {i : Int} (r : RepO B F H v o fp) (e : intO o = some i) : v = .int i := by
  cases r with
  | fro r =>
    cases r with
    | int j =>
      have z : j = i := Option.some.inj e
      rw [z]
    | _ => cases e
  | own h r => cases e
  | tree h r => cases e
def big62 (i : Int) : Bool := decide (-(2 ^ 62) ≤ i ∧ i < 2 ^ 62)
def kRange1 : List O → Option (List D)
  | [x] => match intO x with
    | some j => if big62 j = true then some (rngD 0 j.toNat) else none
    | none => none
  | _ => none
def kRange2 : List O → Option (List D)
  | [x, y] => match intO x, intO y with
    | some i, some j => if (big62 i && big62 j) = true then some (rngD i (j - i).toNat) else none
    | _, _ => none
  | _ => none
theorem allRep1 {B : Base} {F H : Hp} {vs : List V} {x : O} (h : AllRep B F H vs [x]) : ∃ v fp, vs = [v] ∧ RepO B F H v x fp ∧ ∀ p ∈ fp, F p = none := by
  cases h with
  | cons h1 h2 =>
    cases h2
    obtain ⟨fp, r, nf⟩ := h1
    exact ⟨_, fp, rfl, r, nf⟩
theorem allRep2 {B : Base} {F H : Hp} {vs : List V} {x y : O} (h : AllRep B F H vs [x, y]) : ∃ v w fp fq, vs = [v, w] ∧ RepO B F H v x fp ∧ RepO B F H w y fq ∧ (∀ p ∈ fp, F p = none) ∧ ∀ p ∈ fq, F p = none := by
  cases h with
  | cons h1 h2 =>
    obtain ⟨fp, r, nf⟩ := h1
    obtain ⟨w, fq, e, r2, nf2⟩ := allRep1 h2
    exact ⟨_, w, fp, fq, by rw [e], r, r2, nf, nf2⟩
theorem allRep3 {B : Base} {F H : Hp} {vs : List V} {x y z : O} (h : AllRep B F H vs [x, y, z]) : ∃ v w u fp fq fr, vs = [v, w, u] ∧ RepO B F H v x fp ∧ RepO B F H w y fq ∧ RepO B F H u z fr ∧ (∀ p ∈ fp, F p = none) ∧ (∀ p ∈ fq, F p = none) ∧ ∀ p ∈ fr, F p = none := by
  cases h with
  | cons h1 h2 =>
    obtain ⟨fp, r, nf⟩ := h1
    obtain ⟨w, u, fq, fr, e, r2, r3, nf2, nf3⟩ := allRep2 h2
    exact ⟨_, w, u, fp, fq, fr, by rw [e], r, r2, r3, nf, nf2, nf3⟩
theorem i_range1 {tg : Expr} {oa : Opd} {p : Pos} (hg : Gl X "range") (hm : X.mg "range" = none) (ha : COpd X C W a oa) (hs : starEach [a] X.env = [(false, eval a X.env)] := by rfl) : PI X tg (.Call (.Name "range" p) [a] [] pos) (tiOf C W (iApp kRange1 [oa])) :=
  PI_to (pi_range1 hg hm (pa_cons ha.1 pa_nil hs) hs) fun σ H Rj q => iApp_of (r := fun vs H R => ∃ j : Int, vs = [.int j] ∧ -(2 ^ 62) ≤ j ∧ j < 2 ^ 62 ∧ R (Itr 0 j.toNat) H) [oa] (ok1 ha) (fun F H vs os ds ex ar e k => by
    unfold kRange1 at e
    split at e
    · rename_i x
      obtain ⟨v, fp, rfl, r, nf⟩ := allRep1 ar
      split at e
      · rename_i j ej
        have ev := int_of r ej
        subst ev
        split at e
        · rename_i hb
          have hb := of_decide_eq_true hb
          have ed := Option.some.inj e
          refine ⟨j, rfl, hb.1, hb.2, k F _ (.refl ex) ?_⟩
          rw [← ed]
          exact walk_rng 0 j.toNat
        · cases e
      · cases e
    · cases e) q
theorem i_range2 {tg : Expr} {oa ob : Opd} {p : Pos} (hg : Gl X "range") (hm : X.mg "range" = none) (ha : COpd X C W a oa) (hb : COpd X C W b ob) (hs : starEach [a, b] X.env = [(false, eval a X.env), (false, eval b X.env)] := by rfl) (hs2 : starEach [b] X.env = [(false, eval b X.env)] := by rfl) :
    PI X tg (.Call (.Name "range" p) [a, b] [] pos) (tiOf C W (iApp kRange2 [oa, ob])) :=
  PI_to (pi_range2 hg hm (pa_cons ha.1 (pa_cons hb.1 pa_nil hs2) (hs.trans (by rw [hs2]))) hs hs2) fun σ H Rj q => iApp_of (r := fun vs H R => ∃ i j : Int, vs = [.int i, .int j] ∧ (-(2 ^ 62) ≤ i ∧ i < 2 ^ 62 ∧ -(2 ^ 62) ≤ j ∧ j < 2 ^ 62) ∧ R (Itr i (j - i).toNat) H) [oa, ob] (ok2 ha hb) (fun F H vs os ds ex ar e k => by
    unfold kRange2 at e
    split at e
    · rename_i x y
      obtain ⟨v, w, fp, fq, rfl, r, r2, nf, nf2⟩ := allRep2 ar
      split at e
      · rename_i i j ei ej
        have ev := int_of r ei
        have ew := int_of r2 ej
        subst ev
        subst ew
        split at e
        · rename_i hb
          obtain ⟨hb1, hb2⟩ := Bool.and_eq_true_iff.mp hb
          have hb1 := of_decide_eq_true hb1
          have hb2 := of_decide_eq_true hb2
          have ed := Option.some.inj e
          refine ⟨i, j, rfl, ⟨hb1.1, hb1.2, hb2.1, hb2.2⟩, k F _ (.refl ex) ?_⟩
          rw [← ed]
          exact walk_rng i (j - i).toNat
        · cases e
      · cases e
    · cases e) q
/-! ### targets -/
abbrev GS := D → Env → R Env
def setN (i : Nat) : GS := fun d env => .ok (env.set i (some (.fro d)))
def setMany : List Nat → List D → Env → R Env
  | [], [], env => .ok env
  | i :: is, d :: ds, env => setMany is ds (env.set i (some (.fro d)))
  | _, _, _ => .stuck
def setT (is : List Nat) : GS := fun d env => match d with
  | .node .tup ds => setMany is ds env
  | _ => .stuck
/-- the target stores into its slots, and all else is as it was -/
def CG (C : Ctx) (is : List Nat) (g : TG) (k : GS) : Prop := ∀ (v : V) (s : S0) (env env' : Env) (d : D) (Q : L2.St → Hp → Prop), St C s env → RepD C.B s.F v d → k d env = .ok env' →
  (∀ s1 : S0, Step C s s1 → St C s1 env' → s1.H = s.H → s1.F = s.F → (∀ j, j ∉ is → s1.σ[j]? = s.σ[j]?) → Q s1.σ s1.H) → g v s.σ s.H Q
theorem cg_name {i : Nat} (hi : i < C.n := by exact of_decide_eq_true rfl) (hk : i ∉ C.ks := by exact of_decide_eq_true rfl) : CG C [i] (gName i) (setN i) := fun v s env env' d Q st r e q => by
  obtain ⟨fp, x, y⟩ := St.store hi hk st.got (.fro (H := s.H) r)
  have ee : env.set i (some (.fro d)) = env' := by
    have z : R.ok (env.set i (some (.fro d))) = R.ok env' := e
    injection z
  rw [ee] at y
  exact q ⟨s.σ.set i (some v), s.F, s.H, fp⟩ x y rfl rfl fun j hj => List.getElem?_set_ne fun z => hj (by rw [z]; exact List.mem_singleton.mpr rfl)
/-- the names of a tuple, from the left -/
def gNames : List Nat → TGs
  | [] => gNil
  | i :: is => gCons (gName i) (gNames is)
theorem cgs_names : ∀ (is : List Nat), (∀ i ∈ is, i < C.n ∧ i ∉ C.ks) → ∀ (vs : List V) (ds : List D) (s : S0) (env env' : Env) (Q : L2.St → Hp → Prop), St C s env → RepDs C.B s.F vs ds → setMany is ds env = .ok env' →
    (∀ s1 : S0, Step C s s1 → St C s1 env' → s1.H = s.H → s1.F = s.F → (∀ j, j ∉ is → s1.σ[j]? = s.σ[j]?) → Q s1.σ s1.H) → gNames is vs s.σ s.H Q
  | [], _, _, [], s, env, env', Q, st, .nil, e, q => by
    have ee : env = env' := by
      have z : R.ok env = R.ok env' := e
      injection z
    rw [ee] at st
    exact ⟨rfl, q s (.refl s) st rfl rfl fun _ _ => rfl⟩
  | [], _, _, _ :: _, _, _, _, _, _, _, e, _ => by cases e
  | _ :: _, _, _, [], _, _, _, _, _, _, e, _ => by cases e
  | i :: is, ok, _, d :: ds, s, env, env', Q, st, .cons r rs, e, q => by
    obtain ⟨h1, h2⟩ := ok i (List.mem_cons_self ..)
    refine ⟨_, _, rfl, ?_⟩
    refine cg_name h1 h2 _ s env _ d _ st r rfl fun s1 x y eh ef ej => ?_
    refine cgs_names is (fun j hj => ok j (List.mem_cons_of_mem _ hj)) _ ds s1 _ env' Q y (by rw [ef]; exact rs) e fun s2 x2 y2 eh2 ef2 ej2 => ?_
    exact q s2 (x.trans x2) y2 (eh2.trans eh) (ef2.trans ef) fun j hj => (ej2 j fun z => hj (List.mem_cons_of_mem _ z)).trans (ej j fun z => hj (List.mem_singleton.mp z ▸ List.mem_cons_self ..))
theorem cg_tup {is : List Nat} (ok : ∀ i ∈ is, i < C.n ∧ i ∉ C.ks := by exact of_decide_eq_true rfl) : CG C is (gTup C.B.K is.length (gNames is)) (setT is) := fun v s env env' d Q st r e q => by
  unfold setT at e
  cases d with
  | node t ds =>
    cases t with
    | tup =>
      have e : setMany is ds env = .ok env' := e
      cases r with
      | node hs rs =>
        have len : ∀ (is : List Nat) (ds : List D) (env : Env), setMany is ds env = .ok env' → ds.length = is.length := by
          intro is
          induction is with
          | nil =>
            intro ds env e
            cases ds with
            | nil => rfl
            | cons d ds => cases e
          | cons i is ih =>
            intro ds env e
            cases ds with
            | nil => cases e
            | cons d ds => exact congrArg (· + 1) (ih ds _ e)
        exact ⟨_, _, rfl, Evl.ex_t st.ex hs, rs.len.trans (len is ds env e), cgs_names is ok _ ds s env env' Q st rs e q⟩
    | _ => cases e
  | _ => cases e
/-! ### for -/
def loopD (k : GS) (u : SS) : List D → SS
  | [], env => .ok (.nx, env)
  | d :: ds, env => (k d env).bind fun env1 => (u env1).bind fun r => match r.1 with
    | .nx => loopD k u ds r.2
    | .ct => loopD k u ds r.2
    | .bk => .ok (.nx, r.2)
    | .rt o => .ok (.rt o, r.2)
def sFor (it : IS) (k : GS) (u : SS) : SS := fun env => (it env).bind fun r => loopD k u r.1 r.2
theorem Step.same (x : Step C s s1) (eH : s1.H = s.H) : True := trivial
theorem Got.stepOf {fr : List Addr} (g : Got C s s1 env fr) : Step C s s1 := (g.drop (fr1 := []) (List.nil_sublist _)).step0
theorem for_of {it : IS} {gt : TG} {k : GS} {D0 : Ends} {σ : L2.St} {H : Hp} {is : List Nat} (hg : CG C is gt k) (nob : ∀ d env c ns ds env', k d env ≠ .err c ns ds env') (h : tsOf C W (sFor it k u) D0 σ H) : tFor (tiOf C W it) gt (tsOf C W u) D0 σ H := by
  obtain ⟨F, fp, env, st, q⟩ := h
  refine ⟨F, fp, env, st, ?_⟩
  have q1 : FinS C W D0 ⟨σ, F, H, fp⟩ ((it env).bind fun r => loopD k u r.1 r.2) := q
  cases e : it env with
  | ok r =>
    obtain ⟨ds, env1⟩ := r
    rw [e] at q1
    have q2 : FinS C W D0 ⟨σ, F, H, fp⟩ (loopD k u ds env1) := q1
    intro s1 J g wk
    have q3 := q2.later g.step0
    have es : s1.σ = σ := g.sl
    -- what holds ahead of turn i
    refine ⟨fun i m σ' H' => m = ds.length - i ∧ i ≤ ds.length ∧ ∃ F' fp' env', Step C s1 ⟨σ', F', H', fp'⟩ ∧ St C ⟨σ', F', H', fp'⟩ env' ∧ FinS C W D0 s1 (loopD k u (ds.drop i) env'), ⟨ds.length, by simp, Nat.zero_le _, s1.F, s1.fp, env1, by rw [← es]; exact .refl s1, by rw [← es]; exact g.st, q3⟩, ?_⟩
    rintro i m σ' H' ⟨rfl, hi, F', fp', env', x, y, q4⟩
    have w := wk F' H' x.exF y.ex
    by_cases hlt : i < ds.length
    · obtain ⟨w1, w2⟩ := w.1 i ds[i] (List.getElem?_eq_getElem hlt)
      rw [List.drop_eq_getElem_cons hlt] at q4
      refine .inr ⟨w1, fun σ3 H3 => i + 1 ≤ ds.length ∧ ∃ F' fp' env', Step C s1 ⟨σ3, F', H3, fp'⟩ ∧ St C ⟨σ3, F', H3, fp'⟩ env' ∧ FinS C W D0 s1 (loopD k u (ds.drop (i + 1)) env'), fun σ3 H3 z => ⟨ds.length - (i + 1), by omega, rfl, z⟩, fun xv H3 hy => ?_⟩
      obtain ⟨F3, mk, rv⟩ := w2 xv H3 hy
      have q5 : FinS C W D0 s1 ((k ds[i] env').bind fun env1 => (u env1).bind fun r => match r.1 with
        | .nx => loopD k u (ds.drop (i + 1)) r.2
        | .ct => loopD k u (ds.drop (i + 1)) r.2
        | .bk => .ok (.nx, r.2)
        | .rt o => .ok (.rt o, r.2)) := q4
      cases e3 : k ds[i] env' with
      | ok env3 =>
        rw [e3] at q5
        have x3 : Step C s1 ⟨σ', F3, H3, fp'⟩ := x.trans ((St.got y).made (fr := []) mk).stepOf
        refine hg xv ⟨σ', F3, H3, fp'⟩ env' env3 ds[i] _ ((St.got y).made (fr := []) mk).st rv e3 fun s4 x4 y4 eh ef _ => ?_
        have x5 := x3.trans x4
        refine ⟨s4.F, s4.fp, env3, y4, ?_⟩
        have q6 := q5.later x5
        have q7 : FinS C W D0 s4 ((u env3).bind fun r => match r.1 with
          | .nx => loopD k u (ds.drop (i + 1)) r.2
          | .ct => loopD k u (ds.drop (i + 1)) r.2
          | .bk => .ok (.nx, r.2)
          | .rt o => .ok (.rt o, r.2)) := q6
        have q8 : FinS C W D0 s1 ((u env3).bind fun r => match r.1 with
          | .nx => loopD k u (ds.drop (i + 1)) r.2
          | .ct => loopD k u (ds.drop (i + 1)) r.2
          | .bk => .ok (.nx, r.2)
          | .rt o => .ok (.rt o, r.2)) := q5
        cases e4 : u env3 with
        | ok r =>
          obtain ⟨fl, env4⟩ := r
          rw [e4] at q7 q8
          cases fl with
          | nx => exact fun s5 x6 y6 => ⟨hlt, s5.F, s5.fp, env4, x5.trans x6, y6, q8⟩
          | ct => exact fun s5 x6 y6 => ⟨hlt, s5.F, s5.fp, env4, x5.trans x6, y6, q8⟩
          | bk => exact q7
          | rt o => exact q7
        | err c ns ds env4 =>
          rw [e4] at q7
          exact q7
        | stuck =>
          rw [e4] at q7
          exact q7
      | err c ns ds2 env3 => exact absurd e3 (nob _ _ _ _ _ _)
      | stuck =>
        rw [e3] at q5
        exact False.elim q5
    · have ei : i = ds.length := by omega
      refine .inl ⟨by rw [ei]; exact w.2, ?_⟩
      rw [ei, List.drop_length] at q4
      exact q4 ⟨σ', F', H', fp'⟩ x y
  | err c ns ds env1 =>
    rw [e] at q1
    exact q1
  | stuck =>
    rw [e] at q1
    exact q1
theorem setN_ok {i : Nat} : ∀ d env c ns ds env', setN i d env ≠ .err c ns ds env' := fun _ _ _ _ _ _ z => nomatch z
theorem setMany_ok : ∀ (is : List Nat) (ds : List D) (env : Env) c ns ds2 env', setMany is ds env ≠ .err c ns ds2 env'
  | [], [], _, _, _, _, _, z => nomatch z
  | [], _ :: _, _, _, _, _, _, z => nomatch z
  | _ :: _, [], _, _, _, _, _, z => nomatch z
  | i :: is, d :: ds, env, c, ns, ds2, env', z => setMany_ok is ds _ c ns ds2 env' z
theorem setT_ok {is : List Nat} : ∀ d env c ns ds env', setT is d env ≠ .err c ns ds env' := fun d env c ns ds2 env' z => by
  cases d with
  | node t ds =>
    cases t with
    | tup => exact setMany_ok is ds env c ns ds2 env' z
    | _ => cases z
  | _ => cases z
theorem k_for {tg iter : Expr} {body : List Stmt} {it : IS} {gt : TG} {k : GS} {is : List Nat} (hp : PassesOwn (model X.prog X.w) X.A X.env X.xe) (hc : X.calm = true) (hi : PI X tg iter (tiOf C W it)) (hpg : PG X tg gt) (hg : CG C is gt k) (nob : ∀ d env c ns ds env', k d env ≠ .err c ns ds env')
    (hb : PSs X body (tsOf C W u)) (hs : ∀ x, foldedSetIterable iter X.env x = pure x := by intro _; rfl) : PS X (.For tg iter body [] pos) (tsOf C W (sFor it k u)) :=
  PS_to (ps_for hp hc hi hpg hb hs) fun D σ H h => for_of hg nob h
end
end DL
end

section
set_option Elab.async false
set_option linter.all false
set_option maxRecDepth 100000
set_option maxHeartbeats 1000000
namespace DL
open PySem PySem.Spec PyProof.Rows L2
section
variable {X : Cx} {C : Ctx} {W : WX} {s s1 : S0} {env : Env} {e a b c : Expr} {pos : Pos} {f g : ES} {t : BS} {u v : SS} {st : Stmt} {sts : List Stmt}
/-! ### while -/
def loopW (t : BS) (u : SS) : Nat → SS
  | 0, _ => .stuck
  | n + 1, env => (t env).bind fun r => if r.1 = true then (u r.2).bind fun q => match q.1 with
      | .nx => loopW t u n q.2
      | .ct => loopW t u n q.2
      | .bk => .ok (.nx, q.2)
      | .rt o => .ok (.rt o, q.2)
    else .ok (.nx, r.2)
open Classical in
noncomputable def sWhile (t : BS) (u : SS) : SS := fun env => if h : ∃ n, loopW t u n env ≠ .stuck then loopW t u (Classical.choose h) env else .stuck
theorem loopW_mono : ∀ (n : Nat) (env : Env), loopW t u n env ≠ .stuck → ∀ m, n ≤ m → loopW t u m env = loopW t u n env
  | 0, env, h, m, _ => absurd rfl h
  | n + 1, env, h, 0, hm => by omega
  | n + 1, env, h, m + 1, hm => by
    unfold loopW at h ⊢
    cases e : t env with
    | ok r =>
      obtain ⟨b, env1⟩ := r
      rw [e] at h
      cases b with
      | false => rfl
      | true =>
        have h1 : ((u env1).bind fun q => match q.1 with
          | .nx => loopW t u n q.2
          | .ct => loopW t u n q.2
          | .bk => .ok (.nx, q.2)
          | .rt o => .ok (.rt o, q.2)) ≠ R.stuck := h
        show ((u env1).bind fun q => match q.1 with
          | .nx => loopW t u m q.2
          | .ct => loopW t u m q.2
          | .bk => .ok (.nx, q.2)
          | .rt o => .ok (.rt o, q.2)) = ((u env1).bind fun q => match q.1 with
          | .nx => loopW t u n q.2
          | .ct => loopW t u n q.2
          | .bk => .ok (.nx, q.2)
          | .rt o => .ok (.rt o, q.2))
        cases e2 : u env1 with
        | ok q =>
          obtain ⟨fl, env2⟩ := q
          rw [e2] at h1
          cases fl with
          | nx => exact loopW_mono n env2 h1 m (by omega)
          | ct => exact loopW_mono n env2 h1 m (by omega)
          | bk => rfl
          | rt o => rfl
        | err c ns ds env2 => rfl
        | stuck => rfl
    | err c ns ds env1 => rfl
    | stuck => rfl
theorem sWhile_eq {n : Nat} (h : loopW t u n env ≠ .stuck) : sWhile t u env = loopW t u n env := by
  have hx : ∃ n, loopW t u n env ≠ .stuck := ⟨n, h⟩
  unfold sWhile
  rw [dif_pos hx]
  have h2 := Classical.choose_spec hx
  rcases Nat.le_total n (Classical.choose hx) with z | z
  · exact loopW_mono n env h _ z
  · exact (loopW_mono _ env h2 n z).symm
theorem while_of {D0 : Ends} {σ : L2.St} {H : Hp} (h : tsOf C W (sWhile t u) D0 σ H) : tWhile (tbOf C W t) (tsOf C W u) D0 σ H := by
  obtain ⟨F, fp, env, st, q⟩ := h
  unfold sWhile at q
  by_cases hx : ∃ n, loopW t u n env ≠ .stuck
  · rw [dif_pos hx] at q
    generalize Classical.choose hx = n0 at q
    refine ⟨fun m σ' H' => ∃ F' fp' env', Step C ⟨σ, F, H, fp⟩ ⟨σ', F', H', fp'⟩ ∧ St C ⟨σ', F', H', fp'⟩ env' ∧ FinS C W D0 ⟨σ, F, H, fp⟩ (loopW t u m env'), ⟨n0, F, fp, env, .refl _, st, q⟩, ?_⟩
    rintro m σ' H' ⟨F', fp', env', x, y, q1⟩
    cases m with
    | zero => exact False.elim q1
    | succ m =>
      refine ⟨F', fp', env', y, ?_⟩
      have q2 : FinS C W D0 ⟨σ, F, H, fp⟩ ((t env').bind fun r => if r.1 = true then (u r.2).bind fun q => match q.1 with
          | .nx => loopW t u m q.2
          | .ct => loopW t u m q.2
          | .bk => .ok (.nx, q.2)
          | .rt o => .ok (.rt o, q.2)
        else .ok (.nx, r.2)) := q1
      have q2' := q2.later x
      cases e : t env' with
      | ok r =>
        obtain ⟨b, env1⟩ := r
        rw [e] at q2 q2'
        intro s1 g
        have es : s1.σ = σ' := g.sl
        cases b with
        | true =>
          have q3 : FinS C W D0 ⟨σ, F, H, fp⟩ ((u env1).bind fun q => match q.1 with
            | .nx => loopW t u m q.2
            | .ct => loopW t u m q.2
            | .bk => .ok (.nx, q.2)
            | .rt o => .ok (.rt o, q.2)) := q2
          have x1 := x.trans g.step0
          have q3' := q3.later x1
          refine iteT ⟨fun σ2 H2 => ∃ F' fp' env', Step C ⟨σ, F, H, fp⟩ ⟨σ2, F', H2, fp'⟩ ∧ St C ⟨σ2, F', H2, fp'⟩ env' ∧ FinS C W D0 ⟨σ, F, H, fp⟩ (loopW t u m env'), fun σ2 H2 z => ⟨m, Nat.lt_succ_self _, z⟩, ?_⟩
          rw [← es]
          refine ⟨s1.F, s1.fp, env1, g.st, ?_⟩
          cases e2 : u env1 with
          | ok r =>
            obtain ⟨fl, env2⟩ := r
            rw [e2] at q3 q3'
            cases fl with
            | nx => exact fun s2 x2 y2 => ⟨s2.F, s2.fp, env2, x1.trans x2, y2, q3⟩
            | ct => exact fun s2 x2 y2 => ⟨s2.F, s2.fp, env2, x1.trans x2, y2, q3⟩
            | bk => exact q3'
            | rt o => exact q3'
          | err c ns ds env2 =>
            rw [e2] at q3'
            exact q3'
          | stuck =>
            rw [e2] at q3'
            exact q3'
        | false =>
          refine iteF ?_
          have q3 : FinS C W D0 ⟨σ', F', H', fp'⟩ (.ok (.nx, env1)) := q2'
          rw [← es]
          exact q3 s1 g.step0 g.st
      | err c ns ds env1 =>
        rw [e] at q2'
        exact q2'
      | stuck =>
        rw [e] at q2'
        exact q2'
  · rw [dif_neg hx] at q
    exact False.elim q
theorem k_while {body : List Stmt} (hp : PassesOwn (model X.prog X.w) X.A X.env X.xe) (hc : PT X c (tbOf C W t)) (hb : PSs X body (tsOf C W u)) : PS X (.While c body [] pos) (tsOf C W (sWhile t u)) :=
  PS_to (ps_while hp hc hb) fun D σ H h => while_of h
/-! ### comprehensions -/
def wipeE (env : Env) : List Nat → Env
  | [] => env
  | i :: is => (wipeE env is).set i none
/-- the outer names of the same spelling come back, if they hold data -/
def backE (env0 env : Env) : List Nat → Env
  | [] => env
  | i :: is => (backE env0 env is).set i (match getO env0 i with
    | some (.fro d) => some (.fro d)
    | _ => none)
/-- nothing may be raised here -/
def R.noX {α : Type} : R α → R α
  | .ok a => .ok a
  | _ => .stuck
def lcLoop (k : GS) (t : BS) (f : ES) (own : List Nat) : List D → List D → Env → R (List D × Env)
  | [], acc, env => .ok (acc, env)
  | d :: ds, acc, env => (k d env).noX.bind fun e1 => (t e1).noX.bind fun r => if r.1 = true then (f r.2).noX.bind fun q => if acc.length < 100000 then lcLoop k t f own ds (acc ++ [q.1.frz]) (wipeE q.2 own) else .stuck
    else lcLoop k t f own ds acc (wipeE r.2 own)
def eLc (it : IS) (k : GS) (t : BS) (f : ES) (own : List Nat) : ES := fun env => (it env).bind fun r => (lcLoop k t f own r.1 [] (wipeE r.2 own)).bind fun q => .ok (.own .lst q.1, backE r.2 q.2 own)
def bYes : BS := fun env => .ok (true, env)
/-- a comprehension's block -/
def Ctx.blk (C : Ctx) : Ctx := ⟨C.B, C.n, [], none, C.xs, fun _ _ h => nomatch h⟩
def WF : WX := fun _ _ _ _ => False
/-- forgetting slots -/
theorem St.wipe1 {i : Nat} (h : St C s env) (hi : i < C.n) (hx : ∀ j a, C.xe = some (j, a) → i ≠ j) : ∃ fp, (∀ p ∈ fp, p ∈ s.fp) ∧ St C ⟨s.σ.set i none, s.F, s.H, fp⟩ (env.set i none) := by
  have hl : i < env.length := by
    have z := h.rep.len
    rw [List.length_append, h.len] at z
    omega
  obtain ⟨w, fa, fq, fb, h1, h2, h3, k⟩ := h.any hi (List.getElem?_eq_getElem hl)
  have nd := h.nd
  rw [h2] at nd
  have mem : ∀ p ∈ fa ++ [] ++ fb, p ∈ s.fp := fun p hp => by
    rw [h2]
    simp only [List.mem_append] at *
    grind
  refine ⟨fa ++ [] ++ fb, mem, ⟨h.ex, k _ _ none none [] (Evl.Ex.refl _) (fun _ _ => rfl) rfl, ?_, fun p hp => h.nf p (mem p hp), ?_, fun j a hj => ?_⟩⟩
  · show (fa ++ [] ++ fb).Nodup
    rw [List.append_nil]
    exact nodup_sub nd
  · show (s.σ.set i none).length = C.n
    rw [List.length_set, h.len]
  · show (s.σ.set i none)[j]? = _
    rw [List.getElem?_set_ne (hx j a hj), h.xe j a hj]
theorem St.wipes (hx : C.xe = none) : ∀ (is : List Nat), (∀ i ∈ is, i < C.n) → ∀ {s : S0} {env : Env}, St C s env → ∃ fp, (∀ p ∈ fp, p ∈ s.fp) ∧ St C ⟨wipe s.σ is, s.F, s.H, fp⟩ (wipeE env is)
  | [], _, s, env, h => ⟨s.fp, fun _ h => h, h⟩
  | i :: is, ok, s, env, h => by
    obtain ⟨fp, h1, h2⟩ := St.wipes hx is (fun j hj => ok j (List.mem_cons_of_mem _ hj)) h
    obtain ⟨fq, h3, h4⟩ := h2.wipe1 (ok i (List.mem_cons_self ..)) (fun j a hj => by
      rw [hx] at hj
      cases hj)
    exact ⟨fq, fun p hp => h1 p (h3 p hp), h4⟩
theorem wipe_get (σ : L2.St) : ∀ (is : List Nat) (j : Nat), j ∉ is → (wipe σ is)[j]? = σ[j]?
  | [], j, _ => rfl
  | i :: is, j, h => by
    show ((wipe σ is).set i none)[j]? = _
    rw [List.getElem?_set_ne (fun z : i = j => h (by rw [z]; exact List.mem_cons_self ..))]
    exact wipe_get σ is j fun z => h (List.mem_cons_of_mem _ z)
theorem wipe_in (σ : L2.St) : ∀ (is : List Nat) (j : Nat), j ∈ is → j < σ.length → (wipe σ is)[j]? = some none
  | i :: is, j, h, hl => by
    show ((wipe σ is).set i none)[j]? = _
    by_cases z : i = j
    · subst z
      rw [List.getElem?_set_self (by rw [wipe_length]; exact hl)]
    · rw [List.getElem?_set_ne z]
      exact wipe_in σ is j ((List.mem_cons.mp h).resolve_left (Ne.symm z)) hl
theorem wipe_eq {σ σ' : L2.St} {is : List Nat} (hl : σ.length = σ'.length) (h : ∀ j, j ∉ is → σ[j]? = σ'[j]?) : wipe σ is = wipe σ' is := by
  apply List.ext_getElem?
  intro j
  by_cases hj : j ∈ is
  · by_cases z : j < σ.length
    · rw [wipe_in σ is j hj z, wipe_in σ' is j hj (by omega)]
    · rw [List.getElem?_eq_none (by rw [wipe_length]; omega), List.getElem?_eq_none (by rw [wipe_length]; omega)]
  · rw [wipe_get σ is j hj, wipe_get σ' is j hj, h j hj]
theorem wipeE_in (env : Env) : ∀ (is : List Nat) (j : Nat), j ∈ is → j < env.length → (wipeE env is)[j]? = some none
  | i :: is, j, h, hl => by
    have len : ∀ is : List Nat, (wipeE env is).length = env.length := fun is => by
      induction is with
      | nil => rfl
      | cons i is ih =>
        show ((wipeE env is).set i none).length = _
        rw [List.length_set, ih]
    show ((wipeE env is).set i none)[j]? = _
    by_cases z : i = j
    · subst z
      rw [List.getElem?_set_self (by rw [len]; exact hl)]
    · rw [List.getElem?_set_ne z]
      exact wipeE_in env is j ((List.mem_cons.mp h).resolve_left (Ne.symm z)) hl
/-- an empty slot is filled with data -/
theorem RepE.fill {B : Base} {F H : Hp} {σ : List (Option V)} {env : Env} {fp : List Addr} (r : RepE B F H σ env fp) {i : Nat} (h : env[i]? = some none) {w : Option V} {o : Option O} (q : RepS B F H w o []) : RepE B F H (σ.set i w) (env.set i o) fp := by
  obtain ⟨w0, fa, fq, fb, h1, h2, h3, k⟩ := r.at i none h
  have e : fq = [] := h3
  subst e
  have z := k F H w o [] (Evl.Ex.refl _) (fun _ _ => rfl) q
  rw [← h2] at z
  exact z
theorem backE_get (env0 env : Env) : ∀ (is : List Nat) (j : Nat), j ∉ is → (backE env0 env is)[j]? = env[j]?
  | [], j, _ => rfl
  | i :: is, j, h => by
    show ((backE env0 env is).set i _)[j]? = _
    rw [List.getElem?_set_ne (fun z : i = j => h (by rw [z]; exact List.mem_cons_self ..))]
    exact backE_get env0 env is j fun z => h (List.mem_cons_of_mem _ z)
theorem RepE.backs {B : Base} {F H : Hp} {xs : List (Option V)} {env0 env : Env} {fp : List Addr} {σ : L2.St} (h0 : ∀ i d, i < σ.length → getO env0 i = some (.fro d) → ∃ v, σ[i]? = some (some v) ∧ RepD B F v d) :
    ∀ (is : List Nat), is.Nodup → (∀ i ∈ is, i < σ.length ∧ env[i]? = some none) → RepE B F H (wipe σ is ++ xs) env fp → RepE B F H (σ ++ xs) (backE env0 env is) fp
  | [], _, _, r => r
  | i :: is, nd, ok, r => by
    obtain ⟨hl, hn⟩ := ok i (List.mem_cons_self ..)
    obtain ⟨n1, n2⟩ := List.nodup_cons.mp nd
    have r1 : RepE B F H (((wipe σ is).set i none) ++ xs) env fp := r
    have hlw : i < (wipe σ is).length := by
      rw [wipe_length]
      exact hl
    have r2 : RepE B F H (wipe σ is ++ xs) env fp := by
      have z := r1.fill (i := i) (w := σ[i]?.getD none) (o := none) hn rfl
      rw [set_self hn, List.set_append_left _ _ (by rw [List.length_set]; exact hlw), List.set_set, set_self (by
        rw [wipe_get σ is i n1, List.getElem?_eq_getElem hl]
        rfl)] at z
      exact z
    have r3 := RepE.backs h0 is n2 (fun j hj => ok j (List.mem_cons_of_mem _ hj)) r2
    have hn3 : (backE env0 env is)[i]? = some none := by
      rw [backE_get env0 env is i n1]
      exact hn
    show RepE B F H (σ ++ xs) ((backE env0 env is).set i _) fp
    cases e : getO env0 i with
    | none =>
      show RepE B F H (σ ++ xs) ((backE env0 env is).set i none) fp
      rw [set_self hn3]
      exact r3
    | some o =>
      cases o with
      | fro d =>
        obtain ⟨v, h1, h2⟩ := h0 i d hl e
        have z := r3.fill (w := some v) (o := some (.fro d)) hn3 ⟨v, rfl, .fro h2⟩
        rw [set_self (by rw [List.getElem?_append_left hl]; exact h1)] at z
        exact z
      | own t ds =>
        show RepE B F H (σ ++ xs) ((backE env0 env is).set i none) fp
        rw [set_self hn3]
        exact r3
      | tree t os =>
        show RepE B F H (σ ++ xs) ((backE env0 env is).set i none) fp
        rw [set_self hn3]
        exact r3
/-- one thing beside stays -/
theorem Step.beside {C : Ctx} {s s1 : S0} (x : Step C s s1) {a : Addr} {o : HO} (h : s.H a = some o) (hf : s.F a = none) (hn : a ∉ s.fp) : s1.H a = some o ∧ s1.F a = none ∧ a ∉ s1.fp :=
  ⟨x.keep a o h hn, x.nof a o h hf hn, fun z => by
    rcases x.new a z with q | q
    · exact hn q
    · rw [h] at q
      cases q⟩
theorem RepDs.snoc {B : Base} {F : Hp} : ∀ {vs : List V} {ds : List D} {v : V} {d : D}, RepDs B F vs ds → RepD B F v d → RepDs B F (vs ++ [v]) (ds ++ [d])
  | _, _, _, _, .nil, h => .cons h .nil
  | _, _, _, _, .cons r rs, h => .cons r (rs.snoc h)
theorem noX_ok {α : Type} {r : R α} {a : α} (h : r.noX = .ok a) : r = .ok a := by
  cases r with
  | ok b => exact h
  | err _ _ _ _ => cases h
  | stuck => cases h
theorem noX_bind {α β : Type} {r : R α} {k : α → R β} {s : S0} {C : Ctx} {P : R β → Prop} (h : P (r.noX.bind k)) (hs : ¬ P .stuck) : ∃ a, r = .ok a ∧ P (k a) := by
  cases r with
  | ok a => exact ⟨a, rfl, h⟩
  | err _ _ _ _ => exact absurd h hs
  | stuck => exact absurd h hs
theorem lc_of {it : IS} {gt : TG} {k : GS} {tt : TT} {σ : L2.St} {H : Hp} {Q : VK} {own is : List Nat} (hxe : C.xe = none) (hown : own.Nodup) (hlt : ∀ i ∈ own, i < C.n) (hks : ∀ i ∈ own, i ∉ C.ks) (his : ∀ i ∈ is, i ∈ own) (hg : CG C.blk is gt k)
    (htt : ∀ σ H Q, tbOf C.blk WF t σ H Q → tt σ H Q) (h : teOf C W (eLc it k t f own) σ H Q) : tLc (tiOf C W it) gt tt (teOf C.blk WF f) own σ H Q := by
  obtain ⟨F, fp, env, st, q⟩ := h
  refine ⟨F, fp, env, st, ?_⟩
  have q1 : FinE C W Q ⟨σ, F, H, fp⟩ ((it env).bind fun r => (lcLoop k t f own r.1 [] (wipeE r.2 own)).bind fun q => .ok (.own .lst q.1, backE r.2 q.2 own)) := q
  cases e : it env with
  | err c ns ds env1 =>
    rw [e] at q1
    exact q1
  | stuck =>
    rw [e] at q1
    exact q1
  | ok r =>
    obtain ⟨ds, env1⟩ := r
    rw [e] at q1
    have q2 : FinE C W Q ⟨σ, F, H, fp⟩ ((lcLoop k t f own ds [] (wipeE env1 own)).bind fun q => .ok (.own .lst q.1, backE env1 q.2 own)) := q1
    intro s1 J g wk L hL
    have es : s1.σ = σ := g.sl
    have q3 := FinE.later g.step0 g.sl q2
    obtain ⟨sσ, sF, sH, sfp⟩ := s1
    have es : sσ = σ := es
    subst es
    have hL : sH L = none := hL
    have wk : Walks C.B sF J ds := wk
    have lenσ : sσ.length = C.n := g.st.len
    -- the block's state
    have stB : St C.blk ⟨sσ, sF, sH, sfp⟩ env1 := ⟨g.st.ex, g.st.rep, g.st.nd, g.st.nf, g.st.len, fun _ _ h => nomatch h⟩
    obtain ⟨fpA, hA, stA⟩ := St.wipes (C := C.blk) rfl own hlt stB
    have lenE : ∀ {s : S0} {env : Env}, St C.blk s env → ∀ i ∈ own, i < env.length := fun {s env} h i hi => by
      have z := h.rep.len
      rw [List.length_append, h.len] at z
      have z2 := hlt i hi
      have z3 : C.blk.n = C.n := rfl
      omega
    have exL : Ex sH (upd sH L (.lst [])) := Evl.Ex.new hL
    have stA0 : St C.blk ⟨wipe sσ own, sF, upd sH L (.lst []), fpA⟩ (wipeE env1 own) :=
      ⟨stA.ex.trans exL, stA.rep.mono (Evl.Ex.refl _) (fun p hp => by
        obtain ⟨o, ho⟩ := stA.rep.lies p hp
        have ho : sH p = some o := ho
        show upd sH L (.lst []) p = sH p
        rw [ho]
        exact exL p o ho), stA.nd, stA.nf, stA.len, fun _ _ h => nomatch h⟩
    have sFL : sF L = none := by
      rcases none_or (H := sF) L with z | ⟨o, z⟩
      · exact z
      · have z2 : sH L = some o := g.st.ex L o z
        rw [hL] at z2
        cases z2
    have LfpA : L ∉ fpA := fun z => by
      obtain ⟨o, ho⟩ := stA.rep.lies L z
      have ho : sH L = some o := ho
      rw [hL] at ho
      cases ho
    refine ⟨fun i m H' => m = ds.length - i ∧ i ≤ ds.length ∧ ∃ F' fp' env' acc accV, (∃ env2, (∀ j ∈ own, j < env2.length) ∧ env' = wipeE env2 own) ∧ Step C.blk ⟨wipe sσ own, sF, sH, fpA⟩ ⟨wipe sσ own, F', H', fp'⟩ ∧ St C.blk ⟨wipe sσ own, F', H', fp'⟩ env' ∧
        H' L = some (.lst accV) ∧ F' L = none ∧ L ∉ fp' ∧ RepDs C.B F' accV acc ∧ FinE C W Q ⟨sσ, sF, sH, sfp⟩ ((lcLoop k t f own (ds.drop i) acc env').bind fun q => .ok (.own .lst q.1, backE env1 q.2 own)),
      ⟨ds.length, by simp, Nat.zero_le _, sF, fpA, _, [], [], ⟨env1, lenE stB, rfl⟩, ⟨Evl.Ex.refl _, fun a o h _ => exL a o h, fun _ _ _ h _ => h, fun _ h => .inl h, fun _ h => nomatch h⟩, stA0, upd_same, sFL, LfpA, .nil, q3⟩, ?_⟩
    rintro i m H' ⟨rfl, hi, F', fp', env', acc, accV, ⟨env2, hl2, ee⟩, x, y, hL1, hL2, hL3, ra, q4⟩
    have w := wk F' H' x.exF y.ex
    by_cases hlt' : i < ds.length
    · obtain ⟨w1, w2⟩ := w.1 i ds[i] (List.getElem?_eq_getElem hlt')
      rw [List.drop_eq_getElem_cons hlt'] at q4
      refine .inr ⟨w1, fun H3 => i + 1 ≤ ds.length ∧ ∃ F' fp' env' acc accV, (∃ env2, (∀ j ∈ own, j < env2.length) ∧ env' = wipeE env2 own) ∧ Step C.blk ⟨wipe sσ own, sF, sH, fpA⟩ ⟨wipe sσ own, F', H3, fp'⟩ ∧ St C.blk ⟨wipe sσ own, F', H3, fp'⟩ env' ∧
        H3 L = some (.lst accV) ∧ F' L = none ∧ L ∉ fp' ∧ RepDs C.B F' accV acc ∧ FinE C W Q ⟨sσ, sF, sH, sfp⟩ ((lcLoop k t f own (ds.drop (i + 1)) acc env').bind fun q => .ok (.own .lst q.1, backE env1 q.2 own)), fun H3 z => ⟨ds.length - (i + 1), by omega, rfl, z⟩, fun xv H3 hy => ?_⟩
      obtain ⟨F3, mk, rv⟩ := w2 xv H3 hy
      have nst : ¬ FinE C W Q ⟨sσ, sF, sH, sfp⟩ .stuck := fun z => z
      -- the target
      have q5 : FinE C W Q ⟨sσ, sF, sH, sfp⟩ (((k ds[i] env').noX.bind fun e1 => (t e1).noX.bind fun r => if r.1 = true then (f r.2).noX.bind fun q => if acc.length < 100000 then lcLoop k t f own (ds.drop (i + 1)) (acc ++ [q.1.frz]) (wipeE q.2 own) else .stuck
        else lcLoop k t f own (ds.drop (i + 1)) acc (wipeE r.2 own)).bind fun q => .ok (.own .lst q.1, backE env1 q.2 own)) := q4
      cases ek : k ds[i] env' with
      | err c ns dd en =>
        rw [ek] at q5
        exact absurd q5 nst
      | stuck =>
        rw [ek] at q5
        exact absurd q5 nst
      | ok env3 =>
        rw [ek] at q5
        have gm := (St.got y).made (fr := []) mk
        have x3 : Step C.blk _ ⟨wipe sσ own, F3, H3, fp'⟩ := x.trans gm.stepOf
        obtain ⟨b1, b2, b3⟩ := gm.stepOf.beside hL1 hL2 hL3
        refine hg xv ⟨wipe sσ own, F3, H3, fp'⟩ env' env3 ds[i] _ gm.st rv ek fun s4 x4 y4 eh ef ej => ?_
        have wq : wipe s4.σ own = wipe sσ own := wipe_eq (by
          have z := y4.len
          have z2 : C.blk.n = C.n := rfl
          omega) fun j hj => (ej j fun z => hj (his j z)).trans (wipe_get sσ own j hj)
        refine ⟨wq, ?_⟩
        obtain ⟨c1, c2, c3⟩ := x4.beside b1 b2 b3
        have x5 := x3.trans x4
        -- the test
        refine htt _ _ _ ⟨s4.F, s4.fp, env3, y4, ?_⟩
        have q6 : FinE C W Q ⟨sσ, sF, sH, sfp⟩ (((t env3).noX.bind fun r => if r.1 = true then (f r.2).noX.bind fun q => if acc.length < 100000 then lcLoop k t f own (ds.drop (i + 1)) (acc ++ [q.1.frz]) (wipeE q.2 own) else .stuck
          else lcLoop k t f own (ds.drop (i + 1)) acc (wipeE r.2 own)).bind fun q => .ok (.own .lst q.1, backE env1 q.2 own)) := q5
        cases et : t env3 with
        | err c ns dd en =>
          rw [et] at q6
          exact absurd q6 nst
        | stuck =>
          rw [et] at q6
          exact absurd q6 nst
        | ok r4 =>
          obtain ⟨b, env4⟩ := r4
          rw [et] at q6
          intro s5 g5
          have e5 : s5.σ = s4.σ := g5.sl
          obtain ⟨d1, d2, d3⟩ := g5.step0.beside c1 c2 c3
          have x6 := x5.trans g5.step0
          -- the end of a turn
          have fin : ∀ {F6 H6 : Hp} {fp6 : List Addr} {env6 : Env} {acc6 : List D} {accV6 : List V}, St C.blk ⟨s4.σ, F6, H6, fp6⟩ env6 → Step C.blk ⟨wipe sσ own, sF, sH, fpA⟩ ⟨s4.σ, F6, H6, fp6⟩ → H6 L = some (.lst accV6) → F6 L = none → L ∉ fp6 → RepDs C.B F6 accV6 acc6 →
              FinE C W Q ⟨sσ, sF, sH, sfp⟩ ((lcLoop k t f own (ds.drop (i + 1)) acc6 (wipeE env6 own)).bind fun q => .ok (.own .lst q.1, backE env1 q.2 own)) → i + 1 ≤ ds.length ∧ ∃ F' fp' env' acc accV, (∃ env2, (∀ j ∈ own, j < env2.length) ∧ env' = wipeE env2 own) ∧ Step C.blk ⟨wipe sσ own, sF, sH, fpA⟩ ⟨wipe sσ own, F', H6, fp'⟩ ∧ St C.blk ⟨wipe sσ own, F', H6, fp'⟩ env' ∧
                H6 L = some (.lst accV) ∧ F' L = none ∧ L ∉ fp' ∧ RepDs C.B F' accV acc ∧ FinE C W Q ⟨sσ, sF, sH, sfp⟩ ((lcLoop k t f own (ds.drop (i + 1)) acc env').bind fun q => .ok (.own .lst q.1, backE env1 q.2 own)) := by
            intro F6 H6 fp6 env6 acc6 accV6 st6 x6 h1 h2 h3 r6 q6
            obtain ⟨fp7, hs7, st7⟩ := St.wipes (C := C.blk) rfl own hlt st6
            have st7 : St C.blk ⟨wipe s4.σ own, F6, H6, fp7⟩ (wipeE env6 own) := st7
            rw [wq] at st7
            exact ⟨hlt', F6, fp7, _, acc6, accV6, ⟨env6, lenE st6, rfl⟩, ⟨x6.exF, x6.keep, x6.nof, fun a ha => x6.new a (hs7 a ha), fun _ h => nomatch h⟩, st7, h1, h2, fun z => h3 (hs7 L z), r6, q6⟩
          cases b with
          | false =>
            refine iteF ?_
            have st5 := g5.st
            have z : s5 = ⟨s4.σ, s5.F, s5.H, s5.fp⟩ := by
              rw [← e5]
            rw [z] at st5 x6
            exact fin st5 x6 d1 d2 d3 (ra.ex (mk.exF.trans (by rw [show F3 = s4.F from ef.symm]; exact g5.step0.exF))) q6
          | true =>
            refine iteT ?_
            have q7 : FinE C W Q ⟨sσ, sF, sH, sfp⟩ (((f env4).noX.bind fun q => if acc.length < 100000 then lcLoop k t f own (ds.drop (i + 1)) (acc ++ [q.1.frz]) (wipeE q.2 own) else .stuck).bind fun q => .ok (.own .lst q.1, backE env1 q.2 own)) := q6
            rw [← e5]
            refine ⟨s5.F, s5.fp, env4, g5.st, ?_⟩
            cases ef2 : f env4 with
            | err c ns dd en =>
              rw [ef2] at q7
              exact absurd q7 nst
            | stuck =>
              rw [ef2] at q7
              exact absurd q7 nst
            | ok r5 =>
              obtain ⟨o, env5⟩ := r5
              rw [ef2] at q7
              have q8 : FinE C W Q ⟨sσ, sF, sH, sfp⟩ ((if acc.length < 100000 then lcLoop k t f own (ds.drop (i + 1)) (acc ++ [o.frz]) (wipeE env5 own) else .stuck : R (List D × Env)).bind fun q => .ok (.own .lst q.1, backE env1 q.2 own)) := q7
              intro yv s6 fr6 g6 r6
              by_cases hz : acc.length < 100000
              · rw [if_pos hz] at q8
                have gf := g6.freeze
                have rf := r6.freeze g6.nf
                obtain ⟨f1, f2, f3⟩ := gf.step0.beside d1 d2 d3
                have ra6 : RepDs C.B (grow s6.F s6.H fr6) accV acc := ra.ex (mk.exF.trans (by
                  rw [show F3 = s4.F from ef.symm]
                  exact g5.step0.exF.trans gf.step0.exF))
                have f1 : s6.H L = some (.lst accV) := f1
                have f2 : grow s6.F s6.H fr6 L = none := f2
                have f3 : L ∉ s6.fp := f3
                refine ⟨accV, f1, ?_, ?_⟩
                · rw [ra.len]
                  exact Nat.lt_of_lt_of_le hz (by decide)
                · have exU : Ex (grow s6.F s6.H fr6) (upd s6.H L (.lst (accV ++ [yv]))) := fun a o ha => by
                    rw [upd_ne (fun z => by rw [z, f2] at ha; cases ha)]
                    exact gf.st.ex a o ha
                  have e6 : s6.σ = s4.σ := g6.sl.trans e5
                  have st6 : St C.blk ⟨s4.σ, grow s6.F s6.H fr6, upd s6.H L (.lst (accV ++ [yv])), s6.fp⟩ env5 := by
                    rw [← e6]
                    exact ⟨exU, gf.st.rep.mono (Evl.Ex.refl _) (fun p hp => upd_ne fun z => f3 (z ▸ hp)), gf.st.nd, gf.st.nf, gf.st.len, fun _ _ h => nomatch h⟩
                  have x7 := x6.trans gf.step0
                  refine fin st6 ⟨x7.exF, fun a o ha hn => ?_, x7.nof, x7.new, fun _ h => nomatch h⟩ upd_same f2 f3 (ra6.snoc rf) q8
                  by_cases hz2 : a = L
                  · rw [hz2] at ha
                    have ha : sH L = some o := ha
                    rw [hL] at ha
                    cases ha
                  · show upd s6.H L _ a = some o
                    rw [upd_ne hz2]
                    exact x7.keep a o ha hn
              · rw [if_neg hz] at q8
                exact absurd q8 nst
    · have ei : i = ds.length := by omega
      refine .inl ⟨by rw [ei]; exact w.2, ?_⟩
      rw [ei, List.drop_length] at q4
      have q5 : FinE C W Q ⟨sσ, sF, sH, sfp⟩ (.ok (.own .lst acc, backE env1 env' own)) := q4
      refine q5 (.ref L) ⟨sσ, F', H', fp'⟩ [L] ⟨rfl, ⟨x.exF, fun a o ha hn => x.keep a o ha fun z => hn (hA a z), fun a o ha hf hn => x.nof a o ha hf fun z => hn (hA a z), fun a ha => ?_, fun _ _ => rfl⟩, ⟨y.ex, ?_, y.nd, y.nf, g.st.len, fun j a hj => ?_⟩, ?_, fun p hp => ?_⟩ (.own hL1 ra)
      · rcases List.mem_append.mp ha with z | z
        · rcases x.new a z with z | z
          · exact .inl (hA a z)
          · exact .inr z
        · rw [List.mem_singleton.mp z]
          exact .inr hL
      · have yr : RepE C.B F' H' (wipe sσ own ++ C.xs) env' fp' := y.rep
        refine RepE.backs (fun i d hi he => ?_) own hown (fun i hi => ⟨?_, ?_⟩) yr
        · obtain ⟨v, fa, fq, fb, h1, h2, h3, _⟩ := g.st.slot (i := i) (by
            rw [← lenσ]
            exact hi) he
          refine ⟨v, h1, ?_⟩
          cases h3 with
          | fro r => exact r.ex x.exF
        · show i < sσ.length
          rw [lenσ]
          exact hlt i hi
        · rw [ee]
          exact wipeE_in env2 own i hi (hl2 i hi)
      · rw [hxe] at hj
        cases hj
      · rw [List.nodup_append]
        exact ⟨y.nd, by simp, fun a ha b hb z => hL3 (by
          rw [List.mem_singleton.mp hb] at z
          rw [← z]
          exact ha)⟩
      · rw [List.mem_singleton.mp hp]
        exact hL2
/-- [elt for target in iter] -/
theorem c_lc {elt tg iter : Expr} {ifs : List Expr} {scope : Scope} {own : List (Str × Nat)} {is : List Nat} {it : IS} {gt : TG} {k : GS} {tt : TT} (hc : X.calm = true) (hxe : C.xe = none) (hN : X.N.Nodup) (hi : PI X tg iter (tiOf C W it)) (ok : BlkOk X.N X.env.scope scope own)
    (hown : (own.map (·.2)).Nodup) (hlt : ∀ i ∈ own.map (·.2), i < C.n) (hks : ∀ i ∈ own.map (·.2), i ∉ C.ks) (his : ∀ i ∈ is, i ∈ own.map (·.2)) (hcg : CG C.blk is gt k)
    (hg : ∀ (s : Shared) (H : Hp) (D : Addr) (cl : List (Str × Addr)) (fp : List Addr), PG (X.blk s H scope (compEnvC scope cl D X.env) fp) tg gt)
    (ht : ∀ (s : Shared) (H : Hp) (D : Addr) (cl : List (Str × Addr)) (fp : List Addr), PTs (X.blk s H scope (compEnvC scope cl D X.env) fp) ifs tt) (htt : ∀ σ H Q, tbOf C.blk WF t σ H Q → tt σ H Q)
    (he : ∀ (s : Shared) (H : Hp) (D : Addr) (cl : List (Str × Addr)) (fp : List Addr), PE (X.blk s H scope (compEnvC scope cl D X.env) fp) elt (teOf C.blk WF f)) (hs : ∀ x, foldedSetIterable iter X.env x = pure x := by intro _; rfl) :
    PE X (.ListComp elt [⟨tg, iter, ifs, 0⟩] scope pos) (teOf C W (eLc it k t f (own.map (·.2)))) :=
  PE_to (pe_lc hc hN hi ok hg ht he hs) fun σ H Q q => lc_of hxe hown hlt hks his hcg htt q
theorem k_setLc {i : Nat} {y : Str} {py spos : Pos} {elt tg iter : Expr} {ifs : List Expr} {scope : Scope} {own : List (Str × Nat)} {is : List Nat} {it : IS} {gt : TG} {k : GS} {tt : TT} (hc : X.calm = true) (hxe : C.xe = none) (hN : X.N.Nodup) (hy : X.N[i]? = some y) (hyl : X.env.scope.names.lookup y = some .local)
    (hsw : swapsWith (.ListComp elt [⟨tg, iter, ifs, 0⟩] scope pos) (some (.Name y py)) spos.line X.env = pure true) (hn : i < C.n) (hk : i ∉ C.ks) (hi : PI X tg iter (tiOf C W it)) (ok : BlkOk X.N X.env.scope scope own)
    (hown : (own.map (·.2)).Nodup) (hlt : ∀ i ∈ own.map (·.2), i < C.n) (hks : ∀ i ∈ own.map (·.2), i ∉ C.ks) (his : ∀ i ∈ is, i ∈ own.map (·.2)) (hcg : CG C.blk is gt k)
    (hg : ∀ (s : Shared) (H : Hp) (D : Addr) (cl : List (Str × Addr)) (fp : List Addr), PG (X.blk s H scope (compEnvC scope cl D X.env) fp) tg gt)
    (ht : ∀ (s : Shared) (H : Hp) (D : Addr) (cl : List (Str × Addr)) (fp : List Addr), PTs (X.blk s H scope (compEnvC scope cl D X.env) fp) ifs tt) (htt : ∀ σ H Q, tbOf C.blk WF t σ H Q → tt σ H Q)
    (he : ∀ (s : Shared) (H : Hp) (D : Addr) (cl : List (Str × Addr)) (fp : List Addr), PE (X.blk s H scope (compEnvC scope cl D X.env) fp) elt (teOf C.blk WF f)) (hs : ∀ x, foldedSetIterable iter X.env x = pure x := by intro _; rfl) :
    PS X (.Assign [.Name y py] (.ListComp elt [⟨tg, iter, ifs, 0⟩] scope pos) spos) (tsOf C W (sAsg i (eLc it k t f (own.map (·.2))))) :=
  PS_to (ps_setLc hc hN hy hyl hsw hi ok hg ht he hs) fun D σ H h => by
    have z := sAsg_of hn hk h
    exact lc_of hxe hown hlt hks his hcg htt z
theorem yes_of {σ : L2.St} {H : Hp} {Q : Bool → Hp → Prop} (h : tbOf C W bYes σ H Q) : tYes σ H Q := by
  obtain ⟨F, fp, env, st, q⟩ := h
  exact q ⟨σ, F, H, fp⟩ st.got
end
end DL
end

section
set_option Elab.async false
set_option linter.all false
set_option maxRecDepth 100000
set_option maxHeartbeats 2000000
/-! An own exception whose __init__ begins with super().__init__(a text), over the hand layer. -/
namespace DL
open PySem PySem.Spec PyProof.Rows L2
section
open PySem.W PySem.Calls
variable {prog : Program} {w : World} {A : Around} {E : Value → Shared → Prop} {h : Heap} {g : Array GenState} {d : Drawn} {t : Nat} {os : OsState}
variable {nm q : Str} {C N : Addr} {bs bm : List Value} {hdct : Bool} {sn : List Str} {sub : List Value} {ab : Bool} {col : Option Bool} {dd : Option Addr} {k0 k1 k2 k3 k5 : Option Value}
theorem call_bwV {u e t0 : Addr} {rest : List Value} {Q : Value → Shared → Prop}
    (hC : h.get? C = some (excClassObj nm q C N bs bm hdct sn sub ab col dd k0 k1 k2 k3 k5 "ValueError.__new__")) (he : h.get? e = some (HandSPX.excO C t0)) (hu : h.get? u = some (kxs_mw "ValueError.__init__" e)) (hrest : rest.length ≤ sizeLine)
    (hq : ∀ h' t1, (∀ b o, b ≠ e → h.get? b = some o → h'.get? b = some o) → h'.get? e = some (HandSPX.excO C t1) → Q .none ⟨h', g, d, t, os⟩) :
    wpAny (model prog w) A (call (.ref u) rest) Q E ⟨h, g, d, t, os⟩ := by
  refine wpAny_call (codeAny_of_tree ?_)
  show wpAny _ A.in1 (callAny (.ref u) ⟨rest, []⟩) _ _ _
  simp only [callAny]
  refine wpAny_bind (wpAny_load hu ?_)
  simp only [kxs_mw, show (Value.type "method-wrapper" == Value.type "method" || Value.type "method-wrapper" == Value.type "builtin_function_or_method" || Value.type "method-wrapper" == Value.type "method-wrapper") = true by decide, if_true]
  refine W.KFB.if_so (by decide) ?_
  refine wpAny_bind (ESX.check_bound F.excBase_ValueError hC he rfl ?_)
  refine wpAny_bind (wpAny_pure (wpAny_pure ?_))
  refine ⟨Code.quiet_builtin _ (by decide +kernel), codeAny_builtin F.excBase_ValueError.initEntry ?_⟩
  rw [Around.under_plainId F.excBase_ValueError.init.plain _]
  wp_walk
  refine hq _ h.objs.size (fun b o hb ho => ?_) ?_
  · rw [Heap.get?_update_other _ _ (Ne.symm hb)]
    exact Heap.get?_push_of_some _ ho
  · rw [Heap.get?_update_self _ (Heap.get?_push_of_some _ he) rfl]
    rfl
end
/-- what the written part says of such a class and of its __init__ -/
structure SupT (K : PySem.W.Frag) (file : Str) (C fI cda cc : Addr) : Prop where
  ox : OexC K C
  cell : ∃ cl cld csl, K.lookup cc = some ⟨cl, cld, .cell (some (.ref C)), csl⟩
  code : ∃ ccl cdd vs tf ccs, K.lookup cda = some ⟨ccl, cdd, .fields vs, ccs⟩ ∧ vs[2]? = some (.str file tf)
  self : PySem.W.mroIn K C (.ref C) = some true
  opq : PySem.W.nsIn K cStatics "thirdparty.any" = some none
  sup : PySem.W.ks_superIn K C C "__init__" = some (some (.builtin "ValueError.__init__"))
  isV : PySem.W.subIn K (.ref C) (.type "ValueError") = some true
/-- the context of such an __init__ -/
def cxSup (P : Program) (w : World) (K : PySem.W.Frag) (mg : Str → Option Value) (base : Heap) (N : List Str) (qual : Str) (scope : Scope) (f cda cc : Addr) (A : Around) (outer : List PySem.Env) (s : Shared) (H : Hp) : Cx where
  prog := P
  w := w
  K := K
  mg := mg
  base := base
  A := A.deeper (PySem.W.ksEnv qual scope s.heap.objs.size f (.ref cda) cc)
  N := N
  s_0 := s
  H_0 := H
  env := PySem.W.ksEnv qual scope s.heap.objs.size f (.ref cda) cc
  outer := outer
  stack := PySem.W.ksEnv qual scope s.heap.objs.size f (.ref cda) cc :: outer
  ex := []
  calm := true
  fn := fun _ => false
  pn := []
  xe := fun _ _ => False
/-- its names -/
structure SupScope (N ps : List Str) (sc : Scope) : Prop where
  kind : sc.kind = .function
  co : sc.isCoroutine = false
  gen : sc.isGenerator = false
  nd : N.Nodup
  pre : N.take ps.length = ps
  par : ∀ x ∈ ps, sc.names.lookup x = some .local
  nocell : ∀ y ∈ sc.names, y.2 ≠ .cell
  free : ∀ y ∈ sc.names, y.2 = .free → y.1 = "__class__"
  sup : sc.names.lookup ("super" : Str) = some NameKind.globalImplicit
  cls : sc.names.lookup ("__class__" : Str) = some NameKind.free
theorem lookup_zip_get {ps : List Str} {us : List Value} {i : Nat} {x : Str} {u : Value} (nd : ps.Nodup) (h1 : ps[i]? = some x) (h2 : us[i]? = some u) : (ps.zip us).reverse.lookup x = some u := by
  have mem : ∀ (l : List (Str × Value)), (l.map (·.1)).Nodup → (x, u) ∈ l → l.lookup x = some u := by
    intro l
    induction l with
    | nil => intro _ h; cases h
    | cons p l ih =>
      intro nd h
      obtain ⟨y, v⟩ := p
      obtain ⟨n1, n2⟩ := List.nodup_cons.mp nd
      rw [List.lookup_cons]
      rcases List.mem_cons.mp h with e | h2
      · cases e
        simp
      · have ne : (x == y) = false := by
          simp only [beq_eq_false_iff_ne, ne_eq]
          intro z
          exact n1 (List.mem_map.mpr ⟨(x, u), h2, z⟩)
        rw [ne]
        exact ih n2 h2
  refine mem _ ?_ ?_
  · rw [List.map_reverse, List.Nodup, List.pairwise_reverse]
    have e : ∀ (ps : List Str) (us : List Value), (ps.zip us).map (·.1) = ps.take us.length := by
      intro ps
      induction ps with
      | nil => intro us; simp
      | cons p ps ih =>
        intro us
        cases us with
        | nil => simp
        | cons u us => simp [ih]
    have q : ((ps.zip us).map (·.1)).Nodup := by
      rw [e]
      exact nd.sublist (List.take_sublist _ _)
    exact q.imp fun h => Ne.symm h
  · rw [List.mem_reverse]
    obtain ⟨a, b⟩ := List.getElem?_eq_some_iff.mp h1
    obtain ⟨c, e⟩ := List.getElem?_eq_some_iff.mp h2
    rw [List.mem_iff_getElem]
    refine ⟨i, by rw [List.length_zip]; omega, ?_⟩
    rw [List.getElem_zip, b, e]
theorem lookup_zip_out {ps : List Str} {us : List Value} {x : Str} (h : x ∉ ps) : (ps.zip us).reverse.lookup x = none := by
  have mem : ∀ (l : List (Str × Value)), x ∉ l.map (·.1) → l.lookup x = none := by
    intro l
    induction l with
    | nil => intro _; rfl
    | cons p l ih =>
      intro h
      obtain ⟨y, v⟩ := p
      rw [List.lookup_cons]
      have ne : (x == y) = false := by
        simp only [beq_eq_false_iff_ne, ne_eq]
        intro z
        subst z
        exact h (List.mem_cons_self ..)
      rw [ne]
      exact ih fun z => h (List.mem_cons_of_mem _ z)
  refine mem _ fun z => h ?_
  obtain ⟨p, hp, rfl⟩ := List.mem_map.mp z
  exact (List.of_mem_zip (List.mem_reverse.mp hp)).1
section
variable {P : Program} {w : World} {K : PySem.W.Frag} {mg : Str → Option Value} {base : Heap} {A : Around} {outer : List PySem.Env} {s s1 : Shared} {H : Hp} {N ps : List Str} {qual : Str} {scope : Scope} {f cda cc : Addr} {us : List Value} {vs : List V}
theorem sup_start (S : SupScope N ps scope) (hcl : ∃ cl cld v csl, K.lookup cc = some ⟨cl, cld, .cell v, csl⟩) (hd : A.handled = none) (e0 : Env0 P w K mg base A outer s H) (hl : vs.length = ps.length) (r : Vals vs us) {h1 : Heap} {tk : Nat}
    (hns : h1.Ns s.heap.objs.size (fun x => (ps.zip us).reverse.lookup x)) (hk : ∀ b o, s.heap.get? b = some o → h1.get? b = some o) :
    Inv (cxSup P w K mg base N qual scope f cda cc A outer s H) [] (L2.start N vs) H { s with heap := h1, toks := tk } := by
  have hpl : ps.length ≤ N.length := by have := congrArg List.length S.pre; rw [List.length_take] at this; omega
  have ndP : ps.Nodup := by rw [← S.pre]; exact S.nd.sublist (List.take_sublist _ _)
  obtain ⟨cl, cld, v, csl, hcl⟩ := hcl
  have hcb : base.get? cc = some _ := e0.mod.kin _ _ hcl
  obtain ⟨hcs, hcH⟩ := e0.bs _ _ hcb
  have noA : ∀ b : Addr, b ∉ (cxSup P w K mg base N qual scope f cda cc A outer s H).ex := fun b z => absurd (show b ∈ ([] : List Addr) from z) (by simp)
  have cells : ∀ {x : Str} {c : Addr}, ([("__class__", cc)] : List (Str × Addr)).lookup x = some c → x = "__class__" ∧ c = cc := fun {x c} h => by
    rw [List.lookup_cons] at h
    cases e : (x == ("__class__" : Str)) with
    | true =>
      rw [e] at h
      exact ⟨by simpa using e, (Option.some.inj h).symm⟩
    | false =>
      rw [e] at h
      cases h
  refine ⟨⟨e0.mod, S.kind, rfl, rfl, Nat.le_refl _, fun y z c a b => ?_, fun y hy => ?_, fun y c h _ => (by cases h), fun _ => hd, Around.frames_deeper e0.frames, .inr ⟨rfl, rfl⟩, fun b z => absurd z (noA b), e0.bs, e0.bsz, fun b _ _ => noA b, fun b z => absurd z (noA b), e0.funs, e0.frf⟩,
    rfl, e0.bare, Un.kept hk, ⟨_, hns, fun i y v h1 h2 h3 => ?_⟩, fun y c h => ?_, e0.hok.fresh (Nat.le_refl _), fun y c h => ?_, fun p hp => absurd (show p ∈ ([] : List (Addr × Obj)) from hp) (by simp), e0.hok.kept hk, ?_⟩
  · exact (cells a).1.trans (cells b).1.symm
  · have hy : scope.names.lookup y = some .cell ∨ scope.names.lookup y = some .free := hy
    rcases hy with hy | hy
    · exact absurd rfl (S.nocell _ (PySem.mem_of_lookup hy))
    · have z := S.free _ (PySem.mem_of_lookup hy) rfl
      simp only at z
      subst z
      exact ⟨cc, by show List.lookup ("__class__" : Str) [(("__class__" : Str), cc)] = _; rw [List.lookup_cons]; simp⟩
  · have hi : i < vs.length := by
      unfold L2.start at h2
      by_cases hi : i < vs.length
      · exact hi
      · rw [List.getElem?_append_right (by simpa using hi)] at h2
        rw [List.getElem?_replicate] at h2
        split at h2 <;> cases h2
    have ha : vs[i]? = some v := by
      unfold L2.start at h2
      rw [List.getElem?_append_left (by simpa using hi), List.getElem?_map] at h2
      cases e : vs[i]? with
      | none => rw [e] at h2; cases h2
      | some a => rw [e] at h2; cases h2; rfl
    obtain ⟨u, hu, rv⟩ := r.get ha
    have hp : ps[i]? = some y := by
      rw [← S.pre, List.getElem?_take_of_lt (by omega)]; exact h1
    exact ⟨u, rv, .inl ⟨S.par y (List.mem_of_getElem? hp), lookup_zip_get ndP hp hu⟩⟩
  · obtain ⟨_, rfl⟩ := cells h
    exact ⟨_, _, hk _ _ hcs, rfl⟩
  · obtain ⟨_, rfl⟩ := cells h
    exact hcH
  · unfold L2.start
    show _ = N.length
    rw [List.length_append, List.length_map, List.length_replicate]
    omega
end
section
variable {P : Program} {w : World} {K : PySem.W.Frag} {mg : Str → Option Value} {base : Heap} {N ps : List Str} {qual name : Str} {scope : Scope} {f fI C cda cc : Addr} {params : Arguments} {rest : List Stmt} {msg : Expr} {p0 p1 p2 p3 p4 : Pos} {oc dV kV doc pm ct : Value} {od an : Option Addr} {osl : Array (Option Value)} {sp : Sp} {k : Nat} {file : Str}
/-- super().__init__(msg), then the rest -/
abbrev supBody (msg : Expr) (rest : List Stmt) (p0 p1 p2 p3 p4 : Pos) : List Stmt := .Expr (.Call (.Attribute (.Call (.Name "super" p0) [] [] p1) "__init__" p2) [msg] [] p3) p4 :: rest
open PySem.W PySem.Calls in
theorem fn_sup (T : SupT K file C f cda cc) (lk : K.lookup f = some ⟨oc, od, .func (PySem.W.ksFn name qual params (supBody msg rest p0 p1 p2 p3 p4) scope dV kV doc pm an (.ref cda) ct cc), osl⟩) (hcd : PySem.W.codeIn K (.ref cda) qual = true) (S : SupScope N ps scope)
    (hfile : ((P.main.file : Str) == file) = true) (htop : (P.main.scope.names.lookup ("super" : Str)).isSome = false) (hsup : mg "super" = none) (hself : ps[0]? = some ("self" : Str)) (hpar : ∃ ar, (params.posonlyargs ++ params.args).head? = some ar ∧ ar.arg = "self")
    (len : ∀ vs H Q E, sp vs H Q E → vs.length = ps.length) (tm : TE) (tr : TS)
    (hmsg : ∀ (A : Around) (outer : List PySem.Env) (s : Shared) (H : Hp), PE (cxSup P w K mg base N qual scope f cda cc A outer s H) msg tm)
    (hrest : ∀ (A : Around) (outer : List PySem.Env) (s : Shared) (H : Hp), PSs (cxSup P w K mg base N qual scope f cda cc A outer s H) rest tr)
    (hq : ∀ vs H Q E, sp vs H Q E → ∃ a, vs[0]? = some (.ref a) ∧ H a = some (exo a C none) ∧ tm (L2.start N vs) H fun x H1 => ([x] : List V).length = 1 ∧ H1 a = some (exo a C none) ∧ tr { nx := fun _ H' => Q .non H', rt := Q } (L2.start N vs) H1)
    {pl : Addr → Sem Bool} (hev : ∀ L : Addr, eval (.Call (.Attribute (.Call (.Name "super" p0) [] [] p1) "__init__" p2) [msg] [] p3) (PySem.W.ksEnv qual scope L f (.ref cda) cc) = (do
      let ov ← attributeBase (.Call (.Name "super" p0) [] [] p1) "__init__" (PySem.W.ksEnv qual scope L f (.ref cda) cc) (eval (.Call (.Name "super" p0) [] [] p1) (PySem.W.ksEnv qual scope L f (.ref cda) cc))
      standAt p2.atName
      let (g, first) ← holding [ov] (getMethod ov "__init__" (pl L))
      callWith p3 g first (backTo p3 (starEach [msg] (PySem.W.ksEnv qual scope L f (.ref cda) cc))) []))
    (hsw : ∀ L : Addr, swapsWith (.Call (.Attribute (.Call (.Name "super" p0) [] [] p1) "__init__" p2) [msg] [] p3) none p4.line (PySem.W.ksEnv qual scope L f (.ref cda) cc) = pure false)
    (he : ∀ env : PySem.Env, starEach (msg :: []) env = (false, eval msg env) :: starEach [] env := by intro _; rfl) : FnOk P w K mg base CX0 (k + 1) f (PySem.W.ksFn name qual params (supBody msg rest p0 p1 p2 p3 p4) scope dV kV doc pm an (.ref cda) ct cc) ps sp := by
  refine ⟨len, fun A outer s H args us vs Q E hr e0 hb r hsp => ?_⟩
  have hl := len _ _ _ _ hsp
  have KX : K.In s.heap := e0.mod.kin.keeps fun b o e => (e0.bs b o e).1
  have lim : s.heap.NoLimit := e0.mod.nolimit.keeps fun b o e => (e0.bs b o e).1
  obtain ⟨a, ha0, haH, htm⟩ := hq vs H Q E hsp
  obtain ⟨cl, cld, csl, hcell⟩ := T.cell
  obtain ⟨ccl, cdd, fv, tf, ccs, hcode, hfv⟩ := T.code
  obtain ⟨ar, har, harn⟩ := hpar
  obtain ⟨nm, q, NN, bs, bm, sn, sub, ab, col, dd, k0, k1, k2, k3, k5, hC, hbm⟩ := T.ox.cls
  have hclC : PySem.W.clsIn K C = some { name := nm, bases := bs, mro := .ref C :: bm, ns := NN, qualname := q, hasDict := true, slotNames := sn, subclasses := sub, abstract := ab, collection := col, hasDel := false } := by unfold PySem.W.clsIn; rw [hC] <;> rfl
  have len0 : us.length = ps.length := by rw [← r.length]; exact hl
  obtain ⟨ua, hua, rua⟩ := r.get ha0
  obtain rfl : ua = Value.ref a := rua
  have ndP : ps.Nodup := by rw [← S.pre]; exact S.nd.sublist (List.take_sublist _ _)
  obtain ⟨hp, g, d, t, os⟩ := s
  refine PySem.ks_codeAny_call_defAt (binds := ps.zip us) hr.depth (KX _ _ lk) rfl lim (PySem.W.codeRec_of KX hcd) rfl hb S.nocell (fun y hy => S.par _ (List.of_mem_zip hy).1) (fun h1 hns hk1 => ?_) S.co S.gen S.kind
  have I : Inv (cxSup P w K mg base N qual scope f cda cc A outer ⟨hp, g, d, t, os⟩ H) [] (L2.start N vs) H ⟨h1, g, d, t + (ps.zip us).length, os⟩ := sup_start S ⟨_, _, _, _, hcell⟩ hr.hd e0 hl r hns hk1
  have KX1 : K.In h1 := KX.keeps hk1
  show PySem.wpAt (model P w) (A.deeper (PySem.W.ksEnv qual scope hp.objs.size f (.ref cda) cc)) (.func (supBody msg rest p0 p1 p2 p3 p4) (PySem.W.ksEnv qual scope hp.objs.size f (.ref cda) cc)) (execs (supBody msg rest p0 p1 p2 p3 p4) (PySem.W.ksEnv qual scope hp.objs.size f (.ref cda) cc)) _ _ ⟨h1, g, d, t + (ps.zip us).length, os⟩
  refine PySem.ks_wpAt_execs_cons ?_
  refine PySem.ks_wpAt_Expr_any (prog := P) (w := w) ?_ (by simp [interactive, S.kind]) (hsw _)
  · refine PySem.ks_wpAt_MethodCall ?_ (hev _)
    have hkc : (PySem.W.ksEnv qual scope hp.objs.size f (.ref cda) cc).kindOf "__class__" = some .free := S.cls
    have hks : (PySem.W.ksEnv qual scope hp.objs.size f (.ref cda) cc).kindOf "super" = some .globalImplicit := S.sup
    refine PySem.ks_wpAt_super_base (env := PySem.W.ksEnv qual scope hp.objs.size f (.ref cda) cc) hks hkc (by decide) rfl (KX1 _ _ lk) rfl har rfl (KX1 _ _ hcode) rfl hfv hfile htop ?_
    obtain ⟨mb, hb1, hb2⟩ := I.mod.blt
    refine PySem.W.ks_loadName_global S.kind hks (Calls.loadGlobal_builtin (env := PySem.W.ksEnv qual scope hp.objs.size f (.ref cda) cc) (I.mod.glob.keeps I.bk) hsup (hb1.keeps I.bk) ((hb2 "super" (by decide)).trans PyProof.Rows.Boot.super) ⟨rfl, ?_⟩)
    refine wpAny_loadName_free S.kind hkc (show List.lookup ("__class__" : Str) [(("__class__" : Str), cc)] = some cc by rw [List.lookup_cons]; simp) ⟨_, KX1 _ _ hcell, rfl⟩ ?_
    have hself2 : (ps.zip us).reverse.lookup ar.arg = some (.ref a) := by
      rw [harn]
      exact lookup_zip_get ndP hself hua
    refine wpAny_loadName_local S.kind (show (PySem.W.ksEnv qual scope hp.objs.size f (.ref cda) cc).kindOf ar.arg = some .local by rw [harn]; exact S.par _ (List.mem_of_getElem? hself)) hns hself2 ?_
    have hCh : h1.get? C = some _ := KX1 _ _ hC
    refine PySem.ks_wpAny_isType_cls hCh rfl ⟨rfl, ?_⟩
    obtain ⟨t1, hao⟩ := exo_at I.hok haH
    refine PySem.ks_wpAny_call_super hCh rfl hao rfl (fun c => by intro z; cases z) (PySem.W.looks_mroIn KX1 T.self) (fun h2 hso k2 => ?_)
    have KX2 : K.In h2 := KX1.keeps k2
    have I2 : Inv (cxSup P w K mg base N qual scope f cda cc A outer ⟨hp, g, d, t, os⟩ H) [] (L2.start N vs) H ⟨h2, g, d, t + (ps.zip us).length, os⟩ := I.kept (h' := h2) (t' := t + (ps.zip us).length) k2
    have hao2 := k2 _ _ hao
    have Ia : PySem.W.InstAt h2 a _ C none := ⟨hao2, rfl, rfl, trivial⟩
    have hsup2 := T.sup
    unfold PySem.W.ks_superIn at hsup2
    rw [hclC] at hsup2
    refine PySem.W.kxs_getMethod PySem.W.kxs_ValueError hso (PySem.W.looks_opaque KX2 T.opq) (l₀ := .ref C :: bm) (fun A Q E s k q => wpAny_bind ((PySem.W.looks_clsIn KX2 hclC) A _ E s k (wpAny_pure q))) rfl KX2 hsup2 (Ia.type.andThen (PySem.W.looks_subIn KX2 T.isV)) (PySem.W.ks_ne KX2 Ia hclC) (by decide) ?_
    have kp : ∀ b o, h2.get? b = some o → (h2.push (PySem.W.kxs_mw "ValueError.__init__" a)).get? b = some o := fun b o e => Heap.get?_push_of_some _ e
    have I3 : Inv (cxSup P w K mg base N qual scope f cda cc A outer ⟨hp, g, d, t, os⟩ H) [] (L2.start N vs) H ⟨h2.push (PySem.W.kxs_mw "ValueError.__init__" a), g, d, t + (ps.zip us).length + 1, os⟩ := I2.kept (h' := h2.push (PySem.W.kxs_mw "ValueError.__init__" a)) (t' := t + (ps.zip us).length + 1) kp
    have hu3 : (h2.push (PySem.W.kxs_mw "ValueError.__init__" a)).get? h2.objs.size = some (PySem.W.kxs_mw "ValueError.__init__" a) := Heap.get?_push_at rfl rfl
    have fz : ∀ b o, (h2.push (PySem.W.kxs_mw "ValueError.__init__" a)).get? b = some o → h2.objs.size ≤ b → H b = none := fun b o _ hb => I2.hok.fresh hb
    have I4 : Inv (cxSup P w K mg base N qual scope f cda cc A outer ⟨hp, g, d, t, os⟩ H) [(h2.objs.size, PySem.W.kxs_mw "ValueError.__init__" a)] (L2.start N vs) H ⟨h2.push (PySem.W.kxs_mw "ValueError.__init__" a), g, d, t + (ps.zip us).length + 1, os⟩ := I3.pins_of fun p hp => by
      rw [List.mem_singleton.mp hp]
      exact ⟨hu3, I2.hok.fresh (Nat.le_refl _), fun z => absurd I2.lt (by
        have z : h2.objs.size = _ := z
        rw [← z]
        exact Nat.lt_irrefl _), I2.nofs (Nat.le_refl _), fun v z => by cases z⟩
    show wpAny _ _ (callWith p3 (.ref h2.objs.size) [] (backTo p3 (starEach [msg] (PySem.W.ksEnv qual scope hp.objs.size f (.ref cda) cc))) []) _ _ _
    have he2 := he (PySem.W.ksEnv qual scope hp.objs.size f (.ref cda) cc)
    rw [he2]
    refine PySem.W.kxs_callWith (i := "ValueError.__init__") (x := a) (by rfl) ?_
    refine evalArgs_plain ?_
    have run5 := (pa_cons (hmsg A outer ⟨hp, g, d, t, os⟩ H) pa_nil (he _)).run p3 _ _ _ H (fun ws H1 => ws.length = 1 ∧ H1 a = some (exo a C none) ∧ tr { nx := fun _ H' => Q .non H', rt := Q } (L2.start N vs) H1) I4 htm
    rw [he _] at run5
    refine wpAny_mono run5 (fun ms s5 hms => ?_) fun _ _ z => z.elim
    obtain ⟨ws, H1, I5, rw5, hw1, hH1, htr⟩ := hms
    have hu5 := (I5.pin (h2.objs.size, PySem.W.kxs_mw "ValueError.__init__" a) (List.mem_append_right _ (List.mem_singleton.mpr rfl))).1
    refine ⟨hu5, ?_⟩
    obtain ⟨h5, g5, d5, t5, os5⟩ := s5
    obtain ⟨t6, hao5⟩ := exo_at I5.hok hH1
    have hms : ms.length ≤ sizeLine := by
      rw [← Paired.length rw5, hw1]
      exact (by decide : 1 ≤ sizeLine)
    refine call_bwV (C := C) (e := a) (I5.kIn _ _ hC) hao5 hu5 hms fun h6 t7 k6 hx6 => ?_
    have J := I5.write (t' := t5) (x := a) (e := a) (o := exo a C none) (by rw [hH1]; exact True.intro) (.inl rfl) k6 ⟨_, hx6⟩ (exo_ok hx6)
    have eu : upd H1 a (exo a C none) = H1 := by
      funext b
      by_cases hb : b = a
      · rw [hb, upd_same, hH1]
      · rw [upd_ne hb]
    rw [eu] at J
    have J2 := J.pins_of (pins' := []) fun p hp => by cases hp
    refine wpAt_of_wpAny ?_
    refine wpAny_mono ((hrest A outer ⟨hp, g, d, t, os⟩ H).run [] _ _ H1 _ J2 htr) (fun fl s7 hs => ?_) fun _ _ z => z.elim
    have fin : ∀ {σ' : L2.St} {H' : Hp} {v : V} {u : Value}, Inv (cxSup P w K mg base N qual scope f cda cc A outer ⟨hp, g, d, t, os⟩ H) [] σ' H' s7 → RelV v u → Q v H' → CE outer P w H ⟨hp, g, d, t, os⟩ Q u s7 :=
      fun {σ' H' v u} J rv q => ⟨v, H', J.os, J.bare, J.base, J.hok, rv, q⟩
    cases fl with
    | ret u =>
      obtain ⟨v, σ', H', J, rv, q⟩ := hs
      exact fin J rv q
    | next =>
      obtain ⟨σ', H', J, q⟩ := hs
      exact fin (v := V.non) (u := Value.none) J rfl q
    | brk =>
      obtain ⟨_, _, _, q⟩ := hs
      exact False.elim q
    | cont =>
      obtain ⟨_, _, _, q⟩ := hs
      exact False.elim q
end
end DL
end

section
set_option Elab.async false
set_option linter.all false
set_option maxRecDepth 100000
set_option maxHeartbeats 1000000
namespace DL
open PySem PySem.Spec PyProof.Rows L2
/-! ### defs: what they make of what they are handed -/
inductive FR where
  | ok (o : O) (os : List O)
  | err (c : Str) (ns : List Str) (ds : List D) (os : List O)
  | stuck
abbrev FS := List O → FR
structure StepF (F H : Hp) (fp : List Addr) (F' H' : Hp) (fp' : List Addr) : Prop where
  exF : Ex F F'
  keep : ∀ a o, H a = some o → a ∉ fp → H' a = some o
  nof : ∀ a o, H a = some o → F a = none → a ∉ fp → F' a = none
  new : ∀ a ∈ fp', a ∈ fp ∨ H a = none
def FinF (B : Base) (vs : List V) (Q : VK) (E : XK) (F H : Hp) (fp : List Addr) : FR → Prop
  | .ok o os => ∀ (v : V) (F' H' : Hp) (fp' fr : List Addr), StepF F H fp F' H' (fp' ++ fr) → Ex F' H' → RepOs B F' H' vs os fp' → RepO B F' H' v o fr → (fp' ++ fr).Nodup → (∀ p ∈ fp' ++ fr, F' p = none) → Q v H'
  | .err c ns ds os => ∀ (F' H' : Hp) (fp' : List Addr) (dx : Option Addr), StepF F H fp F' H' fp' → Ex F' H' → RepOs B F' H' vs os fp' → fp'.Nodup → (∀ p ∈ fp', F' p = none) → XRep B F' dx ns ds → E (.ref (B.cA c)) dx H'
  | .stuck => False
/-- a promise: with such things in hand it does what m says -/
def spOf (B : Base) (n : Nat) (m : FS) : Sp := fun vs H Q E => vs.length = n ∧ ∃ F os fp, Ex F H ∧ RepOs B F H vs os fp ∧ fp.Nodup ∧ (∀ p ∈ fp, F p = none) ∧ FinF B vs Q E F H fp (m os)
/-! ### arguments: what a name owns is lent -/
def argsOf : List Opd → List (Option O) → Env → Option (List O)
  | [], _, _ => some []
  | .ev _ :: as, xs, env => match xs.headD none, argsOf as xs.tail env with
    | some o, some os => some (o :: os)
    | _, _ => none
  | .pk i :: as, xs, env => match getO env i, argsOf as xs.tail env with
    | some o, some os => some (o :: os)
    | _, _ => none
def putBack : List Opd → List O → Env → Env
  | .pk i :: as, o :: os, env => putBack as os (env.set i (some o))
  | .ev _ :: as, _ :: os, env => putBack as os env
  | _, _, env => env
def pks : List Opd → List Nat
  | [] => []
  | .pk i :: as => i :: pks as
  | .ev _ :: as => pks as
def callE (m : FS) (as : List Opd) (dds : List D) (q : List (Option O) × Env) : R (O × Env) := match argsOf as q.1 q.2 with
  | some os => (match m (os ++ dds.map .fro) with
    | .ok o os' => .ok (o, putBack as os' q.2)
    | .err c ns ds os' => .err c ns ds (putBack as os' q.2)
    | .stuck => .stuck)
  | none => .stuck
def eCall (m : FS) (as : List Opd) (dds : List D) : ES := fun env => (goAll as env).bind (callE m as dds)
/-- frozen where it is handed on -/
def eFrz (f : ES) : ES := fun env => (f env).bind fun r => .ok (.fro r.1.frz, r.2)
section
variable {X : Cx} {C : Ctx} {W : WX} {s s1 : S0} {env : Env} {e a b c : Expr} {pos : Pos} {f g : ES}
theorem c_frz (h : PE X e (teOf C W f)) : PE X e (teOf C W (eFrz f)) :=
  PE_to h fun σ H Q ⟨F, fp, env, st, q⟩ => by
    refine ⟨F, fp, env, st, ?_⟩
    have q1 : FinE C W Q ⟨σ, F, H, fp⟩ ((f env).bind fun r => .ok (.fro r.1.frz, r.2)) := q
    cases e : f env with
    | ok r =>
      obtain ⟨o, env1⟩ := r
      rw [e] at q1
      intro v s1 fr g r
      exact q1 v ⟨s1.σ, grow s1.F s1.H fr, s1.H, s1.fp⟩ [] g.freeze (.fro (r.freeze g.nf))
    | err c ns ds env1 =>
      rw [e] at q1
      exact q1
    | stuck =>
      rw [e] at q1
      exact q1
theorem putBack_get {i : Nat} : ∀ (as : List Opd) (os : List O) (env : Env), i ∉ pks as → (putBack as os env)[i]? = env[i]?
  | [], _, _, _ => rfl
  | .pk j :: as, o :: os, env, h => by
    show (putBack as os (env.set j (some o)))[i]? = _
    rw [putBack_get as os _ fun z => h (List.mem_cons_of_mem _ z), List.getElem?_set_ne fun z : j = i => h (by rw [← z]; exact List.mem_cons_self ..)]
  | .pk j :: as, [], env, h => rfl
  | .ev _ :: as, o :: os, env, h => putBack_get as os env h
  | .ev _ :: as, [], env, h => rfl
theorem putBack_set {i : Nat} {x y : Option O} : ∀ (as : List Opd) (os : List O) (env : Env), i ∉ pks as → (putBack as os (env.set i x)).set i y = putBack as os (env.set i y)
  | [], _, env, _ => by
    show (env.set i x).set i y = env.set i y
    rw [List.set_set]
  | .pk j :: as, o :: os, env, h => by
    have ne : i ≠ j := fun z => h (by rw [z]; exact List.mem_cons_self ..)
    show (putBack as os ((env.set i x).set j (some o))).set i y = putBack as os ((env.set i y).set j (some o))
    rw [List.set_comm _ _ ne, List.set_comm _ _ ne]
    exact putBack_set as os _ fun z => h (List.mem_cons_of_mem _ z)
  | .pk j :: as, [], env, h => by
    show (env.set i x).set i y = env.set i y
    rw [List.set_set]
  | .ev _ :: as, o :: os, env, h => putBack_set as os env h
  | .ev _ :: as, [], env, h => by
    show (env.set i x).set i y = env.set i y
    rw [List.set_set]
/-- arguments' values -/
inductive ArgV (B : Base) (F H : Hp) (σ : L2.St) : List Opd → List (Option O) → List V → List Addr → Prop
  | nil : ArgV B F H σ [] [] [] []
  | ev {f : ES} {as : List Opd} {o : O} {xs : List (Option O)} {v : V} {vs : List V} {fp fq : List Addr} : RepO B F H v o fp → ArgV B F H σ as xs vs fq → ArgV B F H σ (.ev f :: as) (some o :: xs) (v :: vs) (fp ++ fq)
  | pk {i : Nat} {as : List Opd} {xs : List (Option O)} {v : V} {vs : List V} {fq : List Addr} : σ[i]? = some (some v) → ArgV B F H σ as xs vs fq → ArgV B F H σ (.pk i :: as) (none :: xs) (v :: vs) fq
theorem RepTs.args {C : Ctx} {s : S0} : ∀ {as : List Opd} {xs : List (Option O)} {vs : List V} {fr : List Addr}, RepTs C s as xs vs fr → ArgV C.B s.F s.H s.σ as xs vs fr
  | _, _, _, _, .nil => .nil
  | _, _, _, _, .ev h r => .ev h r.args
  | _, _, _, _, .pk h r => .pk h r.args
theorem ArgV.lies {B : Base} {F H : Hp} {σ : L2.St} : ∀ {as : List Opd} {xs : List (Option O)} {vs : List V} {fr : List Addr}, ArgV B F H σ as xs vs fr → ∀ p ∈ fr, ∃ ob, H p = some ob
  | _, _, _, _, .nil, p, hp => by cases hp
  | _, _, _, _, .ev h r, p, hp => by
    rcases List.mem_append.mp hp with hp | hp
    · exact h.lies p hp
    · exact r.lies p hp
  | _, _, _, _, .pk h r, p, hp => r.lies p hp
/-- what is lent is taken out, and put back as it came; what is in hand goes along -/
theorem lend {B : Base} {F H : Hp} {xs : List (Option V)} {σ : L2.St} : ∀ (as : List Opd) (ys : List (Option O)) (vs : List V) (os : List O) (env : Env) (fp fr : List Addr), (pks as).Nodup → (∀ i ∈ pks as, i < σ.length) →
    ArgV B F H σ as ys vs fr → argsOf as ys env = some os → RepE B F H (σ ++ xs) env fp →
    ∃ fpR fpA, RepOs B F H vs os fpA ∧ ((fp ++ fr).Nodup → (fpR ++ fpA).Nodup) ∧ (∀ p, p ∈ fpR ++ fpA → p ∈ fp ++ fr) ∧
      ∀ (F' H' : Hp) (os' : List O) (fp' : List Addr), Ex F F' → (∀ p ∈ fpR, H' p = H p) → RepOs B F' H' vs os' fp' → ∃ fpN, RepE B F' H' (σ ++ xs) (putBack as os' env) fpN ∧ (∀ p ∈ fpN, p ∈ fpR ∨ p ∈ fp') ∧ ((fpR ++ fp').Nodup → fpN.Nodup) := by
  intro as
  induction as with
  | nil =>
    intro ys vs os env fp fr nd hl rt0 ea r
    have e := Option.some.inj (show some ([] : List O) = some os from ea)
    subst e
    cases rt0
    refine ⟨fp, [], .nil, fun h => h, fun p hp => hp, fun F' H' os' fp' ex k ro => ?_⟩
    cases ro
    exact ⟨fp, r.mono ex k, fun p hp => .inl hp, fun h => by rw [List.append_nil] at h; exact h⟩
  | cons a as ih =>
    intro ys vs os env fp fr nd hl rt0 ea r
    cases a with
    | ev f =>
      cases rt0 with
      | @ev _ _ o ys v vs fpv fq hr ht =>
        have ea1 : (match (some o : Option O), argsOf as ys env with
          | some o, some os => some (o :: os)
          | _, _ => none) = some os := ea
        cases e2 : argsOf as ys env with
        | none =>
          rw [e2] at ea1
          cases ea1
        | some os2 =>
          rw [e2] at ea1
          have e3 := Option.some.inj ea1
          subst e3
          obtain ⟨fpR, fpA, h1, h2, h3, h5⟩ := ih ys vs os2 env fp fq nd hl ht e2 r
          refine ⟨fpR, fpv ++ fpA, .cons hr h1, fun h => ?_, fun p hp => ?_, fun F' H' os' fp' ex k ro => ?_⟩
          · have q1 : (fp ++ fq).Nodup := by
              simp only [List.nodup_append, List.mem_append] at *
              grind
            have q2 := h2 q1
            have out : ∀ p ∈ fpv, p ∉ fp ++ fq := fun p hp z => by
              simp only [List.nodup_append, List.mem_append] at *
              grind
            have nv : fpv.Nodup := by
              simp only [List.nodup_append, List.mem_append] at *
              grind
            rw [List.nodup_append] at q2 ⊢
            refine ⟨q2.1, ?_, fun a ha b hb z => ?_⟩
            · rw [List.nodup_append]
              exact ⟨nv, q2.2.1, fun a ha b hb z => out a ha (by rw [z]; exact h3 b (List.mem_append_right _ hb))⟩
            · rcases List.mem_append.mp hb with hb | hb
              · exact out b hb (by rw [← z]; exact h3 a (List.mem_append_left _ ha))
              · exact q2.2.2 a ha b hb z
          · rcases List.mem_append.mp hp with hp | hp
            · have z := h3 p (List.mem_append_left _ hp)
              simp only [List.mem_append] at *
              grind
            · rcases List.mem_append.mp hp with hp | hp
              · simp [hp]
              · have z := h3 p (List.mem_append_right _ hp)
                simp only [List.mem_append] at *
                grind
          · cases ro with
            | @cons _ o' _ os'' fq' fp'' ro1 ro2 =>
              obtain ⟨fpN, k1, k2, k3⟩ := h5 F' H' os'' fp'' ex k ro2
              refine ⟨fpN, k1, fun p hp => (k2 p hp).imp id fun z => List.mem_append_right _ z, fun h => k3 ?_⟩
              rw [List.nodup_append] at h ⊢
              rw [List.nodup_append] at h
              exact ⟨h.1, h.2.1.2.1, fun a ha b hb => h.2.2 a ha b (List.mem_append_right _ hb)⟩
    | pk i =>
      cases rt0 with
      | @pk _ _ ys v vs _ hv ht =>
        have ea1 : (match getO env i, argsOf as ys env with
          | some o, some os => some (o :: os)
          | _, _ => none) = some os := ea
        have nd' : i ∉ pks as ∧ (pks as).Nodup := List.nodup_cons.mp nd
        have hi : i < σ.length := hl i (List.mem_cons_self ..)
        cases e4 : getO env i with
        | none =>
          rw [e4] at ea1
          cases ea1
        | some o =>
          cases e2 : argsOf as ys env with
          | none =>
            rw [e4, e2] at ea1
            cases ea1
          | some os2 =>
            rw [e4, e2] at ea1
            have e3 := Option.some.inj ea1
            subst e3
            obtain ⟨w, fa, fq, fb, g1, g2, g3, g4⟩ := r.at i _ (getO_some e4)
            have hw : w = some v := by
              rw [List.getElem?_append_left hi] at g1
              rw [show σ[i]? = some (some v) from hv] at g1
              exact (Option.some.inj g1).symm
            subst hw
            obtain ⟨v', z1, ro⟩ := g3
            cases z1
            have r0 := g4 F H (some v) none [] (Evl.Ex.refl _) (fun _ _ => rfl) rfl
            rw [set_self g1, List.append_nil] at r0
            have args0 : argsOf as ys (env.set i none) = some os2 := by
              have key : ∀ (as : List Opd) (ys : List (Option O)), i ∉ pks as → argsOf as ys (env.set i none) = argsOf as ys env := by
                intro as
                induction as with
                | nil => intro ys _; rfl
                | cons a as ih =>
                  intro ys h
                  cases a with
                  | ev f =>
                    show (match ys.headD none, argsOf as ys.tail (env.set i none) with
                      | some o, some os => some (o :: os)
                      | _, _ => none) = (match ys.headD none, argsOf as ys.tail env with
                      | some o, some os => some (o :: os)
                      | _, _ => none)
                    rw [ih _ h]
                  | pk j =>
                    have ne : i ≠ j := fun z => h (by rw [z]; exact List.mem_cons_self ..)
                    show (match getO (env.set i none) j, argsOf as ys.tail (env.set i none) with
                      | some o, some os => some (o :: os)
                      | _, _ => none) = (match getO env j, argsOf as ys.tail env with
                      | some o, some os => some (o :: os)
                      | _, _ => none)
                    rw [ih _ fun z => h (List.mem_cons_of_mem _ z)]
                    have e : getO (env.set i none) j = getO env j := by
                      unfold getO
                      rw [List.getElem?_set_ne ne]
                    rw [e]
              rw [key as ys nd'.1, e2]
            obtain ⟨fpR, fpA, h1, h2, h3, h5⟩ := ih ys vs os2 (env.set i none) (fa ++ fb) fr nd'.2 (fun j hj => hl j (List.mem_cons_of_mem _ hj)) ht args0 r0
            refine ⟨fpR, fq ++ fpA, .cons ro h1, fun h => ?_, fun p hp => ?_, fun F' H' os' fp' ex k ro' => ?_⟩
            · rw [g2] at h
              have q1 : (fa ++ fb ++ fr).Nodup := by
                simp only [List.nodup_append, List.mem_append] at *
                grind
              have q2 := h2 q1
              have out : ∀ p ∈ fq, p ∉ fa ++ fb ++ fr := fun p hp z => by
                simp only [List.nodup_append, List.mem_append] at *
                grind
              have nq : fq.Nodup := by
                simp only [List.nodup_append, List.mem_append] at *
                grind
              rw [List.nodup_append] at q2 ⊢
              refine ⟨q2.1, ?_, fun a ha b hb z => ?_⟩
              · rw [List.nodup_append]
                exact ⟨nq, q2.2.1, fun a ha b hb z => out a ha (by rw [z]; exact h3 b (List.mem_append_right _ hb))⟩
              · rcases List.mem_append.mp hb with hb | hb
                · exact out b hb (by rw [← z]; exact h3 a (List.mem_append_left _ ha))
                · exact q2.2.2 a ha b hb z
            · rw [g2]
              rcases List.mem_append.mp hp with hp | hp
              · have z := h3 p (List.mem_append_left _ hp)
                simp only [List.mem_append] at *
                grind
              · rcases List.mem_append.mp hp with hp | hp
                · simp [hp]
                · have z := h3 p (List.mem_append_right _ hp)
                  simp only [List.mem_append] at *
                  grind
            · cases ro' with
              | @cons _ o' _ os'' fq' fp'' ro1 ro2 =>
                obtain ⟨fpN, k1, k2, k3⟩ := h5 F' H' os'' fp'' ex k ro2
                have hn : (putBack as os'' (env.set i none))[i]? = some none := by
                  rw [putBack_get as os'' _ nd'.1]
                  have hl2 : i < env.length := (List.getElem?_eq_some_iff.mp (getO_some e4)).1
                  exact List.getElem?_set_self hl2
                obtain ⟨w, ga, gq, gb, m1, m2, m3, m4⟩ := k1.at i none hn
                have m3 : gq = [] := m3
                subst m3
                have z := m4 F' H' (some v) (some o') fq' (Evl.Ex.refl _) (fun _ _ => rfl) ⟨v, rfl, ro1⟩
                rw [set_self g1, putBack_set as os'' env nd'.1] at z
                rw [List.append_nil] at m2
                refine ⟨ga ++ fq' ++ gb, z, fun p hp => ?_, fun h => ?_⟩
                · have z2 : p ∈ fq' ∨ p ∈ fpN := by
                    rw [m2]
                    simp only [List.mem_append] at *
                    grind
                  rcases z2 with z2 | z2
                  · exact .inr (List.mem_append_left _ z2)
                  · exact (k2 p z2).imp id fun z => List.mem_append_right _ z
                · have nN : fpN.Nodup := k3 (by
                    rw [List.nodup_append] at h ⊢
                    rw [List.nodup_append] at h
                    exact ⟨h.1, h.2.1.2.1, fun a ha b hb => h.2.2 a ha b (List.mem_append_right _ hb)⟩)
                  have dj : ∀ a ∈ fq', a ∉ fpN := fun a ha hb => by
                    rw [List.nodup_append] at h
                    rw [List.nodup_append] at h
                    rcases k2 a hb with z | z
                    · exact h.2.2 a z a (List.mem_append_left _ ha) rfl
                    · exact h.2.1.2.2 a ha a z rfl
                  have nq : fq'.Nodup := by
                    rw [List.nodup_append] at h
                    rw [List.nodup_append] at h
                    exact h.2.1.1
                  rw [m2] at nN dj
                  simp only [List.nodup_append, List.mem_append] at *
                  grind
end
end DL
end

section
set_option Elab.async false
set_option linter.all false
set_option maxRecDepth 100000
set_option maxHeartbeats 1000000
namespace DL
open PySem PySem.Spec PyProof.Rows L2
section
variable {X : Cx} {C : Ctx} {W : WX} {s s1 : S0} {env : Env} {e a b c : Expr} {pos : Pos} {f g : ES}
theorem RepOs.append {B : Base} {F H : Hp} : ∀ {vs : List V} {os : List O} {fp : List Addr} {ws : List V} {ds : List D}, RepOs B F H vs os fp → RepDs B F ws ds → RepOs B F H (vs ++ ws) (os ++ ds.map .fro) fp
  | _, _, _, _, _, .nil, r => by
    have key : ∀ {ws : List V} {ds : List D}, RepDs B F ws ds → RepOs B F H ws (ds.map .fro) [] := by
      intro ws ds r
      induction ds generalizing ws with
      | nil =>
        cases r
        exact .nil
      | cons d ds ih =>
        cases r with
        | cons r1 r2 => exact .cons (fp := []) (fq := []) (.fro r1) (ih r2)
    exact key r
  | _, _, _, _, _, .cons h hs, r => .cons h (hs.append r)
theorem RepOs.splitA {B : Base} {F H : Hp} : ∀ {vs ws : List V} {os : List O} {fp : List Addr}, RepOs B F H (vs ++ ws) os fp → ∃ os1 os2 fa fb, os = os1 ++ os2 ∧ fp = fa ++ fb ∧ RepOs B F H vs os1 fa ∧ os1.length = vs.length
  | [], _, os, fp, _ => ⟨[], os, [], fp, rfl, rfl, .nil, rfl⟩
  | _ :: vs, ws, _, _, .cons (o := o) (fp := fp) h r => by
    obtain ⟨os1, os2, fa, fb, e1, e2, e3, e4⟩ := RepOs.splitA r
    exact ⟨o :: os1, os2, fp ++ fa, fb, by rw [e1]; rfl, by rw [e2, List.append_assoc], .cons h e3, congrArg (· + 1) e4⟩
theorem putBack_app : ∀ (as : List Opd) (os1 os2 : List O) (env : Env), os1.length = as.length → putBack as (os1 ++ os2) env = putBack as os1 env
  | [], [], os2, env, _ => by cases os2 <;> rfl
  | [], _ :: _, _, _, h => by cases h
  | _ :: _, [], _, _, h => by cases h
  | .pk i :: as, o :: os1, os2, env, h => putBack_app as os1 os2 _ (Nat.succ.inj h)
  | .ev f :: as, o :: os1, os2, env, h => putBack_app as os1 os2 _ (Nat.succ.inj h)
theorem ArgV.len {B : Base} {F H : Hp} {σ : L2.St} : ∀ {as : List Opd} {xs : List (Option O)} {vs : List V} {fr : List Addr}, ArgV B F H σ as xs vs fr → vs.length = as.length
  | _, _, _, _, .nil => rfl
  | _, _, _, _, .ev _ r => congrArg (· + 1) r.len
  | _, _, _, _, .pk _ r => congrArg (· + 1) r.len
/-- what was lent comes back -/
theorem lend_back {as : List Opd} {dvs : List V} {env1 : Env} {vs : List V} {H1 : Hp} {fpX fpR fpA fr0 : List Addr} (g : Got C s s1 env1 fr0) (lfr : ∀ p ∈ fr0, ∃ o, s1.H p = some o) (lenv : vs.length = as.length) (eH : Ex s1.H H1) (fx : ∀ a ∈ fpX, s1.H a = none)
    (nRA : (fpR ++ fpA).Nodup) (l3 : ∀ p, p ∈ fpR ++ fpA → p ∈ s1.fp ++ fr0)
    (l5 : ∀ (F' H' : Hp) (os' : List O) (fp' : List Addr), Ex s1.F F' → (∀ p ∈ fpR, H' p = s1.H p) → RepOs C.B F' H' vs os' fp' → ∃ fpN, RepE C.B F' H' (s1.σ ++ C.xs) (putBack as os' env1) fpN ∧ (∀ p ∈ fpN, p ∈ fpR ∨ p ∈ fp') ∧ ((fpR ++ fp').Nodup → fpN.Nodup))
    {F' H' : Hp} {os' : List O} {fp' fr' : List Addr} (sf : StepF s1.F H1 (fpX ++ fpA) F' H' (fp' ++ fr')) (ex' : Ex F' H') (ro : RepOs C.B F' H' (vs ++ dvs) os' fp') (ndf : (fp' ++ fr').Nodup) (nf' : ∀ p ∈ fp' ++ fr', F' p = none) :
    ∃ fpN, Got C s ⟨s1.σ, F', H', fpN⟩ (putBack as os' env1) fr' := by
  rw [List.nodup_append] at nRA
  have x0 := g.step
  have lies : ∀ p ∈ s1.fp ++ fr0, ∃ o, s1.H p = some o := fun p hp => (List.mem_append.mp hp).elim (g.st.rep.lies p) (lfr p)
  have nfs : ∀ p ∈ s1.fp ++ fr0, s1.F p = none := fun p hp => (List.mem_append.mp hp).elim (g.st.nf p) (g.nf p)
  obtain ⟨os1, os2, fa, fb, e1, e2, ro1, len1⟩ := ro.splitA
  have nX : ∀ a o, s1.H a = some o → a ∉ fpX := fun a o h z => by
    rw [fx a z] at h
    cases h
  have back1 : ∀ a, H1 a = none → s1.H a = none := fun a h => by
    rcases none_or (H := s1.H) a with z | ⟨o, z⟩
    · exact z
    · rw [eH a o z] at h
      cases h
  have keepR : ∀ p ∈ fpR, H' p = s1.H p := fun p hp => by
    obtain ⟨ob, h⟩ := lies p (l3 p (List.mem_append_left _ hp))
    rw [h]
    exact sf.keep p ob (eH p ob h) fun z => (List.mem_append.mp z).elim (nX p ob h) fun z => nRA.2.2 p hp p z rfl
  obtain ⟨fpN, k1, k2, k3⟩ := l5 F' H' os1 fa sf.exF keepR ro1
  rw [← putBack_app as os1 os2 env1 (by rw [len1, lenv]), ← e1] at k1
  rw [e2] at ndf nf' sf
  have newS : ∀ a, a ∈ (fa ++ fb) ++ fr' → a ∈ fpA ∨ s1.H a = none := fun a ha => by
    rcases sf.new a ha with z | z
    · rcases List.mem_append.mp z with z | z
      · exact .inr (fx a z)
      · exact .inl z
    · exact .inr (back1 a z)
  have djR : ∀ p ∈ fpR, p ∉ (fa ++ fb) ++ fr' := fun p hp z => by
    rcases newS p z with z | z
    · exact nRA.2.2 p hp p z rfl
    · obtain ⟨ob, h⟩ := lies p (l3 p (List.mem_append_left _ hp))
      rw [h] at z
      cases z
  have ndf2 := ndf
  rw [List.nodup_append] at ndf2
  have ndfa := ndf2.1
  rw [List.nodup_append] at ndfa
  have nN : fpN.Nodup := k3 (by
    rw [List.nodup_append]
    exact ⟨nRA.1, ndfa.1, fun a ha b hb z => djR a ha (by rw [z]; simp [hb])⟩)
  have inA : ∀ a o, s.H a = some o → a ∉ s.fp → a ∉ fpX ++ fpA := fun a o h hn z => by
    rcases List.mem_append.mp z with z | z
    · exact nX a o (x0.keep a o h hn) z
    · rcases x0.new a (l3 a (List.mem_append_right _ z)) with z | z
      · exact hn z
      · rw [h] at z
        cases z
  refine ⟨fpN, g.sl, ⟨x0.exF.trans sf.exF, fun a o h hn => sf.keep a o (eH a o (x0.keep a o h hn)) (inA a o h hn), fun a o h hf hn => sf.nof a o (eH a o (x0.keep a o h hn)) (x0.nof a o h hf hn) (inA a o h hn), fun a ha => ?_, x0.sl⟩, ⟨ex', k1, nN, fun p hp => ?_, g.st.len, g.st.xe⟩, ?_, fun p hp => nf' p (List.mem_append_right _ hp)⟩
  · have key : a ∈ fpA ∨ s1.H a = none → a ∈ s.fp ∨ s.H a = none := fun z => by
      rcases z with z | z
      · exact x0.new a (l3 a (List.mem_append_right _ z))
      · rcases none_or (H := s.H) a with h | ⟨o, h⟩
        · exact .inr h
        · by_cases hn : a ∈ s.fp
          · exact .inl hn
          · rw [x0.keep a o h hn] at z
            cases z
    have ha : a ∈ fpN ++ fr' := ha
    rcases List.mem_append.mp ha with ha | ha
    · rcases k2 a ha with z | z
      · exact x0.new a (l3 a (List.mem_append_left _ z))
      · exact key (newS a (by simp [z]))
    · exact key (newS a (by simp [ha]))
  · rcases k2 p hp with z | z
    · obtain ⟨ob, h⟩ := lies p (l3 p (List.mem_append_left _ z))
      exact sf.nof p ob (eH p ob h) (nfs p (l3 p (List.mem_append_left _ z))) fun y => (List.mem_append.mp y).elim (nX p ob h) fun y => nRA.2.2 p z p y rfl
    · exact nf' p (by simp [z])
  · rw [List.nodup_append]
    refine ⟨nN, ndf2.2.1, fun a ha b hb z => ?_⟩
    subst z
    rcases k2 a ha with z | z
    · exact djR a z (by simp [hb])
    · exact ndf2.2.2 a (List.mem_append_left _ z) a hb rfl
/-- a def is run -/
theorem callE_fin {m : FS} {as : List Opd} {dds : List D} {dvs : List V} {xs : List (Option O)} {env1 : Env} {vs : List V} {fr : List Addr} {Q : VK} {n : Nat} (nd : (pks as).Nodup) (hl : ∀ i ∈ pks as, i < C.n) (hd : ∀ F, RepDs C.B F dvs dds) (hn : as.length + dvs.length = n)
    (g : Got C s s1 env1 fr) (rt : RepTs C s1 as xs vs fr) (q : FinE C W Q s (callE m as dds (xs, env1))) : spOf C.B n m (vs ++ dvs) s1.H Q (WE W s.σ) := by
  have av := rt.args
  refine ⟨by rw [List.length_append, av.len]; exact hn, ?_⟩
  unfold callE at q
  cases ea : argsOf as xs env1 with
  | none =>
    rw [ea] at q
    exact False.elim q
  | some os =>
    rw [ea] at q
    obtain ⟨fpR, fpA, l1, l2, l3, l5⟩ := lend as xs vs os env1 s1.fp fr nd (fun i hi => by rw [g.st.len]; exact hl i hi) av ea g.st.rep
    have nRA := l2 g.nd
    have nfs : ∀ p ∈ s1.fp ++ fr, s1.F p = none := fun p hp => (List.mem_append.mp hp).elim (g.st.nf p) (g.nf p)
    refine ⟨s1.F, os ++ dds.map .fro, fpA, g.st.ex, l1.append (hd _), (List.nodup_append.mp nRA).2.1, fun p hp => nfs p (l3 p (List.mem_append_right _ hp)), ?_⟩
    have q1 : FinE C W Q s (match m (os ++ dds.map .fro) with
      | .ok o os' => .ok (o, putBack as os' env1)
      | .err c ns ds os' => .err c ns ds (putBack as os' env1)
      | .stuck => .stuck) := q
    cases em : m (os ++ dds.map .fro) with
    | stuck =>
      rw [em] at q1
      exact q1
    | ok o os' =>
      rw [em] at q1
      intro v F' H' fp' fr' sf ex' ro r ndf nf'
      obtain ⟨fpN, gg⟩ := lend_back (fpX := []) g av.lies av.len (Evl.Ex.refl _) (fun _ h => by cases h) nRA l3 l5 sf ex' ro ndf nf'
      exact q1 v _ fr' gg r
    | err c ns ds os' =>
      rw [em] at q1
      intro F' H' fp' dx sf ex' ro ndf nf' xr
      obtain ⟨fpN, gg⟩ := lend_back (fpX := []) (fr' := []) g av.lies av.len (Evl.Ex.refl _) (fun _ h => by cases h) nRA l3 l5 (by rw [List.append_nil]; exact sf) ex' ro (by rw [List.append_nil]; exact ndf) (by rw [List.append_nil]; exact nf')
      have z := q1 _ dx gg.step0 gg.st xr
      show W (.ref (C.B.cA c)) dx s.σ H'
      rw [← g.sl]
      exact z
/-- an instance is made -/
def makeE (c : Str) (m : FS) (as : List Opd) (dds : List D) (q : List (Option O) × Env) : R (O × Env) := match argsOf as q.1 q.2 with
  | some os => (match m (.own (.ins c []) [] :: (os ++ dds.map .fro)) with
    | .ok (.fro .non) (o :: os') => .ok (o, putBack as os' q.2)
    | .err c' ns ds (_ :: os') => .err c' ns ds (putBack as os' q.2)
    | _ => .stuck)
  | none => .stuck
def eMake (c : Str) (m : FS) (as : List Opd) (dds : List D) : ES := fun env => (goAll as env).bind (makeE c m as dds)
theorem makeE_fin {m : FS} {c : Str} {as : List Opd} {dds : List D} {dvs : List V} {xs : List (Option O)} {env1 : Env} {vs : List V} {fr : List Addr} {Q : VK} {n : Nat} (nd : (pks as).Nodup) (hl : ∀ i ∈ pks as, i < C.n) (hd : ∀ F, RepDs C.B F dvs dds) (hn : as.length + 1 + dvs.length = n)
    (g : Got C s s1 env1 fr) (rt : RepTs C s1 as xs vs fr) (q : FinE C W Q s (makeE c m as dds (xs, env1))) (x dx : Addr) (hx : s1.H x = none) (hdx : s1.H dx = none) (hne : dx ≠ x) :
    spOf C.B n m (.ref x :: (vs ++ dvs)) (upd (upd s1.H dx (.own x)) x (.ins (C.B.cA c) dx [])) (fun v H2 => v = .non ∧ Q (.ref x) H2) (WE W s.σ) := by
  have av := rt.args
  refine ⟨by rw [List.length_cons, List.length_append, av.len]; omega, ?_⟩
  unfold makeE at q
  cases ea : argsOf as xs env1 with
  | none =>
    rw [ea] at q
    exact False.elim q
  | some os =>
    rw [ea] at q
    obtain ⟨fpR, fpA, l1, l2, l3, l5⟩ := lend as xs vs os env1 s1.fp fr nd (fun i hi => by rw [g.st.len]; exact hl i hi) av ea g.st.rep
    have nRA := l2 g.nd
    have lies : ∀ p ∈ s1.fp ++ fr, ∃ o, s1.H p = some o := fun p hp => (List.mem_append.mp hp).elim (g.st.rep.lies p) (av.lies p)
    have nfs : ∀ p ∈ s1.fp ++ fr, s1.F p = none := fun p hp => (List.mem_append.mp hp).elim (g.st.nf p) (g.nf p)
    have e1 : Ex s1.H (upd s1.H dx (.own x)) := Evl.Ex.new hdx
    have hx1 : (upd s1.H dx (.own x)) x = none := by
      rw [upd_ne (Ne.symm hne)]
      exact hx
    have eH : Ex s1.H (upd (upd s1.H dx (.own x)) x (.ins (C.B.cA c) dx [])) := e1.trans (Evl.Ex.new hx1)
    have sx : ∀ p ∈ fpA, ∃ ob, s1.H p = some ob := fun p hp => lies p (l3 p (List.mem_append_right _ hp))
    have same : ∀ p ∈ fpA, upd (upd s1.H dx (.own x)) x (.ins (C.B.cA c) dx []) p = s1.H p := fun p hp => by
      obtain ⟨ob, h⟩ := sx p hp
      rw [h]
      exact eH p ob h
    have nfx : s1.F x = none := by
      rcases none_or (H := s1.F) x with z | ⟨o, z⟩
      · exact z
      · rw [g.st.ex x o z] at hx
        cases hx
    refine ⟨s1.F, .own (.ins c []) [] :: (os ++ dds.map .fro), [x] ++ fpA, g.st.ex.trans eH, .cons (.own ⟨dx, upd_same, rfl⟩ .nil) ((l1.append (hd _)).mono (Evl.Ex.refl _) same), ?_, fun p hp => ?_, ?_⟩
    · show (x :: fpA).Nodup
      rw [List.nodup_cons]
      refine ⟨fun z => ?_, (List.nodup_append.mp nRA).2.1⟩
      obtain ⟨ob, h⟩ := sx x z
      rw [hx] at h
      cases h
    · rcases List.mem_cons.mp (show p ∈ x :: fpA from hp) with z | hp
      · rw [z]
        exact nfx
      · exact nfs p (l3 p (List.mem_append_right _ hp))
    · have fxx : ∀ a ∈ [x], s1.H a = none := fun a ha => by
        rw [List.mem_singleton.mp ha]
        exact hx
      have q1 : FinE C W Q s (match m (.own (.ins c []) [] :: (os ++ dds.map .fro)) with
        | .ok (.fro .non) (o :: os') => .ok (o, putBack as os' env1)
        | .err c' ns ds (_ :: os') => .err c' ns ds (putBack as os' env1)
        | _ => .stuck) := q
      cases em : m (.own (.ins c []) [] :: (os ++ dds.map .fro)) with
      | stuck =>
        rw [em] at q1
        exact q1
      | ok o os' =>
        rw [em] at q1
        cases os' with
        | nil =>
          split at q1
          · rename_i z
            cases z
          · rename_i z
            cases z
          · exact False.elim q1
        | cons o1 os' =>
          cases o with
          | own _ _ => exact False.elim q1
          | tree _ _ => exact False.elim q1
          | fro d =>
            cases d with
            | non =>
              have q2 : FinE C W Q s (.ok (o1, putBack as os' env1)) := q1
              intro v F' H' fp' fr' sf ex' ro r ndf nf'
              cases ro with
              | @cons _ _ _ _ fs fp'' ro1 ro2 =>
                have ev : v = .non ∧ fr' = [] := by
                  cases r with
                  | fro r =>
                    cases r
                    exact ⟨rfl, rfl⟩
                obtain ⟨ev, efr⟩ := ev
                subst efr
                refine ⟨ev, ?_⟩
                rw [List.append_nil] at sf ndf nf'
                obtain ⟨fpN, gg⟩ := lend_back (fpX := [x]) (fr' := fs) g av.lies av.len eH fxx nRA l3 l5 ⟨sf.exF, sf.keep, sf.nof, fun a ha => sf.new a (by
                  rcases List.mem_append.mp ha with z | z
                  · exact List.mem_append_right _ z
                  · exact List.mem_append_left _ z)⟩ ex' ro2 (by
                  rw [List.nodup_append] at ndf ⊢
                  exact ⟨ndf.2.1, ndf.1, fun a ha b hb z => ndf.2.2 b hb a ha z.symm⟩) (fun p hp => nf' p (by
                  rcases List.mem_append.mp hp with z | z
                  · exact List.mem_append_right _ z
                  · exact List.mem_append_left _ z))
                exact q2 (.ref x) _ fs gg ro1
            | _ => exact False.elim q1
      | err c' ns ds os' =>
        rw [em] at q1
        cases os' with
        | nil => exact False.elim q1
        | cons o1 os' =>
          have q2 : FinE C W Q s (.err c' ns ds (putBack as os' env1)) := q1
          intro F' H' fp' dx' sf ex' ro ndf nf' xr
          cases ro with
          | @cons _ _ _ _ fs fp'' ro1 ro2 =>
            obtain ⟨fpN, gg⟩ := lend_back (fpX := [x]) (fr' := []) g av.lies av.len eH fxx nRA l3 l5 ⟨sf.exF, sf.keep, sf.nof, fun a ha => sf.new a (by
              rw [List.append_nil] at ha
              exact List.mem_append_right _ ha)⟩ ex' ro2 (by
              rw [List.append_nil]
              exact (List.nodup_append.mp ndf).2.1) (fun p hp => nf' p (by
              rw [List.append_nil] at hp
              exact List.mem_append_right _ hp))
            have z := q2 _ dx' gg.step0 gg.st xr
            show W (.ref (C.B.cA c')) dx' s.σ H'
            rw [← g.sl]
            exact z
theorem call_of {m : FS} {as : List Opd} {dds : List D} {dvs : List V} {n : Nat} (ok : ∀ a ∈ as, a.Ok C.n) (nd : (pks as).Nodup) (hd : ∀ F, RepDs C.B F dvs dds) (hn : as.length + dvs.length = n) {σ : L2.St} {H : Hp} {Q : VK} (h : teOf C W (eCall m as dds) σ H Q) :
    tAll (as.map (toT C W)) σ H fun vs H1 => spOf C.B n m (vs ++ dvs) H1 Q (WE W σ) := by
  obtain ⟨F, fp, env, st, q⟩ := h
  refine ta_all as ok ⟨σ, F, H, fp⟩ env _ st ?_
  have q1 : FinE C W Q ⟨σ, F, H, fp⟩ ((goAll as env).bind (callE m as dds)) := q
  have hl : ∀ i ∈ pks as, i < C.n := by
    have key : ∀ as : List Opd, (∀ a ∈ as, a.Ok C.n) → ∀ i ∈ pks as, i < C.n := by
      intro as
      induction as with
      | nil => intro _ i hi; cases hi
      | cons a as ih =>
        intro ok i hi
        cases a with
        | ev f => exact ih (fun b hb => ok b (List.mem_cons_of_mem _ hb)) i hi
        | pk j =>
          rcases List.mem_cons.mp hi with rfl | hi
          · exact ok (.pk i) (List.mem_cons_self ..)
          · exact ih (fun b hb => ok b (List.mem_cons_of_mem _ hb)) i hi
    exact key as ok
  cases e : goAll as env with
  | ok r1 =>
    obtain ⟨xs, env1⟩ := r1
    rw [e] at q1
    intro vs s1 fr g rt
    exact callE_fin nd hl hd hn g rt q1
  | err c ns ds env1 =>
    rw [e] at q1
    exact q1
  | stuck =>
    rw [e] at q1
    exact q1
/-- f(e, ..), f a def of the text -/
theorem c_call {CX : CXT} {k : Nat} {fa : Addr} {fd : FuncData} {ps : List Str} {m : FS} {as : List Opd} {dds : List D} {dvs : List V} {dus : List Value} {x : Str} {p : Pos} {es : List Expr} {n : Nat} (F : FnOk X.prog X.w X.K X.mg X.base CX k fa fd ps (spOf C.B n m)) (hr : Room k X.A) (hg : Gl X x) (hm : X.mg x = some (.ref fa)) (hk : PySem.W.keepIn X.K (.ref fa) = true) (hb : Binds X.K fd ps dus) (hd : Vals dvs dus)
    (hx : ∀ σ, PassesAt CX X σ (WE W σ)) (ha : CArgs X C W (e :: es) as) (hdd : ∀ F, RepDs C.B F dvs dds) (hn : as.length + dvs.length = n := by rfl) (nd : (pks as).Nodup := by exact of_decide_eq_true rfl) (hdb : (x == ("__debug__" : Str)) = false := by decide) (he : starEach (e :: es) X.env = (false, eval e X.env) :: starEach es X.env := by rfl) (hpl : (backTo pos (starEach es X.env)).any (·.1) = false := by rfl) :
    PE X (.Call (.Name x p) (e :: es) [] pos) (teOf C W (eCall m as dds)) :=
  PE_to (pe_callSD F hr hg hm hk hb hd hx ha.1 hdb he hpl) fun σ H Q q => call_of ha.2 nd hdd hn q
/-! ### methods, properties, instances -/
def O.tag? : O → Option Tag
  | .fro (.node t _) => some t
  | .own t _ => some t
  | .tree t _ => some t
  | _ => none
def isCls (c mn : Str) (o : Option O) : Bool := match o with
  | some o => (match o.tag? with
    | some (.ins c' ns) => decide (c' = c) && !ns.contains mn
    | _ => false)
  | none => false
def eMeth (c mn : Str) (m : FS) (a : Opd) (as : List Opd) (dds : List D) : ES := fun env => (a.go env).bind fun r => if isCls c mn (a.fin r.1 r.2) = true then (goAll as r.2).bind fun q => callE m (a :: as) dds (r.1 :: q.1, q.2) else .stuck
def tMethS (C : Addr) (m : Str) (sp : Sp) (dvs : List V) (E : L2.St → XK) (ta : TE) (t : TA) : TE := fun σ H Q => ta σ H fun x H1 => ∃ a dx fs, x = .ref a ∧ H1 a = some (.ins C dx fs) ∧ fs.lookup m = none ∧
  t σ H1 fun vs H2 => sp (x :: (vs ++ dvs)) H2 Q (E σ)
theorem zip_lookup_none {mn : Str} : ∀ {ns : List Str} {vs : List V}, ns.contains mn = false → (ns.zip vs).lookup mn = none
  | [], _, _ => rfl
  | _ :: _, [], _ => rfl
  | n :: ns, v :: vs, h => by
    rw [List.contains_cons, Bool.or_eq_false_iff] at h
    show List.lookup mn ((n, v) :: ns.zip vs) = none
    rw [List.lookup_cons, h.1]
    exact zip_lookup_none h.2
theorem isCls_lies {F H : Hp} {v : V} {o : O} {fr : List Addr} {c mn : Str} {B : Base} (ex : Ex F H) (r : RepO B F H v o fr) (h : isCls c mn (some o) = true) : ∃ a dx fs, v = .ref a ∧ H a = some (.ins (B.cA c) dx fs) ∧ fs.lookup mn = none := by
  have key : ∀ {t : Tag}, o.tag? = some t → ∃ c' ns, t = .ins c' ns ∧ c' = c ∧ ns.contains mn = false := by
    intro t ht
    have h1 : (match o.tag? with
      | some (.ins c' ns) => decide (c' = c) && !ns.contains mn
      | _ => false) = true := h
    rw [ht] at h1
    cases t with
    | ins c' ns =>
      have h2 : (decide (c' = c) && !ns.contains mn) = true := h1
      obtain ⟨h3, h4⟩ := Bool.and_eq_true_iff.mp h2
      exact ⟨c', ns, rfl, of_decide_eq_true h3, by simpa using h4⟩
    | _ => cases h1
  cases r with
  | fro r =>
    cases r with
    | @node a t vs ds hs rs =>
      obtain ⟨c', ns, rfl, rfl, h2⟩ := key (t := t) rfl
      obtain ⟨dx, h3, _⟩ := hs
      exact ⟨a, dx, _, rfl, ex _ _ h3, zip_lookup_none h2⟩
    | _ => cases h
  | @own a t vs ds hs rs =>
    obtain ⟨c', ns, rfl, rfl, h2⟩ := key (t := t) rfl
    obtain ⟨dx, h3, _⟩ := hs
    exact ⟨a, dx, _, rfl, h3, zip_lookup_none h2⟩
  | @tree a t vs os fp hs rs =>
    obtain ⟨c', ns, rfl, rfl, h2⟩ := key (t := t) rfl
    obtain ⟨dx, h3, _⟩ := hs
    exact ⟨a, dx, _, rfl, h3, zip_lookup_none h2⟩
theorem pks_ok : ∀ {as : List Opd}, (∀ a ∈ as, a.Ok C.n) → ∀ i ∈ pks as, i < C.n := by
  intro as
  induction as with
  | nil => intro _ i hi; cases hi
  | cons a as ih =>
    intro ok i hi
    cases a with
    | ev f => exact ih (fun b hb => ok b (List.mem_cons_of_mem _ hb)) i hi
    | pk j =>
      rcases List.mem_cons.mp hi with rfl | hi
      · exact ok (.pk i) (List.mem_cons_self ..)
      · exact ih (fun b hb => ok b (List.mem_cons_of_mem _ hb)) i hi
theorem meth_of {m : FS} {c mn : Str} {oa : Opd} {as : List Opd} {dds : List D} {dvs : List V} {n : Nat} (ok : ∀ a ∈ oa :: as, a.Ok C.n) (nd : (pks (oa :: as)).Nodup) (hd : ∀ F, RepDs C.B F dvs dds) (hn : as.length + 1 + dvs.length = n) {σ : L2.St} {H : Hp} {Q : VK} (h : teOf C W (eMeth c mn m oa as dds) σ H Q) :
    tMethS (C.B.cA c) mn (spOf C.B n m) dvs (WE W) (toT C W oa) (tAll (as.map (toT C W))) σ H Q := by
  obtain ⟨F, fp, env, st, q⟩ := h
  have oks : ∀ a ∈ as, a.Ok C.n := fun a ha => ok a (List.mem_cons_of_mem _ ha)
  have q1 : FinE C W Q ⟨σ, F, H, fp⟩ ((oa.go env).bind fun r => if isCls c mn (oa.fin r.1 r.2) = true then (goAll as r.2).bind fun q => callE m (oa :: as) dds (r.1 :: q.1, q.2) else .stuck) := q
  cases oa with
  | ev f =>
    refine ⟨F, fp, env, st, ?_⟩
    have q2 : FinE C W Q ⟨σ, F, H, fp⟩ (((f env).bind fun r => .ok (some r.1, r.2)).bind fun r => if isCls c mn ((Opd.ev f).fin r.1 r.2) = true then (goAll as r.2).bind fun q => callE m (.ev f :: as) dds (r.1 :: q.1, q.2) else .stuck) := q1
    cases e : f env with
    | ok r =>
      obtain ⟨o, env1⟩ := r
      rw [e] at q2
      have q3 : FinE C W Q ⟨σ, F, H, fp⟩ (if isCls c mn (some o) = true then (goAll as env1).bind fun q => callE m (.ev f :: as) dds (some o :: q.1, q.2) else .stuck) := q2
      intro v s1 fr g r
      by_cases hc : isCls c mn (some o) = true
      · rw [if_pos hc] at q3
        obtain ⟨a, dx, fs, h1, h2, h3⟩ := isCls_lies g.st.ex r hc
        refine ⟨a, dx, fs, h1, h2, h3, ?_⟩
        have es : s1.σ = σ := g.sl
        rw [← es]
        refine ta_all as oks s1 env1 _ g.st ?_
        cases e2 : goAll as env1 with
        | ok r2 =>
          obtain ⟨xs, env2⟩ := r2
          rw [e2] at q3
          intro vs s2 fr2 g2 rt
          have z := callE_fin (as := .ev f :: as) nd (pks_ok ok) hd hn (g.hold r.lies g2) (.ev (g.rep r (fun _ hp => hp) g2) rt) q3
          rw [es]
          exact z
        | err c ns ds env2 =>
          rw [e2] at q3
          exact XFin.later q3 g.stepOf
        | stuck =>
          rw [e2] at q3
          exact q3
      · rw [if_neg hc] at q3
        exact False.elim q3
    | err c ns ds env1 =>
      rw [e] at q2
      exact q2
    | stuck =>
      rw [e] at q2
      exact q2
  | pk i =>
    have q2 : FinE C W Q ⟨σ, F, H, fp⟩ ((match getO env i with
      | some _ => .ok (none, env)
      | none => .stuck : R (Option O × Env)).bind fun r => if isCls c mn ((Opd.pk i).fin r.1 r.2) = true then (goAll as r.2).bind fun q => callE m (.pk i :: as) dds (r.1 :: q.1, q.2) else .stuck) := q1
    cases e : getO env i with
    | none =>
      rw [e] at q2
      exact False.elim q2
    | some o =>
      rw [e] at q2
      have q3 : FinE C W Q ⟨σ, F, H, fp⟩ (if isCls c mn (getO env i) = true then (goAll as env).bind fun q => callE m (.pk i :: as) dds (none :: q.1, q.2) else .stuck) := q2
      rw [e] at q3
      obtain ⟨v, fa, fq, fb, h1, h2, h3, _⟩ := st.slot (show i < C.n from ok _ (List.mem_cons_self ..)) e
      refine ⟨v, h1, ?_⟩
      by_cases hc : isCls c mn (some o) = true
      · rw [if_pos hc] at q3
        obtain ⟨a, dx, fs, k1, k2, k3⟩ := isCls_lies st.ex h3 hc
        refine ⟨a, dx, fs, k1, k2, k3, ?_⟩
        refine ta_all as oks ⟨σ, F, H, fp⟩ env _ st ?_
        cases e2 : goAll as env with
        | ok r2 =>
          obtain ⟨xs, env2⟩ := r2
          rw [e2] at q3
          intro vs s2 fr2 g2 rt
          exact callE_fin (as := .pk i :: as) nd (pks_ok ok) hd hn g2 (.pk (by rw [g2.sl]; exact h1) rt) q3
        | err c ns ds env2 =>
          rw [e2] at q3
          exact q3
        | stuck =>
          rw [e2] at q3
          exact q3
      · rw [if_neg hc] at q3
        exact False.elim q3
end
end DL
end

section
set_option Elab.async false
set_option linter.all false
set_option maxRecDepth 100000
set_option maxHeartbeats 1000000
namespace DL
open PySem PySem.Spec PyProof.Rows L2
section
variable {X : Cx} {C : Ctx} {W : WX} {s s1 : S0} {env : Env} {e a b c o : Expr} {pos apos : Pos} {f g : ES} {CX : CXT} {k : Nat} {fa : Addr} {fd : FuncData} {ps : List Str} {es : List Expr} {mn : Str}
/-! ### methods -/
theorem pe_methSD {sp : Sp} {dvs : List V} {ds : List Value} {E : L2.St → XK} {ta : TE} {t : TA} {Cc : Addr} {pl : Sem Bool} (he : PE X o ta) (c : Cls X.K Cc) (hm : Meth X.K Cc mn fa) (F : FnOk X.prog X.w X.K X.mg X.base CX k fa fd ps sp) (hr : Room k X.A) (hb : Binds X.K fd ps ds) (hd : Vals dvs ds) (hx : ∀ σ, PassesAt CX X σ (E σ)) (ha : PA X (e :: es) t)
    (hst : starEach (e :: es) X.env = (false, eval e X.env) :: starEach es X.env := by rfl) (hpl : (backTo pos (starEach es X.env)).any (·.1) = false := by rfl)
    (ht : eval (.Call (.Attribute o mn apos) (e :: es) [] pos) X.env = (do
      let ov ← eval o X.env
      standAt apos.atName
      let (f, first) ← holding [ov] (getMethod ov mn pl)
      callWith pos f first (backTo pos (starEach (e :: es) X.env)) (backToKw pos (keywordEach [] X.env))) := by rfl) :
    PE X (.Call (.Attribute o mn apos) (e :: es) [] pos) (tMethS Cc mn sp dvs E ta t) := by
  refine ⟨fun pins s σ H Q I h => ?_⟩
  refine PySem.W.methodCall_KW (pl := pl) (thn (he.run pins s σ H _ I h) fun u s1 ⟨x, H1, I1, rx, a, dx, fs, ex, ea, l, q⟩ => ?_) ht
  subst ex
  obtain rfl : u = Value.ref a := rx
  refine getmeth_ok I1 ea c hm l ?_
  refine PySem.W.callWith_K (first := [.ref a]) (h₀ := X.base) I.ok.mod.kin hm.kp (thn (ha.run pos pins s1 σ H1 _ I1 q) fun us s2 ⟨vs, H2, I2, r, q2⟩ => ⟨I2.kIn, ?_⟩) hst hpl
  exact run_fnSD (us := .ref a :: us) (vs := .ref a :: vs) F hr hb hd (hx σ) I2 (.cons rfl r) q2
theorem pe_methSD0 {sp : Sp} {dvs : List V} {ds : List Value} {E : L2.St → XK} {ta : TE} {Cc : Addr} {pl : Sem Bool} (he : PE X o ta) (c : Cls X.K Cc) (hm : Meth X.K Cc mn fa) (F : FnOk X.prog X.w X.K X.mg X.base CX k fa fd ps sp) (hr : Room k X.A) (hb : Binds X.K fd ps ds) (hd : Vals dvs ds) (hx : ∀ σ, PassesAt CX X σ (E σ))
    (ht : eval (.Call (.Attribute o mn apos) [] [] pos) X.env = (do
      let ov ← eval o X.env
      standAt apos.atName
      let (f, first) ← holding [ov] (getMethod ov mn pl)
      callWith pos f first (backTo pos (starEach [] X.env)) (backToKw pos (keywordEach [] X.env))) := by rfl) :
    PE X (.Call (.Attribute o mn apos) [] [] pos) (tMethS Cc mn sp dvs E ta tNil) := by
  refine ⟨fun pins s σ H Q I h => ?_⟩
  refine PySem.W.methodCall_KW (pl := pl) (thn (he.run pins s σ H _ I h) fun u s1 ⟨x, H1, I1, rx, a, dx, fs, ex, ea, l, q⟩ => ?_) ht
  subst ex
  obtain rfl : u = Value.ref a := rx
  refine getmeth_ok I1 ea c hm l ?_
  exact PySem.W.callWith_K0 (first := [.ref a]) I1.kIn hm.kp (run_fnSD (us := [.ref a]) (vs := [.ref a]) F hr hb hd (hx σ) I1 (.cons rfl .nil) q)
/-- o.m(e, ..), o of the class at c -/
theorem c_meth {m : FS} {cn : Str} {oa : Opd} {as : List Opd} {dds : List D} {dvs : List V} {dus : List Value} {n : Nat} {pl : Sem Bool} (F : FnOk X.prog X.w X.K X.mg X.base CX k fa fd ps (spOf C.B n m)) (hr : Room k X.A) (cc : Cls X.K (C.B.cA cn)) (hm : Meth X.K (C.B.cA cn) mn fa) (hb : Binds X.K fd ps dus) (hd : Vals dvs dus)
    (hx : ∀ σ, PassesAt CX X σ (WE W σ)) (ho : COpd X C W o oa) (ha : CArgs X C W (e :: es) as) (hdd : ∀ F, RepDs C.B F dvs dds) (hn : as.length + 1 + dvs.length = n := by rfl) (nd : (pks (oa :: as)).Nodup := by exact of_decide_eq_true rfl)
    (hst : starEach (e :: es) X.env = (false, eval e X.env) :: starEach es X.env := by rfl) (hpl : (backTo pos (starEach es X.env)).any (·.1) = false := by rfl)
    (ht : eval (.Call (.Attribute o mn apos) (e :: es) [] pos) X.env = (do
      let ov ← eval o X.env
      standAt apos.atName
      let (f, first) ← holding [ov] (getMethod ov mn pl)
      callWith pos f first (backTo pos (starEach (e :: es) X.env)) (backToKw pos (keywordEach [] X.env))) := by rfl) :
    PE X (.Call (.Attribute o mn apos) (e :: es) [] pos) (teOf C W (eMeth cn mn m oa as dds)) :=
  PE_to (pe_methSD (pl := pl) ho.1 cc hm F hr hb hd hx ha.1 hst hpl ht) fun σ H Q q => meth_of (fun z hz => by
    rcases List.mem_cons.mp hz with rfl | hz
    · exact ho.2
    · exact ha.2 z hz) nd hdd hn q
theorem c_meth0 {m : FS} {cn : Str} {oa : Opd} {dds : List D} {dvs : List V} {dus : List Value} {n : Nat} {pl : Sem Bool} (F : FnOk X.prog X.w X.K X.mg X.base CX k fa fd ps (spOf C.B n m)) (hr : Room k X.A) (cc : Cls X.K (C.B.cA cn)) (hm : Meth X.K (C.B.cA cn) mn fa) (hb : Binds X.K fd ps dus) (hd : Vals dvs dus)
    (hx : ∀ σ, PassesAt CX X σ (WE W σ)) (ho : COpd X C W o oa) (hdd : ∀ F, RepDs C.B F dvs dds) (hn : 0 + 1 + dvs.length = n := by rfl) (nd : (pks [oa]).Nodup := by exact of_decide_eq_true rfl)
    (ht : eval (.Call (.Attribute o mn apos) [] [] pos) X.env = (do
      let ov ← eval o X.env
      standAt apos.atName
      let (f, first) ← holding [ov] (getMethod ov mn pl)
      callWith pos f first (backTo pos (starEach [] X.env)) (backToKw pos (keywordEach [] X.env))) := by rfl) :
    PE X (.Call (.Attribute o mn apos) [] [] pos) (teOf C W (eMeth cn mn m oa [] dds)) :=
  PE_to (pe_methSD0 (pl := pl) ho.1 cc hm F hr hb hd hx ht) fun σ H Q q => meth_of (as := []) (ok1 ho) nd hdd hn q
/-! ### properties -/
def isIns (c : Str) (o : Option O) : Bool := match o with
  | some o => (match o.tag? with
    | some (.ins c' ns) => decide (c' = c)
    | _ => false)
  | none => false
def eProp (c : Str) (m : FS) (a : Opd) : ES := fun env => (a.go env).bind fun r => if isIns c (a.fin r.1 r.2) = true then (callE m [a] [] ([r.1], r.2)).noX else .stuck
theorem isIns_lies {F H : Hp} {v : V} {o : O} {fr : List Addr} {c : Str} {B : Base} (ex : Ex F H) (r : RepO B F H v o fr) (h : isIns c (some o) = true) : ∃ a dx fs, v = .ref a ∧ H a = some (.ins (B.cA c) dx fs) := by
  have key : ∀ {t : Tag}, o.tag? = some t → ∃ c' ns, t = .ins c' ns ∧ c' = c := by
    intro t ht
    have h1 : (match o.tag? with
      | some (.ins c' ns) => decide (c' = c)
      | _ => false) = true := h
    rw [ht] at h1
    cases t with
    | ins c' ns => exact ⟨c', ns, rfl, of_decide_eq_true h1⟩
    | _ => cases h1
  cases r with
  | fro r =>
    cases r with
    | @node a t vs ds hs rs =>
      obtain ⟨c', ns, rfl, rfl⟩ := key (t := t) rfl
      obtain ⟨dx, h3, _⟩ := hs
      exact ⟨a, dx, _, rfl, ex _ _ h3⟩
    | _ => cases h
  | @own a t vs ds hs rs =>
    obtain ⟨c', ns, rfl, rfl⟩ := key (t := t) rfl
    obtain ⟨dx, h3, _⟩ := hs
    exact ⟨a, dx, _, rfl, h3⟩
  | @tree a t vs os fp hs rs =>
    obtain ⟨c', ns, rfl, rfl⟩ := key (t := t) rfl
    obtain ⟨dx, h3, _⟩ := hs
    exact ⟨a, dx, _, rfl, h3⟩
theorem noX_fin {Q : VK} {s : S0} {r : R (O × Env)} (h : FinE C W Q s r.noX) : FinE C WF Q s r := by
  cases r with
  | ok a => exact h
  | err _ _ _ _ => exact False.elim h
  | stuck => exact False.elim h
theorem prop_of {m : FS} {cn : Str} {oa : Opd} (ok : oa.Ok C.n) {σ : L2.St} {H : Hp} {Q : VK} (h : teOf C W (eProp cn m oa) σ H Q) : tProp (C.B.cA cn) (spOf C.B 1 m) [] (fun _ _ _ => False) (toT C W oa) σ H Q := by
  obtain ⟨F, fp, env, st, q⟩ := h
  have q1 : FinE C W Q ⟨σ, F, H, fp⟩ ((oa.go env).bind fun r => if isIns cn (oa.fin r.1 r.2) = true then (callE m [oa] [] ([r.1], r.2)).noX else .stuck) := q
  have nd : (pks [oa]).Nodup := by
    cases oa with
    | ev f => exact List.nodup_nil
    | pk i => exact List.nodup_cons.mpr ⟨by simp [pks], List.nodup_nil⟩
  have oks : ∀ a ∈ [oa], a.Ok C.n := fun a ha => by
    rw [List.mem_singleton.mp ha]
    exact ok
  cases oa with
  | ev f =>
    refine ⟨F, fp, env, st, ?_⟩
    have q2 : FinE C W Q ⟨σ, F, H, fp⟩ (((f env).bind fun r => .ok (some r.1, r.2)).bind fun r => if isIns cn ((Opd.ev f).fin r.1 r.2) = true then (callE m [.ev f] [] ([r.1], r.2)).noX else .stuck) := q1
    cases e : f env with
    | ok r =>
      obtain ⟨o, env1⟩ := r
      rw [e] at q2
      have q3 : FinE C W Q ⟨σ, F, H, fp⟩ (if isIns cn (some o) = true then (callE m [.ev f] [] ([some o], env1)).noX else .stuck) := q2
      intro v s1 fr g r
      by_cases hc : isIns cn (some o) = true
      · rw [if_pos hc] at q3
        obtain ⟨a, dx, fs, h1, h2⟩ := isIns_lies g.st.ex r hc
        subst h1
        refine ⟨a, dx, fs, rfl, h2, ?_⟩
        have z := callE_fin (dvs := []) (n := 1) (as := [.ev f]) nd (pks_ok oks) (fun _ => .nil) rfl (by rw [show fr = fr ++ [] by simp] at g; exact g) (.ev r .nil) (noX_fin q3)
        exact z
      · rw [if_neg hc] at q3
        exact False.elim q3
    | err c ns ds env1 =>
      rw [e] at q2
      exact q2
    | stuck =>
      rw [e] at q2
      exact q2
  | pk i =>
    have q2 : FinE C W Q ⟨σ, F, H, fp⟩ ((match getO env i with
      | some _ => .ok (none, env)
      | none => .stuck : R (Option O × Env)).bind fun r => if isIns cn ((Opd.pk i).fin r.1 r.2) = true then (callE m [.pk i] [] ([r.1], r.2)).noX else .stuck) := q1
    cases e : getO env i with
    | none =>
      rw [e] at q2
      exact False.elim q2
    | some o =>
      rw [e] at q2
      have q3 : FinE C W Q ⟨σ, F, H, fp⟩ (if isIns cn (getO env i) = true then (callE m [.pk i] [] ([none], env)).noX else .stuck) := q2
      rw [e] at q3
      obtain ⟨v, fa, fq, fb, h1, h2, h3, _⟩ := st.slot (show i < C.n from ok) e
      refine ⟨v, h1, ?_⟩
      by_cases hc : isIns cn (some o) = true
      · rw [if_pos hc] at q3
        obtain ⟨a, dx, fs, k1, k2⟩ := isIns_lies st.ex h3 hc
        subst k1
        refine ⟨a, dx, fs, rfl, k2, ?_⟩
        exact callE_fin (s := ⟨σ, F, H, fp⟩) (s1 := ⟨σ, F, H, fp⟩) (dvs := []) (n := 1) (as := [.pk i]) nd (pks_ok oks) (fun _ => .nil) rfl st.got (.pk h1 .nil) (noX_fin q3)
      · rw [if_neg hc] at q3
        exact False.elim q3
/-- e.f, a property that raises nothing -/
theorem c_prop {m : FS} {cn fn : Str} {oa : Opd} {pa ga : Addr} (F : FnOk X.prog X.w X.K X.mg X.base CX k ga fd ps (spOf C.B 1 m)) (hr : Room (k + 1) X.A) (cc : Cls X.K (C.B.cA cn)) (hp : PropOf X.K (C.B.cA cn) fn pa ga) (hb : Binds X.K fd ps []) (hx : Passes CX X.nox (fun _ _ _ => False)) (ho : COpd X C W o oa)
    (hab : attributeBase o fn X.env (eval o X.env) = eval o X.env := by rfl) : PE X (.Attribute o fn pos) (teOf C W (eProp cn m oa)) :=
  PE_to (pe_prop ho.1 cc hp F hr hb .nil hx hab) fun σ H Q q => prop_of ho.2 q
/-! ### instances -/
def tMakeS (Cc : Addr) (sp : Sp) (dvs : List V) (E : L2.St → XK) (t : TA) : TE := fun σ H Q => t σ H fun vs H1 => ∀ x dx, H1 x = none → H1 dx = none → dx ≠ x →
  sp (.ref x :: (vs ++ dvs)) (upd (upd H1 dx (.own x)) x (.ins Cc dx [])) (fun v H2 => v = .non ∧ Q (.ref x) H2) (E σ)
theorem run_makeS {Cc f : Addr} {sp : Sp} {dvs : List V} {ds : List Value} {E : XK} {pins : List (Addr × Obj)} {σ : L2.St} {H : Hp} {s : Shared} {Q : VK} {us : List Value} {vs : List V} (M : Mk X.K Cc f) (F : FnOk X.prog X.w X.K X.mg X.base CX k f fd ps sp) (hr : Room (k + 1) X.A) (hb : Binds X.K fd ps ds) (hd : Vals dvs ds)
    (hx : PassesAt CX X σ E) (hxm : ∀ (pins : List (Addr × Obj)) (H : Hp) (s s' s0 : Shared) (e : Value) (H0 : Hp), Inv X pins σ H0 s0 → Inv X pins σ H s → CX X.stack H s E e s' → X.xe e s') (I : Inv X pins σ H s) (r : Vals vs us)
    (h : ∀ x dx, H x = none → H dx = none → dx ≠ x → sp (.ref x :: (vs ++ dvs)) (upd (upd H dx (.own x)) x (.ins Cc dx [])) (fun v H2 => v = .non ∧ Q (.ref x) H2) E) :
    wpAny (model X.prog X.w) X.A (call (.ref Cc) us) (EP X pins σ Q) X.xe s := by
  have hq := h (s.heap.objs.size + 1) s.heap.objs.size (I.hok.fresh (Nat.le_succ _)) (I.hok.fresh (Nat.le_refl _)) (Nat.ne_of_lt (Nat.lt_succ_self _))
  have I2 := Inv.made (C := Cc) I
  have r2 : Vals (V.ref (s.heap.objs.size + 1) :: (vs ++ dvs)) (Value.ref (s.heap.objs.size + 1) :: (us ++ ds)) := .cons rfl (r.append hd)
  have hl : (Value.ref (s.heap.objs.size + 1) :: us ++ ds).length = ps.length := by
    have e := r2.length
    rw [F.len _ _ _ _ hq] at e
    exact e.symm
  refine wpAny_call (make_map (f := f) I.kIn M.makes M.init (beq_iff_eq.mp M.fn) (codeAny_mono (F.run _ X.stack _ _ ⟨Value.ref (s.heap.objs.size + 1) :: us, []⟩ (Value.ref (s.heap.objs.size + 1) :: (us ++ ds)) _ _ E (hr.make Cc us [])
    (I2.env0.make Cc us []) (hb _ (Value.ref (s.heap.objs.size + 1) :: us) I2.kIn hl) r2 hq) fun r s' hq' => ?_))
  cases r with
  | error e => exact hx pins _ _ e s' I2 hq'
  | ok fl =>
    cases fl with
    | ret u =>
      obtain ⟨v, H', I3, rv, ev, q3⟩ := I2.after hq'
      subst ev
      exact ⟨rv, ⟨V.ref (s.heap.objs.size + 1), H', I3, rfl, q3⟩⟩
    | next => exact False.elim hq'
    | brk => exact False.elim hq'
    | cont => exact False.elim hq'
theorem make_of {m : FS} {cn : Str} {as : List Opd} {dds : List D} {dvs : List V} {n : Nat} (ok : ∀ a ∈ as, a.Ok C.n) (nd : (pks as).Nodup) (hd : ∀ F, RepDs C.B F dvs dds) (hn : as.length + 1 + dvs.length = n) {σ : L2.St} {H : Hp} {Q : VK} (h : teOf C W (eMake cn m as dds) σ H Q) :
    tMakeS (C.B.cA cn) (spOf C.B n m) dvs (WE W) (tAll (as.map (toT C W))) σ H Q := by
  obtain ⟨F, fp, env, st, q⟩ := h
  refine ta_all as ok ⟨σ, F, H, fp⟩ env _ st ?_
  have q1 : FinE C W Q ⟨σ, F, H, fp⟩ ((goAll as env).bind (makeE cn m as dds)) := q
  cases e : goAll as env with
  | ok r1 =>
    obtain ⟨xs, env1⟩ := r1
    rw [e] at q1
    intro vs s1 fr g rt x dx hx hdx hne
    exact makeE_fin nd (pks_ok ok) hd hn g rt q1 x dx hx hdx hne
  | err c ns ds env1 =>
    rw [e] at q1
    exact q1
  | stuck =>
    rw [e] at q1
    exact q1
/-- C(e, ..) -/
theorem c_make {m : FS} {cn : Str} {as : List Opd} {dds : List D} {dvs : List V} {dus : List Value} {x : Str} {p : Pos} {n : Nat} (M : Mk X.K (C.B.cA cn) fa) (F : FnOk X.prog X.w X.K X.mg X.base CX k fa fd ps (spOf C.B n m)) (hr : Room (k + 1) X.A) (hg : Gl X x) (hm : X.mg x = some (.ref (C.B.cA cn))) (hb : Binds X.K fd ps dus) (hd : Vals dvs dus)
    (hx : ∀ σ, PassesAt CX X σ (WE W σ)) (ha : CArgs X C W (e :: es) as) (hdd : ∀ F, RepDs C.B F dvs dds) (hn : as.length + 1 + dvs.length = n := by rfl) (nd : (pks as).Nodup := by exact of_decide_eq_true rfl) (hdb : (x == ("__debug__" : Str)) = false := by decide) (he : starEach (e :: es) X.env = (false, eval e X.env) :: starEach es X.env := by rfl) (hpl : (backTo pos (starEach es X.env)).any (·.1) = false := by rfl) :
    PE X (.Call (.Name x p) (e :: es) [] pos) (teOf C W (eMake cn m as dds)) := by
  refine PE_to (t := tMakeS (C.B.cA cn) (spOf C.B n m) dvs (WE W) (tAll (as.map (toT C W)))) ⟨fun pins s σ H Q I h => ?_⟩ fun σ H Q q => make_of ha.2 nd hdd hn q
  refine wpAny_Call_Name_kw (ld_glob I hg hm ?_ hdb)
  refine PySem.W.callWith_K (h₀ := X.base) I.ok.mod.kin M.kp (thn (ha.1.run pos pins s σ H _ I h) fun us s1 ⟨vs, H1, I1, r, q⟩ => ⟨I1.kIn, ?_⟩) he hpl
  exact run_makeS M F hr hb hd (hx σ) (fun pins H s s' _ e _ _ I z => hx σ pins H s e s' I z) I1 r q
theorem c_make0 {m : FS} {cn : Str} {dds : List D} {dvs : List V} {dus : List Value} {x : Str} {p : Pos} {n : Nat} (M : Mk X.K (C.B.cA cn) fa) (F : FnOk X.prog X.w X.K X.mg X.base CX k fa fd ps (spOf C.B n m)) (hr : Room (k + 1) X.A) (hg : Gl X x) (hm : X.mg x = some (.ref (C.B.cA cn))) (hb : Binds X.K fd ps dus) (hd : Vals dvs dus)
    (hx : ∀ σ, PassesAt CX X σ (WE W σ)) (hdd : ∀ F, RepDs C.B F dvs dds) (hn : 0 + 1 + dvs.length = n := by rfl) (hdb : (x == ("__debug__" : Str)) = false := by decide) :
    PE X (.Call (.Name x p) [] [] pos) (teOf C W (eMake cn m [] dds)) := by
  refine PE_to (t := tMakeS (C.B.cA cn) (spOf C.B n m) dvs (WE W) tNil) ⟨fun pins s σ H Q I h => ?_⟩ fun σ H Q q => make_of (as := []) (fun _ h => by cases h) List.nodup_nil hdd hn q
  refine wpAny_Call_Name_kw (ld_glob I hg hm ?_ hdb)
  exact PySem.W.callWith_K0 I.kIn M.kp (run_makeS (us := []) M F hr hb hd (hx σ) (fun pins H s s' _ e _ _ I z => hx σ pins H s e s' I z) I .nil h)
/-! ### fields -/
def getF (f : Str) : List Str → List D → Option D
  | n :: ns, d :: ds => if n = f then some d else getF f ns ds
  | _, _ => none
def putN (f : Str) : List Str → List Str
  | [] => [f]
  | n :: ns => if n = f then n :: ns else n :: putN f ns
def putD (f : Str) (y : D) : List Str → List D → List D
  | n :: ns, d :: ds => if n = f then y :: ds else d :: putD f y ns ds
  | _, _ => [y]
theorem getF_rep {B : Base} {F : Hp} {f : Str} {d : D} : ∀ {ns : List Str} {vs : List V} {ds : List D}, RepDs B F vs ds → ns.length = vs.length → getF f ns ds = some d → ∃ v, (ns.zip vs).lookup f = some v ∧ RepD B F v d
  | [], _, _, _, _, e => by cases e
  | n :: ns, [], _, _, h, _ => by cases h
  | n :: ns, v :: vs, _, .cons (d := d') (ds := ds) r rs, h, e => by
    have e1 : (if n = f then some d' else getF f ns ds) = some d := e
    show ∃ w, List.lookup f ((n, v) :: ns.zip vs) = some w ∧ _
    by_cases hn : n = f
    · rw [if_pos hn] at e1
      have e2 := Option.some.inj e1
      subst e2 hn
      exact ⟨v, by simp [List.lookup], r⟩
    · rw [if_neg hn] at e1
      obtain ⟨w, h1, h2⟩ := getF_rep rs (Nat.succ.inj h) e1
      refine ⟨w, ?_, h2⟩
      have z : (f == n) = false := by simpa using fun z : f = n => hn z.symm
      simp [List.lookup, z, h1]
theorem putF_zip {f : Str} {y : V} : ∀ {ns : List Str} {vs : List V}, ns.length = vs.length → ∃ ws, putF f y (ns.zip vs) = (putN f ns).zip ws ∧ (putN f ns).length = ws.length ∧ ∀ {B : Base} {F : Hp} {ds : List D} {d : D}, RepDs B F vs ds → RepD B F y d → RepDs B F ws (putD f d ns ds)
  | [], [], _ => ⟨[y], rfl, rfl, fun r ry => by
      cases r
      exact .cons ry .nil⟩
  | [], _ :: _, h => by cases h
  | _ :: _, [], h => by cases h
  | n :: ns, v :: vs, h => by
    obtain ⟨ws, h1, h2, h3⟩ := putF_zip (f := f) (y := y) (ns := ns) (vs := vs) (Nat.succ.inj h)
    by_cases hn : n = f
    · refine ⟨y :: vs, ?_, ?_, fun r ry => ?_⟩
      · show (if n = f then (n, y) :: ns.zip vs else (n, v) :: putF f y (ns.zip vs)) = (if n = f then n :: ns else n :: putN f ns).zip (y :: vs)
        rw [if_pos hn, if_pos hn]
        rfl
      · show (if n = f then n :: ns else n :: putN f ns).length = _
        rw [if_pos hn]
        exact h
      · cases r with
        | @cons _ d' _ ds r rs =>
          show RepDs _ _ _ (if n = f then _ :: ds else _ :: putD f _ ns ds)
          rw [if_pos hn]
          exact .cons ry rs
    · refine ⟨v :: ws, ?_, ?_, fun r ry => ?_⟩
      · show (if n = f then (n, y) :: ns.zip vs else (n, v) :: putF f y (ns.zip vs)) = (if n = f then n :: ns else n :: putN f ns).zip (v :: ws)
        rw [if_neg hn, if_neg hn, h1]
        rfl
      · show (if n = f then n :: ns else n :: putN f ns).length = _
        rw [if_neg hn]
        exact congrArg (· + 1) h2
      · cases r with
        | @cons _ d' _ ds r rs =>
          show RepDs _ _ _ (if n = f then _ :: ds else _ :: putD f _ ns ds)
          rw [if_neg hn]
          exact .cons r (h3 rs ry)
def fldOf (cs : List Str) (f : Str) : List O → Option O
  | [.fro (.node (.ins c ns) ds)] => if cs.contains c = true then (match getF f ns ds with
    | some d => some (.fro d)
    | none => none) else none
  | [.own (.ins c ns) ds] => if cs.contains c = true then (match getF f ns ds with
    | some d => some (.fro d)
    | none => none) else none
  | _ => none
/-- the classes of which f is a plain attribute -/
def FldOk (K : PySem.W.Frag) (B : Base) (f : Str) (cs : List Str) : Prop := ∀ c ∈ cs, Cls K (B.cA c) ∧ NoAttr K (B.cA c) f
theorem app_fld {K : PySem.W.Frag} {B : Base} {cs : List Str} {fn : Str} (hc : FldOk K B fn cs) : AppL B (r1l fun x H Q => ∃ a C dx fs v, x = .ref a ∧ H a = some (.ins C dx fs) ∧ Cls K C ∧ NoAttr K C fn ∧ fs.lookup fn = some v ∧ Q v H) (fldOf cs fn) := by
  intro F H vs os o Q ex ar e k
  have key : ∀ {c : Str} {ns : List Str} {ds : List D}, (if cs.contains c = true then (match getF fn ns ds with
    | some d => some (O.fro d)
    | none => none) else none) = some o → c ∈ cs ∧ ∃ d, getF fn ns ds = some d ∧ o = .fro d := by
    intro c ns ds e
    by_cases h : cs.contains c = true
    · rw [if_pos h] at e
      refine ⟨by simpa using h, ?_⟩
      cases e2 : getF fn ns ds with
      | none =>
        rw [e2] at e
        cases e
      | some d =>
        rw [e2] at e
        exact ⟨d, rfl, (Option.some.inj e).symm⟩
    · rw [if_neg h] at e
      cases e
  unfold fldOf at e
  split at e
  · obtain ⟨h1, d, h2, rfl⟩ := key e
    obtain ⟨v, fp, rfl, r, nf⟩ := allRep1 ar
    obtain ⟨c1, c2⟩ := hc _ h1
    cases r with
    | fro r =>
      cases r with
      | node hs rs =>
        obtain ⟨dx, h3, h4⟩ := hs
        obtain ⟨w, h5, h6⟩ := getF_rep rs h4 h2
        exact ⟨_, _, dx, _, w, rfl, ex _ _ h3, c1, c2, h5, k.same ex h6⟩
  · obtain ⟨h1, d, h2, rfl⟩ := key e
    obtain ⟨v, fp, rfl, r, nf⟩ := allRep1 ar
    obtain ⟨c1, c2⟩ := hc _ h1
    cases r with
    | own hs rs =>
      obtain ⟨dx, h3, h4⟩ := hs
      obtain ⟨w, h5, h6⟩ := getF_rep rs h4 h2
      exact ⟨_, _, dx, _, w, rfl, h3, c1, c2, h5, k.same ex h6⟩
  · cases e
/-- e.f, a plain attribute -/
theorem c_fld {fn : Str} {cs : List Str} {oa : Opd} (hc : FldOk X.K C.B fn cs) (ho : COpd X C W o oa) (hb : attributeBase o fn X.env (eval o X.env) = eval o X.env := by rfl) : PE X (.Attribute o fn pos) (teOf C W (eApp (fldOf cs fn) [oa])) :=
  c_op1 (app_fld hc) ho (pe_fld ho.1 hb)
/-- self.f = e, where the name i owns the instance -/
def sFldI (i : Nat) (c : Str) (f : Str) (v : ES) : SS := fun env => (v env).bind fun r => match r.1, getO r.2 i with
  | .fro d, some (.own (.ins c' ns) ds) => if c' = c ∧ ns.length < 900 then .ok (.nx, r.2.set i (some (.own (.ins c' (putN f ns)) (putD f d ns ds)))) else .stuck
  | _, _ => .stuck
/-- a slot's own thing is changed in place -/
theorem St.change {i : Nat} {a : Addr} {t t' : Tag} {vs vs' : List V} {ds ds' : List D} {ob : HO} (h : St C s env) (hi : i < C.n) (e : getO env i = some (.own t ds)) (hv : s.σ[i]? = some (some (.ref a)))
    (hl : Lies C.B (upd s.H a ob) a t' vs') (hd : RepDs C.B s.F vs' ds') : Step C s ⟨s.σ, s.F, upd s.H a ob, s.fp⟩ ∧ St C ⟨s.σ, s.F, upd s.H a ob, s.fp⟩ (env.set i (some (.own t' ds'))) := by
  obtain ⟨v, fa, fq, fb, h1, h2, h3, k⟩ := h.slot hi e
  rw [hv] at h1
  cases h1
  cases h3 with
  | own hs rs =>
    have nd := h.nd
    rw [h2] at nd
    have nF : s.F a = none := h.nf a (by rw [h2]; simp)
    have nin : ∀ p ∈ fa ++ fb, p ≠ a := fun p hp z => by
      have z2 := nodup_end nd
      rw [List.nodup_append] at z2
      exact z2.2.2 p hp a (by simp) z
    have kk := k s.F (upd s.H a ob) (some (.ref a)) (some (.own t' ds')) [a] (Evl.Ex.refl _) (fun p hp => upd_ne (nin p hp)) ⟨_, rfl, .own hl hd⟩
    rw [set_self hv, ← h2] at kk
    have ia : a ∈ s.fp := by
      rw [h2]
      simp
    refine ⟨⟨Evl.Ex.refl _, fun b o hb hn => ?_, fun b o hb hf hn => hf, fun b hb => .inl hb, fun _ _ => rfl⟩, ⟨fun b o hb => ?_, kk, h.nd, h.nf, h.len, h.xe⟩⟩
    · show upd s.H a ob b = _
      rw [upd_ne fun z => hn (by rw [z]; exact ia)]
      exact hb
    · show upd s.H a ob b = _
      rw [upd_ne fun z => by
        rw [z, nF] at hb
        cases hb]
      exact h.ex b o hb
theorem k_fld {i : Nat} {cn fn : Str} {pos' : Pos} {v : Expr} (hK : X.K = C.B.K) (hc : Cls X.K (C.B.cA cn)) (hnA : NoAttr X.K (C.B.cA cn) fn) (hv : PE X v (teOf C W f)) (ho : PE X o (tVar i)) (hi : i < C.n := by exact of_decide_eq_true rfl) (hs : swapsWith v (some (.Attribute o fn pos')) pos.line X.env = pure false := by rfl) : PS X (.Assign [.Attribute o fn pos'] v pos) (tsOf C W (sFldI i cn fn f)) :=
  PS_to (ps_fld ho hv hs) fun D0 σ H h => te_then (k := fun o env => match o, getO env i with
    | .fro d, some (.own (.ins c' ns) ds) => if c' = cn ∧ ns.length < 900 then .ok (.nx, env.set i (some (.own (.ins c' (putN fn ns)) (putD fn d ns ds)))) else .stuck
    | _, _ => .stuck) h fun o env1 v s s1 fr es g r q => by
      split at q
      · rename_i d c' ns ds eg
        by_cases hcn : c' = cn ∧ ns.length < 900
        · rw [if_pos hcn] at q
          obtain ⟨rfl, hlt⟩ := hcn
          obtain ⟨w, fa, fq, fb, h1, h2, h3, k⟩ := g.st.slot hi eg
          cases h3 with
          | @own a _ vs _ hl rs =>
            obtain ⟨dx, l1, l2⟩ := hl
            cases r with
            | fro r =>
              obtain ⟨ws, p1, p2, p3⟩ := putF_zip (f := fn) (y := v) l2
              have g0 := g.drop (fr1 := []) (List.nil_sublist _)
              obtain ⟨x1, x2⟩ := St.change (vs := vs) (t' := .ins c' (putN fn ns)) (vs' := ws) (ob := .ins (C.B.cA c') dx (putF fn v (ns.zip vs))) g.st hi eg h1 ⟨dx, by rw [upd_same, p1], p2⟩ (p3 rs r)
              have hσ : s1.σ = σ := g.sl.trans es
              rw [← hσ]
              refine ⟨_, h1, a, _, dx, _, rfl, l1, hc, hnA, ?_, ?_⟩
              · rw [List.length_zip]
                omega
              · exact q _ (g0.step0.trans x1) x2
        · rw [if_neg hcn] at q
          exact False.elim q
      · exact False.elim q
end
end DL
end

section
set_option Elab.async false
set_option linter.all false
set_option maxRecDepth 100000
set_option maxHeartbeats 1000000
namespace DL
open PySem PySem.Spec PyProof.Rows L2
/-! ### defs -/
/-- what is handed back: the slots of ks as they stand, else what was handed in, if it was data -/
def O.fro? : O → Option O
  | .fro d => some (.fro d)
  | _ => none
def backO (ks : List Nat) : Nat → List O → Env → Option (List O)
  | _, [], _ => some []
  | i, o :: os, w :: env => match (if ks.contains i = true then w else o.fro?), backO ks (i + 1) os env with
    | some a, some b => some (a :: b)
    | _, _ => none
  | _, _ :: _, [] => none
def startE (n : Nat) (os : List O) : Env := os.map some ++ List.replicate (n - os.length) none
def runF (n : Nat) (ks : List Nat) (u : SS) : FS := fun os => match u (startE n os) with
  | .ok (.nx, env) => (match backO ks 0 os env with
    | some os' => .ok (.fro .non) os'
    | none => .stuck)
  | .ok (.rt o, env) => (match backO ks 0 os env with
    | some os' => .ok o os'
    | none => .stuck)
  | .err c ns ds env => (match backO ks 0 os env with
    | some os' => .err c ns ds os'
    | none => .stuck)
  | _ => .stuck
theorem back_of {B : Base} {F0 F H : Hp} (ks : List Nat) (e0 : Ex F0 F) : ∀ {vs : List V} {os : List O} {fp0 : List Addr} {H0 : Hp} (i : Nat) {σ : List (Option V)} {env : Env} {fp : List Addr} {os' : List O}, RepOs B F0 H0 vs os fp0 → RepE B F H σ env fp →
    (∀ j, i + j ∈ ks → ∀ v, vs[j]? = some v → σ[j]? = some (some v)) → backO ks i os env = some os' → ∃ fpA, RepOs B F H vs os' fpA ∧ fpA.Sublist fp
  | _, _, _, _, i, _, _, _, os', .nil, r, _, e => by
    have e2 : os' = [] := by
      have z : some ([] : List O) = some os' := by
        cases r <;> exact e
      exact (Option.some.inj z).symm
    rw [e2]
    exact ⟨[], .nil, List.nil_sublist _⟩
  | _, _, _, _, i, _, _, _, os', .cons (o := o) (v := v) (vs := vs) (os := os) h hs, r, k, e => by
    cases r with
    | nil => cases e
    | @cons w x σ env fa fb rs re =>
      have e1 : (match (if ks.contains i = true then x else o.fro?), backO ks (i + 1) os env with
        | some a, some b => some (a :: b)
        | _, _ => none) = some os' := e
      cases e2 : backO ks (i + 1) os env with
      | none =>
        rw [e2] at e1
        split at e1
        · rename_i z
          cases z
        · cases e1
      | some os2 =>
        rw [e2] at e1
        obtain ⟨fpA, h1, h2⟩ := back_of ks e0 (i + 1) hs re (fun j hj v hv => k (j + 1) (by
          rw [show i + (j + 1) = i + 1 + j by omega]
          exact hj) v hv) e2
        by_cases hi : ks.contains i = true
        · rw [if_pos hi] at e1
          cases x with
          | none => cases e1
          | some a =>
            have e3 := Option.some.inj e1
            subst e3
            obtain ⟨v', hv, ro⟩ := rs
            have z := k 0 (by simpa using hi) v rfl
            rw [show (w :: σ)[0]? = some w from rfl, hv] at z
            cases z
            exact ⟨fa ++ fpA, .cons ro h1, (List.Sublist.refl fa).append h2⟩
        · rw [if_neg hi] at e1
          cases h with
          | fro hd =>
            have e3 := Option.some.inj e1
            subst e3
            exact ⟨fpA, .cons (fp := []) (.fro (hd.ex e0)) h1, h2.trans (List.sublist_append_right _ _)⟩
          | own _ _ => cases e1
          | tree _ _ => cases e1
theorem start_rep {B : Base} {F H : Hp} : ∀ {vs : List V} {os : List O} {fp : List Addr}, RepOs B F H vs os fp → ∀ n : Nat, RepE B F H (vs.map some ++ List.replicate n none) (os.map some ++ List.replicate n none) fp
  | _, _, _, .nil, n => by
    induction n with
    | zero => exact .nil
    | succ n ih => exact .cons (fp := []) (o := none) rfl ih
  | _, _, _, .cons h hs, n => .cons ⟨_, rfl, h⟩ (start_rep hs n)
theorem RepOs.len {B : Base} {F H : Hp} : ∀ {vs : List V} {os : List O} {fp : List Addr}, RepOs B F H vs os fp → vs.length = os.length
  | _, _, _, .nil => rfl
  | _, _, _, .cons _ r => congrArg (· + 1) r.len
/-- a body's place -/
def Ctx.top (B : Base) (n : Nat) (ks : List Nat) : Ctx := ⟨B, n, ks, none, [], fun _ _ h => nomatch h⟩
section
variable {P : Program} {w : World} {K : PySem.W.Frag} {mg : Str → Option Value} {base : Heap} {k : Nat} {f : Addr} {name qual : Str} {params : Arguments} {body : List Stmt} {scope : Scope} {dV kV doc pm cdv ct oc : Value} {an od : Option Addr} {osl : Array (Option Value)} {N ps : List Str}
/-- what a body ends with, for its caller -/
theorem fin_run {B : Base} {n : Nat} {ks : List Nat} {u : SS} {vs : List V} {os : List O} {fp : List Addr} {F H : Hp} {Q : VK} {E : XK} (ro : RepOs B F H vs os fp) (hl : vs.length ≤ n) (ex : Ex F H) (nd : fp.Nodup) (nf : ∀ p ∈ fp, F p = none)
    (q : FinF B vs Q E F H fp (runF n ks u os)) : tsOf (Ctx.top B n ks) (fun cls d _ H => E cls d H) u { nx := fun _ H' => Q .non H', rt := Q } (vs.map some ++ List.replicate (n - vs.length) none) H := by
  have le := ro.len
  have st : St (Ctx.top B n ks) ⟨vs.map some ++ List.replicate (n - vs.length) none, F, H, fp⟩ (startE n os) := by
    refine ⟨ex, ?_, nd, nf, ?_, fun i a h => nomatch h⟩
    · show RepE B F H (vs.map some ++ List.replicate (n - vs.length) none ++ []) (startE n os) fp
      rw [List.append_nil, startE, ← le]
      exact start_rep ro _
    · show (vs.map some ++ List.replicate (n - vs.length) none).length = n
      rw [List.length_append, List.length_map, List.length_replicate]
      omega
  refine ⟨F, fp, startE n os, st, ?_⟩
  have slot : ∀ (s1 : S0), Step (Ctx.top B n ks) ⟨vs.map some ++ List.replicate (n - vs.length) none, F, H, fp⟩ s1 → ∀ j, 0 + j ∈ ks → ∀ v, vs[j]? = some v → s1.σ[j]? = some (some v) := fun s1 x j hj v hv => by
    have z := x.sl j (show j ∈ ks by rw [Nat.zero_add] at hj; exact hj)
    rw [z]
    have hlt : j < vs.length := (List.getElem?_eq_some_iff.mp hv).1
    show (vs.map some ++ List.replicate (n - vs.length) none)[j]? = _
    rw [List.getElem?_append_left (by rw [List.length_map]; exact hlt), List.getElem?_map, hv]
    rfl
  unfold runF at q
  cases e : u (startE n os) with
  | stuck =>
    rw [e] at q
    exact False.elim q
  | err c ns ds env =>
    rw [e] at q
    have q1 : FinF B vs Q E F H fp (match backO ks 0 os env with
      | some os' => .err c ns ds os'
      | none => .stuck) := q
    intro s1 dx x y xr
    cases e1 : backO ks 0 os env with
    | none =>
      rw [e1] at q1
      exact False.elim q1
    | some os' =>
      rw [e1] at q1
      have yr : RepE B s1.F s1.H (s1.σ ++ []) env s1.fp := y.rep
      rw [List.append_nil] at yr
      obtain ⟨fpA, h1, h2⟩ := back_of ks x.exF 0 ro yr (slot s1 x) e1
      exact q1 s1.F s1.H fpA dx ⟨x.exF, x.keep, x.nof, fun a ha => x.new a (h2.mem ha)⟩ y.ex h1 (y.nd.sublist h2) (fun p hp => y.nf p (h2.mem hp)) xr
  | ok r =>
    obtain ⟨fl, env⟩ := r
    rw [e] at q
    cases fl with
    | bk => exact False.elim q
    | ct => exact False.elim q
    | nx =>
      have q1 : FinF B vs Q E F H fp (match backO ks 0 os env with
        | some os' => .ok (.fro .non) os'
        | none => .stuck) := q
      intro s1 x y
      cases e1 : backO ks 0 os env with
      | none =>
        rw [e1] at q1
        exact False.elim q1
      | some os' =>
        rw [e1] at q1
        have yr : RepE B s1.F s1.H (s1.σ ++ []) env s1.fp := y.rep
        rw [List.append_nil] at yr
        obtain ⟨fpA, h1, h2⟩ := back_of ks x.exF 0 ro yr (slot s1 x) e1
        refine q1 .non s1.F s1.H fpA [] ⟨x.exF, x.keep, x.nof, fun a ha => x.new a (h2.mem (by rw [List.append_nil] at ha; exact ha))⟩ y.ex h1 (.fro .non) ?_ ?_
        · rw [List.append_nil]
          exact y.nd.sublist h2
        · intro p hp
          rw [List.append_nil] at hp
          exact y.nf p (h2.mem hp)
    | rt o =>
      have q1 : FinF B vs Q E F H fp (match backO ks 0 os env with
        | some os' => .ok o os'
        | none => .stuck) := q
      intro v s1 fr x y r ndr nfr
      cases e1 : backO ks 0 os env with
      | none =>
        rw [e1] at q1
        exact False.elim q1
      | some os' =>
        rw [e1] at q1
        have yr : RepE B s1.F s1.H (s1.σ ++ []) env s1.fp := y.rep
        rw [List.append_nil] at yr
        have st2 : Step (Ctx.top B n ks) ⟨vs.map some ++ List.replicate (n - vs.length) none, F, H, fp⟩ s1 := ⟨x.exF, x.keep, x.nof, fun a ha => x.new a (List.mem_append_left _ ha), x.sl⟩
        obtain ⟨fpA, h1, h2⟩ := back_of ks x.exF 0 ro yr (slot s1 st2) e1
        refine q1 v s1.F s1.H fpA fr ⟨x.exF, x.keep, x.nof, fun a ha => x.new a ?_⟩ y.ex h1 r ?_ ?_
        · rcases List.mem_append.mp ha with z | z
          · exact List.mem_append_left _ (h2.mem z)
          · exact List.mem_append_right _ z
        · exact ndr.sublist (h2.append_right _)
        · intro p hp
          rcases List.mem_append.mp hp with z | z
          · exact y.nf p (h2.mem z)
          · exact nfr p z
/-- a def of the text -/
theorem fn_ok {B : Base} {ks : List Nat} {u : SS} (lk : K.lookup f = some ⟨oc, od, .func (PySem.W.fnOf name qual params body scope dV kV doc pm an cdv ct), osl⟩) (hcd : PySem.W.codeIn K cdv qual = true) (S : FnScope N ps scope) {n m : Nat} (hn : N.length = n) (hm : ps.length = m)
    (hbody : ∀ (A : Around) (outer : List PySem.Env) (s : Shared) (H : Hp) (E : XK), Room k (A.deeper (envOfC qual scope s.heap.objs.size f cdv)) →
      PSs (cxOf (L2.CX P w) P w K mg base N qual scope f cdv A outer s H E) body (tsOf (Ctx.top B n ks) (fun cls d _ H => E cls d H) u)) :
    FnOk P w K mg base (L2.CX P w) (k + 1) f (PySem.W.fnOf name qual params body scope dV kV doc pm an cdv ct) ps (spOf B m (runF n ks u)) := by
  refine fn_of lk hcd S (fun vs H Q E h => h.1.trans hm.symm) (fun A outer s H vs Q E hr h => ⟨_, hbody A outer s H E hr, ?_⟩)
  obtain ⟨hl, F, os, fp, ex, ro, nd, nf, q⟩ := h
  have hps : ps.length ≤ N.length := by
    have z := congrArg List.length S.pre
    rw [List.length_take] at z
    omega
  have z := fin_run ro (by omega) ex nd nf q
  rw [L2.start, hn]
  exact z
end
end DL
end

section
set_option Elab.async false
set_option linter.all false
set_option maxRecDepth 100000
set_option maxHeartbeats 1000000
namespace DL
open PySem PySem.Spec PyProof.Rows L2
/-! ### exceptions: their __init__ -/
def okV : V → Prop
  | .str x => x.length ≤ 100000
  | .int i => i.natAbs.log2 < 1920
  | _ => False
def okM : D → Bool
  | .str x => decide (x.length ≤ 100000)
  | .int i => decide (i.natAbs.log2 < 1920)
  | _ => false
theorem okM_v {B : Base} {F : Hp} {v : V} {d : D} (r : RepD B F v d) (h : okM d = true) : okV v := by
  cases r with
  | str x => exact of_decide_eq_true (p := x.length ≤ 100000) h
  | int i => exact of_decide_eq_true (p := i.natAbs.log2 < 1920) h
  | _ => cases h
/-- a message's parts -/
inductive MP where
  | lit (x : Str)
  | par (i : Nat)
def mpT : MP → TE
  | .lit x => tC (.str x)
  | .par i => tFmt (tVar i)
def MP.ok (σ : L2.St) : MP → Prop
  | .lit x => x.length ≤ 100000
  | .par i => ∃ v, σ[i]? = some (some v) ∧ okV v
theorem tJs_ok {σ : L2.St} {H : Hp} {Q : Str → Hp → Prop} : ∀ (ps : List MP) (acc : Str), (∀ p ∈ ps, p.ok σ) → acc.length + ps.length * 100000 ≤ sizeLine → (∀ out, Q out H) → tJs (ps.map mpT) acc σ H Q
  | [], acc, _, _, q => q acc
  | p :: ps, acc, h, hl, q => by
    have h1 := h p (List.mem_cons_self ..)
    have h2 := fun x hx => h x (List.mem_cons_of_mem p hx)
    rw [List.length_cons] at hl
    have key : ∀ y : Str, y.length ≤ 100000 → (acc ++ y).length ≤ sizeLine ∧ tJs (ps.map mpT) (acc ++ y) σ H Q := fun y hy => by
      have e : (acc ++ y).length = acc.length + y.length := Str.length_append acc y
      exact ⟨by omega, tJs_ok ps (acc ++ y) h2 (by omega) q⟩
    cases p with
    | lit x =>
      obtain ⟨k1, k2⟩ := key x h1
      exact ⟨x, rfl, k1, k2⟩
    | par i =>
      obtain ⟨v, hv, ho⟩ := h1
      refine ⟨v, hv, ?_⟩
      cases v with
      | str x =>
        have ho : x.length ≤ 100000 := ho
        obtain ⟨k1, k2⟩ := key x ho
        refine .inl ⟨x, rfl, ?_, x, rfl, k1, k2⟩
        rw [sizeLine_eq]
        omega
      | int i =>
        have ho : i.natAbs.log2 < 1920 := ho
        have z := int_text_length_le (a := i) (k := 1920) (by decide) ho
        obtain ⟨k1, k2⟩ := key (Str.ofString (toString i)) (by
          rw [PySem.ofString_length]
          omega)
        exact .inr ⟨i, rfl, ho, _, rfl, k1, k2⟩
      | _ => exact False.elim ho
/-- what an exception's __init__ keeps -/
def XSp (Cc : Addr) (n : Nat) (ok : List V → Prop) (fs : List V → List (Str × V)) : Sp := fun vs H Q _ => ∃ a ws, vs = .ref a :: ws ∧ ws.length = n ∧ ok ws ∧ H a = some (exo a Cc none) ∧ ∀ dx, H dx = none → dx ≠ a → Q .non (upd (upd H dx (exd dx (fs ws))) a (exo a Cc (some dx)))
/-- self.f = p, .. -/
def seqO (K : PySem.W.Frag) : List (Str × Nat) → TS
  | [] => tNext
  | (f, i) :: r => tSeq (tOst K f (tVar 0) (tVar i)) (seqO K r)
def valsO (σ : L2.St) : List (Str × Nat) → List (Str × V) → Option (List (Str × V))
  | [], fs => some fs
  | (f, i) :: r, fs => match σ[i]? with
    | some (some v) => valsO σ r ((f, v) :: fs)
    | _ => none
theorem upd_upd {H : Hp} {a : Addr} {x y : HO} : upd (upd H a x) a y = upd H a y := by
  funext b
  by_cases h : b = a
  · rw [h, upd_same, upd_same]
  · rw [upd_ne h, upd_ne h, upd_ne h]
theorem upd_comm {H : Hp} {a b : Addr} {x y : HO} (h : a ≠ b) : upd (upd H a x) b y = upd (upd H b y) a x := by
  funext c
  by_cases h1 : c = a
  · subst h1
    rw [upd_ne h, upd_same, upd_same]
  · by_cases h2 : c = b
    · subst h2
      rw [upd_same, upd_ne h1, upd_same]
    · rw [upd_ne h2, upd_ne h1, upd_ne h1, upd_ne h2]
theorem seqO_old {K : PySem.W.Frag} {Cc a dx : Addr} {D0 : Ends} {σ : L2.St} (T : OexC K Cc) (h0 : σ[0]? = some (some (.ref a))) (ne : dx ≠ a) : ∀ (r : List (Str × Nat)) (fs gs : List (Str × V)) (H : Hp), (∀ p ∈ r, PySem.W.findIn K (.ref Cc) p.1 = some none) → fs.length + r.length ≤ 900 → valsO σ r fs = some gs →
    H a = some (exo a Cc (some dx)) → H dx = some (exd dx fs) → D0.nx σ (upd H dx (exd dx gs)) → seqO K r D0 σ H
  | [], fs, gs, H, _, _, e, ha, hd, q => by
    have e2 := Option.some.inj (show some fs = some gs from e)
    subst e2
    have z : upd H dx (exd dx fs) = H := by
      funext b
      by_cases h : b = dx
      · rw [h, upd_same, hd]
      · rw [upd_ne h]
    rw [z] at q
    exact q
  | (f, i) :: r, fs, gs, H, hn, hl, e, ha, hd, q => by
    have e1 : (match σ[i]? with
      | some (some v) => valsO σ r ((f, v) :: fs)
      | _ => none) = some gs := e
    rw [List.length_cons] at hl
    split at e1
    · rename_i v hv
      refine ⟨v, hv, .ref a, h0, a, Cc, rfl, T, hn _ (List.mem_cons_self ..), .inr ⟨dx, fs, ha, hd, by omega, ?_⟩⟩
      refine seqO_old T h0 ne r ((f, v) :: fs) gs _ (fun p hp => hn p (List.mem_cons_of_mem _ hp)) (by rw [List.length_cons]; omega) e1 ?_ upd_same ?_
      · rw [upd_ne (Ne.symm ne)]
        exact ha
      · rw [upd_upd]
        exact q
    · cases e1
theorem seqO_new {K : PySem.W.Frag} {Cc a : Addr} {D0 : Ends} {σ : L2.St} (T : OexC K Cc) (h0 : σ[0]? = some (some (.ref a))) (r : List (Str × Nat)) (gs : List (Str × V)) (H : Hp) (hn : ∀ p ∈ r, PySem.W.findIn K (.ref Cc) p.1 = some none) (hr : r ≠ []) (hl : r.length ≤ 900) (e : valsO σ r [] = some gs)
    (ha : H a = some (exo a Cc none)) (q : ∀ dx, H dx = none → dx ≠ a → D0.nx σ (upd (upd H dx (exd dx gs)) a (exo a Cc (some dx)))) : seqO K r D0 σ H := by
  cases r with
  | nil => exact absurd rfl hr
  | cons p r =>
    obtain ⟨f, i⟩ := p
    have e1 : (match σ[i]? with
      | some (some v) => valsO σ r [(f, v)]
      | _ => none) = some gs := e
    rw [List.length_cons] at hl
    split at e1
    · rename_i v hv
      refine ⟨v, hv, .ref a, h0, a, Cc, rfl, T, hn _ (List.mem_cons_self ..), .inl ⟨ha, fun dx hd ne => ?_⟩⟩
      refine seqO_old T h0 ne r [(f, v)] gs _ (fun p hp => hn p (List.mem_cons_of_mem _ hp)) (by rw [List.length_singleton]; omega) e1 upd_same ?_ ?_
      · rw [upd_ne ne, upd_same]
      · rw [upd_comm (Ne.symm ne), upd_upd]
        exact q dx hd ne
    · cases e1
/-- the fields, the last one first -/
def fldsV (r : List (Str × Nat)) (ws : List V) : List (Str × V) := r.reverse.map fun p => (p.1, ws.getD (p.2 - 1) .non)
theorem valsO_eq {σ : L2.St} {ws : List V} : ∀ (r : List (Str × Nat)) (fs : List (Str × V)), (∀ p ∈ r, σ[p.2]? = some (some (ws.getD (p.2 - 1) .non))) → valsO σ r fs = some (fldsV r ws ++ fs)
  | [], fs, _ => rfl
  | (f, i) :: r, fs, h => by
    have h1 := h (f, i) (List.mem_cons_self ..)
    show (match σ[i]? with
      | some (some v) => valsO σ r ((f, v) :: fs)
      | _ => none) = _
    rw [show σ[i]? = some (some (ws.getD (i - 1) .non)) from h1]
    show valsO σ r _ = _
    rw [valsO_eq r _ fun p hp => h p (List.mem_cons_of_mem _ hp)]
    simp [fldsV]
def okAll (ps : List MP) (ws : List V) : Prop := ∀ i, MP.par i ∈ ps → okV (ws.getD (i - 1) .non)
section
variable {P : Program} {w : World} {K : PySem.W.Frag} {mg : Str → Option Value} {base : Heap} {N ps : List Str} {qual name : Str} {scope : Scope} {f Cc cda cc : Addr} {params : Arguments} {rest : List Stmt} {msg : Expr} {p0 p1 p2 p3 p4 : Pos} {oc dV kV doc pm ct : Value} {od an : Option Addr} {osl : Array (Option Value)} {k : Nat} {file : Str}
/-- an exception's __init__: super().__init__(f'..'); self.f = p; .. -/
theorem fn_exc (T : SupT K file Cc f cda cc) (lk : K.lookup f = some ⟨oc, od, .func (PySem.W.ksFn name qual params (supBody msg rest p0 p1 p2 p3 p4) scope dV kV doc pm an (.ref cda) ct cc), osl⟩) (hcd : PySem.W.codeIn K (.ref cda) qual = true) (S : SupScope N ps scope)
    (hfile : ((P.main.file : Str) == file) = true) (htop : (P.main.scope.names.lookup ("super" : Str)).isSome = false) (hsup : mg "super" = none) (hself : ps[0]? = some ("self" : Str)) (hpar : ∃ ar, (params.posonlyargs ++ params.args).head? = some ar ∧ ar.arg = "self")
    (mp : List MP) (fl : List (Str × Nat)) {n : Nat} (hn : ps.length = n + 1) (hmpl : mp.length ≤ 100) (hlit : ∀ x, MP.lit x ∈ mp → x.length ≤ 100000) (hpi : ∀ i, MP.par i ∈ mp → 1 ≤ i ∧ i ≤ n) (hfi : ∀ p ∈ fl, 1 ≤ p.2 ∧ p.2 ≤ n) (hf0 : fl ≠ []) (hfl : fl.length ≤ 900) (hno : ∀ p ∈ fl, PySem.W.findIn K (.ref Cc) p.1 = some none)
    (hmsg : ∀ (A : Around) (outer : List PySem.Env) (s : Shared) (H : Hp), PE (cxSup P w K mg base N qual scope f cda cc A outer s H) msg (fun σ H Q => tJs (mp.map mpT) Str.empty σ H fun out H1 => Q (.str out) H1))
    (hrest : ∀ (A : Around) (outer : List PySem.Env) (s : Shared) (H : Hp), PSs (cxSup P w K mg base N qual scope f cda cc A outer s H) rest (seqO K fl))
    {pl : Addr → Sem Bool} (hev : ∀ L : Addr, eval (.Call (.Attribute (.Call (.Name "super" p0) [] [] p1) "__init__" p2) [msg] [] p3) (PySem.W.ksEnv qual scope L f (.ref cda) cc) = (do
      let ov ← attributeBase (.Call (.Name "super" p0) [] [] p1) "__init__" (PySem.W.ksEnv qual scope L f (.ref cda) cc) (eval (.Call (.Name "super" p0) [] [] p1) (PySem.W.ksEnv qual scope L f (.ref cda) cc))
      standAt p2.atName
      let (g, first) ← holding [ov] (getMethod ov "__init__" (pl L))
      callWith p3 g first (backTo p3 (starEach [msg] (PySem.W.ksEnv qual scope L f (.ref cda) cc))) []))
    (hsw : ∀ L : Addr, swapsWith (.Call (.Attribute (.Call (.Name "super" p0) [] [] p1) "__init__" p2) [msg] [] p3) none p4.line (PySem.W.ksEnv qual scope L f (.ref cda) cc) = pure false)
    (he : ∀ env : PySem.Env, starEach (msg :: []) env = (false, eval msg env) :: starEach [] env := by intro _; rfl) :
    FnOk P w K mg base CX0 (k + 1) f (PySem.W.ksFn name qual params (supBody msg rest p0 p1 p2 p3 p4) scope dV kV doc pm an (.ref cda) ct cc) ps (XSp Cc n (okAll mp) (fldsV fl)) := by
  refine fn_sup T lk hcd S hfile htop hsup hself hpar (fun vs H Q E h => ?_) _ _ hmsg hrest (fun vs H Q E h => ?_) (pl := pl) hev hsw he
  · obtain ⟨a, ws, rfl, h2, _⟩ := h
    rw [List.length_cons, h2, hn]
  · obtain ⟨a, ws, rfl, h2, h3, h4, h5⟩ := h
    have hpl : ps.length ≤ N.length := by
      have z := congrArg List.length S.pre
      rw [List.length_take] at z
      omega
    have slot : ∀ i, 1 ≤ i → i ≤ n → (L2.start N (.ref a :: ws))[i]? = some (some (ws.getD (i - 1) .non)) := fun i h1 h6 => by
      unfold L2.start
      rw [List.getElem?_append_left (by rw [List.length_map, List.length_cons]; omega), List.getElem?_map]
      obtain ⟨j, rfl⟩ : ∃ j, i = j + 1 := ⟨i - 1, by omega⟩
      rw [List.getElem?_cons_succ, Nat.add_sub_cancel, List.getD_eq_getElem?_getD, List.getElem?_eq_getElem (by omega)]
      rfl
    have s0 : (L2.start N (.ref a :: ws))[0]? = some (some (.ref a)) := rfl
    refine ⟨a, rfl, h4, ?_⟩
    refine tJs_ok mp Str.empty (fun p hp => ?_) ?_ (fun out => ⟨rfl, h4, ?_⟩)
    · cases p with
      | lit x => exact hlit x hp
      | par i => exact ⟨_, slot i (hpi i hp).1 (hpi i hp).2, h3 i hp⟩
    · rw [sizeLine_eq, show Str.empty.length = 0 from rfl]
      omega
    · refine seqO_new T.ox s0 fl (fldsV fl ws) H hno hf0 hfl ?_ h4 h5
      have z := valsO_eq (σ := L2.start N (.ref a :: ws)) (ws := ws) fl [] fun p hp => slot p.2 (hfi p hp).1 (hfi p hp).2
      rw [List.append_nil] at z
      exact z
end
/-! ### raise -/
def rawAll : List O → Option (List D)
  | [] => some []
  | .fro d :: os => (rawAll os).map (d :: ·)
  | _ :: _ => none
def okAllD (ps : List MP) (ds : List D) : Bool := ps.all fun p => match p with
  | .par i => okM (ds.getD (i - 1) .non)
  | .lit _ => true
def fldsN (r : List (Str × Nat)) : List Str := r.reverse.map (·.1)
def fldsD (r : List (Str × Nat)) (ds : List D) : List D := r.reverse.map fun p => ds.getD (p.2 - 1) .non
def sRaise (cn : Str) (mp : List MP) (fl : List (Str × Nat)) (as : List Opd) : SS := fun env => (goAll as env).bind fun q => match finAll as q.1 q.2 with
  | some os => (match rawAll os with
    | some ds => if okAllD mp ds = true then .err cn (fldsN fl) (fldsD fl ds) q.2 else .stuck
    | none => .stuck)
  | none => .stuck
section
variable {X : Cx} {C : Ctx} {W : WX} {s s1 : S0} {env : Env} {e a b c o : Expr} {pos apos : Pos} {f g : ES} {CX : CXT} {k : Nat} {fa : Addr} {fd : FuncData} {ps : List Str} {es : List Expr}
theorem rawAll_rep {B : Base} {F H : Hp} : ∀ {os : List O} {vs : List V} {ds : List D}, AllRep B F H vs os → rawAll os = some ds → RepDs B F vs ds
  | [], _, _, .nil, e => by
    have z := Option.some.inj (show some ([] : List D) = some _ from e)
    subst z
    exact .nil
  | .fro d :: os, _, ds, .cons h hs, e => by
    have e1 : (rawAll os).map (d :: ·) = some ds := e
    cases e2 : rawAll os with
    | none =>
      rw [e2] at e1
      cases e1
    | some ds2 =>
      rw [e2] at e1
      have z := Option.some.inj e1
      subst z
      obtain ⟨fp, r, _⟩ := h
      cases r with
      | fro r => exact .cons r (rawAll_rep hs e2)
  | .own _ _ :: _, _, _, _, e => by cases e
  | .tree _ _ :: _, _, _, _, e => by cases e
theorem RepDs.getD {B : Base} {F : Hp} {vs : List V} {ds : List D} (r : RepDs B F vs ds) (i : Nat) : RepD B F (vs.getD i .non) (ds.getD i .non) := by
  rw [List.getD_eq_getElem?_getD, List.getD_eq_getElem?_getD]
  cases e : ds[i]? with
  | some d =>
    obtain ⟨v, hv, rv⟩ := r.get e
    rw [hv]
    exact rv
  | none =>
    have z : vs[i]? = none := by
      rw [List.getElem?_eq_none_iff] at e ⊢
      rw [r.len]
      exact e
    rw [z]
    exact .non
theorem raise_of {cn : Str} {mp : List MP} {fl : List (Str × Nat)} {as : List Opd} {n : Nat} (ok : ∀ a ∈ as, a.Ok C.n) (hn : as.length = n) (hn2 : n ≤ 1000) (hf0 : fl ≠ []) {σ : L2.St} {H : Hp} {D0 : Ends} (h : tsOf C W (sRaise cn mp fl as) D0 σ H) :
    tMkO (C.B.cA cn) (XSp (C.B.cA cn) n (okAll mp) (fldsV fl)) [] (tAll (as.map (toT C W))) σ H (fun cls d H' => W cls d σ H') := by
  obtain ⟨F, fp, env, st, q⟩ := h
  refine ta_all as ok ⟨σ, F, H, fp⟩ env _ st ?_
  have q1 : FinS C W D0 ⟨σ, F, H, fp⟩ ((goAll as env).bind fun q => match finAll as q.1 q.2 with
    | some os => (match rawAll os with
      | some ds => if okAllD mp ds = true then .err cn (fldsN fl) (fldsD fl ds) q.2 else .stuck
      | none => .stuck)
    | none => .stuck) := q
  cases e : goAll as env with
  | err c ns ds env1 =>
    rw [e] at q1
    exact q1
  | stuck =>
    rw [e] at q1
    exact q1
  | ok r1 =>
    obtain ⟨xs, env1⟩ := r1
    rw [e] at q1
    intro vs s1 fr g rt
    have q2 : FinS C W D0 ⟨σ, F, H, fp⟩ (match finAll as xs env1 with
      | some os => (match rawAll os with
        | some ds => if okAllD mp ds = true then .err cn (fldsN fl) (fldsD fl ds) env1 else .stuck
        | none => .stuck)
      | none => .stuck) := q1
    cases e1 : finAll as xs env1 with
    | none =>
      rw [e1] at q2
      exact False.elim q2
    | some os =>
      rw [e1] at q2
      have q3 : FinS C W D0 ⟨σ, F, H, fp⟩ (match rawAll os with
        | some ds => if okAllD mp ds = true then .err cn (fldsN fl) (fldsD fl ds) env1 else .stuck
        | none => .stuck) := q2
      cases e2 : rawAll os with
      | none =>
        rw [e2] at q3
        exact False.elim q3
      | some ds =>
        rw [e2] at q3
        have q4 : FinS C W D0 ⟨σ, F, H, fp⟩ (if okAllD mp ds = true then .err cn (fldsN fl) (fldsD fl ds) env1 else .stuck) := q3
        by_cases ho : okAllD mp ds = true
        · rw [if_pos ho] at q4
          have rd := rawAll_rep (fin_rep g.st ok rt g.nf e1) e2
          have lv : vs.length = n := rt.args.len.trans hn
          refine ⟨by omega, fun a ha => ⟨a, vs, by rw [List.append_nil], lv, fun i hi => ?_, upd_same, fun dx hdx ne => ⟨rfl, dx, fldsV fl vs, upd_same, ?_, ?_, ?_⟩⟩⟩
          · have z := List.all_eq_true.mp ho _ hi
            exact okM_v (rd.getD _) z
          · rw [upd_ne ne, upd_same]
          · rw [upd_ne ne] at hdx
            exact hdx
          · rw [upd_ne ne] at hdx
            have eH : upd (del (upd (upd (upd s1.H a (exo a (C.B.cA cn) none)) dx (exd dx (fldsV fl vs))) a (exo a (C.B.cA cn) (some dx))) a) dx (.xd (fldsV fl vs)) = upd s1.H dx (.xd (fldsV fl vs)) := by
              funext b
              by_cases h1 : b = dx
              · rw [h1, upd_same, upd_same]
              · rw [upd_ne h1, upd_ne h1]
                by_cases h2 : b = a
                · rw [h2, del_same, ha]
                · rw [del_ne h2, upd_ne h2, upd_ne h1, upd_ne h2]
            rw [eH]
            have nFx : s1.F dx = none := by
              rcases none_or (H := s1.F) dx with z | ⟨o, z⟩
              · exact z
              · rw [g.st.ex dx o z] at hdx
                cases hdx
            have g0 := g.drop (fr1 := []) (List.nil_sublist _)
            have mk : Made s1.F s1.H (upd s1.F dx (.xd (fldsV fl vs))) (upd s1.H dx (.xd (fldsV fl vs))) [] := by
              refine ⟨Evl.Ex.new nFx, Evl.Ex.new hdx, fun b o hb => ?_, fun b o hb hf => ?_, fun b hb => absurd hb (by simp), List.nodup_nil, fun b hb => absurd hb (by simp)⟩
              · by_cases z : b = dx
                · rw [z, upd_same] at hb
                  rw [z, upd_same]
                  exact hb
                · rw [upd_ne z] at hb ⊢
                  exact g.st.ex b o hb
              · have z : b ≠ dx := fun z => by
                  rw [z, hdx] at hb
                  cases hb
                rw [upd_ne z]
                exact hf
            have g1 := g0.made mk
            have z := q4 ⟨s1.σ, upd s1.F dx (.xd (fldsV fl vs)), upd s1.H dx (.xd (fldsV fl vs)), s1.fp⟩ (some dx) g1.step0 g1.st (.inr ⟨dx, fl.reverse.map fun p => vs.getD (p.2 - 1) .non, rfl, (by simpa [fldsN] using hf0), ?_, ?_, ?_⟩)
            · rw [show s1.σ = σ from g.sl] at z
              exact z
            · show upd s1.F dx _ dx = _
              rw [upd_same, fldsV, fldsN, List.zip_map']
            · rw [fldsN, List.length_map, List.length_map]
            · have key : ∀ l : List (Str × Nat), RepDs C.B (upd s1.F dx (.xd (fldsV fl vs))) (l.map fun p => vs.getD (p.2 - 1) .non) (l.map fun p => ds.getD (p.2 - 1) .non) := by
                intro l
                induction l with
                | nil => exact .nil
                | cons p l ih => exact .cons ((rd.getD _).ex mk.exF) ih
              exact key _
        · rw [if_neg ho] at q4
          exact False.elim q4
/-- raise C(e, ..) -/
theorem k_raise {cn : Str} {mp : List MP} {fl : List (Str × Nat)} {as : List Opd} {n : Nat} {x : Str} {p p5 : Pos} (T : OexC X.K (C.B.cA cn)) (iC : PySem.W.findIn X.K (.ref (C.B.cA cn)) "__init__" = some (some (.ref fa))) (tI : PySem.W.typeIn X.K (.ref fa) = some (.type "function"))
    (F1 : FnOk X.prog X.w X.K X.mg X.base CX0 k fa fd ps (XSp (C.B.cA cn) n (okAll mp) (fldsV fl))) (hr : Room (k + 1) X.A) (hb : Binds X.K fd ps []) (hg : Gl X x) (hm : X.mg x = some (.ref (C.B.cA cn))) (hc : X.calm = true) (tk : Takes X W) (ha : CArgs X C W (e :: es) as)
    (hn : as.length = n := by rfl) (hn2 : n ≤ 1000 := by decide) (hf0 : fl ≠ [] := by simp) (hdb : (x == ("__debug__" : Str)) = false := by decide) (he : starEach (e :: es) X.env = (false, eval e X.env) :: starEach es X.env := by rfl) (hpl : (backTo pos (starEach es X.env)).any (·.1) = false := by rfl) :
    PS X (.Raise (some (.Call (.Name x p) (e :: es) [] pos)) none p5) (tsOf C W (sRaise cn mp fl as)) :=
  PS_to (ps_raise hc tk (pmk_oex T iC tI F1 hr hb .nil (fun _ _ _ _ _ _ _ h => False.elim h) hg hm ha.1 hdb he hpl)) fun D0 σ H h => raise_of ha.2 hn hn2 hf0 h
end
end DL
end

section
set_option Elab.async false
set_option linter.all false
set_option maxRecDepth 100000
set_option maxHeartbeats 4000000
/-! isinstance of a caught exception that has a dict -/
namespace DL
open PySem PySem.Spec PyProof.Rows L2
section
open PySem.W PySem.Calls
variable {prog : Program} {w : World} {A : Around} {E : Value → Shared → Prop} {s : Shared} {K : Frag} {x D0 : Addr} {ox od : Obj}
theorem kin_classX {Q : Option Value → Shared → Prop} (T : ExcC K D0) (X : K.In s.heap) (I : PySem.W.InstAt s.heap x ox D0 (some od)) (h : Q (some (.ref D0)) { s with toks := s.toks + 1 }) :
    wpAny (model prog w) A (getAttr? (.ref x) "__class__") Q E s := by
  have hf : findObj K D0 (some od) "__class__" = some (.bind (.builtin "getset_descriptor.__get__") (.builtin "object.__class__")) :=
    findObj_data (by obtain ⟨cd, hc, _⟩ := any_some T.hd; rw [hc]; rfl) T.ha T.hn T.ht
  obtain ⟨hp, g, d, t, os⟩ := s
  have lt := I.type (M := model prog w)
  have lg := looks_findIn (M := model prog w) X T.hg
  have lk := looks_findIn (M := model prog w) X T.hk
  have lf := looks_find (M := model prog w) X I hf
  have sub : Looks (model prog w) hp (isInstance (.ref x) (.type "BaseException")) true := lt.andThen (looks_subIn X T.hs)
  have n0 : (false && onTheHeap (Value.builtin "BaseException.__getattribute__")) = false := rfl
  have n1 : (onTheHeap (Value.ref D0) && Value.builtin "BaseException.__getattribute__" == Value.builtin "object.__getattribute__") = false := by
    rw [show (Value.builtin "BaseException.__getattribute__" == Value.builtin "object.__getattribute__") = false by decide +kernel]
    rfl
  unfold getAttr? getAttrBy? getAttrBy
  refine wpAny_bind (wpAny_mkText (wpAny_bind (wpAny_attempt (wpAny_holding (wpAny_bind (lt.at (wpAny_bind (lg.at ?_))))))))
  show wpAny _ _ (if (onTheHeap (Value.ref D0) && Value.builtin "BaseException.__getattribute__" == Value.builtin "object.__getattribute__") = true then _ else _) _ _ _
  rw [n1, if_neg Bool.false_ne_true]
  unfold getAttrByItsOwn hookBefore
  refine wpAny_bind ?_
  rw [if_pos (show onTheHeap (Value.ref D0) = true from rfl)]
  refine lk.at ?_
  refine wpAny_bind (wpAny_attempt (wpAny_holding ?_))
  unfold callGetattribute
  rw [n0, if_neg Bool.false_ne_true]
  unfold boundAndCalled
  rw [PySem.F.excAttr_ValueError.ga.bind (.ref x)]
  refine wpAny_bind (wpAny_pure ?_)
  show wpAny _ _ (call (.builtin "BaseException.__getattribute__") [.ref x, .str "__class__" t]) _ _ _
  refine wpAny_call (codeAny_call_builtin PySem.F.excAttr_ValueError.ga.plain PySem.F.entry_bexc_ga ?_)
  refine @check_slot (model prog w) _ _ ⟨hp, g, d, t + 1, os⟩ "BaseException.__getattribute__" "BaseException" "__getattribute__" (.ref x) [.str "__class__" t] [] _
    (by decide +kernel) (by decide +kernel) sub (PySem.F.args_bexc_ga (.ref x) (.str "__class__" t)) ?_
  unfold Builtin.«object.__getattribute__»
  refine wpAny_bind (wpAny_of_eq (a := ((Value.ref x : Value), [Value.str "__class__" t])) (by first | rfl | (simp only [slotArgs]; rfl)) ?_)
  refine wpAny_bind (wpAny_pure (wpAny_bind (lt.at (wpAny_bind (lf.at ?_)))))
  show wpAny _ _ (holding [Value.builtin "object.__class__"] (call (.builtin "getset_descriptor.__get__") [.builtin "object.__class__", .ref x, .ref D0]) >>= ret) _ _ _
  refine wpAny_bind (wpAny_holding (wpAny_call (class_get (s := ⟨hp, g, d, t + 1, os⟩) (ox := ox) (od := some od) X I T.hm ?_)))
  refine wpAny_pure ?_
  show wpAny _ _ (handedOut (.ref D0)) _ _ _
  rw [handedOut_of (v := .ref D0) rfl]
  first
    | exact wpAny_pure (wpAny_pure h)
    | exact wpAny_pure h
    | exact wpAny_pure (wpAny_bind (wpAny_pure (wpAny_pure h)))
theorem kitx_excX (T : ExcC K D0) : KitX K (.ref x) (.ref D0) (fun h => PySem.W.InstAt h x ox D0 (some od)) where
  ty := fun _ _ _ I => I.type
  it := fun _ _ X _ => by
    obtain ⟨cd, hc, _⟩ := any_some T.hd
    unfold clsIn at hc
    split at hc
    · rename_i _ _ _ _ ho
      intro A' Q' E' s' k q
      unfold isType loadHead
      exact wpAny_bind (wpAny_loadPart (k _ _ (X _ _ ho)) (wpAny_pure q))
    · cases hc
  ne := fun h tp dd its n sl X htp => by
    obtain ⟨cd, hc, _⟩ := any_some T.hd
    refine Bool.eq_false_iff.mpr fun q => ?_
    have e : D0 = tp := Value.ref.inj (beq_iff_eq.mp q)
    subst e
    unfold clsIn at hc
    split at hc
    · rename_i _ _ _ _ ho
      have z := (X _ _ ho).symm.trans htp
      cases z
    · cases hc
  ca := fun X I k => kin_classX T X I k
end
/-- isinstance(e, c), the dict of e at dx -/
def rIsX (K : PySem.W.Frag) (Dc a dx : Addr) : List V → Hp → VK → Prop := fun xs H Q => ∃ (c : V) (cv : Value) (b : Bool) (fs : List (Str × V)), xs = [.ref a, c] ∧ H dx = some (.xd fs) ∧ (∀ u, RelV c u → u = cv) ∧ PySem.W.kitOne K (.ref Dc) cv = some b ∧ Q (.bl b) H
theorem call_isX {X : Cx} {a dx Dc : Addr} {oe : Obj} {pn : List (Addr × Obj)} (T : ExcC X.K Dc) (hz : Zc (.ref Dc) (some dx) oe) (hf : ∃ vs, oe.data = .fields vs) : CallR (X.suite a ((a, oe) :: pn)) (.builtin "isinstance") (rIsX X.K Dc a dx) := by
  intro pins s σ H xs us Q I r h
  obtain ⟨c, cv, b, fs, rfl, hx, hcv, e, q⟩ := h
  cases r with
  | cons rx rr =>
    cases rr with
    | cons rt rr =>
      cases rr
      cases rx
      have ec := hcv _ rt
      subst ec
      obtain ⟨hget, _⟩ := I.pin (a, oe) (List.mem_append.mpr (.inl List.mem_cons_self))
      have hxx : ObjOk X.prog X.w H s.heap dx (.xd fs) := I.hok dx _ hx
      obtain ⟨mA, hns, hr⟩ := hxx
      obtain ⟨od, ho, _⟩ := lookIn_ns hns
      obtain ⟨vs, hv⟩ := hf
      have J : PySem.W.InstAt s.heap a oe Dc (some od) := ⟨hget, hz.1, by unfold PySem.W.notCls; rw [hv] <;> rfl, by rw [hz.2]; exact ho⟩
      exact PySem.W.kia_one (kitx_excX T) I.kIn J e (fun z => nomatch z) fun tk => ⟨.bl b, H, I.kept (t' := tk) fun _ _ z => z, rfl, q⟩
/-! ### try .. except A as e: .. except B: .. -/
abbrev HSu := Addr → Value → Option Addr → TS
/-- a slot, if there is one, is set -/
def setI (i : Option Nat) (w : Option V) (σ : L2.St) : L2.St := match i with
  | some j => σ.set j w
  | none => σ
def endI (i : Option Nat) (D0 : Ends) : Ends := { nx := fun σ' H' => D0.nx (setI i none σ') H', rt := D0.rt, bk := fun σ' H' => D0.bk (setI i none σ') H', ct := fun σ' H' => D0.ct (setI i none σ') H' }
def wTry (K : PySem.W.Frag) (Wout : WX) (D0 : Ends) : List (Value × Option Nat × HSu) → WX
  | [] => Wout
  | (c, i, ts) :: r => fun cls d σ H => ∃ b, PySem.W.exmOne K cls c = some b ∧ (b = true → ∀ a, H a = none → ts a cls d (endI i D0) (setI i (some (.ref a)) σ) H) ∧ (b = false → wTry K Wout D0 r cls d σ H)
inductive HOks (X : Cx) : List ExceptHandler → List (Value × Option Nat × HSu) → Prop
  | nil : HOks X [] []
  | un {x : Str} {c : Value} {ts : HSu} {b₀ : Stmt} {suite : List Stmt} {np pos' : Pos} {hds : List ExceptHandler} {l : List (Value × Option Nat × HSu)} (hc : Names X x c)
      (hsu : ∀ (a : Addr) (oe : Obj) (cls : Value) (d : Option Addr) (pn : List (Addr × Obj)), Zc cls d oe → (∃ vs, oe.data = .fields vs) → PSs (X.suite a ((a, oe) :: pn)) (b₀ :: suite) (ts a cls d)) (r : HOks X hds l) :
      HOks X (.ExceptHandler (some (.Name x np)) none (b₀ :: suite) pos' :: hds) ((c, none, ts) :: l)
  | as {x n : Str} {i : Nat} {c : Value} {ts : HSu} {b₀ : Stmt} {suite : List Stmt} {np pos' : Pos} {hds : List ExceptHandler} {l : List (Value × Option Nat × HSu)} (hc : Names X x c) (hi : X.N[i]? = some n) (hln : X.env.kindOf n = some .local)
      (hsu : ∀ (a : Addr) (oe : Obj) (cls : Value) (d : Option Addr) (pn : List (Addr × Obj)), Zc cls d oe → (∃ vs, oe.data = .fields vs) → PSs (X.suite a ((a, oe) :: pn)) (b₀ :: suite) (ts a cls d)) (r : HOks X hds l) :
      HOks X (.ExceptHandler (some (.Name x np)) (some n) (b₀ :: suite) pos' :: hds) ((c, some i, ts) :: l)
section
variable {X : Cx} {body : List Stmt} {h₀ : ExceptHandler} {hds : List ExceptHandler} {l : List (Value × Option Nat × HSu)} {pos : Pos} {tb : WX → TS} {Wout : WX}
theorem ps_try_all (hs : X.stack = X.env :: X.outer) (hf : X.env.frame = some X.env.locals) (hN : X.N.Nodup) (tk : Takes X Wout)
    (hb : ∀ (W : WX) (pn : List (Addr × Obj)) (xe : Value → Shared → Prop), Takes (X.tr pn xe) W → PassesOwn (model X.prog X.w) X.A X.env xe → PSs (X.tr pn xe) body (tb W))
    (hh : HOks X (h₀ :: hds) l) : PS X (.Try body (h₀ :: hds) [] [] pos) (fun D0 σ H => tb (wTry X.K Wout D0 l) D0 σ H) := by
  refine ⟨fun pins s σ H D0 I h => ?_⟩
  have ok := I.ok
  have fr : X.A.frames = some (X.env :: X.outer) := by rw [ok.frames, hs]
  refine wpAny_Try_except ?_
  refine wpAny_mono ((hb (wTry X.K Wout D0 l) (X.pn ++ pins) (fun e s₁ => wpAny (model X.prog X.w) X.A (noteFrame e X.env) (fun _ s₂ => wpAny (model X.prog X.w) X.A (setFlight e none) (fun _ s₃ =>
    wpAny (model X.prog X.w) X.A (handleBy e X.env (h₀ :: hds)) (SP X pins D0) X.xe s₃) X.xe s₂) X.xe s₁) (fun u s' xx => ?_) PassesOwn.looking).run [] s σ H D0 (I.toTry _) h) (fun fl s1 hsp => ?_) (fun e s1 he => he)
  · obtain ⟨a, B, sI, pins', σ', H', cls, d, rfl, J', nb, up, sky, na, os, ag, w⟩ := xx
    have J : Inv X pins σ' H' sI := J'.ofTry ok
    have sky' : Sky B (X.env :: X.outer) a (Zc cls d) X.env.locals s'.heap := by rw [← hs]; exact sky
    show wpAny (model X.prog X.w) X.A (noteFrame (.ref a) X.env) _ _ _
    refine Sky.land Zc.steady fr hf sky' fun h3 fl3 up3 => ?_
    have J3 : Inv X pins σ' H' { s' with heap := h3 } := J.landed nb fl3.1 (up.trans up3) os ag
    obtain ⟨oe3, vs3, he3, hz3, hd3⟩ := fl3.there
    have nfr : a ∉ frs (X.env :: X.outer) := fun hm => by
      obtain ⟨_, o', e', hnf⟩ := fl3.2.2.1.mem hm
      rw [he3] at e'; cases e'
      exact hnf _ hd3
    have nL : a ≠ X.env.locals := fun z => nfr (List.mem_filterMap.mpr ⟨X.env, List.mem_cons_self, by rw [hf, z]⟩)
    have nF : a ∉ X.fs := fun hm => by
      obtain ⟨e, he, q⟩ := List.mem_filterMap.mp hm
      exact nfr (List.mem_filterMap.mpr ⟨e, List.mem_cons_of_mem _ he, q⟩)
    have S3 := J3.suite he3 hd3 na nL nF
    have LT : PySem.W.Looks (model X.prog X.w) h3 (typeOf (.ref a)) cls := fun A Q E s k q => wpAny_typeOf_ref (k _ _ he3) (by rw [hz3.1]; exact q)
    have test : ∀ {x : Str} {np : Pos} {c : Value} {Q : Value → Shared → Prop} {E : Value → Shared → Prop}, Names X x c → Q c { s' with heap := h3 } → wpAny (model X.prog X.w) (X.A.mark (some (.ref a))) (eval (.Name x np) X.env) Q E { s' with heap := h3 } := fun {x np c Q E} hc q => by
      obtain ⟨hg, hdbg, hm | ⟨hm, hv, hnn⟩⟩ := hc
      · exact ld_glob (X := X.suite a ((a, oe3) :: (X.pn ++ pins))) S3 hg hm q hdbg
      · exact ld_blt (X := X.suite a ((a, oe3) :: (X.pn ++ pins))) S3 hg hm hv q hnn hdbg
    have go : ∀ {hds' : List ExceptHandler} {l' : List (Value × Option Nat × HSu)}, HOks X hds' l' → wTry X.K Wout D0 l' cls d σ' H' →
        wpAny (model X.prog X.w) X.A (handleBy (.ref a) X.env hds') (SP X pins D0) X.xe { s' with heap := h3 } := by
      intro hds' l' hk
      induction hk with
      | nil =>
        intro w
        refine wpAny_handleBy_nil ?_
        obtain ⟨k1, k2, k3, oe, vs, T, oT, ts', he, hz, hd, h1, hr⟩ := id fl3
        unfold PySem.passOn
        refine wpAny_bind (wpAny_field he hd h1 ?_)
        rw [if_neg (show ¬ ((Value.ref T == Value.none) = true) from by simp)]
        have fin : wpAny (model X.prog X.w) X.A (setFlight (.ref a) X.env.frame) (fun _ s4 => wpAny (model X.prog X.w) X.A (throw (.ref a) : Sem Flow) (SP X pins D0) X.xe s4) X.xe { s' with heap := h3 } := by
          rw [hf]
          refine HandSPX.setFlight_upZ fl3 fun h4 hh4 up4 => wpAny_throw (tk _ _ ?_)
          exact ⟨a, B, sI, pins, σ', H', cls, d, rfl, J, nb, (up.trans up3).trans up4, .inr (.inr (by rw [hs]; exact hh4)), na, os, ag, w⟩
        first
          | exact wpAny_bind (wpAny_pure (wpAny_bind fin))
          | exact wpAny_bind fin
      | @un x c ts b₀ suite np pos' hds2 l2 hc hsu r ih =>
        intro w
        obtain ⟨b, hb1, hyes, hno⟩ := w
        refine wpAny_handleBy_cons (codeAny_handlers_test ?_) (by intro q; cases q)
        have LM := PySem.W.exm_one (M := model X.prog X.w) (J3.kIn) LT hb1
        refine test hc (LM.here ?_)
        cases b with
        | true =>
          refine codeAny_handlers_suite ?_
          refine HandSPX.lands_againZ fl3 fun h4 fl4 up4 => ?_
          have J4 : Inv X pins σ' H' { s' with heap := h4 } := J.landed nb fl4.1 ((up.trans up3).trans up4) os ag
          obtain ⟨oe4, vs4, he4, hz4, hd4⟩ := fl4.there
          have S4 := J4.suite he4 hd4 na nL nF
          refine wpAny_mono ((hsu a oe4 cls d (X.pn ++ pins) hz4 ⟨_, hd4⟩).run [] _ _ H' _ S4 (hyes rfl a na)) (fun fl s6 hsp => ?_) (fun _ _ z => False.elim z)
          cases fl with
          | next =>
            obtain ⟨σ6, H6, S6, q6⟩ := hsp
            exact ⟨_, _, S6.unsuite ok, q6⟩
          | brk =>
            obtain ⟨σ6, H6, S6, q6⟩ := hsp
            exact ⟨_, _, S6.unsuite ok, q6⟩
          | cont =>
            obtain ⟨σ6, H6, S6, q6⟩ := hsp
            exact ⟨_, _, S6.unsuite ok, q6⟩
          | ret u =>
            obtain ⟨v6, σ6, H6, S6, r6, q6⟩ := hsp
            exact ⟨_, _, _, S6.unsuite ok, r6, q6⟩
        | false =>
          show wpAny _ X.A (handleBy (.ref a) X.env hds2) _ _ _
          exact ih (hno rfl)
      | @as x n i c ts b₀ suite np pos' hds2 l2 hc hi hln hsu r ih =>
        intro w
        obtain ⟨b, hb1, hyes, hno⟩ := w
        refine wpAny_handleBy_cons (codeAny_handlers_test ?_) (by intro q; cases q)
        have LM := PySem.W.exm_one (M := model X.prog X.w) (J3.kIn) LT hb1
        refine test hc (LM.here ?_)
        cases b with
        | true =>
          refine codeAny_handlers_suite_as ?_
          refine HandSPX.lands_againZ fl3 fun h4 fl4 up4 => ?_
          have J4 : Inv X pins σ' H' { s' with heap := h4 } := J.landed nb fl4.1 ((up.trans up3).trans up4) os ag
          obtain ⟨oe4, vs4, he4, hz4, hd4⟩ := fl4.there
          have S4 := J4.suite he4 hd4 na nL nF
          refine store_ok (X := X.suite a ((a, oe4) :: (X.pn ++ pins))) (v := .ref a) S4 hN hi (.inl hln) rfl (fun s5 S5 => ?_) (.inr hln)
          refine wpAny_mono ((hsu a oe4 cls d (X.pn ++ pins) hz4 ⟨_, hd4⟩).run [] s5 _ H' _ S5 (hyes rfl a na)) (fun fl s6 hsp => ?_) (fun _ _ z => False.elim z)
          have end_ : ∀ {σ6 : L2.St} {H6 : Hp} {Q : Shared → Prop}, Inv (X.suite a ((a, oe4) :: (X.pn ++ pins))) [] σ6 H6 s6 → (∀ s7, Inv X pins (σ6.set i none) H6 s7 → Q s7) →
              wpAny (model X.prog X.w) X.A (do bindName X.env n .none; unbindBehindTheSuite X.env n pos') (fun _ s7 => Q s7) X.xe s6 := fun {σ6 H6 Q} S6 hq => gone_ok (S6.unsuite ok) hN hi hln hq
          cases fl with
          | next =>
            obtain ⟨σ6, H6, S6, q6⟩ := hsp
            exact end_ S6 fun s7 J7 => ⟨_, _, J7, q6⟩
          | brk =>
            obtain ⟨σ6, H6, S6, q6⟩ := hsp
            exact end_ S6 fun s7 J7 => ⟨_, _, J7, q6⟩
          | cont =>
            obtain ⟨σ6, H6, S6, q6⟩ := hsp
            exact end_ S6 fun s7 J7 => ⟨_, _, J7, q6⟩
          | ret u =>
            obtain ⟨v6, σ6, H6, S6, r6, q6⟩ := hsp
            exact end_ S6 fun s7 J7 => ⟨_, _, _, J7, r6, q6⟩
        | false =>
          show wpAny _ X.A (handleBy (.ref a) X.env hds2) _ _ _
          exact ih (hno rfl)
    exact go hh w
  · cases fl with
    | next =>
      obtain ⟨σ', H', J', q⟩ := hsp
      exact wpAny_execs_nil ⟨σ', H', J'.ofTry ok, q⟩
    | brk =>
      obtain ⟨σ', H', J', q⟩ := hsp
      exact ⟨σ', H', J'.ofTry ok, q⟩
    | cont =>
      obtain ⟨σ', H', J', q⟩ := hsp
      exact ⟨σ', H', J'.ofTry ok, q⟩
    | ret u =>
      obtain ⟨v, σ', H', J', r, q⟩ := hsp
      exact ⟨v, σ', H', J'.ofTry ok, r, q⟩
end
end DL
end

section
set_option Elab.async false
set_option linter.all false
set_option maxRecDepth 100000
set_option maxHeartbeats 2000000
namespace DL
open PySem PySem.Spec PyProof.Rows L2
/-! ### try, as what it does to data -/
structure HD where
  tab : List (Str × Bool)
  slot : Option Nat
  run : SS
def xSl (ns : List Str) (ds : List D) : Option O := match ns with
  | [] => some (.fro .non)
  | _ => some (.fro (.node (.xd ns) ds))
def envX (i : Option Nat) (c : Str) (ns : List Str) (ds : List D) (env : Env) : Env := (match i with
  | some i => env.set i none
  | none => env) ++ [some (.fro (.str c)), xSl ns ds]
def envB (n : Nat) (i : Option Nat) (env : Env) : Env := match i with
  | some i => (env.take n).set i none
  | none => env.take n
def tryH (n : Nat) : List HD → Str → List Str → List D → SS
  | [], c, ns, ds, env => .err c ns ds env
  | h :: r, c, ns, ds, env => match h.tab.lookup c with
    | some true => (h.run (envX h.slot c ns ds env)).noX.bind fun q => .ok (q.1, envB n h.slot q.2)
    | some false => tryH n r c ns ds env
    | none => .stuck
def sTry (n : Nat) (u : SS) (hs : List HD) : SS := fun env => match u env with
  | .ok r => .ok r
  | .err c ns ds env => tryH n hs c ns ds env
  | .stuck => .stuck
/-- a suite's place -/
def xV : Option Addr → V
  | some dx => .ref dx
  | none => .non
def Ctx.su (B : Base) (n : Nat) (ks : List Nat) (i : Option Nat) (a : Addr) (c : Str) (d : Option Addr) : Ctx := match i with
  | some i => ⟨B, n, i :: ks, some (i, a), [some (.str c), some (xV d)], fun j b h => by
      have z := Prod.mk.inj (Option.some.inj h)
      rw [← z.1]
      exact List.mem_cons_self ..⟩
  | none => ⟨B, n, ks, none, [some (.str c), some (xV d)], fun _ _ h => nomatch h⟩
def tSu (B : Base) (n : Nat) (ks : List Nat) (i : Option Nat) (u : SS) : HSu := fun a cls d D0 σ H => ∃ c, cls = .ref (B.cA c) ∧ tsOf (Ctx.su B n ks i a c d) WF u D0 σ H
/-- the classes that a clause takes, and those that it does not -/
def TabOk (K : PySem.W.Frag) (B : Base) (cv : Value) (tab : List (Str × Bool)) : Prop := ∀ p ∈ tab, PySem.W.exmOne K (.ref (B.cA p.1)) cv = some p.2
inductive HdR (K : PySem.W.Frag) (B : Base) (n : Nat) (ks : List Nat) : List HD → List (Value × Option Nat × HSu) → Prop
  | nil : HdR K B n ks [] []
  | cons {h : HD} {cv : Value} {hs : List HD} {l : List (Value × Option Nat × HSu)} (ht : TabOk K B cv h.tab) (hi : ∀ i, h.slot = some i → i < n ∧ i ∉ ks) (r : HdR K B n ks hs l) : HdR K B n ks (h :: hs) ((cv, h.slot, tSu B n ks h.slot h.run) :: l)
theorem lookup_mem {α : Type} {c : Str} {b : α} : ∀ {l : List (Str × α)}, l.lookup c = some b → (c, b) ∈ l
  | [], h => by cases h
  | (x, y) :: l, h => by
    rw [List.lookup_cons] at h
    cases e : (c == x) with
    | true =>
      rw [e] at h
      have z := Option.some.inj h
      have e2 : c = x := by simpa using e
      rw [e2, z]
      exact List.mem_cons_self ..
    | false =>
      rw [e] at h
      exact List.mem_cons_of_mem _ (lookup_mem h)
section
variable {B : Base} {n : Nat} {ks : List Nat} {W : WX} {s s1 : S0} {env : Env}
/-- into a suite -/
theorem St.into {C : Ctx} (hB : C.B = B) (hn : C.n = n) (hks : C.ks = ks) (hxs : C.xs = []) (st : St C s env) (i : Option Nat) (hi : ∀ j, i = some j → j < n ∧ j ∉ ks) (c : Str) {ns : List Str} {ds : List D} {d : Option Addr} (xr : XRep B s.F d ns ds) (a : Addr) :
    ∃ fp, (∀ p ∈ fp, p ∈ s.fp) ∧ St (Ctx.su B n ks i a c d) ⟨setI i (some (.ref a)) s.σ, s.F, s.H, fp⟩ (envX i c ns ds env) := by
  have hid : RepE B s.F s.H [some (.str c), some (xV d)] [some (.fro (.str c)), xSl ns ds] [] := by
    refine .cons (fp := []) (fq := []) ⟨_, rfl, .fro (.str c)⟩ (.cons (fp := []) (fq := []) ?_ .nil)
    rcases xr with ⟨rfl, rfl, rfl⟩ | ⟨dx, vs, rfl, h1, h2, h3, h4⟩
    · exact ⟨.non, rfl, .fro .non⟩
    · cases ns with
      | nil => exact absurd rfl h1
      | cons m ns => exact ⟨.ref dx, rfl, .fro (.node ⟨h2, h3⟩ h4)⟩
  have rep := st.rep
  rw [hxs, List.append_nil, hB] at rep
  cases i with
  | none =>
    refine ⟨s.fp, fun _ h => h, st.ex, ?_, st.nd, st.nf, st.len.trans hn, fun _ _ h => nomatch h⟩
    have z := rep.append hid
    rw [List.append_nil] at z
    exact z
  | some j =>
    obtain ⟨hj1, hj2⟩ := hi j rfl
    have hl : j < env.length := by
      have z := rep.len
      have z2 := st.len
      omega
    obtain ⟨w, fa, fq, fb, h1, h2, h3, k⟩ := rep.at j _ (List.getElem?_eq_getElem hl)
    have nd := st.nd
    rw [h2] at nd
    have kk := k s.F s.H (some (.ref a)) none [] (Evl.Ex.refl _) (fun _ _ => rfl) rfl
    rw [List.append_nil] at kk
    have mem : ∀ p ∈ fa ++ fb, p ∈ s.fp := fun p hp => by
      rw [h2]
      simp only [List.mem_append] at *
      grind
    refine ⟨fa ++ fb, mem, st.ex, ?_, nodup_sub nd, fun p hp => st.nf p (mem p hp), ?_, fun j' b h => ?_⟩
    · have z := kk.append hid
      rw [List.append_nil] at z
      exact z
    · show (s.σ.set j (some (.ref a))).length = n
      rw [List.length_set, st.len, hn]
    · have h' : some (j, a) = some (j', b) := h
      cases h'
      show (s.σ.set j (some (.ref a)))[j]? = _
      rw [List.getElem?_set_self (by rw [st.len, hn]; exact hj1)]
/-- out of a suite -/
theorem St.outof {C : Ctx} (hB : C.B = B) (hn : C.n = n) (hks : C.ks = ks) (hxs : C.xs = []) (hxe : C.xe = none) {i : Option Nat} (hi : ∀ j, i = some j → j < n ∧ j ∉ ks) {c : Str} {d : Option Addr} {a : Addr} {s0 s2 : S0} {env2 : Env}
    (x0 : ∀ j ∈ ks, s1.σ[j]? = s0.σ[j]?) (x1 : Step C s0 ⟨s0.σ, s1.F, s1.H, s1.fp⟩) (x : Step (Ctx.su B n ks i a c d) s1 s2) (y : St (Ctx.su B n ks i a c d) s2 env2) :
    ∃ fp, (∀ p ∈ fp, p ∈ s2.fp) ∧ Step C s0 ⟨(setI i none s2.σ), s2.F, s2.H, fp⟩ ∧ St C ⟨(setI i none s2.σ), s2.F, s2.H, fp⟩ (envB n i env2) := by
  have len2 : s2.σ.length = n := by
    have z := y.len
    cases i with
    | none => exact z
    | some j => exact z
  have rep : RepE B s2.F s2.H (s2.σ ++ [some (.str c), some (xV d)]) env2 s2.fp := by
    have z := y.rep
    cases i with
    | none => exact z
    | some j => exact z
  have xk : ∀ j ∈ ks, s2.σ[j]? = s1.σ[j]? := fun j hj => x.sl j (by
    cases i with
    | none => exact hj
    | some i => exact List.mem_cons_of_mem _ hj)
  obtain ⟨fa, fb, e1, r1, r2⟩ := rep.split
  rw [len2] at r1
  have ndfa : fa.Nodup := by
    have z := y.nd
    rw [e1, List.nodup_append] at z
    exact z.1
  have step : ∀ (σ' : L2.St) (fp : List Addr), (∀ p ∈ fp, p ∈ s2.fp) → (∀ j ∈ C.ks, σ'[j]? = s2.σ[j]?) → Step C s0 ⟨σ', s2.F, s2.H, fp⟩ := fun σ' fp hfp hσ => by
    refine ⟨x1.exF.trans x.exF, fun a o h hn => ?_, fun a o h hf hn => ?_, fun a ha => ?_, fun j hj => ?_⟩
    · have k1 := x1.keep a o h hn
      exact x.keep a o k1 fun z => by
        rcases x1.new a z with q | q
        · exact hn q
        · rw [h] at q
          cases q
    · have k1 := x1.keep a o h hn
      have k2 := x1.nof a o h hf hn
      exact x.nof a o k1 k2 fun z => by
        rcases x1.new a z with q | q
        · exact hn q
        · rw [h] at q
          cases q
    · rcases x.new a (hfp a ha) with q | q
      · exact x1.new a q
      · rcases none_or (H := s0.H) a with h | ⟨o, h⟩
        · exact .inr h
        · by_cases hn : a ∈ s0.fp
          · exact .inl hn
          · rw [x1.keep a o h hn] at q
            cases q
    · rw [hσ j hj]
      rw [hks] at hj
      rw [xk j hj, x0 j hj]
  cases i with
  | none =>
    refine ⟨fa, fun p hp => by rw [e1]; exact List.mem_append_left _ hp, step _ _ (fun p hp => by rw [e1]; exact List.mem_append_left _ hp) (fun _ _ => rfl), y.ex, ?_, ndfa, fun p hp => y.nf p (by rw [e1]; exact List.mem_append_left _ hp), len2.trans hn.symm, fun j b h => ?_⟩
    · show RepE C.B s2.F s2.H (s2.σ ++ C.xs) (env2.take n) fa
      rw [hxs, List.append_nil, hB]
      exact r1
    · rw [hxe] at h
      cases h
  | some j =>
    obtain ⟨hj1, hj2⟩ := hi j rfl
    have hl : j < (env2.take n).length := by
      have z := r1.len
      omega
    obtain ⟨w, ga, gq, gb, h1, h2, h3, k⟩ := r1.at j _ (List.getElem?_eq_getElem hl)
    have kk := k s2.F s2.H none none [] (Evl.Ex.refl _) (fun _ _ => rfl) rfl
    rw [List.append_nil] at kk
    have nd := ndfa
    rw [h2] at nd
    have mem : ∀ p ∈ ga ++ gb, p ∈ s2.fp := fun p hp => by
      rw [e1, h2]
      simp only [List.mem_append] at *
      grind
    refine ⟨ga ++ gb, mem, step _ _ mem (fun j' hj' => List.getElem?_set_ne fun z => hj2 (by rw [z, ← hks]; exact hj')), y.ex, ?_, nodup_sub nd, fun p hp => y.nf p (mem p hp), ?_, fun j b h => ?_⟩
    · show RepE C.B s2.F s2.H (s2.σ.set j none ++ C.xs) ((env2.take n).set j none) (ga ++ gb)
      rw [hxs, List.append_nil, hB]
      exact kk
    · show (s2.σ.set j none).length = C.n
      rw [List.length_set, len2, hn]
    · rw [hxe] at h
      cases h
/-- what the clauses do -/
theorem try_of {K : PySem.W.Frag} {C : Ctx} (hB : C.B = B) (hn : C.n = n) (hks : C.ks = ks) (hxs : C.xs = []) (hxe : C.xe = none) {D0 : Ends} {s : S0} : ∀ {hs : List HD} {l : List (Value × Option Nat × HSu)}, HdR K B n ks hs l → ∀ (c : Str) (ns : List Str) (ds : List D) (env1 : Env) (s1 : S0) (dx : Option Addr),
    FinS C W D0 s (tryH n hs c ns ds env1) → Step C s s1 → St C s1 env1 → XRep B s1.F dx ns ds → wTry K W D0 l (.ref (B.cA c)) dx s1.σ s1.H
  | _, _, .nil, c, ns, ds, env1, s1, dx, q, x, y, xr => by
    have z := q s1 dx x y (by rw [hB]; exact xr)
    rw [hB] at z
    exact z
  | h :: hs, _, .cons (cv := cv) ht hi r, c, ns, ds, env1, s1, dx, q, x, y, xr => by
    have q1 : FinS C W D0 s (match h.tab.lookup c with
      | some true => (h.run (envX h.slot c ns ds env1)).noX.bind fun q => .ok (q.1, envB n h.slot q.2)
      | some false => tryH n hs c ns ds env1
      | none => .stuck) := q
    cases el : h.tab.lookup c with
    | none =>
      rw [el] at q1
      exact False.elim q1
    | some b =>
      rw [el] at q1
      refine ⟨b, ht _ (lookup_mem el), fun eb a ha => ?_, fun eb => ?_⟩
      · subst eb
        have q2 : FinS C W D0 s ((h.run (envX h.slot c ns ds env1)).noX.bind fun q => .ok (q.1, envB n h.slot q.2)) := q1
        obtain ⟨fp, h1, h2⟩ := y.into hB hn hks hxs h.slot hi c xr a
        have x1 : Step C s ⟨s.σ, s1.F, s1.H, fp⟩ := ⟨x.exF, x.keep, x.nof, fun p hp => x.new p (h1 p hp), fun _ _ => rfl⟩
        show tSu B n ks h.slot h.run a (.ref (B.cA c)) dx (endI h.slot D0) (setI h.slot (some (.ref a)) s1.σ) s1.H
        refine ⟨c, rfl, s1.F, fp, envX h.slot c ns ds env1, h2, ?_⟩
        have x0 : ∀ j ∈ ks, (setI h.slot (some (.ref a)) s1.σ)[j]? = s.σ[j]? := fun j hj => by
          have z := x.sl j (by rw [hks]; exact hj)
          cases es : h.slot with
          | none => exact z
          | some i =>
            have ne : i ≠ j := fun z => (hi i es).2 (by rw [z]; exact hj)
            show (s1.σ.set i (some (.ref a)))[j]? = _
            rw [List.getElem?_set_ne ne]
            exact z
        cases er : h.run (envX h.slot c ns ds env1) with
        | stuck =>
          rw [er] at q2
          exact False.elim q2
        | err c2 ns2 ds2 env2 =>
          rw [er] at q2
          exact False.elim q2
        | ok p =>
          obtain ⟨fl, env2⟩ := p
          rw [er] at q2
          cases fl with
          | nx =>
            intro s2 xx yy
            obtain ⟨fp3, m1, m2, m3⟩ := St.outof hB hn hks hxs hxe hi x0 x1 xx yy
            exact (q2 _ m2 m3)
          | bk =>
            intro s2 xx yy
            obtain ⟨fp3, m1, m2, m3⟩ := St.outof hB hn hks hxs hxe hi x0 x1 xx yy
            exact (q2 _ m2 m3)
          | ct =>
            intro s2 xx yy
            obtain ⟨fp3, m1, m2, m3⟩ := St.outof hB hn hks hxs hxe hi x0 x1 xx yy
            exact (q2 _ m2 m3)
          | rt o =>
            intro v s2 fr xx yy ro nd nf
            have yy0 := yy
            obtain ⟨fp3, m1, m2, m3⟩ := St.outof hB hn hks hxs hxe hi x0 x1 (xx.less (s1 := s2) (fr := s2.fp ++ fr) (fr1 := s2.fp) fun a ha => List.mem_append_left _ ha) yy
            show D0.rt v s2.H
            have nd2 : (fp3 ++ fr).Nodup := by
              rw [List.nodup_append] at nd ⊢
              exact ⟨m3.nd, nd.2.1, fun p hp b hb => nd.2.2 p (m1 p hp) b hb⟩
            refine q2 v ⟨_, s2.F, s2.H, fp3⟩ fr ?_ m3 (by rw [hB]; exact (show RepO B s2.F s2.H v o fr from (by
              have z := ro
              cases es : h.slot with
              | none =>
                rw [es] at z
                exact z
              | some j =>
                rw [es] at z
                exact z))) nd2 nf
            refine ⟨m2.exF, m2.keep, m2.nof, fun p hp => ?_, m2.sl⟩
            rcases List.mem_append.mp hp with z | z
            · exact m2.new p z
            · rcases xx.new p (List.mem_append_right _ z) with q | q
              · exact x1.new p q
              · rcases none_or (H := s.H) p with hh | ⟨o, hh⟩
                · exact .inr hh
                · by_cases hm : p ∈ s.fp
                  · exact .inl hm
                  · rw [x1.keep p o hh hm] at q
                    cases q
      · subst eb
        exact try_of hB hn hks hxs hxe r c ns ds env1 s1 dx q1 x y xr
end
section
variable {X : Cx} {C : Ctx} {W : WX} {body : List Stmt} {h₀ : ExceptHandler} {hds : List ExceptHandler} {pos : Pos} {u : SS}
theorem k_try {B : Base} {n : Nat} {ks : List Nat} {hs : List HD} {l : List (Value × Option Nat × HSu)} (hst : X.stack = X.env :: X.outer) (hf : X.env.frame = some X.env.locals) (hN : X.N.Nodup) (tk : Takes X W)
    (hb : ∀ (W : WX) (pn : List (Addr × Obj)) (xe : Value → Shared → Prop), Takes (X.tr pn xe) W → PassesOwn (model X.prog X.w) X.A X.env xe → PSs (X.tr pn xe) body (tsOf (Ctx.top B n ks) W u))
    (hr : HdR X.K B n ks hs l) (hh : HOks X (h₀ :: hds) l) : PS X (.Try body (h₀ :: hds) [] [] pos) (tsOf (Ctx.top B n ks) W (sTry n u hs)) :=
  PS_to (ps_try_all hst hf hN tk hb hh) fun D0 σ H h => by
    obtain ⟨F, fp, env, st, q⟩ := h
    refine ⟨F, fp, env, st, ?_⟩
    have q1 : FinS (Ctx.top B n ks) W D0 ⟨σ, F, H, fp⟩ (match u env with
      | .ok r => .ok r
      | .err c ns ds env => tryH n hs c ns ds env
      | .stuck => .stuck) := q
    cases e : u env with
    | ok r =>
      rw [e] at q1
      obtain ⟨fl, env1⟩ := r
      cases fl with
      | nx => exact q1
      | bk => exact q1
      | ct => exact q1
      | rt o => exact q1
    | stuck =>
      rw [e] at q1
      exact q1
    | err c ns ds env1 =>
      rw [e] at q1
      intro s1 dx x y xr
      exact try_of (C := Ctx.top B n ks) rfl rfl rfl rfl rfl hr c ns ds env1 s1 dx q1 x y xr
/-- a suite, for whatever it has caught -/
theorem su_of {X : Cx} {B : Base} {n : Nat} {ks : List Nat} {i : Option Nat} {u : SS} {suite : List Stmt} {a : Addr} {cls : Value} {d : Option Addr} (h : ∀ c, cls = .ref (B.cA c) → PSs X suite (tsOf (Ctx.su B n ks i a c d) WF u)) : PSs X suite (tSu B n ks i u a cls d) :=
  ⟨fun pins s σ H Q I ⟨c, e, q⟩ => (h c e).run pins s σ H Q I q⟩
end
/-! ### the caught exception -/
section
variable {B : Base} {n : Nat} {ks : List Nat} {i : Nat} {a : Addr} {c : Str} {d : Option Addr} {X : Cx} {e o : Expr} {pos : Pos}
/-- e.f -/
def eXf (n : Nat) (cs : List Str) (f : Str) : ES := fun env => match getO env n, getO env (n + 1) with
  | some (.fro (.str c)), some (.fro (.node (.xd ns) ds)) => if cs.contains c = true then (match getF f ns ds with
    | some v => .ok (.fro v, env)
    | none => .stuck) else .stuck
  | _, _ => .stuck
theorem hid_get {F H : Hp} {σ : L2.St} {env : Env} {fp : List Addr} (r : RepE B F H (σ ++ [some (.str c), some (xV d)]) env fp) (hl : σ.length = n) : (∀ o, getO env n = some o → ∃ fq, RepO B F H (.str c) o fq) ∧ ∀ o, getO env (n + 1) = some o → ∃ fq, RepO B F H (xV d) o fq := by
  subst hl
  constructor
  · intro o ho
    obtain ⟨w, fa, fq, fb, h1, h2, h3, _⟩ := r.at _ _ (getO_some ho)
    rw [List.getElem?_append_right (Nat.le_refl _), Nat.sub_self] at h1
    obtain ⟨v, hv, ro⟩ := h3
    have z : some (V.str c) = w := Option.some.inj (show some (some (V.str c)) = some w from h1)
    rw [← z] at hv
    cases hv
    exact ⟨_, ro⟩
  · intro o ho
    obtain ⟨w, fa, fq, fb, h1, h2, h3, _⟩ := r.at _ _ (getO_some ho)
    rw [List.getElem?_append_right (Nat.le_add_right _ _), Nat.add_sub_cancel_left] at h1
    obtain ⟨v, hv, ro⟩ := h3
    have z : some (xV d) = w := Option.some.inj (show some (some (xV d)) = some w from h1)
    rw [← z] at hv
    cases hv
    exact ⟨_, ro⟩
theorem su_rep {s : S0} {env : Env} {i : Option Nat} (st : St (Ctx.su B n ks i a c d) s env) : RepE B s.F s.H (s.σ ++ [some (.str c), some (xV d)]) env s.fp ∧ s.σ.length = n := by
  cases i with
  | none => exact ⟨st.rep, st.len⟩
  | some j => exact ⟨st.rep, st.len⟩
theorem c_xf {oe : Obj} {cls : Value} {pn : List (Addr × Obj)} {f : Str} {cs : List Str} (hcs : ∀ c ∈ cs, XfC X.K (B.cA c) ∧ PySem.W.findIn X.K (.ref (B.cA c)) f = some none) (ec : cls = .ref (B.cA c)) (hz : Zc cls d oe) (hf : ∃ vs, oe.data = .fields vs) (he : PE (X.suite a ((a, oe) :: pn)) e (tVar i))
    (hb : attributeBase e f X.env (eval e X.env) = eval e X.env := by rfl) : PE (X.suite a ((a, oe) :: pn)) (.Attribute e f pos) (teOf (Ctx.su B n ks (some i) a c d) WF (eXf n cs f)) := by
  by_cases hc : cs.contains c = true
  · obtain ⟨T, hno⟩ := hcs c (by simpa using hc)
    refine PE_to (pe_xf (C := B.cA c) T hno hz hf he hb) fun σ H Q q => ?_
    obtain ⟨F, fp, env, st, q⟩ := q
    obtain ⟨r, hl⟩ := su_rep st
    obtain ⟨g1, g2⟩ := hid_get r hl
    have hxe : σ[i]? = some (some (.ref a)) := st.xe i a rfl
    refine ⟨.ref a, hxe, rfl, ec, ?_⟩
    unfold eXf at q
    split at q
    · rename_i c' ns ds e1 e2
      by_cases hc' : cs.contains c' = true
      · rw [if_pos hc'] at q
        cases e3 : getF f ns ds with
        | none =>
          rw [e3] at q
          exact False.elim q
        | some v =>
          rw [e3] at q
          obtain ⟨fq, ro⟩ := g2 _ e2
          cases d with
          | none =>
            have ro : RepO B F H .non (.fro (.node (.xd ns) ds)) fq := ro
            cases ro with
            | fro rd => cases rd
          | some dx =>
            have ro : RepO B F H (.ref dx) (.fro (.node (.xd ns) ds)) fq := ro
            cases ro with
            | fro rd =>
              cases rd with
              | node hs rs =>
                obtain ⟨k1, k2⟩ := hs
                obtain ⟨w, k3, k4⟩ := getF_rep rs k2 e3
                refine ⟨dx, _, w, rfl, st.ex _ _ k1, k3, ?_⟩
                exact q w ⟨σ, F, H, fp⟩ [] st.got (.fro k4)
      · rw [if_neg hc'] at q
        exact False.elim q
    · exact False.elim q
  · -- a class that has no such field is not asked
    refine ⟨fun pins s σ H Q I q => ?_⟩
    obtain ⟨F, fp, env, st, q⟩ := q
    obtain ⟨r, hl⟩ := su_rep st
    obtain ⟨g1, g2⟩ := hid_get r hl
    unfold eXf at q
    split at q
    · rename_i c' ns ds e1 e2
      obtain ⟨fq, ro⟩ := g1 _ e1
      cases ro with
      | fro rd =>
        cases rd
        rw [if_neg hc] at q
        exact False.elim q
    · exact False.elim q
/-- isinstance(e, C) of the caught exception -/
def eXis (n : Nat) (tab : List (Str × Bool)) : ES := fun env => match getO env n, getO env (n + 1) with
  | some (.fro (.str c)), some (.fro .non) => (match tab.lookup c with
    | some b => .ok (.fro (.bl b), env)
    | none => .stuck)
  | some (.fro (.str c)), some (.fro (.node (.xd _) _)) => (match tab.lookup c with
    | some b => .ok (.fro (.bl b), env)
    | none => .stuck)
  | _, _ => .stuck
theorem xis_of {W : WX} {tab : List (Str × Bool)} {σ : L2.St} {H : Hp} {Q : VK} (h : teOf (Ctx.su B n ks (some i) a c d) W (eXis n tab) σ H Q) :
    ∃ b, tab.lookup c = some b ∧ σ[i]? = some (some (.ref a)) ∧ (∀ dx, d = some dx → ∃ fs, H dx = some (.xd fs)) ∧ Q (.bl b) H := by
  obtain ⟨F, fp, env, st, q⟩ := h
  obtain ⟨r, hl⟩ := su_rep st
  obtain ⟨g1, g2⟩ := hid_get r hl
  have q0 : ∀ c', FinE (Ctx.su B n ks (some i) a c d) W Q ⟨σ, F, H, fp⟩ (match tab.lookup c' with
      | some b => .ok (.fro (.bl b), env)
      | none => .stuck) → ∃ b, tab.lookup c' = some b ∧ Q (.bl b) H := fun c' z => by
    cases el : tab.lookup c' with
    | none =>
      rw [el] at z
      exact False.elim z
    | some b =>
      rw [el] at z
      exact ⟨b, rfl, z (.bl b) ⟨σ, F, H, fp⟩ [] st.got (.fro (.bl b))⟩
  unfold eXis at q
  split at q
  · rename_i c' e1 e2
    obtain ⟨fq, ro⟩ := g1 _ e1
    cases ro with
    | fro rd =>
      cases rd
      obtain ⟨b, k1, k2⟩ := q0 _ q
      refine ⟨b, k1, st.xe i a rfl, fun dx ed => ?_, k2⟩
      subst ed
      obtain ⟨fq, ro⟩ := g2 _ e2
      have ro : RepO B F H (.ref dx) (.fro .non) fq := ro
      cases ro with
      | fro rd => cases rd
  · rename_i c' ns ds e1 e2
    obtain ⟨fq, ro⟩ := g1 _ e1
    cases ro with
    | fro rd =>
      cases rd
      obtain ⟨b, k1, k2⟩ := q0 _ q
      refine ⟨b, k1, st.xe i a rfl, fun dx ed => ?_, k2⟩
      subst ed
      obtain ⟨fq, ro⟩ := g2 _ e2
      have ro : RepO B F H (.ref dx) (.fro (.node (.xd ns) ds)) fq := ro
      cases ro with
      | fro rd =>
        cases rd with
        | node hs rs => exact ⟨_, st.ex _ _ hs.1⟩
  · exact False.elim q
theorem c_xis {oe : Obj} {cls : Value} {pn : List (Addr × Obj)} {tab : List (Str × Bool)} {ecl : Expr} {cv : Value} {cvv : V} {p : Pos} (hcs : ∀ q ∈ tab, ExcC X.K (B.cA q.1) ∧ PySem.W.kitOne X.K (.ref (B.cA q.1)) cv = some q.2) (ec : cls = .ref (B.cA c)) (hz : Zc cls d oe) (hf : ∃ vs, oe.data = .fields vs) (he : PE (X.suite a ((a, oe) :: pn)) e (tVar i))
    (hcl : PE (X.suite a ((a, oe) :: pn)) ecl (tC cvv)) (hcv : ∀ u, RelV cvv u → u = cv) (hg : Gl X "isinstance") (hm : X.mg "isinstance" = none) (hs1 : starEach [e, ecl] X.env = (false, eval e X.env) :: starEach [ecl] X.env := by rfl) (hs2 : starEach [ecl] X.env = (false, eval ecl X.env) :: starEach [] X.env := by rfl)
    (hpl : (backTo pos (starEach [ecl] X.env)).any (·.1) = false := by rfl) : PE (X.suite a ((a, oe) :: pn)) (.Call (.Name "isinstance" p) [e, ecl] [] pos) (teOf (Ctx.su B n ks (some i) a c d) WF (eXis n tab)) := by
  have ha : PA (X.suite a ((a, oe) :: pn)) [e, ecl] (tCons (tVar i) (tCons (tC cvv) tNil)) := pa_cons he (pa_cons hcl pa_nil hs2) hs1
  subst ec
  cases el : tab.lookup c with
  | none =>
    refine ⟨fun pins s σ H Q I q => ?_⟩
    obtain ⟨b, k1, _⟩ := xis_of q
    rw [el] at k1
    cases k1
  | some b =>
    obtain ⟨T, hk⟩ := hcs _ (lookup_mem el)
    cases d with
    | none =>
      refine PE_to (pe_callB (call_isE T hz hf) hg hm PyProof.Rows.Boot.«isinstance» ha (by decide) (by decide) hs1 hpl) fun σ H Q q => ?_
      obtain ⟨b', k1, k2, k3, k4⟩ := xis_of q
      rw [el] at k1
      cases k1
      exact ⟨.ref a, k2, cvv, cv, b, rfl, hcv, hk, k4⟩
    | some dx =>
      refine PE_to (pe_callB (call_isX T hz hf) hg hm PyProof.Rows.Boot.«isinstance» ha (by decide) (by decide) hs1 hpl) fun σ H Q q => ?_
      obtain ⟨b', k1, k2, k3, k4⟩ := xis_of q
      rw [el] at k1
      cases k1
      obtain ⟨fs, k5⟩ := k3 dx rfl
      exact ⟨.ref a, k2, cvv, cv, b, fs, rfl, k5, hcv, hk, k4⟩
end
end DL
end

section
set_option Elab.async false
set_option linter.all false
set_option maxRecDepth 100000
set_option maxHeartbeats 2000000
namespace DL
open PySem PySem.Spec PyProof.Rows L2
/-! ### what operators make of data -/
section
variable {B : Base} {F H : Hp} {v w : V} {x y : O} {fp fq : List Addr} {Q : VK}
def strO : O → Option Str
  | .fro (.str x) => some x
  | _ => none
theorem str_of {i : Str} (r : RepO B F H v x fp) (e : strO x = some i) : v = .str i := by
  cases r with
  | fro r =>
    cases r with
    | str j =>
      have z : j = i := Option.some.inj e
      rw [z]
    | _ => cases e
  | own h r => cases e
  | tree h r => cases e
def tupO : O → Option (List D)
  | .fro (.node .tup ds) => some ds
  | _ => none
theorem tup_of {ds : List D} (r : RepO B F H v x fp) (e : tupO x = some ds) : ∃ a vs, v = .ref a ∧ SqT B.K F a vs ∧ RepDs B F vs ds := by
  cases r with
  | fro r =>
    cases r with
    | @node a t vs ds' hs rs =>
      cases t with
      | tup =>
        have z : ds' = ds := Option.some.inj e
        subst z
        exact ⟨a, vs, rfl, hs, rs⟩
      | _ => cases e
    | _ => cases e
  | own h r => cases e
  | tree h r => cases e
def ownL : O → Option (List D)
  | .own .lst ds => some ds
  | _ => none
theorem ownL_of {ds : List D} (r : RepO B F H v x fp) (e : ownL x = some ds) : ∃ a vs, v = .ref a ∧ H a = some (.lst vs) ∧ RepDs B F vs ds := by
  cases r with
  | fro r => cases e
  | @own a t vs ds' hs rs =>
    cases t with
    | lst =>
      have z : ds' = ds := Option.some.inj e
      subst z
      exact ⟨a, vs, rfl, hs, rs⟩
    | _ => cases e
  | tree h r => cases e
/-- a list or tuple that is read -/
theorem seq_of {p : Tag × List D} (ex : Ex F H) (r : RepO B F H v x fp) (e : x.items? = some p) : ∃ a vs, v = .ref a ∧ RepDs B F vs p.2 ∧ ((p.1 = .lst ∧ SqL B.K H a vs) ∨ (p.1 = .tup ∧ SqT B.K H a vs)) := by
  unfold O.items? at e
  split at e
  · have z := (Option.some.inj e).symm
    subst z
    cases r with
    | fro r =>
      cases r with
      | node hs rs => exact ⟨_, _, rfl, rs, .inr ⟨rfl, Evl.ex_t ex hs⟩⟩
  · have z := (Option.some.inj e).symm
    subst z
    cases r with
    | fro r =>
      cases r with
      | node hs rs => exact ⟨_, _, rfl, rs, .inl ⟨rfl, Evl.ex_l ex hs⟩⟩
  · have z := (Option.some.inj e).symm
    subst z
    cases r with
    | own hs rs => exact ⟨_, _, rfl, rs, .inl ⟨rfl, .inl (.inl hs)⟩⟩
  · have z := (Option.some.inj e).symm
    subst z
    cases r with
    | own hs rs => exact ⟨_, _, rfl, rs, .inr ⟨rfl, .inl (.inl hs)⟩⟩
  · cases e
/-- a new thing -/
theorem Ret.new {t : Tag} {ds : List D} {vs : List V} {p : Addr} {o : HO} (k : Ret B F H (.own t ds) Q) (ex : Ex F H) (hp : H p = none) (hl : Lies B (upd H p o) p t vs) (r : RepDs B F vs ds) : Q (.ref p) (upd H p o) := by
  have nF : F p = none := by
    rcases none_or (H := F) p with z | ⟨u, z⟩
    · exact z
    · rw [ex p u z] at hp
      cases hp
  refine k (.ref p) F (upd H p o) [p] ⟨Evl.Ex.refl _, Evl.Ex.new hp, ex.trans (Evl.Ex.new hp), fun _ _ _ h => h, fun a ha => ?_, by simp, fun a ha => ?_⟩ (.own hl r)
  · rw [List.mem_singleton.mp ha]
    exact hp
  · rw [List.mem_singleton.mp ha]
    exact nF
/-- a new tuple -/
theorem Ret.newT {ds : List D} {vs : List V} {p : Addr} (k : Ret B F H (.fro (.node .tup ds)) Q) (ex : Ex F H) (hp : H p = none) (r : RepDs B F vs ds) : Q (.ref p) (upd H p (.tup vs)) := by
  have nF : F p = none := by
    rcases none_or (H := F) p with z | ⟨u, z⟩
    · exact z
    · rw [ex p u z] at hp
      cases hp
  refine k (.ref p) (upd F p (.tup vs)) (upd H p (.tup vs)) [] ⟨Evl.Ex.new nF, Evl.Ex.new hp, fun a u h => ?_, fun a u h hf => ?_, fun a ha => absurd ha (by simp), List.nodup_nil, fun a ha => absurd ha (by simp)⟩ (.fro (.node (.inl (.inl upd_same)) (r.ex (Evl.Ex.new nF))))
  · by_cases z : a = p
    · rw [z, upd_same] at h
      rw [z, upd_same]
      exact h
    · rw [upd_ne z] at h ⊢
      exact ex a u h
  · have z : a ≠ p := fun z => by
      rw [z, hp] at h
      cases h
    rw [upd_ne z]
    exact hf
end
section
variable {B : Base}
/-- two ints -/
def op2 (c : Int → Int → Bool) (g : Int → Int → D) : List O → Option O
  | [x, y] => match intO x, intO y with
    | some i, some j => if c i j = true then some (.fro (g i j)) else none
    | _, _ => none
  | _ => none
theorem app_i2 {Cc : Int → Int → Prop} {gv : Int → Int → V} {c : Int → Int → Bool} {g : Int → Int → D} (hc : ∀ i j, c i j = true → Cc i j) (hg : ∀ F i j, RepD B F (gv i j) (g i j)) : AppL B (r2l (rI Cc gv)) (op2 c g) := fun F H vs os o Q ex ar e k => by
  unfold op2 at e
  split at e
  · rename_i x y
    obtain ⟨v, w, fp, fq, rfl, r, r2, nf, nf2⟩ := allRep2 ar
    split at e
    · rename_i i j ei ej
      have ev := int_of r ei
      have ew := int_of r2 ej
      subst ev ew
      split at e
      · rename_i hb
        have eo := Option.some.inj e
        subst eo
        exact ⟨i, j, rfl, rfl, hc i j hb, k.same ex (hg F i j)⟩
      · cases e
    · cases e
  · cases e
theorem app_i20 {gv : Int → Int → V} {g : Int → Int → D} (hg : ∀ F i j, RepD B F (gv i j) (g i j)) : AppL B (r2l (rI0 gv)) (op2 (fun _ _ => true) g) := fun F H vs os o Q ex ar e k => by
  obtain h := app_i2 (B := B) (Cc := fun _ _ => True) (gv := gv) (c := fun _ _ => true) (g := g) (fun _ _ _ => trivial) hg F H vs os o Q ex ar e k
  match vs, h with
  | [_, _], ⟨i, j, e1, e2, _, q⟩ => exact ⟨i, j, e1, e2, q⟩
def op1 (g : Int → D) : List O → Option O
  | [x] => match intO x with
    | some i => some (.fro (g i))
    | _ => none
  | _ => none
theorem app_i1 {gv : Int → V} {g : Int → D} (hg : ∀ F i, RepD B F (gv i) (g i)) : AppL B (r1l (rU gv)) (op1 g) := fun F H vs os o Q ex ar e k => by
  unfold op1 at e
  split at e
  · rename_i x
    obtain ⟨v, fp, rfl, r, nf⟩ := allRep1 ar
    split at e
    · rename_i i ei
      have ev := int_of r ei
      subst ev
      have eo := Option.some.inj e
      subst eo
      exact ⟨i, rfl, k.same ex (hg F i)⟩
    · cases e
  · cases e
def fSub := op2 (fun _ _ => true) fun i j => .int (i - j)
def mulOk (i j : Int) : Bool := decide ((-(2 ^ 64) < i ∧ i < 2 ^ 64) ∨ (-(2 ^ 64) < j ∧ j < 2 ^ 64))
def fMul := op2 mulOk fun i j => .int (i * j)
def divOk (i j : Int) : Bool := decide (j ≠ 0 ∧ j.natAbs < 1073741824)
def fDiv := op2 divOk fun i j => .int (i.fdiv j)
def fMod := op2 (fun _ j => decide (j ≠ 0)) fun i j => .int (i.fmod j)
def powOk (i j : Int) : Bool := decide (0 ≤ j ∧ j ≤ 1000000 ∧ i.natAbs < 2 ^ 64)
def fPow := op2 powOk fun i j => .int (i ^ j.toNat)
def fLt := op2 (fun _ _ => true) fun i j => .bl (decide (i < j))
def fLe := op2 (fun _ _ => true) fun i j => .bl (decide (i ≤ j))
def fGt := op2 (fun _ _ => true) fun i j => .bl (decide (j < i))
def fGe := op2 (fun _ _ => true) fun i j => .bl (decide (j ≤ i))
def fNeg := op1 fun i => .int (-i)
/-- + -/
def fAdd : List O → Option O
  | [x, y] => match intO x, intO y with
    | some i, some j => some (.fro (.int (i + j)))
    | _, _ => match strO x, strO y with
      | some i, some j => if i.length + j.length ≤ 16777216 then some (.fro (.str (i ++ j))) else none
      | _, _ => match tupO x, tupO y with
        | some ds, some es => if ds.length + es.length ≤ 16777216 then some (.fro (.node .tup (ds ++ es))) else none
        | _, _ => match ownL x, ownL y with
          | some ds, some es => if ds.length + es.length ≤ 16777216 then some (.own .lst (ds ++ es)) else none
          | _, _ => none
  | _ => none
theorem RepDs.app {F : Hp} : ∀ {vs ws : List V} {ds es : List D}, RepDs B F vs ds → RepDs B F ws es → RepDs B F (vs ++ ws) (ds ++ es)
  | _, _, _, _, .nil, r => r
  | _, _, _, _, .cons h hs, r => .cons h (hs.app r)
def rAddX (K : PySem.W.Frag) : R2 := fun x y H Q => (rI0 (fun i j => .int (i + j)) x y H Q ∨ (∃ i j, x = .str i ∧ y = .str j ∧ i.length + j.length ≤ sizeLine ∧ Q (.str (i ++ j)) H)) ∨ (rCatA K x y H Q ∨ rCat x y H Q)
theorem app_add : AppL B (r2l (rAddX B.K)) fAdd := fun F H vs os o Q ex ar e k => by
  unfold fAdd at e
  split at e
  · rename_i x y
    obtain ⟨v, w, fp, fq, rfl, r, r2, nf, nf2⟩ := allRep2 ar
    split at e
    · rename_i i j ei ej
      have ev := int_of r ei
      have ew := int_of r2 ej
      subst ev ew
      have eo := Option.some.inj e
      subst eo
      exact .inl (.inl ⟨i, j, rfl, rfl, k.same ex (.int _)⟩)
    · split at e
      · rename_i i j ei ej
        have ev := str_of r ei
        have ew := str_of r2 ej
        subst ev ew
        split at e
        · rename_i hz
          have eo := Option.some.inj e
          subst eo
          exact .inl (.inr ⟨i, j, rfl, rfl, by rw [sizeLine_eq]; exact hz, k.same ex (.str _)⟩)
        · cases e
      · split at e
        · rename_i ds es ei ej
          obtain ⟨a, vs, rfl, h1, h2⟩ := tup_of r ei
          obtain ⟨b, ws, rfl, h3, h4⟩ := tup_of r2 ej
          split at e
          · rename_i hz
            have eo := Option.some.inj e
            subst eo
            refine .inr (.inl ⟨a, b, vs, ws, rfl, rfl, Evl.ex_t ex h1, Evl.ex_t ex h3, by rw [sizeLine_eq, h2.len, h4.len]; exact hz, fun e1 => ?_, fun _ e2 => ?_, fun _ _ p hp => k.newT ex hp (h2.app h4)⟩)
            · subst e1
              cases h2
              exact k.same ex (.node (t := .tup) h3 h4)
            · subst e2
              cases h4
              rw [List.append_nil] at k
              exact k.same ex (.node (t := .tup) h1 h2)
          · cases e
        · split at e
          · rename_i ds es ei ej
            obtain ⟨a, vs, rfl, h1, h2⟩ := ownL_of r ei
            obtain ⟨b, ws, rfl, h3, h4⟩ := ownL_of r2 ej
            split at e
            · rename_i hz
              have eo := Option.some.inj e
              subst eo
              exact .inr (.inr ⟨a, b, vs, ws, rfl, rfl, h1, h3, by rw [sizeLine_eq, h2.len, h4.len]; exact hz, fun p hp => k.new ex hp (show upd H p _ p = _ from upd_same) (h2.app h4)⟩)
            · cases e
          · cases e
  · cases e
/-! ### is -/
def fIsN (neg : Bool) : List O → Option O
  | [x, .fro .non] => match x with
    | .fro .non => some (.fro (.bl (!neg)))
    | _ => some (.fro (.bl neg))
  | _ => none
theorem non_dec {F H : Hp} {v : V} {x : O} {fp : List Addr} (r : RepO B F H v x fp) : (x = .fro .non ∧ v = .non) ∨ ((∀ d, x = .fro d → d ≠ .non) ∧ v ≠ .non) := by
  cases r with
  | fro r =>
    cases r with
    | non => exact .inl ⟨rfl, rfl⟩
    | _ => exact .inr ⟨fun d e z => (by
        cases e
        cases z), fun z => by cases z⟩
  | own h r => exact .inr ⟨fun d e z => (by cases e), fun z => by cases z⟩
  | tree h r => exact .inr ⟨fun d e z => (by cases e), fun z => by cases z⟩
theorem fIsN_val {F H : Hp} {v : V} {x : O} {fp : List Addr} {neg : Bool} {o : O} (r : RepO B F H v x fp) (e : fIsN neg [x, .fro .non] = some o) : o = .fro (.bl (if neg = true then !decide (v = .non) else decide (v = .non))) := by
  rcases non_dec r with ⟨rfl, rfl⟩ | ⟨h1, h2⟩
  · have z := Option.some.inj (show some _ = some o from e)
    subst z
    cases neg <;> simp
  · have z : some (O.fro (.bl neg)) = some o := by
      cases x with
      | fro d =>
        cases d with
        | non => exact absurd rfl (h1 _ rfl)
        | _ => exact e
      | _ => exact e
    have z := Option.some.inj z
    subst z
    cases neg <;> simp [h2]
theorem app_isN : AppL B (r2l fun x y H Q => y = .non ∧ Q (.bl (decide (x = .non))) H) (fIsN false) := fun F H vs os o Q ex ar e k => by
  have e0 := e
  unfold fIsN at e
  split at e
  · rename_i x
    obtain ⟨v, w, fp, fq, rfl, r, r2, nf, nf2⟩ := allRep2 ar
    have eo := fIsN_val r e0
    subst eo
    cases r2 with
    | fro r2 =>
      cases r2
      exact ⟨rfl, k.same ex (.bl _)⟩
  · cases e
theorem app_notN : AppL B (r2l fun x y H Q => y = .non ∧ Q (.bl (!decide (x = .non))) H) (fIsN true) := fun F H vs os o Q ex ar e k => by
  have e0 := e
  unfold fIsN at e
  split at e
  · rename_i x
    obtain ⟨v, w, fp, fq, rfl, r, r2, nf, nf2⟩ := allRep2 ar
    have eo := fIsN_val r e0
    subst eo
    cases r2 with
    | fro r2 =>
      cases r2
      exact ⟨rfl, k.same ex (.bl _)⟩
  · cases e
/-- x is True, x is False, any x -/
def rIsBx (neg : Bool) : R2 := fun x y H Q => ∃ b, y = .bl b ∧ Q (.bl (if neg = true then !decide (x = .bl b) else decide (x = .bl b))) H
theorem isBx_val {b : Bool} {x : V} {u : Value} (r : RelV x u) : plainIs u (.bool b) = true ∧ (u == Value.bool b) = decide (x = .bl b) := by
  cases x with
  | bl a =>
    cases (show u = Value.bool a from r)
    refine ⟨rfl, ?_⟩
    cases a <;> cases b <;> rfl
  | non => cases r; exact ⟨rfl, rfl⟩
  | int i => obtain ⟨t, rfl⟩ := r; exact ⟨rfl, rfl⟩
  | str x => obtain ⟨t, rfl⟩ := r; exact ⟨rfl, rfl⟩
  | byt x => obtain ⟨t, rfl⟩ := r; exact ⟨rfl, rfl⟩
  | flt x => obtain ⟨t, rfl⟩ := r; exact ⟨rfl, rfl⟩
  | ty n => cases r; exact ⟨rfl, rfl⟩
  | ref a => cases r; exact ⟨rfl, rfl⟩
theorem op_isBx {X : Cx} : OpR X (compareOp .Is) (rIsBx false) := by
  intro pins s σ H x y v u Q I rx ry h
  obtain ⟨b, rfl, q⟩ := h
  cases ry
  obtain ⟨h1, h2⟩ := isBx_val (b := b) rx
  exact wpAny_is_plain h1 (fin_bl I q h2.symm)
theorem op_notBx {X : Cx} : OpR X (compareOp .IsNot) (rIsBx true) := by
  intro pins s σ H x y v u Q I rx ry h
  obtain ⟨b, rfl, q⟩ := h
  cases ry
  obtain ⟨h1, h2⟩ := isBx_val (b := b) rx
  exact wpAny_isNot_plain h1 (fin_bl I q (by rw [h2]; rfl))
def fIsB (neg : Bool) : List O → Option O
  | [x, .fro (.bl b)] => match x with
    | .fro (.bl a) => some (.fro (.bl (if neg = true then !decide (a = b) else decide (a = b))))
    | _ => some (.fro (.bl neg))
  | _ => none
theorem app_isB {neg : Bool} : AppL B (r2l (rIsBx neg)) (fIsB neg) := fun F H vs os o Q ex ar e k => by
  unfold fIsB at e
  split at e
  · rename_i x b
    obtain ⟨v, w, fp, fq, rfl, r, r2, nf, nf2⟩ := allRep2 ar
    cases r2 with
    | fro r2 =>
      cases r2
      refine ⟨b, rfl, ?_⟩
      split at e
      · rename_i a
        have eo := Option.some.inj e
        subst eo
        cases r with
        | fro r =>
          cases r
          have z : decide (V.bl a = V.bl b) = decide (a = b) := by simp
          rw [z]
          exact k.same ex (.bl _)
      · rename_i hx
        have eo := Option.some.inj e
        subst eo
        have z : decide (v = V.bl b) = false := decide_eq_false fun z => by
          subst z
          cases r with
          | fro r =>
            cases r
            exact hx _ rfl
        rw [z]
        cases neg with
        | true => exact k.same ex (.bl _)
        | false => exact k.same ex (.bl _)
  · cases e
/-! ### == of data -/
mutual
def toP : D → Option PyData
  | .non => some .none
  | .bl b => some (.bool b)
  | .int i => some (.int i)
  | .str x => some (.str x)
  | .node .tup ds => (toPs ds).map .tuple
  | .node .lst ds => (toPs ds).map .list
  | .node _ _ => none
def toPs : List D → Option (List PyData)
  | [] => some []
  | d :: ds => match toP d, toPs ds with
    | some p, some ps => some (p :: ps)
    | _, _ => none
end
mutual
theorem toP_dp {F H : Hp} (ex : Ex F H) : ∀ {v : V} {d : D} {p : PyData}, RepD B F v d → toP d = some p → Dp B.K H v p
  | _, _, _, .non, e => by
    rw [toP] at e
    cases e
    exact .non
  | _, _, _, .bl b, e => by
    rw [toP] at e
    cases e
    exact .bl b
  | _, _, _, .int i, e => by
    rw [toP] at e
    cases e
    exact .int i
  | _, _, _, .str x, e => by
    rw [toP] at e
    cases e
    exact .str x
  | _, _, _, .node (t := t) (ds := ds) hs rs, e => by
    cases t with
    | tup =>
      rw [toP] at e
      cases e2 : toPs ds with
      | none =>
        rw [e2] at e
        cases e
      | some ps =>
        rw [e2] at e
        cases e
        exact .tup (Evl.ex_t ex hs) (toPs_dp ex rs e2)
    | lst =>
      rw [toP] at e
      cases e2 : toPs ds with
      | none =>
        rw [e2] at e
        cases e
      | some ps =>
        rw [e2] at e
        cases e
        exact .lst (Evl.ex_l ex hs) (toPs_dp ex rs e2)
    | ins c ns => cases e
    | xd ns => cases e
    | dK ks => cases e
    | dT ks => cases e
theorem toPs_dp {F H : Hp} (ex : Ex F H) : ∀ {vs : List V} {ds : List D} {ps : List PyData}, RepDs B F vs ds → toPs ds = some ps → DpAll B.K H vs ps
  | _, _, _, .nil, e => by
    rw [toPs] at e
    cases e
    exact .nil
  | _, _, _, .cons (d := d) (ds := ds) h hs, e => by
    rw [toPs] at e
    split at e
    · rename_i p ps e1 e2
      cases e
      exact .cons (toP_dp ex h e1) (toPs_dp ex hs e2)
    · cases e
end
/-- of something that is only looked at -/
def O.look? : O → Option D
  | .fro d => some d
  | .own .lst ds => some (.node .lst ds)
  | .own .tup ds => some (.node .tup ds)
  | _ => none
def pyO (x : O) : Option PyData := match x.look? with
  | some d => (match toP d with
    | some p => if SeqAt.shaped p = true then some p else none
    | none => none)
  | none => none
theorem pyO_dp {F H : Hp} {v : V} {x : O} {fp : List Addr} {p : PyData} (ex : Ex F H) (r : RepO B F H v x fp) (e : pyO x = some p) : Dp B.K H v p ∧ SeqAt.shaped p = true := by
  unfold pyO at e
  split at e
  · rename_i d ed
    split at e
    · rename_i q eq
      split at e
      · rename_i hs
        have z := Option.some.inj e
        subst z
        refine ⟨?_, hs⟩
        cases r with
        | fro r =>
          cases ed
          exact toP_dp ex r eq
        | @own a t vs ds hl rs =>
          cases t with
          | lst =>
            cases ed
            rw [toP] at eq
            cases e2 : toPs ds with
            | none =>
              rw [e2] at eq
              cases eq
            | some ps =>
              rw [e2] at eq
              cases eq
              exact .lst (.inl (.inl hl)) (toPs_dp ex rs e2)
          | tup =>
            cases ed
            rw [toP] at eq
            cases e2 : toPs ds with
            | none =>
              rw [e2] at eq
              cases eq
            | some ps =>
              rw [e2] at eq
              cases eq
              exact .tup (.inl (.inl hl)) (toPs_dp ex rs e2)
          | _ => cases ed
        | tree h rs => cases ed
      · cases e
    · cases e
  · cases e
def fEq (neg : Bool) : List O → Option O
  | [x, y] => match pyO x, pyO y with
    | some p, some q => some (.fro (.bl (if neg = true then !PyData.eqv p q else PyData.eqv p q)))
    | _, _ => none
  | _ => none
theorem app_eq : AppL B (r2l (rEqD B.K)) (fEq false) := fun F H vs os o Q ex ar e k => by
  unfold fEq at e
  split at e
  · obtain ⟨v, w, fp, fq, rfl, r, r2, nf, nf2⟩ := allRep2 ar
    split at e
    · rename_i p q e1 e2
      have eo := Option.some.inj e
      subst eo
      obtain ⟨h1, h2⟩ := pyO_dp ex r e1
      obtain ⟨h3, h4⟩ := pyO_dp ex r2 e2
      exact ⟨p, q, h1, h3, h2, h4, k.same ex (.bl _)⟩
    · cases e
  · cases e
theorem app_ne : AppL B (r2l (rNeD B.K)) (fEq true) := fun F H vs os o Q ex ar e k => by
  unfold fEq at e
  split at e
  · obtain ⟨v, w, fp, fq, rfl, r, r2, nf, nf2⟩ := allRep2 ar
    split at e
    · rename_i p q e1 e2
      have eo := Option.some.inj e
      subst eo
      obtain ⟨h1, h2⟩ := pyO_dp ex r e1
      obtain ⟨h3, h4⟩ := pyO_dp ex r2 e2
      exact ⟨p, q, h1, h3, h2, h4, k.same ex (.bl _)⟩
    · cases e
  · cases e
/-! ### a[i] -/
def fIx : List O → Option O
  | [x, y] => match x.items?, intO y with
    | some p, some i => (match atI p.2 i with
      | some d => some (.fro d)
      | none => none)
    | _, _ => none
  | _ => none
theorem RepDs.at {F : Hp} {vs : List V} {ds : List D} (r : RepDs B F vs ds) {i : Int} {d : D} (e : atI ds i = some d) : ∃ v, atI vs i = some v ∧ RepD B F v d := by
  unfold atI at e ⊢
  rw [r.len]
  cases e1 : ixN ds.length i with
  | none =>
    rw [e1] at e
    cases e
  | some j =>
    rw [e1] at e
    exact r.get e
theorem app_ix : AppL B (r2l (rIx B.K)) fIx := fun F H vs os o Q ex ar e k => by
  unfold fIx at e
  split at e
  · obtain ⟨v, w, fp, fq, rfl, r, r2, nf, nf2⟩ := allRep2 ar
    split at e
    · rename_i p i e1 e2
      have ew := int_of r2 e2
      subst ew
      obtain ⟨a, vs, rfl, h1, h2⟩ := seq_of ex r e1
      split at e
      · rename_i d e3
        have eo := Option.some.inj e
        subst eo
        obtain ⟨z, h3, h4⟩ := h1.at e3
        rcases h2 with ⟨_, h2⟩ | ⟨_, h2⟩
        · exact .inl ⟨a, vs, i, z, rfl, rfl, h2, h3, k.same ex h4⟩
        · exact .inr (.inl ⟨a, vs, i, z, rfl, rfl, h2, h3, k.same ex h4⟩)
      · cases e
    · cases e
  · cases e
/-! ### len, abs, min, max, int -/
def fLen : List O → Option O
  | [x] => match x.items? with
    | some p => some (.fro (.int p.2.length))
    | none => none
  | _ => none
theorem app_len : AppL B (fun xs H Q => ∃ p ys, xs = [.ref p] ∧ (SqL B.K H p ys ∨ SqT B.K H p ys) ∧ Q (.int ys.length) H) fLen := fun F H vs os o Q ex ar e k => by
  unfold fLen at e
  split at e
  · obtain ⟨v, fp, rfl, r, nf⟩ := allRep1 ar
    split at e
    · rename_i p e1
      obtain ⟨a, vs, rfl, h1, h2⟩ := seq_of ex r e1
      have eo := Option.some.inj e
      subst eo
      refine ⟨a, vs, rfl, h2.imp (·.2) (·.2), ?_⟩
      rw [h1.len]
      exact k.same ex (.int _)
    · cases e
  · cases e
def fAbs := op1 fun i => .int (if i < 0 then -i else i)
theorem app_abs : AppL B (fun xs H Q => ∃ i, xs = [.int i] ∧ Q (.int (if i < 0 then -i else i)) H) fAbs := fun F H vs os o Q ex ar e k => by
  obtain h := app_i1 (B := B) (gv := fun i => .int (if i < 0 then -i else i)) (fun F i => .int _) F H vs os o Q ex ar e k
  match vs, h with
  | [_], ⟨i, e1, q⟩ => exact ⟨i, by rw [e1], q⟩
def fMin := op2 (fun _ _ => true) fun i j => .int (if j < i then j else i)
def fMax := op2 (fun _ _ => true) fun i j => .int (if j > i then j else i)
theorem app_min : AppL B (fun xs H Q => ∃ i j, xs = [.int i, .int j] ∧ Q (.int (if j < i then j else i)) H) fMin := fun F H vs os o Q ex ar e k => by
  obtain h := app_i20 (B := B) (gv := fun i j => .int (if j < i then j else i)) (fun F i j => .int _) F H vs os o Q ex ar e k
  match vs, h with
  | [_, _], ⟨i, j, e1, e2, q⟩ => exact ⟨i, j, by rw [e1, e2], q⟩
theorem app_max : AppL B (fun xs H Q => ∃ i j, xs = [.int i, .int j] ∧ Q (.int (if j > i then j else i)) H) fMax := fun F H vs os o Q ex ar e k => by
  obtain h := app_i20 (B := B) (gv := fun i j => .int (if j > i then j else i)) (fun F i j => .int _) F H vs os o Q ex ar e k
  match vs, h with
  | [_, _], ⟨i, j, e1, e2, q⟩ => exact ⟨i, j, by rw [e1, e2], q⟩
def fInt : List O → Option O
  | [.fro (.int i)] => some (.fro (.int i))
  | [.fro (.bl b)] => some (.fro (.int (if b then 1 else 0)))
  | _ => none
theorem app_int : AppL B (fun xs H Q => (∃ i, xs = [.int i] ∧ Q (.int i) H) ∨ ∃ k, xs = [.bl k] ∧ Q (.int (if k then 1 else 0)) H) fInt := fun F H vs os o Q ex ar e k => by
  unfold fInt at e
  split at e
  · obtain ⟨v, fp, rfl, r, nf⟩ := allRep1 ar
    have eo := Option.some.inj e
    subst eo
    cases r with
    | fro r =>
      cases r
      exact .inl ⟨_, rfl, k.same ex (.int _)⟩
  · obtain ⟨v, fp, rfl, r, nf⟩ := allRep1 ar
    have eo := Option.some.inj e
    subst eo
    cases r with
    | fro r =>
      cases r
      exact .inr ⟨_, rfl, k.same ex (.int _)⟩
  · cases e
/-- list(x), tuple(x) -/
def fList : List O → Option O
  | [x] => match x.items? with
    | some p => some (.own .lst p.2)
    | none => none
  | _ => none
theorem app_list : AppL B (fun xs H Q => ∃ p ys, xs = [.ref p] ∧ (SqL B.K H p ys ∨ SqT B.K H p ys) ∧ ∀ l, H l = none → Q (.ref l) (upd H l (.lst ys))) fList := fun F H vs os o Q ex ar e k => by
  unfold fList at e
  split at e
  · obtain ⟨v, fp, rfl, r, nf⟩ := allRep1 ar
    split at e
    · rename_i p e1
      obtain ⟨a, vs, rfl, h1, h2⟩ := seq_of ex r e1
      have eo := Option.some.inj e
      subst eo
      exact ⟨a, vs, rfl, h2.imp (·.2) (·.2), fun l hl => k.new ex hl (show upd H l _ l = _ from upd_same) h1⟩
    · cases e
  · cases e
def fTuple : List O → Option O
  | [x] => match tupO x with
    | some ds => some (.fro (.node .tup ds))
    | none => match x.items? with
      | some (.lst, ds) => some (.fro (.node .tup ds))
      | _ => none
  | _ => none
theorem app_tuple : AppL B (fun xs H Q => ∃ p ys, xs = [.ref p] ∧ ((SqL B.K H p ys ∧ ∀ l, H l = none → Q (.ref l) (upd H l (.tup ys))) ∨ (SqT B.K H p ys ∧ Q (.ref p) H))) fTuple := fun F H vs os o Q ex ar e k => by
  unfold fTuple at e
  split at e
  · rename_i x
    obtain ⟨v, fp, rfl, r, nf⟩ := allRep1 ar
    split at e
    · rename_i ds e1
      obtain ⟨a, vs, rfl, h1, h2⟩ := tup_of r e1
      have eo := Option.some.inj e
      subst eo
      exact ⟨a, vs, rfl, .inr ⟨Evl.ex_t ex h1, k.same ex (.node (t := .tup) h1 h2)⟩⟩
    · split at e
      · rename_i ds e1
        obtain ⟨a, vs, rfl, h1, h2⟩ := seq_of ex r e1
        have eo := Option.some.inj e
        subst eo
        rcases h2 with ⟨_, h2⟩ | ⟨e2, _⟩
        · exact ⟨a, vs, rfl, .inl ⟨h2, fun l hl => k.newT ex hl h1⟩⟩
        · cases e2
      · cases e
  · cases e
end
end DL
end

section
set_option Elab.async false
set_option linter.all false
set_option maxRecDepth 100000
set_option maxHeartbeats 2000000
namespace DL
open PySem PySem.Spec PyProof.Rows L2
section
variable {X : Cx} {C : Ctx} {W : WX} {a b c e : Expr} {oa ob oc : Opd} {pos p p2 : Pos}
/-! ### operators -/
theorem c_add (hK : X.K = C.B.K) (ha : COpd X C W a oa) (hb : COpd X C W b ob) : PE X (.BinOp a .Add b pos) (teOf C W (eApp fAdd [oa, ob])) :=
  c_bin (r := rAddX C.B.K) (by rw [← hK]; exact (op_add.or op_add_str).or (op_catA.or op_cat)) app_add ha hb
theorem c_sub (ha : COpd X C W a oa) (hb : COpd X C W b ob) : PE X (.BinOp a .Sub b pos) (teOf C W (eApp fSub [oa, ob])) := c_bin op_sub (app_i20 fun _ _ _ => .int _) ha hb
theorem c_mul (ha : COpd X C W a oa) (hb : COpd X C W b ob) : PE X (.BinOp a .Mult b pos) (teOf C W (eApp fMul [oa, ob])) := c_bin op_mul (app_i2 (fun i j h => of_decide_eq_true (p := (-(2 ^ 64) < i ∧ i < 2 ^ 64) ∨ (-(2 ^ 64) < j ∧ j < 2 ^ 64)) h) fun _ _ _ => .int _) ha hb
theorem c_fdiv (ha : COpd X C W a oa) (hb : COpd X C W b ob) : PE X (.BinOp a .FloorDiv b pos) (teOf C W (eApp fDiv [oa, ob])) := c_bin op_fdivN (app_i2 (fun i j h => of_decide_eq_true (p := j ≠ 0 ∧ j.natAbs < 1073741824) h) fun _ _ _ => .int _) ha hb
theorem c_mod (ha : COpd X C W a oa) (hb : COpd X C W b ob) : PE X (.BinOp a .Mod b pos) (teOf C W (eApp fMod [oa, ob])) := c_bin op_modN (app_i2 (fun _ _ h => of_decide_eq_true h) fun _ _ _ => .int _) ha hb
theorem c_pow (ha : COpd X C W a oa) (hb : COpd X C W b ob) : PE X (.BinOp a .Pow b pos) (teOf C W (eApp fPow [oa, ob])) := c_bin op_pow (app_i2 (fun i j h => of_decide_eq_true (p := 0 ≤ j ∧ j ≤ 1000000 ∧ i.natAbs < 2 ^ 64) h) fun _ _ _ => .int _) ha hb
theorem c_neg (ha : COpd X C W a oa) : PE X (.UnaryOp .USub a pos) (teOf C W (eApp fNeg [oa])) := c_un un_neg (app_i1 fun _ _ => .int _) ha
/-- a comparison's rule -/
structure CmpK (X : Cx) (B : Base) (op : CmpOp) (f : List O → Option O) : Prop where
  ex : ∃ r, OpR X (compareOp op) r ∧ AppL B (r2l r) f
theorem m_lt {B : Base} : CmpK X B .Lt fLt := ⟨_, op_lt, app_i20 fun _ _ _ => .bl _⟩
theorem m_le {B : Base} : CmpK X B .LtE fLe := ⟨_, op_le, app_i20 fun _ _ _ => .bl _⟩
theorem m_gt {B : Base} : CmpK X B .Gt fGt := ⟨_, op_gt, app_i20 fun _ _ _ => .bl _⟩
theorem m_ge {B : Base} : CmpK X B .GtE fGe := ⟨_, op_ge, app_i20 fun _ _ _ => .bl _⟩
theorem m_eq {B : Base} (hK : X.K = B.K) (hu : X.A.units + 64 < cLine) : CmpK X B .Eq (fEq false) := ⟨_, op_eqD hu, by rw [hK]; exact app_eq⟩
theorem m_ne {B : Base} (hK : X.K = B.K) (hu : X.A.units + 64 < cLine) : CmpK X B .NotEq (fEq true) := ⟨_, op_neD hu, by rw [hK]; exact app_ne⟩
theorem m_isN {B : Base} : CmpK X B .Is (fIsN false) := ⟨_, op_isN, app_isN⟩
theorem m_notN {B : Base} : CmpK X B .IsNot (fIsN true) := ⟨_, op_notN, app_notN⟩
theorem m_isB {B : Base} : CmpK X B .Is (fIsB false) := ⟨_, op_isBx, app_isB⟩
theorem m_notB {B : Base} : CmpK X B .IsNot (fIsB true) := ⟨_, op_notBx, app_isB⟩
/-- in: scalars -/
def flatD : D → Bool
  | .node _ _ => false
  | _ => true
def eqS : D → D → Bool
  | .non, .non => true
  | .bl a, .bl b => a == b
  | .bl a, .int j => (if a then 1 else 0) == j
  | .int i, .bl b => i == (if b then 1 else 0)
  | .int i, .int j => i == j
  | .str x, .str y => x == y
  | _, _ => false
def fIn (neg : Bool) : List O → Option O
  | [.fro d, y] => match y.items? with
    | some p => if (flatD d && p.2.all flatD) = true then some (.fro (.bl (if neg = true then !p.2.any (fun z => eqS z d) else p.2.any fun z => eqS z d))) else none
    | none => none
  | _ => none
theorem flat_rep {B : Base} {F : Hp} {v : V} {d : D} (r : RepD B F v d) (h : flatD d = true) : flatV v = true := by
  cases r with
  | node hs rs => cases h
  | _ => rfl
theorem flats_rep {B : Base} {F : Hp} : ∀ {vs : List V} {ds : List D}, RepDs B F vs ds → ds.all flatD = true → vs.all flatV = true
  | _, _, .nil, _ => rfl
  | _, _, .cons h hs, e => by
    obtain ⟨h1, h2⟩ := Bool.and_eq_true_iff.mp e
    show (_ && _) = true
    rw [flat_rep h h1, Bool.true_and]
    exact flats_rep hs h2
theorem eqS_rep {B : Base} {F : Hp} {v w : V} {d z : D} (r : RepD B F v d) (r2 : RepD B F w z) (h : flatD d = true) (h2 : flatD z = true) : eqV v w = eqS d z := by
  cases r with
  | node hs rs => cases h
  | _ =>
    cases r2 with
    | node hs rs => cases h2
    | _ => rfl
theorem any_rep {B : Base} {F : Hp} {v : V} {d : D} (r : RepD B F v d) (h : flatD d = true) : ∀ {vs : List V} {ds : List D}, RepDs B F vs ds → ds.all flatD = true → inV v vs = ds.any fun z => eqS z d
  | _, _, .nil, _ => rfl
  | _, _, .cons h3 hs, e => by
    obtain ⟨h1, h2⟩ := Bool.and_eq_true_iff.mp e
    show (eqV _ _ || inV _ _) = (eqS _ _ || _)
    rw [eqS_rep h3 r h1 h, any_rep r h hs h2]
theorem app_in {B : Base} {neg : Bool} : AppL B (r2l (rIn B.K neg)) (fIn neg) := fun F H vs os o Q ex ar e k => by
  unfold fIn at e
  split at e
  · obtain ⟨v, w, fp, fq, rfl, r, r2, nf, nf2⟩ := allRep2 ar
    split at e
    · rename_i q e1
      split at e
      · rename_i hf
        have eo := Option.some.inj e
        subst eo
        obtain ⟨h1, h2⟩ := Bool.and_eq_true_iff.mp hf
        obtain ⟨a, vs, rfl, h3, h4⟩ := seq_of ex r2 e1
        cases r with
        | fro r =>
          refine ⟨a, vs, rfl, h4.imp (·.2) (·.2), flat_rep r h1, flats_rep h3 h2, ?_⟩
          rw [any_rep r h1 h3 h2]
          exact k.same ex (.bl _)
      · cases e
    · cases e
  · cases e
theorem m_in {B : Base} (hK : X.K = B.K) : CmpK X B .In (fIn false) := ⟨_, op_in_seq, by rw [hK]; exact app_in⟩
theorem m_notIn {B : Base} (hK : X.K = B.K) : CmpK X B .NotIn (fIn true) := ⟨_, op_notIn_seq, by rw [hK]; exact app_in⟩
theorem c_cmpK {op : CmpOp} {f : List O → Option O} (m : CmpK X C.B op f) (ha : COpd X C W a oa) (hb : COpd X C W b ob) (hm : behindInMarks op b = false := by rfl) : PE X (.Compare a [op] [b] pos) (teOf C W (eApp f [oa, ob])) := by
  obtain ⟨r, h1, h2⟩ := m.ex
  exact c_cmp h1 h2 ha hb hm
theorem b_cmpK {op : CmpOp} {f : List O → Option O} (m : CmpK X C.B op f) (ha : COpd X C W a oa) (hb : COpd X C W b ob) (hm : behindInMarks op b = false := by rfl) : PT X (.Compare a [op] [b] pos) (tbOf C W (bOf (eApp f [oa, ob]))) := by
  obtain ⟨r, h1, h2⟩ := m.ex
  exact b_cmp h1 h2 ha hb hm
theorem toT_mono {σ : L2.St} : ∀ (o : Opd) {H : Hp} {P P' : VK}, (∀ v H', P v H' → P' v H') → toT C W o σ H P → toT C W o σ H P'
  | .ev f, _, _, _, hP, h => te_mono h hP
  | .pk i, _, _, _, hP, ⟨v, hv, z⟩ => ⟨v, hv, hP _ _ z⟩
/-! ### a op b op c -/
def eChain (f g : List O → Option O) (a b c : Opd) : ES := fun env => (goAll [a, b] env).bind fun q => match finAll [a, b] q.1 q.2 with
  | some [x, .fro y] => (match f [x, .fro y] with
    | some (.fro (.bl true)) => (goAll [c] q.2).bind fun q2 => (match finAll [c] q2.1 q2.2 with
      | some [z] => (match g [.fro y, z] with
        | some o => .ok (o, q2.2)
        | none => .stuck)
      | _ => .stuck)
    | some (.fro (.bl false)) => .ok (.fro (.bl false), q.2)
    | _ => .stuck)
  | _ => .stuck
theorem chain_of {r r' : R2} {f g : List O → Option O} (h1 : AppL C.B (r2l r) f) (h2 : AppL C.B (r2l r') g) (ok : ∀ z ∈ [oa, ob], z.Ok C.n) (okc : oc.Ok C.n) {σ : L2.St} {H : Hp} {Q : VK} (h : teOf C W (eChain f g oa ob oc) σ H Q) : tChain r r' (toT C W oa) (toT C W ob) (toT C W oc) σ H Q := by
  obtain ⟨F, fp, env, st, q⟩ := h
  have key : tAll ([oa, ob].map (toT C W)) σ H fun vs H2 => ∃ x y, vs = [x, y] ∧ r x y H2 fun z H3 => ∃ k, z = .bl k ∧ (if k = true then toT C W oc σ H3 fun w' H4 => r' y w' H4 Q else Q (.bl false) H3) := by
    refine ta_all [oa, ob] ok ⟨σ, F, H, fp⟩ env _ st ?_
    have q1 : FinE C W Q ⟨σ, F, H, fp⟩ ((goAll [oa, ob] env).bind fun q => match finAll [oa, ob] q.1 q.2 with
      | some [x, .fro y] => (match f [x, .fro y] with
        | some (.fro (.bl true)) => (goAll [oc] q.2).bind fun q2 => (match finAll [oc] q2.1 q2.2 with
          | some [z] => (match g [.fro y, z] with
            | some o => .ok (o, q2.2)
            | none => .stuck)
          | _ => .stuck)
        | some (.fro (.bl false)) => .ok (.fro (.bl false), q.2)
        | _ => .stuck)
      | _ => .stuck) := q
    cases eg : goAll [oa, ob] env with
    | err c ns ds env1 =>
      rw [eg] at q1
      exact q1
    | stuck =>
      rw [eg] at q1
      exact q1
    | ok p1 =>
      obtain ⟨xs, env1⟩ := p1
      rw [eg] at q1
      intro vs s1 fr g1 rt
      have q2 : FinE C W Q ⟨σ, F, H, fp⟩ (match finAll [oa, ob] xs env1 with
        | some [x, .fro y] => (match f [x, .fro y] with
          | some (.fro (.bl true)) => (goAll [oc] env1).bind fun q2 => (match finAll [oc] q2.1 q2.2 with
            | some [z] => (match g [.fro y, z] with
              | some o => .ok (o, q2.2)
              | none => .stuck)
            | _ => .stuck)
          | some (.fro (.bl false)) => .ok (.fro (.bl false), env1)
          | _ => .stuck)
        | _ => .stuck) := q1
      split at q2
      · rename_i x y ef
        have ar := fin_rep g1.st ok rt g1.nf ef
        obtain ⟨v, w, fpx, fpy, rfl, rx, ry, nfx, nfy⟩ := allRep2 ar
        refine ⟨v, w, rfl, ?_⟩
        split at q2
        · rename_i e1
          refine h1 s1.F s1.H [v, w] [x, .fro y] _ _ g1.st.ex ar e1 fun z F3 H3 fr3 m rz => ?_
          have ez : z = .bl true := by
            cases rz with
            | fro rz =>
              cases rz
              rfl
          have efr : fr3 = [] := by
            cases rz
            rfl
          subst ez efr
          refine ⟨true, rfl, iteT ?_⟩
          have g2 := (g1.drop (fr1 := []) (List.nil_sublist _)).made m
          have es : s1.σ = σ := g1.sl
          have run : tAll ([oc].map (toT C W)) s1.σ H3 fun ws H4 => ∃ w', ws = [w'] ∧ r' w w' H4 Q := by
            refine ta_all [oc] (fun z hz => by rw [List.mem_singleton.mp hz]; exact okc) ⟨s1.σ, F3, H3, s1.fp⟩ env1 _ g2.st ?_
            cases eg2 : goAll [oc] env1 with
            | err c ns ds env2 =>
              rw [eg2] at q2
              exact XFin.later q2 g2.step0
            | stuck =>
              rw [eg2] at q2
              exact q2
            | ok p2 =>
              obtain ⟨ys, env2⟩ := p2
              rw [eg2] at q2
              intro ws s2 fr2 g3 rt2
              have q3 : FinE C W Q ⟨σ, F, H, fp⟩ (match finAll [oc] ys env2 with
                | some [z] => (match g [.fro y, z] with
                  | some o => .ok (o, env2)
                  | none => .stuck)
                | _ => .stuck) := q2
              split at q3
              · rename_i z ez
                have ar2 := fin_rep g3.st (fun z hz => by rw [List.mem_singleton.mp hz]; exact okc) rt2 g3.nf ez
                obtain ⟨w', fpz, rfl, rz2, nfz⟩ := allRep1 ar2
                refine ⟨w', rfl, ?_⟩
                split at q3
                · rename_i o eo
                  have ry2 : RepO C.B s2.F s2.H w (.fro y) [] := by
                    cases ry with
                    | fro ry => exact .fro ((ry.ex m.exF).ex g3.step.exF)
                  refine h2 s2.F s2.H [w, w'] [.fro y, z] o Q g3.st.ex (.cons ⟨[], ry2, fun _ h => absurd h (by simp)⟩ (.cons ⟨fpz, rz2, nfz⟩ .nil)) eo fun u F5 H5 fr5 m5 r5 => ?_
                  have gg := (g3.drop (fr1 := []) (List.nil_sublist _)).made m5
                  have g4 := g2.hold (fun p hp => absurd hp (by simp)) gg
                  exact q3 u ⟨s2.σ, F5, H5, s2.fp⟩ fr5 g4 r5
                · exact False.elim q3
              · exact False.elim q3
          rw [es] at run
          have run2 : toT C W oc σ H3 fun w' H4 => ∃ w'', [w'] = [w''] ∧ r' w w'' H4 Q := run
          exact toT_mono oc (fun w' H4 hh => by
            obtain ⟨w'', e, z⟩ := hh
            cases e
            exact z) run2
        · rename_i e1
          refine h1 s1.F s1.H [v, w] [x, .fro y] _ _ g1.st.ex ar e1 fun z F3 H3 fr3 m rz => ?_
          have ez : z = .bl false := by
            cases rz with
            | fro rz =>
              cases rz
              rfl
          have efr : fr3 = [] := by
            cases rz
            rfl
          subst ez efr
          refine ⟨false, rfl, iteF ?_⟩
          have g2 := (g1.drop (fr1 := []) (List.nil_sublist _)).made m
          exact q2 (.bl false) ⟨s1.σ, F3, H3, s1.fp⟩ [] g2 (.fro (.bl false))
        · exact False.elim q2
      · exact False.elim q2
  -- the two operands one after the other
  have key2 : toT C W oa σ H fun x H1 => toT C W ob σ H1 fun y H2 => ∃ x' y', [x, y] = [x', y'] ∧ r x' y' H2 fun z H3 => ∃ k, z = .bl k ∧ (if k = true then toT C W oc σ H3 fun w' H4 => r' y' w' H4 Q else Q (.bl false) H3) := key
  refine toT_mono oa (fun x H1 hx => toT_mono ob (fun y H2 hy => ?_) hx) key2
  obtain ⟨x', y', e, z⟩ := hy
  cases e
  exact z
theorem c_chain {op op' : CmpOp} {f g : List O → Option O} (m : CmpK X C.B op f) (m' : CmpK X C.B op' g) (ha : COpd X C W a oa) (hb : COpd X C W b ob) (hc : COpd X C W c oc) (hm : lastMarks [op, op'] [b, c] = false := by with_unfolding_all rfl) :
    PE X (.Compare a [op, op'] [b, c] pos) (teOf C W (eChain f g oa ob oc)) := by
  obtain ⟨r, h1, h2⟩ := m.ex
  obtain ⟨r', h1', h2'⟩ := m'.ex
  exact PE_to (pe_chain h1 h1' ha.1 hb.1 hc.1 hm) fun σ H Q q => chain_of h2 h2' (ok2 ha hb) hc.2 q
theorem b_chain {op op' : CmpOp} {f g : List O → Option O} (m : CmpK X C.B op f) (m' : CmpK X C.B op' g) (ha : COpd X C W a oa) (hb : COpd X C W b ob) (hc : COpd X C W c oc) (hm : lastMarks [op, op'] [b, c] = false := by with_unfolding_all rfl) :
    PT X (.Compare a [op, op'] [b, c] pos) (tbOf C W (bOf (eChain f g oa ob oc))) := by
  obtain ⟨r, h1, h2⟩ := m.ex
  obtain ⟨r', h1', h2'⟩ := m'.ex
  exact PT_to (pt_chain h1 h1' ha.1 hb.1 hc.1 hm) fun σ H Q q => chain_of h2 h2' (ok2 ha hb) hc.2 (bOf_of q)
/-! ### subscripts -/
theorem c_idx (hK : X.K = C.B.K) (ha : COpd X C W a oa) (hb : COpd X C W b ob) (hs : PlainIx b := by exact fun _ _ => rfl) : PE X (.Subscript a b pos) (teOf C W (eApp fIx [oa, ob])) :=
  c_ix (by rw [← hK]; exact ix_seq) app_ix ha hb hs
def cutD (xs : List D) (lo hi : Option Int) : List D := (xs.drop (HT.sIx xs.length 0 lo)).take (HT.sIx xs.length xs.length hi - HT.sIx xs.length 0 lo)
def slO (x : O) (lo hi : Option Int) : Option O := match tupO x with
  | some ds => some (.fro (.node .tup (cutD ds lo hi)))
  | none => match x.items? with
    | some (.lst, ds) => some (.own .lst (cutD ds lo hi))
    | _ => none
def rSlX (K : PySem.W.Frag) : V → Option Int → Option Int → Hp → VK → Prop := fun x lo hi H Q => rSlA K x lo hi H Q ∨ rSlL K x lo hi H Q
theorem RepDs.drop {B : Base} {F : Hp} : ∀ {vs : List V} {ds : List D} (n : Nat), RepDs B F vs ds → RepDs B F (vs.drop n) (ds.drop n)
  | _, _, 0, r => r
  | _, _, n + 1, .nil => .nil
  | _, _, n + 1, .cons _ r => r.drop n
theorem RepDs.take {B : Base} {F : Hp} : ∀ {vs : List V} {ds : List D} (n : Nat), RepDs B F vs ds → RepDs B F (vs.take n) (ds.take n)
  | _, _, 0, _ => .nil
  | _, _, n + 1, .nil => .nil
  | _, _, n + 1, .cons h r => .cons h (r.take n)
theorem RepDs.cut {B : Base} {F : Hp} {vs : List V} {ds : List D} (r : RepDs B F vs ds) (lo hi : Option Int) : RepDs B F (cutV vs lo hi) (cutD ds lo hi) := by
  unfold cutV cutD
  rw [r.len]
  exact (r.drop _).take _
theorem app_sl {B : Base} {F H : Hp} {v : V} {x o : O} {fp : List Addr} {lo hi : Option Int} {Q : VK} (ex : Ex F H) (r : RepO B F H v x fp) (e : slO x lo hi = some o) (k : Ret B F H o Q) : rSlX B.K v lo hi H Q := by
  unfold slO at e
  split at e
  · rename_i ds e1
    obtain ⟨a, vs, rfl, h1, h2⟩ := tup_of r e1
    have eo := Option.some.inj e
    subst eo
    refine .inl ⟨a, vs, rfl, Evl.ex_t ex h1, fun hw => ?_, fun _ p hp => k.newT ex hp (h2.cut lo hi)⟩
    have ec : cutD ds lo hi = ds := by
      unfold cutD
      rw [h2.len] at hw
      rw [hw.1, hw.2, List.drop_zero, Nat.sub_zero, List.take_length]
    rw [ec] at k
    exact k.same ex (.node (t := .tup) h1 h2)
  · split at e
    · rename_i ds e1
      obtain ⟨a, vs, rfl, h1, h2⟩ := seq_of ex r e1
      have eo := Option.some.inj e
      subst eo
      rcases h2 with ⟨_, h2⟩ | ⟨e2, _⟩
      · exact .inr ⟨a, vs, rfl, h2, fun p hp => k.new ex hp (show upd H p _ p = _ from upd_same) (h1.cut lo hi)⟩
      · cases e2
    · cases e
def fSlF : List O → Option O
  | [x, y] => match intO y with
    | some i => slO x (some i) none
    | none => none
  | _ => none
def fSlT : List O → Option O
  | [x, y] => match intO y with
    | some i => slO x none (some i)
    | none => none
  | _ => none
def fSlFT : List O → Option O
  | [x, y, z] => match intO y, intO z with
    | some i, some j => slO x (some i) (some j)
    | _, _ => none
  | _ => none
def fSlN : List O → Option O
  | [x] => slO x none none
  | _ => none
theorem sl_X (hK : X.K = C.B.K) : SlR X (rSlX C.B.K) := by
  rw [← hK]
  exact sl_tupA.or sl_list
/-- a[i:] -/
theorem c_slF (hK : X.K = C.B.K) (ha : COpd X C W a oa) (hb : COpd X C W b ob) : PE X (.Subscript a (.Slice (some b) none none p2) pos) (teOf C W (eApp fSlF [oa, ob])) :=
  PE_to (pe_slice (sl_X (C := C) hK) ha.1 (po_some hb.1) po_none) fun σ H Q q => by
    have z := app_of (r := fun vs H Q => ∃ x i, vs = [x, .int i] ∧ rSlX C.B.K x (some i) none H Q) (f := fSlF) (fun F H vs os o Q ex ar e k => by
      unfold fSlF at e
      split at e
      · obtain ⟨v, w, fp, fq, rfl, r, r2, nf, nf2⟩ := allRep2 ar
        split at e
        · rename_i i ei
          have ew := int_of r2 ei
          subst ew
          exact ⟨v, i, rfl, app_sl ex r e k⟩
        · cases e
      · cases e) [oa, ob] (ok2 ha hb) q
    have z2 : toT C W oa σ H fun x H1 => toT C W ob σ H1 fun y H2 => ∃ x' i, [x, y] = [x', V.int i] ∧ rSlX C.B.K x' (some i) none H2 Q := z
    exact toT_mono oa (fun x H1 hx => toT_mono ob (fun y H2 ⟨x', i, e, z⟩ => by
      cases e
      exact ⟨i, rfl, z⟩) hx) z2
/-- a[:j] -/
theorem c_slT (hK : X.K = C.B.K) (ha : COpd X C W a oa) (hb : COpd X C W b ob) : PE X (.Subscript a (.Slice none (some b) none p2) pos) (teOf C W (eApp fSlT [oa, ob])) :=
  PE_to (pe_slice (sl_X (C := C) hK) ha.1 po_none (po_some hb.1)) fun σ H Q q => by
    have z := app_of (r := fun vs H Q => ∃ x i, vs = [x, .int i] ∧ rSlX C.B.K x none (some i) H Q) (f := fSlT) (fun F H vs os o Q ex ar e k => by
      unfold fSlT at e
      split at e
      · obtain ⟨v, w, fp, fq, rfl, r, r2, nf, nf2⟩ := allRep2 ar
        split at e
        · rename_i i ei
          have ew := int_of r2 ei
          subst ew
          exact ⟨v, i, rfl, app_sl ex r e k⟩
        · cases e
      · cases e) [oa, ob] (ok2 ha hb) q
    have z2 : toT C W oa σ H fun x H1 => toT C W ob σ H1 fun y H2 => ∃ x' i, [x, y] = [x', V.int i] ∧ rSlX C.B.K x' none (some i) H2 Q := z
    exact toT_mono oa (fun x H1 hx => toT_mono ob (fun y H2 ⟨x', i, e, z⟩ => by
      cases e
      exact ⟨i, rfl, z⟩) hx) z2
/-- a[:] -/
theorem c_slN (hK : X.K = C.B.K) (ha : COpd X C W a oa) : PE X (.Subscript a (.Slice none none none p2) pos) (teOf C W (eApp fSlN [oa])) :=
  PE_to (pe_slice (sl_X (C := C) hK) ha.1 po_none po_none) fun σ H Q q => by
    have z := app_of (r := fun vs H Q => ∃ x, vs = [x] ∧ rSlX C.B.K x none none H Q) (f := fSlN) (fun F H vs os o Q ex ar e k => by
      unfold fSlN at e
      split at e
      · obtain ⟨v, fp, rfl, r, nf⟩ := allRep1 ar
        exact ⟨v, rfl, app_sl ex r e k⟩
      · cases e) [oa] (ok1 ha) q
    have z2 : toT C W oa σ H fun x H1 => ∃ x', [x] = [x'] ∧ rSlX C.B.K x' none none H1 Q := z
    exact toT_mono oa (fun x H1 ⟨x', e, z⟩ => by
      cases e
      exact z) z2
end
end DL
end

section
set_option Elab.async false
set_option linter.all false
set_option maxRecDepth 100000
set_option maxHeartbeats 2000000
namespace DL
open PySem PySem.Spec PyProof.Rows L2
section
variable {X : Cx} {C : Ctx} {W : WX} {a b c e o : Expr} {oa ob oc : Opd} {pos apos p p2 : Pos} {es : List Expr} {ops : List Opd} {f g : ES}
/-! ### displays -/
def fTup (os : List O) : Option O := match rawAll os with
  | some ds => if ds.length ≤ 16777216 then some (.fro (.node .tup ds)) else none
  | none => none
def fLst (os : List O) : Option O := match rawAll os with
  | some ds => if ds.length ≤ 16777216 then some (.own .lst ds) else none
  | none => none
theorem app_dtup {B : Base} : AppL B (fun xs H Q => xs.length ≤ sizeLine ∧ ∀ p, H p = none → Q (.ref p) (upd H p (.tup xs))) fTup := fun F H vs os o Q ex ar e k => by
  unfold fTup at e
  split at e
  · rename_i ds e1
    split at e
    · rename_i hl
      have eo := Option.some.inj e
      subst eo
      have r := rawAll_rep ar e1
      exact ⟨by rw [sizeLine_eq, r.len]; exact hl, fun p hp => k.newT ex hp r⟩
    · cases e
  · cases e
theorem app_dlst {B : Base} : AppL B (fun xs H Q => xs.length ≤ sizeLine ∧ ∀ p, H p = none → Q (.ref p) (upd H p (.lst xs))) fLst := fun F H vs os o Q ex ar e k => by
  unfold fLst at e
  split at e
  · rename_i ds e1
    split at e
    · rename_i hl
      have eo := Option.some.inj e
      subst eo
      have r := rawAll_rep ar e1
      exact ⟨by rw [sizeLine_eq, r.len]; exact hl, fun p hp => k.new ex hp (show upd H p _ p = _ from upd_same) r⟩
    · cases e
  · cases e
theorem c_tup {j : Nat} (ha : CArgs X C W es ops) : PE X (.Tuple es j pos) (teOf C W (eApp fTup ops)) := PE_to (pe_tup ha.1) fun σ H Q q => app_of app_dtup ops ha.2 q
theorem c_lst (ha : CArgs X C W es ops) : PE X (.List es pos) (teOf C W (eApp fLst ops)) := PE_to (pe_lst ha.1) fun σ H Q q => app_of app_dlst ops ha.2 q
/-! ### built-in functions -/
theorem c_len (hK : X.K = C.B.K) (hg : Gl X "len") (hm : X.mg "len" = none) (ha : COpd X C W a oa) (h1 : starEach [a] X.env = (false, eval a X.env) :: starEach [] X.env := by rfl) : PE X (.Call (.Name "len" p) [a] [] pos) (teOf C W (eApp fLen [oa])) :=
  c_callB call_len_seq (by rw [hK]; exact app_len) hg hm PyProof.Rows.Boot.«len» (a_cons ha a_nil h1) (by decide) (by decide) h1
theorem c_abs (hg : Gl X "abs") (hm : X.mg "abs" = none) (ha : COpd X C W a oa) (h1 : starEach [a] X.env = (false, eval a X.env) :: starEach [] X.env := by rfl) : PE X (.Call (.Name "abs" p) [a] [] pos) (teOf C W (eApp fAbs [oa])) :=
  c_callB call_abs app_abs hg hm PyProof.Rows.Boot.«abs» (a_cons ha a_nil h1) (by decide) (by decide) h1
theorem c_min (hc : X.calm = true) (hg : Gl X "min") (hm : X.mg "min" = none) (ha : COpd X C W a oa) (hb : COpd X C W b ob) (h1 : starEach [a, b] X.env = (false, eval a X.env) :: starEach [b] X.env := by rfl) (h2 : starEach [b] X.env = (false, eval b X.env) :: starEach [] X.env := by rfl) (hpl : (backTo pos (starEach [b] X.env)).any (·.1) = false := by rfl) :
    PE X (.Call (.Name "min" p) [a, b] [] pos) (teOf C W (eApp fMin [oa, ob])) := c_callB (call_min2 hc) app_min hg hm PyProof.Rows.Boot.«min» (a_cons ha (a_cons hb a_nil h2) h1) (by decide) (by decide) h1 hpl
theorem c_max (hc : X.calm = true) (hg : Gl X "max") (hm : X.mg "max" = none) (ha : COpd X C W a oa) (hb : COpd X C W b ob) (h1 : starEach [a, b] X.env = (false, eval a X.env) :: starEach [b] X.env := by rfl) (h2 : starEach [b] X.env = (false, eval b X.env) :: starEach [] X.env := by rfl) (hpl : (backTo pos (starEach [b] X.env)).any (·.1) = false := by rfl) :
    PE X (.Call (.Name "max" p) [a, b] [] pos) (teOf C W (eApp fMax [oa, ob])) := c_callB (call_max2 hc) app_max hg hm PyProof.Rows.Boot.«max» (a_cons ha (a_cons hb a_nil h2) h1) (by decide) (by decide) h1 hpl
theorem c_toInt (hg : Gl X "int") (hm : X.mg "int" = none) (ha : COpd X C W a oa) (h1 : starEach [a] X.env = (false, eval a X.env) :: starEach [] X.env := by rfl) : PE X (.Call (.Name "int" p) [a] [] pos) (teOf C W (eApp fInt [oa])) :=
  c_callTy call_int1 app_int hg hm PyProof.Rows.Boot.«int» (a_cons ha a_nil h1) (by decide) (by decide) h1
theorem c_toList (hK : X.K = C.B.K) (hg : Gl X "list") (hm : X.mg "list" = none) (ha : COpd X C W a oa) (h1 : starEach [a] X.env = (false, eval a X.env) :: starEach [] X.env := by rfl) : PE X (.Call (.Name "list" p) [a] [] pos) (teOf C W (eApp fList [oa])) :=
  c_callTy call_list_of (by rw [hK]; exact app_list) hg hm PyProof.Rows.Boot.«list» (a_cons ha a_nil h1) (by decide) (by decide) h1
theorem c_toTuple (hK : X.K = C.B.K) (hg : Gl X "tuple") (hm : X.mg "tuple" = none) (ha : COpd X C W a oa) (h1 : starEach [a] X.env = (false, eval a X.env) :: starEach [] X.env := by rfl) : PE X (.Call (.Name "tuple" p) [a] [] pos) (teOf C W (eApp fTuple [oa])) :=
  c_callTy call_tuple_of (by rw [hK]; exact app_tuple) hg hm PyProof.Rows.Boot.«tuple» (a_cons ha a_nil h1) (by decide) (by decide) h1
/-- list(range(a, b)) -/
def rgOk (i j : Int) : Bool := decide (-(2 ^ 62) ≤ i ∧ i < 2 ^ 62 ∧ -(2 ^ 62) ≤ j ∧ j < 2 ^ 62 ∧ (j - i).toNat ≤ 2 ^ 24)
def fRgL2 : List O → Option O
  | [x, y] => match intO x, intO y with
    | some i, some j => if rgOk i j = true then some (.own .lst (rngD i (j - i).toNat)) else none
    | _, _ => none
  | _ => none
def fRgL1 : List O → Option O
  | [x] => match intO x with
    | some j => if rgOk 0 j = true then some (.own .lst (rngD 0 j.toNat)) else none
    | _ => none
  | _ => none
theorem rgV_rep {B : Base} {F : Hp} (i j : Int) : RepDs B F (rgV i j) (rngD i (j - i).toNat) := by
  unfold rgV rngD
  generalize List.range (j - i).toNat = l
  induction l with
  | nil => exact .nil
  | cons n l ih => exact .cons (.int _) ih
theorem c_rgL2 {p3 : Pos} (hc : X.calm = true) (hg : Gl X "list") (hm : X.mg "list" = none) (hg2 : Gl X "range") (hm2 : X.mg "range" = none) (ha : COpd X C W a oa) (hb : COpd X C W b ob) (h1 : starEach [a, b] X.env = (false, eval a X.env) :: starEach [b] X.env := by rfl) (h2 : starEach [b] X.env = (false, eval b X.env) :: starEach [] X.env := by rfl)
    (hpl : (backTo p2 (starEach [b] X.env)).any (·.1) = false := by rfl)(na : starEach [.Call (.Name "range" p3) [a, b] [] p2] X.env = (false, eval (.Call (.Name "range" p3) [a, b] [] p2) X.env) :: starEach [] X.env := by rfl) :
    PE X (.Call (.Name "list" p) [.Call (.Name "range" p3) [a, b] [] p2] [] pos) (teOf C W (eApp fRgL2 [oa, ob])) :=
  PE_to (pe_listRg hc hg hm (prg_2 hg2 hm2 ha.1 hb.1 h1 h2 hpl) na) fun σ H Q q => by
    have z := app_of (r := fun vs H Q => ∃ i j, vs = [.int i, .int j] ∧ RgOk i j ∧ ∀ q, H q = none → Q (.ref q) (upd H q (.lst (rgV i j)))) (f := fRgL2) (fun F H vs os o Q ex ar e k => by
      unfold fRgL2 at e
      split at e
      · obtain ⟨v, w, fp, fq, rfl, r, r2, nf, nf2⟩ := allRep2 ar
        split at e
        · rename_i i j ei ej
          have ev := int_of r ei
          have ew := int_of r2 ej
          subst ev ew
          split at e
          · rename_i hr
            have eo := Option.some.inj e
            subst eo
            exact ⟨i, j, rfl, of_decide_eq_true (p := -(2 ^ 62) ≤ i ∧ i < 2 ^ 62 ∧ -(2 ^ 62) ≤ j ∧ j < 2 ^ 62 ∧ (j - i).toNat ≤ 2 ^ 24) hr, fun q hq => k.new ex hq (show upd H q _ q = _ from upd_same) (rgV_rep i j)⟩
          · cases e
        · cases e
      · cases e) [oa, ob] (ok2 ha hb) q
    have z2 : toT C W oa σ H fun x H1 => toT C W ob σ H1 fun y H2 => ∃ i j, [x, y] = [V.int i, V.int j] ∧ RgOk i j ∧ ∀ q, H2 q = none → Q (.ref q) (upd H2 q (.lst (rgV i j))) := z
    exact toT_mono oa (fun x H1 hx => toT_mono ob (fun y H2 hy => by
      obtain ⟨i, j, e, z⟩ := hy
      cases e
      exact ⟨i, j, rfl, rfl, z⟩) hx) z2
theorem c_rgL1 {p3 : Pos} (hc : X.calm = true) (hg : Gl X "list") (hm : X.mg "list" = none) (hg2 : Gl X "range") (hm2 : X.mg "range" = none) (ha : COpd X C W a oa) (h1 : starEach [a] X.env = (false, eval a X.env) :: starEach [] X.env := by rfl)
   (na : starEach [.Call (.Name "range" p3) [a] [] p2] X.env = (false, eval (.Call (.Name "range" p3) [a] [] p2) X.env) :: starEach [] X.env := by rfl) :
    PE X (.Call (.Name "list" p) [.Call (.Name "range" p3) [a] [] p2] [] pos) (teOf C W (eApp fRgL1 [oa])) :=
  PE_to (pe_listRg hc hg hm (prg_1 hg2 hm2 ha.1 h1) na) fun σ H Q q => by
    have z := app_of (r := fun vs H Q => ∃ j, vs = [.int j] ∧ RgOk 0 j ∧ ∀ q, H q = none → Q (.ref q) (upd H q (.lst (rgV 0 j)))) (f := fRgL1) (fun F H vs os o Q ex ar e k => by
      unfold fRgL1 at e
      split at e
      · obtain ⟨v, fp, rfl, r, nf⟩ := allRep1 ar
        split at e
        · rename_i j ej
          have ev := int_of r ej
          subst ev
          split at e
          · rename_i hr
            have eo := Option.some.inj e
            subst eo
            have rr := rgV_rep (B := C.B) (F := F) 0 j
            rw [Int.sub_zero] at rr
            exact ⟨j, rfl, of_decide_eq_true (p := -(2 ^ 62) ≤ (0 : Int) ∧ (0 : Int) < 2 ^ 62 ∧ -(2 ^ 62) ≤ j ∧ j < 2 ^ 62 ∧ (j - 0).toNat ≤ 2 ^ 24) hr, fun q hq => k.new ex hq (show upd H q _ q = _ from upd_same) rr⟩
          · cases e
        · cases e
      · cases e) [oa] (ok1 ha) q
    have z2 : toT C W oa σ H fun x H1 => ∃ j, [x] = [V.int j] ∧ RgOk 0 j ∧ ∀ q, H1 q = none → Q (.ref q) (upd H1 q (.lst (rgV 0 j))) := z
    exact toT_mono oa (fun x H1 hx => by
      obtain ⟨j, e, z⟩ := hx
      cases e
      exact ⟨j, rfl, z⟩) z2
/-! ### isinstance -/
inductive Ty where
  | b (T : String)
  | c (C : Str)
  deriving DecidableEq
def O.ty? : O → Option Ty
  | .fro .non => some (.b "NoneType")
  | .fro (.bl _) => some (.b "bool")
  | .fro (.int _) => some (.b "int")
  | .fro (.str _) => some (.b "str")
  | .fro (.node .tup _) => some (.b "tuple")
  | .fro (.node .lst _) => some (.b "list")
  | .fro (.node (.ins c _) _) => some (.c c)
  | .own .lst _ => some (.b "list")
  | .own (.ins c _) _ => some (.c c)
  | .tree .lst _ => some (.b "list")
  | .tree (.ins c _) _ => some (.c c)
  | _ => none
/-- what an own class must say, so that isinstance asks its instances rightly -/
structure IsC (K : PySem.W.Frag) (C : Addr) : Prop where
  cl : Cls K C
  ha : PySem.W.findIn K (.ref C) "__class__" = some (some (.builtin "object.__class__"))
  hm : PySem.W.mroIn K C (.type "object") = some true
structure IsK (K : PySem.W.Frag) : Prop where
  hn : PySem.W.specialIn K (.builtin "object.__class__") "__get__" = some (some (.builtin "getset_descriptor.__get__"))
  ht : PySem.W.takesIn K (.builtin "object.__class__") = some true
/-- the answers, by type -/
def TyOk (K : PySem.W.Frag) (B : Base) (cv : Value) (tab : List (Ty × Bool)) : Prop := ∀ q ∈ tab, match q.1 with
  | .b T => PySem.W.kitOne K (.type T) cv = some q.2
  | .c c => IsC K (B.cA c) ∧ PySem.W.kitOne K (.ref (B.cA c)) cv = some q.2
def fIsi (tab : List (Ty × Bool)) : List O → Option O
  | [x] => match x.ty? with
    | some t => (match tab.lookup t with
      | some b => some (.fro (.bl b))
      | none => none)
    | none => none
  | _ => none
theorem lookup_memT {α : Type} {c : Ty} {b : α} : ∀ {l : List (Ty × α)}, l.lookup c = some b → (c, b) ∈ l
  | [], h => by cases h
  | (x, y) :: l, h => by
    rw [List.lookup_cons] at h
    cases e : (c == x) with
    | true =>
      rw [e] at h
      have z := Option.some.inj h
      have e2 : c = x := by simpa using e
      rw [e2, z]
      exact List.mem_cons_self ..
    | false =>
      rw [e] at h
      exact List.mem_cons_of_mem _ (lookup_memT h)
theorem ty_rep {K : PySem.W.Frag} {B : Base} (hK : K = B.K) {F H : Hp} {v : V} {x : O} {fp : List Addr} {cv : Value} {tab : List (Ty × Bool)} {t : Ty} {b : Bool} (kk : IsK K) (hT : TyOk K B cv tab) (ex : Ex F H) (r : RepO B F H v x fp) (e : x.ty? = some t) (el : tab.lookup t = some b) :
    ∃ u, TyX K H v u ∧ PySem.W.kitOne K u cv = some b := by
  have hm := hT _ (lookup_memT el)
  have tupX : ∀ {a vs}, SqT B.K F a vs → TyX K H (.ref a) (.type "tuple") := fun {a vs} h => by
    rcases Evl.ex_t ex h with (h | ⟨ob, h⟩) | ⟨ob, its, n, h1, h2, _⟩
    · exact .base (.tup h)
    · exact .fTuple h
    · exact .kTuple (by rw [hK]; exact h1) h2
  have lstX : ∀ {a vs}, SqL B.K F a vs → TyX K H (.ref a) (.type "list") := fun {a vs} h => by
    rcases Evl.ex_l ex h with (h | ⟨ob, h⟩) | ⟨ob, its, n, h1, h2, _⟩
    · exact .base (.lst h)
    · exact .base (.frz h)
    · exact .kList (by rw [hK]; exact h1) h2
  cases r with
  | fro r =>
    cases r with
    | non =>
      cases e
      exact ⟨_, .base .non, hm⟩
    | bl y =>
      cases e
      exact ⟨_, .base (.bl y), hm⟩
    | int y =>
      cases e
      exact ⟨_, .base (.int y), hm⟩
    | str y =>
      cases e
      exact ⟨_, .base (.str y), hm⟩
    | @node a tg vs ds hs rs =>
      cases tg with
      | tup =>
        cases e
        exact ⟨_, tupX hs, hm⟩
      | lst =>
        cases e
        exact ⟨_, lstX hs, hm⟩
      | ins c ns =>
        cases e
        obtain ⟨dx, h1, _⟩ := hs
        exact ⟨_, .base (.ins (ex _ _ h1) hm.1.cl hm.1.ha kk.hn kk.ht hm.1.hm), hm.2⟩
      | _ => cases e
  | @own a tg vs ds hs rs =>
    cases tg with
    | lst =>
      cases e
      exact ⟨_, .base (.lst hs), hm⟩
    | ins c ns =>
      cases e
      obtain ⟨dx, h1, _⟩ := hs
      exact ⟨_, .base (.ins h1 hm.1.cl hm.1.ha kk.hn kk.ht hm.1.hm), hm.2⟩
    | _ => cases e
  | @tree a tg vs os fp hs rs =>
    cases tg with
    | lst =>
      cases e
      exact ⟨_, .base (.lst hs), hm⟩
    | ins c ns =>
      cases e
      obtain ⟨dx, h1, _⟩ := hs
      exact ⟨_, .base (.ins h1 hm.1.cl hm.1.ha kk.hn kk.ht hm.1.hm), hm.2⟩
    | _ => cases e
theorem c_isi {cv : Value} {cvv : V} {tab : List (Ty × Bool)} {ecl : Expr} (hK : X.K = C.B.K) (kk : IsK X.K) (hT : TyOk X.K C.B cv tab) (hg : Gl X "isinstance") (hm : X.mg "isinstance" = none) (ha : COpd X C W a oa) (hcl : PE X ecl (tC cvv)) (hcv : ClsV cvv cv)
    (h1 : starEach [a, ecl] X.env = (false, eval a X.env) :: starEach [ecl] X.env := by rfl) (h2 : starEach [ecl] X.env = (false, eval ecl X.env) :: starEach [] X.env := by rfl) (hpl : (backTo pos (starEach [ecl] X.env)).any (·.1) = false := by rfl) :
    PE X (.Call (.Name "isinstance" p) [a, ecl] [] pos) (teOf C W (eApp (fIsi tab) [oa])) :=
  PE_to (pe_callB call_isi hg hm PyProof.Rows.Boot.«isinstance» (pa_cons ha.1 (pa_cons hcl pa_nil h2) h1) (by decide) (by decide) h1 hpl) fun σ H Q q => by
    have z := app_of (r := fun vs H Q => ∃ x, vs = [x] ∧ rIsi X.K [x, cvv] H Q) (f := fIsi tab) (fun F H vs os o Q ex ar e k => by
      unfold fIsi at e
      split at e
      · obtain ⟨v, fp, rfl, r, nf⟩ := allRep1 ar
        split at e
        · rename_i t et
          split at e
          · rename_i b el
            have eo := Option.some.inj e
            subst eo
            obtain ⟨u, h3, h4⟩ := ty_rep hK kk hT ex r et el
            exact ⟨v, rfl, v, cvv, u, cv, b, rfl, hcv, h3, h4, k.same ex (.bl _)⟩
          · cases e
        · cases e
      · cases e) [oa] (ok1 ha) q
    have z2 : toT C W oa σ H fun x H1 => ∃ x', [x] = [x'] ∧ rIsi X.K [x', cvv] H1 Q := z
    exact toT_mono oa (fun x H1 hx => by
      obtain ⟨x', e, z⟩ := hx
      cases e
      exact z) z2
/-! ### lists that a name owns, changed -/
def sApp (i : Nat) (f : ES) : SS := fun env => match getO env i with
  | some (.own .lst _) => (f env).bind fun r => (match r.1, getO r.2 i with
    | .fro d, some (.own .lst ds) => if ds.length < 16777216 then .ok (.nx, r.2.set i (some (.own .lst (ds ++ [d])))) else .stuck
    | _, _ => .stuck)
  | _ => .stuck
theorem k_app {i : Nat} (hK : X.K = C.B.K) (ho : PE X o (tVar i)) (he : PE X e (teOf C W f)) (hi : i < C.n := by exact of_decide_eq_true rfl) (hbase : attributeBase o "append" X.env (eval o X.env) = eval o X.env := by rfl)
    (hfew : ((backTo pos (starEach [e] X.env)).all (fun x => !x.1) && (backToKw pos (keywordEach [] X.env)).all (fun x => x.1.isSome)
      && decide (([e] : List Expr).length + ([] : List Keyword).length + (if ([] : List Keyword).isEmpty then 0 else 1) < 30)) = true := by rfl)
    (hline : (apos.endLine == pos.line) = true := by rfl) (hs1 : starEach [e] X.env = (false, eval e X.env) :: starEach [] X.env := by rfl) (hs : swapsWith (.Call (.Attribute o "append" apos) [e] [] pos) none p.line X.env = pure false := by rfl) :
    PS X (.Expr (.Call (.Attribute o "append" apos) [e] [] pos) p) (tsOf C W (sApp i f)) :=
  PS_to (ps_expr (pe_bm PySem.F.plainAttrs_list PySem.F.slot_list_append PySem.F.type_list_append mt_append ho (pa_cons he pa_nil hs1) hbase hfew hline hs1) hs) fun D0 σ H h => by
    obtain ⟨F, fp, env, st, q⟩ := h
    unfold sApp at q
    split at q
    · rename_i ds0 e0
      obtain ⟨v, fa, fq, fb, k1, k2, k3, _⟩ := st.slot hi e0
      refine ⟨v, k1, ?_, ?_⟩
      · cases k3 with
        | own hl rs => exact .inl ⟨rfl, _, .inl (.inl hl)⟩
      · refine te_then (C := C) (D := D0) (k := fun o env => match o, getO env i with
          | .fro d, some (.own .lst ds) => if ds.length < 16777216 then .ok (.nx, env.set i (some (.own .lst (ds ++ [d])))) else .stuck
          | _, _ => .stuck) ⟨F, fp, env, st, q⟩ fun o env1 w s s1 fr es g r q => ?_
        split at q
        · rename_i d ds eg
          split at q
          · rename_i hl
            obtain ⟨v2, ga, gq, gb, m1, m2, m3, _⟩ := g.st.slot hi eg
            have ev : v2 = v := by
              rw [g.sl, es] at m1
              rw [show σ[i]? = some (some v) from k1] at m1
              exact (Option.some.inj (Option.some.inj m1)).symm
            subst ev
            cases m3 with
            | @own a _ vs _ hl2 rs =>
              cases r with
              | fro r =>
                have hl3 : s1.H a = some (.lst vs) := hl2
                refine ⟨a, vs, w, rfl, rfl, hl3, by rw [sizeLine_eq, rs.len]; exact hl, ?_⟩
                obtain ⟨x1, x2⟩ := St.change (vs := vs) (t' := .lst) (vs' := vs ++ [w]) (ob := .lst (vs ++ [w])) (ds' := ds ++ [d]) g.st hi eg m1 (show upd s1.H a _ a = _ from upd_same) (rs.snoc r)
                have g0 := g.drop (fr1 := []) (List.nil_sublist _)
                have z := q _ (g0.step0.trans x1) x2
                rw [show s1.σ = σ from g.sl.trans es] at z
                exact z
          · exact False.elim q
        · exact False.elim q
    · exact False.elim q
def setK (i : Nat) (d : D) (o : O) (env : Env) : R (Fl × Env) := match o, getO env i with
  | .fro (.int k), some (.own .lst ds) => (match ixN ds.length k with
    | some j => .ok (.nx, env.set i (some (.own .lst (ds.set j d))))
    | none => .stuck)
  | _, _ => .stuck
def sSetIx (i : Nat) (fi f : ES) : SS := fun env => (f env).bind fun r => match r.1 with
  | .fro d => (match getO r.2 i with
    | some _ => (fi r.2).bind fun q => setK i d q.1 q.2
    | none => .stuck)
  | _ => .stuck
theorem RepDs.set {B : Base} {F : Hp} {v : V} {d : D} (r : RepD B F v d) : ∀ {vs : List V} {ds : List D} (j : Nat), RepDs B F vs ds → RepDs B F (vs.set j v) (ds.set j d)
  | _, _, _, .nil => .nil
  | _, _, 0, .cons _ hs => .cons r hs
  | _, _, j + 1, .cons h hs => .cons h (hs.set r j)
theorem k_setIx {i : Nat} {ix : Expr} (ho : PE X o (tVar i)) (hix : PE X ix (teOf C W g)) (he : PE X e (teOf C W f)) (hi : i < C.n := by exact of_decide_eq_true rfl) (ha : ∀ v, assign (.Subscript o ix p) X.env v = (do
      let ov ← holding [v] (eval o X.env)
      let iv ← holding [v, ov] (eval ix X.env)
      standAt p
      holding [v, ov, iv] (setItem ov iv v)
      release [v, ov, iv] []) := by intro _; rfl) (hs : swapsWithSole [.Subscript o ix p] e pos.line X.env = pure false := by rfl) (hw : swappedStores [.Subscript o ix p] e X.env = pure none := by rfl)
    (h1 : (assignEach [.Subscript o ix p] X.env).map (·.2) = [assign (.Subscript o ix p) X.env] := by rfl) : PS X (.Assign [.Subscript o ix p] e pos) (tsOf C W (sSetIx i g f)) :=
  PS_to (ps_asg he (pg_sub ho hix set_list ha) hs hw h1) fun D0 σ H h => te_then (C := C) (D := D0) (k := fun o env => match o with
    | .fro d => (match getO env i with
      | some _ => (g env).bind fun q => setK i d q.1 q.2
      | none => .stuck)
    | _ => .stuck) h fun o env1 w s s1 fr es g1 r q => by
      split at q
      · rename_i d
        cases r with
        | fro r =>
          split at q
          · rename_i o2 e2
            obtain ⟨v, fa, fq, fb, k1, k2, k3, _⟩ := g1.st.slot hi e2
            have eσ : s1.σ = σ := g1.sl.trans es
            subst eσ
            refine ⟨v, k1, ?_⟩
            have g0 := g1.drop (fr1 := []) (List.nil_sublist _)
            have q2 := q.later g0.step0
            refine ⟨s1.F, s1.fp, env1, g1.st, ?_⟩
            cases eg : g env1 with
            | err c ns ds env2 =>
              rw [eg] at q2
              exact q2
            | stuck =>
              rw [eg] at q2
              exact q2
            | ok p2 =>
              obtain ⟨oi, env2⟩ := p2
              rw [eg] at q2
              intro y s2 fr2 g2 ry
              have q3 : FinS C W D0 s1 (setK i d oi env2) := q2
              unfold setK at q3
              split at q3
              · rename_i k ds e3
                cases ry with
                | fro ry =>
                  cases ry
                  obtain ⟨v2, ga, gq, gb, m1, m2, m3, _⟩ := g2.st.slot hi e3
                  have ev : v2 = v := by
                    rw [show s2.σ = s1.σ from g2.sl, k1] at m1
                    exact (Option.some.inj (Option.some.inj m1)).symm
                  subst ev
                  split at q3
                  · rename_i j ej
                    cases m3 with
                    | @own a2 _ vs _ hl2 rs =>
                      have hl3 : s2.H a2 = some (.lst vs) := hl2
                      have r2 := r.ex g2.step.exF
                      obtain ⟨x1, x2⟩ := St.change (vs := vs) (t' := .lst) (vs' := vs.set j w) (ob := .lst (vs.set j w)) (ds' := ds.set j d) g2.st hi e3 m1 (show upd s2.H a2 _ a2 = _ from upd_same) (RepDs.set r2 j rs)
                      refine ⟨a2, vs, k, j, rfl, rfl, hl3, by rw [rs.len]; exact ej, ?_⟩
                      have g3 := g2.drop (fr1 := []) (List.nil_sublist _)
                      have z := q3 _ (g3.step0.trans x1) x2
                      rw [show s2.σ = s1.σ from g2.sl] at z
                      exact z
                  · exact False.elim q3
              · exact False.elim q3
          · exact False.elim q
      · exact False.elim q
end
end DL
end

section
set_option Elab.async false
set_option linter.all false
set_option maxRecDepth 100000
set_option maxHeartbeats 2000000
namespace DL
open PySem PySem.Spec PyProof.Rows L2
section
variable {X : Cx} {C : Ctx} {W : WX} {a b c e o : Expr} {oa ob oc : Opd} {pos apos p p2 : Pos} {k : Nat} {fa : Addr} {fd : FuncData} {ps : List Str} {CX : CXT}
/-! ### the text's own == of two instances of one class -/
def rOwn (Cc : Addr) (sp : Sp) : R2 := fun x y H Q => ∃ a b dx dy fs gs, x = .ref a ∧ y = .ref b ∧ H a = some (.ins Cc dx fs) ∧ H b = some (.ins Cc dy gs) ∧ sp [x, y] H (fun v H' => ∃ k, v = .bl k ∧ Q v H') (fun _ _ _ => False)
theorem op_own {Cc : Addr} {sp : Sp} (F : FnOk X.prog X.w X.K X.mg X.base CX k fa fd ps sp) (hr : Room k X.A) (hs : PySem.W.findIn X.K (.ref Cc) "__eq__" = some (some (.ref fa))) (hf : PySem.W.isFn X.K (.ref fa) = true) (hb : Binds X.K fd ps []) (hx : Passes CX X (fun _ _ _ => False)) :
    OpR X (compareOp .Eq) (rOwn Cc sp) := by
  intro pins s σ H x y u v Q I rx ry h
  obtain ⟨a, b, dx, dy, fs, gs, rfl, rfl, ha, hb', hsp⟩ := h
  cases rx
  cases ry
  obtain ⟨mA, J, _⟩ := ins_get I.hok ha
  obtain ⟨mB, J', _⟩ := ins_get I.hok hb'
  obtain ⟨od, J, _⟩ := J.look
  obtain ⟨od', J', _⟩ := J'.look
  obtain ⟨m, hF⟩ := I.fr
  show wpAny _ _ (richCompare .Eq (.ref a) (.ref b)) _ _ _
  refine PySem.W.cmp_K (op := .Eq) (tb := .ref Cc) hr.units0 hF I.ok.mod.kin J J'.type (by simp [PySem.W.notFirst]) hs hf ?_
  have hl := F.len _ _ _ _ hsp
  have r2 : Vals [V.ref a, V.ref b] [Value.ref a, Value.ref b] := .cons rfl (.cons rfl .nil)
  refine wpAny_call (codeAny_mono (F.run X.A X.stack s H ⟨[.ref a, .ref b], []⟩ [.ref a, .ref b] [.ref a, .ref b] _ _ hr I.env0 (by
    have := hb s [.ref a, .ref b] I.kIn (by simpa using hl)
    simpa using this) r2 hsp) fun r s' hq => ?_)
  cases r with
  | error e => exact hx pins σ H s e s' I hq
  | ok fl =>
    cases fl with
    | ret w =>
      obtain ⟨z, H', I', rz, k, ez, q⟩ := I.after hq
      subst ez
      cases rz
      exact ⟨.bl k, H', I', rfl, q⟩
    | next => exact False.elim hq
    | brk => exact False.elim hq
    | cont => exact False.elim hq
def ownK (m : FS) (oa ob : Opd) (q : List (Option O) × Env) : R (O × Env) := (callE m [oa, ob] [] q).noX.bind fun r => match r.1.bool? with
  | some _ => .ok r
  | none => .stuck
def eOwn (cn : Str) (m : FS) (oa ob : Opd) : ES := fun env => (goAll [oa, ob] env).bind fun q => match finAll [oa, ob] q.1 q.2 with
  | some [x, y] => if (isIns cn (some x) && isIns cn (some y)) = true then ownK m oa ob q else .stuck
  | _ => .stuck
theorem own_of {m : FS} {cn : Str} (ok : ∀ z ∈ [oa, ob], z.Ok C.n) (nd : (pks [oa, ob]).Nodup) {σ : L2.St} {H : Hp} {Q : VK} (h : teOf C W (eOwn cn m oa ob) σ H Q) : tOp (rOwn (C.B.cA cn) (spOf C.B 2 m)) (toT C W oa) (toT C W ob) σ H Q := by
  obtain ⟨F, fp, env, st, q⟩ := h
  have key : tAll ([oa, ob].map (toT C W)) σ H fun vs H2 => ∃ x y, vs = [x, y] ∧ rOwn (C.B.cA cn) (spOf C.B 2 m) x y H2 Q := by
    refine ta_all [oa, ob] ok ⟨σ, F, H, fp⟩ env _ st ?_
    have q1 : FinE C W Q ⟨σ, F, H, fp⟩ ((goAll [oa, ob] env).bind fun q => match finAll [oa, ob] q.1 q.2 with
      | some [x, y] => if (isIns cn (some x) && isIns cn (some y)) = true then ownK m oa ob q else .stuck
      | _ => .stuck) := q
    cases eg : goAll [oa, ob] env with
    | err c ns ds env1 =>
      rw [eg] at q1
      exact q1
    | stuck =>
      rw [eg] at q1
      exact q1
    | ok p1 =>
      obtain ⟨xs, env1⟩ := p1
      rw [eg] at q1
      intro vs s1 fr g1 rt
      have q2 : FinE C W Q ⟨σ, F, H, fp⟩ (match finAll [oa, ob] xs env1 with
        | some [x, y] => if (isIns cn (some x) && isIns cn (some y)) = true then ownK m oa ob (xs, env1) else .stuck
        | _ => .stuck) := q1
      split at q2
      · rename_i x y ef
        have ar := fin_rep g1.st ok rt g1.nf ef
        have rt0 := rt
        obtain ⟨v, w, fpx, fpy, rfl, rx, ry, nfx, nfy⟩ := allRep2 ar
        split at q2
        · rename_i hc
          obtain ⟨c1, c2⟩ := Bool.and_eq_true_iff.mp hc
          obtain ⟨a, dx, fs, rfl, h1⟩ := isIns_lies g1.st.ex rx c1
          obtain ⟨b, dy, gs, rfl, h2⟩ := isIns_lies g1.st.ex ry c2
          refine ⟨_, _, rfl, a, b, dx, dy, fs, gs, rfl, rfl, h1, h2, ?_⟩
          unfold ownK at q2
          have q3 : FinE C WF (fun v H' => ∃ k, v = .bl k ∧ Q v H') ⟨σ, F, H, fp⟩ (callE m [oa, ob] [] (xs, env1)) := by
            cases ec : callE m [oa, ob] [] (xs, env1) with
            | err c ns ds env2 =>
              rw [ec] at q2
              exact False.elim q2
            | stuck =>
              rw [ec] at q2
              exact False.elim q2
            | ok p2 =>
              obtain ⟨o, env2⟩ := p2
              rw [ec] at q2
              have q4 : FinE C W Q ⟨σ, F, H, fp⟩ (match o.bool? with
                | some _ => .ok (o, env2)
                | none => .stuck) := q2
              intro u s2 fr2 g2 ru
              cases eb : o.bool? with
              | none =>
                rw [eb] at q4
                exact False.elim q4
              | some k =>
                rw [eb] at q4
                exact ⟨k, bool_of ru eb, q4 u s2 fr2 g2 ru⟩
          exact callE_fin (dvs := []) (dds := []) (n := 2) nd (pks_ok ok) (fun _ => .nil) rfl g1 rt q3
        · exact False.elim q2
      · exact False.elim q2
  have key2 : toT C W oa σ H fun x H1 => toT C W ob σ H1 fun y H2 => ∃ x' y', [x, y] = [x', y'] ∧ rOwn (C.B.cA cn) (spOf C.B 2 m) x' y' H2 Q := key
  refine toT_mono oa (fun x H1 hx => toT_mono ob (fun y H2 hy => ?_) hx) key2
  obtain ⟨x', y', e, z⟩ := hy
  cases e
  exact z
theorem c_own {m : FS} {cn : Str} (F : FnOk X.prog X.w X.K X.mg X.base CX k fa fd ps (spOf C.B 2 m)) (hr : Room k X.A) (hs : PySem.W.findIn X.K (.ref (C.B.cA cn)) "__eq__" = some (some (.ref fa))) (hf : PySem.W.isFn X.K (.ref fa) = true) (hb : Binds X.K fd ps []) (hx : Passes CX X (fun _ _ _ => False))
    (ha : COpd X C W a oa) (hb2 : COpd X C W b ob) (nd : (pks [oa, ob]).Nodup := by exact of_decide_eq_true rfl) (hm : behindInMarks .Eq b = false := by rfl) : PE X (.Compare a [.Eq] [b] pos) (teOf C W (eOwn cn m oa ob)) :=
  PE_to (pe_cmpR (op_own F hr hs hf hb hx) ha.1 hb2.1 hm) fun σ H Q q => own_of (ok2 ha hb2) nd q
theorem b_own {m : FS} {cn : Str} (F : FnOk X.prog X.w X.K X.mg X.base CX k fa fd ps (spOf C.B 2 m)) (hr : Room k X.A) (hs : PySem.W.findIn X.K (.ref (C.B.cA cn)) "__eq__" = some (some (.ref fa))) (hf : PySem.W.isFn X.K (.ref fa) = true) (hb : Binds X.K fd ps []) (hx : Passes CX X (fun _ _ _ => False))
    (ha : COpd X C W a oa) (hb2 : COpd X C W b ob) (nd : (pks [oa, ob]).Nodup := by exact of_decide_eq_true rfl) (hm : behindInMarks .Eq b = false := by rfl) : PT X (.Compare a [.Eq] [b] pos) (tbOf C W (bOf (eOwn cn m oa ob))) :=
  PT_to (pt_cmpR (op_own F hr hs hf hb hx) ha.1 hb2.1 hm) fun σ H Q q => own_of (ok2 ha hb2) nd (bOf_of q)
end
end DL
end

section
set_option Elab.async false
set_option linter.all false
set_option maxRecDepth 100000
set_option maxHeartbeats 2000000
namespace DL
open PySem PySem.Spec PyProof.Rows L2
/-! ### the head: what the written part says -/
abbrev Fact := PySem.W.Frag → Bool
abbrev gA := He.ga
abbrev mA := He.ma
/-- a property's getter -/
def pA (K : PySem.W.Frag) (C : Addr) (f : Str) : Addr := match PySem.W.recIn K (mA K C f) "property" with
  | some (.ref g :: _) => g
  | _ => 0
/-- where a def stands -/
inductive Wh where
  | glo (x : Str)
  | meth (c m : Str)
  | prop (c f : Str)
def Wh.ad (K : PySem.W.Frag) : Wh → Addr
  | .glo x => gA K x
  | .meth c m => mA K (gA K c) m
  | .prop c f => pA K (gA K c) f
structure DfD where
  wh : Wh
  name : Str
  qual : Str
  params : Arguments
  body : List Stmt
  scope : Scope
  dfl : List He.Dv := []
  kwd : List (Str × He.Dv) := []
def fnAt (K : PySem.W.Frag) (a : Addr) : He.FnW := match K.lookup a with
  | some ⟨_, _, .func fd, _⟩ => some (fd.name, fd.qualname, fd.params, fd.body, fd.scope, fd.globals, fd.closure, fd.builtins)
  | _ => none
def DfD.val (d : DfD) : He.FnW := some (d.name, d.qual, d.params, .stmts d.body, d.scope, mainGlobals, [], builtinsNs)
def DfD.dvs (K : PySem.W.Frag) (d : DfD) : List V := d.dfl.map (He.Dv.v K)
def DfD.kws (K : PySem.W.Frag) (d : DfD) : List (Str × V) := d.kwd.map fun q => (q.1, q.2.v K)
def DfD.ok (K : PySem.W.Frag) (d : DfD) : Bool := PySem.W.keepIn K (.ref (d.wh.ad K)) && (match K.lookup (d.wh.ad K) with
  | some ⟨_, _, .func fd, _⟩ => PySem.W.codeIn K fd.code d.qual && (He.dflB K fd.defaults (d.dvs K) && He.kwdB K fd.kwdefaults (d.kws K))
  | _ => false)
theorem DfD.funD {K : PySem.W.Frag} {d : DfD} (e : fnAt K (d.wh.ad K) = d.val) (c : d.ok K = true) : ∃ fd, FunD K d.name d.qual d.params d.body d.scope (d.dvs K) (d.kws K) (d.wh.ad K) fd := by
  obtain ⟨kp, c2⟩ := He.ba c
  unfold fnAt at e
  cases q : K.lookup (d.wh.ad K) with
  | none =>
    rw [q] at c2
    cases c2
  | some o =>
    obtain ⟨oc, od, dt, osl⟩ := o
    rw [q] at c2 e
    cases dt with
    | func fd =>
      obtain ⟨n1, n2, n3, n4, n5, n6, n7, n8, n9, n10, n11, n12, n13, n14, n15⟩ := fd
      have e2 : (some (n1, n2, n3, n4, n5, n6, n7, n15) : He.FnW) = some (d.name, d.qual, d.params, .stmts d.body, d.scope, mainGlobals, [], builtinsNs) := e
      simp only [Option.some.injEq, Prod.mk.injEq] at e2
      obtain ⟨h1, h2, h3, h4, h5, h6, h7, h8⟩ := e2
      subst h1 h2 h3 h4 h5 h6 h7 h8
      have c3 : (PySem.W.codeIn K n13 d.qual && (He.dflB K n8 (d.dvs K) && He.kwdB K n9 (d.kws K))) = true := c2
      obtain ⟨k1, k2⟩ := He.ba c3
      obtain ⟨k3, k4⟩ := He.ba k2
      exact ⟨_, ⟨oc, od, n8, n9, n10, n11, n12, n13, n14, osl, rfl, q, k1, He.dflB_ok k3, He.kwdB_ok k4⟩, kp⟩
    | _ => cases c2
/-- an exception's __init__ -/
structure XnD where
  cls : Str
  qual : Str
  params : Arguments
  body : List Stmt
  scope : Scope
abbrev XnW : Type := Option (Str × Str × Arguments × FuncBody × Scope × Addr × List Str × Addr)
def xnAt (K : PySem.W.Frag) (a : Addr) : XnW := match K.lookup a with
  | some ⟨_, _, .func fd, _⟩ => some (fd.name, fd.qualname, fd.params, fd.body, fd.scope, fd.globals, fd.closure.map (·.1), fd.builtins)
  | _ => none
def XnD.val (d : XnD) : XnW := some ("__init__", d.qual, d.params, .stmts d.body, d.scope, mainGlobals, ["__class__"], builtinsNs)
/-- the class of an own exception -/
def oexB (K : PySem.W.Frag) (C : Addr) : Bool := (match K.lookup C with
  | some ⟨.type "type", _, .cls cd, sl⟩ => (match cd.mro, sl.toList with
    | .ref C' :: bm, [_, _, _, _, some (.builtin n), _] => C' == C && n == "ValueError.__new__" && !cd.hasDel && cd.hasDict && PySem.HandSPX.refsVE bm
    | _, _ => false)
  | _ => false) && (decide (PySem.W.findIn K (.ref C) "__setattr__" = some (some (.builtin "object.__setattr__"))) && (decide (PySem.W.subIn K (.ref C) (.type "BaseException") = some true) && (decide (PySem.W.typeIn K (.ref C) = some (.type "type")) && PySem.W.keepIn K (.ref C))))
theorem oexB_ok {K : PySem.W.Frag} {C : Addr} (h : oexB K C = true) : OexC K C := by
  obtain ⟨q, h2⟩ := He.ba h
  obtain ⟨k2, h3⟩ := He.ba h2
  obtain ⟨k3, h4⟩ := He.ba h3
  obtain ⟨k4, k5⟩ := He.ba h4
  refine ⟨?_, of_decide_eq_true k2, of_decide_eq_true k3, of_decide_eq_true k4, k5⟩
  split at q
  · rename_i dd cd sl ho
    split at q
    · rename_i C' bm b0 b1 b2 b3 n b5 hm hs
      simp only [Bool.and_eq_true, beq_iff_eq, Bool.not_eq_true'] at q
      obtain ⟨⟨⟨⟨e1, e2⟩, hdel⟩, hdct⟩, hv⟩ := q
      subst e1 e2
      obtain ⟨nm, bs, mro, ns, qn, hd, sn, sub, ab, col, del⟩ := cd
      dsimp only at hm hdel hdct
      subst hm hdel hdct
      have hsl : sl = #[b0, b1, b2, b3, some (.builtin "ValueError.__new__"), b5] := by
        obtain ⟨l⟩ := sl
        simp only at hs
        rw [hs]
      subst hsl
      exact ⟨nm, qn, ns, bs, bm, sn, sub, ab, col, dd, b0, b1, b2, b3, b5, ho, hv⟩
    · cases q
  · cases q
def clo (fd : FuncData) : Addr := match fd.closure with
  | [(_, c)] => c
  | _ => 0
def cod (fd : FuncData) : Addr := match fd.code with
  | .ref c => c
  | _ => 0
def isRefV : Value → Bool
  | .ref _ => true
  | _ => false
def isNonV : Value → Bool
  | .none => true
  | _ => false
def XnD.ok (K : PySem.W.Frag) (file : Str) (d : XnD) : Bool := oexB K (gA K d.cls) && ((match K.lookup (mA K (gA K d.cls) "__init__") with
  | some ⟨_, _, .func fd, _⟩ => (isRefV fd.code && isNonV fd.defaults) && (PySem.W.codeIn K fd.code d.qual && ((match K.lookup (clo fd) with
    | some ⟨_, _, .cell (some (.ref c)), _⟩ => c == gA K d.cls
    | _ => false) && (match K.lookup (cod fd) with
    | some ⟨_, _, .fields vs, _⟩ => (match (vs[2]? : Option Value) with
      | some (.str y _) => y == file
      | _ => false)
    | _ => false)))
  | _ => false) && (decide (PySem.W.findIn K (.ref (gA K d.cls)) "__init__" = some (some (.ref (mA K (gA K d.cls) "__init__")))) && (decide (PySem.W.typeIn K (.ref (mA K (gA K d.cls) "__init__")) = some (.type "function")) && (decide (PySem.W.mroIn K (gA K d.cls) (.ref (gA K d.cls)) = some true) &&
    (decide (PySem.W.ks_superIn K (gA K d.cls) (gA K d.cls) "__init__" = some (some (.builtin "ValueError.__init__"))) && decide (PySem.W.subIn K (.ref (gA K d.cls)) (.type "ValueError") = some true))))))
theorem XnD.sup {K : PySem.W.Frag} {file : Str} {d : XnD} (hopq : PySem.W.nsIn K cStatics "thirdparty.any" = some none) (e : xnAt K (mA K (gA K d.cls) "__init__") = d.val) (c : d.ok K file = true) :
    PySem.W.findIn K (.ref (gA K d.cls)) "__init__" = some (some (.ref (mA K (gA K d.cls) "__init__"))) ∧ PySem.W.typeIn K (.ref (mA K (gA K d.cls) "__init__")) = some (.type "function") ∧
    ∃ cda cc oc od kV doc pm an ct osl, SupT K file (gA K d.cls) (mA K (gA K d.cls) "__init__") cda cc ∧ K.lookup (mA K (gA K d.cls) "__init__") = some ⟨oc, od, .func (PySem.W.ksFn "__init__" d.qual d.params d.body d.scope .none kV doc pm an (.ref cda) ct cc), osl⟩ ∧ PySem.W.codeIn K (.ref cda) d.qual = true := by
  obtain ⟨c1, c2⟩ := He.ba c
  obtain ⟨c3, c4⟩ := He.ba c2
  obtain ⟨c5, c6⟩ := He.ba c4
  obtain ⟨c7, c8⟩ := He.ba c6
  obtain ⟨c9, c10⟩ := He.ba c8
  obtain ⟨c11, c12⟩ := He.ba c10
  refine ⟨of_decide_eq_true c5, of_decide_eq_true c7, ?_⟩
  unfold xnAt at e
  cases q : K.lookup (mA K (gA K d.cls) "__init__") with
  | none =>
    rw [q] at c3
    cases c3
  | some o =>
    obtain ⟨oc, od, dt, osl⟩ := o
    rw [q] at c3 e
    cases dt with
    | func fd =>
      have c3 : ((isRefV fd.code && isNonV fd.defaults) && (PySem.W.codeIn K fd.code d.qual && ((match K.lookup (clo fd) with
        | some ⟨_, _, .cell (some (.ref c)), _⟩ => c == gA K d.cls
        | _ => false) && (match K.lookup (cod fd) with
        | some ⟨_, _, .fields vs, _⟩ => (match (vs[2]? : Option Value) with
          | some (.str y _) => y == file
          | _ => false)
        | _ => false)))) = true := c3
      obtain ⟨k0, k2⟩ := He.ba c3
      obtain ⟨k1, k7⟩ := He.ba k0
      obtain ⟨k3, k4⟩ := He.ba k2
      obtain ⟨k5, k6⟩ := He.ba k4
      obtain ⟨n1, n2, n3, n4, n5, n6, n7, n8, n9, n10, n11, n12, n13, n14, n15⟩ := fd
      have e2 : (some (n1, n2, n3, n4, n5, n6, n7.map (·.1), n15) : XnW) = d.val := e
      unfold XnD.val at e2
      simp only [Option.some.injEq, Prod.mk.injEq] at e2
      obtain ⟨h1, h2, h3, h4, h5, h6, h7, h8⟩ := e2
      subst h1 h2 h3 h4 h5 h6 h8
      cases n7 with
      | nil => exact absurd (congrArg List.length h7) (by simp)
      | cons p r =>
        cases r with
        | cons q r => exact absurd (congrArg List.length h7) (by simp)
        | nil =>
          obtain ⟨x, cc⟩ := p
          have hx : x = ("__class__" : Str) := (List.cons.inj h7).1
          subst hx
          have e8 : n8 = .none := by
            cases n8 with
            | none => rfl
            | _ => cases k7
          subst e8
          cases n13 with
          | ref cda =>
            refine ⟨cda, cc, oc, od, n9, n10, n11, n12, n14, osl, ⟨oexB_ok c1, ?_, ?_, of_decide_eq_true c9, hopq, of_decide_eq_true c11, of_decide_eq_true c12⟩, rfl, k3⟩
            · have k5 : (match K.lookup cc with
                | some ⟨_, _, .cell (some (.ref c)), _⟩ => c == gA K d.cls
                | _ => false) = true := k5
              split at k5
              · rename_i a1 a2 c' a3 ho
                have ec : c' = gA K d.cls := by simpa using k5
                subst ec
                exact ⟨_, _, _, ho⟩
              · cases k5
            · have k6 : (match K.lookup cda with
                | some ⟨_, _, .fields vs, _⟩ => (match (vs[2]? : Option Value) with
                  | some (.str y _) => y == file
                  | _ => false)
                | _ => false) = true := k6
              split at k6
              · rename_i a1 a2 vs a3 ho
                split at k6
                · rename_i y t hv
                  have ey : y = file := by simpa using k6
                  subst ey
                  exact ⟨_, _, _, _, _, ho, hv⟩
                · cases k6
              · cases k6
          | _ => cases k1
    | _ => cases c3
/-! ### facts -/
def fSta : Fact := fun K => decide (PySem.W.nsIn K cStatics "thirdparty.any" = some none)
def fIsK : Fact := fun K => decide (PySem.W.specialIn K (.builtin "object.__class__") "__get__" = some (some (.builtin "getset_descriptor.__get__"))) && decide (PySem.W.takesIn K (.builtin "object.__class__") = some true)
theorem fIsK_ok {K : PySem.W.Frag} (h : fIsK K = true) : DL.IsK K := ⟨of_decide_eq_true (He.ba h).1, of_decide_eq_true (He.ba h).2⟩
/-- an own class: plain, isinstance of it -/
def fCls (c : Str) : Fact := fun K => (He.Fa.cls c).ok K && (decide (PySem.W.findIn K (.ref (gA K c)) "__class__" = some (some (.builtin "object.__class__"))) && decide (PySem.W.mroIn K (gA K c) (.type "object") = some true))
theorem fCls_cls {K : PySem.W.Frag} {c : Str} (h : fCls c K = true) : Cls K (gA K c) := He.cls_ok (He.ba h).1
theorem fCls_ok {K : PySem.W.Frag} {c : Str} (h : fCls c K = true) : IsC K (gA K c) := ⟨fCls_cls h, of_decide_eq_true (He.ba (He.ba h).2).1, of_decide_eq_true (He.ba (He.ba h).2).2⟩
def fFld (cs : List Str) (f : Str) : Fact := fun K => cs.all fun c => (He.Fa.cls c).ok K && (He.Fa.noat c f).ok K
theorem fFld_ok {K : PySem.W.Frag} {cs : List Str} {f : Str} (h : fFld cs f K = true) : FldOk K ⟨K, gA K⟩ f cs := fun c hc => by
  have z := List.all_eq_true.mp h c hc
  exact ⟨He.cls_ok (He.ba z).1, He.noat_ok (He.ba z).2⟩
def fNo (c f : Str) : Fact := fun K => decide (PySem.W.findIn K (.ref (gA K c)) f = some none)
def fMeth (c m : Str) : Fact := fun K => (He.Fa.meth c m).ok K
def fMk (c : Str) : Fact := fun K => (He.Fa.mkr c).ok K
def fGlo (x : Str) : Fact := fun K => (He.Fa.glo x).ok K
def fFree (x : Str) : Fact := fun K => (He.Fa.free x).ok K
def fIntG (x : Str) (i : Int) : Fact := fun K => (He.Fa.int x i).ok K
def fProp (c f : Str) : Fact := fun K => decide (PySem.W.findIn K (.ref (gA K c)) f = some (some (.ref (mA K (gA K c) f)))) && (decide (PySem.W.specialIn K (.ref (mA K (gA K c) f)) "__get__" = some (some (.builtin "property.__get__"))) && (decide (PySem.W.takesIn K (.ref (mA K (gA K c) f)) = some true) &&
  (match PySem.W.recIn K (mA K (gA K c) f) "property" with
  | some (.ref g :: _) => g == pA K (gA K c) f
  | _ => false)))
theorem fProp_ok {K : PySem.W.Frag} {c f : Str} (h : fProp c f K = true) : PropOf K (gA K c) f (mA K (gA K c) f) (pA K (gA K c) f) := by
  obtain ⟨h1, h⟩ := He.ba h
  obtain ⟨h2, h⟩ := He.ba h
  obtain ⟨h3, h4⟩ := He.ba h
  refine ⟨of_decide_eq_true h1, of_decide_eq_true h2, of_decide_eq_true h3, ?_⟩
  split at h4
  · rename_i g r e
    have eg : g = pA K (gA K c) f := by simpa using h4
    subst eg
    exact ⟨r, e⟩
  · cases h4
/-- isinstance's table for a built-in type T -/
def fTyB (T : String) (tab : List (Ty × Bool)) : Fact := fun K => tab.all fun q => match q.1 with
  | .b U => decide (kitB U T = some q.2)
  | .c c => fCls c K && decide (PySem.W.kitOne K (.ref (gA K c)) (.type T) = some q.2)
theorem fTyB_ok {K : PySem.W.Frag} {T : String} {tab : List (Ty × Bool)} (h : fTyB T tab K = true) : TyOk K ⟨K, gA K⟩ (.type T) tab := fun q hq => by
  have z := List.all_eq_true.mp h q hq
  obtain ⟨t, b⟩ := q
  cases t with
  | b U => exact kit_ty (of_decide_eq_true z)
  | c c => exact ⟨fCls_ok (He.ba z).1, of_decide_eq_true (He.ba z).2⟩
/-- isinstance's table for an own class -/
def fTyC (C : Str) (tab : List (Ty × Bool)) : Fact := fun K => tab.all fun q => match q.1 with
  | .b U => decide (PySem.W.kitOne K (.type U) (.ref (gA K C)) = some q.2)
  | .c c => fCls c K && decide (PySem.W.kitOne K (.ref (gA K c)) (.ref (gA K C)) = some q.2)
theorem fTyC_ok {K : PySem.W.Frag} {C : Str} {tab : List (Ty × Bool)} (h : fTyC C tab K = true) : TyOk K ⟨K, gA K⟩ (.ref (gA K C)) tab := fun q hq => by
  have z := List.all_eq_true.mp h q hq
  obtain ⟨t, b⟩ := q
  cases t with
  | b U => exact of_decide_eq_true z
  | c c => exact ⟨fCls_ok (He.ba z).1, of_decide_eq_true (He.ba z).2⟩
/-- except's table -/
def fTab (C : Str) (tab : List (Str × Bool)) : Fact := fun K => tab.all fun q => decide (PySem.W.exmOne K (.ref (gA K q.1)) (.ref (gA K C)) = some q.2)
theorem fTab_ok {K : PySem.W.Frag} {C : Str} {tab : List (Str × Bool)} (h : fTab C tab K = true) : TabOk K ⟨K, gA K⟩ (.ref (gA K C)) tab := fun q hq => of_decide_eq_true (List.all_eq_true.mp h q hq)
def fTabB (T : String) (tab : List (Str × Bool)) : Fact := fun K => tab.all fun q => decide (PySem.W.exmOne K (.ref (gA K q.1)) (.type T) = some q.2)
theorem fTabB_ok {K : PySem.W.Frag} {T : String} {tab : List (Str × Bool)} (h : fTabB T tab K = true) : TabOk K ⟨K, gA K⟩ (.type T) tab := fun q hq => of_decide_eq_true (List.all_eq_true.mp h q hq)
/-- isinstance of a caught exception -/
def excCB (K : PySem.W.Frag) (C : Addr) : Bool := decide (PySem.W.findIn K (.ref C) "__getattribute__" = some (some (.builtin "BaseException.__getattribute__"))) && (decide (PySem.W.findIn K (.ref C) "__getattr__" = some none) && (decide (PySem.W.subIn K (.ref C) (.type "BaseException") = some true) && (PySem.W.hasDictIn K C &&
  (decide (PySem.W.findIn K (.ref C) "__class__" = some (some (.builtin "object.__class__"))) && (fIsK K && decide (PySem.W.mroIn K C (.type "object") = some true))))))
theorem excCB_ok {K : PySem.W.Frag} {C : Addr} (h : excCB K C = true) : ExcC K C := by
  obtain ⟨h1, h⟩ := He.ba h
  obtain ⟨h2, h⟩ := He.ba h
  obtain ⟨h3, h⟩ := He.ba h
  obtain ⟨h4, h⟩ := He.ba h
  obtain ⟨h5, h⟩ := He.ba h
  obtain ⟨h6, h7⟩ := He.ba h
  have k := fIsK_ok h6
  exact ⟨of_decide_eq_true h1, of_decide_eq_true h2, of_decide_eq_true h3, h4, of_decide_eq_true h5, k.hn, k.ht, of_decide_eq_true h7⟩
def fXisC (C : Str) (tab : List (Str × Bool)) : Fact := fun K => tab.all fun q => excCB K (gA K q.1) && decide (PySem.W.kitOne K (.ref (gA K q.1)) (.ref (gA K C)) = some q.2)
theorem fXisC_ok {K : PySem.W.Frag} {C : Str} {tab : List (Str × Bool)} (h : fXisC C tab K = true) : ∀ q ∈ tab, ExcC K (gA K q.1) ∧ PySem.W.kitOne K (.ref (gA K q.1)) (.ref (gA K C)) = some q.2 := fun q hq => by
  have z := List.all_eq_true.mp h q hq
  exact ⟨excCB_ok (He.ba z).1, of_decide_eq_true (He.ba z).2⟩
def fXisB (T : String) (tab : List (Str × Bool)) : Fact := fun K => tab.all fun q => excCB K (gA K q.1) && decide (PySem.W.kitOne K (.ref (gA K q.1)) (.type T) = some q.2)
theorem fXisB_ok {K : PySem.W.Frag} {T : String} {tab : List (Str × Bool)} (h : fXisB T tab K = true) : ∀ q ∈ tab, ExcC K (gA K q.1) ∧ PySem.W.kitOne K (.ref (gA K q.1)) (.type T) = some q.2 := fun q hq => by
  have z := List.all_eq_true.mp h q hq
  exact ⟨excCB_ok (He.ba z).1, of_decide_eq_true (He.ba z).2⟩
/-- a caught exception's field -/
def fXf (cs : List Str) (f : Str) : Fact := fun K => cs.all fun c => xfB K (gA K c) && decide (PySem.W.findIn K (.ref (gA K c)) f = some none)
theorem fXf_ok {K : PySem.W.Frag} {cs : List Str} {f : Str} (h : fXf cs f K = true) : ∀ c ∈ cs, XfC K (gA K c) ∧ PySem.W.findIn K (.ref (gA K c)) f = some none := fun c hc => by
  have z := List.all_eq_true.mp h c hc
  exact ⟨xfB_ok (He.ba z).1, of_decide_eq_true (He.ba z).2⟩
/-! ### the Hook -/
def asX (g : Addr → Option Obj) : Nat → List Addr
  | 0 => [mainGlobals, cStatics]
  | n + 1 => He.growD g (asX g n)
abbrev AlX : Type := Bool × List He.FnW × List XnW
def obsX (file : Str) (fs : List Fact) (fn : List DfD) (xn : List XnD) (K : PySem.W.Frag) : AlX := ((fs.all fun f => f K) && ((fn.all fun d => d.ok K) && xn.all fun d => d.ok K file), fn.map fun d => fnAt K (d.wh.ad K), xn.map fun d => xnAt K (mA K (gA K d.cls) "__init__"))
def valX (fn : List DfD) (xn : List XnD) : AlX := (true, fn.map DfD.val, xn.map XnD.val)
def SaysX (file : Str) (fs : List Fact) (fn : List DfD) (xn : List XnD) (K : PySem.W.Frag) : Prop := obsX file fs fn xn K = valX fn xn
def obsXG (n : Nat) (file : Str) (fs : List Fact) (fn : List DfD) (xn : List XnD) (g : Addr → Option Obj) : AlX := obsX file fs fn xn (He.frG g (asX g n))
def hookX (n : Nat) (file : Str) (fs : List Fact) (fn : List DfD) (xn : List XnD) : PySem.W.Hook where
  α := AlX
  obs := fun s => obsXG n file fs fn xn s.heap.get?
  val := fun _ => valX fn xn
  says := fun _ h => ∃ K : PySem.W.Frag, K.In h ∧ SaysX file fs fn xn K
  of := fun _ _ e => ⟨_, He.frG_in, e⟩
  keeps := fun _ _ _ ⟨K, hK, c⟩ k => ⟨K, PySem.W.Frag.In.keeps hK k, c⟩
theorem obsXG_eq {n : Nat} {file : Str} {fs : List Fact} {fn : List DfD} {xn : List XnD} {g : Addr → Option Obj} {s : Shared} (h : ∀ a, g a = s.heap.get? a) : obsXG n file fs fn xn g = (hookX n file fs fn xn).obs s := by
  have e : g = s.heap.get? := funext h
  rw [e] <;> rfl
section
variable {file : Str} {fs : List Fact} {fn : List DfD} {xn : List XnD} {K : PySem.W.Frag}
theorem SaysX.fact (c : SaysX file fs fn xn K) (i : Nat) {f : Fact} (h : fs[i]? = some f := by rfl) : f K = true := by
  have c1 := (He.ba (show ((fs.all fun f => f K) && ((fn.all fun d => d.ok K) && xn.all fun d => d.ok K file)) = true from congrArg (fun z : AlX => z.1) c)).1
  exact List.all_eq_true.mp c1 f (List.mem_of_getElem? h)
theorem SaysX.def_ (c : SaysX file fs fn xn K) (i : Nat) {d : DfD} (h : fn[i]? = some d := by rfl) : ∃ fd, FunD K d.name d.qual d.params d.body d.scope (d.dvs K) (d.kws K) (d.wh.ad K) fd := by
  have c2 := (He.ba (He.ba (show ((fs.all fun f => f K) && ((fn.all fun d => d.ok K) && xn.all fun d => d.ok K file)) = true from congrArg (fun z : AlX => z.1) c)).2).1
  have e : fn.map (fun d => fnAt K (d.wh.ad K)) = fn.map DfD.val := congrArg (fun z : AlX => z.2.1) c
  have e2 : (fn.map fun d => fnAt K (d.wh.ad K))[i]? = (fn.map DfD.val)[i]? := by rw [e]
  rw [List.getElem?_map, List.getElem?_map, h] at e2
  exact DfD.funD (Option.some.inj e2) (List.all_eq_true.mp c2 d (List.mem_of_getElem? h))
theorem SaysX.xdef (c : SaysX file fs fn xn K) (i : Nat) {d : XnD} (h : xn[i]? = some d := by rfl) : xnAt K (mA K (gA K d.cls) "__init__") = d.val ∧ d.ok K file = true := by
  have c2 := (He.ba (He.ba (show ((fs.all fun f => f K) && ((fn.all fun d => d.ok K) && xn.all fun d => d.ok K file)) = true from congrArg (fun z : AlX => z.1) c)).2).2
  have e : xn.map (fun d => xnAt K (mA K (gA K d.cls) "__init__")) = xn.map XnD.val := congrArg (fun z : AlX => z.2.2) c
  have e2 : (xn.map fun d => xnAt K (mA K (gA K d.cls) "__init__"))[i]? = (xn.map XnD.val)[i]? := by rw [e]
  rw [List.getElem?_map, List.getElem?_map, h] at e2
  exact ⟨Option.some.inj e2, List.all_eq_true.mp c2 d (List.mem_of_getElem? h)⟩
end
/-! ### small checks -/
def mpLB (mp : List MP) : Bool := mp.all fun p => match p with
  | .lit x => decide (x.length ≤ 100000)
  | .par _ => true
theorem mpL_of {mp : List MP} (h : mpLB mp = true) : ∀ x, MP.lit x ∈ mp → x.length ≤ 100000 := fun x hx => of_decide_eq_true (p := x.length ≤ 100000) (List.all_eq_true.mp h _ hx)
def mpIB (n : Nat) (mp : List MP) : Bool := mp.all fun p => match p with
  | .lit _ => true
  | .par i => decide (1 ≤ i ∧ i ≤ n)
theorem mpI_of {n : Nat} {mp : List MP} (h : mpIB n mp = true) : ∀ i, MP.par i ∈ mp → 1 ≤ i ∧ i ≤ n := fun i hi => of_decide_eq_true (p := 1 ≤ i ∧ i ≤ n) (List.all_eq_true.mp h _ hi)
def flIB (n : Nat) (fl : List (Str × Nat)) : Bool := fl.all fun p => decide (1 ≤ p.2 ∧ p.2 ≤ n)
theorem flI_of {n : Nat} {fl : List (Str × Nat)} (h : flIB n fl = true) : ∀ p ∈ fl, 1 ≤ p.2 ∧ p.2 ≤ n := fun p hp => of_decide_eq_true (p := 1 ≤ p.2 ∧ p.2 ≤ n) (List.all_eq_true.mp h p hp)
inductive AllN (K : PySem.W.Frag) (C : Addr) : List (Str × Nat) → Prop
  | nil : AllN K C []
  | cons {f : Str} {i : Nat} {fl : List (Str × Nat)} (h : PySem.W.findIn K (.ref C) f = some none) (r : AllN K C fl) : AllN K C ((f, i) :: fl)
theorem flN_of {K : PySem.W.Frag} {C : Addr} {fl : List (Str × Nat)} (h : AllN K C fl) : ∀ p ∈ fl, PySem.W.findIn K (.ref C) p.1 = some none := by
  induction h with
  | nil => intro p hp; cases hp
  | cons h r ih =>
    intro p hp
    rcases List.mem_cons.mp hp with rfl | hp
    · exact h
    · exact ih p hp
/-! ### defs that are known -/
abbrev bA (K : PySem.W.Frag) : Base := ⟨K, gA K⟩
/-- the def at a does what sem says -/
structure GFn (P : Program) (w : World) (K : PySem.W.Frag) (mg : Str → Option Value) (base : Heap) (k : Nat) (a : Addr) (ps : List Str) (m : Nat) (sem : FS) : Prop where
  ex : ∃ fd, FnOk P w K mg base (L2.CX P w) k a fd ps (spOf (bA K) m sem) ∧ Binds K fd ps [] ∧ PySem.W.keepIn K (.ref a) = true ∧ ∃ oc od osl, K.lookup a = some ⟨oc, od, .func fd, osl⟩
/-- the exception's __init__ keeps its fields -/
structure GXn (P : Program) (w : World) (K : PySem.W.Frag) (mg : Str → Option Value) (base : Heap) (k : Nat) (c : Str) (n : Nat) (mp : List MP) (fl : List (Str × Nat)) : Prop where
  ox : OexC K (gA K c)
  ini : PySem.W.findIn K (.ref (gA K c)) "__init__" = some (some (.ref (mA K (gA K c) "__init__")))
  ty : PySem.W.typeIn K (.ref (mA K (gA K c) "__init__")) = some (.type "function")
  ex : ∃ fd ps, FnOk P w K mg base CX0 k (mA K (gA K c) "__init__") fd ps (XSp (gA K c) n (okAll mp) (fldsV fl)) ∧ Binds K fd ps []
theorem no_pass {X : Cx} : Passes (L2.CX X.prog X.w) X.nox (fun _ _ _ => False) := fun _ _ _ _ _ _ _ h => by
  obtain ⟨_, _, _, _, _, _, _, _, _, _, _, _, z⟩ := h
  exact z.elim
theorem no_pass2 {X : Cx} : Passes (L2.CX X.prog X.w) X (fun _ _ _ => False) := fun _ _ _ _ _ _ _ h => by
  obtain ⟨_, _, _, _, _, _, _, _, _, _, _, _, z⟩ := h
  exact z.elim
section
variable {P : Program} {w : World} {K : PySem.W.Frag} {mg : Str → Option Value} {base : Heap} {k : Nat} {f : Addr} {name qual : Str} {params : Arguments} {body : List Stmt} {scope : Scope} {N ps : List Str}
theorem gfn_of {dvs : List V} {kws : List (Str × V)} {ks : List Nat} {u : SS} {n m : Nat} (h : ∃ fd, FunD K name qual params body scope dvs kws f fd) (S : FnScope N ps scope) (hb : ∀ fd, FunD K name qual params body scope dvs kws f fd → Binds K fd ps []) (hn : N.length = n) (hm : ps.length = m)
    (hbody : ∀ (cdv : Value) (A : Around) (outer : List PySem.Env) (s : Shared) (H : Hp) (E : XK), Room k (A.deeper (envOfC qual scope s.heap.objs.size f cdv)) →
      PSs (cxOf (L2.CX P w) P w K mg base N qual scope f cdv A outer s H E) body (tsOf (Ctx.top (bA K) n ks) (fun cls d _ H => E cls d H) u)) : GFn P w K mg base (k + 1) f ps m (runF n ks u) := by
  obtain ⟨fd, F⟩ := h
  have F0 := F
  have b := hb fd F
  obtain ⟨oc, od, dV, kV, doc, pm, an, cdv, ct, osl, rfl, lk, hcd, _, _⟩ := F.ex
  exact ⟨_, fn_ok lk hcd S hn hm fun A outer s H E hr => hbody cdv A outer s H E hr, b, F0.kp, _, _, _, lk⟩
theorem gfn_stuck {dvs : List V} {kws : List (Str × V)} {m : Nat} (h : ∃ fd, FunD K name qual params body scope dvs kws f fd) (hb : ∀ fd, FunD K name qual params body scope dvs kws f fd → Binds K fd ps []) (hm : ps.length = m) : GFn P w K mg base k f ps m (fun _ => .stuck) := by
  obtain ⟨fd, F⟩ := h
  have F0 := F
  have b := hb fd F
  obtain ⟨oc, od, dV, kV, doc, pm, an, cdv, ct, osl, rfl, lk, hcd, _, _⟩ := F.ex
  refine ⟨_, ⟨fun vs H Q E h => h.1.trans hm.symm, fun A outer s H args us vs Q E _ _ _ _ h => ?_⟩, b, F0.kp, _, _, _, lk⟩
  obtain ⟨_, _, _, _, _, _, _, _, z⟩ := h
  exact False.elim z
theorem GFn.up {k' : Nat} {m : Nat} {sem : FS} (G : GFn P w K mg base k f ps m sem) (h : k ≤ k') : GFn P w K mg base k' f ps m sem := by
  obtain ⟨fd, F, b, kp, lk⟩ := G
  exact ⟨fd, F.mono h, b, kp, lk⟩
/-- the same def -/
theorem GFn.same {dvs : List V} {kws : List (Str × V)} {m : Nat} {sem : FS} {fd : FuncData} (G : GFn P w K mg base k f ps m sem) (F : FunD K name qual params body scope dvs kws f fd) : FnOk P w K mg base (L2.CX P w) k f fd ps (spOf (bA K) m sem) := by
  obtain ⟨fd2, F2, _, _, oc2, od2, osl2, lk2⟩ := G
  obtain ⟨oc, od, dV, kV, doc, pm, an, cdv, ct, osl, e, lk, _, _, _⟩ := F.ex
  rw [lk] at lk2
  cases lk2
  exact F2
theorem gxn_of {file : Str} {fs : List Fact} {fn : List DfD} {xn : List XnD} (c : SaysX file fs fn xn K) (i : Nat) {cls : Str} {msg : Expr} {rest : List Stmt} {p0 p1 p2 p3 p4 : Pos} (hx : xn[i]? = some ⟨cls, qual, params, supBody msg rest p0 p1 p2 p3 p4, scope⟩) (hst : fSta K = true) (S : SupScope N ps scope)
    (hfile : ((P.main.file : Str) == file) = true) (htop : (P.main.scope.names.lookup ("super" : Str)).isSome = false) (hsup : mg "super" = none) (hself : ps[0]? = some ("self" : Str)) (hpar : ∃ ar, (params.posonlyargs ++ params.args).head? = some ar ∧ ar.arg = "self")
    (mp : List MP) (fl : List (Str × Nat)) {n : Nat} (hn : ps.length = n + 1) (hmpl : mp.length ≤ 100) (hlit : ∀ x, MP.lit x ∈ mp → x.length ≤ 100000) (hpi : ∀ i, MP.par i ∈ mp → 1 ≤ i ∧ i ≤ n) (hfi : ∀ p ∈ fl, 1 ≤ p.2 ∧ p.2 ≤ n) (hf0 : fl ≠ []) (hfl : fl.length ≤ 900) (hno : ∀ p ∈ fl, PySem.W.findIn K (.ref (gA K cls)) p.1 = some none)
    (hb : ∀ (kV doc pm : Value) (an : Option Addr) (cdv ct : Value) (cc : Addr) (us : List Value), us.length = ps.length → bindArgs (PySem.W.ksFn "__init__" qual params (supBody msg rest p0 p1 p2 p3 p4) scope .none kV doc pm an cdv ct cc) ⟨us, []⟩ = pure (ps.zip us))
    (hmsg : ∀ (cda cc : Addr) (A : Around) (outer : List PySem.Env) (s : Shared) (H : Hp), PE (cxSup P w K mg base N qual scope (mA K (gA K cls) "__init__") cda cc A outer s H) msg (fun σ H Q => tJs (mp.map mpT) Str.empty σ H fun out H1 => Q (.str out) H1))
    (hrest : ∀ (cda cc : Addr) (A : Around) (outer : List PySem.Env) (s : Shared) (H : Hp), PSs (cxSup P w K mg base N qual scope (mA K (gA K cls) "__init__") cda cc A outer s H) rest (seqO K fl))
    {pl : Addr → Addr → Addr → Sem Bool} (hev : ∀ cda cc L : Addr, eval (.Call (.Attribute (.Call (.Name "super" p0) [] [] p1) "__init__" p2) [msg] [] p3) (PySem.W.ksEnv qual scope L (mA K (gA K cls) "__init__") (.ref cda) cc) = (do
      let ov ← attributeBase (.Call (.Name "super" p0) [] [] p1) "__init__" (PySem.W.ksEnv qual scope L (mA K (gA K cls) "__init__") (.ref cda) cc) (eval (.Call (.Name "super" p0) [] [] p1) (PySem.W.ksEnv qual scope L (mA K (gA K cls) "__init__") (.ref cda) cc))
      standAt p2.atName
      let (g, first) ← holding [ov] (getMethod ov "__init__" (pl cda cc L))
      callWith p3 g first (backTo p3 (starEach [msg] (PySem.W.ksEnv qual scope L (mA K (gA K cls) "__init__") (.ref cda) cc))) []))
    (hsw : ∀ cda cc L : Addr, swapsWith (.Call (.Attribute (.Call (.Name "super" p0) [] [] p1) "__init__" p2) [msg] [] p3) none p4.line (PySem.W.ksEnv qual scope L (mA K (gA K cls) "__init__") (.ref cda) cc) = pure false)
    (he : ∀ env : PySem.Env, starEach (msg :: []) env = (false, eval msg env) :: starEach [] env := by intro _; rfl) : GXn P w K mg base (k + 1) cls n mp fl := by
  obtain ⟨e1, e2⟩ := c.xdef i hx
  obtain ⟨h1, h2, cda, cc, oc, od, kV, doc, pm, an, ct, osl, T, lk, hcd⟩ := XnD.sup (d := ⟨cls, qual, params, supBody msg rest p0 p1 p2 p3 p4, scope⟩) (of_decide_eq_true hst) e1 e2
  refine ⟨T.ox, h1, h2, _, ps, fn_exc T lk hcd S hfile htop hsup hself hpar mp fl hn hmpl hlit hpi hfi hf0 hfl hno (hmsg cda cc) (hrest cda cc) (pl := pl cda cc) (hev cda cc) (hsw cda cc) he, ?_⟩
  exact Binds.all fun us hl => hb _ _ _ _ _ _ _ us hl
end
section
variable {X : Cx} {C : Ctx} {W : WX} {a b c e o : Expr} {oa ob oc : Opd} {pos apos p p2 : Pos} {k k0 : Nat} {fa : Addr} {es : List Expr} {as : List Opd} {mn fn cn : Str} {m : Nat} {sem : FS} {ps : List Str}
/-- f(e, ..) -/
theorem c_callG {x : Str} (hB : C.B = bA X.K) (G : GFn X.prog X.w X.K X.mg X.base k fa ps m sem) (hr : Room k0 X.A) (hg : Gl X x) (hm : X.mg x = some (.ref fa)) (tk : Takes X W) (ha : CArgs X C W (e :: es) as) (hk : k ≤ k0 := by decide) (hn : as.length = m := by rfl) (nd : (pks as).Nodup := by exact of_decide_eq_true rfl)
    (hdb : (x == ("__debug__" : Str)) = false := by decide) (he : starEach (e :: es) X.env = (false, eval e X.env) :: starEach es X.env := by rfl) (hpl : (backTo pos (starEach es X.env)).any (·.1) = false := by rfl) : PE X (.Call (.Name x p) (e :: es) [] pos) (teOf C W (eCall sem as [])) := by
  obtain ⟨fd, F, hb, kp, _⟩ := G
  rw [← hB] at F
  exact c_call (dvs := []) (dds := []) (n := m) F (hr.mono hk) hg hm kp hb .nil (fun σ => passAt tk σ) ha (fun _ => .nil) hn nd hdb he hpl
/-- o.m(e, ..) -/
theorem c_methG {pl : Sem Bool} (hB : C.B = bA X.K) (G : GFn X.prog X.w X.K X.mg X.base k fa ps m sem) (hr : Room k0 X.A) (cc : Cls X.K (gA X.K cn)) (hm : Meth X.K (gA X.K cn) mn fa) (tk : Takes X W) (ho : COpd X C W o oa) (ha : CArgs X C W (e :: es) as) (hk : k ≤ k0 := by decide) (hn : as.length + 1 = m := by rfl) (nd : (pks (oa :: as)).Nodup := by exact of_decide_eq_true rfl)
    (hst : starEach (e :: es) X.env = (false, eval e X.env) :: starEach es X.env := by rfl) (hpl : (backTo pos (starEach es X.env)).any (·.1) = false := by rfl)
    (ht : eval (.Call (.Attribute o mn apos) (e :: es) [] pos) X.env = (do
      let ov ← eval o X.env
      standAt apos.atName
      let (f, first) ← holding [ov] (getMethod ov mn pl)
      callWith pos f first (backTo pos (starEach (e :: es) X.env)) (backToKw pos (keywordEach [] X.env))) := by rfl) :
    PE X (.Call (.Attribute o mn apos) (e :: es) [] pos) (teOf C W (eMeth cn mn sem oa as [])) := by
  obtain ⟨fd, F, hb, kp, _⟩ := G
  have e1 : C.B.cA cn = gA X.K cn := by rw [hB]
  rw [← hB] at F
  rw [← e1] at cc hm
  exact c_meth (dvs := []) (dds := []) (n := m) (pl := pl) F (hr.mono hk) cc hm hb .nil (fun σ => passAt tk σ) ho ha (fun _ => .nil) (by simpa using hn) nd hst hpl ht
theorem c_meth0G {pl : Sem Bool} (hB : C.B = bA X.K) (G : GFn X.prog X.w X.K X.mg X.base k fa ps 1 sem) (hr : Room k0 X.A) (cc : Cls X.K (gA X.K cn)) (hm : Meth X.K (gA X.K cn) mn fa) (tk : Takes X W) (ho : COpd X C W o oa) (hk : k ≤ k0 := by decide) (nd : (pks [oa]).Nodup := by exact of_decide_eq_true rfl)
    (ht : eval (.Call (.Attribute o mn apos) [] [] pos) X.env = (do
      let ov ← eval o X.env
      standAt apos.atName
      let (f, first) ← holding [ov] (getMethod ov mn pl)
      callWith pos f first (backTo pos (starEach [] X.env)) (backToKw pos (keywordEach [] X.env))) := by rfl) :
    PE X (.Call (.Attribute o mn apos) [] [] pos) (teOf C W (eMeth cn mn sem oa [] [])) := by
  obtain ⟨fd, F, hb, kp, _⟩ := G
  have e1 : C.B.cA cn = gA X.K cn := by rw [hB]
  rw [← hB] at F
  rw [← e1] at cc hm
  exact c_meth0 (dvs := []) (dds := []) (n := 1) (pl := pl) F (hr.mono hk) cc hm hb .nil (fun σ => passAt tk σ) ho (fun _ => .nil) rfl nd ht
/-- o.f, a property -/
theorem c_propG (hB : C.B = bA X.K) (G : GFn X.prog X.w X.K X.mg X.base k (pA X.K (gA X.K cn) fn) ps 1 sem) (hr : Room k0 X.A) (cc : Cls X.K (gA X.K cn)) (hp : PropOf X.K (gA X.K cn) fn (mA X.K (gA X.K cn) fn) (pA X.K (gA X.K cn) fn)) (ho : COpd X C W o oa) (hk : k + 1 ≤ k0 := by decide)
    (hab : attributeBase o fn X.env (eval o X.env) = eval o X.env := by rfl) : PE X (.Attribute o fn pos) (teOf C W (eProp cn sem oa)) := by
  obtain ⟨fd, F, hb, kp, _⟩ := G
  have e1 : C.B.cA cn = gA X.K cn := by rw [hB]
  rw [← hB] at F
  rw [← e1] at cc hp F
  exact c_prop F (hr.mono hk) cc hp hb no_pass ho hab
/-- C(e, ..) -/
theorem c_makeG {x : Str} (hB : C.B = bA X.K) (G : GFn X.prog X.w X.K X.mg X.base k (mA X.K (gA X.K cn) "__init__") ps m sem) (hr : Room k0 X.A) (M : Mk X.K (gA X.K cn) (mA X.K (gA X.K cn) "__init__")) (hg : Gl X x) (hm : X.mg x = some (.ref (gA X.K cn))) (tk : Takes X W) (ha : CArgs X C W (e :: es) as) (hk : k + 1 ≤ k0 := by decide) (hn : as.length + 1 = m := by rfl) (nd : (pks as).Nodup := by exact of_decide_eq_true rfl)
    (hdb : (x == ("__debug__" : Str)) = false := by decide) (he : starEach (e :: es) X.env = (false, eval e X.env) :: starEach es X.env := by rfl) (hpl : (backTo pos (starEach es X.env)).any (·.1) = false := by rfl) : PE X (.Call (.Name x p) (e :: es) [] pos) (teOf C W (eMake cn sem as [])) := by
  obtain ⟨fd, F, hb, kp, _⟩ := G
  have e1 : C.B.cA cn = gA X.K cn := by rw [hB]
  rw [← hB] at F
  rw [← e1] at M hm F
  exact c_make (dvs := []) (dds := []) (n := m) M F (hr.mono hk) hg hm hb .nil (fun σ => passAt tk σ) ha (fun _ => .nil) (by simpa using hn) nd hdb he hpl
/-- x == y by the text's own __eq__ -/
theorem c_ownG (hB : C.B = bA X.K) (G : GFn X.prog X.w X.K X.mg X.base k (mA X.K (gA X.K cn) "__eq__") ps 2 sem) (hr : Room k0 X.A) (hm : Meth X.K (gA X.K cn) "__eq__" (mA X.K (gA X.K cn) "__eq__")) (ha : COpd X C W a oa) (hb2 : COpd X C W b ob) (hk : k ≤ k0 := by decide) (nd : (pks [oa, ob]).Nodup := by exact of_decide_eq_true rfl) (hm2 : behindInMarks .Eq b = false := by rfl) :
    PE X (.Compare a [.Eq] [b] pos) (teOf C W (eOwn cn sem oa ob)) := by
  obtain ⟨fd, F, hb, kp, _⟩ := G
  have e1 : C.B.cA cn = gA X.K cn := by rw [hB]
  rw [← hB] at F
  rw [← e1] at hm F
  exact c_own F (hr.mono hk) hm.at_ hm.fn hb no_pass2 ha hb2 nd hm2
theorem b_ownG (hB : C.B = bA X.K) (G : GFn X.prog X.w X.K X.mg X.base k (mA X.K (gA X.K cn) "__eq__") ps 2 sem) (hr : Room k0 X.A) (hm : Meth X.K (gA X.K cn) "__eq__" (mA X.K (gA X.K cn) "__eq__")) (ha : COpd X C W a oa) (hb2 : COpd X C W b ob) (hk : k ≤ k0 := by decide) (nd : (pks [oa, ob]).Nodup := by exact of_decide_eq_true rfl) (hm2 : behindInMarks .Eq b = false := by rfl) :
    PT X (.Compare a [.Eq] [b] pos) (tbOf C W (bOf (eOwn cn sem oa ob))) := by
  obtain ⟨fd, F, hb, kp, _⟩ := G
  have e1 : C.B.cA cn = gA X.K cn := by rw [hB]
  rw [← hB] at F
  rw [← e1] at hm F
  exact b_own F (hr.mono hk) hm.at_ hm.fn hb no_pass2 ha hb2 nd hm2
/-- raise C(e, ..) -/
theorem k_raiseG {x : Str} {p5 : Pos} {mp : List MP} {fl : List (Str × Nat)} {n : Nat} (hB : C.B = bA X.K) (G : GXn X.prog X.w X.K X.mg X.base k cn n mp fl) (hr : Room k0 X.A) (hg : Gl X x) (hm : X.mg x = some (.ref (gA X.K cn))) (hc : X.calm = true) (tk : Takes X W) (ha : CArgs X C W (e :: es) as) (hk : k + 1 ≤ k0 := by decide) (hn : as.length = n := by rfl) (hn2 : n ≤ 1000 := by decide) (hf0 : fl ≠ [] := by simp)
    (hdb : (x == ("__debug__" : Str)) = false := by decide) (he : starEach (e :: es) X.env = (false, eval e X.env) :: starEach es X.env := by rfl) (hpl : (backTo pos (starEach es X.env)).any (·.1) = false := by rfl) :
    PS X (.Raise (some (.Call (.Name x p) (e :: es) [] pos)) none p5) (tsOf C W (sRaise cn mp fl as)) := by
  obtain ⟨ox, ini, ty, fd, ps, F, hb⟩ := G
  have e1 : C.B.cA cn = gA X.K cn := by rw [hB]
  rw [← e1] at ox ini ty F hm
  exact k_raise ox ini ty F (hr.mono hk) hb hg hm hc tk ha hn hn2 hf0 hdb he hpl
/-- a global's int -/
theorem c_gint {x : Str} {i : Int} (hg : Gl X x) (hm : ∃ t, X.mg x = some (.int i t)) (hd : (x == ("__debug__" : Str)) = false := by decide) : PE X (.Name x pos) (teOf C W (eC (.int i))) := by
  obtain ⟨t, hm⟩ := hm
  exact c_const (pe_glob (v := .int i) hg hm ⟨t, rfl⟩ hd) fun _ => .int i
end
/-- the law's promise at a script -/
theorem law_sp {K : PySem.W.Frag} {sem : FS} {H : Hp} {a : Addr} {ns : List Int} {E : XK} (hS : SqL K H a (ns.map V.int)) (h : ∃ os', sem [.fro (.node .lst (ns.map D.int))] = .ok (.fro (.bl true)) os') : spOf (bA K) 1 sem [.ref a] H (fun v _ => v = .bl true) E := by
  obtain ⟨os', h⟩ := h
  refine ⟨rfl, H, [.fro (.node .lst (ns.map D.int))], [], Evl.Ex.refl _, .cons (fp := []) (.fro (.node (t := .lst) hS ?_)) .nil, List.nodup_nil, fun p hp => absurd hp (by simp), ?_⟩
  · clear h hS
    induction ns with
    | nil => exact .nil
    | cons n ns ih => exact .cons (.int n) ih
  · rw [h]
    intro v F' H' fp' fr sf ex ro r nd nf
    cases r with
    | fro r =>
      cases r
      rfl
end DL
end

section
set_option Elab.async false
set_option linter.all false
set_option maxRecDepth 100000
set_option maxHeartbeats 2000000
/-! small laws of what is done to data -/
namespace DL
open PySem PySem.Spec PyProof.Rows L2
abbrev I (i : Int) : O := .fro (.int i)
theorem at0 {α : Type} {a : α} {l : List α} : atI (a :: l) 0 = some a := by
  unfold atI ixN
  rw [List.length_cons, if_pos (by decide), if_pos (by omega)]
  rfl
theorem at1 {α : Type} {a b : α} {l : List α} : atI (a :: b :: l) 1 = some b := by
  unfold atI ixN
  rw [List.length_cons, List.length_cons, if_pos (by decide), if_pos (by omega)]
  rfl
theorem at2 {α : Type} {a b c : α} {l : List α} : atI (a :: b :: c :: l) 2 = some c := by
  unfold atI ixN
  rw [List.length_cons, List.length_cons, List.length_cons, if_pos (by decide), if_pos (by omega)]
  rfl
theorem at3 {α : Type} {a b c d : α} {l : List α} : atI (a :: b :: c :: d :: l) 3 = some d := by
  unfold atI ixN
  rw [List.length_cons, List.length_cons, List.length_cons, List.length_cons, if_pos (by decide), if_pos (by omega)]
  rfl
theorem at_nat {α : Type} {l : List α} {k : Nat} : atI l (k : Int) = l[k]? := by
  unfold atI ixN
  by_cases h : k < l.length
  · rw [if_pos (by omega), if_pos (by omega)]
    rfl
  · rw [if_pos (by omega), if_neg (by omega), List.getElem?_eq_none (by omega)]
    rfl
theorem ix40 : ixN 4 0 = some 0 := rfl
theorem ix41 : ixN 4 1 = some 1 := rfl
theorem ix42 : ixN 4 2 = some 2 := rfl
theorem ix43 : ixN 4 3 = some 3 := rfl
theorem pyO_int {i : Int} : pyO (.fro (.int i)) = some (.int i) := rfl
theorem pyO_bl {b : Bool} : pyO (.fro (.bl b)) = some (.bool b) := rfl
theorem pyO_non : pyO (.fro .non) = some .none := rfl
theorem eqvI {i j : Int} : PyData.eqv (.int i) (.int j) = (i == j) := by simp only [PyData.eqv]
theorem eqvB {i j : Bool} : PyData.eqv (.bool i) (.bool j) = (i == j) := by simp only [PyData.eqv]
theorem fEqI {i j : Int} {n : Bool} : fEq n [.fro (.int i), .fro (.int j)] = some (.fro (.bl (if n = true then !(i == j) else i == j))) := by
  simp only [fEq, pyO_int, eqvI]
theorem fEqB {i j : Bool} {n : Bool} : fEq n [.fro (.bl i), .fro (.bl j)] = some (.fro (.bl (if n = true then !(i == j) else i == j))) := by
  simp only [fEq, pyO_bl, eqvB]
/-! ### one step at an environment that is known -/
section
variable {α β : Type} {x : Option O} {e : Env} {f g : ES} {t u : BS} {p q : SS} {i n : Nat} {d : D} {ds : List D} {a : Opd} {as ops : List Opd} {k : GS} {it : IS}
theorem z_bind {a : α} {f : α → R β} : (R.ok a).bind f = f a := rfl
theorem z_bindE {f : α → R β} {c ns ds e} : (R.err c ns ds e : R α).bind f = .err c ns ds e := rfl
theorem z_bindS {f : α → R β} : (R.stuck : R α).bind f = .stuck := rfl
theorem z_ite {c : Prop} [Decidable c] {r r' : R α} {f : α → R β} : (if c then r else r').bind f = if c then r.bind f else r'.bind f := by
  by_cases h : c
  · rw [if_pos h, if_pos h]
  · rw [if_neg h, if_neg h]
theorem z_noX {a : α} : (R.ok a).noX = .ok a := rfl
theorem z_iteX {c : Prop} [Decidable c] {r r' : R α} : (if c then r else r').noX = if c then r.noX else r'.noX := by
  by_cases h : c
  · rw [if_pos h, if_pos h]
  · rw [if_neg h, if_neg h]
theorem z_get0 {o : O} : getO (some o :: e) 0 = some o := rfl
theorem z_getN : getO (none :: e) 0 = none := rfl
theorem z_getS : getO (x :: e) (i + 1) = getO e i := rfl
theorem z_goN : goAll [] (x :: e) = .ok ([], x :: e) := rfl
theorem z_goC : goAll (a :: as) (x :: e) = (a.go (x :: e)).bind fun r => (goAll as r.2).bind fun q => .ok (r.1 :: q.1, q.2) := rfl
theorem z_ev : (Opd.ev f).go (x :: e) = (f (x :: e)).bind fun r => .ok (some r.1, r.2) := rfl
theorem z_pk : (Opd.pk i).go (x :: e) = match getO (x :: e) i with
    | some _ => .ok (none, x :: e)
    | none => .stuck := rfl
theorem z_finN {xs : List (Option O)} : finAll [] xs (x :: e) = some [] := rfl
theorem z_finE {o : O} {xs : List (Option O)} : finAll (.ev f :: as) (some o :: xs) (x :: e) = match finAll as xs (x :: e) with
    | some os => some (o :: os)
    | none => none := by
  show (match some o, finAll as xs (x :: e) with
    | some o, some os => some (o :: os)
    | _, _ => none) = _
  cases finAll as xs (x :: e) <;> rfl
theorem z_finP {y : Option O} {xs : List (Option O)} : finAll (.pk i :: as) (y :: xs) (x :: e) = match getO (x :: e) i, finAll as xs (x :: e) with
    | some o, some os => some (o :: os)
    | _, _ => none := rfl
theorem z_app {h : List O → Option O} : eApp h ops (x :: e) = (goAll ops (x :: e)).bind fun q => match finAll ops q.1 q.2 with
    | some os => (match h os with
      | some o => .ok (o, q.2)
      | none => .stuck)
    | none => .stuck := rfl
theorem z_C : eC d (x :: e) = .ok (.fro d, x :: e) := rfl
theorem z_Var : eVar i (x :: e) = match getO (x :: e) i with
    | some (.fro d) => .ok (.fro d, x :: e)
    | _ => .stuck := rfl
theorem z_Fz : eFz i (x :: e) = match getO (x :: e) i with
    | some o => .ok (.fro o.frz, (x :: e).set i (some (.fro o.frz)))
    | none => .stuck := rfl
theorem z_Mv : eMv i (x :: e) = match getO (x :: e) i with
    | some o => .ok (o, (x :: e).set i none)
    | none => .stuck := rfl
theorem z_frz1 : O.frz (.fro d) = d := by rw [O.frz]
theorem z_frz2 {t : Tag} : O.frz (.own t ds) = .node t ds := by rw [O.frz]
theorem z_bOf : bOf f (x :: e) = (f (x :: e)).bind fun r => match r.1.bool? with
    | some b => .ok (b, r.2)
    | none => .stuck := rfl
theorem z_bool {b : Bool} : O.bool? (.fro (.bl b)) = some b := rfl
theorem z_bAnd : bAnd t u (x :: e) = (t (x :: e)).bind fun r => if r.1 = true then u r.2 else .ok (false, r.2) := rfl
theorem z_bOr : bOr t u (x :: e) = (t (x :: e)).bind fun r => if r.1 = true then .ok (true, r.2) else u r.2 := rfl
theorem z_bNot : bNot t (x :: e) = (t (x :: e)).bind fun r => .ok (!r.1, r.2) := rfl
theorem z_eAnd : eAnd f g (x :: e) = (bOf f (x :: e)).bind fun r => if r.1 = true then g r.2 else .ok (.fro (.bl false), r.2) := rfl
theorem z_eOr : eOr f g (x :: e) = (bOf f (x :: e)).bind fun r => if r.1 = true then .ok (.fro (.bl true), r.2) else g r.2 := rfl
theorem z_eNot : eNot f (x :: e) = (bOf f (x :: e)).bind fun r => .ok (.fro (.bl (!r.1)), r.2) := rfl
theorem z_eIf : eIf t f g (x :: e) = (t (x :: e)).bind fun r => if r.1 = true then f r.2 else g r.2 := rfl
theorem z_Nx : sNx (x :: e) = .ok (.nx, x :: e) := rfl
theorem z_Bk : sBk (x :: e) = .ok (.bk, x :: e) := rfl
theorem z_Ct : sCt (x :: e) = .ok (.ct, x :: e) := rfl
def seqK (q : SS) (r : Fl × Env) : R (Fl × Env) := match r.1 with
  | .nx => q r.2
  | fl => .ok (fl, r.2)
theorem z_Seq : sSeq p q (x :: e) = (p (x :: e)).bind (seqK q) := rfl
theorem z_seqN {e : Env} : seqK q (.nx, e) = q e := rfl
theorem z_seqR {o : O} {e : Env} : seqK q (.rt o, e) = .ok (.rt o, e) := rfl
theorem z_seqB {e : Env} : seqK q (.bk, e) = .ok (.bk, e) := rfl
theorem z_seqC {e : Env} : seqK q (.ct, e) = .ok (.ct, e) := rfl
theorem z_Asg : sAsg i f (x :: e) = (f (x :: e)).bind fun r => .ok (.nx, r.2.set i (some r.1)) := rfl
theorem z_Ret : sRet f (x :: e) = (f (x :: e)).bind fun r => .ok (.rt r.1, r.2) := rfl
theorem z_RetN : sRetN (x :: e) = .ok (.rt (.fro .non), x :: e) := rfl
theorem z_Expr : sExpr f (x :: e) = (f (x :: e)).bind fun r => .ok (.nx, r.2) := rfl
theorem z_If : sIf t p q (x :: e) = (t (x :: e)).bind fun r => if r.1 = true then p r.2 else q r.2 := rfl
theorem z_iSeq : iSeq f (x :: e) = (f (x :: e)).bind fun r => match r.1.items? with
    | some p => .ok (p.2, r.2)
    | none => .stuck := rfl
theorem z_iApp {h : List O → Option (List D)} : iApp h ops (x :: e) = (goAll ops (x :: e)).bind fun q => match finAll ops q.1 q.2 with
    | some os => (match h os with
      | some ds => .ok (ds, q.2)
      | none => .stuck)
    | none => .stuck := rfl
theorem z_For : sFor it k p (x :: e) = (it (x :: e)).bind fun r => loopD k p r.1 r.2 := rfl
theorem z_loopN : loopD k p [] (x :: e) = .ok (.nx, x :: e) := rfl
def loopK (k : GS) (p : SS) (ds : List D) (r : Fl × Env) : R (Fl × Env) := match r.1 with
  | .nx => loopD k p ds r.2
  | .ct => loopD k p ds r.2
  | .bk => .ok (.nx, r.2)
  | .rt o => .ok (.rt o, r.2)
theorem z_loopC : loopD k p (d :: ds) (x :: e) = (k d (x :: e)).bind fun e1 => (p e1).bind (loopK k p ds) := rfl
theorem z_lkN {e : Env} : loopK k p ds (.nx, e) = loopD k p ds e := rfl
theorem z_lkC {e : Env} : loopK k p ds (.ct, e) = loopD k p ds e := rfl
theorem z_lkB {e : Env} : loopK k p ds (.bk, e) = .ok (.nx, e) := rfl
theorem z_lkR {o : O} {e : Env} : loopK k p ds (.rt o, e) = .ok (.rt o, e) := rfl
theorem z_setN : setN i d (x :: e) = .ok ((x :: e).set i (some (.fro d))) := rfl
theorem z_setT {is : List Nat} : setT is (.node .tup ds) (x :: e) = setMany is ds (x :: e) := rfl
theorem z_smN : setMany [] [] (x :: e) = .ok (x :: e) := rfl
theorem z_smC {is : List Nat} : setMany (i :: is) (d :: ds) (x :: e) = setMany is ds ((x :: e).set i (some (.fro d))) := rfl
theorem z_eFrz : eFrz f (x :: e) = (f (x :: e)).bind fun r => .ok (.fro r.1.frz, r.2) := rfl
theorem z_aN {xs : List (Option O)} : argsOf [] xs (x :: e) = some [] := rfl
theorem z_aE {o : O} {xs : List (Option O)} : argsOf (.ev f :: as) (some o :: xs) (x :: e) = match argsOf as xs (x :: e) with
    | some os => some (o :: os)
    | none => none := by
  show (match some o, argsOf as xs (x :: e) with
    | some o, some os => some (o :: os)
    | _, _ => none) = _
  cases argsOf as xs (x :: e) <;> rfl
theorem z_aP {y : Option O} {xs : List (Option O)} : argsOf (.pk i :: as) (y :: xs) (x :: e) = match getO (x :: e) i, argsOf as xs (x :: e) with
    | some o, some os => some (o :: os)
    | _, _ => none := rfl
theorem z_pN {os : List O} : putBack [] os (x :: e) = x :: e := by cases os <;> rfl
theorem z_pE {o : O} {os : List O} : putBack (.ev f :: as) (o :: os) (x :: e) = putBack as os (x :: e) := rfl
theorem z_pP {o : O} {os : List O} : putBack (.pk i :: as) (o :: os) (x :: e) = putBack as os ((x :: e).set i (some o)) := rfl
def callK (as : List Opd) (env : Env) : FR → R (O × Env)
  | .ok o os' => .ok (o, putBack as os' env)
  | .err c ns ds os' => .err c ns ds (putBack as os' env)
  | .stuck => .stuck
theorem z_call {m : FS} {dds : List D} : eCall m as dds (x :: e) = (goAll as (x :: e)).bind (callE m as dds) := rfl
theorem z_callE {m : FS} {dds : List D} {xs : List (Option O)} : callE m as dds (xs, x :: e) = match argsOf as xs (x :: e) with
    | some os => callK as (x :: e) (m (os ++ dds.map .fro))
    | none => .stuck := by
  unfold callE
  cases argsOf as xs (x :: e) with
  | none => rfl
  | some os =>
    show (match m (os ++ dds.map .fro) with
      | .ok o os' => .ok (o, putBack as os' (x :: e))
      | .err c ns ds os' => .err c ns ds (putBack as os' (x :: e))
      | .stuck => .stuck) = callK as (x :: e) (m (os ++ dds.map .fro))
    cases m (os ++ dds.map .fro) <;> rfl
theorem z_ckO {env : Env} {o : O} {os : List O} : callK as env (.ok o os) = .ok (o, putBack as os env) := rfl
theorem z_ckE {env : Env} {c ns ds} {os : List O} : callK as env (.err c ns ds os) = .err c ns ds (putBack as os env) := rfl
def makeK (as : List Opd) (env : Env) : FR → R (O × Env)
  | .ok (.fro .non) (o :: os') => .ok (o, putBack as os' env)
  | .err c' ns ds (_ :: os') => .err c' ns ds (putBack as os' env)
  | _ => .stuck
theorem z_make {c : Str} {m : FS} {dds : List D} : eMake c m as dds (x :: e) = (goAll as (x :: e)).bind (makeE c m as dds) := rfl
theorem z_makeE {c : Str} {m : FS} {dds : List D} {xs : List (Option O)} : makeE c m as dds (xs, x :: e) = match argsOf as xs (x :: e) with
    | some os => makeK as (x :: e) (m (.own (.ins c []) [] :: (os ++ dds.map .fro)))
    | none => .stuck := rfl
theorem z_mkO {env : Env} {o : O} {os : List O} : makeK as env (.ok (.fro .non) (o :: os)) = .ok (o, putBack as os env) := rfl
theorem z_mkE {env : Env} {c ns ds} {o : O} {os : List O} : makeK as env (.err c ns ds (o :: os)) = .err c ns ds (putBack as os env) := rfl
theorem z_meth {c mn : Str} {m : FS} {dds : List D} : eMeth c mn m a as dds (x :: e) = (a.go (x :: e)).bind fun r => if isCls c mn (a.fin r.1 r.2) = true then (goAll as r.2).bind fun q => callE m (a :: as) dds (r.1 :: q.1, q.2) else .stuck := rfl
theorem z_finPk {y : Option O} : (Opd.pk i).fin y (x :: e) = getO (x :: e) i := rfl
theorem z_finEv {y : Option O} {e : Env} : (Opd.ev f).fin y e = y := rfl
theorem z_prop {c : Str} {m : FS} : eProp c m a (x :: e) = (a.go (x :: e)).bind fun r => if isIns c (a.fin r.1 r.2) = true then (callE m [a] [] ([r.1], r.2)).noX else .stuck := rfl
theorem z_FldI {c fn : Str} : sFldI i c fn f (x :: e) = (f (x :: e)).bind fun r => match r.1, getO r.2 i with
    | .fro d, some (.own (.ins c' ns) ds) => if c' = c ∧ ns.length < 900 then .ok (.nx, r.2.set i (some (.own (.ins c' (putN fn ns)) (putD fn d ns ds)))) else .stuck
    | _, _ => .stuck := rfl
theorem z_Raise {cn : Str} {mp : List MP} {fl : List (Str × Nat)} : sRaise cn mp fl as (x :: e) = (goAll as (x :: e)).bind fun q => match finAll as q.1 q.2 with
    | some os => (match rawAll os with
      | some ds => if okAllD mp ds = true then .err cn (fldsN fl) (fldsD fl ds) q.2 else .stuck
      | none => .stuck)
    | none => .stuck := rfl
def tryK (n : Nat) (hs : List HD) : R (Fl × Env) → R (Fl × Env)
  | .ok r => .ok r
  | .err c ns ds env => tryH n hs c ns ds env
  | .stuck => .stuck
theorem z_Try {hs : List HD} : sTry n p hs (x :: e) = tryK n hs (p (x :: e)) := by
  unfold sTry
  cases p (x :: e) <;> rfl
theorem z_tkO {hs : List HD} {r : Fl × Env} : tryK n hs (.ok r) = .ok r := rfl
theorem z_tkE {hs : List HD} {c ns ds env} : tryK n hs (.err c ns ds env) = tryH n hs c ns ds env := rfl
theorem z_tkI {hs : List HD} {c : Prop} [Decidable c] {r r' : R (Fl × Env)} : tryK n hs (if c then r else r') = if c then tryK n hs r else tryK n hs r' := by
  by_cases h : c
  · rw [if_pos h, if_pos h]
  · rw [if_neg h, if_neg h]
theorem z_hC {h : HD} {hs : List HD} {c : Str} {ns : List Str} : tryH n (h :: hs) c ns ds (x :: e) = match h.tab.lookup c with
    | some true => (h.run (envX h.slot c ns ds (x :: e))).noX.bind fun q => .ok (q.1, envB n h.slot q.2)
    | some false => tryH n hs c ns ds (x :: e)
    | none => .stuck := rfl
theorem z_hN {c : Str} {ns : List Str} : tryH n [] c ns ds (x :: e) = .err c ns ds (x :: e) := rfl
theorem z_App : sApp i f (x :: e) = match getO (x :: e) i with
    | some (.own .lst _) => (f (x :: e)).bind fun r => (match r.1, getO r.2 i with
      | .fro d, some (.own .lst ds) => if ds.length < 16777216 then .ok (.nx, r.2.set i (some (.own .lst (ds ++ [d])))) else .stuck
      | _, _ => .stuck)
    | _ => .stuck := rfl
theorem z_SetIx : sSetIx i g f (x :: e) = (f (x :: e)).bind fun r => match r.1 with
    | .fro d => (match getO r.2 i with
      | some _ => (g r.2).bind fun q => setK i d q.1 q.2
      | none => .stuck)
    | _ => .stuck := rfl
theorem z_setK {j : Int} : setK i d (.fro (.int j)) (x :: e) = match getO (x :: e) i with
    | some (.own .lst ds) => (match ixN ds.length j with
      | some k => .ok (.nx, (x :: e).set i (some (.own .lst (ds.set k d))))
      | none => .stuck)
    | _ => .stuck := by
  unfold setK
  cases getO (x :: e) i with
  | none => rfl
  | some o =>
    cases o with
    | own t ds => cases t <;> rfl
    | _ => rfl
theorem z_chain {h h' : List O → Option O} {b c : Opd} : eChain h h' a b c (x :: e) = (goAll [a, b] (x :: e)).bind fun q => match finAll [a, b] q.1 q.2 with
    | some [y, .fro z] => (match h [y, .fro z] with
      | some (.fro (.bl true)) => (goAll [c] q.2).bind fun q2 => (match finAll [c] q2.1 q2.2 with
        | some [w] => (match h' [.fro z, w] with
          | some o => .ok (o, q2.2)
          | none => .stuck)
        | _ => .stuck)
      | some (.fro (.bl false)) => .ok (.fro (.bl false), q.2)
      | _ => .stuck)
    | _ => .stuck := rfl
/-- a chain of two tests -/
def chK (h h' : List O → Option O) (z : D) (c : Opd) (env : Env) (b : Bool) : R (O × Env) := if b = true then (goAll [c] env).bind fun q2 => (match finAll [c] q2.1 q2.2 with
    | some [w] => (match h' [.fro z, w] with
      | some o => .ok (o, q2.2)
      | none => .stuck)
    | _ => .stuck) else .ok (.fro (.bl false), env)
theorem z_own {cn : Str} {m : FS} {b : Opd} : eOwn cn m a b (x :: e) = (goAll [a, b] (x :: e)).bind fun q => match finAll [a, b] q.1 q.2 with
    | some [y, z] => if (isIns cn (some y) && isIns cn (some z)) = true then ownK m a b q else .stuck
    | _ => .stuck := rfl
theorem z_ownK {m : FS} {b : Opd} {xs : List (Option O)} : ownK m a b (xs, x :: e) = (callE m [a, b] [] (xs, x :: e)).noX.bind fun r => match r.1.bool? with
    | some _ => .ok r
    | none => .stuck := rfl
end
theorem mulOk_r {i j : Int} (h : -(2 ^ 64) < j ∧ j < 2 ^ 64) : mulOk i j = true := decide_eq_true (.inr h)
theorem mulOk_l {i j : Int} (h : -(2 ^ 64) < i ∧ i < 2 ^ 64) : mulOk i j = true := decide_eq_true (.inl h)
theorem divOk_of {i j : Int} (h : j ≠ 0 ∧ j.natAbs < 1073741824) : divOk i j = true := decide_eq_true h
theorem fmod_b {x n : Int} (h : 0 < n) : 0 ≤ x.fmod n ∧ x.fmod n < n := ⟨Int.fmod_nonneg_of_pos x h, Int.fmod_lt_of_pos x h⟩
theorem mulOk_fm {x y n : Int} (h : 0 < n ∧ n < 2 ^ 64) : mulOk (x.fmod n) y = true := mulOk_l (by
  have z := fmod_b (x := x) h.1
  omega)
theorem dec_ne {j : Int} (h : j ≠ 0) : decide (j ≠ 0) = true := decide_eq_true h
section
variable {i j : Int}
theorem z_fSub : fSub [.fro (.int i), .fro (.int j)] = some (.fro (.int (i - j))) := rfl
theorem z_fMul : fMul [.fro (.int i), .fro (.int j)] = if mulOk i j = true then some (.fro (.int (i * j))) else none := rfl
theorem z_fDiv : fDiv [.fro (.int i), .fro (.int j)] = if divOk i j = true then some (.fro (.int (i.fdiv j))) else none := rfl
theorem z_fMod : fMod [.fro (.int i), .fro (.int j)] = if decide (j ≠ 0) = true then some (.fro (.int (i.fmod j))) else none := rfl
theorem z_fPow : fPow [.fro (.int i), .fro (.int j)] = if powOk i j = true then some (.fro (.int (i ^ j.toNat))) else none := rfl
theorem z_fLt : fLt [.fro (.int i), .fro (.int j)] = some (.fro (.bl (decide (i < j)))) := rfl
theorem z_fLe : fLe [.fro (.int i), .fro (.int j)] = some (.fro (.bl (decide (i ≤ j)))) := rfl
theorem z_fGt : fGt [.fro (.int i), .fro (.int j)] = some (.fro (.bl (decide (j < i)))) := rfl
theorem z_fGe : fGe [.fro (.int i), .fro (.int j)] = some (.fro (.bl (decide (j ≤ i)))) := rfl
theorem z_fNeg : fNeg [.fro (.int i)] = some (.fro (.int (-i))) := rfl
theorem z_fAbs : fAbs [.fro (.int i)] = some (.fro (.int (if i < 0 then -i else i))) := rfl
theorem z_fMin : fMin [.fro (.int i), .fro (.int j)] = some (.fro (.int (if j < i then j else i))) := rfl
theorem z_fMax : fMax [.fro (.int i), .fro (.int j)] = some (.fro (.int (if j > i then j else i))) := rfl
end
section
variable {x : Option O} {e : Env} {n : Nat} {tab : List (Str × Bool)} {cs : List Str} {f : Str} {it : IS} {k : GS} {t : BS} {g : ES} {own : List Nat} {d : D} {ds acc : List D}
theorem z_Xis : eXis n tab (x :: e) = match getO (x :: e) n, getO (x :: e) (n + 1) with
    | some (.fro (.str c)), some (.fro .non) => (match tab.lookup c with
      | some b => .ok (.fro (.bl b), x :: e)
      | none => .stuck)
    | some (.fro (.str c)), some (.fro (.node (.xd _) _)) => (match tab.lookup c with
      | some b => .ok (.fro (.bl b), x :: e)
      | none => .stuck)
    | _, _ => .stuck := rfl
theorem z_Xf : eXf n cs f (x :: e) = match getO (x :: e) n, getO (x :: e) (n + 1) with
    | some (.fro (.str c)), some (.fro (.node (.xd ns) ds)) => if cs.contains c = true then (match getF f ns ds with
      | some v => .ok (.fro v, x :: e)
      | none => .stuck) else .stuck
    | _, _ => .stuck := rfl
theorem z_Lc : eLc it k t g own (x :: e) = (it (x :: e)).bind fun r => (lcLoop k t g own r.1 [] (wipeE r.2 own)).bind fun q => .ok (.own .lst q.1, backE r.2 q.2 own) := rfl
theorem z_lcN : lcLoop k t g own [] acc (x :: e) = .ok (acc, x :: e) := rfl
def lcK (k : GS) (t : BS) (g : ES) (own : List Nat) (ds acc : List D) (q : O × Env) : R (List D × Env) := if acc.length < 100000 then lcLoop k t g own ds (acc ++ [q.1.frz]) (wipeE q.2 own) else .stuck
theorem z_lcC : lcLoop k t g own (d :: ds) acc (x :: e) = (k d (x :: e)).noX.bind fun e1 => (t e1).noX.bind fun r => if r.1 = true then (g r.2).noX.bind (lcK k t g own ds acc)
    else lcLoop k t g own ds acc (wipeE r.2 own) := rfl
theorem z_lcK {q : O × Env} : lcK k t g own ds acc q = if acc.length < 100000 then lcLoop k t g own ds (acc ++ [q.1.frz]) (wipeE q.2 own) else .stuck := rfl
theorem z_yes : bYes (x :: e) = .ok (true, x :: e) := rfl
theorem z_wN : wipeE e [] = e := rfl
theorem z_wC {i : Nat} {is : List Nat} : wipeE e (i :: is) = (wipeE e is).set i none := rfl
theorem z_bkN {e0 : Env} : backE e0 e [] = e := rfl
theorem z_bkC {e0 : Env} {i : Nat} {is : List Nat} : backE e0 e (i :: is) = (backE e0 e is).set i (match getO e0 i with
    | some (.fro d) => some (.fro d)
    | _ => none) := rfl
end
/-! ### statement by statement -/
def finF (ks : List Nat) (os : List O) : R (Fl × Env) → FR
  | .ok (.nx, env) => (match backO ks 0 os env with
    | some os' => .ok (.fro .non) os'
    | none => .stuck)
  | .ok (.rt o, env) => (match backO ks 0 os env with
    | some os' => .ok o os'
    | none => .stuck)
  | .err c ns ds env => (match backO ks 0 os env with
    | some os' => .err c ns ds os'
    | none => .stuck)
  | _ => .stuck
theorem run_fin {n : Nat} {ks : List Nat} {u : SS} {os : List O} : runF n ks u os = finF ks os (u (startE n os)) := by
  unfold runF finF
  rfl
theorem seq_nx {p q : SS} {e e' : Env} (h : p e = .ok (.nx, e')) : sSeq p q e = q e' := by
  unfold sSeq
  rw [h]
  rfl
theorem seq_rt {p q : SS} {e e' : Env} {o : O} (h : p e = .ok (.rt o, e')) : sSeq p q e = .ok (.rt o, e') := by
  unfold sSeq
  rw [h]
  rfl
theorem fin_nx {ks : List Nat} {os : List O} {p q : SS} {e e' : Env} {r : FR} (h : p e = .ok (.nx, e')) (k : finF ks os (q e') = r) : finF ks os (sSeq p q e) = r := by
  rw [seq_nx h]
  exact k
section
variable {n b : Bool} {i : Int} {s : Str} {t : Tag} {ds : List D}
theorem z_isN1 : fIsN n [.fro .non, .fro .non] = some (.fro (.bl (!n))) := rfl
theorem z_isN2 : fIsN n [.fro (.int i), .fro .non] = some (.fro (.bl n)) := rfl
theorem z_isN3 : fIsN n [.fro (.bl b), .fro .non] = some (.fro (.bl n)) := rfl
theorem z_isN4 : fIsN n [.fro (.str s), .fro .non] = some (.fro (.bl n)) := rfl
theorem z_isN5 : fIsN n [.fro (.node t ds), .fro .non] = some (.fro (.bl n)) := rfl
theorem z_isN6 : fIsN n [.own t ds, .fro .non] = some (.fro (.bl n)) := rfl
theorem z_isB1 : fIsB n [.fro .non, .fro (.bl b)] = some (.fro (.bl n)) := rfl
theorem z_isB2 : fIsB n [.fro (.int i), .fro (.bl b)] = some (.fro (.bl n)) := rfl
theorem z_isB3 {a : Bool} : fIsB n [.fro (.bl a), .fro (.bl b)] = some (.fro (.bl (if n = true then !decide (a = b) else decide (a = b)))) := rfl
theorem z_isB4 : fIsB n [.fro (.str s), .fro (.bl b)] = some (.fro (.bl n)) := rfl
theorem z_isB5 : fIsB n [.fro (.node t ds), .fro (.bl b)] = some (.fro (.bl n)) := rfl
theorem z_isB6 : fIsB n [.own t ds, .fro (.bl b)] = some (.fro (.bl n)) := rfl
end
section
variable {i : Int} {ds : List D}
theorem z_it1 : O.items? (.fro (.node .tup ds)) = some (.tup, ds) := rfl
theorem z_it2 : O.items? (.fro (.node .lst ds)) = some (.lst, ds) := rfl
theorem z_it3 : O.items? (.own .lst ds) = some (.lst, ds) := rfl
theorem z_len1 : fLen [.fro (.node .tup ds)] = some (.fro (.int ds.length)) := rfl
theorem z_len2 : fLen [.fro (.node .lst ds)] = some (.fro (.int ds.length)) := rfl
theorem z_len3 : fLen [.own .lst ds] = some (.fro (.int ds.length)) := rfl
theorem z_ix1 : fIx [.fro (.node .tup ds), .fro (.int i)] = match atI ds i with
    | some d => some (.fro d)
    | none => none := rfl
theorem z_ix2 : fIx [.fro (.node .lst ds), .fro (.int i)] = match atI ds i with
    | some d => some (.fro d)
    | none => none := rfl
theorem z_ix3 : fIx [.own .lst ds, .fro (.int i)] = match atI ds i with
    | some d => some (.fro d)
    | none => none := rfl
end
theorem iapp_1 {k : List O → Option (List D)} {op : Opd} {e e' : Env} {y : Option O} {o : O} {ds : List D} (hg : goAll [op] e = .ok ([y], e')) (hf : finAll [op] [y] e' = some [o]) (hk : k [o] = some ds) : iApp k [op] e = .ok (ds, e') := by
  unfold iApp
  rw [hg]
  show (match finAll [op] [y] e' with
    | some os => (match k os with
      | some ds => R.ok (ds, e')
      | none => .stuck)
    | none => .stuck) = _
  rw [hf]
  show (match k [o] with
      | some ds => R.ok (ds, e')
      | none => .stuck) = _
  rw [hk]
theorem for_nx {it : IS} {k : GS} {u : SS} {e e1 e2 : Env} {L : List D} (h1 : it e = .ok (L, e1)) (h2 : loopD k u L e1 = .ok (.nx, e2)) : sFor it k u e = .ok (.nx, e2) := by
  unfold sFor
  rw [h1]
  exact h2
/-- a loop all of whose turns go on -/
theorem loop_nx {k : GS} {u : SS} {P : Env → Prop} : ∀ (L : List D) (e : Env), P e → (∀ q ∈ L, ∀ e, P e → ∃ e1 e2, k q e = .ok e1 ∧ u e1 = .ok (.nx, e2) ∧ P e2) → ∃ e', loopD k u L e = .ok (.nx, e') ∧ P e'
  | [], e, h, _ => ⟨e, rfl, h⟩
  | q :: L, e, h, st => by
    obtain ⟨e1, e2, h1, h2, h3⟩ := st q (List.mem_cons_self ..) e h
    obtain ⟨e', h4, h5⟩ := loop_nx L e2 h3 fun q hq => st q (List.mem_cons_of_mem _ hq)
    refine ⟨e', ?_, h5⟩
    show ((k q e).bind fun env1 => (u env1).bind fun r => match r.1 with
      | .nx => loopD k u L r.2
      | .ct => loopD k u L r.2
      | .bk => .ok (.nx, r.2)
      | .rt o => .ok (.rt o, r.2)) = _
    rw [h1]
    show ((u e1).bind fun r => match r.1 with
      | .nx => loopD k u L r.2
      | .ct => loopD k u L r.2
      | .bk => .ok (.nx, r.2)
      | .rt o => .ok (.rt o, r.2)) = _
    rw [h2]
    exact h4
end DL
end

section
set_option Elab.async false
set_option linter.all false
set_option maxRecDepth 100000
set_option maxHeartbeats 4000000
/-! printed by gen.py: what each def of the text does to data, and that it does -/
namespace G_lampcrossings_k36_rate_credits
open PySem PySem.Spec PyProof.Rows L2 DL
abbrev Pg : Program := PySem.Challenge.pw_lampcrossings_k36_rate_credits
def top (i : Nat) : Stmt := Pg.main.body.getD i (.Pass ⟨0, 0, 0, 0⟩)
abbrev file : Str := Pg.main.file
abbrev X_BadRate : Stmt := inClass (top 3) 0
abbrev X_BadCredit : Stmt := inClass (top 5) 0
abbrev X_NoCredit : Stmt := inClass (top 6) 0
abbrev D_law_cell : Stmt := top 14
abbrev D_law_hand : Stmt := top 15
abbrev D_law_take : Stmt := top 16
abbrev D_law_wide : Stmt := top 20
abbrev D_law_rate : Stmt := top 19
abbrev D_law_triple : Stmt := top 21
abbrev D_law_beside : Stmt := top 22
abbrev D_law_wrong_part : Stmt := top 23
abbrev D_law_is_int : Stmt := top 17
abbrev D_law_same : Stmt := top 18
abbrev D_Rate_init : Stmt := inClass (top 12) 0
abbrev D_law_refused : Stmt := top 27
abbrev D_law_by_base : Stmt := top 28
abbrev D_Rate_full : Stmt := inClass (top 12) 2
abbrev D_Rate_after : Stmt := inClass (top 12) 3
abbrev D_law_asked : Stmt := top 26
abbrev D_law_top : Stmt := top 24
abbrev D_law_due : Stmt := top 25
abbrev D_law_kept : Stmt := top 29
abbrev D_Rate_eq : Stmt := inClass (top 12) 1
abbrev D_law : Stmt := top 30
abbrev fs : List Fact := [fFree "len",
  fFree "abs",
  fGlo "_law_cell",
  fFree "int",
  fGlo "_law_hand",
  fGlo "_law_take",
  fGlo "_law_wide",
  fGlo "_law_rate",
  fGlo "_law_triple",
  fGlo "_law_beside",
  fGlo "_law_wrong_part",
  fIsK,
  fTyB "bool" [(.b "NoneType", false), (.b "bool", true), (.b "int", false), (.b "str", false), (.b "tuple", false), (.b "list", false)],
  fFree "isinstance",
  fFree "bool",
  fTyB "int" [(.b "NoneType", false), (.b "bool", true), (.b "int", true), (.b "str", false), (.b "tuple", false), (.b "list", false)],
  fGlo "_law_is_int",
  fTyB "str" [(.b "NoneType", false), (.b "bool", false), (.b "int", false), (.b "str", true), (.b "tuple", false), (.b "list", false)],
  fFree "str",
  fTyB "tuple" [(.b "NoneType", false), (.b "bool", false), (.b "int", false), (.b "str", false), (.b "tuple", true), (.b "list", false)],
  fFree "tuple",
  fTyB "list" [(.b "NoneType", false), (.b "bool", false), (.b "int", false), (.b "str", false), (.b "tuple", false), (.b "list", true)],
  fFree "list",
  fFree "range",
  fGlo "_law_same",
  fIntG "MOST_BURST" 3,
  fNo "BadRate" "part",
  fSta,
  fFree "super",
  fGlo "BadRate",
  fIntG "MOST_DEN" 6,
  fCls "Rate",
  fFld ["Rate"] "burst",
  fFld ["Rate"] "num",
  fFld ["Rate"] "den",
  fMk "Rate",
  fGlo "Rate",
  fXf ["BadRate"] "part",
  fXisC "LightsError" [("BadRate", true), ("BadNumber", true), ("BadCredit", true), ("NoCredit", true)],
  fGlo "LightsError",
  fXisB "ValueError" [("BadRate", true), ("BadNumber", true), ("BadCredit", true), ("NoCredit", true)],
  fFree "ValueError",
  fXisC "BadCredit" [("BadRate", false), ("BadNumber", false), ("BadCredit", true), ("NoCredit", false)],
  fGlo "BadCredit",
  fTab "BadRate" [("BadRate", true), ("BadNumber", false), ("BadCredit", false), ("NoCredit", false)],
  fGlo "_law_refused",
  fXisC "BadRate" [("BadRate", true), ("BadNumber", false), ("BadCredit", false), ("NoCredit", false)],
  fXisC "NoCredit" [("BadRate", false), ("BadNumber", false), ("BadCredit", false), ("NoCredit", true)],
  fGlo "NoCredit",
  fTab "LightsError" [("BadRate", true), ("BadNumber", true), ("BadCredit", true), ("NoCredit", true)],
  fGlo "_law_by_base",
  fProp "Rate" "full",
  fNo "BadCredit" "credit",
  fNo "NoCredit" "credit",
  fFree "min",
  fMeth "Rate" "after",
  fXf ["BadCredit", "NoCredit"] "credit",
  fTab "BadCredit" [("BadRate", false), ("BadNumber", false), ("BadCredit", true), ("NoCredit", false)],
  fTab "NoCredit" [("BadRate", false), ("BadNumber", false), ("BadCredit", false), ("NoCredit", true)],
  fGlo "_law_asked",
  fGlo "_law_top",
  fGlo "_law_due",
  fGlo "_law_kept",
  fTyC "Rate" [(.b "NoneType", false), (.b "bool", false), (.b "int", false), (.b "str", false), (.b "tuple", false), (.b "list", false), (.c "Rate", true)],
  fMeth "Rate" "__eq__",
  fGlo "law"]
abbrev fn : List DfD := [⟨.glo "_law_cell", "_law_cell", "_law_cell", defArgs D_law_cell, defBody D_law_cell, defScope D_law_cell, [], []⟩,
  ⟨.glo "_law_hand", "_law_hand", "_law_hand", defArgs D_law_hand, defBody D_law_hand, defScope D_law_hand, [], []⟩,
  ⟨.glo "_law_take", "_law_take", "_law_take", defArgs D_law_take, defBody D_law_take, defScope D_law_take, [], []⟩,
  ⟨.glo "_law_wide", "_law_wide", "_law_wide", defArgs D_law_wide, defBody D_law_wide, defScope D_law_wide, [], []⟩,
  ⟨.glo "_law_rate", "_law_rate", "_law_rate", defArgs D_law_rate, defBody D_law_rate, defScope D_law_rate, [], []⟩,
  ⟨.glo "_law_triple", "_law_triple", "_law_triple", defArgs D_law_triple, defBody D_law_triple, defScope D_law_triple, [], []⟩,
  ⟨.glo "_law_beside", "_law_beside", "_law_beside", defArgs D_law_beside, defBody D_law_beside, defScope D_law_beside, [], []⟩,
  ⟨.glo "_law_wrong_part", "_law_wrong_part", "_law_wrong_part", defArgs D_law_wrong_part, defBody D_law_wrong_part, defScope D_law_wrong_part, [], []⟩,
  ⟨.glo "_law_is_int", "_law_is_int", "_law_is_int", defArgs D_law_is_int, defBody D_law_is_int, defScope D_law_is_int, [], []⟩,
  ⟨.glo "_law_same", "_law_same", "_law_same", defArgs D_law_same, defBody D_law_same, defScope D_law_same, [], []⟩,
  ⟨.meth "Rate" "__init__", "__init__", "Rate.__init__", defArgs D_Rate_init, defBody D_Rate_init, defScope D_Rate_init, [], []⟩,
  ⟨.glo "_law_refused", "_law_refused", "_law_refused", defArgs D_law_refused, defBody D_law_refused, defScope D_law_refused, [], []⟩,
  ⟨.glo "_law_by_base", "_law_by_base", "_law_by_base", defArgs D_law_by_base, defBody D_law_by_base, defScope D_law_by_base, [], []⟩,
  ⟨.prop "Rate" "full", "full", "Rate.full", defArgs D_Rate_full, defBody D_Rate_full, defScope D_Rate_full, [], []⟩,
  ⟨.meth "Rate" "after", "after", "Rate.after", defArgs D_Rate_after, defBody D_Rate_after, defScope D_Rate_after, [], []⟩,
  ⟨.glo "_law_asked", "_law_asked", "_law_asked", defArgs D_law_asked, defBody D_law_asked, defScope D_law_asked, [], []⟩,
  ⟨.glo "_law_top", "_law_top", "_law_top", defArgs D_law_top, defBody D_law_top, defScope D_law_top, [], []⟩,
  ⟨.glo "_law_due", "_law_due", "_law_due", defArgs D_law_due, defBody D_law_due, defScope D_law_due, [], []⟩,
  ⟨.glo "_law_kept", "_law_kept", "_law_kept", defArgs D_law_kept, defBody D_law_kept, defScope D_law_kept, [], []⟩,
  ⟨.meth "Rate" "__eq__", "__eq__", "Rate.__eq__", defArgs D_Rate_eq, defBody D_Rate_eq, defScope D_Rate_eq, [], []⟩,
  ⟨.glo "law", "law", "law", defArgs D_law, defBody D_law, defScope D_law, [], []⟩]
abbrev xn : List XnD := [⟨"BadRate", "BadRate.__init__", defArgs X_BadRate, defBody X_BadRate, defScope X_BadRate⟩,
  ⟨"BadCredit", "BadCredit.__init__", defArgs X_BadCredit, defBody X_BadCredit, defScope X_BadCredit⟩,
  ⟨"NoCredit", "NoCredit.__init__", defArgs X_NoCredit, defBody X_NoCredit, defScope X_NoCredit⟩]
section
variable {w : World} {K : PySem.W.Frag} {mg : Str → Option Value} {base : Heap}
abbrev Says (K : PySem.W.Frag) : Prop := SaysX file fs fn xn K
theorem scx_BadRate : SupScope ["self", "part"] ["self", "part"] (defScope X_BadRate) := ⟨rfl, rfl, rfl, by decide +kernel, rfl, by decide +kernel, by decide +kernel, by decide +kernel, rfl, rfl⟩
theorem okx_BadRate (c : Says K) (KB : K.In base) (G : base.Ns mainGlobals mg) : GXn Pg w K mg base 1 "BadRate" 1 [.par 1, .lit " of the rate is wrong"] [("part", 1)] :=
  gxn_of c 0 rfl (c.fact 27 rfl) scx_BadRate (by decide +kernel) (by decide +kernel) (He.free_ok KB G (c.fact 28 rfl)) rfl ⟨_, rfl, rfl⟩ [.par 1, .lit " of the rate is wrong"] [("part", 1)] rfl (by decide) (mpL_of (by decide +kernel)) (mpI_of (by decide)) (flI_of (by decide)) (by simp) (by decide) (flN_of (.cons (of_decide_eq_true (c.fact 26 rfl)) .nil))
    (fun _ _ _ _ _ _ _ us hl => match us, hl with | [_, _], _ => rfl)
    (fun _ _ _ _ _ _ => pe_joined (.cons (pe_fmt (pv 1)) (.cons pe_str .nil))) (fun _ _ _ _ _ _ => (pss_cons (ps_ost (pv 0) (pv 1)) pss_nil)) (fun _ _ _ => rfl) (fun _ _ _ => rfl)
theorem scx_BadCredit : SupScope ["self", "credit"] ["self", "credit"] (defScope X_BadCredit) := ⟨rfl, rfl, rfl, by decide +kernel, rfl, by decide +kernel, by decide +kernel, by decide +kernel, rfl, rfl⟩
theorem okx_BadCredit (c : Says K) (KB : K.In base) (G : base.Ns mainGlobals mg) : GXn Pg w K mg base 1 "BadCredit" 1 [.lit "the credit ", .par 1, .lit " is out of range"] [("credit", 1)] :=
  gxn_of c 1 rfl (c.fact 27 rfl) scx_BadCredit (by decide +kernel) (by decide +kernel) (He.free_ok KB G (c.fact 28 rfl)) rfl ⟨_, rfl, rfl⟩ [.lit "the credit ", .par 1, .lit " is out of range"] [("credit", 1)] rfl (by decide) (mpL_of (by decide +kernel)) (mpI_of (by decide)) (flI_of (by decide)) (by simp) (by decide) (flN_of (.cons (of_decide_eq_true (c.fact 52 rfl)) .nil))
    (fun _ _ _ _ _ _ _ us hl => match us, hl with | [_, _], _ => rfl)
    (fun _ _ _ _ _ _ => pe_joined (.cons pe_str (.cons (pe_fmt (pv 1)) (.cons pe_str .nil)))) (fun _ _ _ _ _ _ => (pss_cons (ps_ost (pv 0) (pv 1)) pss_nil)) (fun _ _ _ => rfl) (fun _ _ _ => rfl)
theorem scx_NoCredit : SupScope ["self", "credit"] ["self", "credit"] (defScope X_NoCredit) := ⟨rfl, rfl, rfl, by decide +kernel, rfl, by decide +kernel, by decide +kernel, by decide +kernel, rfl, rfl⟩
theorem okx_NoCredit (c : Says K) (KB : K.In base) (G : base.Ns mainGlobals mg) : GXn Pg w K mg base 1 "NoCredit" 1 [.lit "the credit ", .par 1, .lit " is too small"] [("credit", 1)] :=
  gxn_of c 2 rfl (c.fact 27 rfl) scx_NoCredit (by decide +kernel) (by decide +kernel) (He.free_ok KB G (c.fact 28 rfl)) rfl ⟨_, rfl, rfl⟩ [.lit "the credit ", .par 1, .lit " is too small"] [("credit", 1)] rfl (by decide) (mpL_of (by decide +kernel)) (mpI_of (by decide)) (flI_of (by decide)) (by simp) (by decide) (flN_of (.cons (of_decide_eq_true (c.fact 53 rfl)) .nil))
    (fun _ _ _ _ _ _ _ us hl => match us, hl with | [_, _], _ => rfl)
    (fun _ _ _ _ _ _ => pe_joined (.cons pe_str (.cons (pe_fmt (pv 1)) (.cons pe_str .nil)))) (fun _ _ _ _ _ _ => (pss_cons (ps_ost (pv 0) (pv 1)) pss_nil)) (fun _ _ _ => rfl) (fun _ _ _ => rfl)
theorem sc_law_cell : FnScope ["script", "k"] ["script", "k"] (defScope D_law_cell) := ⟨rfl, rfl, rfl, by decide +kernel, rfl, by decide +kernel, by decide +kernel⟩
def B_law_cell : SS :=
  (sSeq (sIf (bOf (eApp fLt [(.pk 1), (.ev (eApp fLen [(.pk 0)]))]))
  (sRet (eApp fAbs [(.ev (eApp fIx [(.pk 0), (.pk 1)]))]))
  sNx)
  (sRet (eC (.int 0))))
def S_law_cell : FS := runF 2 [0, 1] B_law_cell
theorem ok_law_cell (c : Says K) (KB : K.In base) (G : base.Ns mainGlobals mg) : GFn Pg w K mg base 1 (gA K "_law_cell") ["script", "k"] 2 S_law_cell := by
  have sc := sc_law_cell
  refine gfn_of (c.def_ 0 rfl) sc_law_cell (fun fd F => F.bindsN fun _ _ _ _ _ _ us hl => match us, hl with | [_, _], _ => rfl) rfl rfl fun cdv A outer s H E hr => ?_
  have tk : Takes (cxOf (L2.CX Pg w) Pg w K mg base ["script", "k"] "_law_cell" (defScope D_law_cell) (gA K "_law_cell") cdv A outer s H E) (fun cls d _ H => E cls d H) := takes_of rfl rfl rfl rfl
  have po : PassesOwn (model Pg w) (cxOf (L2.CX Pg w) Pg w K mg base ["script", "k"] "_law_cell" (defScope D_law_cell) (gA K "_law_cell") cdv A outer s H E).A _ _ := passes_of rfl
  unfold B_law_cell
  exact (ks_cons (k_if (b_cmpK m_lt (o_pk (pv 1)) (o_ev (c_len rfl rfl (He.free_ok KB G (c.fact 0 rfl)) (o_pk (pv 0)))))
  (ks_one (k_ret (c_abs rfl (He.free_ok KB G (c.fact 1 rfl)) (o_ev (c_idx rfl (o_pk (pv 0)) (o_pk (pv 1)))))))
  ks_nil)
  (ks_one (k_ret c_int)))
theorem sc_law_hand : FnScope ["script", "k", "cell"] ["script", "k"] (defScope D_law_hand) := ⟨rfl, rfl, rfl, by decide +kernel, rfl, by decide +kernel, by decide +kernel⟩
def B_law_hand : SS :=
  (sSeq (sAsg 2 (eCall S_law_cell [(.pk 0), (.pk 1)] []))
  (sRet (eApp fLst [(.ev (eFz 2)), (.ev (eFrz (eApp fInt [(.ev (eApp fGe [(.pk 2), (.ev (eApp fPow [(.ev (eC (.int 10))), (.ev (eC (.int 18)))]))]))]))), (.ev (eC (.int 0))), (.ev (eFrz (eApp fAdd [(.ev (eApp fMod [(.ev (eApp fInt [(.pk 2)])), (.ev (eC (.int 2147483629)))])), (.ev (eApp fMul [(.ev (eC (.int 7))), (.pk 1)]))])))])))
def S_law_hand : FS := runF 3 [0, 1] B_law_hand
theorem ok_law_hand (c : Says K) (KB : K.In base) (G : base.Ns mainGlobals mg) : GFn Pg w K mg base 2 (gA K "_law_hand") ["script", "k"] 2 S_law_hand := by
  have sc := sc_law_hand
  refine gfn_of (c.def_ 1 rfl) sc_law_hand (fun fd F => F.bindsN fun _ _ _ _ _ _ us hl => match us, hl with | [_, _], _ => rfl) rfl rfl fun cdv A outer s H E hr => ?_
  have tk : Takes (cxOf (L2.CX Pg w) Pg w K mg base ["script", "k", "cell"] "_law_hand" (defScope D_law_hand) (gA K "_law_hand") cdv A outer s H E) (fun cls d _ H => E cls d H) := takes_of rfl rfl rfl rfl
  have po : PassesOwn (model Pg w) (cxOf (L2.CX Pg w) Pg w K mg base ["script", "k", "cell"] "_law_hand" (defScope D_law_hand) (gA K "_law_hand") cdv A outer s H E).A _ _ := passes_of rfl
  unfold B_law_hand
  exact (ks_cons (k_set (i := 2) sc.nd rfl (c_callG rfl (ok_law_cell c KB G) hr rfl (He.glo_ok KB G (c.fact 2 rfl)) tk (a_cons (o_pk (pv 0)) (a_cons (o_pk (pv 1)) a_nil))))
  (ks_one (k_ret (c_lst (a_cons (o_ev (c_fz (pv 2))) (a_cons (o_ev (c_frz (c_toInt rfl (He.free_ok KB G (c.fact 3 rfl)) (o_ev (c_cmpK m_ge (o_pk (pv 2)) (o_ev (c_pow (o_ev c_int) (o_ev c_int)))))))) (a_cons (o_ev c_int) (a_cons (o_ev (c_frz (c_add rfl (o_ev (c_mod (o_ev (c_toInt rfl (He.free_ok KB G (c.fact 3 rfl)) (o_pk (pv 2)))) (o_ev c_int))) (o_ev (c_mul (o_ev c_int) (o_pk (pv 1))))))) a_nil))))))))
theorem sc_law_take : FnScope ["hand", "many", "digit", "mixed"] ["hand", "many"] (defScope D_law_take) := ⟨rfl, rfl, rfl, by decide +kernel, rfl, by decide +kernel, by decide +kernel⟩
def B_law_take : SS :=
  (sSeq (sIf (bAnd (bOf (eApp (fEq false) [(.ev (eApp fIx [(.pk 0), (.ev (eC (.int 1)))])), (.ev (eC (.int 1)))])) (bOf (eApp fGt [(.ev (eApp fIx [(.pk 0), (.ev (eC (.int 0)))])), (.ev (eC (.int 0)))])))
  (sSeq (sAsg 2 (eApp fMod [(.ev (eApp fInt [(.ev (eApp fIx [(.pk 0), (.ev (eC (.int 0)))]))])), (.pk 1)]))
  (sSeq (sSetIx 0 (eC (.int 0)) (eApp fDiv [(.ev (eApp fIx [(.pk 0), (.ev (eC (.int 0)))])), (.pk 1)]))
  (sRet (eMv 2))))
  sNx)
  (sSeq (sSetIx 0 (eC (.int 2)) (eFrz (eApp fAdd [(.ev (eApp fIx [(.pk 0), (.ev (eC (.int 2)))])), (.ev (eC (.int 1)))])))
  (sSeq (sAsg 3 (eApp fMod [(.ev (eApp fInt [(.ev (eApp fAdd [(.ev (eApp fAdd [(.ev (eApp fMul [(.ev (eApp fIx [(.pk 0), (.ev (eC (.int 3)))])), (.ev (eC (.int 48271)))])), (.ev (eApp fMul [(.ev (eApp fIx [(.pk 0), (.ev (eC (.int 2)))])), (.ev (eC (.int 69621)))]))])), (.ev (eC (.int 12289)))]))])), (.ev (eC (.int 2147483647)))]))
  (sSeq (sAsg 3 (eApp fMod [(.ev (eApp fInt [(.ev (eApp fAdd [(.ev (eApp fAdd [(.ev (eApp fMul [(.pk 3), (.pk 3)])), (.ev (eApp fMul [(.ev (eApp fIx [(.pk 0), (.ev (eC (.int 2)))])), (.ev (eC (.int 3571)))]))])), (.ev (eC (.int 40692)))]))])), (.ev (eC (.int 2147483399)))]))
  (sSeq (sAsg 3 (eApp fMod [(.ev (eApp fInt [(.ev (eApp fAdd [(.ev (eApp fMul [(.pk 3), (.pk 3)])), (.ev (eApp fDiv [(.pk 3), (.ev (eC (.int 97)))]))]))])), (.ev (eC (.int 2147483629)))]))
  (sRet (eApp fMod [(.ev (eApp fInt [(.ev (eApp fDiv [(.pk 3), (.ev (eC (.int 11)))]))])), (.pk 1)])))))))
def S_law_take : FS := runF 4 [0, 1] B_law_take
theorem ok_law_take (c : Says K) (KB : K.In base) (G : base.Ns mainGlobals mg) : GFn Pg w K mg base 1 (gA K "_law_take") ["hand", "many"] 2 S_law_take := by
  have sc := sc_law_take
  refine gfn_of (c.def_ 2 rfl) sc_law_take (fun fd F => F.bindsN fun _ _ _ _ _ _ us hl => match us, hl with | [_, _], _ => rfl) rfl rfl fun cdv A outer s H E hr => ?_
  have tk : Takes (cxOf (L2.CX Pg w) Pg w K mg base ["hand", "many", "digit", "mixed"] "_law_take" (defScope D_law_take) (gA K "_law_take") cdv A outer s H E) (fun cls d _ H => E cls d H) := takes_of rfl rfl rfl rfl
  have po : PassesOwn (model Pg w) (cxOf (L2.CX Pg w) Pg w K mg base ["hand", "many", "digit", "mixed"] "_law_take" (defScope D_law_take) (gA K "_law_take") cdv A outer s H E).A _ _ := passes_of rfl
  unfold B_law_take
  exact (ks_cons (k_if (b_w (w_and (b_cmpK (m_eq rfl hr.units) (o_ev (c_idx rfl (o_pk (pv 0)) (o_ev c_int))) (o_ev c_int)) (w_and1 (b_cmpK m_gt (o_ev (c_idx rfl (o_pk (pv 0)) (o_ev c_int))) (o_ev c_int)))))
  (ks_cons (k_set (i := 2) sc.nd rfl (c_mod (o_ev (c_toInt rfl (He.free_ok KB G (c.fact 3 rfl)) (o_ev (c_idx rfl (o_pk (pv 0)) (o_ev c_int))))) (o_pk (pv 1))))
  (ks_cons (k_setIx (i := 0) (pv 0) c_int (c_fdiv (o_ev (c_idx rfl (o_pk (pv 0)) (o_ev c_int))) (o_pk (pv 1))))
  (ks_one (k_ret (c_mv (pv 2))))))
  ks_nil)
  (ks_cons (k_setIx (i := 0) (pv 0) c_int (c_frz (c_add rfl (o_ev (c_idx rfl (o_pk (pv 0)) (o_ev c_int))) (o_ev c_int))))
  (ks_cons (k_set (i := 3) sc.nd rfl (c_mod (o_ev (c_toInt rfl (He.free_ok KB G (c.fact 3 rfl)) (o_ev (c_add rfl (o_ev (c_add rfl (o_ev (c_mul (o_ev (c_idx rfl (o_pk (pv 0)) (o_ev c_int))) (o_ev c_int))) (o_ev (c_mul (o_ev (c_idx rfl (o_pk (pv 0)) (o_ev c_int))) (o_ev c_int))))) (o_ev c_int))))) (o_ev c_int)))
  (ks_cons (k_set (i := 3) sc.nd rfl (c_mod (o_ev (c_toInt rfl (He.free_ok KB G (c.fact 3 rfl)) (o_ev (c_add rfl (o_ev (c_add rfl (o_ev (c_mul (o_pk (pv 3)) (o_pk (pv 3)))) (o_ev (c_mul (o_ev (c_idx rfl (o_pk (pv 0)) (o_ev c_int))) (o_ev c_int))))) (o_ev c_int))))) (o_ev c_int)))
  (ks_cons (k_set (i := 3) sc.nd rfl (c_mod (o_ev (c_toInt rfl (He.free_ok KB G (c.fact 3 rfl)) (o_ev (c_add rfl (o_ev (c_mul (o_pk (pv 3)) (o_pk (pv 3)))) (o_ev (c_fdiv (o_pk (pv 3)) (o_ev c_int))))))) (o_ev c_int)))
  (ks_one (k_ret (c_mod (o_ev (c_toInt rfl (He.free_ok KB G (c.fact 3 rfl)) (o_ev (c_fdiv (o_pk (pv 3)) (o_ev c_int))))) (o_pk (pv 1))))))))))
theorem sc_law_wide : FnScope ["hand", "sign"] ["hand"] (defScope D_law_wide) := ⟨rfl, rfl, rfl, by decide +kernel, rfl, by decide +kernel, by decide +kernel⟩
def B_law_wide : SS :=
  (sSeq (sAsg 1 (eApp fSub [(.ev (eC (.int 1))), (.ev (eApp fMul [(.ev (eC (.int 2))), (.ev (eCall S_law_take [(.pk 0), (.ev (eC (.int 2)))] []))]))]))
  (sRet (eApp fMul [(.pk 1), (.ev (eCall S_law_take [(.pk 0), (.ev (eFrz (eApp fAdd [(.ev (eApp fPow [(.ev (eC (.int 10))), (.ev (eC (.int 9)))])), (.ev (eC (.int 1)))])))] []))])))
def S_law_wide : FS := runF 2 [0] B_law_wide
theorem ok_law_wide (c : Says K) (KB : K.In base) (G : base.Ns mainGlobals mg) : GFn Pg w K mg base 2 (gA K "_law_wide") ["hand"] 1 S_law_wide := by
  have sc := sc_law_wide
  refine gfn_of (c.def_ 3 rfl) sc_law_wide (fun fd F => F.bindsN fun _ _ _ _ _ _ us hl => match us, hl with | [_], _ => rfl) rfl rfl fun cdv A outer s H E hr => ?_
  have tk : Takes (cxOf (L2.CX Pg w) Pg w K mg base ["hand", "sign"] "_law_wide" (defScope D_law_wide) (gA K "_law_wide") cdv A outer s H E) (fun cls d _ H => E cls d H) := takes_of rfl rfl rfl rfl
  have po : PassesOwn (model Pg w) (cxOf (L2.CX Pg w) Pg w K mg base ["hand", "sign"] "_law_wide" (defScope D_law_wide) (gA K "_law_wide") cdv A outer s H E).A _ _ := passes_of rfl
  unfold B_law_wide
  exact (ks_cons (k_set (i := 1) sc.nd rfl (c_sub (o_ev c_int) (o_ev (c_mul (o_ev c_int) (o_ev (c_callG rfl (ok_law_take c KB G) hr rfl (He.glo_ok KB G (c.fact 5 rfl)) tk (a_cons (o_pk (pv 0)) (a_cons (o_ev c_int) a_nil))))))))
  (ks_one (k_ret (c_mul (o_pk (pv 1)) (o_ev (c_callG rfl (ok_law_take c KB G) hr rfl (He.glo_ok KB G (c.fact 5 rfl)) tk (a_cons (o_pk (pv 0)) (a_cons (o_ev (c_frz (c_add rfl (o_ev (c_pow (o_ev c_int) (o_ev c_int))) (o_ev c_int)))) a_nil))))))))
theorem sc_law_rate : FnScope ["hand", "way", "den"] ["hand"] (defScope D_law_rate) := ⟨rfl, rfl, rfl, by decide +kernel, rfl, by decide +kernel, by decide +kernel⟩
def B_law_rate : SS :=
  (sSeq (sAsg 1 (eCall S_law_take [(.pk 0), (.ev (eC (.int 6)))] []))
  (sSeq (sIf (bOf (eApp fLt [(.pk 1), (.ev (eC (.int 3)))]))
  (sSeq (sAsg 2 (eApp fAdd [(.ev (eC (.int 1))), (.ev (eCall S_law_take [(.pk 0), (.ev (eC (.int 3)))] []))]))
  (sRet (eApp fTup [(.ev (eC (.int 1))), (.ev (eFrz (eApp fAdd [(.ev (eC (.int 1))), (.ev (eCall S_law_take [(.pk 0), (.pk 2)] []))]))), (.ev (eFz 2))])))
  sNx)
  (sSeq (sIf (bOf (eApp fLt [(.pk 1), (.ev (eC (.int 5)))]))
  (sSeq (sAsg 2 (eApp fAdd [(.ev (eC (.int 1))), (.ev (eCall S_law_take [(.pk 0), (.ev (eC (.int 4)))] []))]))
  (sRet (eApp fTup [(.ev (eFrz (eApp fAdd [(.ev (eC (.int 1))), (.ev (eCall S_law_take [(.pk 0), (.ev (eC (.int 2)))] []))]))), (.ev (eFrz (eApp fAdd [(.ev (eC (.int 1))), (.ev (eCall S_law_take [(.pk 0), (.pk 2)] []))]))), (.ev (eFz 2))])))
  sNx)
  (sSeq (sAsg 2 (eApp fAdd [(.ev (eC (.int 1))), (.ev (eCall S_law_take [(.pk 0), (.ev (eC (.int 6)))] []))]))
  (sRet (eApp fTup [(.ev (eFrz (eApp fAdd [(.ev (eC (.int 1))), (.ev (eCall S_law_take [(.pk 0), (.ev (eC (.int 3)))] []))]))), (.ev (eFrz (eApp fAdd [(.ev (eC (.int 1))), (.ev (eCall S_law_take [(.pk 0), (.pk 2)] []))]))), (.ev (eFz 2))]))))))
def S_law_rate : FS := runF 3 [0] B_law_rate
theorem ok_law_rate (c : Says K) (KB : K.In base) (G : base.Ns mainGlobals mg) : GFn Pg w K mg base 2 (gA K "_law_rate") ["hand"] 1 S_law_rate := by
  have sc := sc_law_rate
  refine gfn_of (c.def_ 4 rfl) sc_law_rate (fun fd F => F.bindsN fun _ _ _ _ _ _ us hl => match us, hl with | [_], _ => rfl) rfl rfl fun cdv A outer s H E hr => ?_
  have tk : Takes (cxOf (L2.CX Pg w) Pg w K mg base ["hand", "way", "den"] "_law_rate" (defScope D_law_rate) (gA K "_law_rate") cdv A outer s H E) (fun cls d _ H => E cls d H) := takes_of rfl rfl rfl rfl
  have po : PassesOwn (model Pg w) (cxOf (L2.CX Pg w) Pg w K mg base ["hand", "way", "den"] "_law_rate" (defScope D_law_rate) (gA K "_law_rate") cdv A outer s H E).A _ _ := passes_of rfl
  unfold B_law_rate
  exact (ks_cons (k_set (i := 1) sc.nd rfl (c_callG rfl (ok_law_take c KB G) hr rfl (He.glo_ok KB G (c.fact 5 rfl)) tk (a_cons (o_pk (pv 0)) (a_cons (o_ev c_int) a_nil))))
  (ks_cons (k_if (b_cmpK m_lt (o_pk (pv 1)) (o_ev c_int))
  (ks_cons (k_set (i := 2) sc.nd rfl (c_add rfl (o_ev c_int) (o_ev (c_callG rfl (ok_law_take c KB G) hr rfl (He.glo_ok KB G (c.fact 5 rfl)) tk (a_cons (o_pk (pv 0)) (a_cons (o_ev c_int) a_nil))))))
  (ks_one (k_ret (c_tup (a_cons (o_ev c_int) (a_cons (o_ev (c_frz (c_add rfl (o_ev c_int) (o_ev (c_callG rfl (ok_law_take c KB G) hr rfl (He.glo_ok KB G (c.fact 5 rfl)) tk (a_cons (o_pk (pv 0)) (a_cons (o_pk (pv 2)) a_nil))))))) (a_cons (o_ev (c_fz (pv 2))) a_nil)))))))
  ks_nil)
  (ks_cons (k_if (b_cmpK m_lt (o_pk (pv 1)) (o_ev c_int))
  (ks_cons (k_set (i := 2) sc.nd rfl (c_add rfl (o_ev c_int) (o_ev (c_callG rfl (ok_law_take c KB G) hr rfl (He.glo_ok KB G (c.fact 5 rfl)) tk (a_cons (o_pk (pv 0)) (a_cons (o_ev c_int) a_nil))))))
  (ks_one (k_ret (c_tup (a_cons (o_ev (c_frz (c_add rfl (o_ev c_int) (o_ev (c_callG rfl (ok_law_take c KB G) hr rfl (He.glo_ok KB G (c.fact 5 rfl)) tk (a_cons (o_pk (pv 0)) (a_cons (o_ev c_int) a_nil))))))) (a_cons (o_ev (c_frz (c_add rfl (o_ev c_int) (o_ev (c_callG rfl (ok_law_take c KB G) hr rfl (He.glo_ok KB G (c.fact 5 rfl)) tk (a_cons (o_pk (pv 0)) (a_cons (o_pk (pv 2)) a_nil))))))) (a_cons (o_ev (c_fz (pv 2))) a_nil)))))))
  ks_nil)
  (ks_cons (k_set (i := 2) sc.nd rfl (c_add rfl (o_ev c_int) (o_ev (c_callG rfl (ok_law_take c KB G) hr rfl (He.glo_ok KB G (c.fact 5 rfl)) tk (a_cons (o_pk (pv 0)) (a_cons (o_ev c_int) a_nil))))))
  (ks_one (k_ret (c_tup (a_cons (o_ev (c_frz (c_add rfl (o_ev c_int) (o_ev (c_callG rfl (ok_law_take c KB G) hr rfl (He.glo_ok KB G (c.fact 5 rfl)) tk (a_cons (o_pk (pv 0)) (a_cons (o_ev c_int) a_nil))))))) (a_cons (o_ev (c_frz (c_add rfl (o_ev c_int) (o_ev (c_callG rfl (ok_law_take c KB G) hr rfl (He.glo_ok KB G (c.fact 5 rfl)) tk (a_cons (o_pk (pv 0)) (a_cons (o_pk (pv 2)) a_nil))))))) (a_cons (o_ev (c_fz (pv 2))) a_nil))))))))))
theorem sc_law_triple : FnScope ["hand", "way", "place", "number", "pace"] ["hand"] (defScope D_law_triple) := ⟨rfl, rfl, rfl, by decide +kernel, rfl, by decide +kernel, by decide +kernel⟩
def B_law_triple : SS :=
  (sSeq (sAsg 1 (eCall S_law_take [(.pk 0), (.ev (eC (.int 5)))] []))
  (sSeq (sIf (bOf (eApp (fEq false) [(.pk 1), (.ev (eC (.int 0)))]))
  (sRet (eApp fTup [(.ev (eApp fSub [(.ev (eCall S_law_take [(.pk 0), (.ev (eC (.int 7)))] [])), (.ev (eC (.int 1)))])), (.ev (eApp fSub [(.ev (eCall S_law_take [(.pk 0), (.ev (eC (.int 11)))] [])), (.ev (eC (.int 1)))])), (.ev (eApp fSub [(.ev (eCall S_law_take [(.pk 0), (.ev (eC (.int 10)))] [])), (.ev (eC (.int 1)))]))]))
  sNx)
  (sSeq (sIf (bOf (eApp (fEq false) [(.pk 1), (.ev (eC (.int 1)))]))
  (sSeq (sAsg 2 (eCall S_law_take [(.pk 0), (.ev (eC (.int 3)))] []))
  (sSeq (sAsg 3 (eApp fSub [(.ev (eCall S_law_take [(.pk 0), (.ev (eC (.int 11)))] [])), (.ev (eC (.int 1)))]))
  (sSeq (sIf (bOf (eApp (fEq false) [(.ev (eCall S_law_take [(.pk 0), (.ev (eC (.int 2)))] [])), (.ev (eC (.int 0)))]))
  (sAsg 3 (eCall S_law_wide [(.pk 0)] []))
  sNx)
  (sSeq (sAsg 4 (eCall S_law_rate [(.pk 0)] []))
  (sRet (eApp fAdd [(.ev (eApp fAdd [(.ev (eApp fSlT [(.pk 4), (.pk 2)])), (.ev (eApp fTup [(.ev (eFz 3))]))])), (.ev (eApp fSlF [(.pk 4), (.ev (eApp fAdd [(.pk 2), (.ev (eC (.int 1)))]))]))]))))))
  sNx)
  (sSeq (sIf (bOf (eApp (fEq false) [(.pk 1), (.ev (eC (.int 2)))]))
  (sRet (eApp fTup [(.ev (eFrz (eCall S_law_wide [(.pk 0)] []))), (.ev (eFrz (eCall S_law_wide [(.pk 0)] []))), (.ev (eFrz (eCall S_law_wide [(.pk 0)] [])))]))
  sNx)
  (sRet (eCall S_law_rate [(.pk 0)] []))))))
def S_law_triple : FS := runF 5 [0] B_law_triple
theorem ok_law_triple (c : Says K) (KB : K.In base) (G : base.Ns mainGlobals mg) : GFn Pg w K mg base 3 (gA K "_law_triple") ["hand"] 1 S_law_triple := by
  have sc := sc_law_triple
  refine gfn_of (c.def_ 5 rfl) sc_law_triple (fun fd F => F.bindsN fun _ _ _ _ _ _ us hl => match us, hl with | [_], _ => rfl) rfl rfl fun cdv A outer s H E hr => ?_
  have tk : Takes (cxOf (L2.CX Pg w) Pg w K mg base ["hand", "way", "place", "number", "pace"] "_law_triple" (defScope D_law_triple) (gA K "_law_triple") cdv A outer s H E) (fun cls d _ H => E cls d H) := takes_of rfl rfl rfl rfl
  have po : PassesOwn (model Pg w) (cxOf (L2.CX Pg w) Pg w K mg base ["hand", "way", "place", "number", "pace"] "_law_triple" (defScope D_law_triple) (gA K "_law_triple") cdv A outer s H E).A _ _ := passes_of rfl
  unfold B_law_triple
  exact (ks_cons (k_set (i := 1) sc.nd rfl (c_callG rfl (ok_law_take c KB G) hr rfl (He.glo_ok KB G (c.fact 5 rfl)) tk (a_cons (o_pk (pv 0)) (a_cons (o_ev c_int) a_nil))))
  (ks_cons (k_if (b_cmpK (m_eq rfl hr.units) (o_pk (pv 1)) (o_ev c_int))
  (ks_one (k_ret (c_tup (a_cons (o_ev (c_sub (o_ev (c_callG rfl (ok_law_take c KB G) hr rfl (He.glo_ok KB G (c.fact 5 rfl)) tk (a_cons (o_pk (pv 0)) (a_cons (o_ev c_int) a_nil)))) (o_ev c_int))) (a_cons (o_ev (c_sub (o_ev (c_callG rfl (ok_law_take c KB G) hr rfl (He.glo_ok KB G (c.fact 5 rfl)) tk (a_cons (o_pk (pv 0)) (a_cons (o_ev c_int) a_nil)))) (o_ev c_int))) (a_cons (o_ev (c_sub (o_ev (c_callG rfl (ok_law_take c KB G) hr rfl (He.glo_ok KB G (c.fact 5 rfl)) tk (a_cons (o_pk (pv 0)) (a_cons (o_ev c_int) a_nil)))) (o_ev c_int))) a_nil))))))
  ks_nil)
  (ks_cons (k_if (b_cmpK (m_eq rfl hr.units) (o_pk (pv 1)) (o_ev c_int))
  (ks_cons (k_set (i := 2) sc.nd rfl (c_callG rfl (ok_law_take c KB G) hr rfl (He.glo_ok KB G (c.fact 5 rfl)) tk (a_cons (o_pk (pv 0)) (a_cons (o_ev c_int) a_nil))))
  (ks_cons (k_set (i := 3) sc.nd rfl (c_sub (o_ev (c_callG rfl (ok_law_take c KB G) hr rfl (He.glo_ok KB G (c.fact 5 rfl)) tk (a_cons (o_pk (pv 0)) (a_cons (o_ev c_int) a_nil)))) (o_ev c_int)))
  (ks_cons (k_if (b_cmpK (m_eq rfl hr.units) (o_ev (c_callG rfl (ok_law_take c KB G) hr rfl (He.glo_ok KB G (c.fact 5 rfl)) tk (a_cons (o_pk (pv 0)) (a_cons (o_ev c_int) a_nil)))) (o_ev c_int))
  (ks_one (k_set (i := 3) sc.nd rfl (c_callG rfl (ok_law_wide c KB G) hr rfl (He.glo_ok KB G (c.fact 6 rfl)) tk (a_cons (o_pk (pv 0)) a_nil))))
  ks_nil)
  (ks_cons (k_set (i := 4) sc.nd rfl (c_callG rfl (ok_law_rate c KB G) hr rfl (He.glo_ok KB G (c.fact 7 rfl)) tk (a_cons (o_pk (pv 0)) a_nil)))
  (ks_one (k_ret (c_add rfl (o_ev (c_add rfl (o_ev (c_slT rfl (o_pk (pv 4)) (o_pk (pv 2)))) (o_ev (c_tup (a_cons (o_ev (c_fz (pv 3))) a_nil))))) (o_ev (c_slF rfl (o_pk (pv 4)) (o_ev (c_add rfl (o_pk (pv 2)) (o_ev c_int))))))))))))
  ks_nil)
  (ks_cons (k_if (b_cmpK (m_eq rfl hr.units) (o_pk (pv 1)) (o_ev c_int))
  (ks_one (k_ret (c_tup (a_cons (o_ev (c_frz (c_callG rfl (ok_law_wide c KB G) hr rfl (He.glo_ok KB G (c.fact 6 rfl)) tk (a_cons (o_pk (pv 0)) a_nil)))) (a_cons (o_ev (c_frz (c_callG rfl (ok_law_wide c KB G) hr rfl (He.glo_ok KB G (c.fact 6 rfl)) tk (a_cons (o_pk (pv 0)) a_nil)))) (a_cons (o_ev (c_frz (c_callG rfl (ok_law_wide c KB G) hr rfl (He.glo_ok KB G (c.fact 6 rfl)) tk (a_cons (o_pk (pv 0)) a_nil)))) a_nil))))))
  ks_nil)
  (ks_one (k_ret (c_callG rfl (ok_law_rate c KB G) hr rfl (He.glo_ok KB G (c.fact 7 rfl)) tk (a_cons (o_pk (pv 0)) a_nil))))))))
theorem sc_law_beside : FnScope ["hand", "pace", "place"] ["hand", "pace"] (defScope D_law_beside) := ⟨rfl, rfl, rfl, by decide +kernel, rfl, by decide +kernel, by decide +kernel⟩
def B_law_beside : SS :=
  (sSeq (sAsg 2 (eCall S_law_take [(.pk 0), (.ev (eC (.int 3)))] []))
  (sSeq (sIf (bAnd (bOf (eApp (fEq false) [(.pk 2), (.ev (eC (.int 1)))])) (bOf (eApp fGt [(.ev (eApp fIx [(.pk 1), (.ev (eC (.int 2)))])), (.ev (eC (.int 1)))])))
  (sRet (eApp fTup [(.ev (eApp fIx [(.pk 1), (.ev (eC (.int 0)))])), (.ev (eFrz (eApp fAdd [(.ev (eC (.int 1))), (.ev (eApp fMod [(.ev (eApp fInt [(.ev (eApp fIx [(.pk 1), (.ev (eC (.int 1)))]))])), (.ev (eApp fIx [(.pk 1), (.ev (eC (.int 2)))]))]))]))), (.ev (eApp fIx [(.pk 1), (.ev (eC (.int 2)))]))]))
  sNx)
  (sSeq (sIf (bAnd (bOf (eApp (fEq false) [(.pk 2), (.ev (eC (.int 2)))])) (bOf (eApp fLt [(.ev (eApp fIx [(.pk 1), (.ev (eC (.int 2)))])), (.ev (eC (.int 6)))])))
  (sRet (eApp fTup [(.ev (eApp fIx [(.pk 1), (.ev (eC (.int 0)))])), (.ev (eApp fIx [(.pk 1), (.ev (eC (.int 1)))])), (.ev (eFrz (eApp fAdd [(.ev (eApp fIx [(.pk 1), (.ev (eC (.int 2)))])), (.ev (eC (.int 1)))])))]))
  sNx)
  (sSeq (sIf (bAnd (bOf (eApp (fEq false) [(.pk 2), (.ev (eC (.int 2)))])) (bOf (eApp fLt [(.ev (eApp fIx [(.pk 1), (.ev (eC (.int 1)))])), (.ev (eC (.int 6)))])))
  (sRet (eApp fTup [(.ev (eApp fIx [(.pk 1), (.ev (eC (.int 0)))])), (.ev (eApp fIx [(.pk 1), (.ev (eC (.int 1)))])), (.ev (eC (.int 5)))]))
  sNx)
  (sRet (eApp fTup [(.ev (eFrz (eApp fAdd [(.ev (eC (.int 1))), (.ev (eApp fMod [(.ev (eApp fInt [(.ev (eApp fIx [(.pk 1), (.ev (eC (.int 0)))]))])), (.ev (eC (.int 3)))]))]))), (.ev (eApp fIx [(.pk 1), (.ev (eC (.int 1)))])), (.ev (eApp fIx [(.pk 1), (.ev (eC (.int 2)))]))]))))))
def S_law_beside : FS := runF 3 [0, 1] B_law_beside
theorem ok_law_beside (c : Says K) (KB : K.In base) (G : base.Ns mainGlobals mg) : GFn Pg w K mg base 2 (gA K "_law_beside") ["hand", "pace"] 2 S_law_beside := by
  have sc := sc_law_beside
  refine gfn_of (c.def_ 6 rfl) sc_law_beside (fun fd F => F.bindsN fun _ _ _ _ _ _ us hl => match us, hl with | [_, _], _ => rfl) rfl rfl fun cdv A outer s H E hr => ?_
  have tk : Takes (cxOf (L2.CX Pg w) Pg w K mg base ["hand", "pace", "place"] "_law_beside" (defScope D_law_beside) (gA K "_law_beside") cdv A outer s H E) (fun cls d _ H => E cls d H) := takes_of rfl rfl rfl rfl
  have po : PassesOwn (model Pg w) (cxOf (L2.CX Pg w) Pg w K mg base ["hand", "pace", "place"] "_law_beside" (defScope D_law_beside) (gA K "_law_beside") cdv A outer s H E).A _ _ := passes_of rfl
  unfold B_law_beside
  exact (ks_cons (k_set (i := 2) sc.nd rfl (c_callG rfl (ok_law_take c KB G) hr rfl (He.glo_ok KB G (c.fact 5 rfl)) tk (a_cons (o_pk (pv 0)) (a_cons (o_ev c_int) a_nil))))
  (ks_cons (k_if (b_w (w_and (b_cmpK (m_eq rfl hr.units) (o_pk (pv 2)) (o_ev c_int)) (w_and1 (b_cmpK m_gt (o_ev (c_idx rfl (o_pk (pv 1)) (o_ev c_int))) (o_ev c_int)))))
  (ks_one (k_ret (c_tup (a_cons (o_ev (c_idx rfl (o_pk (pv 1)) (o_ev c_int))) (a_cons (o_ev (c_frz (c_add rfl (o_ev c_int) (o_ev (c_mod (o_ev (c_toInt rfl (He.free_ok KB G (c.fact 3 rfl)) (o_ev (c_idx rfl (o_pk (pv 1)) (o_ev c_int))))) (o_ev (c_idx rfl (o_pk (pv 1)) (o_ev c_int)))))))) (a_cons (o_ev (c_idx rfl (o_pk (pv 1)) (o_ev c_int))) a_nil))))))
  ks_nil)
  (ks_cons (k_if (b_w (w_and (b_cmpK (m_eq rfl hr.units) (o_pk (pv 2)) (o_ev c_int)) (w_and1 (b_cmpK m_lt (o_ev (c_idx rfl (o_pk (pv 1)) (o_ev c_int))) (o_ev c_int)))))
  (ks_one (k_ret (c_tup (a_cons (o_ev (c_idx rfl (o_pk (pv 1)) (o_ev c_int))) (a_cons (o_ev (c_idx rfl (o_pk (pv 1)) (o_ev c_int))) (a_cons (o_ev (c_frz (c_add rfl (o_ev (c_idx rfl (o_pk (pv 1)) (o_ev c_int))) (o_ev c_int)))) a_nil))))))
  ks_nil)
  (ks_cons (k_if (b_w (w_and (b_cmpK (m_eq rfl hr.units) (o_pk (pv 2)) (o_ev c_int)) (w_and1 (b_cmpK m_lt (o_ev (c_idx rfl (o_pk (pv 1)) (o_ev c_int))) (o_ev c_int)))))
  (ks_one (k_ret (c_tup (a_cons (o_ev (c_idx rfl (o_pk (pv 1)) (o_ev c_int))) (a_cons (o_ev (c_idx rfl (o_pk (pv 1)) (o_ev c_int))) (a_cons (o_ev c_int) a_nil))))))
  ks_nil)
  (ks_one (k_ret (c_tup (a_cons (o_ev (c_frz (c_add rfl (o_ev c_int) (o_ev (c_mod (o_ev (c_toInt rfl (He.free_ok KB G (c.fact 3 rfl)) (o_ev (c_idx rfl (o_pk (pv 1)) (o_ev c_int))))) (o_ev c_int)))))) (a_cons (o_ev (c_idx rfl (o_pk (pv 1)) (o_ev c_int))) (a_cons (o_ev (c_idx rfl (o_pk (pv 1)) (o_ev c_int))) a_nil))))))))))
theorem sc_law_wrong_part : FnScope ["pace"] ["pace"] (defScope D_law_wrong_part) := ⟨rfl, rfl, rfl, by decide +kernel, rfl, by decide +kernel, by decide +kernel⟩
def B_law_wrong_part : SS :=
  (sSeq (sIf (bOf (eApp (fIn true) [(.ev (eApp fIx [(.pk 0), (.ev (eC (.int 0)))])), (.ev (eApp fTup [(.ev (eC (.int 1))), (.ev (eC (.int 2))), (.ev (eC (.int 3)))]))]))
  (sRet (eC (.str "burst")))
  sNx)
  (sSeq (sIf (bOf (eApp (fIn true) [(.ev (eApp fIx [(.pk 0), (.ev (eC (.int 2)))])), (.ev (eApp fTup [(.ev (eC (.int 1))), (.ev (eC (.int 2))), (.ev (eC (.int 3))), (.ev (eC (.int 4))), (.ev (eC (.int 5))), (.ev (eC (.int 6)))]))]))
  (sRet (eC (.str "den")))
  sNx)
  (sSeq (sIf (bOr (bOf (eApp fLt [(.ev (eApp fIx [(.pk 0), (.ev (eC (.int 1)))])), (.ev (eC (.int 1)))])) (bOf (eApp fGt [(.ev (eApp fIx [(.pk 0), (.ev (eC (.int 1)))])), (.ev (eApp fIx [(.pk 0), (.ev (eC (.int 2)))]))])))
  (sRet (eC (.str "num")))
  sNx)
  (sRet (eC .non)))))
def S_law_wrong_part : FS := runF 1 [0] B_law_wrong_part
theorem ok_law_wrong_part (c : Says K) (KB : K.In base) (G : base.Ns mainGlobals mg) : GFn Pg w K mg base 1 (gA K "_law_wrong_part") ["pace"] 1 S_law_wrong_part := by
  have sc := sc_law_wrong_part
  refine gfn_of (c.def_ 7 rfl) sc_law_wrong_part (fun fd F => F.bindsN fun _ _ _ _ _ _ us hl => match us, hl with | [_], _ => rfl) rfl rfl fun cdv A outer s H E hr => ?_
  have tk : Takes (cxOf (L2.CX Pg w) Pg w K mg base ["pace"] "_law_wrong_part" (defScope D_law_wrong_part) (gA K "_law_wrong_part") cdv A outer s H E) (fun cls d _ H => E cls d H) := takes_of rfl rfl rfl rfl
  have po : PassesOwn (model Pg w) (cxOf (L2.CX Pg w) Pg w K mg base ["pace"] "_law_wrong_part" (defScope D_law_wrong_part) (gA K "_law_wrong_part") cdv A outer s H E).A _ _ := passes_of rfl
  unfold B_law_wrong_part
  exact (ks_cons (k_if (b_cmpK (m_notIn rfl) (o_ev (c_idx rfl (o_pk (pv 0)) (o_ev c_int))) (o_ev (c_tup (a_cons (o_ev c_int) (a_cons (o_ev c_int) (a_cons (o_ev c_int) a_nil))))))
  (ks_one (k_ret c_str))
  ks_nil)
  (ks_cons (k_if (b_cmpK (m_notIn rfl) (o_ev (c_idx rfl (o_pk (pv 0)) (o_ev c_int))) (o_ev (c_tup (a_cons (o_ev c_int) (a_cons (o_ev c_int) (a_cons (o_ev c_int) (a_cons (o_ev c_int) (a_cons (o_ev c_int) (a_cons (o_ev c_int) a_nil)))))))))
  (ks_one (k_ret c_str))
  ks_nil)
  (ks_cons (k_if (b_w (w_or (b_cmpK m_lt (o_ev (c_idx rfl (o_pk (pv 0)) (o_ev c_int))) (o_ev c_int)) (w_or1 (b_cmpK m_gt (o_ev (c_idx rfl (o_pk (pv 0)) (o_ev c_int))) (o_ev (c_idx rfl (o_pk (pv 0)) (o_ev c_int)))))))
  (ks_one (k_ret c_str))
  ks_nil)
  (ks_one (k_ret c_non)))))
theorem sc_law_is_int : FnScope ["got"] ["got"] (defScope D_law_is_int) := ⟨rfl, rfl, rfl, by decide +kernel, rfl, by decide +kernel, by decide +kernel⟩
def B_law_is_int : SS :=
  (sRet (eAnd (eApp (fIsi [(.b "NoneType", false), (.b "bool", true), (.b "int", true), (.b "str", false), (.b "tuple", false), (.b "list", false)]) [(.pk 0)]) (eNot (eApp (fIsi [(.b "NoneType", false), (.b "bool", true), (.b "int", false), (.b "str", false), (.b "tuple", false), (.b "list", false)]) [(.pk 0)]))))
def S_law_is_int : FS := runF 1 [0] B_law_is_int
theorem ok_law_is_int (c : Says K) (KB : K.In base) (G : base.Ns mainGlobals mg) : GFn Pg w K mg base 1 (gA K "_law_is_int") ["got"] 1 S_law_is_int := by
  have sc := sc_law_is_int
  refine gfn_of (c.def_ 8 rfl) sc_law_is_int (fun fd F => F.bindsN fun _ _ _ _ _ _ us hl => match us, hl with | [_], _ => rfl) rfl rfl fun cdv A outer s H E hr => ?_
  have tk : Takes (cxOf (L2.CX Pg w) Pg w K mg base ["got"] "_law_is_int" (defScope D_law_is_int) (gA K "_law_is_int") cdv A outer s H E) (fun cls d _ H => E cls d H) := takes_of rfl rfl rfl rfl
  have po : PassesOwn (model Pg w) (cxOf (L2.CX Pg w) Pg w K mg base ["got"] "_law_is_int" (defScope D_law_is_int) (gA K "_law_is_int") cdv A outer s H E).A _ _ := passes_of rfl
  unfold B_law_is_int
  exact (ks_one (k_ret (c_and (c_isi (cvv := .ty "int") (cv := .type "int") rfl (fIsK_ok (c.fact 11 rfl)) (fTyB_ok (c.fact 15 rfl)) rfl (He.free_ok KB G (c.fact 13 rfl)) (o_pk (pv 0)) (pe_bltn rfl (He.free_ok KB G (c.fact 3 rfl)) PyProof.Rows.Boot.«int» rfl) (.ty _)) (c_one (c_not (c_isi (cvv := .ty "bool") (cv := .type "bool") rfl (fIsK_ok (c.fact 11 rfl)) (fTyB_ok (c.fact 12 rfl)) rfl (He.free_ok KB G (c.fact 13 rfl)) (o_pk (pv 0)) (pe_bltn rfl (He.free_ok KB G (c.fact 14 rfl)) PyProof.Rows.Boot.«bool» rfl) (.ty _)))))))
theorem sc_law_same : FnScope ["got", "due", "k"] ["got", "due"] (defScope D_law_same) := ⟨rfl, rfl, rfl, by decide +kernel, rfl, by decide +kernel, by decide +kernel⟩
def B_law_same (self : FS) : SS :=
  (sSeq (sIf (bOf (eApp (fIsN false) [(.pk 1), (.ev (eC .non))]))
  (sRet (eApp (fIsN false) [(.pk 0), (.ev (eC .non))]))
  sNx)
  (sSeq (sIf (bOr (bOf (eApp (fIsB false) [(.pk 1), (.ev (eC (.bl true)))])) (bOf (eApp (fIsB false) [(.pk 1), (.ev (eC (.bl false)))])))
  (sRet (eAnd (eApp (fIsi [(.b "NoneType", false), (.b "bool", true), (.b "int", false), (.b "str", false), (.b "tuple", false), (.b "list", false)]) [(.pk 0)]) (eApp (fEq false) [(.pk 0), (.pk 1)])))
  sNx)
  (sSeq (sIf (bOf (eApp (fIsi [(.b "NoneType", false), (.b "bool", true), (.b "int", true), (.b "str", false), (.b "tuple", false), (.b "list", false)]) [(.pk 1)]))
  (sRet (eAnd (eCall S_law_is_int [(.pk 0)] []) (eApp (fEq false) [(.pk 0), (.pk 1)])))
  sNx)
  (sSeq (sIf (bOf (eApp (fIsi [(.b "NoneType", false), (.b "bool", false), (.b "int", false), (.b "str", true), (.b "tuple", false), (.b "list", false)]) [(.pk 1)]))
  (sRet (eAnd (eApp (fIsi [(.b "NoneType", false), (.b "bool", false), (.b "int", false), (.b "str", true), (.b "tuple", false), (.b "list", false)]) [(.pk 0)]) (eApp (fEq false) [(.pk 0), (.pk 1)])))
  sNx)
  (sSeq (sIf (bAnd (bOf (eApp (fIsi [(.b "NoneType", false), (.b "bool", false), (.b "int", false), (.b "str", false), (.b "tuple", true), (.b "list", false)]) [(.pk 1)])) (bNot (bOf (eApp (fIsi [(.b "NoneType", false), (.b "bool", false), (.b "int", false), (.b "str", false), (.b "tuple", true), (.b "list", false)]) [(.pk 0)]))))
  (sRet (eC (.bl false)))
  sNx)
  (sSeq (sIf (bAnd (bOf (eApp (fIsi [(.b "NoneType", false), (.b "bool", false), (.b "int", false), (.b "str", false), (.b "tuple", false), (.b "list", true)]) [(.pk 1)])) (bNot (bOf (eApp (fIsi [(.b "NoneType", false), (.b "bool", false), (.b "int", false), (.b "str", false), (.b "tuple", false), (.b "list", true)]) [(.pk 0)]))))
  (sRet (eC (.bl false)))
  sNx)
  (sSeq (sIf (bOf (eApp (fEq true) [(.ev (eApp fLen [(.pk 0)])), (.ev (eApp fLen [(.pk 1)]))]))
  (sRet (eC (.bl false)))
  sNx)
  (sSeq (sFor (iApp kRange1 [(.ev (eApp fLen [(.pk 1)]))]) (setN 2)
  (sIf (bNot (bOf (eCall (self) [(.ev (eApp fIx [(.pk 0), (.pk 2)])), (.ev (eApp fIx [(.pk 1), (.pk 2)]))] [])))
  (sRet (eC (.bl false)))
  sNx))
  (sRet (eC (.bl true)))))))))))
def S_law_same : Nat → FS
  | 0 => fun _ => .stuck
  | d + 1 => runF 3 [0, 1] (B_law_same (S_law_same d))
theorem ok_law_same (c : Says K) (KB : K.In base) (G : base.Ns mainGlobals mg) : ∀ d : Nat, GFn Pg w K mg base (2 + d) (gA K "_law_same") ["got", "due"] 2 (S_law_same d)
  | 0 => gfn_stuck (ps := ["got", "due"]) (c.def_ 9 rfl) (fun fd F => F.bindsN fun _ _ _ _ _ _ us hl => match us, hl with | [_, _], _ => rfl) rfl
  | d + 1 => by
    have ih := ok_law_same c KB G d
    have sc := sc_law_same
    refine gfn_of (k := 2 + d) (c.def_ 9 rfl) sc_law_same (fun fd F => F.bindsN fun _ _ _ _ _ _ us hl => match us, hl with | [_, _], _ => rfl) rfl rfl fun cdv A outer s H E hr => ?_
    have tk : Takes (cxOf (L2.CX Pg w) Pg w K mg base ["got", "due", "k"] "_law_same" (defScope D_law_same) (gA K "_law_same") cdv A outer s H E) (fun cls d _ H => E cls d H) := takes_of rfl rfl rfl rfl
    have po : PassesOwn (model Pg w) (cxOf (L2.CX Pg w) Pg w K mg base ["got", "due", "k"] "_law_same" (defScope D_law_same) (gA K "_law_same") cdv A outer s H E).A _ _ := passes_of rfl
    show PSs _ _ (tsOf _ _ (B_law_same (S_law_same d)))
    unfold B_law_same
    exact (ks_cons (k_if (b_cmpK m_isN (o_pk (pv 1)) (o_ev c_non))
  (ks_one (k_ret (c_cmpK m_isN (o_pk (pv 0)) (o_ev c_non))))
  ks_nil)
  (ks_cons (k_if (b_w (w_or (b_cmpK m_isB (o_pk (pv 1)) (o_ev c_bl)) (w_or1 (b_cmpK m_isB (o_pk (pv 1)) (o_ev c_bl)))))
  (ks_one (k_ret (c_and (c_isi (cvv := .ty "bool") (cv := .type "bool") rfl (fIsK_ok (c.fact 11 rfl)) (fTyB_ok (c.fact 12 rfl)) rfl (He.free_ok KB G (c.fact 13 rfl)) (o_pk (pv 0)) (pe_bltn rfl (He.free_ok KB G (c.fact 14 rfl)) PyProof.Rows.Boot.«bool» rfl) (.ty _)) (c_one (c_cmpK (m_eq rfl hr.units) (o_pk (pv 0)) (o_pk (pv 1)))))))
  ks_nil)
  (ks_cons (k_if (b_val (c_isi (cvv := .ty "int") (cv := .type "int") rfl (fIsK_ok (c.fact 11 rfl)) (fTyB_ok (c.fact 15 rfl)) rfl (He.free_ok KB G (c.fact 13 rfl)) (o_pk (pv 1)) (pe_bltn rfl (He.free_ok KB G (c.fact 3 rfl)) PyProof.Rows.Boot.«int» rfl) (.ty _)))
  (ks_one (k_ret (c_and (c_callG rfl (ok_law_is_int c KB G) hr rfl (He.glo_ok KB G (c.fact 16 rfl)) tk (a_cons (o_pk (pv 0)) a_nil) (by omega)) (c_one (c_cmpK (m_eq rfl hr.units) (o_pk (pv 0)) (o_pk (pv 1)))))))
  ks_nil)
  (ks_cons (k_if (b_val (c_isi (cvv := .ty "str") (cv := .type "str") rfl (fIsK_ok (c.fact 11 rfl)) (fTyB_ok (c.fact 17 rfl)) rfl (He.free_ok KB G (c.fact 13 rfl)) (o_pk (pv 1)) (pe_bltn rfl (He.free_ok KB G (c.fact 18 rfl)) PyProof.Rows.Boot.«str» rfl) (.ty _)))
  (ks_one (k_ret (c_and (c_isi (cvv := .ty "str") (cv := .type "str") rfl (fIsK_ok (c.fact 11 rfl)) (fTyB_ok (c.fact 17 rfl)) rfl (He.free_ok KB G (c.fact 13 rfl)) (o_pk (pv 0)) (pe_bltn rfl (He.free_ok KB G (c.fact 18 rfl)) PyProof.Rows.Boot.«str» rfl) (.ty _)) (c_one (c_cmpK (m_eq rfl hr.units) (o_pk (pv 0)) (o_pk (pv 1)))))))
  ks_nil)
  (ks_cons (k_if (b_w (w_and (b_val (c_isi (cvv := .ty "tuple") (cv := .type "tuple") rfl (fIsK_ok (c.fact 11 rfl)) (fTyB_ok (c.fact 19 rfl)) rfl (He.free_ok KB G (c.fact 13 rfl)) (o_pk (pv 1)) (pe_bltn rfl (He.free_ok KB G (c.fact 20 rfl)) PyProof.Rows.Boot.«tuple» rfl) (.ty _))) (w_and1 (b_not (b_val (c_isi (cvv := .ty "tuple") (cv := .type "tuple") rfl (fIsK_ok (c.fact 11 rfl)) (fTyB_ok (c.fact 19 rfl)) rfl (He.free_ok KB G (c.fact 13 rfl)) (o_pk (pv 0)) (pe_bltn rfl (He.free_ok KB G (c.fact 20 rfl)) PyProof.Rows.Boot.«tuple» rfl) (.ty _)))))))
  (ks_one (k_ret c_bl))
  ks_nil)
  (ks_cons (k_if (b_w (w_and (b_val (c_isi (cvv := .ty "list") (cv := .type "list") rfl (fIsK_ok (c.fact 11 rfl)) (fTyB_ok (c.fact 21 rfl)) rfl (He.free_ok KB G (c.fact 13 rfl)) (o_pk (pv 1)) (pe_bltn rfl (He.free_ok KB G (c.fact 22 rfl)) PyProof.Rows.Boot.«list» rfl) (.ty _))) (w_and1 (b_not (b_val (c_isi (cvv := .ty "list") (cv := .type "list") rfl (fIsK_ok (c.fact 11 rfl)) (fTyB_ok (c.fact 21 rfl)) rfl (He.free_ok KB G (c.fact 13 rfl)) (o_pk (pv 0)) (pe_bltn rfl (He.free_ok KB G (c.fact 22 rfl)) PyProof.Rows.Boot.«list» rfl) (.ty _)))))))
  (ks_one (k_ret c_bl))
  ks_nil)
  (ks_cons (k_if (b_cmpK (m_ne rfl hr.units) (o_ev (c_len rfl rfl (He.free_ok KB G (c.fact 0 rfl)) (o_pk (pv 0)))) (o_ev (c_len rfl rfl (He.free_ok KB G (c.fact 0 rfl)) (o_pk (pv 1)))))
  (ks_one (k_ret c_bl))
  ks_nil)
  (ks_cons (k_for po rfl (i_range1 rfl (He.free_ok KB G (c.fact 23 rfl)) (o_ev (c_len rfl rfl (He.free_ok KB G (c.fact 0 rfl)) (o_pk (pv 1))))) (pg_name (i := 2) sc.nd rfl (Or.inl rfl)) cg_name setN_ok
  (ks_one (k_if (b_not (b_val (c_callG rfl ih hr rfl (He.glo_ok KB G (c.fact 24 rfl)) tk (a_cons (o_ev (c_idx rfl (o_pk (pv 0)) (o_pk (pv 2)))) (a_cons (o_ev (c_idx rfl (o_pk (pv 1)) (o_pk (pv 2)))) a_nil)) (Nat.le_refl _))))
  (ks_one (k_ret c_bl))
  ks_nil)))
  (ks_one (k_ret c_bl))))))))))
theorem sc_Rate_init : FnScope ["self", "burst", "num", "den"] ["self", "burst", "num", "den"] (defScope D_Rate_init) := ⟨rfl, rfl, rfl, by decide +kernel, rfl, by decide +kernel, by decide +kernel⟩
def B_Rate_init : SS :=
  (sSeq (sIf (bNot (bOf (eChain fLe fLe (.ev (eC (.int 1))) (.pk 1) (.ev (eC (.int 3))))))
  (sRaise "BadRate" [.par 1, .lit " of the rate is wrong"] [("part", 1)] [(.ev (eC (.str "burst")))])
  sNx)
  (sSeq (sIf (bNot (bOf (eChain fLe fLe (.ev (eC (.int 1))) (.pk 3) (.ev (eC (.int 6))))))
  (sRaise "BadRate" [.par 1, .lit " of the rate is wrong"] [("part", 1)] [(.ev (eC (.str "den")))])
  sNx)
  (sSeq (sIf (bNot (bOf (eChain fLe fLe (.ev (eC (.int 1))) (.pk 2) (.pk 3))))
  (sRaise "BadRate" [.par 1, .lit " of the rate is wrong"] [("part", 1)] [(.ev (eC (.str "num")))])
  sNx)
  (sSeq (sFldI 0 "Rate" "burst" (eFz 1))
  (sSeq (sFldI 0 "Rate" "num" (eFz 2))
  (sFldI 0 "Rate" "den" (eFz 3)))))))
def S_Rate_init : FS := runF 4 [0, 1, 2, 3] B_Rate_init
theorem ok_Rate_init (c : Says K) (KB : K.In base) (G : base.Ns mainGlobals mg) : GFn Pg w K mg base 3 (mA K (gA K "Rate") "__init__") ["self", "burst", "num", "den"] 4 S_Rate_init := by
  have sc := sc_Rate_init
  refine gfn_of (c.def_ 10 rfl) sc_Rate_init (fun fd F => F.bindsN fun _ _ _ _ _ _ us hl => match us, hl with | [_, _, _, _], _ => rfl) rfl rfl fun cdv A outer s H E hr => ?_
  have tk : Takes (cxOf (L2.CX Pg w) Pg w K mg base ["self", "burst", "num", "den"] "Rate.__init__" (defScope D_Rate_init) (mA K (gA K "Rate") "__init__") cdv A outer s H E) (fun cls d _ H => E cls d H) := takes_of rfl rfl rfl rfl
  have po : PassesOwn (model Pg w) (cxOf (L2.CX Pg w) Pg w K mg base ["self", "burst", "num", "den"] "Rate.__init__" (defScope D_Rate_init) (mA K (gA K "Rate") "__init__") cdv A outer s H E).A _ _ := passes_of rfl
  unfold B_Rate_init
  exact (ks_cons (k_if (b_not (b_chain m_le m_le (o_ev c_int) (o_pk (pv 1)) (o_ev (c_gint rfl (He.int_ok KB G (c.fact 25 rfl))))))
  (ks_one (k_raiseG (cn := "BadRate") rfl (okx_BadRate c KB G) hr rfl (He.glo_ok KB G (c.fact 29 rfl)) rfl tk (a_cons (o_ev c_str) a_nil)))
  ks_nil)
  (ks_cons (k_if (b_not (b_chain m_le m_le (o_ev c_int) (o_pk (pv 3)) (o_ev (c_gint rfl (He.int_ok KB G (c.fact 30 rfl))))))
  (ks_one (k_raiseG (cn := "BadRate") rfl (okx_BadRate c KB G) hr rfl (He.glo_ok KB G (c.fact 29 rfl)) rfl tk (a_cons (o_ev c_str) a_nil)))
  ks_nil)
  (ks_cons (k_if (b_not (b_chain m_le m_le (o_ev c_int) (o_pk (pv 2)) (o_pk (pv 3))))
  (ks_one (k_raiseG (cn := "BadRate") rfl (okx_BadRate c KB G) hr rfl (He.glo_ok KB G (c.fact 29 rfl)) rfl tk (a_cons (o_ev c_str) a_nil)))
  ks_nil)
  (ks_cons (k_fld (cn := "Rate") rfl (fCls_cls (c.fact 31 rfl)) (fFld_ok (c.fact 32 rfl) "Rate" (by simp)).2 (c_fz (pv 1)) (pv 0))
  (ks_cons (k_fld (cn := "Rate") rfl (fCls_cls (c.fact 31 rfl)) (fFld_ok (c.fact 33 rfl) "Rate" (by simp)).2 (c_fz (pv 2)) (pv 0))
  (ks_one (k_fld (cn := "Rate") rfl (fCls_cls (c.fact 31 rfl)) (fFld_ok (c.fact 34 rfl) "Rate" (by simp)).2 (c_fz (pv 3)) (pv 0))))))))
theorem sc_law_refused : FnScope ["pace", "told", "e"] ["pace"] (defScope D_law_refused) := ⟨rfl, rfl, rfl, by decide +kernel, rfl, by decide +kernel, by decide +kernel⟩
def B_law_refused : SS :=
  (sSeq (sAsg 1 (eApp fTup [(.ev (eC (.str "made"))), (.ev (eC (.str ""))), (.ev (eC (.bl false))), (.ev (eC (.bl false))), (.ev (eC (.bl false)))]))
  (sSeq (sTry 3 (sExpr (eMake "Rate" S_Rate_init [(.ev (eApp fIx [(.pk 0), (.ev (eC (.int 0)))])), (.ev (eApp fIx [(.pk 0), (.ev (eC (.int 1)))])), (.ev (eApp fIx [(.pk 0), (.ev (eC (.int 2)))]))] []))
  [⟨[("BadRate", true), ("BadNumber", false), ("BadCredit", false), ("NoCredit", false)], (some 2), (sAsg 1 (eApp fTup [(.ev (eC (.str "refused"))), (.ev (eXf 3 ["BadRate"] "part")), (.ev (eFrz (eXis 3 [("BadRate", true), ("BadNumber", true), ("BadCredit", true), ("NoCredit", true)]))), (.ev (eFrz (eXis 3 [("BadRate", true), ("BadNumber", true), ("BadCredit", true), ("NoCredit", true)]))), (.ev (eFrz (eXis 3 [("BadRate", false), ("BadNumber", false), ("BadCredit", true), ("NoCredit", false)])))]))⟩])
  (sRet (eMv 1))))
def S_law_refused : FS := runF 3 [0] B_law_refused
theorem ok_law_refused (c : Says K) (KB : K.In base) (G : base.Ns mainGlobals mg) : GFn Pg w K mg base 5 (gA K "_law_refused") ["pace"] 1 S_law_refused := by
  have sc := sc_law_refused
  refine gfn_of (c.def_ 11 rfl) sc_law_refused (fun fd F => F.bindsN fun _ _ _ _ _ _ us hl => match us, hl with | [_], _ => rfl) rfl rfl fun cdv A outer s H E hr => ?_
  have tk : Takes (cxOf (L2.CX Pg w) Pg w K mg base ["pace", "told", "e"] "_law_refused" (defScope D_law_refused) (gA K "_law_refused") cdv A outer s H E) (fun cls d _ H => E cls d H) := takes_of rfl rfl rfl rfl
  have po : PassesOwn (model Pg w) (cxOf (L2.CX Pg w) Pg w K mg base ["pace", "told", "e"] "_law_refused" (defScope D_law_refused) (gA K "_law_refused") cdv A outer s H E).A _ _ := passes_of rfl
  unfold B_law_refused
  exact (ks_cons (k_set (i := 1) sc.nd rfl (c_tup (a_cons (o_ev c_str) (a_cons (o_ev c_str) (a_cons (o_ev c_bl) (a_cons (o_ev c_bl) (a_cons (o_ev c_bl) a_nil)))))))
  (ks_cons (k_try rfl rfl sc.nd tk (fun W pn xe tk2 po2 =>
  (ks_one (k_expr (c_makeG (cn := "Rate") rfl (ok_Rate_init c KB G) hr (He.mkr_ok (c.fact 35 rfl)) rfl (He.glo_ok KB G (c.fact 36 rfl)) tk2 (a_cons (o_ev (c_idx rfl (o_pk (pv 0)) (o_ev c_int))) (a_cons (o_ev (c_idx rfl (o_pk (pv 0)) (o_ev c_int))) (a_cons (o_ev (c_idx rfl (o_pk (pv 0)) (o_ev c_int))) a_nil)))))))
  (.cons (fTab_ok (c.fact 44 rfl)) (fun _ h => by cases h; decide) .nil)
  (.as ⟨rfl, by decide, .inl (He.glo_ok KB G (c.fact 29 rfl))⟩ (by rfl) rfl (fun a oe cls d pn hz hf => su_of fun cc hc =>
  (ks_one (k_set (i := 1) sc.nd rfl (c_tup (a_cons (o_ev c_str) (a_cons (o_ev (c_xf (cs := ["BadRate"]) (fXf_ok (c.fact 37 rfl)) hc hz hf (pv 2))) (a_cons (o_ev (c_frz (c_xis (cvv := .ref (gA K "LightsError")) (cv := .ref (gA K "LightsError")) (fXisC_ok (c.fact 38 rfl)) hc hz hf (pv 2) (pe_glob rfl (He.glo_ok KB G (c.fact 39 rfl)) rfl) (fun u h => h) rfl (He.free_ok KB G (c.fact 13 rfl))))) (a_cons (o_ev (c_frz (c_xis (cvv := .ty "ValueError") (cv := .type "ValueError") (fXisB_ok (c.fact 40 rfl)) hc hz hf (pv 2) (pe_bltn rfl (He.free_ok KB G (c.fact 41 rfl)) PyProof.Rows.Boot.«ValueError» rfl) (fun u h => h) rfl (He.free_ok KB G (c.fact 13 rfl))))) (a_cons (o_ev (c_frz (c_xis (cvv := .ref (gA K "BadCredit")) (cv := .ref (gA K "BadCredit")) (fXisC_ok (c.fact 42 rfl)) hc hz hf (pv 2) (pe_glob rfl (He.glo_ok KB G (c.fact 43 rfl)) rfl) (fun u h => h) rfl (He.free_ok KB G (c.fact 13 rfl))))) a_nil))))))))) .nil))
  (ks_one (k_ret (c_mv (pv 1))))))
theorem sc_law_by_base : FnScope ["pace", "told", "e"] ["pace"] (defScope D_law_by_base) := ⟨rfl, rfl, rfl, by decide +kernel, rfl, by decide +kernel, by decide +kernel⟩
def B_law_by_base : SS :=
  (sSeq (sAsg 1 (eApp fTup [(.ev (eC (.bl false))), (.ev (eC (.bl false))), (.ev (eC (.bl false)))]))
  (sSeq (sTry 3 (sExpr (eMake "Rate" S_Rate_init [(.ev (eApp fIx [(.pk 0), (.ev (eC (.int 0)))])), (.ev (eApp fIx [(.pk 0), (.ev (eC (.int 1)))])), (.ev (eApp fIx [(.pk 0), (.ev (eC (.int 2)))]))] []))
  [⟨[("BadRate", true), ("BadNumber", true), ("BadCredit", true), ("NoCredit", true)], (some 2), (sAsg 1 (eApp fTup [(.ev (eFrz (eXis 3 [("BadRate", true), ("BadNumber", false), ("BadCredit", false), ("NoCredit", false)]))), (.ev (eFrz (eXis 3 [("BadRate", true), ("BadNumber", true), ("BadCredit", true), ("NoCredit", true)]))), (.ev (eFrz (eXis 3 [("BadRate", false), ("BadNumber", false), ("BadCredit", false), ("NoCredit", true)])))]))⟩])
  (sRet (eMv 1))))
def S_law_by_base : FS := runF 3 [0] B_law_by_base
theorem ok_law_by_base (c : Says K) (KB : K.In base) (G : base.Ns mainGlobals mg) : GFn Pg w K mg base 5 (gA K "_law_by_base") ["pace"] 1 S_law_by_base := by
  have sc := sc_law_by_base
  refine gfn_of (c.def_ 12 rfl) sc_law_by_base (fun fd F => F.bindsN fun _ _ _ _ _ _ us hl => match us, hl with | [_], _ => rfl) rfl rfl fun cdv A outer s H E hr => ?_
  have tk : Takes (cxOf (L2.CX Pg w) Pg w K mg base ["pace", "told", "e"] "_law_by_base" (defScope D_law_by_base) (gA K "_law_by_base") cdv A outer s H E) (fun cls d _ H => E cls d H) := takes_of rfl rfl rfl rfl
  have po : PassesOwn (model Pg w) (cxOf (L2.CX Pg w) Pg w K mg base ["pace", "told", "e"] "_law_by_base" (defScope D_law_by_base) (gA K "_law_by_base") cdv A outer s H E).A _ _ := passes_of rfl
  unfold B_law_by_base
  exact (ks_cons (k_set (i := 1) sc.nd rfl (c_tup (a_cons (o_ev c_bl) (a_cons (o_ev c_bl) (a_cons (o_ev c_bl) a_nil)))))
  (ks_cons (k_try rfl rfl sc.nd tk (fun W pn xe tk2 po2 =>
  (ks_one (k_expr (c_makeG (cn := "Rate") rfl (ok_Rate_init c KB G) hr (He.mkr_ok (c.fact 35 rfl)) rfl (He.glo_ok KB G (c.fact 36 rfl)) tk2 (a_cons (o_ev (c_idx rfl (o_pk (pv 0)) (o_ev c_int))) (a_cons (o_ev (c_idx rfl (o_pk (pv 0)) (o_ev c_int))) (a_cons (o_ev (c_idx rfl (o_pk (pv 0)) (o_ev c_int))) a_nil)))))))
  (.cons (fTab_ok (c.fact 49 rfl)) (fun _ h => by cases h; decide) .nil)
  (.as ⟨rfl, by decide, .inl (He.glo_ok KB G (c.fact 39 rfl))⟩ (by rfl) rfl (fun a oe cls d pn hz hf => su_of fun cc hc =>
  (ks_one (k_set (i := 1) sc.nd rfl (c_tup (a_cons (o_ev (c_frz (c_xis (cvv := .ref (gA K "BadRate")) (cv := .ref (gA K "BadRate")) (fXisC_ok (c.fact 46 rfl)) hc hz hf (pv 2) (pe_glob rfl (He.glo_ok KB G (c.fact 29 rfl)) rfl) (fun u h => h) rfl (He.free_ok KB G (c.fact 13 rfl))))) (a_cons (o_ev (c_frz (c_xis (cvv := .ty "ValueError") (cv := .type "ValueError") (fXisB_ok (c.fact 40 rfl)) hc hz hf (pv 2) (pe_bltn rfl (He.free_ok KB G (c.fact 41 rfl)) PyProof.Rows.Boot.«ValueError» rfl) (fun u h => h) rfl (He.free_ok KB G (c.fact 13 rfl))))) (a_cons (o_ev (c_frz (c_xis (cvv := .ref (gA K "NoCredit")) (cv := .ref (gA K "NoCredit")) (fXisC_ok (c.fact 47 rfl)) hc hz hf (pv 2) (pe_glob rfl (He.glo_ok KB G (c.fact 48 rfl)) rfl) (fun u h => h) rfl (He.free_ok KB G (c.fact 13 rfl))))) a_nil))))))) .nil))
  (ks_one (k_ret (c_mv (pv 1))))))
theorem sc_Rate_full : FnScope ["self"] ["self"] (defScope D_Rate_full) := ⟨rfl, rfl, rfl, by decide +kernel, rfl, by decide +kernel, by decide +kernel⟩
def B_Rate_full : SS :=
  (sRet (eApp fSub [(.ev (eApp fAdd [(.ev (eApp fMul [(.ev (eApp (fldOf ["Rate"] "burst") [(.pk 0)])), (.ev (eApp (fldOf ["Rate"] "den") [(.pk 0)]))])), (.ev (eApp (fldOf ["Rate"] "num") [(.pk 0)]))])), (.ev (eC (.int 1)))]))
def S_Rate_full : FS := runF 1 [0] B_Rate_full
theorem ok_Rate_full (c : Says K) (KB : K.In base) (G : base.Ns mainGlobals mg) : GFn Pg w K mg base 1 (pA K (gA K "Rate") "full") ["self"] 1 S_Rate_full := by
  have sc := sc_Rate_full
  refine gfn_of (c.def_ 13 rfl) sc_Rate_full (fun fd F => F.bindsN fun _ _ _ _ _ _ us hl => match us, hl with | [_], _ => rfl) rfl rfl fun cdv A outer s H E hr => ?_
  have tk : Takes (cxOf (L2.CX Pg w) Pg w K mg base ["self"] "Rate.full" (defScope D_Rate_full) (pA K (gA K "Rate") "full") cdv A outer s H E) (fun cls d _ H => E cls d H) := takes_of rfl rfl rfl rfl
  have po : PassesOwn (model Pg w) (cxOf (L2.CX Pg w) Pg w K mg base ["self"] "Rate.full" (defScope D_Rate_full) (pA K (gA K "Rate") "full") cdv A outer s H E).A _ _ := passes_of rfl
  unfold B_Rate_full
  exact (ks_one (k_ret (c_sub (o_ev (c_add rfl (o_ev (c_mul (o_ev (c_fld (fFld_ok (c.fact 32 rfl)) (o_pk (pv 0)))) (o_ev (c_fld (fFld_ok (c.fact 34 rfl)) (o_pk (pv 0)))))) (o_ev (c_fld (fFld_ok (c.fact 33 rfl)) (o_pk (pv 0)))))) (o_ev c_int))))
theorem sc_Rate_after : FnScope ["self", "credit", "came"] ["self", "credit", "came"] (defScope D_Rate_after) := ⟨rfl, rfl, rfl, by decide +kernel, rfl, by decide +kernel, by decide +kernel⟩
def B_Rate_after : SS :=
  (sSeq (sIf (bNot (bOf (eChain fLe fLe (.ev (eC (.int 0))) (.pk 1) (.ev (eProp "Rate" S_Rate_full (.pk 0))))))
  (sRaise "BadCredit" [.lit "the credit ", .par 1, .lit " is out of range"] [("credit", 1)] [(.ev (eFz 1))])
  sNx)
  (sSeq (sIf (bAnd (bOf (eApp (fEq false) [(.pk 2), (.ev (eC (.int 1)))])) (bOf (eApp fLt [(.pk 1), (.ev (eApp (fldOf ["Rate"] "den") [(.pk 0)]))])))
  (sRaise "NoCredit" [.lit "the credit ", .par 1, .lit " is too small"] [("credit", 1)] [(.ev (eFz 1))])
  sNx)
  (sRet (eApp fMin [(.ev (eProp "Rate" S_Rate_full (.pk 0))), (.ev (eApp fAdd [(.ev (eApp fSub [(.pk 1), (.ev (eApp fMul [(.pk 2), (.ev (eApp (fldOf ["Rate"] "den") [(.pk 0)]))]))])), (.ev (eApp (fldOf ["Rate"] "num") [(.pk 0)]))]))]))))
def S_Rate_after : FS := runF 3 [0, 1, 2] B_Rate_after
theorem ok_Rate_after (c : Says K) (KB : K.In base) (G : base.Ns mainGlobals mg) : GFn Pg w K mg base 3 (mA K (gA K "Rate") "after") ["self", "credit", "came"] 3 S_Rate_after := by
  have sc := sc_Rate_after
  refine gfn_of (c.def_ 14 rfl) sc_Rate_after (fun fd F => F.bindsN fun _ _ _ _ _ _ us hl => match us, hl with | [_, _, _], _ => rfl) rfl rfl fun cdv A outer s H E hr => ?_
  have tk : Takes (cxOf (L2.CX Pg w) Pg w K mg base ["self", "credit", "came"] "Rate.after" (defScope D_Rate_after) (mA K (gA K "Rate") "after") cdv A outer s H E) (fun cls d _ H => E cls d H) := takes_of rfl rfl rfl rfl
  have po : PassesOwn (model Pg w) (cxOf (L2.CX Pg w) Pg w K mg base ["self", "credit", "came"] "Rate.after" (defScope D_Rate_after) (mA K (gA K "Rate") "after") cdv A outer s H E).A _ _ := passes_of rfl
  unfold B_Rate_after
  exact (ks_cons (k_if (b_not (b_chain m_le m_le (o_ev c_int) (o_pk (pv 1)) (o_ev (c_propG (cn := "Rate") rfl (ok_Rate_full c KB G) hr (fCls_cls (c.fact 31 rfl)) (fProp_ok (c.fact 51 rfl)) (o_pk (pv 0))))))
  (ks_one (k_raiseG (cn := "BadCredit") rfl (okx_BadCredit c KB G) hr rfl (He.glo_ok KB G (c.fact 43 rfl)) rfl tk (a_cons (o_ev (c_fz (pv 1))) a_nil)))
  ks_nil)
  (ks_cons (k_if (b_w (w_and (b_cmpK (m_eq rfl hr.units) (o_pk (pv 2)) (o_ev c_int)) (w_and1 (b_cmpK m_lt (o_pk (pv 1)) (o_ev (c_fld (fFld_ok (c.fact 34 rfl)) (o_pk (pv 0))))))))
  (ks_one (k_raiseG (cn := "NoCredit") rfl (okx_NoCredit c KB G) hr rfl (He.glo_ok KB G (c.fact 48 rfl)) rfl tk (a_cons (o_ev (c_fz (pv 1))) a_nil)))
  ks_nil)
  (ks_one (k_ret (c_min rfl rfl (He.free_ok KB G (c.fact 54 rfl)) (o_ev (c_propG (cn := "Rate") rfl (ok_Rate_full c KB G) hr (fCls_cls (c.fact 31 rfl)) (fProp_ok (c.fact 51 rfl)) (o_pk (pv 0)))) (o_ev (c_add rfl (o_ev (c_sub (o_pk (pv 1)) (o_ev (c_mul (o_pk (pv 2)) (o_ev (c_fld (fFld_ok (c.fact 34 rfl)) (o_pk (pv 0)))))))) (o_ev (c_fld (fFld_ok (c.fact 33 rfl)) (o_pk (pv 0)))))))))))
theorem sc_law_asked : FnScope ["one", "credit", "came", "told", "e", "kinds"] ["one", "credit", "came"] (defScope D_law_asked) := ⟨rfl, rfl, rfl, by decide +kernel, rfl, by decide +kernel, by decide +kernel⟩
def B_law_asked : SS :=
  (sSeq (sTry 6 (sAsg 3 (eApp fTup [(.ev (eC (.str "told"))), (.ev (eFrz (eMeth "Rate" "after" S_Rate_after (.pk 0) [(.pk 1), (.pk 2)] [])))]))
  [⟨[("BadRate", false), ("BadNumber", false), ("BadCredit", true), ("NoCredit", false)], (some 4), (sSeq (sAsg 5 (eApp fTup [(.ev (eFrz (eXis 6 [("BadRate", true), ("BadNumber", true), ("BadCredit", true), ("NoCredit", true)]))), (.ev (eFrz (eXis 6 [("BadRate", true), ("BadNumber", true), ("BadCredit", true), ("NoCredit", true)]))), (.ev (eFrz (eXis 6 [("BadRate", false), ("BadNumber", false), ("BadCredit", false), ("NoCredit", true)])))]))
  (sAsg 3 (eApp fAdd [(.ev (eApp fTup [(.ev (eC (.str "refused"))), (.ev (eC (.str "BadCredit"))), (.ev (eXf 6 ["BadCredit", "NoCredit"] "credit"))])), (.pk 5)])))⟩, ⟨[("BadRate", false), ("BadNumber", false), ("BadCredit", false), ("NoCredit", true)], (some 4), (sSeq (sAsg 5 (eApp fTup [(.ev (eFrz (eXis 6 [("BadRate", true), ("BadNumber", true), ("BadCredit", true), ("NoCredit", true)]))), (.ev (eFrz (eXis 6 [("BadRate", true), ("BadNumber", true), ("BadCredit", true), ("NoCredit", true)]))), (.ev (eFrz (eXis 6 [("BadRate", false), ("BadNumber", false), ("BadCredit", true), ("NoCredit", false)])))]))
  (sAsg 3 (eApp fAdd [(.ev (eApp fTup [(.ev (eC (.str "refused"))), (.ev (eC (.str "NoCredit"))), (.ev (eXf 6 ["BadCredit", "NoCredit"] "credit"))])), (.pk 5)])))⟩])
  (sRet (eMv 3)))
def S_law_asked : FS := runF 6 [0, 1, 2] B_law_asked
theorem ok_law_asked (c : Says K) (KB : K.In base) (G : base.Ns mainGlobals mg) : GFn Pg w K mg base 4 (gA K "_law_asked") ["one", "credit", "came"] 3 S_law_asked := by
  have sc := sc_law_asked
  refine gfn_of (c.def_ 15 rfl) sc_law_asked (fun fd F => F.bindsN fun _ _ _ _ _ _ us hl => match us, hl with | [_, _, _], _ => rfl) rfl rfl fun cdv A outer s H E hr => ?_
  have tk : Takes (cxOf (L2.CX Pg w) Pg w K mg base ["one", "credit", "came", "told", "e", "kinds"] "_law_asked" (defScope D_law_asked) (gA K "_law_asked") cdv A outer s H E) (fun cls d _ H => E cls d H) := takes_of rfl rfl rfl rfl
  have po : PassesOwn (model Pg w) (cxOf (L2.CX Pg w) Pg w K mg base ["one", "credit", "came", "told", "e", "kinds"] "_law_asked" (defScope D_law_asked) (gA K "_law_asked") cdv A outer s H E).A _ _ := passes_of rfl
  unfold B_law_asked
  exact (ks_cons (k_try rfl rfl sc.nd tk (fun W pn xe tk2 po2 =>
  (ks_one (k_set (i := 3) sc.nd rfl (c_tup (a_cons (o_ev c_str) (a_cons (o_ev (c_frz (c_methG (cn := "Rate") rfl (ok_Rate_after c KB G) hr (fCls_cls (c.fact 31 rfl)) (He.meth_ok (c.fact 55 rfl)) tk2 (o_pk (pv 0)) (a_cons (o_pk (pv 1)) (a_cons (o_pk (pv 2)) a_nil))))) a_nil))))))
  (.cons (fTab_ok (c.fact 57 rfl)) (fun _ h => by cases h; decide) (.cons (fTab_ok (c.fact 58 rfl)) (fun _ h => by cases h; decide) .nil))
  (.as ⟨rfl, by decide, .inl (He.glo_ok KB G (c.fact 43 rfl))⟩ (by rfl) rfl (fun a oe cls d pn hz hf => su_of fun cc hc =>
  (ks_cons (k_set (i := 5) sc.nd rfl (c_tup (a_cons (o_ev (c_frz (c_xis (cvv := .ref (gA K "LightsError")) (cv := .ref (gA K "LightsError")) (fXisC_ok (c.fact 38 rfl)) hc hz hf (pv 4) (pe_glob rfl (He.glo_ok KB G (c.fact 39 rfl)) rfl) (fun u h => h) rfl (He.free_ok KB G (c.fact 13 rfl))))) (a_cons (o_ev (c_frz (c_xis (cvv := .ty "ValueError") (cv := .type "ValueError") (fXisB_ok (c.fact 40 rfl)) hc hz hf (pv 4) (pe_bltn rfl (He.free_ok KB G (c.fact 41 rfl)) PyProof.Rows.Boot.«ValueError» rfl) (fun u h => h) rfl (He.free_ok KB G (c.fact 13 rfl))))) (a_cons (o_ev (c_frz (c_xis (cvv := .ref (gA K "NoCredit")) (cv := .ref (gA K "NoCredit")) (fXisC_ok (c.fact 47 rfl)) hc hz hf (pv 4) (pe_glob rfl (He.glo_ok KB G (c.fact 48 rfl)) rfl) (fun u h => h) rfl (He.free_ok KB G (c.fact 13 rfl))))) a_nil)))))
  (ks_one (k_set (i := 3) sc.nd rfl (c_add rfl (o_ev (c_tup (a_cons (o_ev c_str) (a_cons (o_ev c_str) (a_cons (o_ev (c_xf (cs := ["BadCredit", "NoCredit"]) (fXf_ok (c.fact 56 rfl)) hc hz hf (pv 4))) a_nil))))) (o_pk (pv 5))))))) (.as ⟨rfl, by decide, .inl (He.glo_ok KB G (c.fact 48 rfl))⟩ (by rfl) rfl (fun a oe cls d pn hz hf => su_of fun cc hc =>
  (ks_cons (k_set (i := 5) sc.nd rfl (c_tup (a_cons (o_ev (c_frz (c_xis (cvv := .ref (gA K "LightsError")) (cv := .ref (gA K "LightsError")) (fXisC_ok (c.fact 38 rfl)) hc hz hf (pv 4) (pe_glob rfl (He.glo_ok KB G (c.fact 39 rfl)) rfl) (fun u h => h) rfl (He.free_ok KB G (c.fact 13 rfl))))) (a_cons (o_ev (c_frz (c_xis (cvv := .ty "ValueError") (cv := .type "ValueError") (fXisB_ok (c.fact 40 rfl)) hc hz hf (pv 4) (pe_bltn rfl (He.free_ok KB G (c.fact 41 rfl)) PyProof.Rows.Boot.«ValueError» rfl) (fun u h => h) rfl (He.free_ok KB G (c.fact 13 rfl))))) (a_cons (o_ev (c_frz (c_xis (cvv := .ref (gA K "BadCredit")) (cv := .ref (gA K "BadCredit")) (fXisC_ok (c.fact 42 rfl)) hc hz hf (pv 4) (pe_glob rfl (He.glo_ok KB G (c.fact 43 rfl)) rfl) (fun u h => h) rfl (He.free_ok KB G (c.fact 13 rfl))))) a_nil)))))
  (ks_one (k_set (i := 3) sc.nd rfl (c_add rfl (o_ev (c_tup (a_cons (o_ev c_str) (a_cons (o_ev c_str) (a_cons (o_ev (c_xf (cs := ["BadCredit", "NoCredit"]) (fXf_ok (c.fact 56 rfl)) hc hz hf (pv 4))) a_nil))))) (o_pk (pv 5))))))) .nil)))
  (ks_one (k_ret (c_mv (pv 3)))))
theorem sc_law_top : FnScope ["pace", "top", "k"] ["pace"] (defScope D_law_top) := ⟨rfl, rfl, rfl, by decide +kernel, rfl, by decide +kernel, by decide +kernel⟩
def B_law_top : SS :=
  (sSeq (sAsg 1 (eApp fSub [(.ev (eApp fIx [(.pk 0), (.ev (eC (.int 1)))])), (.ev (eC (.int 1)))]))
  (sSeq (sFor (iApp kRange1 [(.ev (eApp fIx [(.pk 0), (.ev (eC (.int 0)))]))]) (setN 2)
  (sAsg 1 (eApp fAdd [(.pk 1), (.ev (eApp fIx [(.pk 0), (.ev (eC (.int 2)))]))])))
  (sRet (eMv 1))))
def S_law_top : FS := runF 3 [0] B_law_top
theorem ok_law_top (c : Says K) (KB : K.In base) (G : base.Ns mainGlobals mg) : GFn Pg w K mg base 1 (gA K "_law_top") ["pace"] 1 S_law_top := by
  have sc := sc_law_top
  refine gfn_of (c.def_ 16 rfl) sc_law_top (fun fd F => F.bindsN fun _ _ _ _ _ _ us hl => match us, hl with | [_], _ => rfl) rfl rfl fun cdv A outer s H E hr => ?_
  have tk : Takes (cxOf (L2.CX Pg w) Pg w K mg base ["pace", "top", "k"] "_law_top" (defScope D_law_top) (gA K "_law_top") cdv A outer s H E) (fun cls d _ H => E cls d H) := takes_of rfl rfl rfl rfl
  have po : PassesOwn (model Pg w) (cxOf (L2.CX Pg w) Pg w K mg base ["pace", "top", "k"] "_law_top" (defScope D_law_top) (gA K "_law_top") cdv A outer s H E).A _ _ := passes_of rfl
  unfold B_law_top
  exact (ks_cons (k_set (i := 1) sc.nd rfl (c_sub (o_ev (c_idx rfl (o_pk (pv 0)) (o_ev c_int))) (o_ev c_int)))
  (ks_cons (k_for po rfl (i_range1 rfl (He.free_ok KB G (c.fact 23 rfl)) (o_ev (c_idx rfl (o_pk (pv 0)) (o_ev c_int)))) (pg_name (i := 2) sc.nd rfl (Or.inl rfl)) cg_name setN_ok
  (ks_one (k_set (i := 1) sc.nd rfl (c_add rfl (o_pk (pv 1)) (o_ev (c_idx rfl (o_pk (pv 0)) (o_ev c_int)))))))
  (ks_one (k_ret (c_mv (pv 1))))))
theorem sc_law_due : FnScope ["pace", "credit", "came", "top", "k"] ["pace", "credit", "came"] (defScope D_law_due) := ⟨rfl, rfl, rfl, by decide +kernel, rfl, by decide +kernel, by decide +kernel⟩
def B_law_due : SS :=
  (sSeq (sAsg 3 (eCall S_law_top [(.pk 0)] []))
  (sSeq (sIf (bOr (bOf (eApp fLt [(.pk 1), (.ev (eC (.int 0)))])) (bOf (eApp fGt [(.pk 1), (.pk 3)])))
  (sRet (eApp fTup [(.ev (eC (.str "refused"))), (.ev (eC (.str "BadCredit"))), (.ev (eFz 1)), (.ev (eC (.bl true))), (.ev (eC (.bl true))), (.ev (eC (.bl false)))]))
  sNx)
  (sSeq (sIf (bAnd (bOf (eApp (fEq false) [(.pk 2), (.ev (eC (.int 1)))])) (bOf (eApp fLt [(.pk 1), (.ev (eApp fIx [(.pk 0), (.ev (eC (.int 2)))]))])))
  (sRet (eApp fTup [(.ev (eC (.str "refused"))), (.ev (eC (.str "NoCredit"))), (.ev (eFz 1)), (.ev (eC (.bl true))), (.ev (eC (.bl true))), (.ev (eC (.bl false)))]))
  sNx)
  (sSeq (sAsg 1 (eApp fSub [(.pk 1), (.ev (eApp fMul [(.pk 2), (.ev (eApp fIx [(.pk 0), (.ev (eC (.int 2)))]))]))]))
  (sSeq (sFor (iApp kRange1 [(.ev (eApp fIx [(.pk 0), (.ev (eC (.int 1)))]))]) (setN 4)
  (sIf (bOf (eApp fLt [(.pk 1), (.pk 3)]))
  (sAsg 1 (eApp fAdd [(.pk 1), (.ev (eC (.int 1)))]))
  sNx))
  (sRet (eApp fTup [(.ev (eC (.str "told"))), (.ev (eFz 1))])))))))
def S_law_due : FS := runF 5 [0, 2] B_law_due
theorem ok_law_due (c : Says K) (KB : K.In base) (G : base.Ns mainGlobals mg) : GFn Pg w K mg base 2 (gA K "_law_due") ["pace", "credit", "came"] 3 S_law_due := by
  have sc := sc_law_due
  refine gfn_of (c.def_ 17 rfl) sc_law_due (fun fd F => F.bindsN fun _ _ _ _ _ _ us hl => match us, hl with | [_, _, _], _ => rfl) rfl rfl fun cdv A outer s H E hr => ?_
  have tk : Takes (cxOf (L2.CX Pg w) Pg w K mg base ["pace", "credit", "came", "top", "k"] "_law_due" (defScope D_law_due) (gA K "_law_due") cdv A outer s H E) (fun cls d _ H => E cls d H) := takes_of rfl rfl rfl rfl
  have po : PassesOwn (model Pg w) (cxOf (L2.CX Pg w) Pg w K mg base ["pace", "credit", "came", "top", "k"] "_law_due" (defScope D_law_due) (gA K "_law_due") cdv A outer s H E).A _ _ := passes_of rfl
  unfold B_law_due
  exact (ks_cons (k_set (i := 3) sc.nd rfl (c_callG rfl (ok_law_top c KB G) hr rfl (He.glo_ok KB G (c.fact 60 rfl)) tk (a_cons (o_pk (pv 0)) a_nil)))
  (ks_cons (k_if (b_w (w_or (b_cmpK m_lt (o_pk (pv 1)) (o_ev c_int)) (w_or1 (b_cmpK m_gt (o_pk (pv 1)) (o_pk (pv 3))))))
  (ks_one (k_ret (c_tup (a_cons (o_ev c_str) (a_cons (o_ev c_str) (a_cons (o_ev (c_fz (pv 1))) (a_cons (o_ev c_bl) (a_cons (o_ev c_bl) (a_cons (o_ev c_bl) a_nil)))))))))
  ks_nil)
  (ks_cons (k_if (b_w (w_and (b_cmpK (m_eq rfl hr.units) (o_pk (pv 2)) (o_ev c_int)) (w_and1 (b_cmpK m_lt (o_pk (pv 1)) (o_ev (c_idx rfl (o_pk (pv 0)) (o_ev c_int)))))))
  (ks_one (k_ret (c_tup (a_cons (o_ev c_str) (a_cons (o_ev c_str) (a_cons (o_ev (c_fz (pv 1))) (a_cons (o_ev c_bl) (a_cons (o_ev c_bl) (a_cons (o_ev c_bl) a_nil)))))))))
  ks_nil)
  (ks_cons (k_set (i := 1) sc.nd rfl (c_sub (o_pk (pv 1)) (o_ev (c_mul (o_pk (pv 2)) (o_ev (c_idx rfl (o_pk (pv 0)) (o_ev c_int)))))))
  (ks_cons (k_for po rfl (i_range1 rfl (He.free_ok KB G (c.fact 23 rfl)) (o_ev (c_idx rfl (o_pk (pv 0)) (o_ev c_int)))) (pg_name (i := 4) sc.nd rfl (Or.inl rfl)) cg_name setN_ok
  (ks_one (k_if (b_cmpK m_lt (o_pk (pv 1)) (o_pk (pv 3)))
  (ks_one (k_set (i := 1) sc.nd rfl (c_add rfl (o_pk (pv 1)) (o_ev c_int))))
  ks_nil)))
  (ks_one (k_ret (c_tup (a_cons (o_ev c_str) (a_cons (o_ev (c_fz (pv 1))) a_nil))))))))))
theorem sc_law_kept : FnScope ["one", "pace"] ["one", "pace"] (defScope D_law_kept) := ⟨rfl, rfl, rfl, by decide +kernel, rfl, by decide +kernel, by decide +kernel⟩
def B_law_kept : SS :=
  (sSeq (sIf (bOr (bNot (bOf (eCall (S_law_same 4) [(.ev (eApp (fldOf ["Rate"] "burst") [(.pk 0)])), (.ev (eApp fIx [(.pk 1), (.ev (eC (.int 0)))]))] []))) (bNot (bOf (eCall (S_law_same 4) [(.ev (eApp (fldOf ["Rate"] "num") [(.pk 0)])), (.ev (eApp fIx [(.pk 1), (.ev (eC (.int 1)))]))] []))))
  (sRet (eC (.bl false)))
  sNx)
  (sRet (eAnd (eCall (S_law_same 4) [(.ev (eApp (fldOf ["Rate"] "den") [(.pk 0)])), (.ev (eApp fIx [(.pk 1), (.ev (eC (.int 2)))]))] []) (eCall (S_law_same 4) [(.ev (eProp "Rate" S_Rate_full (.pk 0))), (.ev (eFrz (eCall S_law_top [(.pk 1)] [])))] []))))
def S_law_kept : FS := runF 2 [0, 1] B_law_kept
theorem ok_law_kept (c : Says K) (KB : K.In base) (G : base.Ns mainGlobals mg) : GFn Pg w K mg base 7 (gA K "_law_kept") ["one", "pace"] 2 S_law_kept := by
  have sc := sc_law_kept
  refine gfn_of (c.def_ 18 rfl) sc_law_kept (fun fd F => F.bindsN fun _ _ _ _ _ _ us hl => match us, hl with | [_, _], _ => rfl) rfl rfl fun cdv A outer s H E hr => ?_
  have tk : Takes (cxOf (L2.CX Pg w) Pg w K mg base ["one", "pace"] "_law_kept" (defScope D_law_kept) (gA K "_law_kept") cdv A outer s H E) (fun cls d _ H => E cls d H) := takes_of rfl rfl rfl rfl
  have po : PassesOwn (model Pg w) (cxOf (L2.CX Pg w) Pg w K mg base ["one", "pace"] "_law_kept" (defScope D_law_kept) (gA K "_law_kept") cdv A outer s H E).A _ _ := passes_of rfl
  unfold B_law_kept
  exact (ks_cons (k_if (b_w (w_or (b_not (b_val (c_callG rfl (ok_law_same c KB G 4) hr rfl (He.glo_ok KB G (c.fact 24 rfl)) tk (a_cons (o_ev (c_fld (fFld_ok (c.fact 32 rfl)) (o_pk (pv 0)))) (a_cons (o_ev (c_idx rfl (o_pk (pv 1)) (o_ev c_int))) a_nil))))) (w_or1 (b_not (b_val (c_callG rfl (ok_law_same c KB G 4) hr rfl (He.glo_ok KB G (c.fact 24 rfl)) tk (a_cons (o_ev (c_fld (fFld_ok (c.fact 33 rfl)) (o_pk (pv 0)))) (a_cons (o_ev (c_idx rfl (o_pk (pv 1)) (o_ev c_int))) a_nil))))))))
  (ks_one (k_ret c_bl))
  ks_nil)
  (ks_one (k_ret (c_and (c_callG rfl (ok_law_same c KB G 4) hr rfl (He.glo_ok KB G (c.fact 24 rfl)) tk (a_cons (o_ev (c_fld (fFld_ok (c.fact 34 rfl)) (o_pk (pv 0)))) (a_cons (o_ev (c_idx rfl (o_pk (pv 1)) (o_ev c_int))) a_nil))) (c_one (c_callG rfl (ok_law_same c KB G 4) hr rfl (He.glo_ok KB G (c.fact 24 rfl)) tk (a_cons (o_ev (c_propG (cn := "Rate") rfl (ok_Rate_full c KB G) hr (fCls_cls (c.fact 31 rfl)) (fProp_ok (c.fact 51 rfl)) (o_pk (pv 0)))) (a_cons (o_ev (c_frz (c_callG rfl (ok_law_top c KB G) hr rfl (He.glo_ok KB G (c.fact 60 rfl)) tk (a_cons (o_pk (pv 1)) a_nil)))) a_nil))))))))
theorem sc_Rate_eq : FnScope ["self", "other"] ["self", "other"] (defScope D_Rate_eq) := ⟨rfl, rfl, rfl, by decide +kernel, rfl, by decide +kernel, by decide +kernel⟩
def B_Rate_eq : SS :=
  (sRet (eAnd (eApp (fIsi [(.b "NoneType", false), (.b "bool", false), (.b "int", false), (.b "str", false), (.b "tuple", false), (.b "list", false), (.c "Rate", true)]) [(.pk 1)]) (eAnd (eApp (fEq false) [(.ev (eApp (fldOf ["Rate"] "burst") [(.pk 0)])), (.ev (eApp (fldOf ["Rate"] "burst") [(.pk 1)]))]) (eAnd (eApp (fEq false) [(.ev (eApp (fldOf ["Rate"] "num") [(.pk 0)])), (.ev (eApp (fldOf ["Rate"] "num") [(.pk 1)]))]) (eApp (fEq false) [(.ev (eApp (fldOf ["Rate"] "den") [(.pk 0)])), (.ev (eApp (fldOf ["Rate"] "den") [(.pk 1)]))])))))
def S_Rate_eq : FS := runF 2 [0, 1] B_Rate_eq
theorem ok_Rate_eq (c : Says K) (KB : K.In base) (G : base.Ns mainGlobals mg) : GFn Pg w K mg base 1 (mA K (gA K "Rate") "__eq__") ["self", "other"] 2 S_Rate_eq := by
  have sc := sc_Rate_eq
  refine gfn_of (c.def_ 19 rfl) sc_Rate_eq (fun fd F => F.bindsN fun _ _ _ _ _ _ us hl => match us, hl with | [_, _], _ => rfl) rfl rfl fun cdv A outer s H E hr => ?_
  have tk : Takes (cxOf (L2.CX Pg w) Pg w K mg base ["self", "other"] "Rate.__eq__" (defScope D_Rate_eq) (mA K (gA K "Rate") "__eq__") cdv A outer s H E) (fun cls d _ H => E cls d H) := takes_of rfl rfl rfl rfl
  have po : PassesOwn (model Pg w) (cxOf (L2.CX Pg w) Pg w K mg base ["self", "other"] "Rate.__eq__" (defScope D_Rate_eq) (mA K (gA K "Rate") "__eq__") cdv A outer s H E).A _ _ := passes_of rfl
  unfold B_Rate_eq
  exact (ks_one (k_ret (c_and (c_isi (cvv := .ref (gA K "Rate")) (cv := .ref (gA K "Rate")) rfl (fIsK_ok (c.fact 11 rfl)) (fTyC_ok (c.fact 63 rfl)) rfl (He.free_ok KB G (c.fact 13 rfl)) (o_pk (pv 1)) (pe_glob rfl (He.glo_ok KB G (c.fact 36 rfl)) rfl) (.own _)) (c_and (c_cmpK (m_eq rfl hr.units) (o_ev (c_fld (fFld_ok (c.fact 32 rfl)) (o_pk (pv 0)))) (o_ev (c_fld (fFld_ok (c.fact 32 rfl)) (o_pk (pv 1))))) (c_and (c_cmpK (m_eq rfl hr.units) (o_ev (c_fld (fFld_ok (c.fact 33 rfl)) (o_pk (pv 0)))) (o_ev (c_fld (fFld_ok (c.fact 33 rfl)) (o_pk (pv 1))))) (c_one (c_cmpK (m_eq rfl hr.units) (o_ev (c_fld (fFld_ok (c.fact 34 rfl)) (o_pk (pv 0)))) (o_ev (c_fld (fFld_ok (c.fact 34 rfl)) (o_pk (pv 1)))))))))))
theorem sc_law : FnScope ["script", "hand", "pace", "paces", "beside", "far", "part", "rates", "row", "credit", "k", "came", "again", "unlike", "last"] ["script"] (defScope D_law) := ⟨rfl, rfl, rfl, by decide +kernel, rfl, by decide +kernel, by decide +kernel⟩
def B_law : SS :=
  (sSeq (sAsg 1 (eCall S_law_hand [(.pk 0), (.ev (eC (.int 0)))] []))
  (sSeq (sAsg 2 (eCall S_law_triple [(.pk 1)] []))
  (sSeq (sAsg 3 (eApp fLst [(.ev (eFrz (eCall S_law_rate [(.ev (eCall S_law_hand [(.pk 0), (.ev (eC (.int 1)))] []))] [])))]))
  (sSeq (sAsg 4 (eCall S_law_beside [(.pk 1), (.ev (eApp fIx [(.pk 3), (.ev (eC (.int 0)))]))] []))
  (sSeq (sAsg 5 (eCall S_law_wide [(.ev (eCall S_law_hand [(.pk 0), (.ev (eC (.int 2)))] []))] []))
  (sSeq (sAsg 6 (eCall S_law_wrong_part [(.pk 2)] []))
  (sSeq (sIf (bOf (eApp (fIsN false) [(.pk 6), (.ev (eC .non))]))
  (sApp 3 (eFz 2))
  (sSeq (sIf (bNot (bOf (eCall (S_law_same 4) [(.ev (eFrz (eCall S_law_refused [(.pk 2)] []))), (.ev (eApp fTup [(.ev (eC (.str "refused"))), (.ev (eFz 6)), (.ev (eC (.bl true))), (.ev (eC (.bl true))), (.ev (eC (.bl false)))]))] [])))
  (sRet (eC (.bl false)))
  sNx)
  (sIf (bNot (bOf (eCall (S_law_same 4) [(.ev (eFrz (eCall S_law_by_base [(.pk 2)] []))), (.ev (eApp fTup [(.ev (eC (.bl true))), (.ev (eC (.bl true))), (.ev (eC (.bl false)))]))] [])))
  (sRet (eC (.bl false)))
  sNx)))
  (sSeq (sAsg 7 (eLc (iSeq (eFz 3)) (setN 8) bYes (eMake "Rate" S_Rate_init [(.ev (eApp fIx [(.pk 8), (.ev (eC (.int 0)))])), (.ev (eApp fIx [(.pk 8), (.ev (eC (.int 1)))])), (.ev (eApp fIx [(.pk 8), (.ev (eC (.int 2)))]))] []) [8]))
  (sSeq (sFor (iSeq (eApp fAdd [(.ev (eApp fRgL2 [(.ev (eApp fSub [(.ev (eC (.int 0))), (.ev (eC (.int 2)))])), (.ev (eC (.int 26)))])), (.ev (eApp fLst [(.ev (eFz 5))]))])) (setN 9)
  (sFor (iApp kRange1 [(.ev (eApp fLen [(.pk 7)]))]) (setN 10)
  (sFor (iSeq (eApp fTup [(.ev (eC (.int 0))), (.ev (eC (.int 1)))])) (setN 11)
  (sIf (bNot (bOf (eCall (S_law_same 4) [(.ev (eFrz (eCall S_law_asked [(.ev (eApp fIx [(.pk 7), (.pk 10)])), (.pk 9), (.pk 11)] []))), (.ev (eFrz (eCall S_law_due [(.ev (eApp fIx [(.pk 3), (.pk 10)])), (.pk 9), (.pk 11)] [])))] [])))
  (sRet (eC (.bl false)))
  sNx))))
  (sSeq (sFor (iApp kRange1 [(.ev (eApp fLen [(.pk 7)]))]) (setN 10)
  (sIf (bNot (bOf (eCall S_law_kept [(.ev (eApp fIx [(.pk 7), (.pk 10)])), (.ev (eApp fIx [(.pk 3), (.pk 10)]))] [])))
  (sRet (eC (.bl false)))
  sNx))
  (sSeq (sAsg 12 (eMake "Rate" S_Rate_init [(.ev (eApp fIx [(.ev (eApp fIx [(.pk 3), (.ev (eC (.int 0)))])), (.ev (eC (.int 0)))])), (.ev (eApp fIx [(.ev (eApp fIx [(.pk 3), (.ev (eC (.int 0)))])), (.ev (eC (.int 1)))])), (.ev (eApp fIx [(.ev (eApp fIx [(.pk 3), (.ev (eC (.int 0)))])), (.ev (eC (.int 2)))]))] []))
  (sSeq (sAsg 13 (eMake "Rate" S_Rate_init [(.ev (eApp fIx [(.pk 4), (.ev (eC (.int 0)))])), (.ev (eApp fIx [(.pk 4), (.ev (eC (.int 1)))])), (.ev (eApp fIx [(.pk 4), (.ev (eC (.int 2)))]))] []))
  (sSeq (sIf (bOr (bOf (eApp (fIsB true) [(.ev (eOwn "Rate" S_Rate_eq (.ev (eApp fIx [(.pk 7), (.ev (eC (.int 0)))])) (.pk 12))), (.ev (eC (.bl true)))])) (bOf (eApp (fIsB true) [(.ev (eOwn "Rate" S_Rate_eq (.pk 13) (.pk 12))), (.ev (eC (.bl false)))])))
  (sRet (eC (.bl false)))
  sNx)
  (sSeq (sAsg 14 (eApp fSub [(.ev (eApp fLen [(.pk 7)])), (.ev (eC (.int 1)))]))
  (sRet (eCall (S_law_same 4) [(.ev (eOwn "Rate" S_Rate_eq (.ev (eApp fIx [(.pk 7), (.ev (eC (.int 0)))])) (.ev (eApp fIx [(.pk 7), (.pk 14)])))), (.ev (eApp (fEq false) [(.ev (eApp fIx [(.pk 3), (.ev (eC (.int 0)))])), (.ev (eApp fIx [(.pk 3), (.pk 14)]))]))] []))))))))))))))))
def S_law : FS := runF 15 [0] B_law
theorem ok_law (c : Says K) (KB : K.In base) (G : base.Ns mainGlobals mg) : GFn Pg w K mg base 8 (gA K "law") ["script"] 1 S_law := by
  have sc := sc_law
  refine gfn_of (c.def_ 20 rfl) sc_law (fun fd F => F.bindsN fun _ _ _ _ _ _ us hl => match us, hl with | [_], _ => rfl) rfl rfl fun cdv A outer s H E hr => ?_
  have tk : Takes (cxOf (L2.CX Pg w) Pg w K mg base ["script", "hand", "pace", "paces", "beside", "far", "part", "rates", "row", "credit", "k", "came", "again", "unlike", "last"] "law" (defScope D_law) (gA K "law") cdv A outer s H E) (fun cls d _ H => E cls d H) := takes_of rfl rfl rfl rfl
  have po : PassesOwn (model Pg w) (cxOf (L2.CX Pg w) Pg w K mg base ["script", "hand", "pace", "paces", "beside", "far", "part", "rates", "row", "credit", "k", "came", "again", "unlike", "last"] "law" (defScope D_law) (gA K "law") cdv A outer s H E).A _ _ := passes_of rfl
  unfold B_law
  exact (ks_cons (k_set (i := 1) sc.nd rfl (c_callG rfl (ok_law_hand c KB G) hr rfl (He.glo_ok KB G (c.fact 4 rfl)) tk (a_cons (o_pk (pv 0)) (a_cons (o_ev c_int) a_nil))))
  (ks_cons (k_set (i := 2) sc.nd rfl (c_callG rfl (ok_law_triple c KB G) hr rfl (He.glo_ok KB G (c.fact 8 rfl)) tk (a_cons (o_pk (pv 1)) a_nil)))
  (ks_cons (k_set (i := 3) sc.nd rfl (c_lst (a_cons (o_ev (c_frz (c_callG rfl (ok_law_rate c KB G) hr rfl (He.glo_ok KB G (c.fact 7 rfl)) tk (a_cons (o_ev (c_callG rfl (ok_law_hand c KB G) hr rfl (He.glo_ok KB G (c.fact 4 rfl)) tk (a_cons (o_pk (pv 0)) (a_cons (o_ev c_int) a_nil)))) a_nil)))) a_nil)))
  (ks_cons (k_set (i := 4) sc.nd rfl (c_callG rfl (ok_law_beside c KB G) hr rfl (He.glo_ok KB G (c.fact 9 rfl)) tk (a_cons (o_pk (pv 1)) (a_cons (o_ev (c_idx rfl (o_pk (pv 3)) (o_ev c_int))) a_nil))))
  (ks_cons (k_set (i := 5) sc.nd rfl (c_callG rfl (ok_law_wide c KB G) hr rfl (He.glo_ok KB G (c.fact 6 rfl)) tk (a_cons (o_ev (c_callG rfl (ok_law_hand c KB G) hr rfl (He.glo_ok KB G (c.fact 4 rfl)) tk (a_cons (o_pk (pv 0)) (a_cons (o_ev c_int) a_nil)))) a_nil)))
  (ks_cons (k_set (i := 6) sc.nd rfl (c_callG rfl (ok_law_wrong_part c KB G) hr rfl (He.glo_ok KB G (c.fact 10 rfl)) tk (a_cons (o_pk (pv 2)) a_nil)))
  (ks_cons (k_if (b_cmpK m_isN (o_pk (pv 6)) (o_ev c_non))
  (ks_one (k_app (i := 3) rfl (pv 3) (c_fz (pv 2))))
  (ks_cons (k_if (b_not (b_val (c_callG rfl (ok_law_same c KB G 4) hr rfl (He.glo_ok KB G (c.fact 24 rfl)) tk (a_cons (o_ev (c_frz (c_callG rfl (ok_law_refused c KB G) hr rfl (He.glo_ok KB G (c.fact 45 rfl)) tk (a_cons (o_pk (pv 2)) a_nil)))) (a_cons (o_ev (c_tup (a_cons (o_ev c_str) (a_cons (o_ev (c_fz (pv 6))) (a_cons (o_ev c_bl) (a_cons (o_ev c_bl) (a_cons (o_ev c_bl) a_nil))))))) a_nil)))))
  (ks_one (k_ret c_bl))
  ks_nil)
  (ks_one (k_if (b_not (b_val (c_callG rfl (ok_law_same c KB G 4) hr rfl (He.glo_ok KB G (c.fact 24 rfl)) tk (a_cons (o_ev (c_frz (c_callG rfl (ok_law_by_base c KB G) hr rfl (He.glo_ok KB G (c.fact 50 rfl)) tk (a_cons (o_pk (pv 2)) a_nil)))) (a_cons (o_ev (c_tup (a_cons (o_ev c_bl) (a_cons (o_ev c_bl) (a_cons (o_ev c_bl) a_nil))))) a_nil)))))
  (ks_one (k_ret c_bl))
  ks_nil))))
  (ks_cons (k_setLc (i := 7) rfl rfl sc.nd rfl rfl (sw_true rfl rfl rfl (by decide +kernel)) (of_decide_eq_true rfl) (of_decide_eq_true rfl) (i_seq rfl (c_fz (pv 3))) (blkOk_by (own := [("row", 8)]) (by rfl)) (of_decide_eq_true rfl) (of_decide_eq_true rfl) (of_decide_eq_true rfl) (of_decide_eq_true rfl) cg_name (fun _ _ _ _ _ => (pg_name (i := 8) sc.nd rfl (Or.inl rfl))) (fun _ _ _ _ _ => pts_nil) (fun _ _ _ h => yes_of h) (fun _ _ _ _ _ => (c_makeG (cn := "Rate") rfl (ok_Rate_init c KB G) hr (He.mkr_ok (c.fact 35 rfl)) rfl (He.glo_ok KB G (c.fact 36 rfl)) takes_none5 (a_cons (o_ev (c_idx rfl (o_pk (pv 8)) (o_ev c_int))) (a_cons (o_ev (c_idx rfl (o_pk (pv 8)) (o_ev c_int))) (a_cons (o_ev (c_idx rfl (o_pk (pv 8)) (o_ev c_int))) a_nil))))))
  (ks_cons (k_for po rfl (i_seq rfl (c_add rfl (o_ev (c_rgL2 rfl rfl (He.free_ok KB G (c.fact 22 rfl)) rfl (He.free_ok KB G (c.fact 23 rfl)) (o_ev (c_sub (o_ev c_int) (o_ev c_int))) (o_ev c_int))) (o_ev (c_lst (a_cons (o_ev (c_fz (pv 5))) a_nil))))) (pg_name (i := 9) sc.nd rfl (Or.inl rfl)) cg_name setN_ok
  (ks_one (k_for po rfl (i_range1 rfl (He.free_ok KB G (c.fact 23 rfl)) (o_ev (c_len rfl rfl (He.free_ok KB G (c.fact 0 rfl)) (o_pk (pv 7))))) (pg_name (i := 10) sc.nd rfl (Or.inl rfl)) cg_name setN_ok
  (ks_one (k_for po rfl (i_seq rfl (c_tup (a_cons (o_ev c_int) (a_cons (o_ev c_int) a_nil)))) (pg_name (i := 11) sc.nd rfl (Or.inl rfl)) cg_name setN_ok
  (ks_one (k_if (b_not (b_val (c_callG rfl (ok_law_same c KB G 4) hr rfl (He.glo_ok KB G (c.fact 24 rfl)) tk (a_cons (o_ev (c_frz (c_callG rfl (ok_law_asked c KB G) hr rfl (He.glo_ok KB G (c.fact 59 rfl)) tk (a_cons (o_ev (c_idx rfl (o_pk (pv 7)) (o_pk (pv 10)))) (a_cons (o_pk (pv 9)) (a_cons (o_pk (pv 11)) a_nil)))))) (a_cons (o_ev (c_frz (c_callG rfl (ok_law_due c KB G) hr rfl (He.glo_ok KB G (c.fact 61 rfl)) tk (a_cons (o_ev (c_idx rfl (o_pk (pv 3)) (o_pk (pv 10)))) (a_cons (o_pk (pv 9)) (a_cons (o_pk (pv 11)) a_nil)))))) a_nil)))))
  (ks_one (k_ret c_bl))
  ks_nil)))))))
  (ks_cons (k_for po rfl (i_range1 rfl (He.free_ok KB G (c.fact 23 rfl)) (o_ev (c_len rfl rfl (He.free_ok KB G (c.fact 0 rfl)) (o_pk (pv 7))))) (pg_name (i := 10) sc.nd rfl (Or.inl rfl)) cg_name setN_ok
  (ks_one (k_if (b_not (b_val (c_callG rfl (ok_law_kept c KB G) hr rfl (He.glo_ok KB G (c.fact 62 rfl)) tk (a_cons (o_ev (c_idx rfl (o_pk (pv 7)) (o_pk (pv 10)))) (a_cons (o_ev (c_idx rfl (o_pk (pv 3)) (o_pk (pv 10)))) a_nil)))))
  (ks_one (k_ret c_bl))
  ks_nil)))
  (ks_cons (k_set (i := 12) sc.nd rfl (c_makeG (cn := "Rate") rfl (ok_Rate_init c KB G) hr (He.mkr_ok (c.fact 35 rfl)) rfl (He.glo_ok KB G (c.fact 36 rfl)) tk (a_cons (o_ev (c_idx rfl (o_ev (c_idx rfl (o_pk (pv 3)) (o_ev c_int))) (o_ev c_int))) (a_cons (o_ev (c_idx rfl (o_ev (c_idx rfl (o_pk (pv 3)) (o_ev c_int))) (o_ev c_int))) (a_cons (o_ev (c_idx rfl (o_ev (c_idx rfl (o_pk (pv 3)) (o_ev c_int))) (o_ev c_int))) a_nil)))))
  (ks_cons (k_set (i := 13) sc.nd rfl (c_makeG (cn := "Rate") rfl (ok_Rate_init c KB G) hr (He.mkr_ok (c.fact 35 rfl)) rfl (He.glo_ok KB G (c.fact 36 rfl)) tk (a_cons (o_ev (c_idx rfl (o_pk (pv 4)) (o_ev c_int))) (a_cons (o_ev (c_idx rfl (o_pk (pv 4)) (o_ev c_int))) (a_cons (o_ev (c_idx rfl (o_pk (pv 4)) (o_ev c_int))) a_nil)))))
  (ks_cons (k_if (b_w (w_or (b_cmpK m_notB (o_ev (c_ownG (cn := "Rate") rfl (ok_Rate_eq c KB G) hr (He.meth_ok (c.fact 64 rfl)) (o_ev (c_idx rfl (o_pk (pv 7)) (o_ev c_int))) (o_pk (pv 12)))) (o_ev c_bl)) (w_or1 (b_cmpK m_notB (o_ev (c_ownG (cn := "Rate") rfl (ok_Rate_eq c KB G) hr (He.meth_ok (c.fact 64 rfl)) (o_pk (pv 13)) (o_pk (pv 12)))) (o_ev c_bl)))))
  (ks_one (k_ret c_bl))
  ks_nil)
  (ks_cons (k_set (i := 14) sc.nd rfl (c_sub (o_ev (c_len rfl rfl (He.free_ok KB G (c.fact 0 rfl)) (o_pk (pv 7)))) (o_ev c_int)))
  (ks_one (k_ret (c_callG rfl (ok_law_same c KB G 4) hr rfl (He.glo_ok KB G (c.fact 24 rfl)) tk (a_cons (o_ev (c_ownG (cn := "Rate") rfl (ok_Rate_eq c KB G) hr (He.meth_ok (c.fact 64 rfl)) (o_ev (c_idx rfl (o_pk (pv 7)) (o_ev c_int))) (o_ev (c_idx rfl (o_pk (pv 7)) (o_pk (pv 14)))))) (a_cons (o_ev (c_cmpK (m_eq rfl hr.units) (o_ev (c_idx rfl (o_pk (pv 3)) (o_ev c_int))) (o_ev (c_idx rfl (o_pk (pv 3)) (o_pk (pv 14)))))) a_nil)))))))))))))))))))
end
def loose : List Str := (["_wall", "LightsError", "BadRate", "BadNumber", "BadCredit", "NoCredit", "MOST_BURST", "MOST_DEN", "MOST_GREEDY_BEATS", "rounded_up", "Rate", "_law_cell", "_law_hand", "_law_take", "_law_is_int", "_law_same", "_law_rate", "_law_wide", "_law_triple", "_law_beside", "_law_wrong_part", "_law_top", "_law_due", "_law_asked", "_law_refused", "_law_by_base", "_law_kept"] : List Str)
abbrev Rw : PySem.W.OpenRow := PySem.W.OpenLaw.row PySem.Challenge.rw_lampcrossings_k36_rate_credits
abbrev hk : PySem.W.Hook := hookX 6 file fs fn xn
def ob (s : PySem.W.SharedT) : AlX := obsXG 6 file fs fn xn (HandSHeadRun.getT s)
theorem ob_eq (s : PySem.W.SharedT) : ob s = hk.obs s.abs := obsXG_eq (HandSHeadRun.getT_eq s)
theorem run (w : World) : HandSHeadRun.RunEq Rw (PySem.W.view Rw.prog [30]) hk ob 4000 loose w := by
  intro os
  kernel_rfl
theorem facts {w : World} {K : PySem.W.Frag} {h : Heap} {mg : Str → Option Value} {f : Addr} (X : K.In h) (G : h.Ns mainGlobals mg) (hfa : mg ("law" : Str) = some (.ref f)) (c : Says K) :
    ∃ fd : FuncData, (∀ (s : Shared) (v : Value), BindsTo s fd ⟨[v], []⟩ [("script", v)]) ∧ ∀ base : Heap, K.In base → base.Ns mainGlobals mg → FnOk Pg w K mg base (L2.CX Pg w) 8 f fd ["script"] (spOf (bA K) 1 S_law) := by
  obtain ⟨fd, F⟩ := c.def_ 20 (d := ⟨.glo "law", "law", "law", defArgs D_law, defBody D_law, defScope D_law, [], []⟩) rfl
  have hg := He.glo_ok X G (c.fact 65 rfl)
  have e := hfa.symm.trans hg
  cases e
  have b := FunD.bindsA (ps := ["script"]) F fun _ _ _ _ _ _ us hl => match us, hl with | [_], _ => rfl
  refine ⟨fd, fun s v => b s [v] rfl, fun base KB G => ?_⟩
  exact (ok_law (w := w) c KB G).same F
end G_lampcrossings_k36_rate_credits
end

section
set_option Elab.async false
set_option linter.all false
set_option maxRecDepth 100000
set_option maxHeartbeats 2000000
namespace G_lampcrossings_k36_rate_credits
open PySem PySem.Spec PyProof.Rows L2 DL
/-- a hand -/
abbrev hnd (a b c d : Int) : O := .own .lst [.int a, .int b, .int c, .int d]
theorem take_ok (a b c d many : Int) (h : 0 < many) (h2 : many < 2 ^ 30) : ∃ z a' c' : Int, 0 ≤ z ∧ z < many ∧ S_law_take [hnd a b c d, I many] = .ok (I z) [hnd a' b c' d, I many] := by
  have hm : many ≠ 0 := by omega
  have hd : ∀ x, divOk x many = true := fun x => divOk_of ⟨hm, by omega⟩
  have hn := dec_ne hm
  generalize e : S_law_take [hnd a b c d, I many] = r
  unfold S_law_take B_law_take at e
  by_cases hb : b = 1
  · subst hb
    by_cases ha : 0 < a
    · simp only [z_bind, z_bindE, z_bindS, z_ite, z_noX, z_iteX, z_get0, z_getN, z_getS, z_goN, z_goC, z_ev, z_pk, z_finN, z_finE, z_finP, z_app, z_C, z_Var, z_Fz, z_Mv, z_frz1, z_frz2, z_bOf, z_bool, z_bAnd, z_bOr, z_bNot, z_eAnd, z_eOr, z_eNot, z_eIf, z_Nx, z_Bk, z_Ct, z_Seq, z_seqN, z_seqR, z_seqB, z_seqC, z_Asg, z_Ret, z_RetN, z_Expr, z_If, z_iSeq, z_iApp, z_For, z_loopN, z_loopC, z_lkN, z_lkC, z_lkB, z_lkR, z_setN, z_setT, z_smN, z_smC, z_eFrz, z_aN, z_aE, z_aP, z_pN, z_pE, z_pP, z_call, z_callE, z_ckO, z_ckE, z_make, z_makeE, z_mkO, z_mkE, z_meth, z_finPk, z_finEv, z_prop, z_FldI, z_Raise, z_Try, z_tkO, z_tkE, z_tkI, z_hC, z_hN, z_App, z_SetIx, z_setK, z_chain, z_own, z_ownK, z_fSub, z_fMul, z_fDiv, z_fMod, z_fPow, z_fLt, z_fLe, z_fGt, z_fGe, z_fNeg, z_fAbs, z_fMin, z_fMax, z_Xis, z_Xf, z_Lc, z_lcN, z_lcC, z_lcK, z_yes, z_wN, z_wC, z_bkN, z_bkC, z_isN1, z_isN2, z_isN3, z_isN4, z_isN5, z_isN6, z_isB1, z_isB2, z_isB3, z_isB4, z_isB5, z_isB6, z_it1, z_it2, z_it3, z_len1, z_len2, z_len3, z_ix1, z_ix2, z_ix3, fAdd, strO, tupO, ownL, intO, fInt, fList, fTuple, slO, fSlF, fSlT, fSlN, fTup, fLst, flatD, eqS, fRgL1, fRgL2, rawAll, runF, startE, backO, O.fro?, putN, putD, envX, envB, xSl, Nat.reduceLeDiff, Nat.reduceLT, List.take_succ_cons, List.take_zero, List.any_cons, List.any_nil, List.all_cons, List.all_nil, List.map_cons, List.map_nil, List.cons_append, List.nil_append, List.append_nil, List.length_cons, List.length_nil, List.replicate_succ, List.replicate_zero, List.getElem?_cons_zero, List.getElem?_cons_succ, List.getElem?_nil, List.set_cons_zero, List.set_cons_succ, List.headD_cons, List.tail_cons, List.contains_cons, List.contains_nil, Option.map_some, Option.map_none, Option.isSome_some, Bool.and_true, Bool.true_and, Bool.and_false, Bool.false_and, Bool.or_true, Bool.true_or, Bool.or_false, Bool.false_or, Bool.not_true, Bool.not_false, if_true, if_false, reduceIte, reduceCtorEq, beq_self_eq_true, Nat.reduceSub, Nat.reduceAdd, Nat.reduceBEq, Nat.reduceEqDiff, decide_true, decide_false, Bool.false_eq_true, at0, at1, ix40, fEqI, ha, hn, hd] at e
      subst e
      exact ⟨_, _, _, (fmod_b h).1, (fmod_b h).2, rfl⟩
    · simp only [z_bind, z_bindE, z_bindS, z_ite, z_noX, z_iteX, z_get0, z_getN, z_getS, z_goN, z_goC, z_ev, z_pk, z_finN, z_finE, z_finP, z_app, z_C, z_Var, z_Fz, z_Mv, z_frz1, z_frz2, z_bOf, z_bool, z_bAnd, z_bOr, z_bNot, z_eAnd, z_eOr, z_eNot, z_eIf, z_Nx, z_Bk, z_Ct, z_Seq, z_seqN, z_seqR, z_seqB, z_seqC, z_Asg, z_Ret, z_RetN, z_Expr, z_If, z_iSeq, z_iApp, z_For, z_loopN, z_loopC, z_lkN, z_lkC, z_lkB, z_lkR, z_setN, z_setT, z_smN, z_smC, z_eFrz, z_aN, z_aE, z_aP, z_pN, z_pE, z_pP, z_call, z_callE, z_ckO, z_ckE, z_make, z_makeE, z_mkO, z_mkE, z_meth, z_finPk, z_finEv, z_prop, z_FldI, z_Raise, z_Try, z_tkO, z_tkE, z_tkI, z_hC, z_hN, z_App, z_SetIx, z_setK, z_chain, z_own, z_ownK, z_fSub, z_fMul, z_fDiv, z_fMod, z_fPow, z_fLt, z_fLe, z_fGt, z_fGe, z_fNeg, z_fAbs, z_fMin, z_fMax, z_Xis, z_Xf, z_Lc, z_lcN, z_lcC, z_lcK, z_yes, z_wN, z_wC, z_bkN, z_bkC, z_isN1, z_isN2, z_isN3, z_isN4, z_isN5, z_isN6, z_isB1, z_isB2, z_isB3, z_isB4, z_isB5, z_isB6, z_it1, z_it2, z_it3, z_len1, z_len2, z_len3, z_ix1, z_ix2, z_ix3, fAdd, strO, tupO, ownL, intO, fInt, fList, fTuple, slO, fSlF, fSlT, fSlN, fTup, fLst, flatD, eqS, fRgL1, fRgL2, rawAll, runF, startE, backO, O.fro?, putN, putD, envX, envB, xSl, Nat.reduceLeDiff, Nat.reduceLT, List.take_succ_cons, List.take_zero, List.any_cons, List.any_nil, List.all_cons, List.all_nil, List.map_cons, List.map_nil, List.cons_append, List.nil_append, List.append_nil, List.length_cons, List.length_nil, List.replicate_succ, List.replicate_zero, List.getElem?_cons_zero, List.getElem?_cons_succ, List.getElem?_nil, List.set_cons_zero, List.set_cons_succ, List.headD_cons, List.tail_cons, List.contains_cons, List.contains_nil, Option.map_some, Option.map_none, Option.isSome_some, Bool.and_true, Bool.true_and, Bool.and_false, Bool.false_and, Bool.or_true, Bool.true_or, Bool.or_false, Bool.false_or, Bool.not_true, Bool.not_false, if_true, if_false, reduceIte, reduceCtorEq, beq_self_eq_true, Nat.reduceSub, Nat.reduceAdd, Nat.reduceBEq, Nat.reduceEqDiff, decide_true, decide_false, Bool.false_eq_true, at0, at1, at2, at3, ix40, ix42, fEqI, ha, hn, hd, mulOk_r (j := 48271) (by decide), mulOk_r (j := 69621) (by decide), mulOk_r (j := 3571) (by decide), mulOk_fm (n := 2147483647) (by decide), mulOk_fm (n := 2147483399) (by decide), divOk_of (j := 97) (by decide), divOk_of (j := 11) (by decide), dec_ne (j := 2147483647) (by decide), dec_ne (j := 2147483399) (by decide), dec_ne (j := 2147483629) (by decide)] at e
      subst e
      exact ⟨_, _, _, (fmod_b h).1, (fmod_b h).2, rfl⟩
  · have hb2 : (b == 1) = false := by simpa using hb
    simp only [z_bind, z_bindE, z_bindS, z_ite, z_noX, z_iteX, z_get0, z_getN, z_getS, z_goN, z_goC, z_ev, z_pk, z_finN, z_finE, z_finP, z_app, z_C, z_Var, z_Fz, z_Mv, z_frz1, z_frz2, z_bOf, z_bool, z_bAnd, z_bOr, z_bNot, z_eAnd, z_eOr, z_eNot, z_eIf, z_Nx, z_Bk, z_Ct, z_Seq, z_seqN, z_seqR, z_seqB, z_seqC, z_Asg, z_Ret, z_RetN, z_Expr, z_If, z_iSeq, z_iApp, z_For, z_loopN, z_loopC, z_lkN, z_lkC, z_lkB, z_lkR, z_setN, z_setT, z_smN, z_smC, z_eFrz, z_aN, z_aE, z_aP, z_pN, z_pE, z_pP, z_call, z_callE, z_ckO, z_ckE, z_make, z_makeE, z_mkO, z_mkE, z_meth, z_finPk, z_finEv, z_prop, z_FldI, z_Raise, z_Try, z_tkO, z_tkE, z_tkI, z_hC, z_hN, z_App, z_SetIx, z_setK, z_chain, z_own, z_ownK, z_fSub, z_fMul, z_fDiv, z_fMod, z_fPow, z_fLt, z_fLe, z_fGt, z_fGe, z_fNeg, z_fAbs, z_fMin, z_fMax, z_Xis, z_Xf, z_Lc, z_lcN, z_lcC, z_lcK, z_yes, z_wN, z_wC, z_bkN, z_bkC, z_isN1, z_isN2, z_isN3, z_isN4, z_isN5, z_isN6, z_isB1, z_isB2, z_isB3, z_isB4, z_isB5, z_isB6, z_it1, z_it2, z_it3, z_len1, z_len2, z_len3, z_ix1, z_ix2, z_ix3, fAdd, strO, tupO, ownL, intO, fInt, fList, fTuple, slO, fSlF, fSlT, fSlN, fTup, fLst, flatD, eqS, fRgL1, fRgL2, rawAll, runF, startE, backO, O.fro?, putN, putD, envX, envB, xSl, Nat.reduceLeDiff, Nat.reduceLT, List.take_succ_cons, List.take_zero, List.any_cons, List.any_nil, List.all_cons, List.all_nil, List.map_cons, List.map_nil, List.cons_append, List.nil_append, List.append_nil, List.length_cons, List.length_nil, List.replicate_succ, List.replicate_zero, List.getElem?_cons_zero, List.getElem?_cons_succ, List.getElem?_nil, List.set_cons_zero, List.set_cons_succ, List.headD_cons, List.tail_cons, List.contains_cons, List.contains_nil, Option.map_some, Option.map_none, Option.isSome_some, Bool.and_true, Bool.true_and, Bool.and_false, Bool.false_and, Bool.or_true, Bool.true_or, Bool.or_false, Bool.false_or, Bool.not_true, Bool.not_false, if_true, if_false, reduceIte, reduceCtorEq, beq_self_eq_true, Nat.reduceSub, Nat.reduceAdd, Nat.reduceBEq, Nat.reduceEqDiff, decide_true, decide_false, Bool.false_eq_true, at0, at1, at2, at3, ix40, ix42, fEqI, hb2, hn, hd, mulOk_r (j := 48271) (by decide), mulOk_r (j := 69621) (by decide), mulOk_r (j := 3571) (by decide), mulOk_fm (n := 2147483647) (by decide), mulOk_fm (n := 2147483399) (by decide), divOk_of (j := 97) (by decide), divOk_of (j := 11) (by decide), dec_ne (j := 2147483647) (by decide), dec_ne (j := 2147483399) (by decide), dec_ne (j := 2147483629) (by decide)] at e
    subst e
    exact ⟨_, _, _, (fmod_b h).1, (fmod_b h).2, rfl⟩
abbrev scr (ns : List Int) : O := .fro (.node .lst (ns.map .int))
abbrev tup3 (x y z : Int) : O := .fro (.node .tup [.int x, .int y, .int z])
theorem cell_ok (ns : List Int) (j : Nat) : ∃ v, S_law_cell [scr ns, I (j : Int)] = .ok (I v) [scr ns, I (j : Int)] := by
  generalize e : S_law_cell [scr ns, I (j : Int)] = r
  unfold S_law_cell B_law_cell at e
  by_cases h : j < ns.length
  · have h1 : ((j : Int) < (ns.length : Int)) := by omega
    have h2 : (ns.map D.int)[j]? = some (.int ns[j]) := by
      rw [List.getElem?_map, List.getElem?_eq_getElem h]
      rfl
    simp only [z_bind, z_bindE, z_bindS, z_ite, z_noX, z_iteX, z_get0, z_getN, z_getS, z_goN, z_goC, z_ev, z_pk, z_finN, z_finE, z_finP, z_app, z_C, z_Var, z_Fz, z_Mv, z_frz1, z_frz2, z_bOf, z_bool, z_bAnd, z_bOr, z_bNot, z_eAnd, z_eOr, z_eNot, z_eIf, z_Nx, z_Bk, z_Ct, z_Seq, z_seqN, z_seqR, z_seqB, z_seqC, z_Asg, z_Ret, z_RetN, z_Expr, z_If, z_iSeq, z_iApp, z_For, z_loopN, z_loopC, z_lkN, z_lkC, z_lkB, z_lkR, z_setN, z_setT, z_smN, z_smC, z_eFrz, z_aN, z_aE, z_aP, z_pN, z_pE, z_pP, z_call, z_callE, z_ckO, z_ckE, z_make, z_makeE, z_mkO, z_mkE, z_meth, z_finPk, z_finEv, z_prop, z_FldI, z_Raise, z_Try, z_tkO, z_tkE, z_tkI, z_hC, z_hN, z_App, z_SetIx, z_setK, z_chain, z_own, z_ownK, z_fSub, z_fMul, z_fDiv, z_fMod, z_fPow, z_fLt, z_fLe, z_fGt, z_fGe, z_fNeg, z_fAbs, z_fMin, z_fMax, z_Xis, z_Xf, z_Lc, z_lcN, z_lcC, z_lcK, z_yes, z_wN, z_wC, z_bkN, z_bkC, z_isN1, z_isN2, z_isN3, z_isN4, z_isN5, z_isN6, z_isB1, z_isB2, z_isB3, z_isB4, z_isB5, z_isB6, z_it1, z_it2, z_it3, z_len1, z_len2, z_len3, z_ix1, z_ix2, z_ix3, fAdd, strO, tupO, ownL, intO, fInt, fList, fTuple, slO, fSlF, fSlT, fSlN, fTup, fLst, flatD, eqS, fRgL1, fRgL2, rawAll, runF, startE, backO, O.fro?, putN, putD, envX, envB, xSl, Nat.reduceLeDiff, Nat.reduceLT, List.take_succ_cons, List.take_zero, List.any_cons, List.any_nil, List.all_cons, List.all_nil, List.map_cons, List.map_nil, List.cons_append, List.nil_append, List.append_nil, List.length_cons, List.length_nil, List.replicate_succ, List.replicate_zero, List.getElem?_cons_zero, List.getElem?_cons_succ, List.getElem?_nil, List.set_cons_zero, List.set_cons_succ, List.headD_cons, List.tail_cons, List.contains_cons, List.contains_nil, Option.map_some, Option.map_none, Option.isSome_some, Bool.and_true, Bool.true_and, Bool.and_false, Bool.false_and, Bool.or_true, Bool.true_or, Bool.or_false, Bool.false_or, Bool.not_true, Bool.not_false, if_true, if_false, reduceIte, reduceCtorEq, beq_self_eq_true, Nat.reduceSub, Nat.reduceAdd, Nat.reduceBEq, Nat.reduceEqDiff, decide_true, decide_false, Bool.false_eq_true, List.length_map, h1, h2, at_nat] at e
    subst e
    exact ⟨_, rfl⟩
  · have h1 : ¬ ((j : Int) < (ns.length : Int)) := by omega
    simp only [z_bind, z_bindE, z_bindS, z_ite, z_noX, z_iteX, z_get0, z_getN, z_getS, z_goN, z_goC, z_ev, z_pk, z_finN, z_finE, z_finP, z_app, z_C, z_Var, z_Fz, z_Mv, z_frz1, z_frz2, z_bOf, z_bool, z_bAnd, z_bOr, z_bNot, z_eAnd, z_eOr, z_eNot, z_eIf, z_Nx, z_Bk, z_Ct, z_Seq, z_seqN, z_seqR, z_seqB, z_seqC, z_Asg, z_Ret, z_RetN, z_Expr, z_If, z_iSeq, z_iApp, z_For, z_loopN, z_loopC, z_lkN, z_lkC, z_lkB, z_lkR, z_setN, z_setT, z_smN, z_smC, z_eFrz, z_aN, z_aE, z_aP, z_pN, z_pE, z_pP, z_call, z_callE, z_ckO, z_ckE, z_make, z_makeE, z_mkO, z_mkE, z_meth, z_finPk, z_finEv, z_prop, z_FldI, z_Raise, z_Try, z_tkO, z_tkE, z_tkI, z_hC, z_hN, z_App, z_SetIx, z_setK, z_chain, z_own, z_ownK, z_fSub, z_fMul, z_fDiv, z_fMod, z_fPow, z_fLt, z_fLe, z_fGt, z_fGe, z_fNeg, z_fAbs, z_fMin, z_fMax, z_Xis, z_Xf, z_Lc, z_lcN, z_lcC, z_lcK, z_yes, z_wN, z_wC, z_bkN, z_bkC, z_isN1, z_isN2, z_isN3, z_isN4, z_isN5, z_isN6, z_isB1, z_isB2, z_isB3, z_isB4, z_isB5, z_isB6, z_it1, z_it2, z_it3, z_len1, z_len2, z_len3, z_ix1, z_ix2, z_ix3, fAdd, strO, tupO, ownL, intO, fInt, fList, fTuple, slO, fSlF, fSlT, fSlN, fTup, fLst, flatD, eqS, fRgL1, fRgL2, rawAll, runF, startE, backO, O.fro?, putN, putD, envX, envB, xSl, Nat.reduceLeDiff, Nat.reduceLT, List.take_succ_cons, List.take_zero, List.any_cons, List.any_nil, List.all_cons, List.all_nil, List.map_cons, List.map_nil, List.cons_append, List.nil_append, List.append_nil, List.length_cons, List.length_nil, List.replicate_succ, List.replicate_zero, List.getElem?_cons_zero, List.getElem?_cons_succ, List.getElem?_nil, List.set_cons_zero, List.set_cons_succ, List.headD_cons, List.tail_cons, List.contains_cons, List.contains_nil, Option.map_some, Option.map_none, Option.isSome_some, Bool.and_true, Bool.true_and, Bool.and_false, Bool.false_and, Bool.or_true, Bool.true_or, Bool.or_false, Bool.false_or, Bool.not_true, Bool.not_false, if_true, if_false, reduceIte, reduceCtorEq, beq_self_eq_true, Nat.reduceSub, Nat.reduceAdd, Nat.reduceBEq, Nat.reduceEqDiff, decide_true, decide_false, Bool.false_eq_true, List.length_map, h1] at e
    subst e
    exact ⟨_, rfl⟩
theorem hand_ok (ns : List Int) (j : Nat) : ∃ a b c d, S_law_hand [scr ns, I (j : Int)] = .ok (hnd a b c d) [scr ns, I (j : Int)] := by
  obtain ⟨v, e1⟩ := cell_ok ns j
  generalize e : S_law_hand [scr ns, I (j : Int)] = r
  unfold S_law_hand B_law_hand at e
  have p1 : powOk 10 18 = true := by decide
  simp only [z_bind, z_bindE, z_bindS, z_ite, z_noX, z_iteX, z_get0, z_getN, z_getS, z_goN, z_goC, z_ev, z_pk, z_finN, z_finE, z_finP, z_app, z_C, z_Var, z_Fz, z_Mv, z_frz1, z_frz2, z_bOf, z_bool, z_bAnd, z_bOr, z_bNot, z_eAnd, z_eOr, z_eNot, z_eIf, z_Nx, z_Bk, z_Ct, z_Seq, z_seqN, z_seqR, z_seqB, z_seqC, z_Asg, z_Ret, z_RetN, z_Expr, z_If, z_iSeq, z_iApp, z_For, z_loopN, z_loopC, z_lkN, z_lkC, z_lkB, z_lkR, z_setN, z_setT, z_smN, z_smC, z_eFrz, z_aN, z_aE, z_aP, z_pN, z_pE, z_pP, z_call, z_callE, z_ckO, z_ckE, z_make, z_makeE, z_mkO, z_mkE, z_meth, z_finPk, z_finEv, z_prop, z_FldI, z_Raise, z_Try, z_tkO, z_tkE, z_tkI, z_hC, z_hN, z_App, z_SetIx, z_setK, z_chain, z_own, z_ownK, z_fSub, z_fMul, z_fDiv, z_fMod, z_fPow, z_fLt, z_fLe, z_fGt, z_fGe, z_fNeg, z_fAbs, z_fMin, z_fMax, z_Xis, z_Xf, z_Lc, z_lcN, z_lcC, z_lcK, z_yes, z_wN, z_wC, z_bkN, z_bkC, z_isN1, z_isN2, z_isN3, z_isN4, z_isN5, z_isN6, z_isB1, z_isB2, z_isB3, z_isB4, z_isB5, z_isB6, z_it1, z_it2, z_it3, z_len1, z_len2, z_len3, z_ix1, z_ix2, z_ix3, fAdd, strO, tupO, ownL, intO, fInt, fList, fTuple, slO, fSlF, fSlT, fSlN, fTup, fLst, flatD, eqS, fRgL1, fRgL2, rawAll, runF, startE, backO, O.fro?, putN, putD, envX, envB, xSl, Nat.reduceLeDiff, Nat.reduceLT, List.take_succ_cons, List.take_zero, List.any_cons, List.any_nil, List.all_cons, List.all_nil, List.map_cons, List.map_nil, List.cons_append, List.nil_append, List.append_nil, List.length_cons, List.length_nil, List.replicate_succ, List.replicate_zero, List.getElem?_cons_zero, List.getElem?_cons_succ, List.getElem?_nil, List.set_cons_zero, List.set_cons_succ, List.headD_cons, List.tail_cons, List.contains_cons, List.contains_nil, Option.map_some, Option.map_none, Option.isSome_some, Bool.and_true, Bool.true_and, Bool.and_false, Bool.false_and, Bool.or_true, Bool.true_or, Bool.or_false, Bool.false_or, Bool.not_true, Bool.not_false, if_true, if_false, reduceIte, reduceCtorEq, beq_self_eq_true, Nat.reduceSub, Nat.reduceAdd, Nat.reduceBEq, Nat.reduceEqDiff, decide_true, decide_false, Bool.false_eq_true, e1, p1, mulOk_l (i := 7) (by decide), dec_ne (j := 2147483629) (by decide)] at e
  subst e
  exact ⟨_, _, _, _, rfl⟩
theorem rate_ok (a b c d : Int) : ∃ x y z a' c' : Int, (1 ≤ x ∧ x ≤ 3) ∧ (1 ≤ z ∧ z ≤ 6) ∧ (1 ≤ y ∧ y ≤ z) ∧ S_law_rate [hnd a b c d] = .ok (tup3 x y z) [hnd a' b c' d] := by
  obtain ⟨w, a1, c1, w0, w1, e1⟩ := take_ok a b c d 6 (by decide) (by decide)
  by_cases h3 : w < 3
  · obtain ⟨x, a2, c2, x0, x1, e2⟩ := take_ok a1 b c1 d 3 (by decide) (by decide)
    obtain ⟨y, a3, c3, y0, y1, e3⟩ := take_ok a2 b c2 d (1 + x) (by omega) (by omega)
    refine ⟨1, 1 + y, 1 + x, a3, c3, by omega, by omega, by omega, ?_⟩
    unfold S_law_rate B_law_rate
    simp only [z_bind, z_bindE, z_bindS, z_ite, z_noX, z_iteX, z_get0, z_getN, z_getS, z_goN, z_goC, z_ev, z_pk, z_finN, z_finE, z_finP, z_app, z_C, z_Var, z_Fz, z_Mv, z_frz1, z_frz2, z_bOf, z_bool, z_bAnd, z_bOr, z_bNot, z_eAnd, z_eOr, z_eNot, z_eIf, z_Nx, z_Bk, z_Ct, z_Seq, z_seqN, z_seqR, z_seqB, z_seqC, z_Asg, z_Ret, z_RetN, z_Expr, z_If, z_iSeq, z_iApp, z_For, z_loopN, z_loopC, z_lkN, z_lkC, z_lkB, z_lkR, z_setN, z_setT, z_smN, z_smC, z_eFrz, z_aN, z_aE, z_aP, z_pN, z_pE, z_pP, z_call, z_callE, z_ckO, z_ckE, z_make, z_makeE, z_mkO, z_mkE, z_meth, z_finPk, z_finEv, z_prop, z_FldI, z_Raise, z_Try, z_tkO, z_tkE, z_tkI, z_hC, z_hN, z_App, z_SetIx, z_setK, z_chain, z_own, z_ownK, z_fSub, z_fMul, z_fDiv, z_fMod, z_fPow, z_fLt, z_fLe, z_fGt, z_fGe, z_fNeg, z_fAbs, z_fMin, z_fMax, z_Xis, z_Xf, z_Lc, z_lcN, z_lcC, z_lcK, z_yes, z_wN, z_wC, z_bkN, z_bkC, z_isN1, z_isN2, z_isN3, z_isN4, z_isN5, z_isN6, z_isB1, z_isB2, z_isB3, z_isB4, z_isB5, z_isB6, z_it1, z_it2, z_it3, z_len1, z_len2, z_len3, z_ix1, z_ix2, z_ix3, fAdd, strO, tupO, ownL, intO, fInt, fList, fTuple, slO, fSlF, fSlT, fSlN, fTup, fLst, flatD, eqS, fRgL1, fRgL2, rawAll, runF, startE, backO, O.fro?, putN, putD, envX, envB, xSl, Nat.reduceLeDiff, Nat.reduceLT, List.take_succ_cons, List.take_zero, List.any_cons, List.any_nil, List.all_cons, List.all_nil, List.map_cons, List.map_nil, List.cons_append, List.nil_append, List.append_nil, List.length_cons, List.length_nil, List.replicate_succ, List.replicate_zero, List.getElem?_cons_zero, List.getElem?_cons_succ, List.getElem?_nil, List.set_cons_zero, List.set_cons_succ, List.headD_cons, List.tail_cons, List.contains_cons, List.contains_nil, Option.map_some, Option.map_none, Option.isSome_some, Bool.and_true, Bool.true_and, Bool.and_false, Bool.false_and, Bool.or_true, Bool.true_or, Bool.or_false, Bool.false_or, Bool.not_true, Bool.not_false, if_true, if_false, reduceIte, reduceCtorEq, beq_self_eq_true, Nat.reduceSub, Nat.reduceAdd, Nat.reduceBEq, Nat.reduceEqDiff, decide_true, decide_false, Bool.false_eq_true, e1, e2, e3, h3] <;> rfl
  · by_cases h5 : w < 5
    · obtain ⟨x, a2, c2, x0, x1, e2⟩ := take_ok a1 b c1 d 4 (by decide) (by decide)
      obtain ⟨y, a3, c3, y0, y1, e3⟩ := take_ok a2 b c2 d 2 (by omega) (by omega)
      obtain ⟨z, a4, c4, z0, z1, e4⟩ := take_ok a3 b c3 d (1 + x) (by omega) (by omega)
      refine ⟨1 + y, 1 + z, 1 + x, a4, c4, by omega, by omega, by omega, ?_⟩
      unfold S_law_rate B_law_rate
      simp only [z_bind, z_bindE, z_bindS, z_ite, z_noX, z_iteX, z_get0, z_getN, z_getS, z_goN, z_goC, z_ev, z_pk, z_finN, z_finE, z_finP, z_app, z_C, z_Var, z_Fz, z_Mv, z_frz1, z_frz2, z_bOf, z_bool, z_bAnd, z_bOr, z_bNot, z_eAnd, z_eOr, z_eNot, z_eIf, z_Nx, z_Bk, z_Ct, z_Seq, z_seqN, z_seqR, z_seqB, z_seqC, z_Asg, z_Ret, z_RetN, z_Expr, z_If, z_iSeq, z_iApp, z_For, z_loopN, z_loopC, z_lkN, z_lkC, z_lkB, z_lkR, z_setN, z_setT, z_smN, z_smC, z_eFrz, z_aN, z_aE, z_aP, z_pN, z_pE, z_pP, z_call, z_callE, z_ckO, z_ckE, z_make, z_makeE, z_mkO, z_mkE, z_meth, z_finPk, z_finEv, z_prop, z_FldI, z_Raise, z_Try, z_tkO, z_tkE, z_tkI, z_hC, z_hN, z_App, z_SetIx, z_setK, z_chain, z_own, z_ownK, z_fSub, z_fMul, z_fDiv, z_fMod, z_fPow, z_fLt, z_fLe, z_fGt, z_fGe, z_fNeg, z_fAbs, z_fMin, z_fMax, z_Xis, z_Xf, z_Lc, z_lcN, z_lcC, z_lcK, z_yes, z_wN, z_wC, z_bkN, z_bkC, z_isN1, z_isN2, z_isN3, z_isN4, z_isN5, z_isN6, z_isB1, z_isB2, z_isB3, z_isB4, z_isB5, z_isB6, z_it1, z_it2, z_it3, z_len1, z_len2, z_len3, z_ix1, z_ix2, z_ix3, fAdd, strO, tupO, ownL, intO, fInt, fList, fTuple, slO, fSlF, fSlT, fSlN, fTup, fLst, flatD, eqS, fRgL1, fRgL2, rawAll, runF, startE, backO, O.fro?, putN, putD, envX, envB, xSl, Nat.reduceLeDiff, Nat.reduceLT, List.take_succ_cons, List.take_zero, List.any_cons, List.any_nil, List.all_cons, List.all_nil, List.map_cons, List.map_nil, List.cons_append, List.nil_append, List.append_nil, List.length_cons, List.length_nil, List.replicate_succ, List.replicate_zero, List.getElem?_cons_zero, List.getElem?_cons_succ, List.getElem?_nil, List.set_cons_zero, List.set_cons_succ, List.headD_cons, List.tail_cons, List.contains_cons, List.contains_nil, Option.map_some, Option.map_none, Option.isSome_some, Bool.and_true, Bool.true_and, Bool.and_false, Bool.false_and, Bool.or_true, Bool.true_or, Bool.or_false, Bool.false_or, Bool.not_true, Bool.not_false, if_true, if_false, reduceIte, reduceCtorEq, beq_self_eq_true, Nat.reduceSub, Nat.reduceAdd, Nat.reduceBEq, Nat.reduceEqDiff, decide_true, decide_false, Bool.false_eq_true, e1, e2, e3, e4, h3, h5] <;> rfl
    · obtain ⟨x, a2, c2, x0, x1, e2⟩ := take_ok a1 b c1 d 6 (by decide) (by decide)
      obtain ⟨y, a3, c3, y0, y1, e3⟩ := take_ok a2 b c2 d 3 (by omega) (by omega)
      obtain ⟨z, a4, c4, z0, z1, e4⟩ := take_ok a3 b c3 d (1 + x) (by omega) (by omega)
      refine ⟨1 + y, 1 + z, 1 + x, a4, c4, by omega, by omega, by omega, ?_⟩
      unfold S_law_rate B_law_rate
      simp only [z_bind, z_bindE, z_bindS, z_ite, z_noX, z_iteX, z_get0, z_getN, z_getS, z_goN, z_goC, z_ev, z_pk, z_finN, z_finE, z_finP, z_app, z_C, z_Var, z_Fz, z_Mv, z_frz1, z_frz2, z_bOf, z_bool, z_bAnd, z_bOr, z_bNot, z_eAnd, z_eOr, z_eNot, z_eIf, z_Nx, z_Bk, z_Ct, z_Seq, z_seqN, z_seqR, z_seqB, z_seqC, z_Asg, z_Ret, z_RetN, z_Expr, z_If, z_iSeq, z_iApp, z_For, z_loopN, z_loopC, z_lkN, z_lkC, z_lkB, z_lkR, z_setN, z_setT, z_smN, z_smC, z_eFrz, z_aN, z_aE, z_aP, z_pN, z_pE, z_pP, z_call, z_callE, z_ckO, z_ckE, z_make, z_makeE, z_mkO, z_mkE, z_meth, z_finPk, z_finEv, z_prop, z_FldI, z_Raise, z_Try, z_tkO, z_tkE, z_tkI, z_hC, z_hN, z_App, z_SetIx, z_setK, z_chain, z_own, z_ownK, z_fSub, z_fMul, z_fDiv, z_fMod, z_fPow, z_fLt, z_fLe, z_fGt, z_fGe, z_fNeg, z_fAbs, z_fMin, z_fMax, z_Xis, z_Xf, z_Lc, z_lcN, z_lcC, z_lcK, z_yes, z_wN, z_wC, z_bkN, z_bkC, z_isN1, z_isN2, z_isN3, z_isN4, z_isN5, z_isN6, z_isB1, z_isB2, z_isB3, z_isB4, z_isB5, z_isB6, z_it1, z_it2, z_it3, z_len1, z_len2, z_len3, z_ix1, z_ix2, z_ix3, fAdd, strO, tupO, ownL, intO, fInt, fList, fTuple, slO, fSlF, fSlT, fSlN, fTup, fLst, flatD, eqS, fRgL1, fRgL2, rawAll, runF, startE, backO, O.fro?, putN, putD, envX, envB, xSl, Nat.reduceLeDiff, Nat.reduceLT, List.take_succ_cons, List.take_zero, List.any_cons, List.any_nil, List.all_cons, List.all_nil, List.map_cons, List.map_nil, List.cons_append, List.nil_append, List.append_nil, List.length_cons, List.length_nil, List.replicate_succ, List.replicate_zero, List.getElem?_cons_zero, List.getElem?_cons_succ, List.getElem?_nil, List.set_cons_zero, List.set_cons_succ, List.headD_cons, List.tail_cons, List.contains_cons, List.contains_nil, Option.map_some, Option.map_none, Option.isSome_some, Bool.and_true, Bool.true_and, Bool.and_false, Bool.false_and, Bool.or_true, Bool.true_or, Bool.or_false, Bool.false_or, Bool.not_true, Bool.not_false, if_true, if_false, reduceIte, reduceCtorEq, beq_self_eq_true, Nat.reduceSub, Nat.reduceAdd, Nat.reduceBEq, Nat.reduceEqDiff, decide_true, decide_false, Bool.false_eq_true, e1, e2, e3, e4, h3, h5] <;> rfl
theorem wide_ok (a b c d : Int) : ∃ v a' c' : Int, -1000000000 ≤ v ∧ v ≤ 1000000000 ∧ S_law_wide [hnd a b c d] = .ok (I v) [hnd a' b c' d] := by
  obtain ⟨w, a1, c1, w0, w1, e1⟩ := take_ok a b c d 2 (by decide) (by decide)
  obtain ⟨v, a2, c2, v0, v1, e2⟩ := take_ok a1 b c1 d 1000000001 (by decide) (by decide)
  refine ⟨(1 - 2 * w) * v, a2, c2, ?_, ?_, ?_⟩
  · have h : w = 0 ∨ w = 1 := by omega
    rcases h with rfl | rfl <;> omega
  · have h : w = 0 ∨ w = 1 := by omega
    rcases h with rfl | rfl <;> omega
  · unfold S_law_wide B_law_wide
    have p1 : powOk 10 9 = true := by decide
    have p2 : (10 : Int) ^ (9 : Int).toNat + 1 = 1000000001 := by decide
    have m2 : mulOk (1 - 2 * w) v = true := mulOk_l (by omega)
    simp only [z_bind, z_bindE, z_bindS, z_ite, z_noX, z_iteX, z_get0, z_getN, z_getS, z_goN, z_goC, z_ev, z_pk, z_finN, z_finE, z_finP, z_app, z_C, z_Var, z_Fz, z_Mv, z_frz1, z_frz2, z_bOf, z_bool, z_bAnd, z_bOr, z_bNot, z_eAnd, z_eOr, z_eNot, z_eIf, z_Nx, z_Bk, z_Ct, z_Seq, z_seqN, z_seqR, z_seqB, z_seqC, z_Asg, z_Ret, z_RetN, z_Expr, z_If, z_iSeq, z_iApp, z_For, z_loopN, z_loopC, z_lkN, z_lkC, z_lkB, z_lkR, z_setN, z_setT, z_smN, z_smC, z_eFrz, z_aN, z_aE, z_aP, z_pN, z_pE, z_pP, z_call, z_callE, z_ckO, z_ckE, z_make, z_makeE, z_mkO, z_mkE, z_meth, z_finPk, z_finEv, z_prop, z_FldI, z_Raise, z_Try, z_tkO, z_tkE, z_tkI, z_hC, z_hN, z_App, z_SetIx, z_setK, z_chain, z_own, z_ownK, z_fSub, z_fMul, z_fDiv, z_fMod, z_fPow, z_fLt, z_fLe, z_fGt, z_fGe, z_fNeg, z_fAbs, z_fMin, z_fMax, z_Xis, z_Xf, z_Lc, z_lcN, z_lcC, z_lcK, z_yes, z_wN, z_wC, z_bkN, z_bkC, z_isN1, z_isN2, z_isN3, z_isN4, z_isN5, z_isN6, z_isB1, z_isB2, z_isB3, z_isB4, z_isB5, z_isB6, z_it1, z_it2, z_it3, z_len1, z_len2, z_len3, z_ix1, z_ix2, z_ix3, fAdd, strO, tupO, ownL, intO, fInt, fList, fTuple, slO, fSlF, fSlT, fSlN, fTup, fLst, flatD, eqS, fRgL1, fRgL2, rawAll, runF, startE, backO, O.fro?, putN, putD, envX, envB, xSl, Nat.reduceLeDiff, Nat.reduceLT, List.take_succ_cons, List.take_zero, List.any_cons, List.any_nil, List.all_cons, List.all_nil, List.map_cons, List.map_nil, List.cons_append, List.nil_append, List.append_nil, List.length_cons, List.length_nil, List.replicate_succ, List.replicate_zero, List.getElem?_cons_zero, List.getElem?_cons_succ, List.getElem?_nil, List.set_cons_zero, List.set_cons_succ, List.headD_cons, List.tail_cons, List.contains_cons, List.contains_nil, Option.map_some, Option.map_none, Option.isSome_some, Bool.and_true, Bool.true_and, Bool.and_false, Bool.false_and, Bool.or_true, Bool.true_or, Bool.or_false, Bool.false_or, Bool.not_true, Bool.not_false, if_true, if_false, reduceIte, reduceCtorEq, beq_self_eq_true, Nat.reduceSub, Nat.reduceAdd, Nat.reduceBEq, Nat.reduceEqDiff, decide_true, decide_false, Bool.false_eq_true, e1, e2, p1, p2, m2, mulOk_l (i := 2) (by decide)] <;> rfl
theorem cut0 {x : D} (p q r : D) : (cutD [p, q, r] none (some 0)) = [] := rfl
theorem cut1 (p q r : D) : (cutD [p, q, r] none (some 1)) = [p] := rfl
theorem cut2 (p q r : D) : (cutD [p, q, r] none (some 2)) = [p, q] := rfl
theorem cuf1 (p q r : D) : (cutD [p, q, r] (some (0 + 1)) none) = [q, r] := rfl
theorem cuf2 (p q r : D) : (cutD [p, q, r] (some (1 + 1)) none) = [r] := rfl
theorem cuf3 (p q r : D) : (cutD [p, q, r] (some (2 + 1)) none) = [] := rfl
theorem triple_ok (a b c d : Int) : ∃ x y z a' c' : Int, S_law_triple [hnd a b c d] = .ok (tup3 x y z) [hnd a' b c' d] := by
  obtain ⟨w, a1, c1, w0, w1, e1⟩ := take_ok a b c d 5 (by decide) (by decide)
  by_cases k0 : w = 0
  · subst k0
    obtain ⟨x, a2, c2, x0, x1, e2⟩ := take_ok a1 b c1 d 7 (by decide) (by decide)
    obtain ⟨y, a3, c3, y0, y1, e3⟩ := take_ok a2 b c2 d 11 (by decide) (by decide)
    obtain ⟨z, a4, c4, z0, z1, e4⟩ := take_ok a3 b c3 d 10 (by decide) (by decide)
    refine ⟨x - 1, y - 1, z - 1, a4, c4, ?_⟩
    unfold S_law_triple B_law_triple
    simp only [z_bind, z_bindE, z_bindS, z_ite, z_noX, z_iteX, z_get0, z_getN, z_getS, z_goN, z_goC, z_ev, z_pk, z_finN, z_finE, z_finP, z_app, z_C, z_Var, z_Fz, z_Mv, z_frz1, z_frz2, z_bOf, z_bool, z_bAnd, z_bOr, z_bNot, z_eAnd, z_eOr, z_eNot, z_eIf, z_Nx, z_Bk, z_Ct, z_Seq, z_seqN, z_seqR, z_seqB, z_seqC, z_Asg, z_Ret, z_RetN, z_Expr, z_If, z_iSeq, z_iApp, z_For, z_loopN, z_loopC, z_lkN, z_lkC, z_lkB, z_lkR, z_setN, z_setT, z_smN, z_smC, z_eFrz, z_aN, z_aE, z_aP, z_pN, z_pE, z_pP, z_call, z_callE, z_ckO, z_ckE, z_make, z_makeE, z_mkO, z_mkE, z_meth, z_finPk, z_finEv, z_prop, z_FldI, z_Raise, z_Try, z_tkO, z_tkE, z_tkI, z_hC, z_hN, z_App, z_SetIx, z_setK, z_chain, z_own, z_ownK, z_fSub, z_fMul, z_fDiv, z_fMod, z_fPow, z_fLt, z_fLe, z_fGt, z_fGe, z_fNeg, z_fAbs, z_fMin, z_fMax, z_Xis, z_Xf, z_Lc, z_lcN, z_lcC, z_lcK, z_yes, z_wN, z_wC, z_bkN, z_bkC, z_isN1, z_isN2, z_isN3, z_isN4, z_isN5, z_isN6, z_isB1, z_isB2, z_isB3, z_isB4, z_isB5, z_isB6, z_it1, z_it2, z_it3, z_len1, z_len2, z_len3, z_ix1, z_ix2, z_ix3, fAdd, strO, tupO, ownL, intO, fInt, fList, fTuple, slO, fSlF, fSlT, fSlN, fTup, fLst, flatD, eqS, fRgL1, fRgL2, rawAll, runF, startE, backO, O.fro?, putN, putD, envX, envB, xSl, Nat.reduceLeDiff, Nat.reduceLT, List.take_succ_cons, List.take_zero, List.any_cons, List.any_nil, List.all_cons, List.all_nil, List.map_cons, List.map_nil, List.cons_append, List.nil_append, List.append_nil, List.length_cons, List.length_nil, List.replicate_succ, List.replicate_zero, List.getElem?_cons_zero, List.getElem?_cons_succ, List.getElem?_nil, List.set_cons_zero, List.set_cons_succ, List.headD_cons, List.tail_cons, List.contains_cons, List.contains_nil, Option.map_some, Option.map_none, Option.isSome_some, Bool.and_true, Bool.true_and, Bool.and_false, Bool.false_and, Bool.or_true, Bool.true_or, Bool.or_false, Bool.false_or, Bool.not_true, Bool.not_false, if_true, if_false, reduceIte, reduceCtorEq, beq_self_eq_true, Nat.reduceSub, Nat.reduceAdd, Nat.reduceBEq, Nat.reduceEqDiff, decide_true, decide_false, Bool.false_eq_true, e1, e2, e3, e4, fEqI] <;> rfl
  · have k0b : (w == 0) = false := by simpa using k0
    by_cases k1 : w = 1
    · subst k1
      obtain ⟨p, a2, c2, p0, p1, e2⟩ := take_ok a1 b c1 d 3 (by decide) (by decide)
      obtain ⟨v, a3, c3, v0, v1, e3⟩ := take_ok a2 b c2 d 11 (by decide) (by decide)
      obtain ⟨u, a4, c4, u0, u1, e4⟩ := take_ok a3 b c3 d 2 (by decide) (by decide)
      by_cases ku : u = 0
      · subst ku
        obtain ⟨n, a5, c5, n0, n1, e5⟩ := wide_ok a4 b c4 d
        obtain ⟨x, y, z, a6, c6, _, _, _, e6⟩ := rate_ok a5 b c5 d
        have hp : p = 0 ∨ p = 1 ∨ p = 2 := by omega
        rcases hp with rfl | rfl | rfl
        · refine ⟨n, y, z, a6, c6, ?_⟩
          unfold S_law_triple B_law_triple
          simp only [z_bind, z_bindE, z_bindS, z_ite, z_noX, z_iteX, z_get0, z_getN, z_getS, z_goN, z_goC, z_ev, z_pk, z_finN, z_finE, z_finP, z_app, z_C, z_Var, z_Fz, z_Mv, z_frz1, z_frz2, z_bOf, z_bool, z_bAnd, z_bOr, z_bNot, z_eAnd, z_eOr, z_eNot, z_eIf, z_Nx, z_Bk, z_Ct, z_Seq, z_seqN, z_seqR, z_seqB, z_seqC, z_Asg, z_Ret, z_RetN, z_Expr, z_If, z_iSeq, z_iApp, z_For, z_loopN, z_loopC, z_lkN, z_lkC, z_lkB, z_lkR, z_setN, z_setT, z_smN, z_smC, z_eFrz, z_aN, z_aE, z_aP, z_pN, z_pE, z_pP, z_call, z_callE, z_ckO, z_ckE, z_make, z_makeE, z_mkO, z_mkE, z_meth, z_finPk, z_finEv, z_prop, z_FldI, z_Raise, z_Try, z_tkO, z_tkE, z_tkI, z_hC, z_hN, z_App, z_SetIx, z_setK, z_chain, z_own, z_ownK, z_fSub, z_fMul, z_fDiv, z_fMod, z_fPow, z_fLt, z_fLe, z_fGt, z_fGe, z_fNeg, z_fAbs, z_fMin, z_fMax, z_Xis, z_Xf, z_Lc, z_lcN, z_lcC, z_lcK, z_yes, z_wN, z_wC, z_bkN, z_bkC, z_isN1, z_isN2, z_isN3, z_isN4, z_isN5, z_isN6, z_isB1, z_isB2, z_isB3, z_isB4, z_isB5, z_isB6, z_it1, z_it2, z_it3, z_len1, z_len2, z_len3, z_ix1, z_ix2, z_ix3, fAdd, strO, tupO, ownL, intO, fInt, fList, fTuple, slO, fSlF, fSlT, fSlN, fTup, fLst, flatD, eqS, fRgL1, fRgL2, rawAll, runF, startE, backO, O.fro?, putN, putD, envX, envB, xSl, Nat.reduceLeDiff, Nat.reduceLT, List.take_succ_cons, List.take_zero, List.any_cons, List.any_nil, List.all_cons, List.all_nil, List.map_cons, List.map_nil, List.cons_append, List.nil_append, List.append_nil, List.length_cons, List.length_nil, List.replicate_succ, List.replicate_zero, List.getElem?_cons_zero, List.getElem?_cons_succ, List.getElem?_nil, List.set_cons_zero, List.set_cons_succ, List.headD_cons, List.tail_cons, List.contains_cons, List.contains_nil, Option.map_some, Option.map_none, Option.isSome_some, Bool.and_true, Bool.true_and, Bool.and_false, Bool.false_and, Bool.or_true, Bool.true_or, Bool.or_false, Bool.false_or, Bool.not_true, Bool.not_false, if_true, if_false, reduceIte, reduceCtorEq, beq_self_eq_true, Nat.reduceSub, Nat.reduceAdd, Nat.reduceBEq, Nat.reduceEqDiff, decide_true, decide_false, Bool.false_eq_true, e1, e2, e3, e4, e5, e6, fEqI, cut0, cut1, cut2, cuf1, cuf2, cuf3] <;> rfl
        · refine ⟨x, n, z, a6, c6, ?_⟩
          unfold S_law_triple B_law_triple
          simp only [z_bind, z_bindE, z_bindS, z_ite, z_noX, z_iteX, z_get0, z_getN, z_getS, z_goN, z_goC, z_ev, z_pk, z_finN, z_finE, z_finP, z_app, z_C, z_Var, z_Fz, z_Mv, z_frz1, z_frz2, z_bOf, z_bool, z_bAnd, z_bOr, z_bNot, z_eAnd, z_eOr, z_eNot, z_eIf, z_Nx, z_Bk, z_Ct, z_Seq, z_seqN, z_seqR, z_seqB, z_seqC, z_Asg, z_Ret, z_RetN, z_Expr, z_If, z_iSeq, z_iApp, z_For, z_loopN, z_loopC, z_lkN, z_lkC, z_lkB, z_lkR, z_setN, z_setT, z_smN, z_smC, z_eFrz, z_aN, z_aE, z_aP, z_pN, z_pE, z_pP, z_call, z_callE, z_ckO, z_ckE, z_make, z_makeE, z_mkO, z_mkE, z_meth, z_finPk, z_finEv, z_prop, z_FldI, z_Raise, z_Try, z_tkO, z_tkE, z_tkI, z_hC, z_hN, z_App, z_SetIx, z_setK, z_chain, z_own, z_ownK, z_fSub, z_fMul, z_fDiv, z_fMod, z_fPow, z_fLt, z_fLe, z_fGt, z_fGe, z_fNeg, z_fAbs, z_fMin, z_fMax, z_Xis, z_Xf, z_Lc, z_lcN, z_lcC, z_lcK, z_yes, z_wN, z_wC, z_bkN, z_bkC, z_isN1, z_isN2, z_isN3, z_isN4, z_isN5, z_isN6, z_isB1, z_isB2, z_isB3, z_isB4, z_isB5, z_isB6, z_it1, z_it2, z_it3, z_len1, z_len2, z_len3, z_ix1, z_ix2, z_ix3, fAdd, strO, tupO, ownL, intO, fInt, fList, fTuple, slO, fSlF, fSlT, fSlN, fTup, fLst, flatD, eqS, fRgL1, fRgL2, rawAll, runF, startE, backO, O.fro?, putN, putD, envX, envB, xSl, Nat.reduceLeDiff, Nat.reduceLT, List.take_succ_cons, List.take_zero, List.any_cons, List.any_nil, List.all_cons, List.all_nil, List.map_cons, List.map_nil, List.cons_append, List.nil_append, List.append_nil, List.length_cons, List.length_nil, List.replicate_succ, List.replicate_zero, List.getElem?_cons_zero, List.getElem?_cons_succ, List.getElem?_nil, List.set_cons_zero, List.set_cons_succ, List.headD_cons, List.tail_cons, List.contains_cons, List.contains_nil, Option.map_some, Option.map_none, Option.isSome_some, Bool.and_true, Bool.true_and, Bool.and_false, Bool.false_and, Bool.or_true, Bool.true_or, Bool.or_false, Bool.false_or, Bool.not_true, Bool.not_false, if_true, if_false, reduceIte, reduceCtorEq, beq_self_eq_true, Nat.reduceSub, Nat.reduceAdd, Nat.reduceBEq, Nat.reduceEqDiff, decide_true, decide_false, Bool.false_eq_true, e1, e2, e3, e4, e5, e6, fEqI, cut0, cut1, cut2, cuf1, cuf2, cuf3] <;> rfl
        · refine ⟨x, y, n, a6, c6, ?_⟩
          unfold S_law_triple B_law_triple
          simp only [z_bind, z_bindE, z_bindS, z_ite, z_noX, z_iteX, z_get0, z_getN, z_getS, z_goN, z_goC, z_ev, z_pk, z_finN, z_finE, z_finP, z_app, z_C, z_Var, z_Fz, z_Mv, z_frz1, z_frz2, z_bOf, z_bool, z_bAnd, z_bOr, z_bNot, z_eAnd, z_eOr, z_eNot, z_eIf, z_Nx, z_Bk, z_Ct, z_Seq, z_seqN, z_seqR, z_seqB, z_seqC, z_Asg, z_Ret, z_RetN, z_Expr, z_If, z_iSeq, z_iApp, z_For, z_loopN, z_loopC, z_lkN, z_lkC, z_lkB, z_lkR, z_setN, z_setT, z_smN, z_smC, z_eFrz, z_aN, z_aE, z_aP, z_pN, z_pE, z_pP, z_call, z_callE, z_ckO, z_ckE, z_make, z_makeE, z_mkO, z_mkE, z_meth, z_finPk, z_finEv, z_prop, z_FldI, z_Raise, z_Try, z_tkO, z_tkE, z_tkI, z_hC, z_hN, z_App, z_SetIx, z_setK, z_chain, z_own, z_ownK, z_fSub, z_fMul, z_fDiv, z_fMod, z_fPow, z_fLt, z_fLe, z_fGt, z_fGe, z_fNeg, z_fAbs, z_fMin, z_fMax, z_Xis, z_Xf, z_Lc, z_lcN, z_lcC, z_lcK, z_yes, z_wN, z_wC, z_bkN, z_bkC, z_isN1, z_isN2, z_isN3, z_isN4, z_isN5, z_isN6, z_isB1, z_isB2, z_isB3, z_isB4, z_isB5, z_isB6, z_it1, z_it2, z_it3, z_len1, z_len2, z_len3, z_ix1, z_ix2, z_ix3, fAdd, strO, tupO, ownL, intO, fInt, fList, fTuple, slO, fSlF, fSlT, fSlN, fTup, fLst, flatD, eqS, fRgL1, fRgL2, rawAll, runF, startE, backO, O.fro?, putN, putD, envX, envB, xSl, Nat.reduceLeDiff, Nat.reduceLT, List.take_succ_cons, List.take_zero, List.any_cons, List.any_nil, List.all_cons, List.all_nil, List.map_cons, List.map_nil, List.cons_append, List.nil_append, List.append_nil, List.length_cons, List.length_nil, List.replicate_succ, List.replicate_zero, List.getElem?_cons_zero, List.getElem?_cons_succ, List.getElem?_nil, List.set_cons_zero, List.set_cons_succ, List.headD_cons, List.tail_cons, List.contains_cons, List.contains_nil, Option.map_some, Option.map_none, Option.isSome_some, Bool.and_true, Bool.true_and, Bool.and_false, Bool.false_and, Bool.or_true, Bool.true_or, Bool.or_false, Bool.false_or, Bool.not_true, Bool.not_false, if_true, if_false, reduceIte, reduceCtorEq, beq_self_eq_true, Nat.reduceSub, Nat.reduceAdd, Nat.reduceBEq, Nat.reduceEqDiff, decide_true, decide_false, Bool.false_eq_true, e1, e2, e3, e4, e5, e6, fEqI, cut0, cut1, cut2, cuf1, cuf2, cuf3] <;> rfl
      · have kub : (u == 0) = false := by simpa using ku
        obtain ⟨x, y, z, a6, c6, _, _, _, e6⟩ := rate_ok a4 b c4 d
        have hp : p = 0 ∨ p = 1 ∨ p = 2 := by omega
        rcases hp with rfl | rfl | rfl
        · refine ⟨v - 1, y, z, a6, c6, ?_⟩
          unfold S_law_triple B_law_triple
          simp only [z_bind, z_bindE, z_bindS, z_ite, z_noX, z_iteX, z_get0, z_getN, z_getS, z_goN, z_goC, z_ev, z_pk, z_finN, z_finE, z_finP, z_app, z_C, z_Var, z_Fz, z_Mv, z_frz1, z_frz2, z_bOf, z_bool, z_bAnd, z_bOr, z_bNot, z_eAnd, z_eOr, z_eNot, z_eIf, z_Nx, z_Bk, z_Ct, z_Seq, z_seqN, z_seqR, z_seqB, z_seqC, z_Asg, z_Ret, z_RetN, z_Expr, z_If, z_iSeq, z_iApp, z_For, z_loopN, z_loopC, z_lkN, z_lkC, z_lkB, z_lkR, z_setN, z_setT, z_smN, z_smC, z_eFrz, z_aN, z_aE, z_aP, z_pN, z_pE, z_pP, z_call, z_callE, z_ckO, z_ckE, z_make, z_makeE, z_mkO, z_mkE, z_meth, z_finPk, z_finEv, z_prop, z_FldI, z_Raise, z_Try, z_tkO, z_tkE, z_tkI, z_hC, z_hN, z_App, z_SetIx, z_setK, z_chain, z_own, z_ownK, z_fSub, z_fMul, z_fDiv, z_fMod, z_fPow, z_fLt, z_fLe, z_fGt, z_fGe, z_fNeg, z_fAbs, z_fMin, z_fMax, z_Xis, z_Xf, z_Lc, z_lcN, z_lcC, z_lcK, z_yes, z_wN, z_wC, z_bkN, z_bkC, z_isN1, z_isN2, z_isN3, z_isN4, z_isN5, z_isN6, z_isB1, z_isB2, z_isB3, z_isB4, z_isB5, z_isB6, z_it1, z_it2, z_it3, z_len1, z_len2, z_len3, z_ix1, z_ix2, z_ix3, fAdd, strO, tupO, ownL, intO, fInt, fList, fTuple, slO, fSlF, fSlT, fSlN, fTup, fLst, flatD, eqS, fRgL1, fRgL2, rawAll, runF, startE, backO, O.fro?, putN, putD, envX, envB, xSl, Nat.reduceLeDiff, Nat.reduceLT, List.take_succ_cons, List.take_zero, List.any_cons, List.any_nil, List.all_cons, List.all_nil, List.map_cons, List.map_nil, List.cons_append, List.nil_append, List.append_nil, List.length_cons, List.length_nil, List.replicate_succ, List.replicate_zero, List.getElem?_cons_zero, List.getElem?_cons_succ, List.getElem?_nil, List.set_cons_zero, List.set_cons_succ, List.headD_cons, List.tail_cons, List.contains_cons, List.contains_nil, Option.map_some, Option.map_none, Option.isSome_some, Bool.and_true, Bool.true_and, Bool.and_false, Bool.false_and, Bool.or_true, Bool.true_or, Bool.or_false, Bool.false_or, Bool.not_true, Bool.not_false, if_true, if_false, reduceIte, reduceCtorEq, beq_self_eq_true, Nat.reduceSub, Nat.reduceAdd, Nat.reduceBEq, Nat.reduceEqDiff, decide_true, decide_false, Bool.false_eq_true, e1, e2, e3, e4, e6, kub, fEqI, cut0, cut1, cut2, cuf1, cuf2, cuf3] <;> rfl
        · refine ⟨x, v - 1, z, a6, c6, ?_⟩
          unfold S_law_triple B_law_triple
          simp only [z_bind, z_bindE, z_bindS, z_ite, z_noX, z_iteX, z_get0, z_getN, z_getS, z_goN, z_goC, z_ev, z_pk, z_finN, z_finE, z_finP, z_app, z_C, z_Var, z_Fz, z_Mv, z_frz1, z_frz2, z_bOf, z_bool, z_bAnd, z_bOr, z_bNot, z_eAnd, z_eOr, z_eNot, z_eIf, z_Nx, z_Bk, z_Ct, z_Seq, z_seqN, z_seqR, z_seqB, z_seqC, z_Asg, z_Ret, z_RetN, z_Expr, z_If, z_iSeq, z_iApp, z_For, z_loopN, z_loopC, z_lkN, z_lkC, z_lkB, z_lkR, z_setN, z_setT, z_smN, z_smC, z_eFrz, z_aN, z_aE, z_aP, z_pN, z_pE, z_pP, z_call, z_callE, z_ckO, z_ckE, z_make, z_makeE, z_mkO, z_mkE, z_meth, z_finPk, z_finEv, z_prop, z_FldI, z_Raise, z_Try, z_tkO, z_tkE, z_tkI, z_hC, z_hN, z_App, z_SetIx, z_setK, z_chain, z_own, z_ownK, z_fSub, z_fMul, z_fDiv, z_fMod, z_fPow, z_fLt, z_fLe, z_fGt, z_fGe, z_fNeg, z_fAbs, z_fMin, z_fMax, z_Xis, z_Xf, z_Lc, z_lcN, z_lcC, z_lcK, z_yes, z_wN, z_wC, z_bkN, z_bkC, z_isN1, z_isN2, z_isN3, z_isN4, z_isN5, z_isN6, z_isB1, z_isB2, z_isB3, z_isB4, z_isB5, z_isB6, z_it1, z_it2, z_it3, z_len1, z_len2, z_len3, z_ix1, z_ix2, z_ix3, fAdd, strO, tupO, ownL, intO, fInt, fList, fTuple, slO, fSlF, fSlT, fSlN, fTup, fLst, flatD, eqS, fRgL1, fRgL2, rawAll, runF, startE, backO, O.fro?, putN, putD, envX, envB, xSl, Nat.reduceLeDiff, Nat.reduceLT, List.take_succ_cons, List.take_zero, List.any_cons, List.any_nil, List.all_cons, List.all_nil, List.map_cons, List.map_nil, List.cons_append, List.nil_append, List.append_nil, List.length_cons, List.length_nil, List.replicate_succ, List.replicate_zero, List.getElem?_cons_zero, List.getElem?_cons_succ, List.getElem?_nil, List.set_cons_zero, List.set_cons_succ, List.headD_cons, List.tail_cons, List.contains_cons, List.contains_nil, Option.map_some, Option.map_none, Option.isSome_some, Bool.and_true, Bool.true_and, Bool.and_false, Bool.false_and, Bool.or_true, Bool.true_or, Bool.or_false, Bool.false_or, Bool.not_true, Bool.not_false, if_true, if_false, reduceIte, reduceCtorEq, beq_self_eq_true, Nat.reduceSub, Nat.reduceAdd, Nat.reduceBEq, Nat.reduceEqDiff, decide_true, decide_false, Bool.false_eq_true, e1, e2, e3, e4, e6, kub, fEqI, cut0, cut1, cut2, cuf1, cuf2, cuf3] <;> rfl
        · refine ⟨x, y, v - 1, a6, c6, ?_⟩
          unfold S_law_triple B_law_triple
          simp only [z_bind, z_bindE, z_bindS, z_ite, z_noX, z_iteX, z_get0, z_getN, z_getS, z_goN, z_goC, z_ev, z_pk, z_finN, z_finE, z_finP, z_app, z_C, z_Var, z_Fz, z_Mv, z_frz1, z_frz2, z_bOf, z_bool, z_bAnd, z_bOr, z_bNot, z_eAnd, z_eOr, z_eNot, z_eIf, z_Nx, z_Bk, z_Ct, z_Seq, z_seqN, z_seqR, z_seqB, z_seqC, z_Asg, z_Ret, z_RetN, z_Expr, z_If, z_iSeq, z_iApp, z_For, z_loopN, z_loopC, z_lkN, z_lkC, z_lkB, z_lkR, z_setN, z_setT, z_smN, z_smC, z_eFrz, z_aN, z_aE, z_aP, z_pN, z_pE, z_pP, z_call, z_callE, z_ckO, z_ckE, z_make, z_makeE, z_mkO, z_mkE, z_meth, z_finPk, z_finEv, z_prop, z_FldI, z_Raise, z_Try, z_tkO, z_tkE, z_tkI, z_hC, z_hN, z_App, z_SetIx, z_setK, z_chain, z_own, z_ownK, z_fSub, z_fMul, z_fDiv, z_fMod, z_fPow, z_fLt, z_fLe, z_fGt, z_fGe, z_fNeg, z_fAbs, z_fMin, z_fMax, z_Xis, z_Xf, z_Lc, z_lcN, z_lcC, z_lcK, z_yes, z_wN, z_wC, z_bkN, z_bkC, z_isN1, z_isN2, z_isN3, z_isN4, z_isN5, z_isN6, z_isB1, z_isB2, z_isB3, z_isB4, z_isB5, z_isB6, z_it1, z_it2, z_it3, z_len1, z_len2, z_len3, z_ix1, z_ix2, z_ix3, fAdd, strO, tupO, ownL, intO, fInt, fList, fTuple, slO, fSlF, fSlT, fSlN, fTup, fLst, flatD, eqS, fRgL1, fRgL2, rawAll, runF, startE, backO, O.fro?, putN, putD, envX, envB, xSl, Nat.reduceLeDiff, Nat.reduceLT, List.take_succ_cons, List.take_zero, List.any_cons, List.any_nil, List.all_cons, List.all_nil, List.map_cons, List.map_nil, List.cons_append, List.nil_append, List.append_nil, List.length_cons, List.length_nil, List.replicate_succ, List.replicate_zero, List.getElem?_cons_zero, List.getElem?_cons_succ, List.getElem?_nil, List.set_cons_zero, List.set_cons_succ, List.headD_cons, List.tail_cons, List.contains_cons, List.contains_nil, Option.map_some, Option.map_none, Option.isSome_some, Bool.and_true, Bool.true_and, Bool.and_false, Bool.false_and, Bool.or_true, Bool.true_or, Bool.or_false, Bool.false_or, Bool.not_true, Bool.not_false, if_true, if_false, reduceIte, reduceCtorEq, beq_self_eq_true, Nat.reduceSub, Nat.reduceAdd, Nat.reduceBEq, Nat.reduceEqDiff, decide_true, decide_false, Bool.false_eq_true, e1, e2, e3, e4, e6, kub, fEqI, cut0, cut1, cut2, cuf1, cuf2, cuf3] <;> rfl
    · have k1b : (w == 1) = false := by simpa using k1
      by_cases k2 : w = 2
      · subst k2
        obtain ⟨x, a2, c2, _, _, e2⟩ := wide_ok a1 b c1 d
        obtain ⟨y, a3, c3, _, _, e3⟩ := wide_ok a2 b c2 d
        obtain ⟨z, a4, c4, _, _, e4⟩ := wide_ok a3 b c3 d
        refine ⟨x, y, z, a4, c4, ?_⟩
        unfold S_law_triple B_law_triple
        simp only [z_bind, z_bindE, z_bindS, z_ite, z_noX, z_iteX, z_get0, z_getN, z_getS, z_goN, z_goC, z_ev, z_pk, z_finN, z_finE, z_finP, z_app, z_C, z_Var, z_Fz, z_Mv, z_frz1, z_frz2, z_bOf, z_bool, z_bAnd, z_bOr, z_bNot, z_eAnd, z_eOr, z_eNot, z_eIf, z_Nx, z_Bk, z_Ct, z_Seq, z_seqN, z_seqR, z_seqB, z_seqC, z_Asg, z_Ret, z_RetN, z_Expr, z_If, z_iSeq, z_iApp, z_For, z_loopN, z_loopC, z_lkN, z_lkC, z_lkB, z_lkR, z_setN, z_setT, z_smN, z_smC, z_eFrz, z_aN, z_aE, z_aP, z_pN, z_pE, z_pP, z_call, z_callE, z_ckO, z_ckE, z_make, z_makeE, z_mkO, z_mkE, z_meth, z_finPk, z_finEv, z_prop, z_FldI, z_Raise, z_Try, z_tkO, z_tkE, z_tkI, z_hC, z_hN, z_App, z_SetIx, z_setK, z_chain, z_own, z_ownK, z_fSub, z_fMul, z_fDiv, z_fMod, z_fPow, z_fLt, z_fLe, z_fGt, z_fGe, z_fNeg, z_fAbs, z_fMin, z_fMax, z_Xis, z_Xf, z_Lc, z_lcN, z_lcC, z_lcK, z_yes, z_wN, z_wC, z_bkN, z_bkC, z_isN1, z_isN2, z_isN3, z_isN4, z_isN5, z_isN6, z_isB1, z_isB2, z_isB3, z_isB4, z_isB5, z_isB6, z_it1, z_it2, z_it3, z_len1, z_len2, z_len3, z_ix1, z_ix2, z_ix3, fAdd, strO, tupO, ownL, intO, fInt, fList, fTuple, slO, fSlF, fSlT, fSlN, fTup, fLst, flatD, eqS, fRgL1, fRgL2, rawAll, runF, startE, backO, O.fro?, putN, putD, envX, envB, xSl, Nat.reduceLeDiff, Nat.reduceLT, List.take_succ_cons, List.take_zero, List.any_cons, List.any_nil, List.all_cons, List.all_nil, List.map_cons, List.map_nil, List.cons_append, List.nil_append, List.append_nil, List.length_cons, List.length_nil, List.replicate_succ, List.replicate_zero, List.getElem?_cons_zero, List.getElem?_cons_succ, List.getElem?_nil, List.set_cons_zero, List.set_cons_succ, List.headD_cons, List.tail_cons, List.contains_cons, List.contains_nil, Option.map_some, Option.map_none, Option.isSome_some, Bool.and_true, Bool.true_and, Bool.and_false, Bool.false_and, Bool.or_true, Bool.true_or, Bool.or_false, Bool.false_or, Bool.not_true, Bool.not_false, if_true, if_false, reduceIte, reduceCtorEq, beq_self_eq_true, Nat.reduceSub, Nat.reduceAdd, Nat.reduceBEq, Nat.reduceEqDiff, decide_true, decide_false, Bool.false_eq_true, e1, e2, e3, e4, k0b, k1b, fEqI] <;> rfl
      · have k2b : (w == 2) = false := by simpa using k2
        obtain ⟨x, y, z, a6, c6, _, _, _, e6⟩ := rate_ok a1 b c1 d
        refine ⟨x, y, z, a6, c6, ?_⟩
        unfold S_law_triple B_law_triple
        simp only [z_bind, z_bindE, z_bindS, z_ite, z_noX, z_iteX, z_get0, z_getN, z_getS, z_goN, z_goC, z_ev, z_pk, z_finN, z_finE, z_finP, z_app, z_C, z_Var, z_Fz, z_Mv, z_frz1, z_frz2, z_bOf, z_bool, z_bAnd, z_bOr, z_bNot, z_eAnd, z_eOr, z_eNot, z_eIf, z_Nx, z_Bk, z_Ct, z_Seq, z_seqN, z_seqR, z_seqB, z_seqC, z_Asg, z_Ret, z_RetN, z_Expr, z_If, z_iSeq, z_iApp, z_For, z_loopN, z_loopC, z_lkN, z_lkC, z_lkB, z_lkR, z_setN, z_setT, z_smN, z_smC, z_eFrz, z_aN, z_aE, z_aP, z_pN, z_pE, z_pP, z_call, z_callE, z_ckO, z_ckE, z_make, z_makeE, z_mkO, z_mkE, z_meth, z_finPk, z_finEv, z_prop, z_FldI, z_Raise, z_Try, z_tkO, z_tkE, z_tkI, z_hC, z_hN, z_App, z_SetIx, z_setK, z_chain, z_own, z_ownK, z_fSub, z_fMul, z_fDiv, z_fMod, z_fPow, z_fLt, z_fLe, z_fGt, z_fGe, z_fNeg, z_fAbs, z_fMin, z_fMax, z_Xis, z_Xf, z_Lc, z_lcN, z_lcC, z_lcK, z_yes, z_wN, z_wC, z_bkN, z_bkC, z_isN1, z_isN2, z_isN3, z_isN4, z_isN5, z_isN6, z_isB1, z_isB2, z_isB3, z_isB4, z_isB5, z_isB6, z_it1, z_it2, z_it3, z_len1, z_len2, z_len3, z_ix1, z_ix2, z_ix3, fAdd, strO, tupO, ownL, intO, fInt, fList, fTuple, slO, fSlF, fSlT, fSlN, fTup, fLst, flatD, eqS, fRgL1, fRgL2, rawAll, runF, startE, backO, O.fro?, putN, putD, envX, envB, xSl, Nat.reduceLeDiff, Nat.reduceLT, List.take_succ_cons, List.take_zero, List.any_cons, List.any_nil, List.all_cons, List.all_nil, List.map_cons, List.map_nil, List.cons_append, List.nil_append, List.append_nil, List.length_cons, List.length_nil, List.replicate_succ, List.replicate_zero, List.getElem?_cons_zero, List.getElem?_cons_succ, List.getElem?_nil, List.set_cons_zero, List.set_cons_succ, List.headD_cons, List.tail_cons, List.contains_cons, List.contains_nil, Option.map_some, Option.map_none, Option.isSome_some, Bool.and_true, Bool.true_and, Bool.and_false, Bool.false_and, Bool.or_true, Bool.true_or, Bool.or_false, Bool.false_or, Bool.not_true, Bool.not_false, if_true, if_false, reduceIte, reduceCtorEq, beq_self_eq_true, Nat.reduceSub, Nat.reduceAdd, Nat.reduceBEq, Nat.reduceEqDiff, decide_true, decide_false, Bool.false_eq_true, e1, e6, k0b, k1b, k2b, fEqI] <;> rfl
/-! ### Rate -/
abbrev rateD (x y z : Int) : D := .node (.ins "Rate" ["burst", "num", "den"]) [.int x, .int y, .int z]
abbrev Good (x y z : Int) : Prop := (1 ≤ x ∧ x ≤ 3) ∧ (1 ≤ z ∧ z ≤ 6) ∧ (1 ≤ y ∧ y ≤ z)
theorem okB (s : Str) (h : s.length ≤ 100000) : okAllD [.par 1, .lit " of the rate is wrong"] [.str s] = true := by
  show (okM (.str s) && (true && true)) = true
  rw [show okM (.str s) = true from decide_eq_true h]
  rfl
theorem flB (d : D) : fldsD [("part", 1)] [d] = [d] := rfl
theorem fnB : fldsN [("part", 1)] = (["part"] : List Str) := rfl
theorem flC (d : D) : fldsD [("credit", 1)] [d] = [d] := rfl
theorem fnC : fldsN [("credit", 1)] = (["credit"] : List Str) := rfl
theorem p1 : putN "burst" [] = (["burst"] : List Str) := rfl
theorem p2 : putN "num" ["burst"] = (["burst", "num"] : List Str) := by decide +kernel
theorem p3 : putN "den" ["burst", "num"] = (["burst", "num", "den"] : List Str) := by decide +kernel
theorem q1 (d : D) : putD "burst" d [] [] = [d] := rfl
theorem ne1 : (("burst" : Str) = "num") = False := by simp only [eq_iff_iff, iff_false]; decide +kernel
theorem ne2 : (("burst" : Str) = "den") = False := by simp only [eq_iff_iff, iff_false]; decide +kernel
theorem ne3 : (("num" : Str) = "den") = False := by simp only [eq_iff_iff, iff_false]; decide +kernel
theorem q2 (a d : D) : putD "num" d ["burst"] [a] = [a, d] := by
  simp only [putD, ne1, if_false]
theorem q3 (a b d : D) : putD "den" d ["burst", "num"] [a, b] = [a, b, d] := by
  simp only [putD, ne2, ne3, if_false]
theorem init_ok {x y z : Int} (h : Good x y z) : S_Rate_init [.own (.ins "Rate" []) [], I x, I y, I z] = .ok (.fro .non) [.own (.ins "Rate" ["burst", "num", "den"]) [.int x, .int y, .int z], I x, I y, I z] := by
  obtain ⟨⟨h1, h2⟩, ⟨h3, h4⟩, h5, h6⟩ := h
  unfold S_Rate_init B_Rate_init
  simp only [z_bind, z_bindE, z_bindS, z_ite, z_noX, z_iteX, z_get0, z_getN, z_getS, z_goN, z_goC, z_ev, z_pk, z_finN, z_finE, z_finP, z_app, z_C, z_Var, z_Fz, z_Mv, z_frz1, z_frz2, z_bOf, z_bool, z_bAnd, z_bOr, z_bNot, z_eAnd, z_eOr, z_eNot, z_eIf, z_Nx, z_Bk, z_Ct, z_Seq, z_seqN, z_seqR, z_seqB, z_seqC, z_Asg, z_Ret, z_RetN, z_Expr, z_If, z_iSeq, z_iApp, z_For, z_loopN, z_loopC, z_lkN, z_lkC, z_lkB, z_lkR, z_setN, z_setT, z_smN, z_smC, z_eFrz, z_aN, z_aE, z_aP, z_pN, z_pE, z_pP, z_call, z_callE, z_ckO, z_ckE, z_make, z_makeE, z_mkO, z_mkE, z_meth, z_finPk, z_finEv, z_prop, z_FldI, z_Raise, z_Try, z_tkO, z_tkE, z_tkI, z_hC, z_hN, z_App, z_SetIx, z_setK, z_chain, z_own, z_ownK, z_fSub, z_fMul, z_fDiv, z_fMod, z_fPow, z_fLt, z_fLe, z_fGt, z_fGe, z_fNeg, z_fAbs, z_fMin, z_fMax, z_Xis, z_Xf, z_Lc, z_lcN, z_lcC, z_lcK, z_yes, z_wN, z_wC, z_bkN, z_bkC, z_isN1, z_isN2, z_isN3, z_isN4, z_isN5, z_isN6, z_isB1, z_isB2, z_isB3, z_isB4, z_isB5, z_isB6, z_it1, z_it2, z_it3, z_len1, z_len2, z_len3, z_ix1, z_ix2, z_ix3, fAdd, strO, tupO, ownL, intO, fInt, fList, fTuple, slO, fSlF, fSlT, fSlN, fTup, fLst, flatD, eqS, fRgL1, fRgL2, rawAll, runF, startE, backO, O.fro?, putN, putD, envX, envB, xSl, Nat.reduceLeDiff, Nat.reduceLT, List.take_succ_cons, List.take_zero, List.any_cons, List.any_nil, List.all_cons, List.all_nil, List.map_cons, List.map_nil, List.cons_append, List.nil_append, List.append_nil, List.length_cons, List.length_nil, List.replicate_succ, List.replicate_zero, List.getElem?_cons_zero, List.getElem?_cons_succ, List.getElem?_nil, List.set_cons_zero, List.set_cons_succ, List.headD_cons, List.tail_cons, List.contains_cons, List.contains_nil, Option.map_some, Option.map_none, Option.isSome_some, Bool.and_true, Bool.true_and, Bool.and_false, Bool.false_and, Bool.or_true, Bool.true_or, Bool.or_false, Bool.false_or, Bool.not_true, Bool.not_false, if_true, if_false, reduceIte, reduceCtorEq, beq_self_eq_true, Nat.reduceSub, Nat.reduceAdd, Nat.reduceBEq, Nat.reduceEqDiff, decide_true, decide_false, Bool.false_eq_true, h1, h2, h3, h4, h5, h6, p1, p2, p3, q1, q2, q3, and_self, Nat.reduceLT] <;> rfl
/-- the part that is wrong -/
def wrong (x y z : Int) : Option Str := if 1 ≤ x ∧ x ≤ 3 then (if 1 ≤ z ∧ z ≤ 6 then (if 1 ≤ y ∧ y ≤ z then none else some "num") else some "den") else some "burst"
theorem wrong_good {x y z : Int} (h : wrong x y z = none) : Good x y z := by
  unfold wrong at h
  split at h
  · split at h
    · split at h
      · rename_i a b c
        exact ⟨a, b, c⟩
      · cases h
    · cases h
  · cases h
theorem init_bad {x y z : Int} {p : Str} (h : wrong x y z = some p) : S_Rate_init [.own (.ins "Rate" []) [], I x, I y, I z] = .err "BadRate" ["part"] [.str p] [.own (.ins "Rate" []) [], I x, I y, I z] := by
  unfold wrong at h
  have l1 := okB "burst" (by decide +kernel)
  have l2 := okB "den" (by decide +kernel)
  have l3 := okB "num" (by decide +kernel)
  unfold S_Rate_init B_Rate_init
  by_cases h1 : 1 ≤ x
  · by_cases h2 : x ≤ 3
    · rw [if_pos ⟨h1, h2⟩] at h
      by_cases h3 : 1 ≤ z
      · by_cases h4 : z ≤ 6
        · rw [if_pos ⟨h3, h4⟩] at h
          by_cases h5 : 1 ≤ y
          · by_cases h6 : y ≤ z
            · rw [if_pos ⟨h5, h6⟩] at h
              cases h
            · rw [if_neg fun q => h6 q.2] at h
              cases h
              simp only [z_bind, z_bindE, z_bindS, z_ite, z_noX, z_iteX, z_get0, z_getN, z_getS, z_goN, z_goC, z_ev, z_pk, z_finN, z_finE, z_finP, z_app, z_C, z_Var, z_Fz, z_Mv, z_frz1, z_frz2, z_bOf, z_bool, z_bAnd, z_bOr, z_bNot, z_eAnd, z_eOr, z_eNot, z_eIf, z_Nx, z_Bk, z_Ct, z_Seq, z_seqN, z_seqR, z_seqB, z_seqC, z_Asg, z_Ret, z_RetN, z_Expr, z_If, z_iSeq, z_iApp, z_For, z_loopN, z_loopC, z_lkN, z_lkC, z_lkB, z_lkR, z_setN, z_setT, z_smN, z_smC, z_eFrz, z_aN, z_aE, z_aP, z_pN, z_pE, z_pP, z_call, z_callE, z_ckO, z_ckE, z_make, z_makeE, z_mkO, z_mkE, z_meth, z_finPk, z_finEv, z_prop, z_FldI, z_Raise, z_Try, z_tkO, z_tkE, z_tkI, z_hC, z_hN, z_App, z_SetIx, z_setK, z_chain, z_own, z_ownK, z_fSub, z_fMul, z_fDiv, z_fMod, z_fPow, z_fLt, z_fLe, z_fGt, z_fGe, z_fNeg, z_fAbs, z_fMin, z_fMax, z_Xis, z_Xf, z_Lc, z_lcN, z_lcC, z_lcK, z_yes, z_wN, z_wC, z_bkN, z_bkC, z_isN1, z_isN2, z_isN3, z_isN4, z_isN5, z_isN6, z_isB1, z_isB2, z_isB3, z_isB4, z_isB5, z_isB6, z_it1, z_it2, z_it3, z_len1, z_len2, z_len3, z_ix1, z_ix2, z_ix3, fAdd, strO, tupO, ownL, intO, fInt, fList, fTuple, slO, fSlF, fSlT, fSlN, fTup, fLst, flatD, eqS, fRgL1, fRgL2, rawAll, runF, startE, backO, O.fro?, putN, putD, envX, envB, xSl, Nat.reduceLeDiff, Nat.reduceLT, List.take_succ_cons, List.take_zero, List.any_cons, List.any_nil, List.all_cons, List.all_nil, List.map_cons, List.map_nil, List.cons_append, List.nil_append, List.append_nil, List.length_cons, List.length_nil, List.replicate_succ, List.replicate_zero, List.getElem?_cons_zero, List.getElem?_cons_succ, List.getElem?_nil, List.set_cons_zero, List.set_cons_succ, List.headD_cons, List.tail_cons, List.contains_cons, List.contains_nil, Option.map_some, Option.map_none, Option.isSome_some, Bool.and_true, Bool.true_and, Bool.and_false, Bool.false_and, Bool.or_true, Bool.true_or, Bool.or_false, Bool.false_or, Bool.not_true, Bool.not_false, if_true, if_false, reduceIte, reduceCtorEq, beq_self_eq_true, Nat.reduceSub, Nat.reduceAdd, Nat.reduceBEq, Nat.reduceEqDiff, decide_true, decide_false, Bool.false_eq_true, h1, h2, h3, h4, h5, h6, l3, flB, fnB] <;> rfl
          · rw [if_neg fun q => h5 q.1] at h
            cases h
            simp only [z_bind, z_bindE, z_bindS, z_ite, z_noX, z_iteX, z_get0, z_getN, z_getS, z_goN, z_goC, z_ev, z_pk, z_finN, z_finE, z_finP, z_app, z_C, z_Var, z_Fz, z_Mv, z_frz1, z_frz2, z_bOf, z_bool, z_bAnd, z_bOr, z_bNot, z_eAnd, z_eOr, z_eNot, z_eIf, z_Nx, z_Bk, z_Ct, z_Seq, z_seqN, z_seqR, z_seqB, z_seqC, z_Asg, z_Ret, z_RetN, z_Expr, z_If, z_iSeq, z_iApp, z_For, z_loopN, z_loopC, z_lkN, z_lkC, z_lkB, z_lkR, z_setN, z_setT, z_smN, z_smC, z_eFrz, z_aN, z_aE, z_aP, z_pN, z_pE, z_pP, z_call, z_callE, z_ckO, z_ckE, z_make, z_makeE, z_mkO, z_mkE, z_meth, z_finPk, z_finEv, z_prop, z_FldI, z_Raise, z_Try, z_tkO, z_tkE, z_tkI, z_hC, z_hN, z_App, z_SetIx, z_setK, z_chain, z_own, z_ownK, z_fSub, z_fMul, z_fDiv, z_fMod, z_fPow, z_fLt, z_fLe, z_fGt, z_fGe, z_fNeg, z_fAbs, z_fMin, z_fMax, z_Xis, z_Xf, z_Lc, z_lcN, z_lcC, z_lcK, z_yes, z_wN, z_wC, z_bkN, z_bkC, z_isN1, z_isN2, z_isN3, z_isN4, z_isN5, z_isN6, z_isB1, z_isB2, z_isB3, z_isB4, z_isB5, z_isB6, z_it1, z_it2, z_it3, z_len1, z_len2, z_len3, z_ix1, z_ix2, z_ix3, fAdd, strO, tupO, ownL, intO, fInt, fList, fTuple, slO, fSlF, fSlT, fSlN, fTup, fLst, flatD, eqS, fRgL1, fRgL2, rawAll, runF, startE, backO, O.fro?, putN, putD, envX, envB, xSl, Nat.reduceLeDiff, Nat.reduceLT, List.take_succ_cons, List.take_zero, List.any_cons, List.any_nil, List.all_cons, List.all_nil, List.map_cons, List.map_nil, List.cons_append, List.nil_append, List.append_nil, List.length_cons, List.length_nil, List.replicate_succ, List.replicate_zero, List.getElem?_cons_zero, List.getElem?_cons_succ, List.getElem?_nil, List.set_cons_zero, List.set_cons_succ, List.headD_cons, List.tail_cons, List.contains_cons, List.contains_nil, Option.map_some, Option.map_none, Option.isSome_some, Bool.and_true, Bool.true_and, Bool.and_false, Bool.false_and, Bool.or_true, Bool.true_or, Bool.or_false, Bool.false_or, Bool.not_true, Bool.not_false, if_true, if_false, reduceIte, reduceCtorEq, beq_self_eq_true, Nat.reduceSub, Nat.reduceAdd, Nat.reduceBEq, Nat.reduceEqDiff, decide_true, decide_false, Bool.false_eq_true, h1, h2, h3, h4, h5, l3, flB, fnB] <;> rfl
        · rw [if_neg fun q => h4 q.2] at h
          cases h
          simp only [z_bind, z_bindE, z_bindS, z_ite, z_noX, z_iteX, z_get0, z_getN, z_getS, z_goN, z_goC, z_ev, z_pk, z_finN, z_finE, z_finP, z_app, z_C, z_Var, z_Fz, z_Mv, z_frz1, z_frz2, z_bOf, z_bool, z_bAnd, z_bOr, z_bNot, z_eAnd, z_eOr, z_eNot, z_eIf, z_Nx, z_Bk, z_Ct, z_Seq, z_seqN, z_seqR, z_seqB, z_seqC, z_Asg, z_Ret, z_RetN, z_Expr, z_If, z_iSeq, z_iApp, z_For, z_loopN, z_loopC, z_lkN, z_lkC, z_lkB, z_lkR, z_setN, z_setT, z_smN, z_smC, z_eFrz, z_aN, z_aE, z_aP, z_pN, z_pE, z_pP, z_call, z_callE, z_ckO, z_ckE, z_make, z_makeE, z_mkO, z_mkE, z_meth, z_finPk, z_finEv, z_prop, z_FldI, z_Raise, z_Try, z_tkO, z_tkE, z_tkI, z_hC, z_hN, z_App, z_SetIx, z_setK, z_chain, z_own, z_ownK, z_fSub, z_fMul, z_fDiv, z_fMod, z_fPow, z_fLt, z_fLe, z_fGt, z_fGe, z_fNeg, z_fAbs, z_fMin, z_fMax, z_Xis, z_Xf, z_Lc, z_lcN, z_lcC, z_lcK, z_yes, z_wN, z_wC, z_bkN, z_bkC, z_isN1, z_isN2, z_isN3, z_isN4, z_isN5, z_isN6, z_isB1, z_isB2, z_isB3, z_isB4, z_isB5, z_isB6, z_it1, z_it2, z_it3, z_len1, z_len2, z_len3, z_ix1, z_ix2, z_ix3, fAdd, strO, tupO, ownL, intO, fInt, fList, fTuple, slO, fSlF, fSlT, fSlN, fTup, fLst, flatD, eqS, fRgL1, fRgL2, rawAll, runF, startE, backO, O.fro?, putN, putD, envX, envB, xSl, Nat.reduceLeDiff, Nat.reduceLT, List.take_succ_cons, List.take_zero, List.any_cons, List.any_nil, List.all_cons, List.all_nil, List.map_cons, List.map_nil, List.cons_append, List.nil_append, List.append_nil, List.length_cons, List.length_nil, List.replicate_succ, List.replicate_zero, List.getElem?_cons_zero, List.getElem?_cons_succ, List.getElem?_nil, List.set_cons_zero, List.set_cons_succ, List.headD_cons, List.tail_cons, List.contains_cons, List.contains_nil, Option.map_some, Option.map_none, Option.isSome_some, Bool.and_true, Bool.true_and, Bool.and_false, Bool.false_and, Bool.or_true, Bool.true_or, Bool.or_false, Bool.false_or, Bool.not_true, Bool.not_false, if_true, if_false, reduceIte, reduceCtorEq, beq_self_eq_true, Nat.reduceSub, Nat.reduceAdd, Nat.reduceBEq, Nat.reduceEqDiff, decide_true, decide_false, Bool.false_eq_true, h1, h2, h3, h4, l2, flB, fnB] <;> rfl
      · rw [if_neg fun q => h3 q.1] at h
        cases h
        simp only [z_bind, z_bindE, z_bindS, z_ite, z_noX, z_iteX, z_get0, z_getN, z_getS, z_goN, z_goC, z_ev, z_pk, z_finN, z_finE, z_finP, z_app, z_C, z_Var, z_Fz, z_Mv, z_frz1, z_frz2, z_bOf, z_bool, z_bAnd, z_bOr, z_bNot, z_eAnd, z_eOr, z_eNot, z_eIf, z_Nx, z_Bk, z_Ct, z_Seq, z_seqN, z_seqR, z_seqB, z_seqC, z_Asg, z_Ret, z_RetN, z_Expr, z_If, z_iSeq, z_iApp, z_For, z_loopN, z_loopC, z_lkN, z_lkC, z_lkB, z_lkR, z_setN, z_setT, z_smN, z_smC, z_eFrz, z_aN, z_aE, z_aP, z_pN, z_pE, z_pP, z_call, z_callE, z_ckO, z_ckE, z_make, z_makeE, z_mkO, z_mkE, z_meth, z_finPk, z_finEv, z_prop, z_FldI, z_Raise, z_Try, z_tkO, z_tkE, z_tkI, z_hC, z_hN, z_App, z_SetIx, z_setK, z_chain, z_own, z_ownK, z_fSub, z_fMul, z_fDiv, z_fMod, z_fPow, z_fLt, z_fLe, z_fGt, z_fGe, z_fNeg, z_fAbs, z_fMin, z_fMax, z_Xis, z_Xf, z_Lc, z_lcN, z_lcC, z_lcK, z_yes, z_wN, z_wC, z_bkN, z_bkC, z_isN1, z_isN2, z_isN3, z_isN4, z_isN5, z_isN6, z_isB1, z_isB2, z_isB3, z_isB4, z_isB5, z_isB6, z_it1, z_it2, z_it3, z_len1, z_len2, z_len3, z_ix1, z_ix2, z_ix3, fAdd, strO, tupO, ownL, intO, fInt, fList, fTuple, slO, fSlF, fSlT, fSlN, fTup, fLst, flatD, eqS, fRgL1, fRgL2, rawAll, runF, startE, backO, O.fro?, putN, putD, envX, envB, xSl, Nat.reduceLeDiff, Nat.reduceLT, List.take_succ_cons, List.take_zero, List.any_cons, List.any_nil, List.all_cons, List.all_nil, List.map_cons, List.map_nil, List.cons_append, List.nil_append, List.append_nil, List.length_cons, List.length_nil, List.replicate_succ, List.replicate_zero, List.getElem?_cons_zero, List.getElem?_cons_succ, List.getElem?_nil, List.set_cons_zero, List.set_cons_succ, List.headD_cons, List.tail_cons, List.contains_cons, List.contains_nil, Option.map_some, Option.map_none, Option.isSome_some, Bool.and_true, Bool.true_and, Bool.and_false, Bool.false_and, Bool.or_true, Bool.true_or, Bool.or_false, Bool.false_or, Bool.not_true, Bool.not_false, if_true, if_false, reduceIte, reduceCtorEq, beq_self_eq_true, Nat.reduceSub, Nat.reduceAdd, Nat.reduceBEq, Nat.reduceEqDiff, decide_true, decide_false, Bool.false_eq_true, h1, h2, h3, l2, flB, fnB] <;> rfl
    · rw [if_neg fun q => h2 q.2] at h
      cases h
      simp only [z_bind, z_bindE, z_bindS, z_ite, z_noX, z_iteX, z_get0, z_getN, z_getS, z_goN, z_goC, z_ev, z_pk, z_finN, z_finE, z_finP, z_app, z_C, z_Var, z_Fz, z_Mv, z_frz1, z_frz2, z_bOf, z_bool, z_bAnd, z_bOr, z_bNot, z_eAnd, z_eOr, z_eNot, z_eIf, z_Nx, z_Bk, z_Ct, z_Seq, z_seqN, z_seqR, z_seqB, z_seqC, z_Asg, z_Ret, z_RetN, z_Expr, z_If, z_iSeq, z_iApp, z_For, z_loopN, z_loopC, z_lkN, z_lkC, z_lkB, z_lkR, z_setN, z_setT, z_smN, z_smC, z_eFrz, z_aN, z_aE, z_aP, z_pN, z_pE, z_pP, z_call, z_callE, z_ckO, z_ckE, z_make, z_makeE, z_mkO, z_mkE, z_meth, z_finPk, z_finEv, z_prop, z_FldI, z_Raise, z_Try, z_tkO, z_tkE, z_tkI, z_hC, z_hN, z_App, z_SetIx, z_setK, z_chain, z_own, z_ownK, z_fSub, z_fMul, z_fDiv, z_fMod, z_fPow, z_fLt, z_fLe, z_fGt, z_fGe, z_fNeg, z_fAbs, z_fMin, z_fMax, z_Xis, z_Xf, z_Lc, z_lcN, z_lcC, z_lcK, z_yes, z_wN, z_wC, z_bkN, z_bkC, z_isN1, z_isN2, z_isN3, z_isN4, z_isN5, z_isN6, z_isB1, z_isB2, z_isB3, z_isB4, z_isB5, z_isB6, z_it1, z_it2, z_it3, z_len1, z_len2, z_len3, z_ix1, z_ix2, z_ix3, fAdd, strO, tupO, ownL, intO, fInt, fList, fTuple, slO, fSlF, fSlT, fSlN, fTup, fLst, flatD, eqS, fRgL1, fRgL2, rawAll, runF, startE, backO, O.fro?, putN, putD, envX, envB, xSl, Nat.reduceLeDiff, Nat.reduceLT, List.take_succ_cons, List.take_zero, List.any_cons, List.any_nil, List.all_cons, List.all_nil, List.map_cons, List.map_nil, List.cons_append, List.nil_append, List.append_nil, List.length_cons, List.length_nil, List.replicate_succ, List.replicate_zero, List.getElem?_cons_zero, List.getElem?_cons_succ, List.getElem?_nil, List.set_cons_zero, List.set_cons_succ, List.headD_cons, List.tail_cons, List.contains_cons, List.contains_nil, Option.map_some, Option.map_none, Option.isSome_some, Bool.and_true, Bool.true_and, Bool.and_false, Bool.false_and, Bool.or_true, Bool.true_or, Bool.or_false, Bool.false_or, Bool.not_true, Bool.not_false, if_true, if_false, reduceIte, reduceCtorEq, beq_self_eq_true, Nat.reduceSub, Nat.reduceAdd, Nat.reduceBEq, Nat.reduceEqDiff, decide_true, decide_false, Bool.false_eq_true, h1, h2, l1, flB, fnB] <;> rfl
  · rw [if_neg fun q => h1 q.1] at h
    cases h
    simp only [z_bind, z_bindE, z_bindS, z_ite, z_noX, z_iteX, z_get0, z_getN, z_getS, z_goN, z_goC, z_ev, z_pk, z_finN, z_finE, z_finP, z_app, z_C, z_Var, z_Fz, z_Mv, z_frz1, z_frz2, z_bOf, z_bool, z_bAnd, z_bOr, z_bNot, z_eAnd, z_eOr, z_eNot, z_eIf, z_Nx, z_Bk, z_Ct, z_Seq, z_seqN, z_seqR, z_seqB, z_seqC, z_Asg, z_Ret, z_RetN, z_Expr, z_If, z_iSeq, z_iApp, z_For, z_loopN, z_loopC, z_lkN, z_lkC, z_lkB, z_lkR, z_setN, z_setT, z_smN, z_smC, z_eFrz, z_aN, z_aE, z_aP, z_pN, z_pE, z_pP, z_call, z_callE, z_ckO, z_ckE, z_make, z_makeE, z_mkO, z_mkE, z_meth, z_finPk, z_finEv, z_prop, z_FldI, z_Raise, z_Try, z_tkO, z_tkE, z_tkI, z_hC, z_hN, z_App, z_SetIx, z_setK, z_chain, z_own, z_ownK, z_fSub, z_fMul, z_fDiv, z_fMod, z_fPow, z_fLt, z_fLe, z_fGt, z_fGe, z_fNeg, z_fAbs, z_fMin, z_fMax, z_Xis, z_Xf, z_Lc, z_lcN, z_lcC, z_lcK, z_yes, z_wN, z_wC, z_bkN, z_bkC, z_isN1, z_isN2, z_isN3, z_isN4, z_isN5, z_isN6, z_isB1, z_isB2, z_isB3, z_isB4, z_isB5, z_isB6, z_it1, z_it2, z_it3, z_len1, z_len2, z_len3, z_ix1, z_ix2, z_ix3, fAdd, strO, tupO, ownL, intO, fInt, fList, fTuple, slO, fSlF, fSlT, fSlN, fTup, fLst, flatD, eqS, fRgL1, fRgL2, rawAll, runF, startE, backO, O.fro?, putN, putD, envX, envB, xSl, Nat.reduceLeDiff, Nat.reduceLT, List.take_succ_cons, List.take_zero, List.any_cons, List.any_nil, List.all_cons, List.all_nil, List.map_cons, List.map_nil, List.cons_append, List.nil_append, List.append_nil, List.length_cons, List.length_nil, List.replicate_succ, List.replicate_zero, List.getElem?_cons_zero, List.getElem?_cons_succ, List.getElem?_nil, List.set_cons_zero, List.set_cons_succ, List.headD_cons, List.tail_cons, List.contains_cons, List.contains_nil, Option.map_some, Option.map_none, Option.isSome_some, Bool.and_true, Bool.true_and, Bool.and_false, Bool.false_and, Bool.or_true, Bool.true_or, Bool.or_false, Bool.false_or, Bool.not_true, Bool.not_false, if_true, if_false, reduceIte, reduceCtorEq, beq_self_eq_true, Nat.reduceSub, Nat.reduceAdd, Nat.reduceBEq, Nat.reduceEqDiff, decide_true, decide_false, Bool.false_eq_true, h1, l1, flB, fnB] <;> rfl
theorem fld1 (x y z : Int) : fldOf ["Rate"] "burst" [.fro (rateD x y z)] = some (I x) := by rfl
theorem fld2 (x y z : Int) : fldOf ["Rate"] "num" [.fro (rateD x y z)] = some (I y) := by
  have k : (["Rate"] : List Str).contains "Rate" = true := by decide +kernel
  simp only [fldOf, getF, ne1, k, if_true, if_false]
theorem fld3 (x y z : Int) : fldOf ["Rate"] "den" [.fro (rateD x y z)] = some (I z) := by
  have k : (["Rate"] : List Str).contains "Rate" = true := by decide +kernel
  simp only [fldOf, getF, ne2, ne3, k, if_true, if_false]
theorem full_ok {x y z : Int} (h : Good x y z) : S_Rate_full [.fro (rateD x y z)] = .ok (I (x * z + y - 1)) [.fro (rateD x y z)] := by
  have m : mulOk x z = true := mulOk_l (by omega)
  unfold S_Rate_full B_Rate_full
  simp only [z_bind, z_bindE, z_bindS, z_ite, z_noX, z_iteX, z_get0, z_getN, z_getS, z_goN, z_goC, z_ev, z_pk, z_finN, z_finE, z_finP, z_app, z_C, z_Var, z_Fz, z_Mv, z_frz1, z_frz2, z_bOf, z_bool, z_bAnd, z_bOr, z_bNot, z_eAnd, z_eOr, z_eNot, z_eIf, z_Nx, z_Bk, z_Ct, z_Seq, z_seqN, z_seqR, z_seqB, z_seqC, z_Asg, z_Ret, z_RetN, z_Expr, z_If, z_iSeq, z_iApp, z_For, z_loopN, z_loopC, z_lkN, z_lkC, z_lkB, z_lkR, z_setN, z_setT, z_smN, z_smC, z_eFrz, z_aN, z_aE, z_aP, z_pN, z_pE, z_pP, z_call, z_callE, z_ckO, z_ckE, z_make, z_makeE, z_mkO, z_mkE, z_meth, z_finPk, z_finEv, z_prop, z_FldI, z_Raise, z_Try, z_tkO, z_tkE, z_tkI, z_hC, z_hN, z_App, z_SetIx, z_setK, z_chain, z_own, z_ownK, z_fSub, z_fMul, z_fDiv, z_fMod, z_fPow, z_fLt, z_fLe, z_fGt, z_fGe, z_fNeg, z_fAbs, z_fMin, z_fMax, z_Xis, z_Xf, z_Lc, z_lcN, z_lcC, z_lcK, z_yes, z_wN, z_wC, z_bkN, z_bkC, z_isN1, z_isN2, z_isN3, z_isN4, z_isN5, z_isN6, z_isB1, z_isB2, z_isB3, z_isB4, z_isB5, z_isB6, z_it1, z_it2, z_it3, z_len1, z_len2, z_len3, z_ix1, z_ix2, z_ix3, fAdd, strO, tupO, ownL, intO, fInt, fList, fTuple, slO, fSlF, fSlT, fSlN, fTup, fLst, flatD, eqS, fRgL1, fRgL2, rawAll, runF, startE, backO, O.fro?, putN, putD, envX, envB, xSl, Nat.reduceLeDiff, Nat.reduceLT, List.take_succ_cons, List.take_zero, List.any_cons, List.any_nil, List.all_cons, List.all_nil, List.map_cons, List.map_nil, List.cons_append, List.nil_append, List.append_nil, List.length_cons, List.length_nil, List.replicate_succ, List.replicate_zero, List.getElem?_cons_zero, List.getElem?_cons_succ, List.getElem?_nil, List.set_cons_zero, List.set_cons_succ, List.headD_cons, List.tail_cons, List.contains_cons, List.contains_nil, Option.map_some, Option.map_none, Option.isSome_some, Bool.and_true, Bool.true_and, Bool.and_false, Bool.false_and, Bool.or_true, Bool.true_or, Bool.or_false, Bool.false_or, Bool.not_true, Bool.not_false, if_true, if_false, reduceIte, reduceCtorEq, beq_self_eq_true, Nat.reduceSub, Nat.reduceAdd, Nat.reduceBEq, Nat.reduceEqDiff, decide_true, decide_false, Bool.false_eq_true, fld1, fld2, fld3, m] <;> rfl
end G_lampcrossings_k36_rate_credits
end

section
set_option Elab.async false
set_option linter.all false
set_option maxRecDepth 100000
set_option maxHeartbeats 2000000
namespace G_lampcrossings_k36_rate_credits
open PySem PySem.Spec PyProof.Rows L2 DL
theorem isR (x y z : Int) : isIns "Rate" (some (.fro (rateD x y z))) = true := by simp [isIns, O.tag?]
theorem isA (x y z : Int) : isCls "Rate" "after" (some (.fro (rateD x y z))) = true := by
  show (decide (("Rate" : Str) = "Rate") && !([("burst" : Str), "num", "den"].contains "after")) = true
  decide +kernel
theorem okM_int {i : Int} (h : -1000000000 ≤ i ∧ i ≤ 1000000000) : okM (.int i) = true := by
  show decide (i.natAbs.log2 < 1920) = true
  refine decide_eq_true ?_
  by_cases h0 : i.natAbs = 0
  · rw [h0]
    decide
  · have q : i.natAbs < 2 ^ 30 := by omega
    have z := (Nat.log2_lt h0 (k := 30)).mpr q
    omega
theorem okC1 {i : Int} (h : -1000000000 ≤ i ∧ i ≤ 1000000000) : okAllD [.lit "the credit ", .par 1, .lit " is out of range"] [.int i] = true := by
  show (true && (okM (.int i) && (true && true))) = true
  rw [okM_int h]
  rfl
theorem okC2 {i : Int} (h : -1000000000 ≤ i ∧ i ≤ 1000000000) : okAllD [.lit "the credit ", .par 1, .lit " is too small"] [.int i] = true := by
  show (true && (okM (.int i) && (true && true))) = true
  rw [okM_int h]
  rfl
abbrev SC (i : Int) : Prop := -1000000000 ≤ i ∧ i ≤ 1000000000
theorem after_bad {x y z cr ca : Int} (h : Good x y z) (hc : SC cr) (hb : ¬ (0 ≤ cr ∧ cr ≤ x * z + y - 1)) :
    S_Rate_after [.fro (rateD x y z), I cr, I ca] = .err "BadCredit" ["credit"] [.int cr] [.fro (rateD x y z), I cr, I ca] := by
  unfold S_Rate_after B_Rate_after
  have e := full_ok h
  by_cases h1 : 0 ≤ cr
  · have h2 : ¬ cr ≤ x * z + y - 1 := fun q => hb ⟨h1, q⟩
    simp only [z_bind, z_bindE, z_bindS, z_ite, z_noX, z_iteX, z_get0, z_getN, z_getS, z_goN, z_goC, z_ev, z_pk, z_finN, z_finE, z_finP, z_app, z_C, z_Var, z_Fz, z_Mv, z_frz1, z_frz2, z_bOf, z_bool, z_bAnd, z_bOr, z_bNot, z_eAnd, z_eOr, z_eNot, z_eIf, z_Nx, z_Bk, z_Ct, z_Seq, z_seqN, z_seqR, z_seqB, z_seqC, z_Asg, z_Ret, z_RetN, z_Expr, z_If, z_iSeq, z_iApp, z_For, z_loopN, z_loopC, z_lkN, z_lkC, z_lkB, z_lkR, z_setN, z_setT, z_smN, z_smC, z_eFrz, z_aN, z_aE, z_aP, z_pN, z_pE, z_pP, z_call, z_callE, z_ckO, z_ckE, z_make, z_makeE, z_mkO, z_mkE, z_meth, z_finPk, z_finEv, z_prop, z_FldI, z_Raise, z_Try, z_tkO, z_tkE, z_tkI, z_hC, z_hN, z_App, z_SetIx, z_setK, z_chain, z_own, z_ownK, z_fSub, z_fMul, z_fDiv, z_fMod, z_fPow, z_fLt, z_fLe, z_fGt, z_fGe, z_fNeg, z_fAbs, z_fMin, z_fMax, z_Xis, z_Xf, z_Lc, z_lcN, z_lcC, z_lcK, z_yes, z_wN, z_wC, z_bkN, z_bkC, z_isN1, z_isN2, z_isN3, z_isN4, z_isN5, z_isN6, z_isB1, z_isB2, z_isB3, z_isB4, z_isB5, z_isB6, z_it1, z_it2, z_it3, z_len1, z_len2, z_len3, z_ix1, z_ix2, z_ix3, fAdd, strO, tupO, ownL, intO, fInt, fList, fTuple, slO, fSlF, fSlT, fSlN, fTup, fLst, flatD, eqS, fRgL1, fRgL2, rawAll, runF, startE, backO, O.fro?, putN, putD, envX, envB, xSl, Nat.reduceLeDiff, Nat.reduceLT, List.take_succ_cons, List.take_zero, List.any_cons, List.any_nil, List.all_cons, List.all_nil, List.map_cons, List.map_nil, List.cons_append, List.nil_append, List.append_nil, List.length_cons, List.length_nil, List.replicate_succ, List.replicate_zero, List.getElem?_cons_zero, List.getElem?_cons_succ, List.getElem?_nil, List.set_cons_zero, List.set_cons_succ, List.headD_cons, List.tail_cons, List.contains_cons, List.contains_nil, Option.map_some, Option.map_none, Option.isSome_some, Bool.and_true, Bool.true_and, Bool.and_false, Bool.false_and, Bool.or_true, Bool.true_or, Bool.or_false, Bool.false_or, Bool.not_true, Bool.not_false, if_true, if_false, reduceIte, reduceCtorEq, beq_self_eq_true, Nat.reduceSub, Nat.reduceAdd, Nat.reduceBEq, Nat.reduceEqDiff, decide_true, decide_false, Bool.false_eq_true, h1, h2, e, isR, okC1 hc, flC, fnC] <;> rfl
  · simp only [z_bind, z_bindE, z_bindS, z_ite, z_noX, z_iteX, z_get0, z_getN, z_getS, z_goN, z_goC, z_ev, z_pk, z_finN, z_finE, z_finP, z_app, z_C, z_Var, z_Fz, z_Mv, z_frz1, z_frz2, z_bOf, z_bool, z_bAnd, z_bOr, z_bNot, z_eAnd, z_eOr, z_eNot, z_eIf, z_Nx, z_Bk, z_Ct, z_Seq, z_seqN, z_seqR, z_seqB, z_seqC, z_Asg, z_Ret, z_RetN, z_Expr, z_If, z_iSeq, z_iApp, z_For, z_loopN, z_loopC, z_lkN, z_lkC, z_lkB, z_lkR, z_setN, z_setT, z_smN, z_smC, z_eFrz, z_aN, z_aE, z_aP, z_pN, z_pE, z_pP, z_call, z_callE, z_ckO, z_ckE, z_make, z_makeE, z_mkO, z_mkE, z_meth, z_finPk, z_finEv, z_prop, z_FldI, z_Raise, z_Try, z_tkO, z_tkE, z_tkI, z_hC, z_hN, z_App, z_SetIx, z_setK, z_chain, z_own, z_ownK, z_fSub, z_fMul, z_fDiv, z_fMod, z_fPow, z_fLt, z_fLe, z_fGt, z_fGe, z_fNeg, z_fAbs, z_fMin, z_fMax, z_Xis, z_Xf, z_Lc, z_lcN, z_lcC, z_lcK, z_yes, z_wN, z_wC, z_bkN, z_bkC, z_isN1, z_isN2, z_isN3, z_isN4, z_isN5, z_isN6, z_isB1, z_isB2, z_isB3, z_isB4, z_isB5, z_isB6, z_it1, z_it2, z_it3, z_len1, z_len2, z_len3, z_ix1, z_ix2, z_ix3, fAdd, strO, tupO, ownL, intO, fInt, fList, fTuple, slO, fSlF, fSlT, fSlN, fTup, fLst, flatD, eqS, fRgL1, fRgL2, rawAll, runF, startE, backO, O.fro?, putN, putD, envX, envB, xSl, Nat.reduceLeDiff, Nat.reduceLT, List.take_succ_cons, List.take_zero, List.any_cons, List.any_nil, List.all_cons, List.all_nil, List.map_cons, List.map_nil, List.cons_append, List.nil_append, List.append_nil, List.length_cons, List.length_nil, List.replicate_succ, List.replicate_zero, List.getElem?_cons_zero, List.getElem?_cons_succ, List.getElem?_nil, List.set_cons_zero, List.set_cons_succ, List.headD_cons, List.tail_cons, List.contains_cons, List.contains_nil, Option.map_some, Option.map_none, Option.isSome_some, Bool.and_true, Bool.true_and, Bool.and_false, Bool.false_and, Bool.or_true, Bool.true_or, Bool.or_false, Bool.false_or, Bool.not_true, Bool.not_false, if_true, if_false, reduceIte, reduceCtorEq, beq_self_eq_true, Nat.reduceSub, Nat.reduceAdd, Nat.reduceBEq, Nat.reduceEqDiff, decide_true, decide_false, Bool.false_eq_true, h1, okC1 hc, flC, fnC] <;> rfl
theorem after_no {x y z cr : Int} (h : Good x y z) (hc : SC cr) (h1 : 0 ≤ cr) (h2 : cr ≤ x * z + y - 1) (h3 : cr < z) :
    S_Rate_after [.fro (rateD x y z), I cr, I 1] = .err "NoCredit" ["credit"] [.int cr] [.fro (rateD x y z), I cr, I 1] := by
  unfold S_Rate_after B_Rate_after
  have e := full_ok h
  simp only [z_bind, z_bindE, z_bindS, z_ite, z_noX, z_iteX, z_get0, z_getN, z_getS, z_goN, z_goC, z_ev, z_pk, z_finN, z_finE, z_finP, z_app, z_C, z_Var, z_Fz, z_Mv, z_frz1, z_frz2, z_bOf, z_bool, z_bAnd, z_bOr, z_bNot, z_eAnd, z_eOr, z_eNot, z_eIf, z_Nx, z_Bk, z_Ct, z_Seq, z_seqN, z_seqR, z_seqB, z_seqC, z_Asg, z_Ret, z_RetN, z_Expr, z_If, z_iSeq, z_iApp, z_For, z_loopN, z_loopC, z_lkN, z_lkC, z_lkB, z_lkR, z_setN, z_setT, z_smN, z_smC, z_eFrz, z_aN, z_aE, z_aP, z_pN, z_pE, z_pP, z_call, z_callE, z_ckO, z_ckE, z_make, z_makeE, z_mkO, z_mkE, z_meth, z_finPk, z_finEv, z_prop, z_FldI, z_Raise, z_Try, z_tkO, z_tkE, z_tkI, z_hC, z_hN, z_App, z_SetIx, z_setK, z_chain, z_own, z_ownK, z_fSub, z_fMul, z_fDiv, z_fMod, z_fPow, z_fLt, z_fLe, z_fGt, z_fGe, z_fNeg, z_fAbs, z_fMin, z_fMax, z_Xis, z_Xf, z_Lc, z_lcN, z_lcC, z_lcK, z_yes, z_wN, z_wC, z_bkN, z_bkC, z_isN1, z_isN2, z_isN3, z_isN4, z_isN5, z_isN6, z_isB1, z_isB2, z_isB3, z_isB4, z_isB5, z_isB6, z_it1, z_it2, z_it3, z_len1, z_len2, z_len3, z_ix1, z_ix2, z_ix3, fAdd, strO, tupO, ownL, intO, fInt, fList, fTuple, slO, fSlF, fSlT, fSlN, fTup, fLst, flatD, eqS, fRgL1, fRgL2, rawAll, runF, startE, backO, O.fro?, putN, putD, envX, envB, xSl, Nat.reduceLeDiff, Nat.reduceLT, List.take_succ_cons, List.take_zero, List.any_cons, List.any_nil, List.all_cons, List.all_nil, List.map_cons, List.map_nil, List.cons_append, List.nil_append, List.append_nil, List.length_cons, List.length_nil, List.replicate_succ, List.replicate_zero, List.getElem?_cons_zero, List.getElem?_cons_succ, List.getElem?_nil, List.set_cons_zero, List.set_cons_succ, List.headD_cons, List.tail_cons, List.contains_cons, List.contains_nil, Option.map_some, Option.map_none, Option.isSome_some, Bool.and_true, Bool.true_and, Bool.and_false, Bool.false_and, Bool.or_true, Bool.true_or, Bool.or_false, Bool.false_or, Bool.not_true, Bool.not_false, if_true, if_false, reduceIte, reduceCtorEq, beq_self_eq_true, Nat.reduceSub, Nat.reduceAdd, Nat.reduceBEq, Nat.reduceEqDiff, decide_true, decide_false, Bool.false_eq_true, h1, h2, h3, e, isR, okC2 hc, flC, fnC, fEqI, fld3] <;> rfl
theorem after_ok {x y z cr ca : Int} (h : Good x y z) (h1 : 0 ≤ cr) (h2 : cr ≤ x * z + y - 1) (h3 : ca = 1 → ¬ cr < z) :
    S_Rate_after [.fro (rateD x y z), I cr, I ca] = .ok (I (if cr - ca * z + y < x * z + y - 1 then cr - ca * z + y else x * z + y - 1)) [.fro (rateD x y z), I cr, I ca] := by
  unfold S_Rate_after B_Rate_after
  have e := full_ok h
  have m : mulOk ca z = true := mulOk_r (by omega)
  by_cases hc : ca = 1
  · have h4 := h3 hc
    subst hc
    simp only [z_bind, z_bindE, z_bindS, z_ite, z_noX, z_iteX, z_get0, z_getN, z_getS, z_goN, z_goC, z_ev, z_pk, z_finN, z_finE, z_finP, z_app, z_C, z_Var, z_Fz, z_Mv, z_frz1, z_frz2, z_bOf, z_bool, z_bAnd, z_bOr, z_bNot, z_eAnd, z_eOr, z_eNot, z_eIf, z_Nx, z_Bk, z_Ct, z_Seq, z_seqN, z_seqR, z_seqB, z_seqC, z_Asg, z_Ret, z_RetN, z_Expr, z_If, z_iSeq, z_iApp, z_For, z_loopN, z_loopC, z_lkN, z_lkC, z_lkB, z_lkR, z_setN, z_setT, z_smN, z_smC, z_eFrz, z_aN, z_aE, z_aP, z_pN, z_pE, z_pP, z_call, z_callE, z_ckO, z_ckE, z_make, z_makeE, z_mkO, z_mkE, z_meth, z_finPk, z_finEv, z_prop, z_FldI, z_Raise, z_Try, z_tkO, z_tkE, z_tkI, z_hC, z_hN, z_App, z_SetIx, z_setK, z_chain, z_own, z_ownK, z_fSub, z_fMul, z_fDiv, z_fMod, z_fPow, z_fLt, z_fLe, z_fGt, z_fGe, z_fNeg, z_fAbs, z_fMin, z_fMax, z_Xis, z_Xf, z_Lc, z_lcN, z_lcC, z_lcK, z_yes, z_wN, z_wC, z_bkN, z_bkC, z_isN1, z_isN2, z_isN3, z_isN4, z_isN5, z_isN6, z_isB1, z_isB2, z_isB3, z_isB4, z_isB5, z_isB6, z_it1, z_it2, z_it3, z_len1, z_len2, z_len3, z_ix1, z_ix2, z_ix3, fAdd, strO, tupO, ownL, intO, fInt, fList, fTuple, slO, fSlF, fSlT, fSlN, fTup, fLst, flatD, eqS, fRgL1, fRgL2, rawAll, runF, startE, backO, O.fro?, putN, putD, envX, envB, xSl, Nat.reduceLeDiff, Nat.reduceLT, List.take_succ_cons, List.take_zero, List.any_cons, List.any_nil, List.all_cons, List.all_nil, List.map_cons, List.map_nil, List.cons_append, List.nil_append, List.append_nil, List.length_cons, List.length_nil, List.replicate_succ, List.replicate_zero, List.getElem?_cons_zero, List.getElem?_cons_succ, List.getElem?_nil, List.set_cons_zero, List.set_cons_succ, List.headD_cons, List.tail_cons, List.contains_cons, List.contains_nil, Option.map_some, Option.map_none, Option.isSome_some, Bool.and_true, Bool.true_and, Bool.and_false, Bool.false_and, Bool.or_true, Bool.true_or, Bool.or_false, Bool.false_or, Bool.not_true, Bool.not_false, if_true, if_false, reduceIte, reduceCtorEq, beq_self_eq_true, Nat.reduceSub, Nat.reduceAdd, Nat.reduceBEq, Nat.reduceEqDiff, decide_true, decide_false, Bool.false_eq_true, h1, h2, h4, e, m, isR, fEqI, fld2, fld3] <;> rfl
  · have hc2 : (ca == 1) = false := by simpa using hc
    simp only [z_bind, z_bindE, z_bindS, z_ite, z_noX, z_iteX, z_get0, z_getN, z_getS, z_goN, z_goC, z_ev, z_pk, z_finN, z_finE, z_finP, z_app, z_C, z_Var, z_Fz, z_Mv, z_frz1, z_frz2, z_bOf, z_bool, z_bAnd, z_bOr, z_bNot, z_eAnd, z_eOr, z_eNot, z_eIf, z_Nx, z_Bk, z_Ct, z_Seq, z_seqN, z_seqR, z_seqB, z_seqC, z_Asg, z_Ret, z_RetN, z_Expr, z_If, z_iSeq, z_iApp, z_For, z_loopN, z_loopC, z_lkN, z_lkC, z_lkB, z_lkR, z_setN, z_setT, z_smN, z_smC, z_eFrz, z_aN, z_aE, z_aP, z_pN, z_pE, z_pP, z_call, z_callE, z_ckO, z_ckE, z_make, z_makeE, z_mkO, z_mkE, z_meth, z_finPk, z_finEv, z_prop, z_FldI, z_Raise, z_Try, z_tkO, z_tkE, z_tkI, z_hC, z_hN, z_App, z_SetIx, z_setK, z_chain, z_own, z_ownK, z_fSub, z_fMul, z_fDiv, z_fMod, z_fPow, z_fLt, z_fLe, z_fGt, z_fGe, z_fNeg, z_fAbs, z_fMin, z_fMax, z_Xis, z_Xf, z_Lc, z_lcN, z_lcC, z_lcK, z_yes, z_wN, z_wC, z_bkN, z_bkC, z_isN1, z_isN2, z_isN3, z_isN4, z_isN5, z_isN6, z_isB1, z_isB2, z_isB3, z_isB4, z_isB5, z_isB6, z_it1, z_it2, z_it3, z_len1, z_len2, z_len3, z_ix1, z_ix2, z_ix3, fAdd, strO, tupO, ownL, intO, fInt, fList, fTuple, slO, fSlF, fSlT, fSlN, fTup, fLst, flatD, eqS, fRgL1, fRgL2, rawAll, runF, startE, backO, O.fro?, putN, putD, envX, envB, xSl, Nat.reduceLeDiff, Nat.reduceLT, List.take_succ_cons, List.take_zero, List.any_cons, List.any_nil, List.all_cons, List.all_nil, List.map_cons, List.map_nil, List.cons_append, List.nil_append, List.append_nil, List.length_cons, List.length_nil, List.replicate_succ, List.replicate_zero, List.getElem?_cons_zero, List.getElem?_cons_succ, List.getElem?_nil, List.set_cons_zero, List.set_cons_succ, List.headD_cons, List.tail_cons, List.contains_cons, List.contains_nil, Option.map_some, Option.map_none, Option.isSome_some, Bool.and_true, Bool.true_and, Bool.and_false, Bool.false_and, Bool.or_true, Bool.true_or, Bool.or_false, Bool.false_or, Bool.not_true, Bool.not_false, if_true, if_false, reduceIte, reduceCtorEq, beq_self_eq_true, Nat.reduceSub, Nat.reduceAdd, Nat.reduceBEq, Nat.reduceEqDiff, decide_true, decide_false, Bool.false_eq_true, h1, h2, hc2, e, m, isR, fEqI, fld2, fld3] <;> rfl
/-! ### the law's own -/
theorem rng1 : kRange1 [I 1] = some [.int 0] := rfl
theorem rng2 : kRange1 [I 2] = some [.int 0, .int 1] := rfl
theorem rng3 : kRange1 [I 3] = some [.int 0, .int 1, .int 2] := rfl
theorem rng4 : kRange1 [I 4] = some [.int 0, .int 1, .int 2, .int 3] := rfl
theorem rng5 : kRange1 [I 5] = some [.int 0, .int 1, .int 2, .int 3, .int 4] := rfl
theorem rng6 : kRange1 [I 6] = some [.int 0, .int 1, .int 2, .int 3, .int 4, .int 5] := rfl
theorem top_ok {x y z : Int} (h : Good x y z) : S_law_top [tup3 x y z] = .ok (I (x * z + y - 1)) [tup3 x y z] := by
  obtain ⟨⟨h1, h2⟩, _, _⟩ := h
  unfold S_law_top B_law_top
  have k : x = 1 ∨ x = 2 ∨ x = 3 := by omega
  rcases k with rfl | rfl | rfl
  · have e : y - 1 + z = 1 * z + y - 1 := by omega
    simp only [z_bind, z_bindE, z_bindS, z_ite, z_noX, z_iteX, z_get0, z_getN, z_getS, z_goN, z_goC, z_ev, z_pk, z_finN, z_finE, z_finP, z_app, z_C, z_Var, z_Fz, z_Mv, z_frz1, z_frz2, z_bOf, z_bool, z_bAnd, z_bOr, z_bNot, z_eAnd, z_eOr, z_eNot, z_eIf, z_Nx, z_Bk, z_Ct, z_Seq, z_seqN, z_seqR, z_seqB, z_seqC, z_Asg, z_Ret, z_RetN, z_Expr, z_If, z_iSeq, z_iApp, z_For, z_loopN, z_loopC, z_lkN, z_lkC, z_lkB, z_lkR, z_setN, z_setT, z_smN, z_smC, z_eFrz, z_aN, z_aE, z_aP, z_pN, z_pE, z_pP, z_call, z_callE, z_ckO, z_ckE, z_make, z_makeE, z_mkO, z_mkE, z_meth, z_finPk, z_finEv, z_prop, z_FldI, z_Raise, z_Try, z_tkO, z_tkE, z_tkI, z_hC, z_hN, z_App, z_SetIx, z_setK, z_chain, z_own, z_ownK, z_fSub, z_fMul, z_fDiv, z_fMod, z_fPow, z_fLt, z_fLe, z_fGt, z_fGe, z_fNeg, z_fAbs, z_fMin, z_fMax, z_Xis, z_Xf, z_Lc, z_lcN, z_lcC, z_lcK, z_yes, z_wN, z_wC, z_bkN, z_bkC, z_isN1, z_isN2, z_isN3, z_isN4, z_isN5, z_isN6, z_isB1, z_isB2, z_isB3, z_isB4, z_isB5, z_isB6, z_it1, z_it2, z_it3, z_len1, z_len2, z_len3, z_ix1, z_ix2, z_ix3, fAdd, strO, tupO, ownL, intO, fInt, fList, fTuple, slO, fSlF, fSlT, fSlN, fTup, fLst, flatD, eqS, fRgL1, fRgL2, rawAll, runF, startE, backO, O.fro?, putN, putD, envX, envB, xSl, Nat.reduceLeDiff, Nat.reduceLT, List.take_succ_cons, List.take_zero, List.any_cons, List.any_nil, List.all_cons, List.all_nil, List.map_cons, List.map_nil, List.cons_append, List.nil_append, List.append_nil, List.length_cons, List.length_nil, List.replicate_succ, List.replicate_zero, List.getElem?_cons_zero, List.getElem?_cons_succ, List.getElem?_nil, List.set_cons_zero, List.set_cons_succ, List.headD_cons, List.tail_cons, List.contains_cons, List.contains_nil, Option.map_some, Option.map_none, Option.isSome_some, Bool.and_true, Bool.true_and, Bool.and_false, Bool.false_and, Bool.or_true, Bool.true_or, Bool.or_false, Bool.false_or, Bool.not_true, Bool.not_false, if_true, if_false, reduceIte, reduceCtorEq, beq_self_eq_true, Nat.reduceSub, Nat.reduceAdd, Nat.reduceBEq, Nat.reduceEqDiff, decide_true, decide_false, Bool.false_eq_true, at0, at1, at2, rng1, e] <;> rfl
  · have e : y - 1 + z + z = 2 * z + y - 1 := by omega
    simp only [z_bind, z_bindE, z_bindS, z_ite, z_noX, z_iteX, z_get0, z_getN, z_getS, z_goN, z_goC, z_ev, z_pk, z_finN, z_finE, z_finP, z_app, z_C, z_Var, z_Fz, z_Mv, z_frz1, z_frz2, z_bOf, z_bool, z_bAnd, z_bOr, z_bNot, z_eAnd, z_eOr, z_eNot, z_eIf, z_Nx, z_Bk, z_Ct, z_Seq, z_seqN, z_seqR, z_seqB, z_seqC, z_Asg, z_Ret, z_RetN, z_Expr, z_If, z_iSeq, z_iApp, z_For, z_loopN, z_loopC, z_lkN, z_lkC, z_lkB, z_lkR, z_setN, z_setT, z_smN, z_smC, z_eFrz, z_aN, z_aE, z_aP, z_pN, z_pE, z_pP, z_call, z_callE, z_ckO, z_ckE, z_make, z_makeE, z_mkO, z_mkE, z_meth, z_finPk, z_finEv, z_prop, z_FldI, z_Raise, z_Try, z_tkO, z_tkE, z_tkI, z_hC, z_hN, z_App, z_SetIx, z_setK, z_chain, z_own, z_ownK, z_fSub, z_fMul, z_fDiv, z_fMod, z_fPow, z_fLt, z_fLe, z_fGt, z_fGe, z_fNeg, z_fAbs, z_fMin, z_fMax, z_Xis, z_Xf, z_Lc, z_lcN, z_lcC, z_lcK, z_yes, z_wN, z_wC, z_bkN, z_bkC, z_isN1, z_isN2, z_isN3, z_isN4, z_isN5, z_isN6, z_isB1, z_isB2, z_isB3, z_isB4, z_isB5, z_isB6, z_it1, z_it2, z_it3, z_len1, z_len2, z_len3, z_ix1, z_ix2, z_ix3, fAdd, strO, tupO, ownL, intO, fInt, fList, fTuple, slO, fSlF, fSlT, fSlN, fTup, fLst, flatD, eqS, fRgL1, fRgL2, rawAll, runF, startE, backO, O.fro?, putN, putD, envX, envB, xSl, Nat.reduceLeDiff, Nat.reduceLT, List.take_succ_cons, List.take_zero, List.any_cons, List.any_nil, List.all_cons, List.all_nil, List.map_cons, List.map_nil, List.cons_append, List.nil_append, List.append_nil, List.length_cons, List.length_nil, List.replicate_succ, List.replicate_zero, List.getElem?_cons_zero, List.getElem?_cons_succ, List.getElem?_nil, List.set_cons_zero, List.set_cons_succ, List.headD_cons, List.tail_cons, List.contains_cons, List.contains_nil, Option.map_some, Option.map_none, Option.isSome_some, Bool.and_true, Bool.true_and, Bool.and_false, Bool.false_and, Bool.or_true, Bool.true_or, Bool.or_false, Bool.false_or, Bool.not_true, Bool.not_false, if_true, if_false, reduceIte, reduceCtorEq, beq_self_eq_true, Nat.reduceSub, Nat.reduceAdd, Nat.reduceBEq, Nat.reduceEqDiff, decide_true, decide_false, Bool.false_eq_true, at0, at1, at2, rng2, e] <;> rfl
  · have e : y - 1 + z + z + z = 3 * z + y - 1 := by omega
    simp only [z_bind, z_bindE, z_bindS, z_ite, z_noX, z_iteX, z_get0, z_getN, z_getS, z_goN, z_goC, z_ev, z_pk, z_finN, z_finE, z_finP, z_app, z_C, z_Var, z_Fz, z_Mv, z_frz1, z_frz2, z_bOf, z_bool, z_bAnd, z_bOr, z_bNot, z_eAnd, z_eOr, z_eNot, z_eIf, z_Nx, z_Bk, z_Ct, z_Seq, z_seqN, z_seqR, z_seqB, z_seqC, z_Asg, z_Ret, z_RetN, z_Expr, z_If, z_iSeq, z_iApp, z_For, z_loopN, z_loopC, z_lkN, z_lkC, z_lkB, z_lkR, z_setN, z_setT, z_smN, z_smC, z_eFrz, z_aN, z_aE, z_aP, z_pN, z_pE, z_pP, z_call, z_callE, z_ckO, z_ckE, z_make, z_makeE, z_mkO, z_mkE, z_meth, z_finPk, z_finEv, z_prop, z_FldI, z_Raise, z_Try, z_tkO, z_tkE, z_tkI, z_hC, z_hN, z_App, z_SetIx, z_setK, z_chain, z_own, z_ownK, z_fSub, z_fMul, z_fDiv, z_fMod, z_fPow, z_fLt, z_fLe, z_fGt, z_fGe, z_fNeg, z_fAbs, z_fMin, z_fMax, z_Xis, z_Xf, z_Lc, z_lcN, z_lcC, z_lcK, z_yes, z_wN, z_wC, z_bkN, z_bkC, z_isN1, z_isN2, z_isN3, z_isN4, z_isN5, z_isN6, z_isB1, z_isB2, z_isB3, z_isB4, z_isB5, z_isB6, z_it1, z_it2, z_it3, z_len1, z_len2, z_len3, z_ix1, z_ix2, z_ix3, fAdd, strO, tupO, ownL, intO, fInt, fList, fTuple, slO, fSlF, fSlT, fSlN, fTup, fLst, flatD, eqS, fRgL1, fRgL2, rawAll, runF, startE, backO, O.fro?, putN, putD, envX, envB, xSl, Nat.reduceLeDiff, Nat.reduceLT, List.take_succ_cons, List.take_zero, List.any_cons, List.any_nil, List.all_cons, List.all_nil, List.map_cons, List.map_nil, List.cons_append, List.nil_append, List.append_nil, List.length_cons, List.length_nil, List.replicate_succ, List.replicate_zero, List.getElem?_cons_zero, List.getElem?_cons_succ, List.getElem?_nil, List.set_cons_zero, List.set_cons_succ, List.headD_cons, List.tail_cons, List.contains_cons, List.contains_nil, Option.map_some, Option.map_none, Option.isSome_some, Bool.and_true, Bool.true_and, Bool.and_false, Bool.false_and, Bool.or_true, Bool.true_or, Bool.or_false, Bool.false_or, Bool.not_true, Bool.not_false, if_true, if_false, reduceIte, reduceCtorEq, beq_self_eq_true, Nat.reduceSub, Nat.reduceAdd, Nat.reduceBEq, Nat.reduceEqDiff, decide_true, decide_false, Bool.false_eq_true, at0, at1, at2, rng3, e] <;> rfl
/-- the loop of due: so many ones are added as are left -/
theorem due_loop (P : O) (ca tp : Int) (tp0 : Option O) : ∀ (L : List D) (c : Int) (w : Option O), c ≤ tp → ∃ w', loopD (setN 4) (sIf (bOf (eApp fLt [(.pk 1), (.pk 3)])) (sAsg 1 (eApp fAdd [(.pk 1), (.ev (eC (.int 1)))])) sNx) L [some P, some (I c), some (I ca), some (I tp), w] =
    .ok (.nx, [some P, some (I (if c + L.length < tp then c + L.length else tp)), some (I ca), some (I tp), w'])
  | [], c, w, h => by
    refine ⟨w, ?_⟩
    have e : (if c + (([] : List D).length : Int) < tp then c + (([] : List D).length : Int) else tp) = c := by
      simp only [List.length_nil]
      split <;> omega
    rw [e]
    rfl
  | d :: L, c, w, h => by
    by_cases hc : c < tp
    · obtain ⟨w', e⟩ := due_loop P ca tp tp0 L (c + 1) (some (.fro d)) (by omega)
      refine ⟨w', ?_⟩
      have e2 : (if c + 1 + (L.length : Int) < tp then c + 1 + (L.length : Int) else tp) = (if c + ((d :: L).length : Int) < tp then c + ((d :: L).length : Int) else tp) := by
        rw [List.length_cons]
        split <;> split <;> omega
      rw [e2] at e
      simp only [List.length_cons] at e
      simp only [z_bind, z_bindE, z_bindS, z_ite, z_noX, z_iteX, z_get0, z_getN, z_getS, z_goN, z_goC, z_ev, z_pk, z_finN, z_finE, z_finP, z_app, z_C, z_Var, z_Fz, z_Mv, z_frz1, z_frz2, z_bOf, z_bool, z_bAnd, z_bOr, z_bNot, z_eAnd, z_eOr, z_eNot, z_eIf, z_Nx, z_Bk, z_Ct, z_Seq, z_seqN, z_seqR, z_seqB, z_seqC, z_Asg, z_Ret, z_RetN, z_Expr, z_If, z_iSeq, z_iApp, z_For, z_loopN, z_loopC, z_lkN, z_lkC, z_lkB, z_lkR, z_setN, z_setT, z_smN, z_smC, z_eFrz, z_aN, z_aE, z_aP, z_pN, z_pE, z_pP, z_call, z_callE, z_ckO, z_ckE, z_make, z_makeE, z_mkO, z_mkE, z_meth, z_finPk, z_finEv, z_prop, z_FldI, z_Raise, z_Try, z_tkO, z_tkE, z_tkI, z_hC, z_hN, z_App, z_SetIx, z_setK, z_chain, z_own, z_ownK, z_fSub, z_fMul, z_fDiv, z_fMod, z_fPow, z_fLt, z_fLe, z_fGt, z_fGe, z_fNeg, z_fAbs, z_fMin, z_fMax, z_Xis, z_Xf, z_Lc, z_lcN, z_lcC, z_lcK, z_yes, z_wN, z_wC, z_bkN, z_bkC, z_isN1, z_isN2, z_isN3, z_isN4, z_isN5, z_isN6, z_isB1, z_isB2, z_isB3, z_isB4, z_isB5, z_isB6, z_it1, z_it2, z_it3, z_len1, z_len2, z_len3, z_ix1, z_ix2, z_ix3, fAdd, strO, tupO, ownL, intO, fInt, fList, fTuple, slO, fSlF, fSlT, fSlN, fTup, fLst, flatD, eqS, fRgL1, fRgL2, rawAll, runF, startE, backO, O.fro?, putN, putD, envX, envB, xSl, Nat.reduceLeDiff, Nat.reduceLT, List.take_succ_cons, List.take_zero, List.any_cons, List.any_nil, List.all_cons, List.all_nil, List.map_cons, List.map_nil, List.cons_append, List.nil_append, List.append_nil, List.length_cons, List.length_nil, List.replicate_succ, List.replicate_zero, List.getElem?_cons_zero, List.getElem?_cons_succ, List.getElem?_nil, List.set_cons_zero, List.set_cons_succ, List.headD_cons, List.tail_cons, List.contains_cons, List.contains_nil, Option.map_some, Option.map_none, Option.isSome_some, Bool.and_true, Bool.true_and, Bool.and_false, Bool.false_and, Bool.or_true, Bool.true_or, Bool.or_false, Bool.false_or, Bool.not_true, Bool.not_false, if_true, if_false, reduceIte, reduceCtorEq, beq_self_eq_true, Nat.reduceSub, Nat.reduceAdd, Nat.reduceBEq, Nat.reduceEqDiff, decide_true, decide_false, Bool.false_eq_true, hc, e]
    · obtain ⟨w', e⟩ := due_loop P ca tp tp0 L c (some (.fro d)) h
      refine ⟨w', ?_⟩
      have e2 : (if c + (L.length : Int) < tp then c + (L.length : Int) else tp) = (if c + ((d :: L).length : Int) < tp then c + ((d :: L).length : Int) else tp) := by
        rw [List.length_cons]
        split <;> split <;> omega
      rw [e2] at e
      simp only [List.length_cons] at e
      simp only [z_bind, z_bindE, z_bindS, z_ite, z_noX, z_iteX, z_get0, z_getN, z_getS, z_goN, z_goC, z_ev, z_pk, z_finN, z_finE, z_finP, z_app, z_C, z_Var, z_Fz, z_Mv, z_frz1, z_frz2, z_bOf, z_bool, z_bAnd, z_bOr, z_bNot, z_eAnd, z_eOr, z_eNot, z_eIf, z_Nx, z_Bk, z_Ct, z_Seq, z_seqN, z_seqR, z_seqB, z_seqC, z_Asg, z_Ret, z_RetN, z_Expr, z_If, z_iSeq, z_iApp, z_For, z_loopN, z_loopC, z_lkN, z_lkC, z_lkB, z_lkR, z_setN, z_setT, z_smN, z_smC, z_eFrz, z_aN, z_aE, z_aP, z_pN, z_pE, z_pP, z_call, z_callE, z_ckO, z_ckE, z_make, z_makeE, z_mkO, z_mkE, z_meth, z_finPk, z_finEv, z_prop, z_FldI, z_Raise, z_Try, z_tkO, z_tkE, z_tkI, z_hC, z_hN, z_App, z_SetIx, z_setK, z_chain, z_own, z_ownK, z_fSub, z_fMul, z_fDiv, z_fMod, z_fPow, z_fLt, z_fLe, z_fGt, z_fGe, z_fNeg, z_fAbs, z_fMin, z_fMax, z_Xis, z_Xf, z_Lc, z_lcN, z_lcC, z_lcK, z_yes, z_wN, z_wC, z_bkN, z_bkC, z_isN1, z_isN2, z_isN3, z_isN4, z_isN5, z_isN6, z_isB1, z_isB2, z_isB3, z_isB4, z_isB5, z_isB6, z_it1, z_it2, z_it3, z_len1, z_len2, z_len3, z_ix1, z_ix2, z_ix3, fAdd, strO, tupO, ownL, intO, fInt, fList, fTuple, slO, fSlF, fSlT, fSlN, fTup, fLst, flatD, eqS, fRgL1, fRgL2, rawAll, runF, startE, backO, O.fro?, putN, putD, envX, envB, xSl, Nat.reduceLeDiff, Nat.reduceLT, List.take_succ_cons, List.take_zero, List.any_cons, List.any_nil, List.all_cons, List.all_nil, List.map_cons, List.map_nil, List.cons_append, List.nil_append, List.append_nil, List.length_cons, List.length_nil, List.replicate_succ, List.replicate_zero, List.getElem?_cons_zero, List.getElem?_cons_succ, List.getElem?_nil, List.set_cons_zero, List.set_cons_succ, List.headD_cons, List.tail_cons, List.contains_cons, List.contains_nil, Option.map_some, Option.map_none, Option.isSome_some, Bool.and_true, Bool.true_and, Bool.and_false, Bool.false_and, Bool.or_true, Bool.true_or, Bool.or_false, Bool.false_or, Bool.not_true, Bool.not_false, if_true, if_false, reduceIte, reduceCtorEq, beq_self_eq_true, Nat.reduceSub, Nat.reduceAdd, Nat.reduceBEq, Nat.reduceEqDiff, decide_true, decide_false, Bool.false_eq_true, hc, e]
abbrev tld (r : Int) : O := .fro (.node .tup [.str "told", .int r])
abbrev rfd (s : Str) (cr : Int) : O := .fro (.node .tup [.str "refused", .str s, .int cr, .bl true, .bl true, .bl false])
theorem due_bad {x y z cr ca : Int} (h : Good x y z) (hb : ¬ (0 ≤ cr ∧ cr ≤ x * z + y - 1)) : S_law_due [tup3 x y z, I cr, I ca] = .ok (rfd "BadCredit" cr) [tup3 x y z, I cr, I ca] := by
  have e := top_ok h
  unfold S_law_due B_law_due
  by_cases h1 : cr < 0
  · simp only [z_bind, z_bindE, z_bindS, z_ite, z_noX, z_iteX, z_get0, z_getN, z_getS, z_goN, z_goC, z_ev, z_pk, z_finN, z_finE, z_finP, z_app, z_C, z_Var, z_Fz, z_Mv, z_frz1, z_frz2, z_bOf, z_bool, z_bAnd, z_bOr, z_bNot, z_eAnd, z_eOr, z_eNot, z_eIf, z_Nx, z_Bk, z_Ct, z_Seq, z_seqN, z_seqR, z_seqB, z_seqC, z_Asg, z_Ret, z_RetN, z_Expr, z_If, z_iSeq, z_iApp, z_For, z_loopN, z_loopC, z_lkN, z_lkC, z_lkB, z_lkR, z_setN, z_setT, z_smN, z_smC, z_eFrz, z_aN, z_aE, z_aP, z_pN, z_pE, z_pP, z_call, z_callE, z_ckO, z_ckE, z_make, z_makeE, z_mkO, z_mkE, z_meth, z_finPk, z_finEv, z_prop, z_FldI, z_Raise, z_Try, z_tkO, z_tkE, z_tkI, z_hC, z_hN, z_App, z_SetIx, z_setK, z_chain, z_own, z_ownK, z_fSub, z_fMul, z_fDiv, z_fMod, z_fPow, z_fLt, z_fLe, z_fGt, z_fGe, z_fNeg, z_fAbs, z_fMin, z_fMax, z_Xis, z_Xf, z_Lc, z_lcN, z_lcC, z_lcK, z_yes, z_wN, z_wC, z_bkN, z_bkC, z_isN1, z_isN2, z_isN3, z_isN4, z_isN5, z_isN6, z_isB1, z_isB2, z_isB3, z_isB4, z_isB5, z_isB6, z_it1, z_it2, z_it3, z_len1, z_len2, z_len3, z_ix1, z_ix2, z_ix3, fAdd, strO, tupO, ownL, intO, fInt, fList, fTuple, slO, fSlF, fSlT, fSlN, fTup, fLst, flatD, eqS, fRgL1, fRgL2, rawAll, runF, startE, backO, O.fro?, putN, putD, envX, envB, xSl, Nat.reduceLeDiff, Nat.reduceLT, List.take_succ_cons, List.take_zero, List.any_cons, List.any_nil, List.all_cons, List.all_nil, List.map_cons, List.map_nil, List.cons_append, List.nil_append, List.append_nil, List.length_cons, List.length_nil, List.replicate_succ, List.replicate_zero, List.getElem?_cons_zero, List.getElem?_cons_succ, List.getElem?_nil, List.set_cons_zero, List.set_cons_succ, List.headD_cons, List.tail_cons, List.contains_cons, List.contains_nil, Option.map_some, Option.map_none, Option.isSome_some, Bool.and_true, Bool.true_and, Bool.and_false, Bool.false_and, Bool.or_true, Bool.true_or, Bool.or_false, Bool.false_or, Bool.not_true, Bool.not_false, if_true, if_false, reduceIte, reduceCtorEq, beq_self_eq_true, Nat.reduceSub, Nat.reduceAdd, Nat.reduceBEq, Nat.reduceEqDiff, decide_true, decide_false, Bool.false_eq_true, h1, e] <;> rfl
  · have h2 : x * z + y - 1 < cr := by omega
    simp only [z_bind, z_bindE, z_bindS, z_ite, z_noX, z_iteX, z_get0, z_getN, z_getS, z_goN, z_goC, z_ev, z_pk, z_finN, z_finE, z_finP, z_app, z_C, z_Var, z_Fz, z_Mv, z_frz1, z_frz2, z_bOf, z_bool, z_bAnd, z_bOr, z_bNot, z_eAnd, z_eOr, z_eNot, z_eIf, z_Nx, z_Bk, z_Ct, z_Seq, z_seqN, z_seqR, z_seqB, z_seqC, z_Asg, z_Ret, z_RetN, z_Expr, z_If, z_iSeq, z_iApp, z_For, z_loopN, z_loopC, z_lkN, z_lkC, z_lkB, z_lkR, z_setN, z_setT, z_smN, z_smC, z_eFrz, z_aN, z_aE, z_aP, z_pN, z_pE, z_pP, z_call, z_callE, z_ckO, z_ckE, z_make, z_makeE, z_mkO, z_mkE, z_meth, z_finPk, z_finEv, z_prop, z_FldI, z_Raise, z_Try, z_tkO, z_tkE, z_tkI, z_hC, z_hN, z_App, z_SetIx, z_setK, z_chain, z_own, z_ownK, z_fSub, z_fMul, z_fDiv, z_fMod, z_fPow, z_fLt, z_fLe, z_fGt, z_fGe, z_fNeg, z_fAbs, z_fMin, z_fMax, z_Xis, z_Xf, z_Lc, z_lcN, z_lcC, z_lcK, z_yes, z_wN, z_wC, z_bkN, z_bkC, z_isN1, z_isN2, z_isN3, z_isN4, z_isN5, z_isN6, z_isB1, z_isB2, z_isB3, z_isB4, z_isB5, z_isB6, z_it1, z_it2, z_it3, z_len1, z_len2, z_len3, z_ix1, z_ix2, z_ix3, fAdd, strO, tupO, ownL, intO, fInt, fList, fTuple, slO, fSlF, fSlT, fSlN, fTup, fLst, flatD, eqS, fRgL1, fRgL2, rawAll, runF, startE, backO, O.fro?, putN, putD, envX, envB, xSl, Nat.reduceLeDiff, Nat.reduceLT, List.take_succ_cons, List.take_zero, List.any_cons, List.any_nil, List.all_cons, List.all_nil, List.map_cons, List.map_nil, List.cons_append, List.nil_append, List.append_nil, List.length_cons, List.length_nil, List.replicate_succ, List.replicate_zero, List.getElem?_cons_zero, List.getElem?_cons_succ, List.getElem?_nil, List.set_cons_zero, List.set_cons_succ, List.headD_cons, List.tail_cons, List.contains_cons, List.contains_nil, Option.map_some, Option.map_none, Option.isSome_some, Bool.and_true, Bool.true_and, Bool.and_false, Bool.false_and, Bool.or_true, Bool.true_or, Bool.or_false, Bool.false_or, Bool.not_true, Bool.not_false, if_true, if_false, reduceIte, reduceCtorEq, beq_self_eq_true, Nat.reduceSub, Nat.reduceAdd, Nat.reduceBEq, Nat.reduceEqDiff, decide_true, decide_false, Bool.false_eq_true, h1, h2, e] <;> rfl
theorem due_no {x y z cr : Int} (h : Good x y z) (h1 : 0 ≤ cr) (h2 : cr ≤ x * z + y - 1) (h3 : cr < z) : S_law_due [tup3 x y z, I cr, I 1] = .ok (rfd "NoCredit" cr) [tup3 x y z, I cr, I 1] := by
  have e := top_ok h
  have h4 : ¬ cr < 0 := by omega
  have h5 : ¬ x * z + y - 1 < cr := by omega
  unfold S_law_due B_law_due
  simp only [z_bind, z_bindE, z_bindS, z_ite, z_noX, z_iteX, z_get0, z_getN, z_getS, z_goN, z_goC, z_ev, z_pk, z_finN, z_finE, z_finP, z_app, z_C, z_Var, z_Fz, z_Mv, z_frz1, z_frz2, z_bOf, z_bool, z_bAnd, z_bOr, z_bNot, z_eAnd, z_eOr, z_eNot, z_eIf, z_Nx, z_Bk, z_Ct, z_Seq, z_seqN, z_seqR, z_seqB, z_seqC, z_Asg, z_Ret, z_RetN, z_Expr, z_If, z_iSeq, z_iApp, z_For, z_loopN, z_loopC, z_lkN, z_lkC, z_lkB, z_lkR, z_setN, z_setT, z_smN, z_smC, z_eFrz, z_aN, z_aE, z_aP, z_pN, z_pE, z_pP, z_call, z_callE, z_ckO, z_ckE, z_make, z_makeE, z_mkO, z_mkE, z_meth, z_finPk, z_finEv, z_prop, z_FldI, z_Raise, z_Try, z_tkO, z_tkE, z_tkI, z_hC, z_hN, z_App, z_SetIx, z_setK, z_chain, z_own, z_ownK, z_fSub, z_fMul, z_fDiv, z_fMod, z_fPow, z_fLt, z_fLe, z_fGt, z_fGe, z_fNeg, z_fAbs, z_fMin, z_fMax, z_Xis, z_Xf, z_Lc, z_lcN, z_lcC, z_lcK, z_yes, z_wN, z_wC, z_bkN, z_bkC, z_isN1, z_isN2, z_isN3, z_isN4, z_isN5, z_isN6, z_isB1, z_isB2, z_isB3, z_isB4, z_isB5, z_isB6, z_it1, z_it2, z_it3, z_len1, z_len2, z_len3, z_ix1, z_ix2, z_ix3, fAdd, strO, tupO, ownL, intO, fInt, fList, fTuple, slO, fSlF, fSlT, fSlN, fTup, fLst, flatD, eqS, fRgL1, fRgL2, rawAll, runF, startE, backO, O.fro?, putN, putD, envX, envB, xSl, Nat.reduceLeDiff, Nat.reduceLT, List.take_succ_cons, List.take_zero, List.any_cons, List.any_nil, List.all_cons, List.all_nil, List.map_cons, List.map_nil, List.cons_append, List.nil_append, List.append_nil, List.length_cons, List.length_nil, List.replicate_succ, List.replicate_zero, List.getElem?_cons_zero, List.getElem?_cons_succ, List.getElem?_nil, List.set_cons_zero, List.set_cons_succ, List.headD_cons, List.tail_cons, List.contains_cons, List.contains_nil, Option.map_some, Option.map_none, Option.isSome_some, Bool.and_true, Bool.true_and, Bool.and_false, Bool.false_and, Bool.or_true, Bool.true_or, Bool.or_false, Bool.false_or, Bool.not_true, Bool.not_false, if_true, if_false, reduceIte, reduceCtorEq, beq_self_eq_true, Nat.reduceSub, Nat.reduceAdd, Nat.reduceBEq, Nat.reduceEqDiff, decide_true, decide_false, Bool.false_eq_true, h3, h4, h5, e, fEqI, at2] <;> rfl
theorem rngY {y : Int} (h : 1 ≤ y ∧ y ≤ 6) : ∃ L : List D, kRange1 [I y] = some L ∧ (L.length : Int) = y := by
  have k : y = 1 ∨ y = 2 ∨ y = 3 ∨ y = 4 ∨ y = 5 ∨ y = 6 := by omega
  rcases k with rfl | rfl | rfl | rfl | rfl | rfl
  · exact ⟨_, rng1, rfl⟩
  · exact ⟨_, rng2, rfl⟩
  · exact ⟨_, rng3, rfl⟩
  · exact ⟨_, rng4, rfl⟩
  · exact ⟨_, rng5, rfl⟩
  · exact ⟨_, rng6, rfl⟩
theorem due_ok {x y z cr ca : Int} (h : Good x y z) (hca : ca = 0 ∨ ca = 1) (h1 : 0 ≤ cr) (h2 : cr ≤ x * z + y - 1) (h3 : ca = 1 → ¬ cr < z) :
    S_law_due [tup3 x y z, I cr, I ca] = .ok (tld (if cr - ca * z + y < x * z + y - 1 then cr - ca * z + y else x * z + y - 1)) [tup3 x y z, I cr, I ca] := by
  have e := top_ok h
  have h4 : ¬ cr < 0 := by omega
  have h5 : ¬ x * z + y - 1 < cr := by omega
  have m : mulOk ca z = true := mulOk_r (by omega)
  obtain ⟨L, eL, eN⟩ := rngY (y := y) (by omega)
  have hle : cr - ca * z ≤ x * z + y - 1 := by
    rcases hca with rfl | rfl <;> omega
  obtain ⟨w', eL2⟩ := due_loop (tup3 x y z) ca (x * z + y - 1) none L (cr - ca * z) none hle
  rw [eN] at eL2
  unfold S_law_due B_law_due
  rcases hca with hc | hc
  · have hc2 : (ca == 1) = false := by
      rw [hc]
      rfl
    simp only [z_bind, z_bindE, z_bindS, z_ite, z_noX, z_iteX, z_get0, z_getN, z_getS, z_goN, z_goC, z_ev, z_pk, z_finN, z_finE, z_finP, z_app, z_C, z_Var, z_Fz, z_Mv, z_frz1, z_frz2, z_bOf, z_bool, z_bAnd, z_bOr, z_bNot, z_eAnd, z_eOr, z_eNot, z_eIf, z_Nx, z_Bk, z_Ct, z_Seq, z_seqN, z_seqR, z_seqB, z_seqC, z_Asg, z_Ret, z_RetN, z_Expr, z_If, z_iSeq, z_iApp, z_For, z_loopN, z_loopC, z_lkN, z_lkC, z_lkB, z_lkR, z_setN, z_setT, z_smN, z_smC, z_eFrz, z_aN, z_aE, z_aP, z_pN, z_pE, z_pP, z_call, z_callE, z_ckO, z_ckE, z_make, z_makeE, z_mkO, z_mkE, z_meth, z_finPk, z_finEv, z_prop, z_FldI, z_Raise, z_Try, z_tkO, z_tkE, z_tkI, z_hC, z_hN, z_App, z_SetIx, z_setK, z_chain, z_own, z_ownK, z_fSub, z_fMul, z_fDiv, z_fMod, z_fPow, z_fLt, z_fLe, z_fGt, z_fGe, z_fNeg, z_fAbs, z_fMin, z_fMax, z_Xis, z_Xf, z_Lc, z_lcN, z_lcC, z_lcK, z_yes, z_wN, z_wC, z_bkN, z_bkC, z_isN1, z_isN2, z_isN3, z_isN4, z_isN5, z_isN6, z_isB1, z_isB2, z_isB3, z_isB4, z_isB5, z_isB6, z_it1, z_it2, z_it3, z_len1, z_len2, z_len3, z_ix1, z_ix2, z_ix3, fAdd, strO, tupO, ownL, intO, fInt, fList, fTuple, slO, fSlF, fSlT, fSlN, fTup, fLst, flatD, eqS, fRgL1, fRgL2, rawAll, runF, startE, backO, O.fro?, putN, putD, envX, envB, xSl, Nat.reduceLeDiff, Nat.reduceLT, List.take_succ_cons, List.take_zero, List.any_cons, List.any_nil, List.all_cons, List.all_nil, List.map_cons, List.map_nil, List.cons_append, List.nil_append, List.append_nil, List.length_cons, List.length_nil, List.replicate_succ, List.replicate_zero, List.getElem?_cons_zero, List.getElem?_cons_succ, List.getElem?_nil, List.set_cons_zero, List.set_cons_succ, List.headD_cons, List.tail_cons, List.contains_cons, List.contains_nil, Option.map_some, Option.map_none, Option.isSome_some, Bool.and_true, Bool.true_and, Bool.and_false, Bool.false_and, Bool.or_true, Bool.true_or, Bool.or_false, Bool.false_or, Bool.not_true, Bool.not_false, if_true, if_false, reduceIte, reduceCtorEq, beq_self_eq_true, Nat.reduceSub, Nat.reduceAdd, Nat.reduceBEq, Nat.reduceEqDiff, decide_true, decide_false, Bool.false_eq_true, h4, h5, hc2, e, m, eL, eL2, fEqI, at1, at2] <;> rfl
  · have h6 := h3 hc
    have hc2 : (ca == 1) = true := by
      rw [hc]
      rfl
    simp only [z_bind, z_bindE, z_bindS, z_ite, z_noX, z_iteX, z_get0, z_getN, z_getS, z_goN, z_goC, z_ev, z_pk, z_finN, z_finE, z_finP, z_app, z_C, z_Var, z_Fz, z_Mv, z_frz1, z_frz2, z_bOf, z_bool, z_bAnd, z_bOr, z_bNot, z_eAnd, z_eOr, z_eNot, z_eIf, z_Nx, z_Bk, z_Ct, z_Seq, z_seqN, z_seqR, z_seqB, z_seqC, z_Asg, z_Ret, z_RetN, z_Expr, z_If, z_iSeq, z_iApp, z_For, z_loopN, z_loopC, z_lkN, z_lkC, z_lkB, z_lkR, z_setN, z_setT, z_smN, z_smC, z_eFrz, z_aN, z_aE, z_aP, z_pN, z_pE, z_pP, z_call, z_callE, z_ckO, z_ckE, z_make, z_makeE, z_mkO, z_mkE, z_meth, z_finPk, z_finEv, z_prop, z_FldI, z_Raise, z_Try, z_tkO, z_tkE, z_tkI, z_hC, z_hN, z_App, z_SetIx, z_setK, z_chain, z_own, z_ownK, z_fSub, z_fMul, z_fDiv, z_fMod, z_fPow, z_fLt, z_fLe, z_fGt, z_fGe, z_fNeg, z_fAbs, z_fMin, z_fMax, z_Xis, z_Xf, z_Lc, z_lcN, z_lcC, z_lcK, z_yes, z_wN, z_wC, z_bkN, z_bkC, z_isN1, z_isN2, z_isN3, z_isN4, z_isN5, z_isN6, z_isB1, z_isB2, z_isB3, z_isB4, z_isB5, z_isB6, z_it1, z_it2, z_it3, z_len1, z_len2, z_len3, z_ix1, z_ix2, z_ix3, fAdd, strO, tupO, ownL, intO, fInt, fList, fTuple, slO, fSlF, fSlT, fSlN, fTup, fLst, flatD, eqS, fRgL1, fRgL2, rawAll, runF, startE, backO, O.fro?, putN, putD, envX, envB, xSl, Nat.reduceLeDiff, Nat.reduceLT, List.take_succ_cons, List.take_zero, List.any_cons, List.any_nil, List.all_cons, List.all_nil, List.map_cons, List.map_nil, List.cons_append, List.nil_append, List.append_nil, List.length_cons, List.length_nil, List.replicate_succ, List.replicate_zero, List.getElem?_cons_zero, List.getElem?_cons_succ, List.getElem?_nil, List.set_cons_zero, List.set_cons_succ, List.headD_cons, List.tail_cons, List.contains_cons, List.contains_nil, Option.map_some, Option.map_none, Option.isSome_some, Bool.and_true, Bool.true_and, Bool.and_false, Bool.false_and, Bool.or_true, Bool.true_or, Bool.or_false, Bool.false_or, Bool.not_true, Bool.not_false, if_true, if_false, reduceIte, reduceCtorEq, beq_self_eq_true, Nat.reduceSub, Nat.reduceAdd, Nat.reduceBEq, Nat.reduceEqDiff, decide_true, decide_false, Bool.false_eq_true, h4, h5, h6, hc2, e, m, eL, eL2, fEqI, at1, at2] <;> rfl
end G_lampcrossings_k36_rate_credits
end

section
set_option Elab.async false
set_option linter.all false
set_option maxRecDepth 100000
set_option maxHeartbeats 2000000
namespace G_lampcrossings_k36_rate_credits
open PySem PySem.Spec PyProof.Rows L2 DL
/-! ### what is caught -/
abbrev tbA : List (Str × Bool) := [("BadRate", false), ("BadNumber", false), ("BadCredit", true), ("NoCredit", false)]
abbrev tbN : List (Str × Bool) := [("BadRate", false), ("BadNumber", false), ("BadCredit", false), ("NoCredit", true)]
abbrev tbR : List (Str × Bool) := [("BadRate", true), ("BadNumber", false), ("BadCredit", false), ("NoCredit", false)]
abbrev tbL : List (Str × Bool) := [("BadRate", true), ("BadNumber", true), ("BadCredit", true), ("NoCredit", true)]
theorem lA1 : tbA.lookup ("BadCredit" : Str) = some true := by decide +kernel
theorem lA2 : tbA.lookup ("NoCredit" : Str) = some false := by decide +kernel
theorem lA3 : tbA.lookup ("BadRate" : Str) = some false := by decide +kernel
theorem lN1 : tbN.lookup ("BadCredit" : Str) = some false := by decide +kernel
theorem lN2 : tbN.lookup ("NoCredit" : Str) = some true := by decide +kernel
theorem lN3 : tbN.lookup ("BadRate" : Str) = some false := by decide +kernel
theorem lR3 : tbR.lookup ("BadRate" : Str) = some true := by decide +kernel
theorem lL1 : tbL.lookup ("BadCredit" : Str) = some true := by decide +kernel
theorem lL2 : tbL.lookup ("NoCredit" : Str) = some true := by decide +kernel
theorem lL3 : tbL.lookup ("BadRate" : Str) = some true := by decide +kernel
theorem cC1 : (["BadCredit", "NoCredit"] : List Str).contains "BadCredit" = true := by decide +kernel
theorem cC2 : (["BadCredit", "NoCredit"] : List Str).contains "NoCredit" = true := by decide +kernel
theorem cC3 : (["BadRate"] : List Str).contains "BadRate" = true := by decide +kernel
theorem gC (d : D) : getF "credit" ["credit"] [d] = some d := rfl
theorem gP (d : D) : getF "part" ["part"] [d] = some d := rfl
theorem asked_ok {x y z cr ca : Int} (h : Good x y z) (h1 : 0 ≤ cr) (h2 : cr ≤ x * z + y - 1) (h3 : ca = 1 → ¬ cr < z) :
    S_law_asked [.fro (rateD x y z), I cr, I ca] = .ok (tld (if cr - ca * z + y < x * z + y - 1 then cr - ca * z + y else x * z + y - 1)) [.fro (rateD x y z), I cr, I ca] := by
  have e := after_ok h h1 h2 h3
  unfold S_law_asked B_law_asked
  simp only [z_bind, z_bindE, z_bindS, z_ite, z_noX, z_iteX, z_get0, z_getN, z_getS, z_goN, z_goC, z_ev, z_pk, z_finN, z_finE, z_finP, z_app, z_C, z_Var, z_Fz, z_Mv, z_frz1, z_frz2, z_bOf, z_bool, z_bAnd, z_bOr, z_bNot, z_eAnd, z_eOr, z_eNot, z_eIf, z_Nx, z_Bk, z_Ct, z_Seq, z_seqN, z_seqR, z_seqB, z_seqC, z_Asg, z_Ret, z_RetN, z_Expr, z_If, z_iSeq, z_iApp, z_For, z_loopN, z_loopC, z_lkN, z_lkC, z_lkB, z_lkR, z_setN, z_setT, z_smN, z_smC, z_eFrz, z_aN, z_aE, z_aP, z_pN, z_pE, z_pP, z_call, z_callE, z_ckO, z_ckE, z_make, z_makeE, z_mkO, z_mkE, z_meth, z_finPk, z_finEv, z_prop, z_FldI, z_Raise, z_Try, z_tkO, z_tkE, z_tkI, z_hC, z_hN, z_App, z_SetIx, z_setK, z_chain, z_own, z_ownK, z_fSub, z_fMul, z_fDiv, z_fMod, z_fPow, z_fLt, z_fLe, z_fGt, z_fGe, z_fNeg, z_fAbs, z_fMin, z_fMax, z_Xis, z_Xf, z_Lc, z_lcN, z_lcC, z_lcK, z_yes, z_wN, z_wC, z_bkN, z_bkC, z_isN1, z_isN2, z_isN3, z_isN4, z_isN5, z_isN6, z_isB1, z_isB2, z_isB3, z_isB4, z_isB5, z_isB6, z_it1, z_it2, z_it3, z_len1, z_len2, z_len3, z_ix1, z_ix2, z_ix3, fAdd, strO, tupO, ownL, intO, fInt, fList, fTuple, slO, fSlF, fSlT, fSlN, fTup, fLst, flatD, eqS, fRgL1, fRgL2, rawAll, runF, startE, backO, O.fro?, putN, putD, envX, envB, xSl, Nat.reduceLeDiff, Nat.reduceLT, List.take_succ_cons, List.take_zero, List.any_cons, List.any_nil, List.all_cons, List.all_nil, List.map_cons, List.map_nil, List.cons_append, List.nil_append, List.append_nil, List.length_cons, List.length_nil, List.replicate_succ, List.replicate_zero, List.getElem?_cons_zero, List.getElem?_cons_succ, List.getElem?_nil, List.set_cons_zero, List.set_cons_succ, List.headD_cons, List.tail_cons, List.contains_cons, List.contains_nil, Option.map_some, Option.map_none, Option.isSome_some, Bool.and_true, Bool.true_and, Bool.and_false, Bool.false_and, Bool.or_true, Bool.true_or, Bool.or_false, Bool.false_or, Bool.not_true, Bool.not_false, if_true, if_false, reduceIte, reduceCtorEq, beq_self_eq_true, Nat.reduceSub, Nat.reduceAdd, Nat.reduceBEq, Nat.reduceEqDiff, decide_true, decide_false, Bool.false_eq_true, e, isA] <;> rfl
theorem asked_bad {x y z cr ca : Int} (h : Good x y z) (hc : SC cr) (hb : ¬ (0 ≤ cr ∧ cr ≤ x * z + y - 1)) :
    S_law_asked [.fro (rateD x y z), I cr, I ca] = .ok (rfd "BadCredit" cr) [.fro (rateD x y z), I cr, I ca] := by
  have e := after_bad (ca := ca) h hc hb
  unfold S_law_asked B_law_asked
  simp only [z_bind, z_bindE, z_bindS, z_ite, z_noX, z_iteX, z_get0, z_getN, z_getS, z_goN, z_goC, z_ev, z_pk, z_finN, z_finE, z_finP, z_app, z_C, z_Var, z_Fz, z_Mv, z_frz1, z_frz2, z_bOf, z_bool, z_bAnd, z_bOr, z_bNot, z_eAnd, z_eOr, z_eNot, z_eIf, z_Nx, z_Bk, z_Ct, z_Seq, z_seqN, z_seqR, z_seqB, z_seqC, z_Asg, z_Ret, z_RetN, z_Expr, z_If, z_iSeq, z_iApp, z_For, z_loopN, z_loopC, z_lkN, z_lkC, z_lkB, z_lkR, z_setN, z_setT, z_smN, z_smC, z_eFrz, z_aN, z_aE, z_aP, z_pN, z_pE, z_pP, z_call, z_callE, z_ckO, z_ckE, z_make, z_makeE, z_mkO, z_mkE, z_meth, z_finPk, z_finEv, z_prop, z_FldI, z_Raise, z_Try, z_tkO, z_tkE, z_tkI, z_hC, z_hN, z_App, z_SetIx, z_setK, z_chain, z_own, z_ownK, z_fSub, z_fMul, z_fDiv, z_fMod, z_fPow, z_fLt, z_fLe, z_fGt, z_fGe, z_fNeg, z_fAbs, z_fMin, z_fMax, z_Xis, z_Xf, z_Lc, z_lcN, z_lcC, z_lcK, z_yes, z_wN, z_wC, z_bkN, z_bkC, z_isN1, z_isN2, z_isN3, z_isN4, z_isN5, z_isN6, z_isB1, z_isB2, z_isB3, z_isB4, z_isB5, z_isB6, z_it1, z_it2, z_it3, z_len1, z_len2, z_len3, z_ix1, z_ix2, z_ix3, fAdd, strO, tupO, ownL, intO, fInt, fList, fTuple, slO, fSlF, fSlT, fSlN, fTup, fLst, flatD, eqS, fRgL1, fRgL2, rawAll, runF, startE, backO, O.fro?, putN, putD, envX, envB, xSl, Nat.reduceLeDiff, Nat.reduceLT, List.take_succ_cons, List.take_zero, List.any_cons, List.any_nil, List.all_cons, List.all_nil, List.map_cons, List.map_nil, List.cons_append, List.nil_append, List.append_nil, List.length_cons, List.length_nil, List.replicate_succ, List.replicate_zero, List.getElem?_cons_zero, List.getElem?_cons_succ, List.getElem?_nil, List.set_cons_zero, List.set_cons_succ, List.headD_cons, List.tail_cons, List.contains_cons, List.contains_nil, Option.map_some, Option.map_none, Option.isSome_some, Bool.and_true, Bool.true_and, Bool.and_false, Bool.false_and, Bool.or_true, Bool.true_or, Bool.or_false, Bool.false_or, Bool.not_true, Bool.not_false, if_true, if_false, reduceIte, reduceCtorEq, beq_self_eq_true, Nat.reduceSub, Nat.reduceAdd, Nat.reduceBEq, Nat.reduceEqDiff, decide_true, decide_false, Bool.false_eq_true, e, isA, lA1, lN1, lL1, cC1, gC] <;> rfl
theorem asked_no {x y z cr : Int} (h : Good x y z) (hc : SC cr) (h1 : 0 ≤ cr) (h2 : cr ≤ x * z + y - 1) (h3 : cr < z) :
    S_law_asked [.fro (rateD x y z), I cr, I 1] = .ok (rfd "NoCredit" cr) [.fro (rateD x y z), I cr, I 1] := by
  have e := after_no h hc h1 h2 h3
  unfold S_law_asked B_law_asked
  simp only [z_bind, z_bindE, z_bindS, z_ite, z_noX, z_iteX, z_get0, z_getN, z_getS, z_goN, z_goC, z_ev, z_pk, z_finN, z_finE, z_finP, z_app, z_C, z_Var, z_Fz, z_Mv, z_frz1, z_frz2, z_bOf, z_bool, z_bAnd, z_bOr, z_bNot, z_eAnd, z_eOr, z_eNot, z_eIf, z_Nx, z_Bk, z_Ct, z_Seq, z_seqN, z_seqR, z_seqB, z_seqC, z_Asg, z_Ret, z_RetN, z_Expr, z_If, z_iSeq, z_iApp, z_For, z_loopN, z_loopC, z_lkN, z_lkC, z_lkB, z_lkR, z_setN, z_setT, z_smN, z_smC, z_eFrz, z_aN, z_aE, z_aP, z_pN, z_pE, z_pP, z_call, z_callE, z_ckO, z_ckE, z_make, z_makeE, z_mkO, z_mkE, z_meth, z_finPk, z_finEv, z_prop, z_FldI, z_Raise, z_Try, z_tkO, z_tkE, z_tkI, z_hC, z_hN, z_App, z_SetIx, z_setK, z_chain, z_own, z_ownK, z_fSub, z_fMul, z_fDiv, z_fMod, z_fPow, z_fLt, z_fLe, z_fGt, z_fGe, z_fNeg, z_fAbs, z_fMin, z_fMax, z_Xis, z_Xf, z_Lc, z_lcN, z_lcC, z_lcK, z_yes, z_wN, z_wC, z_bkN, z_bkC, z_isN1, z_isN2, z_isN3, z_isN4, z_isN5, z_isN6, z_isB1, z_isB2, z_isB3, z_isB4, z_isB5, z_isB6, z_it1, z_it2, z_it3, z_len1, z_len2, z_len3, z_ix1, z_ix2, z_ix3, fAdd, strO, tupO, ownL, intO, fInt, fList, fTuple, slO, fSlF, fSlT, fSlN, fTup, fLst, flatD, eqS, fRgL1, fRgL2, rawAll, runF, startE, backO, O.fro?, putN, putD, envX, envB, xSl, Nat.reduceLeDiff, Nat.reduceLT, List.take_succ_cons, List.take_zero, List.any_cons, List.any_nil, List.all_cons, List.all_nil, List.map_cons, List.map_nil, List.cons_append, List.nil_append, List.append_nil, List.length_cons, List.length_nil, List.replicate_succ, List.replicate_zero, List.getElem?_cons_zero, List.getElem?_cons_succ, List.getElem?_nil, List.set_cons_zero, List.set_cons_succ, List.headD_cons, List.tail_cons, List.contains_cons, List.contains_nil, Option.map_some, Option.map_none, Option.isSome_some, Bool.and_true, Bool.true_and, Bool.and_false, Bool.false_and, Bool.or_true, Bool.true_or, Bool.or_false, Bool.false_or, Bool.not_true, Bool.not_false, if_true, if_false, reduceIte, reduceCtorEq, beq_self_eq_true, Nat.reduceSub, Nat.reduceAdd, Nat.reduceBEq, Nat.reduceEqDiff, decide_true, decide_false, Bool.false_eq_true, e, isA, lA2, lN2, lL2, lA2, cC2, gC] <;> rfl
theorem refused_ok {x y z : Int} {p : Str} (h : wrong x y z = some p) : S_law_refused [tup3 x y z] = .ok (.fro (.node .tup [.str "refused", .str p, .bl true, .bl true, .bl false])) [tup3 x y z] := by
  have e := init_bad h
  unfold S_law_refused B_law_refused
  simp only [z_bind, z_bindE, z_bindS, z_ite, z_noX, z_iteX, z_get0, z_getN, z_getS, z_goN, z_goC, z_ev, z_pk, z_finN, z_finE, z_finP, z_app, z_C, z_Var, z_Fz, z_Mv, z_frz1, z_frz2, z_bOf, z_bool, z_bAnd, z_bOr, z_bNot, z_eAnd, z_eOr, z_eNot, z_eIf, z_Nx, z_Bk, z_Ct, z_Seq, z_seqN, z_seqR, z_seqB, z_seqC, z_Asg, z_Ret, z_RetN, z_Expr, z_If, z_iSeq, z_iApp, z_For, z_loopN, z_loopC, z_lkN, z_lkC, z_lkB, z_lkR, z_setN, z_setT, z_smN, z_smC, z_eFrz, z_aN, z_aE, z_aP, z_pN, z_pE, z_pP, z_call, z_callE, z_ckO, z_ckE, z_make, z_makeE, z_mkO, z_mkE, z_meth, z_finPk, z_finEv, z_prop, z_FldI, z_Raise, z_Try, z_tkO, z_tkE, z_tkI, z_hC, z_hN, z_App, z_SetIx, z_setK, z_chain, z_own, z_ownK, z_fSub, z_fMul, z_fDiv, z_fMod, z_fPow, z_fLt, z_fLe, z_fGt, z_fGe, z_fNeg, z_fAbs, z_fMin, z_fMax, z_Xis, z_Xf, z_Lc, z_lcN, z_lcC, z_lcK, z_yes, z_wN, z_wC, z_bkN, z_bkC, z_isN1, z_isN2, z_isN3, z_isN4, z_isN5, z_isN6, z_isB1, z_isB2, z_isB3, z_isB4, z_isB5, z_isB6, z_it1, z_it2, z_it3, z_len1, z_len2, z_len3, z_ix1, z_ix2, z_ix3, fAdd, strO, tupO, ownL, intO, fInt, fList, fTuple, slO, fSlF, fSlT, fSlN, fTup, fLst, flatD, eqS, fRgL1, fRgL2, rawAll, runF, startE, backO, O.fro?, putN, putD, envX, envB, xSl, Nat.reduceLeDiff, Nat.reduceLT, List.take_succ_cons, List.take_zero, List.any_cons, List.any_nil, List.all_cons, List.all_nil, List.map_cons, List.map_nil, List.cons_append, List.nil_append, List.append_nil, List.length_cons, List.length_nil, List.replicate_succ, List.replicate_zero, List.getElem?_cons_zero, List.getElem?_cons_succ, List.getElem?_nil, List.set_cons_zero, List.set_cons_succ, List.headD_cons, List.tail_cons, List.contains_cons, List.contains_nil, Option.map_some, Option.map_none, Option.isSome_some, Bool.and_true, Bool.true_and, Bool.and_false, Bool.false_and, Bool.or_true, Bool.true_or, Bool.or_false, Bool.false_or, Bool.not_true, Bool.not_false, if_true, if_false, reduceIte, reduceCtorEq, beq_self_eq_true, Nat.reduceSub, Nat.reduceAdd, Nat.reduceBEq, Nat.reduceEqDiff, decide_true, decide_false, Bool.false_eq_true, e, at0, at1, at2, lR3, lL3, lA3, cC3, gP] <;> rfl
theorem by_base_ok {x y z : Int} {p : Str} (h : wrong x y z = some p) : S_law_by_base [tup3 x y z] = .ok (.fro (.node .tup [.bl true, .bl true, .bl false])) [tup3 x y z] := by
  have e := init_bad h
  unfold S_law_by_base B_law_by_base
  simp only [z_bind, z_bindE, z_bindS, z_ite, z_noX, z_iteX, z_get0, z_getN, z_getS, z_goN, z_goC, z_ev, z_pk, z_finN, z_finE, z_finP, z_app, z_C, z_Var, z_Fz, z_Mv, z_frz1, z_frz2, z_bOf, z_bool, z_bAnd, z_bOr, z_bNot, z_eAnd, z_eOr, z_eNot, z_eIf, z_Nx, z_Bk, z_Ct, z_Seq, z_seqN, z_seqR, z_seqB, z_seqC, z_Asg, z_Ret, z_RetN, z_Expr, z_If, z_iSeq, z_iApp, z_For, z_loopN, z_loopC, z_lkN, z_lkC, z_lkB, z_lkR, z_setN, z_setT, z_smN, z_smC, z_eFrz, z_aN, z_aE, z_aP, z_pN, z_pE, z_pP, z_call, z_callE, z_ckO, z_ckE, z_make, z_makeE, z_mkO, z_mkE, z_meth, z_finPk, z_finEv, z_prop, z_FldI, z_Raise, z_Try, z_tkO, z_tkE, z_tkI, z_hC, z_hN, z_App, z_SetIx, z_setK, z_chain, z_own, z_ownK, z_fSub, z_fMul, z_fDiv, z_fMod, z_fPow, z_fLt, z_fLe, z_fGt, z_fGe, z_fNeg, z_fAbs, z_fMin, z_fMax, z_Xis, z_Xf, z_Lc, z_lcN, z_lcC, z_lcK, z_yes, z_wN, z_wC, z_bkN, z_bkC, z_isN1, z_isN2, z_isN3, z_isN4, z_isN5, z_isN6, z_isB1, z_isB2, z_isB3, z_isB4, z_isB5, z_isB6, z_it1, z_it2, z_it3, z_len1, z_len2, z_len3, z_ix1, z_ix2, z_ix3, fAdd, strO, tupO, ownL, intO, fInt, fList, fTuple, slO, fSlF, fSlT, fSlN, fTup, fLst, flatD, eqS, fRgL1, fRgL2, rawAll, runF, startE, backO, O.fro?, putN, putD, envX, envB, xSl, Nat.reduceLeDiff, Nat.reduceLT, List.take_succ_cons, List.take_zero, List.any_cons, List.any_nil, List.all_cons, List.all_nil, List.map_cons, List.map_nil, List.cons_append, List.nil_append, List.append_nil, List.length_cons, List.length_nil, List.replicate_succ, List.replicate_zero, List.getElem?_cons_zero, List.getElem?_cons_succ, List.getElem?_nil, List.set_cons_zero, List.set_cons_succ, List.headD_cons, List.tail_cons, List.contains_cons, List.contains_nil, Option.map_some, Option.map_none, Option.isSome_some, Bool.and_true, Bool.true_and, Bool.and_false, Bool.false_and, Bool.or_true, Bool.true_or, Bool.or_false, Bool.false_or, Bool.not_true, Bool.not_false, if_true, if_false, reduceIte, reduceCtorEq, beq_self_eq_true, Nat.reduceSub, Nat.reduceAdd, Nat.reduceBEq, Nat.reduceEqDiff, decide_true, decide_false, Bool.false_eq_true, e, at0, at1, at2, lR3, lL3, lN3, cC3, gP] <;> rfl
/-! ### is it the same -/
def scal : D → Bool
  | .non => true
  | .bl _ => true
  | .int _ => true
  | .str x => SeqAt.shaped (.str x)
  | .node _ _ => false
abbrev tI : List (Ty × Bool) := [(.b "NoneType", false), (.b "bool", true), (.b "int", true), (.b "str", false), (.b "tuple", false), (.b "list", false)]
abbrev tB : List (Ty × Bool) := [(.b "NoneType", false), (.b "bool", true), (.b "int", false), (.b "str", false), (.b "tuple", false), (.b "list", false)]
abbrev tS : List (Ty × Bool) := [(.b "NoneType", false), (.b "bool", false), (.b "int", false), (.b "str", true), (.b "tuple", false), (.b "list", false)]
abbrev tT : List (Ty × Bool) := [(.b "NoneType", false), (.b "bool", false), (.b "int", false), (.b "str", false), (.b "tuple", true), (.b "list", false)]
abbrev tL : List (Ty × Bool) := [(.b "NoneType", false), (.b "bool", false), (.b "int", false), (.b "str", false), (.b "tuple", false), (.b "list", true)]
theorem yII (i : Int) : fIsi tI [I i] = some (.fro (.bl true)) := rfl
theorem yBI (i : Int) : fIsi tB [I i] = some (.fro (.bl false)) := rfl
theorem yBB (i : Bool) : fIsi tB [.fro (.bl i)] = some (.fro (.bl true)) := rfl
theorem yIS (i : Str) : fIsi tI [.fro (.str i)] = some (.fro (.bl false)) := rfl
theorem ySS (i : Str) : fIsi tS [.fro (.str i)] = some (.fro (.bl true)) := rfl
theorem yIT (ds : List D) : fIsi tI [.fro (.node .tup ds)] = some (.fro (.bl false)) := rfl
theorem yST (ds : List D) : fIsi tS [.fro (.node .tup ds)] = some (.fro (.bl false)) := rfl
theorem yTT (ds : List D) : fIsi tT [.fro (.node .tup ds)] = some (.fro (.bl true)) := rfl
theorem yLT (ds : List D) : fIsi tL [.fro (.node .tup ds)] = some (.fro (.bl false)) := rfl
theorem is_int (i : Int) : S_law_is_int [I i] = .ok (.fro (.bl true)) [I i] := by
  unfold S_law_is_int B_law_is_int
  simp only [z_bind, z_bindE, z_bindS, z_ite, z_noX, z_iteX, z_get0, z_getN, z_getS, z_goN, z_goC, z_ev, z_pk, z_finN, z_finE, z_finP, z_app, z_C, z_Var, z_Fz, z_Mv, z_frz1, z_frz2, z_bOf, z_bool, z_bAnd, z_bOr, z_bNot, z_eAnd, z_eOr, z_eNot, z_eIf, z_Nx, z_Bk, z_Ct, z_Seq, z_seqN, z_seqR, z_seqB, z_seqC, z_Asg, z_Ret, z_RetN, z_Expr, z_If, z_iSeq, z_iApp, z_For, z_loopN, z_loopC, z_lkN, z_lkC, z_lkB, z_lkR, z_setN, z_setT, z_smN, z_smC, z_eFrz, z_aN, z_aE, z_aP, z_pN, z_pE, z_pP, z_call, z_callE, z_ckO, z_ckE, z_make, z_makeE, z_mkO, z_mkE, z_meth, z_finPk, z_finEv, z_prop, z_FldI, z_Raise, z_Try, z_tkO, z_tkE, z_tkI, z_hC, z_hN, z_App, z_SetIx, z_setK, z_chain, z_own, z_ownK, z_fSub, z_fMul, z_fDiv, z_fMod, z_fPow, z_fLt, z_fLe, z_fGt, z_fGe, z_fNeg, z_fAbs, z_fMin, z_fMax, z_Xis, z_Xf, z_Lc, z_lcN, z_lcC, z_lcK, z_yes, z_wN, z_wC, z_bkN, z_bkC, z_isN1, z_isN2, z_isN3, z_isN4, z_isN5, z_isN6, z_isB1, z_isB2, z_isB3, z_isB4, z_isB5, z_isB6, z_it1, z_it2, z_it3, z_len1, z_len2, z_len3, z_ix1, z_ix2, z_ix3, fAdd, strO, tupO, ownL, intO, fInt, fList, fTuple, slO, fSlF, fSlT, fSlN, fTup, fLst, flatD, eqS, fRgL1, fRgL2, rawAll, runF, startE, backO, O.fro?, putN, putD, envX, envB, xSl, Nat.reduceLeDiff, Nat.reduceLT, List.take_succ_cons, List.take_zero, List.any_cons, List.any_nil, List.all_cons, List.all_nil, List.map_cons, List.map_nil, List.cons_append, List.nil_append, List.append_nil, List.length_cons, List.length_nil, List.replicate_succ, List.replicate_zero, List.getElem?_cons_zero, List.getElem?_cons_succ, List.getElem?_nil, List.set_cons_zero, List.set_cons_succ, List.headD_cons, List.tail_cons, List.contains_cons, List.contains_nil, Option.map_some, Option.map_none, Option.isSome_some, Bool.and_true, Bool.true_and, Bool.and_false, Bool.false_and, Bool.or_true, Bool.true_or, Bool.or_false, Bool.false_or, Bool.not_true, Bool.not_false, if_true, if_false, reduceIte, reduceCtorEq, beq_self_eq_true, Nat.reduceSub, Nat.reduceAdd, Nat.reduceBEq, Nat.reduceEqDiff, decide_true, decide_false, Bool.false_eq_true, yII, yBI] <;> rfl
theorem fEqS {x : Str} (h : SeqAt.shaped (.str x) = true) : fEq false [.fro (.str x), .fro (.str x)] = some (.fro (.bl true)) := by
  have e : pyO (.fro (.str x)) = some (.str x) := by
    simp only [pyO, O.look?, toP, h, if_true]
  have e2 : PyData.eqv (.str x) (.str x) = true := by simp only [PyData.eqv, beq_self_eq_true]
  simp only [fEq, e, e2, Bool.false_eq_true, if_false]
theorem same_sc (d : Nat) (x : D) (h : scal x = true) : S_law_same (d + 1) [.fro x, .fro x] = .ok (.fro (.bl true)) [.fro x, .fro x] := by
  show runF 3 [0, 1] (B_law_same (S_law_same d)) [.fro x, .fro x] = _
  unfold B_law_same
  cases x with
  | non => simp only [z_bind, z_bindE, z_bindS, z_ite, z_noX, z_iteX, z_get0, z_getN, z_getS, z_goN, z_goC, z_ev, z_pk, z_finN, z_finE, z_finP, z_app, z_C, z_Var, z_Fz, z_Mv, z_frz1, z_frz2, z_bOf, z_bool, z_bAnd, z_bOr, z_bNot, z_eAnd, z_eOr, z_eNot, z_eIf, z_Nx, z_Bk, z_Ct, z_Seq, z_seqN, z_seqR, z_seqB, z_seqC, z_Asg, z_Ret, z_RetN, z_Expr, z_If, z_iSeq, z_iApp, z_For, z_loopN, z_loopC, z_lkN, z_lkC, z_lkB, z_lkR, z_setN, z_setT, z_smN, z_smC, z_eFrz, z_aN, z_aE, z_aP, z_pN, z_pE, z_pP, z_call, z_callE, z_ckO, z_ckE, z_make, z_makeE, z_mkO, z_mkE, z_meth, z_finPk, z_finEv, z_prop, z_FldI, z_Raise, z_Try, z_tkO, z_tkE, z_tkI, z_hC, z_hN, z_App, z_SetIx, z_setK, z_chain, z_own, z_ownK, z_fSub, z_fMul, z_fDiv, z_fMod, z_fPow, z_fLt, z_fLe, z_fGt, z_fGe, z_fNeg, z_fAbs, z_fMin, z_fMax, z_Xis, z_Xf, z_Lc, z_lcN, z_lcC, z_lcK, z_yes, z_wN, z_wC, z_bkN, z_bkC, z_isN1, z_isN2, z_isN3, z_isN4, z_isN5, z_isN6, z_isB1, z_isB2, z_isB3, z_isB4, z_isB5, z_isB6, z_it1, z_it2, z_it3, z_len1, z_len2, z_len3, z_ix1, z_ix2, z_ix3, fAdd, strO, tupO, ownL, intO, fInt, fList, fTuple, slO, fSlF, fSlT, fSlN, fTup, fLst, flatD, eqS, fRgL1, fRgL2, rawAll, runF, startE, backO, O.fro?, putN, putD, envX, envB, xSl, Nat.reduceLeDiff, Nat.reduceLT, List.take_succ_cons, List.take_zero, List.any_cons, List.any_nil, List.all_cons, List.all_nil, List.map_cons, List.map_nil, List.cons_append, List.nil_append, List.append_nil, List.length_cons, List.length_nil, List.replicate_succ, List.replicate_zero, List.getElem?_cons_zero, List.getElem?_cons_succ, List.getElem?_nil, List.set_cons_zero, List.set_cons_succ, List.headD_cons, List.tail_cons, List.contains_cons, List.contains_nil, Option.map_some, Option.map_none, Option.isSome_some, Bool.and_true, Bool.true_and, Bool.and_false, Bool.false_and, Bool.or_true, Bool.true_or, Bool.or_false, Bool.false_or, Bool.not_true, Bool.not_false, if_true, if_false, reduceIte, reduceCtorEq, beq_self_eq_true, Nat.reduceSub, Nat.reduceAdd, Nat.reduceBEq, Nat.reduceEqDiff, decide_true, decide_false, Bool.false_eq_true] <;> rfl
  | bl b => cases b <;> simp only [z_bind, z_bindE, z_bindS, z_ite, z_noX, z_iteX, z_get0, z_getN, z_getS, z_goN, z_goC, z_ev, z_pk, z_finN, z_finE, z_finP, z_app, z_C, z_Var, z_Fz, z_Mv, z_frz1, z_frz2, z_bOf, z_bool, z_bAnd, z_bOr, z_bNot, z_eAnd, z_eOr, z_eNot, z_eIf, z_Nx, z_Bk, z_Ct, z_Seq, z_seqN, z_seqR, z_seqB, z_seqC, z_Asg, z_Ret, z_RetN, z_Expr, z_If, z_iSeq, z_iApp, z_For, z_loopN, z_loopC, z_lkN, z_lkC, z_lkB, z_lkR, z_setN, z_setT, z_smN, z_smC, z_eFrz, z_aN, z_aE, z_aP, z_pN, z_pE, z_pP, z_call, z_callE, z_ckO, z_ckE, z_make, z_makeE, z_mkO, z_mkE, z_meth, z_finPk, z_finEv, z_prop, z_FldI, z_Raise, z_Try, z_tkO, z_tkE, z_tkI, z_hC, z_hN, z_App, z_SetIx, z_setK, z_chain, z_own, z_ownK, z_fSub, z_fMul, z_fDiv, z_fMod, z_fPow, z_fLt, z_fLe, z_fGt, z_fGe, z_fNeg, z_fAbs, z_fMin, z_fMax, z_Xis, z_Xf, z_Lc, z_lcN, z_lcC, z_lcK, z_yes, z_wN, z_wC, z_bkN, z_bkC, z_isN1, z_isN2, z_isN3, z_isN4, z_isN5, z_isN6, z_isB1, z_isB2, z_isB3, z_isB4, z_isB5, z_isB6, z_it1, z_it2, z_it3, z_len1, z_len2, z_len3, z_ix1, z_ix2, z_ix3, fAdd, strO, tupO, ownL, intO, fInt, fList, fTuple, slO, fSlF, fSlT, fSlN, fTup, fLst, flatD, eqS, fRgL1, fRgL2, rawAll, runF, startE, backO, O.fro?, putN, putD, envX, envB, xSl, Nat.reduceLeDiff, Nat.reduceLT, List.take_succ_cons, List.take_zero, List.any_cons, List.any_nil, List.all_cons, List.all_nil, List.map_cons, List.map_nil, List.cons_append, List.nil_append, List.append_nil, List.length_cons, List.length_nil, List.replicate_succ, List.replicate_zero, List.getElem?_cons_zero, List.getElem?_cons_succ, List.getElem?_nil, List.set_cons_zero, List.set_cons_succ, List.headD_cons, List.tail_cons, List.contains_cons, List.contains_nil, Option.map_some, Option.map_none, Option.isSome_some, Bool.and_true, Bool.true_and, Bool.and_false, Bool.false_and, Bool.or_true, Bool.true_or, Bool.or_false, Bool.false_or, Bool.not_true, Bool.not_false, if_true, if_false, reduceIte, reduceCtorEq, beq_self_eq_true, Nat.reduceSub, Nat.reduceAdd, Nat.reduceBEq, Nat.reduceEqDiff, decide_true, decide_false, Bool.false_eq_true, yBB, fEqB] <;> rfl
  | int i => simp only [z_bind, z_bindE, z_bindS, z_ite, z_noX, z_iteX, z_get0, z_getN, z_getS, z_goN, z_goC, z_ev, z_pk, z_finN, z_finE, z_finP, z_app, z_C, z_Var, z_Fz, z_Mv, z_frz1, z_frz2, z_bOf, z_bool, z_bAnd, z_bOr, z_bNot, z_eAnd, z_eOr, z_eNot, z_eIf, z_Nx, z_Bk, z_Ct, z_Seq, z_seqN, z_seqR, z_seqB, z_seqC, z_Asg, z_Ret, z_RetN, z_Expr, z_If, z_iSeq, z_iApp, z_For, z_loopN, z_loopC, z_lkN, z_lkC, z_lkB, z_lkR, z_setN, z_setT, z_smN, z_smC, z_eFrz, z_aN, z_aE, z_aP, z_pN, z_pE, z_pP, z_call, z_callE, z_ckO, z_ckE, z_make, z_makeE, z_mkO, z_mkE, z_meth, z_finPk, z_finEv, z_prop, z_FldI, z_Raise, z_Try, z_tkO, z_tkE, z_tkI, z_hC, z_hN, z_App, z_SetIx, z_setK, z_chain, z_own, z_ownK, z_fSub, z_fMul, z_fDiv, z_fMod, z_fPow, z_fLt, z_fLe, z_fGt, z_fGe, z_fNeg, z_fAbs, z_fMin, z_fMax, z_Xis, z_Xf, z_Lc, z_lcN, z_lcC, z_lcK, z_yes, z_wN, z_wC, z_bkN, z_bkC, z_isN1, z_isN2, z_isN3, z_isN4, z_isN5, z_isN6, z_isB1, z_isB2, z_isB3, z_isB4, z_isB5, z_isB6, z_it1, z_it2, z_it3, z_len1, z_len2, z_len3, z_ix1, z_ix2, z_ix3, fAdd, strO, tupO, ownL, intO, fInt, fList, fTuple, slO, fSlF, fSlT, fSlN, fTup, fLst, flatD, eqS, fRgL1, fRgL2, rawAll, runF, startE, backO, O.fro?, putN, putD, envX, envB, xSl, Nat.reduceLeDiff, Nat.reduceLT, List.take_succ_cons, List.take_zero, List.any_cons, List.any_nil, List.all_cons, List.all_nil, List.map_cons, List.map_nil, List.cons_append, List.nil_append, List.append_nil, List.length_cons, List.length_nil, List.replicate_succ, List.replicate_zero, List.getElem?_cons_zero, List.getElem?_cons_succ, List.getElem?_nil, List.set_cons_zero, List.set_cons_succ, List.headD_cons, List.tail_cons, List.contains_cons, List.contains_nil, Option.map_some, Option.map_none, Option.isSome_some, Bool.and_true, Bool.true_and, Bool.and_false, Bool.false_and, Bool.or_true, Bool.true_or, Bool.or_false, Bool.false_or, Bool.not_true, Bool.not_false, if_true, if_false, reduceIte, reduceCtorEq, beq_self_eq_true, Nat.reduceSub, Nat.reduceAdd, Nat.reduceBEq, Nat.reduceEqDiff, decide_true, decide_false, Bool.false_eq_true, yII, is_int, fEqI] <;> rfl
  | str s => simp only [z_bind, z_bindE, z_bindS, z_ite, z_noX, z_iteX, z_get0, z_getN, z_getS, z_goN, z_goC, z_ev, z_pk, z_finN, z_finE, z_finP, z_app, z_C, z_Var, z_Fz, z_Mv, z_frz1, z_frz2, z_bOf, z_bool, z_bAnd, z_bOr, z_bNot, z_eAnd, z_eOr, z_eNot, z_eIf, z_Nx, z_Bk, z_Ct, z_Seq, z_seqN, z_seqR, z_seqB, z_seqC, z_Asg, z_Ret, z_RetN, z_Expr, z_If, z_iSeq, z_iApp, z_For, z_loopN, z_loopC, z_lkN, z_lkC, z_lkB, z_lkR, z_setN, z_setT, z_smN, z_smC, z_eFrz, z_aN, z_aE, z_aP, z_pN, z_pE, z_pP, z_call, z_callE, z_ckO, z_ckE, z_make, z_makeE, z_mkO, z_mkE, z_meth, z_finPk, z_finEv, z_prop, z_FldI, z_Raise, z_Try, z_tkO, z_tkE, z_tkI, z_hC, z_hN, z_App, z_SetIx, z_setK, z_chain, z_own, z_ownK, z_fSub, z_fMul, z_fDiv, z_fMod, z_fPow, z_fLt, z_fLe, z_fGt, z_fGe, z_fNeg, z_fAbs, z_fMin, z_fMax, z_Xis, z_Xf, z_Lc, z_lcN, z_lcC, z_lcK, z_yes, z_wN, z_wC, z_bkN, z_bkC, z_isN1, z_isN2, z_isN3, z_isN4, z_isN5, z_isN6, z_isB1, z_isB2, z_isB3, z_isB4, z_isB5, z_isB6, z_it1, z_it2, z_it3, z_len1, z_len2, z_len3, z_ix1, z_ix2, z_ix3, fAdd, strO, tupO, ownL, intO, fInt, fList, fTuple, slO, fSlF, fSlT, fSlN, fTup, fLst, flatD, eqS, fRgL1, fRgL2, rawAll, runF, startE, backO, O.fro?, putN, putD, envX, envB, xSl, Nat.reduceLeDiff, Nat.reduceLT, List.take_succ_cons, List.take_zero, List.any_cons, List.any_nil, List.all_cons, List.all_nil, List.map_cons, List.map_nil, List.cons_append, List.nil_append, List.append_nil, List.length_cons, List.length_nil, List.replicate_succ, List.replicate_zero, List.getElem?_cons_zero, List.getElem?_cons_succ, List.getElem?_nil, List.set_cons_zero, List.set_cons_succ, List.headD_cons, List.tail_cons, List.contains_cons, List.contains_nil, Option.map_some, Option.map_none, Option.isSome_some, Bool.and_true, Bool.true_and, Bool.and_false, Bool.false_and, Bool.or_true, Bool.true_or, Bool.or_false, Bool.false_or, Bool.not_true, Bool.not_false, if_true, if_false, reduceIte, reduceCtorEq, beq_self_eq_true, Nat.reduceSub, Nat.reduceAdd, Nat.reduceBEq, Nat.reduceEqDiff, decide_true, decide_false, Bool.false_eq_true, yIS, ySS, fEqS h] <;> rfl
  | node t ds => cases h
theorem same_loop (d : Nat) (ds : List D) (h : ds.all scal = true) : ∀ (L : List D) (w : Option O), (∀ q ∈ L, ∃ k : Nat, q = .int k ∧ k < ds.length) →
    ∃ w', loopD (setN 2) (sIf (bNot (bOf (eCall (S_law_same (d + 1)) [(.ev (eApp fIx [(.pk 0), (.pk 2)])), (.ev (eApp fIx [(.pk 1), (.pk 2)]))] []))) (sRet (eC (.bl false))) sNx) L [some (.fro (.node .tup ds)), some (.fro (.node .tup ds)), w] =
      .ok (.nx, [some (.fro (.node .tup ds)), some (.fro (.node .tup ds)), w'])
  | [], w, _ => ⟨w, rfl⟩
  | q :: L, w, hL => by
    obtain ⟨k, rfl, hk⟩ := hL q (List.mem_cons_self ..)
    obtain ⟨w', e⟩ := same_loop d ds h L (some (I (k : Int))) fun q hq => hL q (List.mem_cons_of_mem _ hq)
    refine ⟨w', ?_⟩
    have e1 : ds[k]? = some ds[k] := List.getElem?_eq_getElem hk
    have e2 := same_sc d ds[k] (List.all_eq_true.mp h _ (List.getElem_mem hk))
    simp only [z_bind, z_bindE, z_bindS, z_ite, z_noX, z_iteX, z_get0, z_getN, z_getS, z_goN, z_goC, z_ev, z_pk, z_finN, z_finE, z_finP, z_app, z_C, z_Var, z_Fz, z_Mv, z_frz1, z_frz2, z_bOf, z_bool, z_bAnd, z_bOr, z_bNot, z_eAnd, z_eOr, z_eNot, z_eIf, z_Nx, z_Bk, z_Ct, z_Seq, z_seqN, z_seqR, z_seqB, z_seqC, z_Asg, z_Ret, z_RetN, z_Expr, z_If, z_iSeq, z_iApp, z_For, z_loopN, z_loopC, z_lkN, z_lkC, z_lkB, z_lkR, z_setN, z_setT, z_smN, z_smC, z_eFrz, z_aN, z_aE, z_aP, z_pN, z_pE, z_pP, z_call, z_callE, z_ckO, z_ckE, z_make, z_makeE, z_mkO, z_mkE, z_meth, z_finPk, z_finEv, z_prop, z_FldI, z_Raise, z_Try, z_tkO, z_tkE, z_tkI, z_hC, z_hN, z_App, z_SetIx, z_setK, z_chain, z_own, z_ownK, z_fSub, z_fMul, z_fDiv, z_fMod, z_fPow, z_fLt, z_fLe, z_fGt, z_fGe, z_fNeg, z_fAbs, z_fMin, z_fMax, z_Xis, z_Xf, z_Lc, z_lcN, z_lcC, z_lcK, z_yes, z_wN, z_wC, z_bkN, z_bkC, z_isN1, z_isN2, z_isN3, z_isN4, z_isN5, z_isN6, z_isB1, z_isB2, z_isB3, z_isB4, z_isB5, z_isB6, z_it1, z_it2, z_it3, z_len1, z_len2, z_len3, z_ix1, z_ix2, z_ix3, fAdd, strO, tupO, ownL, intO, fInt, fList, fTuple, slO, fSlF, fSlT, fSlN, fTup, fLst, flatD, eqS, fRgL1, fRgL2, rawAll, runF, startE, backO, O.fro?, putN, putD, envX, envB, xSl, Nat.reduceLeDiff, Nat.reduceLT, List.take_succ_cons, List.take_zero, List.any_cons, List.any_nil, List.all_cons, List.all_nil, List.map_cons, List.map_nil, List.cons_append, List.nil_append, List.append_nil, List.length_cons, List.length_nil, List.replicate_succ, List.replicate_zero, List.getElem?_cons_zero, List.getElem?_cons_succ, List.getElem?_nil, List.set_cons_zero, List.set_cons_succ, List.headD_cons, List.tail_cons, List.contains_cons, List.contains_nil, Option.map_some, Option.map_none, Option.isSome_some, Bool.and_true, Bool.true_and, Bool.and_false, Bool.false_and, Bool.or_true, Bool.true_or, Bool.or_false, Bool.false_or, Bool.not_true, Bool.not_false, if_true, if_false, reduceIte, reduceCtorEq, beq_self_eq_true, Nat.reduceSub, Nat.reduceAdd, Nat.reduceBEq, Nat.reduceEqDiff, decide_true, decide_false, Bool.false_eq_true, at_nat, e1, e2, e]
theorem big_len {n : Nat} (h : n < 1000) : big62 (n : Int) = true := by
  have h1 : -(2 ^ 62) ≤ (n : Int) := Int.le_trans (by decide) (Int.natCast_nonneg n)
  have h2 : (n : Int) < 2 ^ 62 := Int.lt_trans (Int.ofNat_lt.mpr h) (by decide)
  exact decide_eq_true ⟨h1, h2⟩
theorem rng_len {n : Nat} (h : n < 1000) : kRange1 [I (n : Int)] = some (rngD 0 n) := by
  simp only [kRange1, intO, big_len h, if_true, Int.toNat_natCast]
theorem rng_mem {n : Nat} : ∀ q ∈ rngD 0 n, ∃ k : Nat, q = .int k ∧ k < n := fun q hq => by
  unfold rngD at hq
  obtain ⟨k, hk, rfl⟩ := List.mem_map.mp hq
  exact ⟨k, by rw [Int.zero_add], List.mem_range.mp hk⟩
theorem same_step (d : Nat) : S_law_same (d + 1) = runF 3 [0, 1] (B_law_same (S_law_same d)) := rfl
theorem same_tup (d : Nat) (ds : List D) (h : ds.all scal = true) (hl : ds.length < 1000) : S_law_same (d + 2) [.fro (.node .tup ds), .fro (.node .tup ds)] = .ok (.fro (.bl true)) [.fro (.node .tup ds), .fro (.node .tup ds)] := by
  rw [same_step (d + 1), run_fin]
  have hr := rng_len hl
  obtain ⟨w', e⟩ := same_loop d ds h (rngD 0 ds.length) none rng_mem
  have se : startE 3 [O.fro (.node .tup ds), .fro (.node .tup ds)] = [some (.fro (.node .tup ds)), some (.fro (.node .tup ds)), none] := rfl
  rw [se]
  unfold B_law_same
  refine fin_nx (e' := [some (.fro (.node .tup ds)), some (.fro (.node .tup ds)), none]) (by simp only [z_bind, z_bindE, z_bindS, z_ite, z_noX, z_iteX, z_get0, z_getN, z_getS, z_goN, z_goC, z_ev, z_pk, z_finN, z_finE, z_finP, z_app, z_C, z_Var, z_Fz, z_Mv, z_frz1, z_frz2, z_bOf, z_bool, z_bAnd, z_bOr, z_bNot, z_eAnd, z_eOr, z_eNot, z_eIf, z_Nx, z_Bk, z_Ct, z_Seq, z_seqN, z_seqR, z_seqB, z_seqC, z_Asg, z_Ret, z_RetN, z_Expr, z_If, z_iSeq, z_iApp, z_For, z_loopN, z_loopC, z_lkN, z_lkC, z_lkB, z_lkR, z_setN, z_setT, z_smN, z_smC, z_eFrz, z_aN, z_aE, z_aP, z_pN, z_pE, z_pP, z_call, z_callE, z_ckO, z_ckE, z_make, z_makeE, z_mkO, z_mkE, z_meth, z_finPk, z_finEv, z_prop, z_FldI, z_Raise, z_Try, z_tkO, z_tkE, z_tkI, z_hC, z_hN, z_App, z_SetIx, z_setK, z_chain, z_own, z_ownK, z_fSub, z_fMul, z_fDiv, z_fMod, z_fPow, z_fLt, z_fLe, z_fGt, z_fGe, z_fNeg, z_fAbs, z_fMin, z_fMax, z_Xis, z_Xf, z_Lc, z_lcN, z_lcC, z_lcK, z_yes, z_wN, z_wC, z_bkN, z_bkC, z_isN1, z_isN2, z_isN3, z_isN4, z_isN5, z_isN6, z_isB1, z_isB2, z_isB3, z_isB4, z_isB5, z_isB6, z_it1, z_it2, z_it3, z_len1, z_len2, z_len3, z_ix1, z_ix2, z_ix3, fAdd, strO, tupO, ownL, intO, fInt, fList, fTuple, slO, fSlF, fSlT, fSlN, fTup, fLst, flatD, eqS, fRgL1, fRgL2, rawAll, runF, startE, backO, O.fro?, putN, putD, envX, envB, xSl, Nat.reduceLeDiff, Nat.reduceLT, List.take_succ_cons, List.take_zero, List.any_cons, List.any_nil, List.all_cons, List.all_nil, List.map_cons, List.map_nil, List.cons_append, List.nil_append, List.append_nil, List.length_cons, List.length_nil, List.replicate_succ, List.replicate_zero, List.getElem?_cons_zero, List.getElem?_cons_succ, List.getElem?_nil, List.set_cons_zero, List.set_cons_succ, List.headD_cons, List.tail_cons, List.contains_cons, List.contains_nil, Option.map_some, Option.map_none, Option.isSome_some, Bool.and_true, Bool.true_and, Bool.and_false, Bool.false_and, Bool.or_true, Bool.true_or, Bool.or_false, Bool.false_or, Bool.not_true, Bool.not_false, if_true, if_false, reduceIte, reduceCtorEq, beq_self_eq_true, Nat.reduceSub, Nat.reduceAdd, Nat.reduceBEq, Nat.reduceEqDiff, decide_true, decide_false, Bool.false_eq_true]) ?_
  refine fin_nx (e' := [some (.fro (.node .tup ds)), some (.fro (.node .tup ds)), none]) (by simp only [z_bind, z_bindE, z_bindS, z_ite, z_noX, z_iteX, z_get0, z_getN, z_getS, z_goN, z_goC, z_ev, z_pk, z_finN, z_finE, z_finP, z_app, z_C, z_Var, z_Fz, z_Mv, z_frz1, z_frz2, z_bOf, z_bool, z_bAnd, z_bOr, z_bNot, z_eAnd, z_eOr, z_eNot, z_eIf, z_Nx, z_Bk, z_Ct, z_Seq, z_seqN, z_seqR, z_seqB, z_seqC, z_Asg, z_Ret, z_RetN, z_Expr, z_If, z_iSeq, z_iApp, z_For, z_loopN, z_loopC, z_lkN, z_lkC, z_lkB, z_lkR, z_setN, z_setT, z_smN, z_smC, z_eFrz, z_aN, z_aE, z_aP, z_pN, z_pE, z_pP, z_call, z_callE, z_ckO, z_ckE, z_make, z_makeE, z_mkO, z_mkE, z_meth, z_finPk, z_finEv, z_prop, z_FldI, z_Raise, z_Try, z_tkO, z_tkE, z_tkI, z_hC, z_hN, z_App, z_SetIx, z_setK, z_chain, z_own, z_ownK, z_fSub, z_fMul, z_fDiv, z_fMod, z_fPow, z_fLt, z_fLe, z_fGt, z_fGe, z_fNeg, z_fAbs, z_fMin, z_fMax, z_Xis, z_Xf, z_Lc, z_lcN, z_lcC, z_lcK, z_yes, z_wN, z_wC, z_bkN, z_bkC, z_isN1, z_isN2, z_isN3, z_isN4, z_isN5, z_isN6, z_isB1, z_isB2, z_isB3, z_isB4, z_isB5, z_isB6, z_it1, z_it2, z_it3, z_len1, z_len2, z_len3, z_ix1, z_ix2, z_ix3, fAdd, strO, tupO, ownL, intO, fInt, fList, fTuple, slO, fSlF, fSlT, fSlN, fTup, fLst, flatD, eqS, fRgL1, fRgL2, rawAll, runF, startE, backO, O.fro?, putN, putD, envX, envB, xSl, Nat.reduceLeDiff, Nat.reduceLT, List.take_succ_cons, List.take_zero, List.any_cons, List.any_nil, List.all_cons, List.all_nil, List.map_cons, List.map_nil, List.cons_append, List.nil_append, List.append_nil, List.length_cons, List.length_nil, List.replicate_succ, List.replicate_zero, List.getElem?_cons_zero, List.getElem?_cons_succ, List.getElem?_nil, List.set_cons_zero, List.set_cons_succ, List.headD_cons, List.tail_cons, List.contains_cons, List.contains_nil, Option.map_some, Option.map_none, Option.isSome_some, Bool.and_true, Bool.true_and, Bool.and_false, Bool.false_and, Bool.or_true, Bool.true_or, Bool.or_false, Bool.false_or, Bool.not_true, Bool.not_false, if_true, if_false, reduceIte, reduceCtorEq, beq_self_eq_true, Nat.reduceSub, Nat.reduceAdd, Nat.reduceBEq, Nat.reduceEqDiff, decide_true, decide_false, Bool.false_eq_true]) ?_
  refine fin_nx (e' := [some (.fro (.node .tup ds)), some (.fro (.node .tup ds)), none]) (by simp only [z_bind, z_bindE, z_bindS, z_ite, z_noX, z_iteX, z_get0, z_getN, z_getS, z_goN, z_goC, z_ev, z_pk, z_finN, z_finE, z_finP, z_app, z_C, z_Var, z_Fz, z_Mv, z_frz1, z_frz2, z_bOf, z_bool, z_bAnd, z_bOr, z_bNot, z_eAnd, z_eOr, z_eNot, z_eIf, z_Nx, z_Bk, z_Ct, z_Seq, z_seqN, z_seqR, z_seqB, z_seqC, z_Asg, z_Ret, z_RetN, z_Expr, z_If, z_iSeq, z_iApp, z_For, z_loopN, z_loopC, z_lkN, z_lkC, z_lkB, z_lkR, z_setN, z_setT, z_smN, z_smC, z_eFrz, z_aN, z_aE, z_aP, z_pN, z_pE, z_pP, z_call, z_callE, z_ckO, z_ckE, z_make, z_makeE, z_mkO, z_mkE, z_meth, z_finPk, z_finEv, z_prop, z_FldI, z_Raise, z_Try, z_tkO, z_tkE, z_tkI, z_hC, z_hN, z_App, z_SetIx, z_setK, z_chain, z_own, z_ownK, z_fSub, z_fMul, z_fDiv, z_fMod, z_fPow, z_fLt, z_fLe, z_fGt, z_fGe, z_fNeg, z_fAbs, z_fMin, z_fMax, z_Xis, z_Xf, z_Lc, z_lcN, z_lcC, z_lcK, z_yes, z_wN, z_wC, z_bkN, z_bkC, z_isN1, z_isN2, z_isN3, z_isN4, z_isN5, z_isN6, z_isB1, z_isB2, z_isB3, z_isB4, z_isB5, z_isB6, z_it1, z_it2, z_it3, z_len1, z_len2, z_len3, z_ix1, z_ix2, z_ix3, fAdd, strO, tupO, ownL, intO, fInt, fList, fTuple, slO, fSlF, fSlT, fSlN, fTup, fLst, flatD, eqS, fRgL1, fRgL2, rawAll, runF, startE, backO, O.fro?, putN, putD, envX, envB, xSl, Nat.reduceLeDiff, Nat.reduceLT, List.take_succ_cons, List.take_zero, List.any_cons, List.any_nil, List.all_cons, List.all_nil, List.map_cons, List.map_nil, List.cons_append, List.nil_append, List.append_nil, List.length_cons, List.length_nil, List.replicate_succ, List.replicate_zero, List.getElem?_cons_zero, List.getElem?_cons_succ, List.getElem?_nil, List.set_cons_zero, List.set_cons_succ, List.headD_cons, List.tail_cons, List.contains_cons, List.contains_nil, Option.map_some, Option.map_none, Option.isSome_some, Bool.and_true, Bool.true_and, Bool.and_false, Bool.false_and, Bool.or_true, Bool.true_or, Bool.or_false, Bool.false_or, Bool.not_true, Bool.not_false, if_true, if_false, reduceIte, reduceCtorEq, beq_self_eq_true, Nat.reduceSub, Nat.reduceAdd, Nat.reduceBEq, Nat.reduceEqDiff, decide_true, decide_false, Bool.false_eq_true, yIT]) ?_
  refine fin_nx (e' := [some (.fro (.node .tup ds)), some (.fro (.node .tup ds)), none]) (by simp only [z_bind, z_bindE, z_bindS, z_ite, z_noX, z_iteX, z_get0, z_getN, z_getS, z_goN, z_goC, z_ev, z_pk, z_finN, z_finE, z_finP, z_app, z_C, z_Var, z_Fz, z_Mv, z_frz1, z_frz2, z_bOf, z_bool, z_bAnd, z_bOr, z_bNot, z_eAnd, z_eOr, z_eNot, z_eIf, z_Nx, z_Bk, z_Ct, z_Seq, z_seqN, z_seqR, z_seqB, z_seqC, z_Asg, z_Ret, z_RetN, z_Expr, z_If, z_iSeq, z_iApp, z_For, z_loopN, z_loopC, z_lkN, z_lkC, z_lkB, z_lkR, z_setN, z_setT, z_smN, z_smC, z_eFrz, z_aN, z_aE, z_aP, z_pN, z_pE, z_pP, z_call, z_callE, z_ckO, z_ckE, z_make, z_makeE, z_mkO, z_mkE, z_meth, z_finPk, z_finEv, z_prop, z_FldI, z_Raise, z_Try, z_tkO, z_tkE, z_tkI, z_hC, z_hN, z_App, z_SetIx, z_setK, z_chain, z_own, z_ownK, z_fSub, z_fMul, z_fDiv, z_fMod, z_fPow, z_fLt, z_fLe, z_fGt, z_fGe, z_fNeg, z_fAbs, z_fMin, z_fMax, z_Xis, z_Xf, z_Lc, z_lcN, z_lcC, z_lcK, z_yes, z_wN, z_wC, z_bkN, z_bkC, z_isN1, z_isN2, z_isN3, z_isN4, z_isN5, z_isN6, z_isB1, z_isB2, z_isB3, z_isB4, z_isB5, z_isB6, z_it1, z_it2, z_it3, z_len1, z_len2, z_len3, z_ix1, z_ix2, z_ix3, fAdd, strO, tupO, ownL, intO, fInt, fList, fTuple, slO, fSlF, fSlT, fSlN, fTup, fLst, flatD, eqS, fRgL1, fRgL2, rawAll, runF, startE, backO, O.fro?, putN, putD, envX, envB, xSl, Nat.reduceLeDiff, Nat.reduceLT, List.take_succ_cons, List.take_zero, List.any_cons, List.any_nil, List.all_cons, List.all_nil, List.map_cons, List.map_nil, List.cons_append, List.nil_append, List.append_nil, List.length_cons, List.length_nil, List.replicate_succ, List.replicate_zero, List.getElem?_cons_zero, List.getElem?_cons_succ, List.getElem?_nil, List.set_cons_zero, List.set_cons_succ, List.headD_cons, List.tail_cons, List.contains_cons, List.contains_nil, Option.map_some, Option.map_none, Option.isSome_some, Bool.and_true, Bool.true_and, Bool.and_false, Bool.false_and, Bool.or_true, Bool.true_or, Bool.or_false, Bool.false_or, Bool.not_true, Bool.not_false, if_true, if_false, reduceIte, reduceCtorEq, beq_self_eq_true, Nat.reduceSub, Nat.reduceAdd, Nat.reduceBEq, Nat.reduceEqDiff, decide_true, decide_false, Bool.false_eq_true, yST]) ?_
  refine fin_nx (e' := [some (.fro (.node .tup ds)), some (.fro (.node .tup ds)), none]) (by simp only [z_bind, z_bindE, z_bindS, z_ite, z_noX, z_iteX, z_get0, z_getN, z_getS, z_goN, z_goC, z_ev, z_pk, z_finN, z_finE, z_finP, z_app, z_C, z_Var, z_Fz, z_Mv, z_frz1, z_frz2, z_bOf, z_bool, z_bAnd, z_bOr, z_bNot, z_eAnd, z_eOr, z_eNot, z_eIf, z_Nx, z_Bk, z_Ct, z_Seq, z_seqN, z_seqR, z_seqB, z_seqC, z_Asg, z_Ret, z_RetN, z_Expr, z_If, z_iSeq, z_iApp, z_For, z_loopN, z_loopC, z_lkN, z_lkC, z_lkB, z_lkR, z_setN, z_setT, z_smN, z_smC, z_eFrz, z_aN, z_aE, z_aP, z_pN, z_pE, z_pP, z_call, z_callE, z_ckO, z_ckE, z_make, z_makeE, z_mkO, z_mkE, z_meth, z_finPk, z_finEv, z_prop, z_FldI, z_Raise, z_Try, z_tkO, z_tkE, z_tkI, z_hC, z_hN, z_App, z_SetIx, z_setK, z_chain, z_own, z_ownK, z_fSub, z_fMul, z_fDiv, z_fMod, z_fPow, z_fLt, z_fLe, z_fGt, z_fGe, z_fNeg, z_fAbs, z_fMin, z_fMax, z_Xis, z_Xf, z_Lc, z_lcN, z_lcC, z_lcK, z_yes, z_wN, z_wC, z_bkN, z_bkC, z_isN1, z_isN2, z_isN3, z_isN4, z_isN5, z_isN6, z_isB1, z_isB2, z_isB3, z_isB4, z_isB5, z_isB6, z_it1, z_it2, z_it3, z_len1, z_len2, z_len3, z_ix1, z_ix2, z_ix3, fAdd, strO, tupO, ownL, intO, fInt, fList, fTuple, slO, fSlF, fSlT, fSlN, fTup, fLst, flatD, eqS, fRgL1, fRgL2, rawAll, runF, startE, backO, O.fro?, putN, putD, envX, envB, xSl, Nat.reduceLeDiff, Nat.reduceLT, List.take_succ_cons, List.take_zero, List.any_cons, List.any_nil, List.all_cons, List.all_nil, List.map_cons, List.map_nil, List.cons_append, List.nil_append, List.append_nil, List.length_cons, List.length_nil, List.replicate_succ, List.replicate_zero, List.getElem?_cons_zero, List.getElem?_cons_succ, List.getElem?_nil, List.set_cons_zero, List.set_cons_succ, List.headD_cons, List.tail_cons, List.contains_cons, List.contains_nil, Option.map_some, Option.map_none, Option.isSome_some, Bool.and_true, Bool.true_and, Bool.and_false, Bool.false_and, Bool.or_true, Bool.true_or, Bool.or_false, Bool.false_or, Bool.not_true, Bool.not_false, if_true, if_false, reduceIte, reduceCtorEq, beq_self_eq_true, Nat.reduceSub, Nat.reduceAdd, Nat.reduceBEq, Nat.reduceEqDiff, decide_true, decide_false, Bool.false_eq_true, yTT]) ?_
  refine fin_nx (e' := [some (.fro (.node .tup ds)), some (.fro (.node .tup ds)), none]) (by simp only [z_bind, z_bindE, z_bindS, z_ite, z_noX, z_iteX, z_get0, z_getN, z_getS, z_goN, z_goC, z_ev, z_pk, z_finN, z_finE, z_finP, z_app, z_C, z_Var, z_Fz, z_Mv, z_frz1, z_frz2, z_bOf, z_bool, z_bAnd, z_bOr, z_bNot, z_eAnd, z_eOr, z_eNot, z_eIf, z_Nx, z_Bk, z_Ct, z_Seq, z_seqN, z_seqR, z_seqB, z_seqC, z_Asg, z_Ret, z_RetN, z_Expr, z_If, z_iSeq, z_iApp, z_For, z_loopN, z_loopC, z_lkN, z_lkC, z_lkB, z_lkR, z_setN, z_setT, z_smN, z_smC, z_eFrz, z_aN, z_aE, z_aP, z_pN, z_pE, z_pP, z_call, z_callE, z_ckO, z_ckE, z_make, z_makeE, z_mkO, z_mkE, z_meth, z_finPk, z_finEv, z_prop, z_FldI, z_Raise, z_Try, z_tkO, z_tkE, z_tkI, z_hC, z_hN, z_App, z_SetIx, z_setK, z_chain, z_own, z_ownK, z_fSub, z_fMul, z_fDiv, z_fMod, z_fPow, z_fLt, z_fLe, z_fGt, z_fGe, z_fNeg, z_fAbs, z_fMin, z_fMax, z_Xis, z_Xf, z_Lc, z_lcN, z_lcC, z_lcK, z_yes, z_wN, z_wC, z_bkN, z_bkC, z_isN1, z_isN2, z_isN3, z_isN4, z_isN5, z_isN6, z_isB1, z_isB2, z_isB3, z_isB4, z_isB5, z_isB6, z_it1, z_it2, z_it3, z_len1, z_len2, z_len3, z_ix1, z_ix2, z_ix3, fAdd, strO, tupO, ownL, intO, fInt, fList, fTuple, slO, fSlF, fSlT, fSlN, fTup, fLst, flatD, eqS, fRgL1, fRgL2, rawAll, runF, startE, backO, O.fro?, putN, putD, envX, envB, xSl, Nat.reduceLeDiff, Nat.reduceLT, List.take_succ_cons, List.take_zero, List.any_cons, List.any_nil, List.all_cons, List.all_nil, List.map_cons, List.map_nil, List.cons_append, List.nil_append, List.append_nil, List.length_cons, List.length_nil, List.replicate_succ, List.replicate_zero, List.getElem?_cons_zero, List.getElem?_cons_succ, List.getElem?_nil, List.set_cons_zero, List.set_cons_succ, List.headD_cons, List.tail_cons, List.contains_cons, List.contains_nil, Option.map_some, Option.map_none, Option.isSome_some, Bool.and_true, Bool.true_and, Bool.and_false, Bool.false_and, Bool.or_true, Bool.true_or, Bool.or_false, Bool.false_or, Bool.not_true, Bool.not_false, if_true, if_false, reduceIte, reduceCtorEq, beq_self_eq_true, Nat.reduceSub, Nat.reduceAdd, Nat.reduceBEq, Nat.reduceEqDiff, decide_true, decide_false, Bool.false_eq_true, yLT]) ?_
  refine fin_nx (e' := [some (.fro (.node .tup ds)), some (.fro (.node .tup ds)), none]) (by simp only [z_bind, z_bindE, z_bindS, z_ite, z_noX, z_iteX, z_get0, z_getN, z_getS, z_goN, z_goC, z_ev, z_pk, z_finN, z_finE, z_finP, z_app, z_C, z_Var, z_Fz, z_Mv, z_frz1, z_frz2, z_bOf, z_bool, z_bAnd, z_bOr, z_bNot, z_eAnd, z_eOr, z_eNot, z_eIf, z_Nx, z_Bk, z_Ct, z_Seq, z_seqN, z_seqR, z_seqB, z_seqC, z_Asg, z_Ret, z_RetN, z_Expr, z_If, z_iSeq, z_iApp, z_For, z_loopN, z_loopC, z_lkN, z_lkC, z_lkB, z_lkR, z_setN, z_setT, z_smN, z_smC, z_eFrz, z_aN, z_aE, z_aP, z_pN, z_pE, z_pP, z_call, z_callE, z_ckO, z_ckE, z_make, z_makeE, z_mkO, z_mkE, z_meth, z_finPk, z_finEv, z_prop, z_FldI, z_Raise, z_Try, z_tkO, z_tkE, z_tkI, z_hC, z_hN, z_App, z_SetIx, z_setK, z_chain, z_own, z_ownK, z_fSub, z_fMul, z_fDiv, z_fMod, z_fPow, z_fLt, z_fLe, z_fGt, z_fGe, z_fNeg, z_fAbs, z_fMin, z_fMax, z_Xis, z_Xf, z_Lc, z_lcN, z_lcC, z_lcK, z_yes, z_wN, z_wC, z_bkN, z_bkC, z_isN1, z_isN2, z_isN3, z_isN4, z_isN5, z_isN6, z_isB1, z_isB2, z_isB3, z_isB4, z_isB5, z_isB6, z_it1, z_it2, z_it3, z_len1, z_len2, z_len3, z_ix1, z_ix2, z_ix3, fAdd, strO, tupO, ownL, intO, fInt, fList, fTuple, slO, fSlF, fSlT, fSlN, fTup, fLst, flatD, eqS, fRgL1, fRgL2, rawAll, runF, startE, backO, O.fro?, putN, putD, envX, envB, xSl, Nat.reduceLeDiff, Nat.reduceLT, List.take_succ_cons, List.take_zero, List.any_cons, List.any_nil, List.all_cons, List.all_nil, List.map_cons, List.map_nil, List.cons_append, List.nil_append, List.append_nil, List.length_cons, List.length_nil, List.replicate_succ, List.replicate_zero, List.getElem?_cons_zero, List.getElem?_cons_succ, List.getElem?_nil, List.set_cons_zero, List.set_cons_succ, List.headD_cons, List.tail_cons, List.contains_cons, List.contains_nil, Option.map_some, Option.map_none, Option.isSome_some, Bool.and_true, Bool.true_and, Bool.and_false, Bool.false_and, Bool.or_true, Bool.true_or, Bool.or_false, Bool.false_or, Bool.not_true, Bool.not_false, if_true, if_false, reduceIte, reduceCtorEq, beq_self_eq_true, Nat.reduceSub, Nat.reduceAdd, Nat.reduceBEq, Nat.reduceEqDiff, decide_true, decide_false, Bool.false_eq_true, fEqI]) ?_
  refine fin_nx (e' := [some (.fro (.node .tup ds)), some (.fro (.node .tup ds)), w']) (for_nx (iapp_1 (y := some (I (ds.length : Int))) (by simp only [z_bind, z_bindE, z_bindS, z_ite, z_noX, z_iteX, z_get0, z_getN, z_getS, z_goN, z_goC, z_ev, z_pk, z_finN, z_finE, z_finP, z_app, z_C, z_Var, z_Fz, z_Mv, z_frz1, z_frz2, z_bOf, z_bool, z_bAnd, z_bOr, z_bNot, z_eAnd, z_eOr, z_eNot, z_eIf, z_Nx, z_Bk, z_Ct, z_Seq, z_seqN, z_seqR, z_seqB, z_seqC, z_Asg, z_Ret, z_RetN, z_Expr, z_If, z_iSeq, z_iApp, z_For, z_loopN, z_loopC, z_lkN, z_lkC, z_lkB, z_lkR, z_setN, z_setT, z_smN, z_smC, z_eFrz, z_aN, z_aE, z_aP, z_pN, z_pE, z_pP, z_call, z_callE, z_ckO, z_ckE, z_make, z_makeE, z_mkO, z_mkE, z_meth, z_finPk, z_finEv, z_prop, z_FldI, z_Raise, z_Try, z_tkO, z_tkE, z_tkI, z_hC, z_hN, z_App, z_SetIx, z_setK, z_chain, z_own, z_ownK, z_fSub, z_fMul, z_fDiv, z_fMod, z_fPow, z_fLt, z_fLe, z_fGt, z_fGe, z_fNeg, z_fAbs, z_fMin, z_fMax, z_Xis, z_Xf, z_Lc, z_lcN, z_lcC, z_lcK, z_yes, z_wN, z_wC, z_bkN, z_bkC, z_isN1, z_isN2, z_isN3, z_isN4, z_isN5, z_isN6, z_isB1, z_isB2, z_isB3, z_isB4, z_isB5, z_isB6, z_it1, z_it2, z_it3, z_len1, z_len2, z_len3, z_ix1, z_ix2, z_ix3, fAdd, strO, tupO, ownL, intO, fInt, fList, fTuple, slO, fSlF, fSlT, fSlN, fTup, fLst, flatD, eqS, fRgL1, fRgL2, rawAll, runF, startE, backO, O.fro?, putN, putD, envX, envB, xSl, Nat.reduceLeDiff, Nat.reduceLT, List.take_succ_cons, List.take_zero, List.any_cons, List.any_nil, List.all_cons, List.all_nil, List.map_cons, List.map_nil, List.cons_append, List.nil_append, List.append_nil, List.length_cons, List.length_nil, List.replicate_succ, List.replicate_zero, List.getElem?_cons_zero, List.getElem?_cons_succ, List.getElem?_nil, List.set_cons_zero, List.set_cons_succ, List.headD_cons, List.tail_cons, List.contains_cons, List.contains_nil, Option.map_some, Option.map_none, Option.isSome_some, Bool.and_true, Bool.true_and, Bool.and_false, Bool.false_and, Bool.or_true, Bool.true_or, Bool.or_false, Bool.false_or, Bool.not_true, Bool.not_false, if_true, if_false, reduceIte, reduceCtorEq, beq_self_eq_true, Nat.reduceSub, Nat.reduceAdd, Nat.reduceBEq, Nat.reduceEqDiff, decide_true, decide_false, Bool.false_eq_true]) (by simp only [z_bind, z_bindE, z_bindS, z_ite, z_noX, z_iteX, z_get0, z_getN, z_getS, z_goN, z_goC, z_ev, z_pk, z_finN, z_finE, z_finP, z_app, z_C, z_Var, z_Fz, z_Mv, z_frz1, z_frz2, z_bOf, z_bool, z_bAnd, z_bOr, z_bNot, z_eAnd, z_eOr, z_eNot, z_eIf, z_Nx, z_Bk, z_Ct, z_Seq, z_seqN, z_seqR, z_seqB, z_seqC, z_Asg, z_Ret, z_RetN, z_Expr, z_If, z_iSeq, z_iApp, z_For, z_loopN, z_loopC, z_lkN, z_lkC, z_lkB, z_lkR, z_setN, z_setT, z_smN, z_smC, z_eFrz, z_aN, z_aE, z_aP, z_pN, z_pE, z_pP, z_call, z_callE, z_ckO, z_ckE, z_make, z_makeE, z_mkO, z_mkE, z_meth, z_finPk, z_finEv, z_prop, z_FldI, z_Raise, z_Try, z_tkO, z_tkE, z_tkI, z_hC, z_hN, z_App, z_SetIx, z_setK, z_chain, z_own, z_ownK, z_fSub, z_fMul, z_fDiv, z_fMod, z_fPow, z_fLt, z_fLe, z_fGt, z_fGe, z_fNeg, z_fAbs, z_fMin, z_fMax, z_Xis, z_Xf, z_Lc, z_lcN, z_lcC, z_lcK, z_yes, z_wN, z_wC, z_bkN, z_bkC, z_isN1, z_isN2, z_isN3, z_isN4, z_isN5, z_isN6, z_isB1, z_isB2, z_isB3, z_isB4, z_isB5, z_isB6, z_it1, z_it2, z_it3, z_len1, z_len2, z_len3, z_ix1, z_ix2, z_ix3, fAdd, strO, tupO, ownL, intO, fInt, fList, fTuple, slO, fSlF, fSlT, fSlN, fTup, fLst, flatD, eqS, fRgL1, fRgL2, rawAll, runF, startE, backO, O.fro?, putN, putD, envX, envB, xSl, Nat.reduceLeDiff, Nat.reduceLT, List.take_succ_cons, List.take_zero, List.any_cons, List.any_nil, List.all_cons, List.all_nil, List.map_cons, List.map_nil, List.cons_append, List.nil_append, List.append_nil, List.length_cons, List.length_nil, List.replicate_succ, List.replicate_zero, List.getElem?_cons_zero, List.getElem?_cons_succ, List.getElem?_nil, List.set_cons_zero, List.set_cons_succ, List.headD_cons, List.tail_cons, List.contains_cons, List.contains_nil, Option.map_some, Option.map_none, Option.isSome_some, Bool.and_true, Bool.true_and, Bool.and_false, Bool.false_and, Bool.or_true, Bool.true_or, Bool.or_false, Bool.false_or, Bool.not_true, Bool.not_false, if_true, if_false, reduceIte, reduceCtorEq, beq_self_eq_true, Nat.reduceSub, Nat.reduceAdd, Nat.reduceBEq, Nat.reduceEqDiff, decide_true, decide_false, Bool.false_eq_true]) hr) e) ?_
  rfl
end G_lampcrossings_k36_rate_credits
end

section
set_option Elab.async false
set_option linter.all false
set_option maxRecDepth 100000
set_option maxHeartbeats 4000000
namespace G_lampcrossings_k36_rate_credits
open PySem PySem.Spec PyProof.Rows L2 DL
/-! ### the wrong part, a rate beside -/
theorem in3 (x : Int) : fIn true [I x, .fro (.node .tup [.int 1, .int 2, .int 3])] = some (.fro (.bl (!decide (1 ≤ x ∧ x ≤ 3)))) := by
  show some (O.fro (.bl (!((1 : Int) == x || ((2 : Int) == x || ((3 : Int) == x || false)))))) = _
  congr 3
  rw [Bool.eq_iff_iff]
  simp only [Bool.not_eq_true', Bool.or_eq_false_iff, beq_eq_false_iff_ne, ne_eq, decide_eq_false_iff_not, and_true]
  omega
theorem in6 (x : Int) : fIn true [I x, .fro (.node .tup [.int 1, .int 2, .int 3, .int 4, .int 5, .int 6])] = some (.fro (.bl (!decide (1 ≤ x ∧ x ≤ 6)))) := by
  show some (O.fro (.bl (!((1 : Int) == x || ((2 : Int) == x || ((3 : Int) == x || ((4 : Int) == x || ((5 : Int) == x || ((6 : Int) == x || false))))))))) = _
  congr 3
  rw [Bool.eq_iff_iff]
  simp only [Bool.not_eq_true', Bool.or_eq_false_iff, beq_eq_false_iff_ne, ne_eq, decide_eq_false_iff_not, and_true]
  omega
def wrO (x y z : Int) : O := match wrong x y z with
  | none => .fro .non
  | some p => .fro (.str p)
theorem wrong_part_ok (x y z : Int) : S_law_wrong_part [tup3 x y z] = .ok (wrO x y z) [tup3 x y z] := by
  unfold S_law_wrong_part B_law_wrong_part wrO wrong
  by_cases h1 : 1 ≤ x ∧ x ≤ 3
  · by_cases h2 : 1 ≤ z ∧ z ≤ 6
    · by_cases h3 : 1 ≤ y
      · by_cases h4 : y ≤ z
        · have h5 : ¬ y < 1 := by omega
          have h6 : ¬ z < y := by omega
          simp only [z_bind, z_bindE, z_bindS, z_ite, z_noX, z_iteX, z_get0, z_getN, z_getS, z_goN, z_goC, z_ev, z_pk, z_finN, z_finE, z_finP, z_app, z_C, z_Var, z_Fz, z_Mv, z_frz1, z_frz2, z_bOf, z_bool, z_bAnd, z_bOr, z_bNot, z_eAnd, z_eOr, z_eNot, z_eIf, z_Nx, z_Bk, z_Ct, z_Seq, z_seqN, z_seqR, z_seqB, z_seqC, z_Asg, z_Ret, z_RetN, z_Expr, z_If, z_iSeq, z_iApp, z_For, z_loopN, z_loopC, z_lkN, z_lkC, z_lkB, z_lkR, z_setN, z_setT, z_smN, z_smC, z_eFrz, z_aN, z_aE, z_aP, z_pN, z_pE, z_pP, z_call, z_callE, z_ckO, z_ckE, z_make, z_makeE, z_mkO, z_mkE, z_meth, z_finPk, z_finEv, z_prop, z_FldI, z_Raise, z_Try, z_tkO, z_tkE, z_tkI, z_hC, z_hN, z_App, z_SetIx, z_setK, z_chain, z_own, z_ownK, z_fSub, z_fMul, z_fDiv, z_fMod, z_fPow, z_fLt, z_fLe, z_fGt, z_fGe, z_fNeg, z_fAbs, z_fMin, z_fMax, z_Xis, z_Xf, z_Lc, z_lcN, z_lcC, z_lcK, z_yes, z_wN, z_wC, z_bkN, z_bkC, z_isN1, z_isN2, z_isN3, z_isN4, z_isN5, z_isN6, z_isB1, z_isB2, z_isB3, z_isB4, z_isB5, z_isB6, z_it1, z_it2, z_it3, z_len1, z_len2, z_len3, z_ix1, z_ix2, z_ix3, fAdd, strO, tupO, ownL, intO, fInt, fList, fTuple, slO, fSlF, fSlT, fSlN, fTup, fLst, flatD, eqS, fRgL1, fRgL2, rawAll, runF, startE, backO, O.fro?, putN, putD, envX, envB, xSl, Nat.reduceLeDiff, Nat.reduceLT, List.take_succ_cons, List.take_zero, List.any_cons, List.any_nil, List.all_cons, List.all_nil, List.map_cons, List.map_nil, List.cons_append, List.nil_append, List.append_nil, List.length_cons, List.length_nil, List.replicate_succ, List.replicate_zero, List.getElem?_cons_zero, List.getElem?_cons_succ, List.getElem?_nil, List.set_cons_zero, List.set_cons_succ, List.headD_cons, List.tail_cons, List.contains_cons, List.contains_nil, Option.map_some, Option.map_none, Option.isSome_some, Bool.and_true, Bool.true_and, Bool.and_false, Bool.false_and, Bool.or_true, Bool.true_or, Bool.or_false, Bool.false_or, Bool.not_true, Bool.not_false, if_true, if_false, reduceIte, reduceCtorEq, beq_self_eq_true, Nat.reduceSub, Nat.reduceAdd, Nat.reduceBEq, Nat.reduceEqDiff, decide_true, decide_false, Bool.false_eq_true, at0, at1, at2, in3, in6, h1, h2, h3, h4, h5, h6, and_self] <;> rfl
        · have h5 : ¬ y < 1 := by omega
          have h6 : z < y := by omega
          simp only [z_bind, z_bindE, z_bindS, z_ite, z_noX, z_iteX, z_get0, z_getN, z_getS, z_goN, z_goC, z_ev, z_pk, z_finN, z_finE, z_finP, z_app, z_C, z_Var, z_Fz, z_Mv, z_frz1, z_frz2, z_bOf, z_bool, z_bAnd, z_bOr, z_bNot, z_eAnd, z_eOr, z_eNot, z_eIf, z_Nx, z_Bk, z_Ct, z_Seq, z_seqN, z_seqR, z_seqB, z_seqC, z_Asg, z_Ret, z_RetN, z_Expr, z_If, z_iSeq, z_iApp, z_For, z_loopN, z_loopC, z_lkN, z_lkC, z_lkB, z_lkR, z_setN, z_setT, z_smN, z_smC, z_eFrz, z_aN, z_aE, z_aP, z_pN, z_pE, z_pP, z_call, z_callE, z_ckO, z_ckE, z_make, z_makeE, z_mkO, z_mkE, z_meth, z_finPk, z_finEv, z_prop, z_FldI, z_Raise, z_Try, z_tkO, z_tkE, z_tkI, z_hC, z_hN, z_App, z_SetIx, z_setK, z_chain, z_own, z_ownK, z_fSub, z_fMul, z_fDiv, z_fMod, z_fPow, z_fLt, z_fLe, z_fGt, z_fGe, z_fNeg, z_fAbs, z_fMin, z_fMax, z_Xis, z_Xf, z_Lc, z_lcN, z_lcC, z_lcK, z_yes, z_wN, z_wC, z_bkN, z_bkC, z_isN1, z_isN2, z_isN3, z_isN4, z_isN5, z_isN6, z_isB1, z_isB2, z_isB3, z_isB4, z_isB5, z_isB6, z_it1, z_it2, z_it3, z_len1, z_len2, z_len3, z_ix1, z_ix2, z_ix3, fAdd, strO, tupO, ownL, intO, fInt, fList, fTuple, slO, fSlF, fSlT, fSlN, fTup, fLst, flatD, eqS, fRgL1, fRgL2, rawAll, runF, startE, backO, O.fro?, putN, putD, envX, envB, xSl, Nat.reduceLeDiff, Nat.reduceLT, List.take_succ_cons, List.take_zero, List.any_cons, List.any_nil, List.all_cons, List.all_nil, List.map_cons, List.map_nil, List.cons_append, List.nil_append, List.append_nil, List.length_cons, List.length_nil, List.replicate_succ, List.replicate_zero, List.getElem?_cons_zero, List.getElem?_cons_succ, List.getElem?_nil, List.set_cons_zero, List.set_cons_succ, List.headD_cons, List.tail_cons, List.contains_cons, List.contains_nil, Option.map_some, Option.map_none, Option.isSome_some, Bool.and_true, Bool.true_and, Bool.and_false, Bool.false_and, Bool.or_true, Bool.true_or, Bool.or_false, Bool.false_or, Bool.not_true, Bool.not_false, if_true, if_false, reduceIte, reduceCtorEq, beq_self_eq_true, Nat.reduceSub, Nat.reduceAdd, Nat.reduceBEq, Nat.reduceEqDiff, decide_true, decide_false, Bool.false_eq_true, at0, at1, at2, in3, in6, h1, h2, h3, h4, h5, h6, and_self, and_false] <;> rfl
      · have h5 : y < 1 := by omega
        simp only [z_bind, z_bindE, z_bindS, z_ite, z_noX, z_iteX, z_get0, z_getN, z_getS, z_goN, z_goC, z_ev, z_pk, z_finN, z_finE, z_finP, z_app, z_C, z_Var, z_Fz, z_Mv, z_frz1, z_frz2, z_bOf, z_bool, z_bAnd, z_bOr, z_bNot, z_eAnd, z_eOr, z_eNot, z_eIf, z_Nx, z_Bk, z_Ct, z_Seq, z_seqN, z_seqR, z_seqB, z_seqC, z_Asg, z_Ret, z_RetN, z_Expr, z_If, z_iSeq, z_iApp, z_For, z_loopN, z_loopC, z_lkN, z_lkC, z_lkB, z_lkR, z_setN, z_setT, z_smN, z_smC, z_eFrz, z_aN, z_aE, z_aP, z_pN, z_pE, z_pP, z_call, z_callE, z_ckO, z_ckE, z_make, z_makeE, z_mkO, z_mkE, z_meth, z_finPk, z_finEv, z_prop, z_FldI, z_Raise, z_Try, z_tkO, z_tkE, z_tkI, z_hC, z_hN, z_App, z_SetIx, z_setK, z_chain, z_own, z_ownK, z_fSub, z_fMul, z_fDiv, z_fMod, z_fPow, z_fLt, z_fLe, z_fGt, z_fGe, z_fNeg, z_fAbs, z_fMin, z_fMax, z_Xis, z_Xf, z_Lc, z_lcN, z_lcC, z_lcK, z_yes, z_wN, z_wC, z_bkN, z_bkC, z_isN1, z_isN2, z_isN3, z_isN4, z_isN5, z_isN6, z_isB1, z_isB2, z_isB3, z_isB4, z_isB5, z_isB6, z_it1, z_it2, z_it3, z_len1, z_len2, z_len3, z_ix1, z_ix2, z_ix3, fAdd, strO, tupO, ownL, intO, fInt, fList, fTuple, slO, fSlF, fSlT, fSlN, fTup, fLst, flatD, eqS, fRgL1, fRgL2, rawAll, runF, startE, backO, O.fro?, putN, putD, envX, envB, xSl, Nat.reduceLeDiff, Nat.reduceLT, List.take_succ_cons, List.take_zero, List.any_cons, List.any_nil, List.all_cons, List.all_nil, List.map_cons, List.map_nil, List.cons_append, List.nil_append, List.append_nil, List.length_cons, List.length_nil, List.replicate_succ, List.replicate_zero, List.getElem?_cons_zero, List.getElem?_cons_succ, List.getElem?_nil, List.set_cons_zero, List.set_cons_succ, List.headD_cons, List.tail_cons, List.contains_cons, List.contains_nil, Option.map_some, Option.map_none, Option.isSome_some, Bool.and_true, Bool.true_and, Bool.and_false, Bool.false_and, Bool.or_true, Bool.true_or, Bool.or_false, Bool.false_or, Bool.not_true, Bool.not_false, if_true, if_false, reduceIte, reduceCtorEq, beq_self_eq_true, Nat.reduceSub, Nat.reduceAdd, Nat.reduceBEq, Nat.reduceEqDiff, decide_true, decide_false, Bool.false_eq_true, at0, at1, at2, in3, in6, h1, h2, h3, h5, and_self, false_and] <;> rfl
    · simp only [z_bind, z_bindE, z_bindS, z_ite, z_noX, z_iteX, z_get0, z_getN, z_getS, z_goN, z_goC, z_ev, z_pk, z_finN, z_finE, z_finP, z_app, z_C, z_Var, z_Fz, z_Mv, z_frz1, z_frz2, z_bOf, z_bool, z_bAnd, z_bOr, z_bNot, z_eAnd, z_eOr, z_eNot, z_eIf, z_Nx, z_Bk, z_Ct, z_Seq, z_seqN, z_seqR, z_seqB, z_seqC, z_Asg, z_Ret, z_RetN, z_Expr, z_If, z_iSeq, z_iApp, z_For, z_loopN, z_loopC, z_lkN, z_lkC, z_lkB, z_lkR, z_setN, z_setT, z_smN, z_smC, z_eFrz, z_aN, z_aE, z_aP, z_pN, z_pE, z_pP, z_call, z_callE, z_ckO, z_ckE, z_make, z_makeE, z_mkO, z_mkE, z_meth, z_finPk, z_finEv, z_prop, z_FldI, z_Raise, z_Try, z_tkO, z_tkE, z_tkI, z_hC, z_hN, z_App, z_SetIx, z_setK, z_chain, z_own, z_ownK, z_fSub, z_fMul, z_fDiv, z_fMod, z_fPow, z_fLt, z_fLe, z_fGt, z_fGe, z_fNeg, z_fAbs, z_fMin, z_fMax, z_Xis, z_Xf, z_Lc, z_lcN, z_lcC, z_lcK, z_yes, z_wN, z_wC, z_bkN, z_bkC, z_isN1, z_isN2, z_isN3, z_isN4, z_isN5, z_isN6, z_isB1, z_isB2, z_isB3, z_isB4, z_isB5, z_isB6, z_it1, z_it2, z_it3, z_len1, z_len2, z_len3, z_ix1, z_ix2, z_ix3, fAdd, strO, tupO, ownL, intO, fInt, fList, fTuple, slO, fSlF, fSlT, fSlN, fTup, fLst, flatD, eqS, fRgL1, fRgL2, rawAll, runF, startE, backO, O.fro?, putN, putD, envX, envB, xSl, Nat.reduceLeDiff, Nat.reduceLT, List.take_succ_cons, List.take_zero, List.any_cons, List.any_nil, List.all_cons, List.all_nil, List.map_cons, List.map_nil, List.cons_append, List.nil_append, List.append_nil, List.length_cons, List.length_nil, List.replicate_succ, List.replicate_zero, List.getElem?_cons_zero, List.getElem?_cons_succ, List.getElem?_nil, List.set_cons_zero, List.set_cons_succ, List.headD_cons, List.tail_cons, List.contains_cons, List.contains_nil, Option.map_some, Option.map_none, Option.isSome_some, Bool.and_true, Bool.true_and, Bool.and_false, Bool.false_and, Bool.or_true, Bool.true_or, Bool.or_false, Bool.false_or, Bool.not_true, Bool.not_false, if_true, if_false, reduceIte, reduceCtorEq, beq_self_eq_true, Nat.reduceSub, Nat.reduceAdd, Nat.reduceBEq, Nat.reduceEqDiff, decide_true, decide_false, Bool.false_eq_true, at0, at1, at2, in3, in6, h1, h2, and_self] <;> rfl
  · simp only [z_bind, z_bindE, z_bindS, z_ite, z_noX, z_iteX, z_get0, z_getN, z_getS, z_goN, z_goC, z_ev, z_pk, z_finN, z_finE, z_finP, z_app, z_C, z_Var, z_Fz, z_Mv, z_frz1, z_frz2, z_bOf, z_bool, z_bAnd, z_bOr, z_bNot, z_eAnd, z_eOr, z_eNot, z_eIf, z_Nx, z_Bk, z_Ct, z_Seq, z_seqN, z_seqR, z_seqB, z_seqC, z_Asg, z_Ret, z_RetN, z_Expr, z_If, z_iSeq, z_iApp, z_For, z_loopN, z_loopC, z_lkN, z_lkC, z_lkB, z_lkR, z_setN, z_setT, z_smN, z_smC, z_eFrz, z_aN, z_aE, z_aP, z_pN, z_pE, z_pP, z_call, z_callE, z_ckO, z_ckE, z_make, z_makeE, z_mkO, z_mkE, z_meth, z_finPk, z_finEv, z_prop, z_FldI, z_Raise, z_Try, z_tkO, z_tkE, z_tkI, z_hC, z_hN, z_App, z_SetIx, z_setK, z_chain, z_own, z_ownK, z_fSub, z_fMul, z_fDiv, z_fMod, z_fPow, z_fLt, z_fLe, z_fGt, z_fGe, z_fNeg, z_fAbs, z_fMin, z_fMax, z_Xis, z_Xf, z_Lc, z_lcN, z_lcC, z_lcK, z_yes, z_wN, z_wC, z_bkN, z_bkC, z_isN1, z_isN2, z_isN3, z_isN4, z_isN5, z_isN6, z_isB1, z_isB2, z_isB3, z_isB4, z_isB5, z_isB6, z_it1, z_it2, z_it3, z_len1, z_len2, z_len3, z_ix1, z_ix2, z_ix3, fAdd, strO, tupO, ownL, intO, fInt, fList, fTuple, slO, fSlF, fSlT, fSlN, fTup, fLst, flatD, eqS, fRgL1, fRgL2, rawAll, runF, startE, backO, O.fro?, putN, putD, envX, envB, xSl, Nat.reduceLeDiff, Nat.reduceLT, List.take_succ_cons, List.take_zero, List.any_cons, List.any_nil, List.all_cons, List.all_nil, List.map_cons, List.map_nil, List.cons_append, List.nil_append, List.append_nil, List.length_cons, List.length_nil, List.replicate_succ, List.replicate_zero, List.getElem?_cons_zero, List.getElem?_cons_succ, List.getElem?_nil, List.set_cons_zero, List.set_cons_succ, List.headD_cons, List.tail_cons, List.contains_cons, List.contains_nil, Option.map_some, Option.map_none, Option.isSome_some, Bool.and_true, Bool.true_and, Bool.and_false, Bool.false_and, Bool.or_true, Bool.true_or, Bool.or_false, Bool.false_or, Bool.not_true, Bool.not_false, if_true, if_false, reduceIte, reduceCtorEq, beq_self_eq_true, Nat.reduceSub, Nat.reduceAdd, Nat.reduceBEq, Nat.reduceEqDiff, decide_true, decide_false, Bool.false_eq_true, at0, at1, at2, in3, in6, h1] <;> rfl
theorem fm {a n : Int} (h : 0 < n) : a.fmod n = a % n := Int.fmod_eq_emod_of_nonneg a (Int.le_of_lt h)
theorem beside_ok (a b c d : Int) {x y z : Int} (h : Good x y z) : ∃ x' y' z' a' c' : Int, Good x' y' z' ∧ ¬ (x' = x ∧ y' = y ∧ z' = z) ∧ S_law_beside [hnd a b c d, tup3 x y z] = .ok (tup3 x' y' z') [hnd a' b c' d, tup3 x y z] := by
  obtain ⟨⟨h1, h2⟩, ⟨h3, h4⟩, h5, h6⟩ := h
  obtain ⟨p, a1, c1, p0, p1, e1⟩ := take_ok a b c d 3 (by decide) (by decide)
  have g3 : ∀ q : Int, q.fmod 3 = q % 3 := fun q => fm (by decide)
  have last : ∀ r, S_law_beside [hnd a b c d, tup3 x y z] = r → r = .ok (tup3 (1 + x.fmod 3) y z) [hnd a1 b c1 d, tup3 x y z] →
      ∃ x' y' z' a' c' : Int, Good x' y' z' ∧ ¬ (x' = x ∧ y' = y ∧ z' = z) ∧ S_law_beside [hnd a b c d, tup3 x y z] = .ok (tup3 x' y' z') [hnd a' b c' d, tup3 x y z] := fun r e1 e2 => by
    rw [e2] at e1
    rw [g3] at e1
    exact ⟨_, _, _, _, _, ⟨by omega, by omega, by omega⟩, by omega, e1⟩
  by_cases k1 : p = 1
  · subst k1
    by_cases k2 : 1 < z
    · have hz : z ≠ 0 := by omega
      have e : S_law_beside [hnd a b c d, tup3 x y z] = .ok (tup3 x (1 + y.fmod z) z) [hnd a1 b c1 d, tup3 x y z] := by
        unfold S_law_beside B_law_beside
        simp only [z_bind, z_bindE, z_bindS, z_ite, z_noX, z_iteX, z_get0, z_getN, z_getS, z_goN, z_goC, z_ev, z_pk, z_finN, z_finE, z_finP, z_app, z_C, z_Var, z_Fz, z_Mv, z_frz1, z_frz2, z_bOf, z_bool, z_bAnd, z_bOr, z_bNot, z_eAnd, z_eOr, z_eNot, z_eIf, z_Nx, z_Bk, z_Ct, z_Seq, z_seqN, z_seqR, z_seqB, z_seqC, z_Asg, z_Ret, z_RetN, z_Expr, z_If, z_iSeq, z_iApp, z_For, z_loopN, z_loopC, z_lkN, z_lkC, z_lkB, z_lkR, z_setN, z_setT, z_smN, z_smC, z_eFrz, z_aN, z_aE, z_aP, z_pN, z_pE, z_pP, z_call, z_callE, z_ckO, z_ckE, z_make, z_makeE, z_mkO, z_mkE, z_meth, z_finPk, z_finEv, z_prop, z_FldI, z_Raise, z_Try, z_tkO, z_tkE, z_tkI, z_hC, z_hN, z_App, z_SetIx, z_setK, z_chain, z_own, z_ownK, z_fSub, z_fMul, z_fDiv, z_fMod, z_fPow, z_fLt, z_fLe, z_fGt, z_fGe, z_fNeg, z_fAbs, z_fMin, z_fMax, z_Xis, z_Xf, z_Lc, z_lcN, z_lcC, z_lcK, z_yes, z_wN, z_wC, z_bkN, z_bkC, z_isN1, z_isN2, z_isN3, z_isN4, z_isN5, z_isN6, z_isB1, z_isB2, z_isB3, z_isB4, z_isB5, z_isB6, z_it1, z_it2, z_it3, z_len1, z_len2, z_len3, z_ix1, z_ix2, z_ix3, fAdd, strO, tupO, ownL, intO, fInt, fList, fTuple, slO, fSlF, fSlT, fSlN, fTup, fLst, flatD, eqS, fRgL1, fRgL2, rawAll, runF, startE, backO, O.fro?, putN, putD, envX, envB, xSl, Nat.reduceLeDiff, Nat.reduceLT, List.take_succ_cons, List.take_zero, List.any_cons, List.any_nil, List.all_cons, List.all_nil, List.map_cons, List.map_nil, List.cons_append, List.nil_append, List.append_nil, List.length_cons, List.length_nil, List.replicate_succ, List.replicate_zero, List.getElem?_cons_zero, List.getElem?_cons_succ, List.getElem?_nil, List.set_cons_zero, List.set_cons_succ, List.headD_cons, List.tail_cons, List.contains_cons, List.contains_nil, Option.map_some, Option.map_none, Option.isSome_some, Bool.and_true, Bool.true_and, Bool.and_false, Bool.false_and, Bool.or_true, Bool.true_or, Bool.or_false, Bool.false_or, Bool.not_true, Bool.not_false, if_true, if_false, reduceIte, reduceCtorEq, beq_self_eq_true, Nat.reduceSub, Nat.reduceAdd, Nat.reduceBEq, Nat.reduceEqDiff, decide_true, decide_false, Bool.false_eq_true, e1, at0, at1, at2, fEqI, k2, dec_ne hz] <;> rfl
      rw [fm (by omega)] at e
      by_cases k3 : y = z
      · have k4 : y % z = 0 := by rw [k3, Int.emod_self]
        rw [k4] at e
        exact ⟨_, _, _, _, _, ⟨by omega, by omega, by omega⟩, by omega, e⟩
      · have k4 : y % z = y := Int.emod_eq_of_lt (by omega) (by omega)
        rw [k4] at e
        exact ⟨_, _, _, _, _, ⟨by omega, by omega, by omega⟩, by omega, e⟩
    · refine last _ rfl ?_
      have q : ((1 : Int) == 2) = false := rfl
      unfold S_law_beside B_law_beside
      simp only [z_bind, z_bindE, z_bindS, z_ite, z_noX, z_iteX, z_get0, z_getN, z_getS, z_goN, z_goC, z_ev, z_pk, z_finN, z_finE, z_finP, z_app, z_C, z_Var, z_Fz, z_Mv, z_frz1, z_frz2, z_bOf, z_bool, z_bAnd, z_bOr, z_bNot, z_eAnd, z_eOr, z_eNot, z_eIf, z_Nx, z_Bk, z_Ct, z_Seq, z_seqN, z_seqR, z_seqB, z_seqC, z_Asg, z_Ret, z_RetN, z_Expr, z_If, z_iSeq, z_iApp, z_For, z_loopN, z_loopC, z_lkN, z_lkC, z_lkB, z_lkR, z_setN, z_setT, z_smN, z_smC, z_eFrz, z_aN, z_aE, z_aP, z_pN, z_pE, z_pP, z_call, z_callE, z_ckO, z_ckE, z_make, z_makeE, z_mkO, z_mkE, z_meth, z_finPk, z_finEv, z_prop, z_FldI, z_Raise, z_Try, z_tkO, z_tkE, z_tkI, z_hC, z_hN, z_App, z_SetIx, z_setK, z_chain, z_own, z_ownK, z_fSub, z_fMul, z_fDiv, z_fMod, z_fPow, z_fLt, z_fLe, z_fGt, z_fGe, z_fNeg, z_fAbs, z_fMin, z_fMax, z_Xis, z_Xf, z_Lc, z_lcN, z_lcC, z_lcK, z_yes, z_wN, z_wC, z_bkN, z_bkC, z_isN1, z_isN2, z_isN3, z_isN4, z_isN5, z_isN6, z_isB1, z_isB2, z_isB3, z_isB4, z_isB5, z_isB6, z_it1, z_it2, z_it3, z_len1, z_len2, z_len3, z_ix1, z_ix2, z_ix3, fAdd, strO, tupO, ownL, intO, fInt, fList, fTuple, slO, fSlF, fSlT, fSlN, fTup, fLst, flatD, eqS, fRgL1, fRgL2, rawAll, runF, startE, backO, O.fro?, putN, putD, envX, envB, xSl, Nat.reduceLeDiff, Nat.reduceLT, List.take_succ_cons, List.take_zero, List.any_cons, List.any_nil, List.all_cons, List.all_nil, List.map_cons, List.map_nil, List.cons_append, List.nil_append, List.append_nil, List.length_cons, List.length_nil, List.replicate_succ, List.replicate_zero, List.getElem?_cons_zero, List.getElem?_cons_succ, List.getElem?_nil, List.set_cons_zero, List.set_cons_succ, List.headD_cons, List.tail_cons, List.contains_cons, List.contains_nil, Option.map_some, Option.map_none, Option.isSome_some, Bool.and_true, Bool.true_and, Bool.and_false, Bool.false_and, Bool.or_true, Bool.true_or, Bool.or_false, Bool.false_or, Bool.not_true, Bool.not_false, if_true, if_false, reduceIte, reduceCtorEq, beq_self_eq_true, Nat.reduceSub, Nat.reduceAdd, Nat.reduceBEq, Nat.reduceEqDiff, decide_true, decide_false, Bool.false_eq_true, e1, at0, at1, at2, fEqI, k2, q, dec_ne (j := 3) (by decide)] <;> rfl
  · have k1b : (p == 1) = false := by simpa using k1
    by_cases k2 : p = 2
    · subst k2
      by_cases k3 : z < 6
      · refine ⟨x, y, z + 1, a1, c1, ⟨by omega, by omega, by omega⟩, by omega, ?_⟩
        unfold S_law_beside B_law_beside
        simp only [z_bind, z_bindE, z_bindS, z_ite, z_noX, z_iteX, z_get0, z_getN, z_getS, z_goN, z_goC, z_ev, z_pk, z_finN, z_finE, z_finP, z_app, z_C, z_Var, z_Fz, z_Mv, z_frz1, z_frz2, z_bOf, z_bool, z_bAnd, z_bOr, z_bNot, z_eAnd, z_eOr, z_eNot, z_eIf, z_Nx, z_Bk, z_Ct, z_Seq, z_seqN, z_seqR, z_seqB, z_seqC, z_Asg, z_Ret, z_RetN, z_Expr, z_If, z_iSeq, z_iApp, z_For, z_loopN, z_loopC, z_lkN, z_lkC, z_lkB, z_lkR, z_setN, z_setT, z_smN, z_smC, z_eFrz, z_aN, z_aE, z_aP, z_pN, z_pE, z_pP, z_call, z_callE, z_ckO, z_ckE, z_make, z_makeE, z_mkO, z_mkE, z_meth, z_finPk, z_finEv, z_prop, z_FldI, z_Raise, z_Try, z_tkO, z_tkE, z_tkI, z_hC, z_hN, z_App, z_SetIx, z_setK, z_chain, z_own, z_ownK, z_fSub, z_fMul, z_fDiv, z_fMod, z_fPow, z_fLt, z_fLe, z_fGt, z_fGe, z_fNeg, z_fAbs, z_fMin, z_fMax, z_Xis, z_Xf, z_Lc, z_lcN, z_lcC, z_lcK, z_yes, z_wN, z_wC, z_bkN, z_bkC, z_isN1, z_isN2, z_isN3, z_isN4, z_isN5, z_isN6, z_isB1, z_isB2, z_isB3, z_isB4, z_isB5, z_isB6, z_it1, z_it2, z_it3, z_len1, z_len2, z_len3, z_ix1, z_ix2, z_ix3, fAdd, strO, tupO, ownL, intO, fInt, fList, fTuple, slO, fSlF, fSlT, fSlN, fTup, fLst, flatD, eqS, fRgL1, fRgL2, rawAll, runF, startE, backO, O.fro?, putN, putD, envX, envB, xSl, Nat.reduceLeDiff, Nat.reduceLT, List.take_succ_cons, List.take_zero, List.any_cons, List.any_nil, List.all_cons, List.all_nil, List.map_cons, List.map_nil, List.cons_append, List.nil_append, List.append_nil, List.length_cons, List.length_nil, List.replicate_succ, List.replicate_zero, List.getElem?_cons_zero, List.getElem?_cons_succ, List.getElem?_nil, List.set_cons_zero, List.set_cons_succ, List.headD_cons, List.tail_cons, List.contains_cons, List.contains_nil, Option.map_some, Option.map_none, Option.isSome_some, Bool.and_true, Bool.true_and, Bool.and_false, Bool.false_and, Bool.or_true, Bool.true_or, Bool.or_false, Bool.false_or, Bool.not_true, Bool.not_false, if_true, if_false, reduceIte, reduceCtorEq, beq_self_eq_true, Nat.reduceSub, Nat.reduceAdd, Nat.reduceBEq, Nat.reduceEqDiff, decide_true, decide_false, Bool.false_eq_true, e1, at0, at1, at2, fEqI, k1b, k3] <;> rfl
      · by_cases k4 : y < 6
        · refine ⟨x, y, 5, a1, c1, ⟨by omega, by omega, by omega⟩, by omega, ?_⟩
          unfold S_law_beside B_law_beside
          simp only [z_bind, z_bindE, z_bindS, z_ite, z_noX, z_iteX, z_get0, z_getN, z_getS, z_goN, z_goC, z_ev, z_pk, z_finN, z_finE, z_finP, z_app, z_C, z_Var, z_Fz, z_Mv, z_frz1, z_frz2, z_bOf, z_bool, z_bAnd, z_bOr, z_bNot, z_eAnd, z_eOr, z_eNot, z_eIf, z_Nx, z_Bk, z_Ct, z_Seq, z_seqN, z_seqR, z_seqB, z_seqC, z_Asg, z_Ret, z_RetN, z_Expr, z_If, z_iSeq, z_iApp, z_For, z_loopN, z_loopC, z_lkN, z_lkC, z_lkB, z_lkR, z_setN, z_setT, z_smN, z_smC, z_eFrz, z_aN, z_aE, z_aP, z_pN, z_pE, z_pP, z_call, z_callE, z_ckO, z_ckE, z_make, z_makeE, z_mkO, z_mkE, z_meth, z_finPk, z_finEv, z_prop, z_FldI, z_Raise, z_Try, z_tkO, z_tkE, z_tkI, z_hC, z_hN, z_App, z_SetIx, z_setK, z_chain, z_own, z_ownK, z_fSub, z_fMul, z_fDiv, z_fMod, z_fPow, z_fLt, z_fLe, z_fGt, z_fGe, z_fNeg, z_fAbs, z_fMin, z_fMax, z_Xis, z_Xf, z_Lc, z_lcN, z_lcC, z_lcK, z_yes, z_wN, z_wC, z_bkN, z_bkC, z_isN1, z_isN2, z_isN3, z_isN4, z_isN5, z_isN6, z_isB1, z_isB2, z_isB3, z_isB4, z_isB5, z_isB6, z_it1, z_it2, z_it3, z_len1, z_len2, z_len3, z_ix1, z_ix2, z_ix3, fAdd, strO, tupO, ownL, intO, fInt, fList, fTuple, slO, fSlF, fSlT, fSlN, fTup, fLst, flatD, eqS, fRgL1, fRgL2, rawAll, runF, startE, backO, O.fro?, putN, putD, envX, envB, xSl, Nat.reduceLeDiff, Nat.reduceLT, List.take_succ_cons, List.take_zero, List.any_cons, List.any_nil, List.all_cons, List.all_nil, List.map_cons, List.map_nil, List.cons_append, List.nil_append, List.append_nil, List.length_cons, List.length_nil, List.replicate_succ, List.replicate_zero, List.getElem?_cons_zero, List.getElem?_cons_succ, List.getElem?_nil, List.set_cons_zero, List.set_cons_succ, List.headD_cons, List.tail_cons, List.contains_cons, List.contains_nil, Option.map_some, Option.map_none, Option.isSome_some, Bool.and_true, Bool.true_and, Bool.and_false, Bool.false_and, Bool.or_true, Bool.true_or, Bool.or_false, Bool.false_or, Bool.not_true, Bool.not_false, if_true, if_false, reduceIte, reduceCtorEq, beq_self_eq_true, Nat.reduceSub, Nat.reduceAdd, Nat.reduceBEq, Nat.reduceEqDiff, decide_true, decide_false, Bool.false_eq_true, e1, at0, at1, at2, fEqI, k1b, k3, k4] <;> rfl
        · refine last _ rfl ?_
          unfold S_law_beside B_law_beside
          simp only [z_bind, z_bindE, z_bindS, z_ite, z_noX, z_iteX, z_get0, z_getN, z_getS, z_goN, z_goC, z_ev, z_pk, z_finN, z_finE, z_finP, z_app, z_C, z_Var, z_Fz, z_Mv, z_frz1, z_frz2, z_bOf, z_bool, z_bAnd, z_bOr, z_bNot, z_eAnd, z_eOr, z_eNot, z_eIf, z_Nx, z_Bk, z_Ct, z_Seq, z_seqN, z_seqR, z_seqB, z_seqC, z_Asg, z_Ret, z_RetN, z_Expr, z_If, z_iSeq, z_iApp, z_For, z_loopN, z_loopC, z_lkN, z_lkC, z_lkB, z_lkR, z_setN, z_setT, z_smN, z_smC, z_eFrz, z_aN, z_aE, z_aP, z_pN, z_pE, z_pP, z_call, z_callE, z_ckO, z_ckE, z_make, z_makeE, z_mkO, z_mkE, z_meth, z_finPk, z_finEv, z_prop, z_FldI, z_Raise, z_Try, z_tkO, z_tkE, z_tkI, z_hC, z_hN, z_App, z_SetIx, z_setK, z_chain, z_own, z_ownK, z_fSub, z_fMul, z_fDiv, z_fMod, z_fPow, z_fLt, z_fLe, z_fGt, z_fGe, z_fNeg, z_fAbs, z_fMin, z_fMax, z_Xis, z_Xf, z_Lc, z_lcN, z_lcC, z_lcK, z_yes, z_wN, z_wC, z_bkN, z_bkC, z_isN1, z_isN2, z_isN3, z_isN4, z_isN5, z_isN6, z_isB1, z_isB2, z_isB3, z_isB4, z_isB5, z_isB6, z_it1, z_it2, z_it3, z_len1, z_len2, z_len3, z_ix1, z_ix2, z_ix3, fAdd, strO, tupO, ownL, intO, fInt, fList, fTuple, slO, fSlF, fSlT, fSlN, fTup, fLst, flatD, eqS, fRgL1, fRgL2, rawAll, runF, startE, backO, O.fro?, putN, putD, envX, envB, xSl, Nat.reduceLeDiff, Nat.reduceLT, List.take_succ_cons, List.take_zero, List.any_cons, List.any_nil, List.all_cons, List.all_nil, List.map_cons, List.map_nil, List.cons_append, List.nil_append, List.append_nil, List.length_cons, List.length_nil, List.replicate_succ, List.replicate_zero, List.getElem?_cons_zero, List.getElem?_cons_succ, List.getElem?_nil, List.set_cons_zero, List.set_cons_succ, List.headD_cons, List.tail_cons, List.contains_cons, List.contains_nil, Option.map_some, Option.map_none, Option.isSome_some, Bool.and_true, Bool.true_and, Bool.and_false, Bool.false_and, Bool.or_true, Bool.true_or, Bool.or_false, Bool.false_or, Bool.not_true, Bool.not_false, if_true, if_false, reduceIte, reduceCtorEq, beq_self_eq_true, Nat.reduceSub, Nat.reduceAdd, Nat.reduceBEq, Nat.reduceEqDiff, decide_true, decide_false, Bool.false_eq_true, e1, at0, at1, at2, fEqI, k1b, k3, k4, dec_ne (j := 3) (by decide)] <;> rfl
    · have k2b : (p == 2) = false := by simpa using k2
      refine last _ rfl ?_
      unfold S_law_beside B_law_beside
      simp only [z_bind, z_bindE, z_bindS, z_ite, z_noX, z_iteX, z_get0, z_getN, z_getS, z_goN, z_goC, z_ev, z_pk, z_finN, z_finE, z_finP, z_app, z_C, z_Var, z_Fz, z_Mv, z_frz1, z_frz2, z_bOf, z_bool, z_bAnd, z_bOr, z_bNot, z_eAnd, z_eOr, z_eNot, z_eIf, z_Nx, z_Bk, z_Ct, z_Seq, z_seqN, z_seqR, z_seqB, z_seqC, z_Asg, z_Ret, z_RetN, z_Expr, z_If, z_iSeq, z_iApp, z_For, z_loopN, z_loopC, z_lkN, z_lkC, z_lkB, z_lkR, z_setN, z_setT, z_smN, z_smC, z_eFrz, z_aN, z_aE, z_aP, z_pN, z_pE, z_pP, z_call, z_callE, z_ckO, z_ckE, z_make, z_makeE, z_mkO, z_mkE, z_meth, z_finPk, z_finEv, z_prop, z_FldI, z_Raise, z_Try, z_tkO, z_tkE, z_tkI, z_hC, z_hN, z_App, z_SetIx, z_setK, z_chain, z_own, z_ownK, z_fSub, z_fMul, z_fDiv, z_fMod, z_fPow, z_fLt, z_fLe, z_fGt, z_fGe, z_fNeg, z_fAbs, z_fMin, z_fMax, z_Xis, z_Xf, z_Lc, z_lcN, z_lcC, z_lcK, z_yes, z_wN, z_wC, z_bkN, z_bkC, z_isN1, z_isN2, z_isN3, z_isN4, z_isN5, z_isN6, z_isB1, z_isB2, z_isB3, z_isB4, z_isB5, z_isB6, z_it1, z_it2, z_it3, z_len1, z_len2, z_len3, z_ix1, z_ix2, z_ix3, fAdd, strO, tupO, ownL, intO, fInt, fList, fTuple, slO, fSlF, fSlT, fSlN, fTup, fLst, flatD, eqS, fRgL1, fRgL2, rawAll, runF, startE, backO, O.fro?, putN, putD, envX, envB, xSl, Nat.reduceLeDiff, Nat.reduceLT, List.take_succ_cons, List.take_zero, List.any_cons, List.any_nil, List.all_cons, List.all_nil, List.map_cons, List.map_nil, List.cons_append, List.nil_append, List.append_nil, List.length_cons, List.length_nil, List.replicate_succ, List.replicate_zero, List.getElem?_cons_zero, List.getElem?_cons_succ, List.getElem?_nil, List.set_cons_zero, List.set_cons_succ, List.headD_cons, List.tail_cons, List.contains_cons, List.contains_nil, Option.map_some, Option.map_none, Option.isSome_some, Bool.and_true, Bool.true_and, Bool.and_false, Bool.false_and, Bool.or_true, Bool.true_or, Bool.or_false, Bool.false_or, Bool.not_true, Bool.not_false, if_true, if_false, reduceIte, reduceCtorEq, beq_self_eq_true, Nat.reduceSub, Nat.reduceAdd, Nat.reduceBEq, Nat.reduceEqDiff, decide_true, decide_false, Bool.false_eq_true, e1, at0, at1, at2, fEqI, k1b, k2b, dec_ne (j := 3) (by decide)] <;> rfl
/-! ### == of rates -/
theorem yR (x y z : Int) : fIsi [(.b "NoneType", false), (.b "bool", false), (.b "int", false), (.b "str", false), (.b "tuple", false), (.b "list", false), (.c "Rate", true)] [.fro (rateD x y z)] = some (.fro (.bl true)) := by
  have k : ([(.b "NoneType", false), (.b "bool", false), (.b "int", false), (.b "str", false), (.b "tuple", false), (.b "list", false), (.c "Rate", true)] : List (Ty × Bool)).lookup (.c "Rate") = some true := by decide +kernel
  show (match ([(.b "NoneType", false), (.b "bool", false), (.b "int", false), (.b "str", false), (.b "tuple", false), (.b "list", false), (.c "Rate", true)] : List (Ty × Bool)).lookup (.c "Rate") with
    | some b => some (O.fro (.bl b))
    | none => none) = _
  rw [k]
theorem yRo (x y z : Int) : fIsi [(.b "NoneType", false), (.b "bool", false), (.b "int", false), (.b "str", false), (.b "tuple", false), (.b "list", false), (.c "Rate", true)] [.own (.ins "Rate" ["burst", "num", "den"]) [.int x, .int y, .int z]] = some (.fro (.bl true)) := by
  have k : ([(.b "NoneType", false), (.b "bool", false), (.b "int", false), (.b "str", false), (.b "tuple", false), (.b "list", false), (.c "Rate", true)] : List (Ty × Bool)).lookup (.c "Rate") = some true := by decide +kernel
  show (match ([(.b "NoneType", false), (.b "bool", false), (.b "int", false), (.b "str", false), (.b "tuple", false), (.b "list", false), (.c "Rate", true)] : List (Ty × Bool)).lookup (.c "Rate") with
    | some b => some (O.fro (.bl b))
    | none => none) = _
  rw [k]
/-- a rate, frozen or in a name's own hand -/
inductive RateO (x y z : Int) : O → Prop
  | f : RateO x y z (.fro (rateD x y z))
  | o : RateO x y z (.own (.ins "Rate" ["burst", "num", "den"]) [.int x, .int y, .int z])
theorem fldO1 {x y z : Int} {o : O} (h : RateO x y z o) : fldOf ["Rate"] "burst" [o] = some (I x) := by
  cases h with
  | f => exact fld1 x y z
  | o => rfl
theorem fldO2 {x y z : Int} {o : O} (h : RateO x y z o) : fldOf ["Rate"] "num" [o] = some (I y) := by
  cases h with
  | f => exact fld2 x y z
  | o =>
    have k : (["Rate"] : List Str).contains "Rate" = true := by decide +kernel
    simp only [fldOf, getF, ne1, k, if_true, if_false]
theorem fldO3 {x y z : Int} {o : O} (h : RateO x y z o) : fldOf ["Rate"] "den" [o] = some (I z) := by
  cases h with
  | f => exact fld3 x y z
  | o =>
    have k : (["Rate"] : List Str).contains "Rate" = true := by decide +kernel
    simp only [fldOf, getF, ne2, ne3, k, if_true, if_false]
theorem isiO {x y z : Int} {o : O} (h : RateO x y z o) : fIsi [(.b "NoneType", false), (.b "bool", false), (.b "int", false), (.b "str", false), (.b "tuple", false), (.b "list", false), (.c "Rate", true)] [o] = some (.fro (.bl true)) := by
  cases h with
  | f => exact yR x y z
  | o => exact yRo x y z
theorem isRO {x y z : Int} {o : O} (h : RateO x y z o) : isIns "Rate" (some o) = true := by
  cases h <;> simp [isIns, O.tag?]
theorem eq_ok {x y z x' y' z' : Int} {o o' : O} (h : RateO x y z o) (h' : RateO x' y' z' o') : S_Rate_eq [o, o'] = .ok (.fro (.bl (decide (x = x' ∧ y = y' ∧ z = z')))) [o, o'] := by
  have f1 := fldO1 h
  have f2 := fldO2 h
  have f3 := fldO3 h
  have g1 := fldO1 h'
  have g2 := fldO2 h'
  have g3 := fldO3 h'
  have i1 := isiO h'
  unfold S_Rate_eq B_Rate_eq
  by_cases k1 : x = x'
  · by_cases k2 : y = y'
    · by_cases k3 : z = z'
      · subst k1 k2 k3
        simp only [z_bind, z_bindE, z_bindS, z_ite, z_noX, z_iteX, z_get0, z_getN, z_getS, z_goN, z_goC, z_ev, z_pk, z_finN, z_finE, z_finP, z_app, z_C, z_Var, z_Fz, z_Mv, z_frz1, z_frz2, z_bOf, z_bool, z_bAnd, z_bOr, z_bNot, z_eAnd, z_eOr, z_eNot, z_eIf, z_Nx, z_Bk, z_Ct, z_Seq, z_seqN, z_seqR, z_seqB, z_seqC, z_Asg, z_Ret, z_RetN, z_Expr, z_If, z_iSeq, z_iApp, z_For, z_loopN, z_loopC, z_lkN, z_lkC, z_lkB, z_lkR, z_setN, z_setT, z_smN, z_smC, z_eFrz, z_aN, z_aE, z_aP, z_pN, z_pE, z_pP, z_call, z_callE, z_ckO, z_ckE, z_make, z_makeE, z_mkO, z_mkE, z_meth, z_finPk, z_finEv, z_prop, z_FldI, z_Raise, z_Try, z_tkO, z_tkE, z_tkI, z_hC, z_hN, z_App, z_SetIx, z_setK, z_chain, z_own, z_ownK, z_fSub, z_fMul, z_fDiv, z_fMod, z_fPow, z_fLt, z_fLe, z_fGt, z_fGe, z_fNeg, z_fAbs, z_fMin, z_fMax, z_Xis, z_Xf, z_Lc, z_lcN, z_lcC, z_lcK, z_yes, z_wN, z_wC, z_bkN, z_bkC, z_isN1, z_isN2, z_isN3, z_isN4, z_isN5, z_isN6, z_isB1, z_isB2, z_isB3, z_isB4, z_isB5, z_isB6, z_it1, z_it2, z_it3, z_len1, z_len2, z_len3, z_ix1, z_ix2, z_ix3, fAdd, strO, tupO, ownL, intO, fInt, fList, fTuple, slO, fSlF, fSlT, fSlN, fTup, fLst, flatD, eqS, fRgL1, fRgL2, rawAll, runF, startE, backO, O.fro?, putN, putD, envX, envB, xSl, Nat.reduceLeDiff, Nat.reduceLT, List.take_succ_cons, List.take_zero, List.any_cons, List.any_nil, List.all_cons, List.all_nil, List.map_cons, List.map_nil, List.cons_append, List.nil_append, List.append_nil, List.length_cons, List.length_nil, List.replicate_succ, List.replicate_zero, List.getElem?_cons_zero, List.getElem?_cons_succ, List.getElem?_nil, List.set_cons_zero, List.set_cons_succ, List.headD_cons, List.tail_cons, List.contains_cons, List.contains_nil, Option.map_some, Option.map_none, Option.isSome_some, Bool.and_true, Bool.true_and, Bool.and_false, Bool.false_and, Bool.or_true, Bool.true_or, Bool.or_false, Bool.false_or, Bool.not_true, Bool.not_false, if_true, if_false, reduceIte, reduceCtorEq, beq_self_eq_true, Nat.reduceSub, Nat.reduceAdd, Nat.reduceBEq, Nat.reduceEqDiff, decide_true, decide_false, Bool.false_eq_true, f1, f2, f3, g1, g2, g3, i1, fEqI, and_self] <;> rfl
      · have q : (z == z') = false := by simpa using k3
        subst k1 k2
        simp only [z_bind, z_bindE, z_bindS, z_ite, z_noX, z_iteX, z_get0, z_getN, z_getS, z_goN, z_goC, z_ev, z_pk, z_finN, z_finE, z_finP, z_app, z_C, z_Var, z_Fz, z_Mv, z_frz1, z_frz2, z_bOf, z_bool, z_bAnd, z_bOr, z_bNot, z_eAnd, z_eOr, z_eNot, z_eIf, z_Nx, z_Bk, z_Ct, z_Seq, z_seqN, z_seqR, z_seqB, z_seqC, z_Asg, z_Ret, z_RetN, z_Expr, z_If, z_iSeq, z_iApp, z_For, z_loopN, z_loopC, z_lkN, z_lkC, z_lkB, z_lkR, z_setN, z_setT, z_smN, z_smC, z_eFrz, z_aN, z_aE, z_aP, z_pN, z_pE, z_pP, z_call, z_callE, z_ckO, z_ckE, z_make, z_makeE, z_mkO, z_mkE, z_meth, z_finPk, z_finEv, z_prop, z_FldI, z_Raise, z_Try, z_tkO, z_tkE, z_tkI, z_hC, z_hN, z_App, z_SetIx, z_setK, z_chain, z_own, z_ownK, z_fSub, z_fMul, z_fDiv, z_fMod, z_fPow, z_fLt, z_fLe, z_fGt, z_fGe, z_fNeg, z_fAbs, z_fMin, z_fMax, z_Xis, z_Xf, z_Lc, z_lcN, z_lcC, z_lcK, z_yes, z_wN, z_wC, z_bkN, z_bkC, z_isN1, z_isN2, z_isN3, z_isN4, z_isN5, z_isN6, z_isB1, z_isB2, z_isB3, z_isB4, z_isB5, z_isB6, z_it1, z_it2, z_it3, z_len1, z_len2, z_len3, z_ix1, z_ix2, z_ix3, fAdd, strO, tupO, ownL, intO, fInt, fList, fTuple, slO, fSlF, fSlT, fSlN, fTup, fLst, flatD, eqS, fRgL1, fRgL2, rawAll, runF, startE, backO, O.fro?, putN, putD, envX, envB, xSl, Nat.reduceLeDiff, Nat.reduceLT, List.take_succ_cons, List.take_zero, List.any_cons, List.any_nil, List.all_cons, List.all_nil, List.map_cons, List.map_nil, List.cons_append, List.nil_append, List.append_nil, List.length_cons, List.length_nil, List.replicate_succ, List.replicate_zero, List.getElem?_cons_zero, List.getElem?_cons_succ, List.getElem?_nil, List.set_cons_zero, List.set_cons_succ, List.headD_cons, List.tail_cons, List.contains_cons, List.contains_nil, Option.map_some, Option.map_none, Option.isSome_some, Bool.and_true, Bool.true_and, Bool.and_false, Bool.false_and, Bool.or_true, Bool.true_or, Bool.or_false, Bool.false_or, Bool.not_true, Bool.not_false, if_true, if_false, reduceIte, reduceCtorEq, beq_self_eq_true, Nat.reduceSub, Nat.reduceAdd, Nat.reduceBEq, Nat.reduceEqDiff, decide_true, decide_false, Bool.false_eq_true, f1, f2, f3, g1, g2, g3, i1, fEqI, q, k3, and_false] <;> rfl
    · have q : (y == y') = false := by simpa using k2
      subst k1
      simp only [z_bind, z_bindE, z_bindS, z_ite, z_noX, z_iteX, z_get0, z_getN, z_getS, z_goN, z_goC, z_ev, z_pk, z_finN, z_finE, z_finP, z_app, z_C, z_Var, z_Fz, z_Mv, z_frz1, z_frz2, z_bOf, z_bool, z_bAnd, z_bOr, z_bNot, z_eAnd, z_eOr, z_eNot, z_eIf, z_Nx, z_Bk, z_Ct, z_Seq, z_seqN, z_seqR, z_seqB, z_seqC, z_Asg, z_Ret, z_RetN, z_Expr, z_If, z_iSeq, z_iApp, z_For, z_loopN, z_loopC, z_lkN, z_lkC, z_lkB, z_lkR, z_setN, z_setT, z_smN, z_smC, z_eFrz, z_aN, z_aE, z_aP, z_pN, z_pE, z_pP, z_call, z_callE, z_ckO, z_ckE, z_make, z_makeE, z_mkO, z_mkE, z_meth, z_finPk, z_finEv, z_prop, z_FldI, z_Raise, z_Try, z_tkO, z_tkE, z_tkI, z_hC, z_hN, z_App, z_SetIx, z_setK, z_chain, z_own, z_ownK, z_fSub, z_fMul, z_fDiv, z_fMod, z_fPow, z_fLt, z_fLe, z_fGt, z_fGe, z_fNeg, z_fAbs, z_fMin, z_fMax, z_Xis, z_Xf, z_Lc, z_lcN, z_lcC, z_lcK, z_yes, z_wN, z_wC, z_bkN, z_bkC, z_isN1, z_isN2, z_isN3, z_isN4, z_isN5, z_isN6, z_isB1, z_isB2, z_isB3, z_isB4, z_isB5, z_isB6, z_it1, z_it2, z_it3, z_len1, z_len2, z_len3, z_ix1, z_ix2, z_ix3, fAdd, strO, tupO, ownL, intO, fInt, fList, fTuple, slO, fSlF, fSlT, fSlN, fTup, fLst, flatD, eqS, fRgL1, fRgL2, rawAll, runF, startE, backO, O.fro?, putN, putD, envX, envB, xSl, Nat.reduceLeDiff, Nat.reduceLT, List.take_succ_cons, List.take_zero, List.any_cons, List.any_nil, List.all_cons, List.all_nil, List.map_cons, List.map_nil, List.cons_append, List.nil_append, List.append_nil, List.length_cons, List.length_nil, List.replicate_succ, List.replicate_zero, List.getElem?_cons_zero, List.getElem?_cons_succ, List.getElem?_nil, List.set_cons_zero, List.set_cons_succ, List.headD_cons, List.tail_cons, List.contains_cons, List.contains_nil, Option.map_some, Option.map_none, Option.isSome_some, Bool.and_true, Bool.true_and, Bool.and_false, Bool.false_and, Bool.or_true, Bool.true_or, Bool.or_false, Bool.false_or, Bool.not_true, Bool.not_false, if_true, if_false, reduceIte, reduceCtorEq, beq_self_eq_true, Nat.reduceSub, Nat.reduceAdd, Nat.reduceBEq, Nat.reduceEqDiff, decide_true, decide_false, Bool.false_eq_true, f1, f2, f3, g1, g2, g3, i1, fEqI, q, k2, and_false, false_and] <;> rfl
  · have q : (x == x') = false := by simpa using k1
    simp only [z_bind, z_bindE, z_bindS, z_ite, z_noX, z_iteX, z_get0, z_getN, z_getS, z_goN, z_goC, z_ev, z_pk, z_finN, z_finE, z_finP, z_app, z_C, z_Var, z_Fz, z_Mv, z_frz1, z_frz2, z_bOf, z_bool, z_bAnd, z_bOr, z_bNot, z_eAnd, z_eOr, z_eNot, z_eIf, z_Nx, z_Bk, z_Ct, z_Seq, z_seqN, z_seqR, z_seqB, z_seqC, z_Asg, z_Ret, z_RetN, z_Expr, z_If, z_iSeq, z_iApp, z_For, z_loopN, z_loopC, z_lkN, z_lkC, z_lkB, z_lkR, z_setN, z_setT, z_smN, z_smC, z_eFrz, z_aN, z_aE, z_aP, z_pN, z_pE, z_pP, z_call, z_callE, z_ckO, z_ckE, z_make, z_makeE, z_mkO, z_mkE, z_meth, z_finPk, z_finEv, z_prop, z_FldI, z_Raise, z_Try, z_tkO, z_tkE, z_tkI, z_hC, z_hN, z_App, z_SetIx, z_setK, z_chain, z_own, z_ownK, z_fSub, z_fMul, z_fDiv, z_fMod, z_fPow, z_fLt, z_fLe, z_fGt, z_fGe, z_fNeg, z_fAbs, z_fMin, z_fMax, z_Xis, z_Xf, z_Lc, z_lcN, z_lcC, z_lcK, z_yes, z_wN, z_wC, z_bkN, z_bkC, z_isN1, z_isN2, z_isN3, z_isN4, z_isN5, z_isN6, z_isB1, z_isB2, z_isB3, z_isB4, z_isB5, z_isB6, z_it1, z_it2, z_it3, z_len1, z_len2, z_len3, z_ix1, z_ix2, z_ix3, fAdd, strO, tupO, ownL, intO, fInt, fList, fTuple, slO, fSlF, fSlT, fSlN, fTup, fLst, flatD, eqS, fRgL1, fRgL2, rawAll, runF, startE, backO, O.fro?, putN, putD, envX, envB, xSl, Nat.reduceLeDiff, Nat.reduceLT, List.take_succ_cons, List.take_zero, List.any_cons, List.any_nil, List.all_cons, List.all_nil, List.map_cons, List.map_nil, List.cons_append, List.nil_append, List.append_nil, List.length_cons, List.length_nil, List.replicate_succ, List.replicate_zero, List.getElem?_cons_zero, List.getElem?_cons_succ, List.getElem?_nil, List.set_cons_zero, List.set_cons_succ, List.headD_cons, List.tail_cons, List.contains_cons, List.contains_nil, Option.map_some, Option.map_none, Option.isSome_some, Bool.and_true, Bool.true_and, Bool.and_false, Bool.false_and, Bool.or_true, Bool.true_or, Bool.or_false, Bool.false_or, Bool.not_true, Bool.not_false, if_true, if_false, reduceIte, reduceCtorEq, beq_self_eq_true, Nat.reduceSub, Nat.reduceAdd, Nat.reduceBEq, Nat.reduceEqDiff, decide_true, decide_false, Bool.false_eq_true, f1, f2, f3, g1, g2, g3, i1, fEqI, q, k1, false_and] <;> rfl
theorem kept_ok {x y z : Int} (h : Good x y z) : S_law_kept [.fro (rateD x y z), tup3 x y z] = .ok (.fro (.bl true)) [.fro (rateD x y z), tup3 x y z] := by
  have e1 := full_ok h
  have e2 := top_ok h
  have s : ∀ i : Int, S_law_same 4 [I i, I i] = .ok (.fro (.bl true)) [I i, I i] := fun i => same_sc 3 (.int i) rfl
  unfold S_law_kept B_law_kept
  simp only [z_bind, z_bindE, z_bindS, z_ite, z_noX, z_iteX, z_get0, z_getN, z_getS, z_goN, z_goC, z_ev, z_pk, z_finN, z_finE, z_finP, z_app, z_C, z_Var, z_Fz, z_Mv, z_frz1, z_frz2, z_bOf, z_bool, z_bAnd, z_bOr, z_bNot, z_eAnd, z_eOr, z_eNot, z_eIf, z_Nx, z_Bk, z_Ct, z_Seq, z_seqN, z_seqR, z_seqB, z_seqC, z_Asg, z_Ret, z_RetN, z_Expr, z_If, z_iSeq, z_iApp, z_For, z_loopN, z_loopC, z_lkN, z_lkC, z_lkB, z_lkR, z_setN, z_setT, z_smN, z_smC, z_eFrz, z_aN, z_aE, z_aP, z_pN, z_pE, z_pP, z_call, z_callE, z_ckO, z_ckE, z_make, z_makeE, z_mkO, z_mkE, z_meth, z_finPk, z_finEv, z_prop, z_FldI, z_Raise, z_Try, z_tkO, z_tkE, z_tkI, z_hC, z_hN, z_App, z_SetIx, z_setK, z_chain, z_own, z_ownK, z_fSub, z_fMul, z_fDiv, z_fMod, z_fPow, z_fLt, z_fLe, z_fGt, z_fGe, z_fNeg, z_fAbs, z_fMin, z_fMax, z_Xis, z_Xf, z_Lc, z_lcN, z_lcC, z_lcK, z_yes, z_wN, z_wC, z_bkN, z_bkC, z_isN1, z_isN2, z_isN3, z_isN4, z_isN5, z_isN6, z_isB1, z_isB2, z_isB3, z_isB4, z_isB5, z_isB6, z_it1, z_it2, z_it3, z_len1, z_len2, z_len3, z_ix1, z_ix2, z_ix3, fAdd, strO, tupO, ownL, intO, fInt, fList, fTuple, slO, fSlF, fSlT, fSlN, fTup, fLst, flatD, eqS, fRgL1, fRgL2, rawAll, runF, startE, backO, O.fro?, putN, putD, envX, envB, xSl, Nat.reduceLeDiff, Nat.reduceLT, List.take_succ_cons, List.take_zero, List.any_cons, List.any_nil, List.all_cons, List.all_nil, List.map_cons, List.map_nil, List.cons_append, List.nil_append, List.append_nil, List.length_cons, List.length_nil, List.replicate_succ, List.replicate_zero, List.getElem?_cons_zero, List.getElem?_cons_succ, List.getElem?_nil, List.set_cons_zero, List.set_cons_succ, List.headD_cons, List.tail_cons, List.contains_cons, List.contains_nil, Option.map_some, Option.map_none, Option.isSome_some, Bool.and_true, Bool.true_and, Bool.and_false, Bool.false_and, Bool.or_true, Bool.true_or, Bool.or_false, Bool.false_or, Bool.not_true, Bool.not_false, if_true, if_false, reduceIte, reduceCtorEq, beq_self_eq_true, Nat.reduceSub, Nat.reduceAdd, Nat.reduceBEq, Nat.reduceEqDiff, decide_true, decide_false, Bool.false_eq_true, fld1, fld2, fld3, at0, at1, at2, s, e1, e2, isR] <;> rfl
end G_lampcrossings_k36_rate_credits
end

section
set_option Elab.async false
set_option linter.all false
set_option maxRecDepth 100000
set_option maxHeartbeats 4000000
namespace G_lampcrossings_k36_rate_credits
open PySem PySem.Spec PyProof.Rows L2 DL
abbrev T3 := Int × Int × Int
abbrev tD (t : T3) : D := .node .tup [.int t.1, .int t.2.1, .int t.2.2]
abbrev rD (t : T3) : D := rateD t.1 t.2.1 t.2.2
abbrev Gd (t : T3) : Prop := Good t.1 t.2.1 t.2.2
theorem both (t : T3) (h : Gd t) {cr ca : Int} (hc : SC cr) (ha : ca = 0 ∨ ca = 1) : ∃ ds : List D, ds.all scal = true ∧ ds.length < 1000 ∧ S_law_asked [.fro (rD t), I cr, I ca] = .ok (.fro (.node .tup ds)) [.fro (rD t), I cr, I ca] ∧ S_law_due [.fro (tD t), I cr, I ca] = .ok (.fro (.node .tup ds)) [.fro (tD t), I cr, I ca] := by
  obtain ⟨x, y, z⟩ := t
  have h : Good x y z := h
  have s1 : SeqAt.shaped (.str "told") = true := by decide +kernel
  have s2 : SeqAt.shaped (.str "refused") = true := by decide +kernel
  have s3 : SeqAt.shaped (.str "BadCredit") = true := by decide +kernel
  have s4 : SeqAt.shaped (.str "NoCredit") = true := by decide +kernel
  by_cases k1 : 0 ≤ cr ∧ cr ≤ x * z + y - 1
  · by_cases k2 : ca = 1 ∧ cr < z
    · obtain ⟨rfl, k3⟩ := k2
      refine ⟨_, ?_, ?_, asked_no h hc k1.1 k1.2 k3, due_no h k1.1 k1.2 k3⟩
      · simp only [List.all_cons, List.all_nil, scal, s2, s4, Bool.and_true]
      · show 6 < 1000
        decide
    · have k3 : ca = 1 → ¬ cr < z := fun e q => k2 ⟨e, q⟩
      refine ⟨_, ?_, ?_, asked_ok h k1.1 k1.2 k3, due_ok h ha k1.1 k1.2 k3⟩
      · simp only [List.all_cons, List.all_nil, scal, s1, Bool.and_true]
      · show 2 < 1000
        decide
  · refine ⟨_, ?_, ?_, asked_bad h hc k1, due_bad h k1⟩
    · simp only [List.all_cons, List.all_nil, scal, s2, s3, Bool.and_true]
    · show 6 < 1000
      decide
/-- the law's names while it walks its credits -/
abbrev EL (A0 A1 A2 A4 A5 A6 : Option O) (ts : List T3) (w9 w10 w11 : Option O) : DL.Env := [A0, A1, A2, some (.fro (.node .lst (ts.map tD))), A4, A5, A6, some (.own .lst (ts.map rD)), none, w9, w10, w11, none, none, none]
theorem atD {ts : List T3} {k : Nat} (h : k < ts.length) : atI (ts.map tD) (k : Int) = some (tD ts[k]) := by
  rw [at_nat, List.getElem?_map, List.getElem?_eq_getElem h]
  rfl
theorem atR {ts : List T3} {k : Nat} (h : k < ts.length) : atI (ts.map rD) (k : Int) = some (rD ts[k]) := by
  rw [at_nat, List.getElem?_map, List.getElem?_eq_getElem h]
  rfl
def bodyC : SS := (sIf (bNot (bOf (eCall (S_law_same 4) [(.ev (eFrz (eCall S_law_asked [(.ev (eApp fIx [(.pk 7), (.pk 10)])), (.pk 9), (.pk 11)] []))), (.ev (eFrz (eCall S_law_due [(.ev (eApp fIx [(.pk 3), (.pk 10)])), (.pk 9), (.pk 11)] [])))] [])))
  (sRet (eC (.bl false)))
  sNx)
theorem came_step (A0 A1 A2 A4 A5 A6 : Option O) (ts : List T3) (hts : ∀ t ∈ ts, Gd t) {k : Nat} (hk : k < ts.length) {cr ca : Int} (hc : SC cr) (ha : ca = 0 ∨ ca = 1) : bodyC (EL A0 A1 A2 A4 A5 A6 ts (some (I cr)) (some (I (k : Int))) (some (I ca))) = .ok (.nx, EL A0 A1 A2 A4 A5 A6 ts (some (I cr)) (some (I (k : Int))) (some (I ca))) := by
  obtain ⟨ds, d1, d2, d3, d4⟩ := both ts[k] (hts _ (List.getElem_mem hk)) hc ha
  have d5 := same_tup 2 ds d1 d2
  unfold bodyC
  simp only [z_bind, z_bindE, z_bindS, z_ite, z_noX, z_iteX, z_get0, z_getN, z_getS, z_goN, z_goC, z_ev, z_pk, z_finN, z_finE, z_finP, z_app, z_C, z_Var, z_Fz, z_Mv, z_frz1, z_frz2, z_bOf, z_bool, z_bAnd, z_bOr, z_bNot, z_eAnd, z_eOr, z_eNot, z_eIf, z_Nx, z_Bk, z_Ct, z_Seq, z_seqN, z_seqR, z_seqB, z_seqC, z_Asg, z_Ret, z_RetN, z_Expr, z_If, z_iSeq, z_iApp, z_For, z_loopN, z_loopC, z_lkN, z_lkC, z_lkB, z_lkR, z_setN, z_setT, z_smN, z_smC, z_eFrz, z_aN, z_aE, z_aP, z_pN, z_pE, z_pP, z_call, z_callE, z_ckO, z_ckE, z_make, z_makeE, z_mkO, z_mkE, z_meth, z_finPk, z_finEv, z_prop, z_FldI, z_Raise, z_Try, z_tkO, z_tkE, z_tkI, z_hC, z_hN, z_App, z_SetIx, z_setK, z_chain, z_own, z_ownK, z_fSub, z_fMul, z_fDiv, z_fMod, z_fPow, z_fLt, z_fLe, z_fGt, z_fGe, z_fNeg, z_fAbs, z_fMin, z_fMax, z_Xis, z_Xf, z_Lc, z_lcN, z_lcC, z_lcK, z_yes, z_wN, z_wC, z_bkN, z_bkC, z_isN1, z_isN2, z_isN3, z_isN4, z_isN5, z_isN6, z_isB1, z_isB2, z_isB3, z_isB4, z_isB5, z_isB6, z_it1, z_it2, z_it3, z_len1, z_len2, z_len3, z_ix1, z_ix2, z_ix3, fAdd, strO, tupO, ownL, intO, fInt, fList, fTuple, slO, fSlF, fSlT, fSlN, fTup, fLst, flatD, eqS, fRgL1, fRgL2, rawAll, runF, startE, backO, O.fro?, putN, putD, envX, envB, xSl, Nat.reduceLeDiff, Nat.reduceLT, List.take_succ_cons, List.take_zero, List.any_cons, List.any_nil, List.all_cons, List.all_nil, List.map_cons, List.map_nil, List.cons_append, List.nil_append, List.append_nil, List.length_cons, List.length_nil, List.replicate_succ, List.replicate_zero, List.getElem?_cons_zero, List.getElem?_cons_succ, List.getElem?_nil, List.set_cons_zero, List.set_cons_succ, List.headD_cons, List.tail_cons, List.contains_cons, List.contains_nil, Option.map_some, Option.map_none, Option.isSome_some, Bool.and_true, Bool.true_and, Bool.and_false, Bool.false_and, Bool.or_true, Bool.true_or, Bool.or_false, Bool.false_or, Bool.not_true, Bool.not_false, if_true, if_false, reduceIte, reduceCtorEq, beq_self_eq_true, Nat.reduceSub, Nat.reduceAdd, Nat.reduceBEq, Nat.reduceEqDiff, decide_true, decide_false, Bool.false_eq_true, atD hk, atR hk, d3, d4, d5]
def bodyK : SS := (sFor (iSeq (eApp fTup [(.ev (eC (.int 0))), (.ev (eC (.int 1)))])) (setN 11)
  (sIf (bNot (bOf (eCall (S_law_same 4) [(.ev (eFrz (eCall S_law_asked [(.ev (eApp fIx [(.pk 7), (.pk 10)])), (.pk 9), (.pk 11)] []))), (.ev (eFrz (eCall S_law_due [(.ev (eApp fIx [(.pk 3), (.pk 10)])), (.pk 9), (.pk 11)] [])))] [])))
  (sRet (eC (.bl false)))
  sNx))
theorem bodyK_eq : bodyK = sFor (iSeq (eApp fTup [(.ev (eC (.int 0))), (.ev (eC (.int 1)))])) (setN 11) bodyC := rfl
theorem k_step (A0 A1 A2 A4 A5 A6 : Option O) (ts : List T3) (hts : ∀ t ∈ ts, Gd t) {k : Nat} (hk : k < ts.length) {cr : Int} (hc : SC cr) (w : Option O) : bodyK (EL A0 A1 A2 A4 A5 A6 ts (some (I cr)) (some (I (k : Int))) w) = .ok (.nx, EL A0 A1 A2 A4 A5 A6 ts (some (I cr)) (some (I (k : Int))) (some (I 1))) := by
  have e0 := came_step A0 A1 A2 A4 A5 A6 ts hts hk hc (ca := 0) (.inl rfl)
  have e1 := came_step A0 A1 A2 A4 A5 A6 ts hts hk hc (ca := 1) (.inr rfl)
  rw [bodyK_eq]
  simp only [z_bind, z_bindE, z_bindS, z_ite, z_noX, z_iteX, z_get0, z_getN, z_getS, z_goN, z_goC, z_ev, z_pk, z_finN, z_finE, z_finP, z_app, z_C, z_Var, z_Fz, z_Mv, z_frz1, z_frz2, z_bOf, z_bool, z_bAnd, z_bOr, z_bNot, z_eAnd, z_eOr, z_eNot, z_eIf, z_Nx, z_Bk, z_Ct, z_Seq, z_seqN, z_seqR, z_seqB, z_seqC, z_Asg, z_Ret, z_RetN, z_Expr, z_If, z_iSeq, z_iApp, z_For, z_loopN, z_loopC, z_lkN, z_lkC, z_lkB, z_lkR, z_setN, z_setT, z_smN, z_smC, z_eFrz, z_aN, z_aE, z_aP, z_pN, z_pE, z_pP, z_call, z_callE, z_ckO, z_ckE, z_make, z_makeE, z_mkO, z_mkE, z_meth, z_finPk, z_finEv, z_prop, z_FldI, z_Raise, z_Try, z_tkO, z_tkE, z_tkI, z_hC, z_hN, z_App, z_SetIx, z_setK, z_chain, z_own, z_ownK, z_fSub, z_fMul, z_fDiv, z_fMod, z_fPow, z_fLt, z_fLe, z_fGt, z_fGe, z_fNeg, z_fAbs, z_fMin, z_fMax, z_Xis, z_Xf, z_Lc, z_lcN, z_lcC, z_lcK, z_yes, z_wN, z_wC, z_bkN, z_bkC, z_isN1, z_isN2, z_isN3, z_isN4, z_isN5, z_isN6, z_isB1, z_isB2, z_isB3, z_isB4, z_isB5, z_isB6, z_it1, z_it2, z_it3, z_len1, z_len2, z_len3, z_ix1, z_ix2, z_ix3, fAdd, strO, tupO, ownL, intO, fInt, fList, fTuple, slO, fSlF, fSlT, fSlN, fTup, fLst, flatD, eqS, fRgL1, fRgL2, rawAll, runF, startE, backO, O.fro?, putN, putD, envX, envB, xSl, Nat.reduceLeDiff, Nat.reduceLT, List.take_succ_cons, List.take_zero, List.any_cons, List.any_nil, List.all_cons, List.all_nil, List.map_cons, List.map_nil, List.cons_append, List.nil_append, List.append_nil, List.length_cons, List.length_nil, List.replicate_succ, List.replicate_zero, List.getElem?_cons_zero, List.getElem?_cons_succ, List.getElem?_nil, List.set_cons_zero, List.set_cons_succ, List.headD_cons, List.tail_cons, List.contains_cons, List.contains_nil, Option.map_some, Option.map_none, Option.isSome_some, Bool.and_true, Bool.true_and, Bool.and_false, Bool.false_and, Bool.or_true, Bool.true_or, Bool.or_false, Bool.false_or, Bool.not_true, Bool.not_false, if_true, if_false, reduceIte, reduceCtorEq, beq_self_eq_true, Nat.reduceSub, Nat.reduceAdd, Nat.reduceBEq, Nat.reduceEqDiff, decide_true, decide_false, Bool.false_eq_true, e0, e1]
theorem k_loop (A0 A1 A2 A4 A5 A6 : Option O) (ts : List T3) (hts : ∀ t ∈ ts, Gd t) {cr : Int} (hc : SC cr) : ∀ (L : List D) (w10 w11 : Option O), (∀ q ∈ L, ∃ k : Nat, q = .int k ∧ k < ts.length) →
    ∃ v10 v11, loopD (setN 10) bodyK L (EL A0 A1 A2 A4 A5 A6 ts (some (I cr)) w10 w11) = .ok (.nx, EL A0 A1 A2 A4 A5 A6 ts (some (I cr)) v10 v11)
  | [], w10, w11, _ => ⟨w10, w11, rfl⟩
  | q :: L, w10, w11, hL => by
    obtain ⟨k, rfl, hk⟩ := hL q (List.mem_cons_self ..)
    obtain ⟨v10, v11, e⟩ := k_loop A0 A1 A2 A4 A5 A6 ts hts hc L (some (I (k : Int))) (some (I 1)) fun q hq => hL q (List.mem_cons_of_mem _ hq)
    refine ⟨v10, v11, ?_⟩
    have e1 := k_step A0 A1 A2 A4 A5 A6 ts hts hk hc w11
    simp only [z_bind, z_bindE, z_bindS, z_ite, z_noX, z_iteX, z_get0, z_getN, z_getS, z_goN, z_goC, z_ev, z_pk, z_finN, z_finE, z_finP, z_app, z_C, z_Var, z_Fz, z_Mv, z_frz1, z_frz2, z_bOf, z_bool, z_bAnd, z_bOr, z_bNot, z_eAnd, z_eOr, z_eNot, z_eIf, z_Nx, z_Bk, z_Ct, z_Seq, z_seqN, z_seqR, z_seqB, z_seqC, z_Asg, z_Ret, z_RetN, z_Expr, z_If, z_iSeq, z_iApp, z_For, z_loopN, z_loopC, z_lkN, z_lkC, z_lkB, z_lkR, z_setN, z_setT, z_smN, z_smC, z_eFrz, z_aN, z_aE, z_aP, z_pN, z_pE, z_pP, z_call, z_callE, z_ckO, z_ckE, z_make, z_makeE, z_mkO, z_mkE, z_meth, z_finPk, z_finEv, z_prop, z_FldI, z_Raise, z_Try, z_tkO, z_tkE, z_tkI, z_hC, z_hN, z_App, z_SetIx, z_setK, z_chain, z_own, z_ownK, z_fSub, z_fMul, z_fDiv, z_fMod, z_fPow, z_fLt, z_fLe, z_fGt, z_fGe, z_fNeg, z_fAbs, z_fMin, z_fMax, z_Xis, z_Xf, z_Lc, z_lcN, z_lcC, z_lcK, z_yes, z_wN, z_wC, z_bkN, z_bkC, z_isN1, z_isN2, z_isN3, z_isN4, z_isN5, z_isN6, z_isB1, z_isB2, z_isB3, z_isB4, z_isB5, z_isB6, z_it1, z_it2, z_it3, z_len1, z_len2, z_len3, z_ix1, z_ix2, z_ix3, fAdd, strO, tupO, ownL, intO, fInt, fList, fTuple, slO, fSlF, fSlT, fSlN, fTup, fLst, flatD, eqS, fRgL1, fRgL2, rawAll, runF, startE, backO, O.fro?, putN, putD, envX, envB, xSl, Nat.reduceLeDiff, Nat.reduceLT, List.take_succ_cons, List.take_zero, List.any_cons, List.any_nil, List.all_cons, List.all_nil, List.map_cons, List.map_nil, List.cons_append, List.nil_append, List.append_nil, List.length_cons, List.length_nil, List.replicate_succ, List.replicate_zero, List.getElem?_cons_zero, List.getElem?_cons_succ, List.getElem?_nil, List.set_cons_zero, List.set_cons_succ, List.headD_cons, List.tail_cons, List.contains_cons, List.contains_nil, Option.map_some, Option.map_none, Option.isSome_some, Bool.and_true, Bool.true_and, Bool.and_false, Bool.false_and, Bool.or_true, Bool.true_or, Bool.or_false, Bool.false_or, Bool.not_true, Bool.not_false, if_true, if_false, reduceIte, reduceCtorEq, beq_self_eq_true, Nat.reduceSub, Nat.reduceAdd, Nat.reduceBEq, Nat.reduceEqDiff, decide_true, decide_false, Bool.false_eq_true, e1, e]
def bodyX : SS := (sFor (iApp kRange1 [(.ev (eApp fLen [(.pk 7)]))]) (setN 10)
  (sFor (iSeq (eApp fTup [(.ev (eC (.int 0))), (.ev (eC (.int 1)))])) (setN 11)
  (sIf (bNot (bOf (eCall (S_law_same 4) [(.ev (eFrz (eCall S_law_asked [(.ev (eApp fIx [(.pk 7), (.pk 10)])), (.pk 9), (.pk 11)] []))), (.ev (eFrz (eCall S_law_due [(.ev (eApp fIx [(.pk 3), (.pk 10)])), (.pk 9), (.pk 11)] [])))] [])))
  (sRet (eC (.bl false)))
  sNx)))
theorem bodyX_eq : bodyX = sFor (iApp kRange1 [(.ev (eApp fLen [(.pk 7)]))]) (setN 10) bodyK := rfl
theorem x_step (A0 A1 A2 A4 A5 A6 : Option O) (ts : List T3) (hts : ∀ t ∈ ts, Gd t) (hl : ts.length < 1000) {cr : Int} (hc : SC cr) (w10 w11 : Option O) : ∃ v10 v11, bodyX (EL A0 A1 A2 A4 A5 A6 ts (some (I cr)) w10 w11) = .ok (.nx, EL A0 A1 A2 A4 A5 A6 ts (some (I cr)) v10 v11) := by
  obtain ⟨v10, v11, e⟩ := k_loop A0 A1 A2 A4 A5 A6 ts hts hc (rngD 0 ts.length) w10 w11 rng_mem
  refine ⟨v10, v11, ?_⟩
  rw [bodyX_eq]
  refine for_nx (iapp_1 (y := some (I ((ts.map rD).length : Int))) (o := I ((ts.map rD).length : Int)) (by simp only [z_bind, z_bindE, z_bindS, z_ite, z_noX, z_iteX, z_get0, z_getN, z_getS, z_goN, z_goC, z_ev, z_pk, z_finN, z_finE, z_finP, z_app, z_C, z_Var, z_Fz, z_Mv, z_frz1, z_frz2, z_bOf, z_bool, z_bAnd, z_bOr, z_bNot, z_eAnd, z_eOr, z_eNot, z_eIf, z_Nx, z_Bk, z_Ct, z_Seq, z_seqN, z_seqR, z_seqB, z_seqC, z_Asg, z_Ret, z_RetN, z_Expr, z_If, z_iSeq, z_iApp, z_For, z_loopN, z_loopC, z_lkN, z_lkC, z_lkB, z_lkR, z_setN, z_setT, z_smN, z_smC, z_eFrz, z_aN, z_aE, z_aP, z_pN, z_pE, z_pP, z_call, z_callE, z_ckO, z_ckE, z_make, z_makeE, z_mkO, z_mkE, z_meth, z_finPk, z_finEv, z_prop, z_FldI, z_Raise, z_Try, z_tkO, z_tkE, z_tkI, z_hC, z_hN, z_App, z_SetIx, z_setK, z_chain, z_own, z_ownK, z_fSub, z_fMul, z_fDiv, z_fMod, z_fPow, z_fLt, z_fLe, z_fGt, z_fGe, z_fNeg, z_fAbs, z_fMin, z_fMax, z_Xis, z_Xf, z_Lc, z_lcN, z_lcC, z_lcK, z_yes, z_wN, z_wC, z_bkN, z_bkC, z_isN1, z_isN2, z_isN3, z_isN4, z_isN5, z_isN6, z_isB1, z_isB2, z_isB3, z_isB4, z_isB5, z_isB6, z_it1, z_it2, z_it3, z_len1, z_len2, z_len3, z_ix1, z_ix2, z_ix3, fAdd, strO, tupO, ownL, intO, fInt, fList, fTuple, slO, fSlF, fSlT, fSlN, fTup, fLst, flatD, eqS, fRgL1, fRgL2, rawAll, runF, startE, backO, O.fro?, putN, putD, envX, envB, xSl, Nat.reduceLeDiff, Nat.reduceLT, List.take_succ_cons, List.take_zero, List.any_cons, List.any_nil, List.all_cons, List.all_nil, List.map_cons, List.map_nil, List.cons_append, List.nil_append, List.append_nil, List.length_cons, List.length_nil, List.replicate_succ, List.replicate_zero, List.getElem?_cons_zero, List.getElem?_cons_succ, List.getElem?_nil, List.set_cons_zero, List.set_cons_succ, List.headD_cons, List.tail_cons, List.contains_cons, List.contains_nil, Option.map_some, Option.map_none, Option.isSome_some, Bool.and_true, Bool.true_and, Bool.and_false, Bool.false_and, Bool.or_true, Bool.true_or, Bool.or_false, Bool.false_or, Bool.not_true, Bool.not_false, if_true, if_false, reduceIte, reduceCtorEq, beq_self_eq_true, Nat.reduceSub, Nat.reduceAdd, Nat.reduceBEq, Nat.reduceEqDiff, decide_true, decide_false, Bool.false_eq_true]) (by simp only [z_bind, z_bindE, z_bindS, z_ite, z_noX, z_iteX, z_get0, z_getN, z_getS, z_goN, z_goC, z_ev, z_pk, z_finN, z_finE, z_finP, z_app, z_C, z_Var, z_Fz, z_Mv, z_frz1, z_frz2, z_bOf, z_bool, z_bAnd, z_bOr, z_bNot, z_eAnd, z_eOr, z_eNot, z_eIf, z_Nx, z_Bk, z_Ct, z_Seq, z_seqN, z_seqR, z_seqB, z_seqC, z_Asg, z_Ret, z_RetN, z_Expr, z_If, z_iSeq, z_iApp, z_For, z_loopN, z_loopC, z_lkN, z_lkC, z_lkB, z_lkR, z_setN, z_setT, z_smN, z_smC, z_eFrz, z_aN, z_aE, z_aP, z_pN, z_pE, z_pP, z_call, z_callE, z_ckO, z_ckE, z_make, z_makeE, z_mkO, z_mkE, z_meth, z_finPk, z_finEv, z_prop, z_FldI, z_Raise, z_Try, z_tkO, z_tkE, z_tkI, z_hC, z_hN, z_App, z_SetIx, z_setK, z_chain, z_own, z_ownK, z_fSub, z_fMul, z_fDiv, z_fMod, z_fPow, z_fLt, z_fLe, z_fGt, z_fGe, z_fNeg, z_fAbs, z_fMin, z_fMax, z_Xis, z_Xf, z_Lc, z_lcN, z_lcC, z_lcK, z_yes, z_wN, z_wC, z_bkN, z_bkC, z_isN1, z_isN2, z_isN3, z_isN4, z_isN5, z_isN6, z_isB1, z_isB2, z_isB3, z_isB4, z_isB5, z_isB6, z_it1, z_it2, z_it3, z_len1, z_len2, z_len3, z_ix1, z_ix2, z_ix3, fAdd, strO, tupO, ownL, intO, fInt, fList, fTuple, slO, fSlF, fSlT, fSlN, fTup, fLst, flatD, eqS, fRgL1, fRgL2, rawAll, runF, startE, backO, O.fro?, putN, putD, envX, envB, xSl, Nat.reduceLeDiff, Nat.reduceLT, List.take_succ_cons, List.take_zero, List.any_cons, List.any_nil, List.all_cons, List.all_nil, List.map_cons, List.map_nil, List.cons_append, List.nil_append, List.append_nil, List.length_cons, List.length_nil, List.replicate_succ, List.replicate_zero, List.getElem?_cons_zero, List.getElem?_cons_succ, List.getElem?_nil, List.set_cons_zero, List.set_cons_succ, List.headD_cons, List.tail_cons, List.contains_cons, List.contains_nil, Option.map_some, Option.map_none, Option.isSome_some, Bool.and_true, Bool.true_and, Bool.and_false, Bool.false_and, Bool.or_true, Bool.true_or, Bool.or_false, Bool.false_or, Bool.not_true, Bool.not_false, if_true, if_false, reduceIte, reduceCtorEq, beq_self_eq_true, Nat.reduceSub, Nat.reduceAdd, Nat.reduceBEq, Nat.reduceEqDiff, decide_true, decide_false, Bool.false_eq_true]) (by rw [List.length_map]; exact rng_len hl)) e
theorem x_loop (A0 A1 A2 A4 A5 A6 : Option O) (ts : List T3) (hts : ∀ t ∈ ts, Gd t) (hl : ts.length < 1000) (L : List D) (w9 w10 w11 : Option O) (hL : ∀ q ∈ L, ∃ i : Int, q = .int i ∧ SC i) :
    ∃ v9 v10 v11, loopD (setN 9) bodyX L (EL A0 A1 A2 A4 A5 A6 ts w9 w10 w11) = .ok (.nx, EL A0 A1 A2 A4 A5 A6 ts v9 v10 v11) := by
  obtain ⟨e', h1, v9, v10, v11, rfl⟩ := loop_nx (k := setN 9) (u := bodyX) (P := fun e => ∃ v9 v10 v11, e = EL A0 A1 A2 A4 A5 A6 ts v9 v10 v11) L _ ⟨w9, w10, w11, rfl⟩ fun q hq e he => by
    obtain ⟨i, rfl, hi⟩ := hL q hq
    obtain ⟨v9, v10, v11, rfl⟩ := he
    obtain ⟨u10, u11, e1⟩ := x_step A0 A1 A2 A4 A5 A6 ts hts hl hi v10 v11
    exact ⟨_, _, rfl, e1, _, _, _, rfl⟩
  exact ⟨v9, v10, v11, h1⟩
def bodyP : SS := (sIf (bNot (bOf (eCall S_law_kept [(.ev (eApp fIx [(.pk 7), (.pk 10)])), (.ev (eApp fIx [(.pk 3), (.pk 10)]))] [])))
  (sRet (eC (.bl false)))
  sNx)
theorem p_loop (A0 A1 A2 A4 A5 A6 : Option O) (ts : List T3) (hts : ∀ t ∈ ts, Gd t) (w9 : Option O) : ∀ (L : List D) (w10 w11 : Option O), (∀ q ∈ L, ∃ k : Nat, q = .int k ∧ k < ts.length) →
    ∃ v10, loopD (setN 10) bodyP L (EL A0 A1 A2 A4 A5 A6 ts w9 w10 w11) = .ok (.nx, EL A0 A1 A2 A4 A5 A6 ts w9 v10 w11)
  | [], w10, w11, _ => ⟨w10, rfl⟩
  | q :: L, w10, w11, hL => by
    obtain ⟨k, rfl, hk⟩ := hL q (List.mem_cons_self ..)
    obtain ⟨v10, e⟩ := p_loop A0 A1 A2 A4 A5 A6 ts hts w9 L (some (I (k : Int))) w11 fun q hq => hL q (List.mem_cons_of_mem _ hq)
    refine ⟨v10, ?_⟩
    have e1 := kept_ok (hts _ (List.getElem_mem hk))
    have e2 : bodyP (EL A0 A1 A2 A4 A5 A6 ts w9 (some (I (k : Int))) w11) = .ok (.nx, EL A0 A1 A2 A4 A5 A6 ts w9 (some (I (k : Int))) w11) := by
      unfold bodyP
      simp only [z_bind, z_bindE, z_bindS, z_ite, z_noX, z_iteX, z_get0, z_getN, z_getS, z_goN, z_goC, z_ev, z_pk, z_finN, z_finE, z_finP, z_app, z_C, z_Var, z_Fz, z_Mv, z_frz1, z_frz2, z_bOf, z_bool, z_bAnd, z_bOr, z_bNot, z_eAnd, z_eOr, z_eNot, z_eIf, z_Nx, z_Bk, z_Ct, z_Seq, z_seqN, z_seqR, z_seqB, z_seqC, z_Asg, z_Ret, z_RetN, z_Expr, z_If, z_iSeq, z_iApp, z_For, z_loopN, z_loopC, z_lkN, z_lkC, z_lkB, z_lkR, z_setN, z_setT, z_smN, z_smC, z_eFrz, z_aN, z_aE, z_aP, z_pN, z_pE, z_pP, z_call, z_callE, z_ckO, z_ckE, z_make, z_makeE, z_mkO, z_mkE, z_meth, z_finPk, z_finEv, z_prop, z_FldI, z_Raise, z_Try, z_tkO, z_tkE, z_tkI, z_hC, z_hN, z_App, z_SetIx, z_setK, z_chain, z_own, z_ownK, z_fSub, z_fMul, z_fDiv, z_fMod, z_fPow, z_fLt, z_fLe, z_fGt, z_fGe, z_fNeg, z_fAbs, z_fMin, z_fMax, z_Xis, z_Xf, z_Lc, z_lcN, z_lcC, z_lcK, z_yes, z_wN, z_wC, z_bkN, z_bkC, z_isN1, z_isN2, z_isN3, z_isN4, z_isN5, z_isN6, z_isB1, z_isB2, z_isB3, z_isB4, z_isB5, z_isB6, z_it1, z_it2, z_it3, z_len1, z_len2, z_len3, z_ix1, z_ix2, z_ix3, fAdd, strO, tupO, ownL, intO, fInt, fList, fTuple, slO, fSlF, fSlT, fSlN, fTup, fLst, flatD, eqS, fRgL1, fRgL2, rawAll, runF, startE, backO, O.fro?, putN, putD, envX, envB, xSl, Nat.reduceLeDiff, Nat.reduceLT, List.take_succ_cons, List.take_zero, List.any_cons, List.any_nil, List.all_cons, List.all_nil, List.map_cons, List.map_nil, List.cons_append, List.nil_append, List.append_nil, List.length_cons, List.length_nil, List.replicate_succ, List.replicate_zero, List.getElem?_cons_zero, List.getElem?_cons_succ, List.getElem?_nil, List.set_cons_zero, List.set_cons_succ, List.headD_cons, List.tail_cons, List.contains_cons, List.contains_nil, Option.map_some, Option.map_none, Option.isSome_some, Bool.and_true, Bool.true_and, Bool.and_false, Bool.false_and, Bool.or_true, Bool.true_or, Bool.or_false, Bool.false_or, Bool.not_true, Bool.not_false, if_true, if_false, reduceIte, reduceCtorEq, beq_self_eq_true, Nat.reduceSub, Nat.reduceAdd, Nat.reduceBEq, Nat.reduceEqDiff, decide_true, decide_false, Bool.false_eq_true, atD hk, atR hk, e1]
    simp only [z_bind, z_bindE, z_bindS, z_ite, z_noX, z_iteX, z_get0, z_getN, z_getS, z_goN, z_goC, z_ev, z_pk, z_finN, z_finE, z_finP, z_app, z_C, z_Var, z_Fz, z_Mv, z_frz1, z_frz2, z_bOf, z_bool, z_bAnd, z_bOr, z_bNot, z_eAnd, z_eOr, z_eNot, z_eIf, z_Nx, z_Bk, z_Ct, z_Seq, z_seqN, z_seqR, z_seqB, z_seqC, z_Asg, z_Ret, z_RetN, z_Expr, z_If, z_iSeq, z_iApp, z_For, z_loopN, z_loopC, z_lkN, z_lkC, z_lkB, z_lkR, z_setN, z_setT, z_smN, z_smC, z_eFrz, z_aN, z_aE, z_aP, z_pN, z_pE, z_pP, z_call, z_callE, z_ckO, z_ckE, z_make, z_makeE, z_mkO, z_mkE, z_meth, z_finPk, z_finEv, z_prop, z_FldI, z_Raise, z_Try, z_tkO, z_tkE, z_tkI, z_hC, z_hN, z_App, z_SetIx, z_setK, z_chain, z_own, z_ownK, z_fSub, z_fMul, z_fDiv, z_fMod, z_fPow, z_fLt, z_fLe, z_fGt, z_fGe, z_fNeg, z_fAbs, z_fMin, z_fMax, z_Xis, z_Xf, z_Lc, z_lcN, z_lcC, z_lcK, z_yes, z_wN, z_wC, z_bkN, z_bkC, z_isN1, z_isN2, z_isN3, z_isN4, z_isN5, z_isN6, z_isB1, z_isB2, z_isB3, z_isB4, z_isB5, z_isB6, z_it1, z_it2, z_it3, z_len1, z_len2, z_len3, z_ix1, z_ix2, z_ix3, fAdd, strO, tupO, ownL, intO, fInt, fList, fTuple, slO, fSlF, fSlT, fSlN, fTup, fLst, flatD, eqS, fRgL1, fRgL2, rawAll, runF, startE, backO, O.fro?, putN, putD, envX, envB, xSl, Nat.reduceLeDiff, Nat.reduceLT, List.take_succ_cons, List.take_zero, List.any_cons, List.any_nil, List.all_cons, List.all_nil, List.map_cons, List.map_nil, List.cons_append, List.nil_append, List.append_nil, List.length_cons, List.length_nil, List.replicate_succ, List.replicate_zero, List.getElem?_cons_zero, List.getElem?_cons_succ, List.getElem?_nil, List.set_cons_zero, List.set_cons_succ, List.headD_cons, List.tail_cons, List.contains_cons, List.contains_nil, Option.map_some, Option.map_none, Option.isSome_some, Bool.and_true, Bool.true_and, Bool.and_false, Bool.false_and, Bool.or_true, Bool.true_or, Bool.or_false, Bool.false_or, Bool.not_true, Bool.not_false, if_true, if_false, reduceIte, reduceCtorEq, beq_self_eq_true, Nat.reduceSub, Nat.reduceAdd, Nat.reduceBEq, Nat.reduceEqDiff, decide_true, decide_false, Bool.false_eq_true, e2, e]
/-! ### the rates are made -/
def mkR : ES := (eMake "Rate" S_Rate_init [(.ev (eApp fIx [(.pk 8), (.ev (eC (.int 0)))])), (.ev (eApp fIx [(.pk 8), (.ev (eC (.int 1)))])), (.ev (eApp fIx [(.pk 8), (.ev (eC (.int 2)))]))] [])
theorem mk_loop (A0 A1 A2 A3 A4 A5 A6 : Option O) : ∀ (ts : List T3) (acc : List D), (∀ t ∈ ts, Gd t) → acc.length + ts.length < 1000 →
    lcLoop (setN 8) bYes mkR [8] (ts.map tD) acc [A0, A1, A2, A3, A4, A5, A6, none, none, none, none, none, none, none, none] = .ok (acc ++ ts.map rD, [A0, A1, A2, A3, A4, A5, A6, none, none, none, none, none, none, none, none])
  | [], acc, _, _ => by
    rw [List.map_nil, List.map_nil, List.append_nil]
    rfl
  | t :: ts, acc, h, hl => by
    rw [List.length_cons] at hl
    have e := mk_loop A0 A1 A2 A3 A4 A5 A6 ts (acc ++ [rD t]) (fun q hq => h q (List.mem_cons_of_mem _ hq)) (by rw [List.length_append, List.length_singleton]; omega)
    have e1 := init_ok (h t (List.mem_cons_self ..))
    have e2 : acc.length < 100000 := by omega
    have e3 : mkR [A0, A1, A2, A3, A4, A5, A6, none, some (.fro (tD t)), none, none, none, none, none, none] = .ok (.own (.ins "Rate" ["burst", "num", "den"]) [.int t.1, .int t.2.1, .int t.2.2], [A0, A1, A2, A3, A4, A5, A6, none, some (.fro (tD t)), none, none, none, none, none, none]) := by
      unfold mkR
      simp only [z_bind, z_bindE, z_bindS, z_ite, z_noX, z_iteX, z_get0, z_getN, z_getS, z_goN, z_goC, z_ev, z_pk, z_finN, z_finE, z_finP, z_app, z_C, z_Var, z_Fz, z_Mv, z_frz1, z_frz2, z_bOf, z_bool, z_bAnd, z_bOr, z_bNot, z_eAnd, z_eOr, z_eNot, z_eIf, z_Nx, z_Bk, z_Ct, z_Seq, z_seqN, z_seqR, z_seqB, z_seqC, z_Asg, z_Ret, z_RetN, z_Expr, z_If, z_iSeq, z_iApp, z_For, z_loopN, z_loopC, z_lkN, z_lkC, z_lkB, z_lkR, z_setN, z_setT, z_smN, z_smC, z_eFrz, z_aN, z_aE, z_aP, z_pN, z_pE, z_pP, z_call, z_callE, z_ckO, z_ckE, z_make, z_makeE, z_mkO, z_mkE, z_meth, z_finPk, z_finEv, z_prop, z_FldI, z_Raise, z_Try, z_tkO, z_tkE, z_tkI, z_hC, z_hN, z_App, z_SetIx, z_setK, z_chain, z_own, z_ownK, z_fSub, z_fMul, z_fDiv, z_fMod, z_fPow, z_fLt, z_fLe, z_fGt, z_fGe, z_fNeg, z_fAbs, z_fMin, z_fMax, z_Xis, z_Xf, z_Lc, z_lcN, z_lcC, z_lcK, z_yes, z_wN, z_wC, z_bkN, z_bkC, z_isN1, z_isN2, z_isN3, z_isN4, z_isN5, z_isN6, z_isB1, z_isB2, z_isB3, z_isB4, z_isB5, z_isB6, z_it1, z_it2, z_it3, z_len1, z_len2, z_len3, z_ix1, z_ix2, z_ix3, fAdd, strO, tupO, ownL, intO, fInt, fList, fTuple, slO, fSlF, fSlT, fSlN, fTup, fLst, flatD, eqS, fRgL1, fRgL2, rawAll, runF, startE, backO, O.fro?, putN, putD, envX, envB, xSl, Nat.reduceLeDiff, Nat.reduceLT, List.take_succ_cons, List.take_zero, List.any_cons, List.any_nil, List.all_cons, List.all_nil, List.map_cons, List.map_nil, List.cons_append, List.nil_append, List.append_nil, List.length_cons, List.length_nil, List.replicate_succ, List.replicate_zero, List.getElem?_cons_zero, List.getElem?_cons_succ, List.getElem?_nil, List.set_cons_zero, List.set_cons_succ, List.headD_cons, List.tail_cons, List.contains_cons, List.contains_nil, Option.map_some, Option.map_none, Option.isSome_some, Bool.and_true, Bool.true_and, Bool.and_false, Bool.false_and, Bool.or_true, Bool.true_or, Bool.or_false, Bool.false_or, Bool.not_true, Bool.not_false, if_true, if_false, reduceIte, reduceCtorEq, beq_self_eq_true, Nat.reduceSub, Nat.reduceAdd, Nat.reduceBEq, Nat.reduceEqDiff, decide_true, decide_false, Bool.false_eq_true, at0, at1, at2, e1]
    rw [List.map_cons, List.map_cons]
    have e4 : acc ++ rD t :: ts.map rD = acc ++ [rD t] ++ ts.map rD := by rw [List.append_assoc]; rfl
    rw [e4, ← e]
    simp only [z_bind, z_bindE, z_bindS, z_ite, z_noX, z_iteX, z_get0, z_getN, z_getS, z_goN, z_goC, z_ev, z_pk, z_finN, z_finE, z_finP, z_app, z_C, z_Var, z_Fz, z_Mv, z_frz1, z_frz2, z_bOf, z_bool, z_bAnd, z_bOr, z_bNot, z_eAnd, z_eOr, z_eNot, z_eIf, z_Nx, z_Bk, z_Ct, z_Seq, z_seqN, z_seqR, z_seqB, z_seqC, z_Asg, z_Ret, z_RetN, z_Expr, z_If, z_iSeq, z_iApp, z_For, z_loopN, z_loopC, z_lkN, z_lkC, z_lkB, z_lkR, z_setN, z_setT, z_smN, z_smC, z_eFrz, z_aN, z_aE, z_aP, z_pN, z_pE, z_pP, z_call, z_callE, z_ckO, z_ckE, z_make, z_makeE, z_mkO, z_mkE, z_meth, z_finPk, z_finEv, z_prop, z_FldI, z_Raise, z_Try, z_tkO, z_tkE, z_tkI, z_hC, z_hN, z_App, z_SetIx, z_setK, z_chain, z_own, z_ownK, z_fSub, z_fMul, z_fDiv, z_fMod, z_fPow, z_fLt, z_fLe, z_fGt, z_fGe, z_fNeg, z_fAbs, z_fMin, z_fMax, z_Xis, z_Xf, z_Lc, z_lcN, z_lcC, z_lcK, z_yes, z_wN, z_wC, z_bkN, z_bkC, z_isN1, z_isN2, z_isN3, z_isN4, z_isN5, z_isN6, z_isB1, z_isB2, z_isB3, z_isB4, z_isB5, z_isB6, z_it1, z_it2, z_it3, z_len1, z_len2, z_len3, z_ix1, z_ix2, z_ix3, fAdd, strO, tupO, ownL, intO, fInt, fList, fTuple, slO, fSlF, fSlT, fSlN, fTup, fLst, flatD, eqS, fRgL1, fRgL2, rawAll, runF, startE, backO, O.fro?, putN, putD, envX, envB, xSl, Nat.reduceLeDiff, Nat.reduceLT, List.take_succ_cons, List.take_zero, List.any_cons, List.any_nil, List.all_cons, List.all_nil, List.map_cons, List.map_nil, List.cons_append, List.nil_append, List.append_nil, List.length_cons, List.length_nil, List.replicate_succ, List.replicate_zero, List.getElem?_cons_zero, List.getElem?_cons_succ, List.getElem?_nil, List.set_cons_zero, List.set_cons_succ, List.headD_cons, List.tail_cons, List.contains_cons, List.contains_nil, Option.map_some, Option.map_none, Option.isSome_some, Bool.and_true, Bool.true_and, Bool.and_false, Bool.false_and, Bool.or_true, Bool.true_or, Bool.or_false, Bool.false_or, Bool.not_true, Bool.not_false, if_true, if_false, reduceIte, reduceCtorEq, beq_self_eq_true, Nat.reduceSub, Nat.reduceAdd, Nat.reduceBEq, Nat.reduceEqDiff, decide_true, decide_false, Bool.false_eq_true, e2, e3]
end G_lampcrossings_k36_rate_credits
end

section
set_option Elab.async false
set_option linter.all false
set_option maxRecDepth 100000
set_option maxHeartbeats 4000000
namespace G_lampcrossings_k36_rate_credits
open PySem PySem.Spec PyProof.Rows L2 DL
theorem pyT (t : T3) : pyO (.fro (tD t)) = some (.tuple [.int t.1, .int t.2.1, .int t.2.2]) := by
  have h : SeqAt.shaped (.tuple [.int t.1, .int t.2.1, .int t.2.2]) = true := rfl
  simp only [pyO, O.look?, toP, toPs, Option.map_some, h, if_true]
theorem fEqT (t u : T3) : fEq false [.fro (tD t), .fro (tD u)] = some (.fro (.bl (decide (t.1 = u.1 ∧ t.2.1 = u.2.1 ∧ t.2.2 = u.2.2)))) := by
  have e : PyData.eqv (.tuple [.int t.1, .int t.2.1, .int t.2.2]) (.tuple [.int u.1, .int u.2.1, .int u.2.2]) = decide (t.1 = u.1 ∧ t.2.1 = u.2.1 ∧ t.2.2 = u.2.2) := by
    simp only [PyData.eqv, PyData.eqvAll, Bool.and_true]
    rw [Bool.eq_iff_iff]
    simp only [Bool.and_eq_true, beq_iff_eq, decide_eq_true_eq]
  simp only [fEq, pyT, e, Bool.false_eq_true, if_false]
theorem rng_l (a : Int) (n : Nat) : (rngD a n).length = n := by simp [rngD]
def tailL : SS := (sSeq (sAsg 7 (eLc (iSeq (eFz 3)) (setN 8) bYes (eMake "Rate" S_Rate_init [(.ev (eApp fIx [(.pk 8), (.ev (eC (.int 0)))])), (.ev (eApp fIx [(.pk 8), (.ev (eC (.int 1)))])), (.ev (eApp fIx [(.pk 8), (.ev (eC (.int 2)))]))] []) [8]))
  (sSeq (sFor (iSeq (eApp fAdd [(.ev (eApp fRgL2 [(.ev (eApp fSub [(.ev (eC (.int 0))), (.ev (eC (.int 2)))])), (.ev (eC (.int 26)))])), (.ev (eApp fLst [(.ev (eFz 5))]))])) (setN 9)
  (sFor (iApp kRange1 [(.ev (eApp fLen [(.pk 7)]))]) (setN 10)
  (sFor (iSeq (eApp fTup [(.ev (eC (.int 0))), (.ev (eC (.int 1)))])) (setN 11)
  (sIf (bNot (bOf (eCall (S_law_same 4) [(.ev (eFrz (eCall S_law_asked [(.ev (eApp fIx [(.pk 7), (.pk 10)])), (.pk 9), (.pk 11)] []))), (.ev (eFrz (eCall S_law_due [(.ev (eApp fIx [(.pk 3), (.pk 10)])), (.pk 9), (.pk 11)] [])))] [])))
  (sRet (eC (.bl false)))
  sNx))))
  (sSeq (sFor (iApp kRange1 [(.ev (eApp fLen [(.pk 7)]))]) (setN 10)
  (sIf (bNot (bOf (eCall S_law_kept [(.ev (eApp fIx [(.pk 7), (.pk 10)])), (.ev (eApp fIx [(.pk 3), (.pk 10)]))] [])))
  (sRet (eC (.bl false)))
  sNx))
  (sSeq (sAsg 12 (eMake "Rate" S_Rate_init [(.ev (eApp fIx [(.ev (eApp fIx [(.pk 3), (.ev (eC (.int 0)))])), (.ev (eC (.int 0)))])), (.ev (eApp fIx [(.ev (eApp fIx [(.pk 3), (.ev (eC (.int 0)))])), (.ev (eC (.int 1)))])), (.ev (eApp fIx [(.ev (eApp fIx [(.pk 3), (.ev (eC (.int 0)))])), (.ev (eC (.int 2)))]))] []))
  (sSeq (sAsg 13 (eMake "Rate" S_Rate_init [(.ev (eApp fIx [(.pk 4), (.ev (eC (.int 0)))])), (.ev (eApp fIx [(.pk 4), (.ev (eC (.int 1)))])), (.ev (eApp fIx [(.pk 4), (.ev (eC (.int 2)))]))] []))
  (sSeq (sIf (bOr (bOf (eApp (fIsB true) [(.ev (eOwn "Rate" S_Rate_eq (.ev (eApp fIx [(.pk 7), (.ev (eC (.int 0)))])) (.pk 12))), (.ev (eC (.bl true)))])) (bOf (eApp (fIsB true) [(.ev (eOwn "Rate" S_Rate_eq (.pk 13) (.pk 12))), (.ev (eC (.bl false)))])))
  (sRet (eC (.bl false)))
  sNx)
  (sSeq (sAsg 14 (eApp fSub [(.ev (eApp fLen [(.pk 7)])), (.ev (eC (.int 1)))]))
  (sRet (eCall (S_law_same 4) [(.ev (eOwn "Rate" S_Rate_eq (.ev (eApp fIx [(.pk 7), (.ev (eC (.int 0)))])) (.ev (eApp fIx [(.pk 7), (.pk 14)])))), (.ev (eApp (fEq false) [(.ev (eApp fIx [(.pk 3), (.ev (eC (.int 0)))])), (.ev (eApp fIx [(.pk 3), (.pk 14)]))]))] [])))))))))
theorem tail_ok (A0 A1 A2 A6 : O) (ts : List T3) (hts : ∀ t ∈ ts, Gd t) (hl : ts.length < 900) (r b : T3) (h0 : ts[0]? = some r) (hb : Gd b) (hne : ¬ (b.1 = r.1 ∧ b.2.1 = r.2.1 ∧ b.2.2 = r.2.2)) (far : Int) (hf : SC far) :
    finF [0] [A0] (tailL [some A0, some A1, some A2, some (.own .lst (ts.map tD)), some (.fro (tD b)), some (I far), some A6, none, none, none, none, none, none, none, none]) = .ok (.fro (.bl true)) [A0] := by
  have hpos : 0 < ts.length := by
    cases ts with
    | nil => cases h0
    | cons _ _ => simp
  have hr : Gd r := hts r (List.mem_of_getElem? h0)
  have hD0 : atI (ts.map tD) 0 = some (tD r) := by
    rw [show (0 : Int) = ((0 : Nat) : Int) from rfl, at_nat, List.getElem?_map, h0]
    rfl
  have hR0 : atI (ts.map rD) 0 = some (rD r) := by
    rw [show (0 : Int) = ((0 : Nat) : Int) from rfl, at_nat, List.getElem?_map, h0]
    rfl
  have hm : ts.length - 1 < ts.length := by omega
  have hcast : (ts.length : Int) - 1 = ((ts.length - 1 : Nat) : Int) := by omega
  have mk := mk_loop (some A0) (some A1) (some A2) (some (.fro (.node .lst (ts.map tD)))) (some (.fro (tD b))) (some (I far)) (some A6) ts [] hts (by rw [List.length_nil]; omega)
  rw [List.nil_append] at mk
  have s8 : sAsg 7 (eLc (iSeq (eFz 3)) (setN 8) bYes mkR [8]) [some A0, some A1, some A2, some (.own .lst (ts.map tD)), some (.fro (tD b)), some (I far), some A6, none, none, none, none, none, none, none, none] =
      .ok (.nx, EL (some A0) (some A1) (some A2) (some (.fro (tD b))) (some (I far)) (some A6) ts none none none) := by
    simp only [z_bind, z_bindE, z_bindS, z_ite, z_noX, z_iteX, z_get0, z_getN, z_getS, z_goN, z_goC, z_ev, z_pk, z_finN, z_finE, z_finP, z_app, z_C, z_Var, z_Fz, z_Mv, z_frz1, z_frz2, z_bOf, z_bool, z_bAnd, z_bOr, z_bNot, z_eAnd, z_eOr, z_eNot, z_eIf, z_Nx, z_Bk, z_Ct, z_Seq, z_seqN, z_seqR, z_seqB, z_seqC, z_Asg, z_Ret, z_RetN, z_Expr, z_If, z_iSeq, z_iApp, z_For, z_loopN, z_loopC, z_lkN, z_lkC, z_lkB, z_lkR, z_setN, z_setT, z_smN, z_smC, z_eFrz, z_aN, z_aE, z_aP, z_pN, z_pE, z_pP, z_call, z_callE, z_ckO, z_ckE, z_make, z_makeE, z_mkO, z_mkE, z_meth, z_finPk, z_finEv, z_prop, z_FldI, z_Raise, z_Try, z_tkO, z_tkE, z_tkI, z_hC, z_hN, z_App, z_SetIx, z_setK, z_chain, z_own, z_ownK, z_fSub, z_fMul, z_fDiv, z_fMod, z_fPow, z_fLt, z_fLe, z_fGt, z_fGe, z_fNeg, z_fAbs, z_fMin, z_fMax, z_Xis, z_Xf, z_Lc, z_lcN, z_lcC, z_lcK, z_yes, z_wN, z_wC, z_bkN, z_bkC, z_isN1, z_isN2, z_isN3, z_isN4, z_isN5, z_isN6, z_isB1, z_isB2, z_isB3, z_isB4, z_isB5, z_isB6, z_it1, z_it2, z_it3, z_len1, z_len2, z_len3, z_ix1, z_ix2, z_ix3, fAdd, strO, tupO, ownL, intO, fInt, fList, fTuple, slO, fSlF, fSlT, fSlN, fTup, fLst, flatD, eqS, fRgL1, fRgL2, rawAll, runF, startE, backO, O.fro?, putN, putD, envX, envB, xSl, Nat.reduceLeDiff, Nat.reduceLT, List.take_succ_cons, List.take_zero, List.any_cons, List.any_nil, List.all_cons, List.all_nil, List.map_cons, List.map_nil, List.cons_append, List.nil_append, List.append_nil, List.length_cons, List.length_nil, List.replicate_succ, List.replicate_zero, List.getElem?_cons_zero, List.getElem?_cons_succ, List.getElem?_nil, List.set_cons_zero, List.set_cons_succ, List.headD_cons, List.tail_cons, List.contains_cons, List.contains_nil, Option.map_some, Option.map_none, Option.isSome_some, Bool.and_true, Bool.true_and, Bool.and_false, Bool.false_and, Bool.or_true, Bool.true_or, Bool.or_false, Bool.false_or, Bool.not_true, Bool.not_false, if_true, if_false, reduceIte, reduceCtorEq, beq_self_eq_true, Nat.reduceSub, Nat.reduceAdd, Nat.reduceBEq, Nat.reduceEqDiff, decide_true, decide_false, Bool.false_eq_true, mk]
  have rgok : rgOk (0 - 2) 26 = true := by decide
  have hlen : (rngD (0 - 2 : Int) (26 - (0 - 2) : Int).toNat).length + 1 ≤ 16777216 := by
    rw [rng_l]
    decide
  have hlen2 : (rngD (0 - 2 : Int) (26 - (0 - 2) : Int).toNat).length ≤ 16777215 := by
    rw [rng_l]
    decide
  have s9 : (iSeq (eApp fAdd [(.ev (eApp fRgL2 [(.ev (eApp fSub [(.ev (eC (.int 0))), (.ev (eC (.int 2)))])), (.ev (eC (.int 26)))])), (.ev (eApp fLst [(.ev (eFz 5))]))])) (EL (some A0) (some A1) (some A2) (some (.fro (tD b))) (some (I far)) (some A6) ts none none none) =
      .ok (rngD (0 - 2 : Int) (26 - (0 - 2) : Int).toNat ++ [.int far], EL (some A0) (some A1) (some A2) (some (.fro (tD b))) (some (I far)) (some A6) ts none none none) := by
    simp only [z_bind, z_bindE, z_bindS, z_ite, z_noX, z_iteX, z_get0, z_getN, z_getS, z_goN, z_goC, z_ev, z_pk, z_finN, z_finE, z_finP, z_app, z_C, z_Var, z_Fz, z_Mv, z_frz1, z_frz2, z_bOf, z_bool, z_bAnd, z_bOr, z_bNot, z_eAnd, z_eOr, z_eNot, z_eIf, z_Nx, z_Bk, z_Ct, z_Seq, z_seqN, z_seqR, z_seqB, z_seqC, z_Asg, z_Ret, z_RetN, z_Expr, z_If, z_iSeq, z_iApp, z_For, z_loopN, z_loopC, z_lkN, z_lkC, z_lkB, z_lkR, z_setN, z_setT, z_smN, z_smC, z_eFrz, z_aN, z_aE, z_aP, z_pN, z_pE, z_pP, z_call, z_callE, z_ckO, z_ckE, z_make, z_makeE, z_mkO, z_mkE, z_meth, z_finPk, z_finEv, z_prop, z_FldI, z_Raise, z_Try, z_tkO, z_tkE, z_tkI, z_hC, z_hN, z_App, z_SetIx, z_setK, z_chain, z_own, z_ownK, z_fSub, z_fMul, z_fDiv, z_fMod, z_fPow, z_fLt, z_fLe, z_fGt, z_fGe, z_fNeg, z_fAbs, z_fMin, z_fMax, z_Xis, z_Xf, z_Lc, z_lcN, z_lcC, z_lcK, z_yes, z_wN, z_wC, z_bkN, z_bkC, z_isN1, z_isN2, z_isN3, z_isN4, z_isN5, z_isN6, z_isB1, z_isB2, z_isB3, z_isB4, z_isB5, z_isB6, z_it1, z_it2, z_it3, z_len1, z_len2, z_len3, z_ix1, z_ix2, z_ix3, fAdd, strO, tupO, ownL, intO, fInt, fList, fTuple, slO, fSlF, fSlT, fSlN, fTup, fLst, flatD, eqS, fRgL1, fRgL2, rawAll, runF, startE, backO, O.fro?, putN, putD, envX, envB, xSl, Nat.reduceLeDiff, Nat.reduceLT, List.take_succ_cons, List.take_zero, List.any_cons, List.any_nil, List.all_cons, List.all_nil, List.map_cons, List.map_nil, List.cons_append, List.nil_append, List.append_nil, List.length_cons, List.length_nil, List.replicate_succ, List.replicate_zero, List.getElem?_cons_zero, List.getElem?_cons_succ, List.getElem?_nil, List.set_cons_zero, List.set_cons_succ, List.headD_cons, List.tail_cons, List.contains_cons, List.contains_nil, Option.map_some, Option.map_none, Option.isSome_some, Bool.and_true, Bool.true_and, Bool.and_false, Bool.false_and, Bool.or_true, Bool.true_or, Bool.or_false, Bool.false_or, Bool.not_true, Bool.not_false, if_true, if_false, reduceIte, reduceCtorEq, beq_self_eq_true, Nat.reduceSub, Nat.reduceAdd, Nat.reduceBEq, Nat.reduceEqDiff, decide_true, decide_false, Bool.false_eq_true, rgok, hlen2]
  obtain ⟨v9, v10, v11, e9⟩ := x_loop (some A0) (some A1) (some A2) (some (.fro (tD b))) (some (I far)) (some A6) ts hts (by omega) (rngD (0 - 2 : Int) (26 - (0 - 2) : Int).toNat ++ [.int far]) none none none fun q hq => by
    rcases List.mem_append.mp hq with hq | hq
    · unfold rngD at hq
      obtain ⟨k, hk, rfl⟩ := List.mem_map.mp hq
      have hk := List.mem_range.mp hk
      have hk2 : k < 28 := hk
      exact ⟨_, rfl, by omega, by omega⟩
    · rw [List.mem_singleton.mp hq]
      exact ⟨far, rfl, hf⟩
  obtain ⟨u10, e10⟩ := p_loop (some A0) (some A1) (some A2) (some (.fro (tD b))) (some (I far)) (some A6) ts hts v9 (rngD 0 ts.length) v10 v11 rng_mem
  have i1 := init_ok hr
  have i2 := init_ok hb
  have q1 := eq_ok (.f (x := r.1) (y := r.2.1) (z := r.2.2)) (.o (x := r.1) (y := r.2.1) (z := r.2.2))
  have q2 := eq_ok (.o (x := b.1) (y := b.2.1) (z := b.2.2)) (.o (x := r.1) (y := r.2.1) (z := r.2.2))
  rw [decide_eq_false hne] at q2
  have q3 := eq_ok (.f (x := r.1) (y := r.2.1) (z := r.2.2)) (.f (x := ts[ts.length - 1].1) (y := ts[ts.length - 1].2.1) (z := ts[ts.length - 1].2.2))
  have q4 := same_sc 3 (.bl (decide (r.1 = ts[ts.length - 1].1 ∧ r.2.1 = ts[ts.length - 1].2.1 ∧ r.2.2 = ts[ts.length - 1].2.2))) rfl
  have o1 := isRO (.o (x := r.1) (y := r.2.1) (z := r.2.2))
  have o2 := isRO (.o (x := b.1) (y := b.2.1) (z := b.2.2))
  unfold tailL
  refine fin_nx s8 ?_
  refine fin_nx (for_nx s9 e9) ?_
  refine fin_nx (for_nx (iapp_1 (y := some (I ((ts.map rD).length : Int))) (o := I ((ts.map rD).length : Int)) (by simp only [z_bind, z_bindE, z_bindS, z_ite, z_noX, z_iteX, z_get0, z_getN, z_getS, z_goN, z_goC, z_ev, z_pk, z_finN, z_finE, z_finP, z_app, z_C, z_Var, z_Fz, z_Mv, z_frz1, z_frz2, z_bOf, z_bool, z_bAnd, z_bOr, z_bNot, z_eAnd, z_eOr, z_eNot, z_eIf, z_Nx, z_Bk, z_Ct, z_Seq, z_seqN, z_seqR, z_seqB, z_seqC, z_Asg, z_Ret, z_RetN, z_Expr, z_If, z_iSeq, z_iApp, z_For, z_loopN, z_loopC, z_lkN, z_lkC, z_lkB, z_lkR, z_setN, z_setT, z_smN, z_smC, z_eFrz, z_aN, z_aE, z_aP, z_pN, z_pE, z_pP, z_call, z_callE, z_ckO, z_ckE, z_make, z_makeE, z_mkO, z_mkE, z_meth, z_finPk, z_finEv, z_prop, z_FldI, z_Raise, z_Try, z_tkO, z_tkE, z_tkI, z_hC, z_hN, z_App, z_SetIx, z_setK, z_chain, z_own, z_ownK, z_fSub, z_fMul, z_fDiv, z_fMod, z_fPow, z_fLt, z_fLe, z_fGt, z_fGe, z_fNeg, z_fAbs, z_fMin, z_fMax, z_Xis, z_Xf, z_Lc, z_lcN, z_lcC, z_lcK, z_yes, z_wN, z_wC, z_bkN, z_bkC, z_isN1, z_isN2, z_isN3, z_isN4, z_isN5, z_isN6, z_isB1, z_isB2, z_isB3, z_isB4, z_isB5, z_isB6, z_it1, z_it2, z_it3, z_len1, z_len2, z_len3, z_ix1, z_ix2, z_ix3, fAdd, strO, tupO, ownL, intO, fInt, fList, fTuple, slO, fSlF, fSlT, fSlN, fTup, fLst, flatD, eqS, fRgL1, fRgL2, rawAll, runF, startE, backO, O.fro?, putN, putD, envX, envB, xSl, Nat.reduceLeDiff, Nat.reduceLT, List.take_succ_cons, List.take_zero, List.any_cons, List.any_nil, List.all_cons, List.all_nil, List.map_cons, List.map_nil, List.cons_append, List.nil_append, List.append_nil, List.length_cons, List.length_nil, List.replicate_succ, List.replicate_zero, List.getElem?_cons_zero, List.getElem?_cons_succ, List.getElem?_nil, List.set_cons_zero, List.set_cons_succ, List.headD_cons, List.tail_cons, List.contains_cons, List.contains_nil, Option.map_some, Option.map_none, Option.isSome_some, Bool.and_true, Bool.true_and, Bool.and_false, Bool.false_and, Bool.or_true, Bool.true_or, Bool.or_false, Bool.false_or, Bool.not_true, Bool.not_false, if_true, if_false, reduceIte, reduceCtorEq, beq_self_eq_true, Nat.reduceSub, Nat.reduceAdd, Nat.reduceBEq, Nat.reduceEqDiff, decide_true, decide_false, Bool.false_eq_true]) (by simp only [z_bind, z_bindE, z_bindS, z_ite, z_noX, z_iteX, z_get0, z_getN, z_getS, z_goN, z_goC, z_ev, z_pk, z_finN, z_finE, z_finP, z_app, z_C, z_Var, z_Fz, z_Mv, z_frz1, z_frz2, z_bOf, z_bool, z_bAnd, z_bOr, z_bNot, z_eAnd, z_eOr, z_eNot, z_eIf, z_Nx, z_Bk, z_Ct, z_Seq, z_seqN, z_seqR, z_seqB, z_seqC, z_Asg, z_Ret, z_RetN, z_Expr, z_If, z_iSeq, z_iApp, z_For, z_loopN, z_loopC, z_lkN, z_lkC, z_lkB, z_lkR, z_setN, z_setT, z_smN, z_smC, z_eFrz, z_aN, z_aE, z_aP, z_pN, z_pE, z_pP, z_call, z_callE, z_ckO, z_ckE, z_make, z_makeE, z_mkO, z_mkE, z_meth, z_finPk, z_finEv, z_prop, z_FldI, z_Raise, z_Try, z_tkO, z_tkE, z_tkI, z_hC, z_hN, z_App, z_SetIx, z_setK, z_chain, z_own, z_ownK, z_fSub, z_fMul, z_fDiv, z_fMod, z_fPow, z_fLt, z_fLe, z_fGt, z_fGe, z_fNeg, z_fAbs, z_fMin, z_fMax, z_Xis, z_Xf, z_Lc, z_lcN, z_lcC, z_lcK, z_yes, z_wN, z_wC, z_bkN, z_bkC, z_isN1, z_isN2, z_isN3, z_isN4, z_isN5, z_isN6, z_isB1, z_isB2, z_isB3, z_isB4, z_isB5, z_isB6, z_it1, z_it2, z_it3, z_len1, z_len2, z_len3, z_ix1, z_ix2, z_ix3, fAdd, strO, tupO, ownL, intO, fInt, fList, fTuple, slO, fSlF, fSlT, fSlN, fTup, fLst, flatD, eqS, fRgL1, fRgL2, rawAll, runF, startE, backO, O.fro?, putN, putD, envX, envB, xSl, Nat.reduceLeDiff, Nat.reduceLT, List.take_succ_cons, List.take_zero, List.any_cons, List.any_nil, List.all_cons, List.all_nil, List.map_cons, List.map_nil, List.cons_append, List.nil_append, List.append_nil, List.length_cons, List.length_nil, List.replicate_succ, List.replicate_zero, List.getElem?_cons_zero, List.getElem?_cons_succ, List.getElem?_nil, List.set_cons_zero, List.set_cons_succ, List.headD_cons, List.tail_cons, List.contains_cons, List.contains_nil, Option.map_some, Option.map_none, Option.isSome_some, Bool.and_true, Bool.true_and, Bool.and_false, Bool.false_and, Bool.or_true, Bool.true_or, Bool.or_false, Bool.false_or, Bool.not_true, Bool.not_false, if_true, if_false, reduceIte, reduceCtorEq, beq_self_eq_true, Nat.reduceSub, Nat.reduceAdd, Nat.reduceBEq, Nat.reduceEqDiff, decide_true, decide_false, Bool.false_eq_true]) (by rw [List.length_map]; exact rng_len (by omega))) e10) ?_
  refine fin_nx (e' := [some A0, some A1, some A2, some (.fro (.node .lst (ts.map tD))), some (.fro (tD b)), some (I far), some A6, some (.own .lst (ts.map rD)), none, v9, u10, v11, some (.own (.ins "Rate" ["burst", "num", "den"]) [.int r.1, .int r.2.1, .int r.2.2]), none, none]) (by simp only [z_bind, z_bindE, z_bindS, z_ite, z_noX, z_iteX, z_get0, z_getN, z_getS, z_goN, z_goC, z_ev, z_pk, z_finN, z_finE, z_finP, z_app, z_C, z_Var, z_Fz, z_Mv, z_frz1, z_frz2, z_bOf, z_bool, z_bAnd, z_bOr, z_bNot, z_eAnd, z_eOr, z_eNot, z_eIf, z_Nx, z_Bk, z_Ct, z_Seq, z_seqN, z_seqR, z_seqB, z_seqC, z_Asg, z_Ret, z_RetN, z_Expr, z_If, z_iSeq, z_iApp, z_For, z_loopN, z_loopC, z_lkN, z_lkC, z_lkB, z_lkR, z_setN, z_setT, z_smN, z_smC, z_eFrz, z_aN, z_aE, z_aP, z_pN, z_pE, z_pP, z_call, z_callE, z_ckO, z_ckE, z_make, z_makeE, z_mkO, z_mkE, z_meth, z_finPk, z_finEv, z_prop, z_FldI, z_Raise, z_Try, z_tkO, z_tkE, z_tkI, z_hC, z_hN, z_App, z_SetIx, z_setK, z_chain, z_own, z_ownK, z_fSub, z_fMul, z_fDiv, z_fMod, z_fPow, z_fLt, z_fLe, z_fGt, z_fGe, z_fNeg, z_fAbs, z_fMin, z_fMax, z_Xis, z_Xf, z_Lc, z_lcN, z_lcC, z_lcK, z_yes, z_wN, z_wC, z_bkN, z_bkC, z_isN1, z_isN2, z_isN3, z_isN4, z_isN5, z_isN6, z_isB1, z_isB2, z_isB3, z_isB4, z_isB5, z_isB6, z_it1, z_it2, z_it3, z_len1, z_len2, z_len3, z_ix1, z_ix2, z_ix3, fAdd, strO, tupO, ownL, intO, fInt, fList, fTuple, slO, fSlF, fSlT, fSlN, fTup, fLst, flatD, eqS, fRgL1, fRgL2, rawAll, runF, startE, backO, O.fro?, putN, putD, envX, envB, xSl, Nat.reduceLeDiff, Nat.reduceLT, List.take_succ_cons, List.take_zero, List.any_cons, List.any_nil, List.all_cons, List.all_nil, List.map_cons, List.map_nil, List.cons_append, List.nil_append, List.append_nil, List.length_cons, List.length_nil, List.replicate_succ, List.replicate_zero, List.getElem?_cons_zero, List.getElem?_cons_succ, List.getElem?_nil, List.set_cons_zero, List.set_cons_succ, List.headD_cons, List.tail_cons, List.contains_cons, List.contains_nil, Option.map_some, Option.map_none, Option.isSome_some, Bool.and_true, Bool.true_and, Bool.and_false, Bool.false_and, Bool.or_true, Bool.true_or, Bool.or_false, Bool.false_or, Bool.not_true, Bool.not_false, if_true, if_false, reduceIte, reduceCtorEq, beq_self_eq_true, Nat.reduceSub, Nat.reduceAdd, Nat.reduceBEq, Nat.reduceEqDiff, decide_true, decide_false, Bool.false_eq_true, hD0, at0, at1, at2, i1]) ?_
  refine fin_nx (e' := [some A0, some A1, some A2, some (.fro (.node .lst (ts.map tD))), some (.fro (tD b)), some (I far), some A6, some (.own .lst (ts.map rD)), none, v9, u10, v11, some (.own (.ins "Rate" ["burst", "num", "den"]) [.int r.1, .int r.2.1, .int r.2.2]), some (.own (.ins "Rate" ["burst", "num", "den"]) [.int b.1, .int b.2.1, .int b.2.2]), none]) (by simp only [z_bind, z_bindE, z_bindS, z_ite, z_noX, z_iteX, z_get0, z_getN, z_getS, z_goN, z_goC, z_ev, z_pk, z_finN, z_finE, z_finP, z_app, z_C, z_Var, z_Fz, z_Mv, z_frz1, z_frz2, z_bOf, z_bool, z_bAnd, z_bOr, z_bNot, z_eAnd, z_eOr, z_eNot, z_eIf, z_Nx, z_Bk, z_Ct, z_Seq, z_seqN, z_seqR, z_seqB, z_seqC, z_Asg, z_Ret, z_RetN, z_Expr, z_If, z_iSeq, z_iApp, z_For, z_loopN, z_loopC, z_lkN, z_lkC, z_lkB, z_lkR, z_setN, z_setT, z_smN, z_smC, z_eFrz, z_aN, z_aE, z_aP, z_pN, z_pE, z_pP, z_call, z_callE, z_ckO, z_ckE, z_make, z_makeE, z_mkO, z_mkE, z_meth, z_finPk, z_finEv, z_prop, z_FldI, z_Raise, z_Try, z_tkO, z_tkE, z_tkI, z_hC, z_hN, z_App, z_SetIx, z_setK, z_chain, z_own, z_ownK, z_fSub, z_fMul, z_fDiv, z_fMod, z_fPow, z_fLt, z_fLe, z_fGt, z_fGe, z_fNeg, z_fAbs, z_fMin, z_fMax, z_Xis, z_Xf, z_Lc, z_lcN, z_lcC, z_lcK, z_yes, z_wN, z_wC, z_bkN, z_bkC, z_isN1, z_isN2, z_isN3, z_isN4, z_isN5, z_isN6, z_isB1, z_isB2, z_isB3, z_isB4, z_isB5, z_isB6, z_it1, z_it2, z_it3, z_len1, z_len2, z_len3, z_ix1, z_ix2, z_ix3, fAdd, strO, tupO, ownL, intO, fInt, fList, fTuple, slO, fSlF, fSlT, fSlN, fTup, fLst, flatD, eqS, fRgL1, fRgL2, rawAll, runF, startE, backO, O.fro?, putN, putD, envX, envB, xSl, Nat.reduceLeDiff, Nat.reduceLT, List.take_succ_cons, List.take_zero, List.any_cons, List.any_nil, List.all_cons, List.all_nil, List.map_cons, List.map_nil, List.cons_append, List.nil_append, List.append_nil, List.length_cons, List.length_nil, List.replicate_succ, List.replicate_zero, List.getElem?_cons_zero, List.getElem?_cons_succ, List.getElem?_nil, List.set_cons_zero, List.set_cons_succ, List.headD_cons, List.tail_cons, List.contains_cons, List.contains_nil, Option.map_some, Option.map_none, Option.isSome_some, Bool.and_true, Bool.true_and, Bool.and_false, Bool.false_and, Bool.or_true, Bool.true_or, Bool.or_false, Bool.false_or, Bool.not_true, Bool.not_false, if_true, if_false, reduceIte, reduceCtorEq, beq_self_eq_true, Nat.reduceSub, Nat.reduceAdd, Nat.reduceBEq, Nat.reduceEqDiff, decide_true, decide_false, Bool.false_eq_true, at0, at1, at2, i2]) ?_
  refine fin_nx (e' := [some A0, some A1, some A2, some (.fro (.node .lst (ts.map tD))), some (.fro (tD b)), some (I far), some A6, some (.own .lst (ts.map rD)), none, v9, u10, v11, some (.own (.ins "Rate" ["burst", "num", "den"]) [.int r.1, .int r.2.1, .int r.2.2]), some (.own (.ins "Rate" ["burst", "num", "den"]) [.int b.1, .int b.2.1, .int b.2.2]), none]) (by simp only [z_bind, z_bindE, z_bindS, z_ite, z_noX, z_iteX, z_get0, z_getN, z_getS, z_goN, z_goC, z_ev, z_pk, z_finN, z_finE, z_finP, z_app, z_C, z_Var, z_Fz, z_Mv, z_frz1, z_frz2, z_bOf, z_bool, z_bAnd, z_bOr, z_bNot, z_eAnd, z_eOr, z_eNot, z_eIf, z_Nx, z_Bk, z_Ct, z_Seq, z_seqN, z_seqR, z_seqB, z_seqC, z_Asg, z_Ret, z_RetN, z_Expr, z_If, z_iSeq, z_iApp, z_For, z_loopN, z_loopC, z_lkN, z_lkC, z_lkB, z_lkR, z_setN, z_setT, z_smN, z_smC, z_eFrz, z_aN, z_aE, z_aP, z_pN, z_pE, z_pP, z_call, z_callE, z_ckO, z_ckE, z_make, z_makeE, z_mkO, z_mkE, z_meth, z_finPk, z_finEv, z_prop, z_FldI, z_Raise, z_Try, z_tkO, z_tkE, z_tkI, z_hC, z_hN, z_App, z_SetIx, z_setK, z_chain, z_own, z_ownK, z_fSub, z_fMul, z_fDiv, z_fMod, z_fPow, z_fLt, z_fLe, z_fGt, z_fGe, z_fNeg, z_fAbs, z_fMin, z_fMax, z_Xis, z_Xf, z_Lc, z_lcN, z_lcC, z_lcK, z_yes, z_wN, z_wC, z_bkN, z_bkC, z_isN1, z_isN2, z_isN3, z_isN4, z_isN5, z_isN6, z_isB1, z_isB2, z_isB3, z_isB4, z_isB5, z_isB6, z_it1, z_it2, z_it3, z_len1, z_len2, z_len3, z_ix1, z_ix2, z_ix3, fAdd, strO, tupO, ownL, intO, fInt, fList, fTuple, slO, fSlF, fSlT, fSlN, fTup, fLst, flatD, eqS, fRgL1, fRgL2, rawAll, runF, startE, backO, O.fro?, putN, putD, envX, envB, xSl, Nat.reduceLeDiff, Nat.reduceLT, List.take_succ_cons, List.take_zero, List.any_cons, List.any_nil, List.all_cons, List.all_nil, List.map_cons, List.map_nil, List.cons_append, List.nil_append, List.append_nil, List.length_cons, List.length_nil, List.replicate_succ, List.replicate_zero, List.getElem?_cons_zero, List.getElem?_cons_succ, List.getElem?_nil, List.set_cons_zero, List.set_cons_succ, List.headD_cons, List.tail_cons, List.contains_cons, List.contains_nil, Option.map_some, Option.map_none, Option.isSome_some, Bool.and_true, Bool.true_and, Bool.and_false, Bool.false_and, Bool.or_true, Bool.true_or, Bool.or_false, Bool.false_or, Bool.not_true, Bool.not_false, if_true, if_false, reduceIte, reduceCtorEq, beq_self_eq_true, Nat.reduceSub, Nat.reduceAdd, Nat.reduceBEq, Nat.reduceEqDiff, decide_true, decide_false, Bool.false_eq_true, hR0, q1, q2, o1, o2, isR, and_self]) ?_
  refine fin_nx (e' := [some A0, some A1, some A2, some (.fro (.node .lst (ts.map tD))), some (.fro (tD b)), some (I far), some A6, some (.own .lst (ts.map rD)), none, v9, u10, v11, some (.own (.ins "Rate" ["burst", "num", "den"]) [.int r.1, .int r.2.1, .int r.2.2]), some (.own (.ins "Rate" ["burst", "num", "den"]) [.int b.1, .int b.2.1, .int b.2.2]), some (I ((ts.length - 1 : Nat) : Int))]) (by simp only [z_bind, z_bindE, z_bindS, z_ite, z_noX, z_iteX, z_get0, z_getN, z_getS, z_goN, z_goC, z_ev, z_pk, z_finN, z_finE, z_finP, z_app, z_C, z_Var, z_Fz, z_Mv, z_frz1, z_frz2, z_bOf, z_bool, z_bAnd, z_bOr, z_bNot, z_eAnd, z_eOr, z_eNot, z_eIf, z_Nx, z_Bk, z_Ct, z_Seq, z_seqN, z_seqR, z_seqB, z_seqC, z_Asg, z_Ret, z_RetN, z_Expr, z_If, z_iSeq, z_iApp, z_For, z_loopN, z_loopC, z_lkN, z_lkC, z_lkB, z_lkR, z_setN, z_setT, z_smN, z_smC, z_eFrz, z_aN, z_aE, z_aP, z_pN, z_pE, z_pP, z_call, z_callE, z_ckO, z_ckE, z_make, z_makeE, z_mkO, z_mkE, z_meth, z_finPk, z_finEv, z_prop, z_FldI, z_Raise, z_Try, z_tkO, z_tkE, z_tkI, z_hC, z_hN, z_App, z_SetIx, z_setK, z_chain, z_own, z_ownK, z_fSub, z_fMul, z_fDiv, z_fMod, z_fPow, z_fLt, z_fLe, z_fGt, z_fGe, z_fNeg, z_fAbs, z_fMin, z_fMax, z_Xis, z_Xf, z_Lc, z_lcN, z_lcC, z_lcK, z_yes, z_wN, z_wC, z_bkN, z_bkC, z_isN1, z_isN2, z_isN3, z_isN4, z_isN5, z_isN6, z_isB1, z_isB2, z_isB3, z_isB4, z_isB5, z_isB6, z_it1, z_it2, z_it3, z_len1, z_len2, z_len3, z_ix1, z_ix2, z_ix3, fAdd, strO, tupO, ownL, intO, fInt, fList, fTuple, slO, fSlF, fSlT, fSlN, fTup, fLst, flatD, eqS, fRgL1, fRgL2, rawAll, runF, startE, backO, O.fro?, putN, putD, envX, envB, xSl, Nat.reduceLeDiff, Nat.reduceLT, List.take_succ_cons, List.take_zero, List.any_cons, List.any_nil, List.all_cons, List.all_nil, List.map_cons, List.map_nil, List.cons_append, List.nil_append, List.append_nil, List.length_cons, List.length_nil, List.replicate_succ, List.replicate_zero, List.getElem?_cons_zero, List.getElem?_cons_succ, List.getElem?_nil, List.set_cons_zero, List.set_cons_succ, List.headD_cons, List.tail_cons, List.contains_cons, List.contains_nil, Option.map_some, Option.map_none, Option.isSome_some, Bool.and_true, Bool.true_and, Bool.and_false, Bool.false_and, Bool.or_true, Bool.true_or, Bool.or_false, Bool.false_or, Bool.not_true, Bool.not_false, if_true, if_false, reduceIte, reduceCtorEq, beq_self_eq_true, Nat.reduceSub, Nat.reduceAdd, Nat.reduceBEq, Nat.reduceEqDiff, decide_true, decide_false, Bool.false_eq_true, List.length_map, hcast]) ?_
  simp only [z_bind, z_bindE, z_bindS, z_ite, z_noX, z_iteX, z_get0, z_getN, z_getS, z_goN, z_goC, z_ev, z_pk, z_finN, z_finE, z_finP, z_app, z_C, z_Var, z_Fz, z_Mv, z_frz1, z_frz2, z_bOf, z_bool, z_bAnd, z_bOr, z_bNot, z_eAnd, z_eOr, z_eNot, z_eIf, z_Nx, z_Bk, z_Ct, z_Seq, z_seqN, z_seqR, z_seqB, z_seqC, z_Asg, z_Ret, z_RetN, z_Expr, z_If, z_iSeq, z_iApp, z_For, z_loopN, z_loopC, z_lkN, z_lkC, z_lkB, z_lkR, z_setN, z_setT, z_smN, z_smC, z_eFrz, z_aN, z_aE, z_aP, z_pN, z_pE, z_pP, z_call, z_callE, z_ckO, z_ckE, z_make, z_makeE, z_mkO, z_mkE, z_meth, z_finPk, z_finEv, z_prop, z_FldI, z_Raise, z_Try, z_tkO, z_tkE, z_tkI, z_hC, z_hN, z_App, z_SetIx, z_setK, z_chain, z_own, z_ownK, z_fSub, z_fMul, z_fDiv, z_fMod, z_fPow, z_fLt, z_fLe, z_fGt, z_fGe, z_fNeg, z_fAbs, z_fMin, z_fMax, z_Xis, z_Xf, z_Lc, z_lcN, z_lcC, z_lcK, z_yes, z_wN, z_wC, z_bkN, z_bkC, z_isN1, z_isN2, z_isN3, z_isN4, z_isN5, z_isN6, z_isB1, z_isB2, z_isB3, z_isB4, z_isB5, z_isB6, z_it1, z_it2, z_it3, z_len1, z_len2, z_len3, z_ix1, z_ix2, z_ix3, fAdd, strO, tupO, ownL, intO, fInt, fList, fTuple, slO, fSlF, fSlT, fSlN, fTup, fLst, flatD, eqS, fRgL1, fRgL2, rawAll, runF, startE, backO, O.fro?, putN, putD, envX, envB, xSl, Nat.reduceLeDiff, Nat.reduceLT, List.take_succ_cons, List.take_zero, List.any_cons, List.any_nil, List.all_cons, List.all_nil, List.map_cons, List.map_nil, List.cons_append, List.nil_append, List.append_nil, List.length_cons, List.length_nil, List.replicate_succ, List.replicate_zero, List.getElem?_cons_zero, List.getElem?_cons_succ, List.getElem?_nil, List.set_cons_zero, List.set_cons_succ, List.headD_cons, List.tail_cons, List.contains_cons, List.contains_nil, Option.map_some, Option.map_none, Option.isSome_some, Bool.and_true, Bool.true_and, Bool.and_false, Bool.false_and, Bool.or_true, Bool.true_or, Bool.or_false, Bool.false_or, Bool.not_true, Bool.not_false, if_true, if_false, reduceIte, reduceCtorEq, beq_self_eq_true, Nat.reduceSub, Nat.reduceAdd, Nat.reduceBEq, Nat.reduceEqDiff, decide_true, decide_false, Bool.false_eq_true, hR0, hD0, atR hm, atD hm, q3, q4, isR, fEqT]
  rfl
theorem law_ok (ns : List Int) : ∃ os', S_law [scr ns] = .ok (.fro (.bl true)) os' := by
  obtain ⟨a0, b0, c0, d0, e0⟩ : ∃ a b c d, S_law_hand [scr ns, I 0] = .ok (hnd a b c d) [scr ns, I 0] := hand_ok ns 0
  obtain ⟨tx, ty, tz, a1, c1, e1⟩ := triple_ok a0 b0 c0 d0
  obtain ⟨a2, b2, c2, d2, e2⟩ : ∃ a b c d, S_law_hand [scr ns, I 1] = .ok (hnd a b c d) [scr ns, I 1] := hand_ok ns 1
  obtain ⟨rx, ry, rz, a3, c3, r1, r2, r3, e3⟩ := rate_ok a2 b2 c2 d2
  obtain ⟨bx, by', bz, a4, c4, g4, n4, e4⟩ := beside_ok a1 b0 c1 d0 (x := rx) (y := ry) (z := rz) ⟨r1, r2, r3⟩
  obtain ⟨a5, b5, c5, d5, e5⟩ : ∃ a b c d, S_law_hand [scr ns, I 2] = .ok (hnd a b c d) [scr ns, I 2] := hand_ok ns 2
  obtain ⟨far, a6, c6, f1, f2, e6⟩ := wide_ok a5 b5 c5 d5
  have e7 := wrong_part_ok tx ty tz
  refine ⟨[scr ns], ?_⟩
  unfold S_law
  rw [run_fin]
  show finF [0] [scr ns] (B_law [some (scr ns), none, none, none, none, none, none, none, none, none, none, none, none, none, none]) = _
  unfold B_law
  refine fin_nx (e' := [some (scr ns), some (hnd a0 b0 c0 d0), none, none, none, none, none, none, none, none, none, none, none, none, none]) (by simp only [z_bind, z_bindE, z_bindS, z_ite, z_noX, z_iteX, z_get0, z_getN, z_getS, z_goN, z_goC, z_ev, z_pk, z_finN, z_finE, z_finP, z_app, z_C, z_Var, z_Fz, z_Mv, z_frz1, z_frz2, z_bOf, z_bool, z_bAnd, z_bOr, z_bNot, z_eAnd, z_eOr, z_eNot, z_eIf, z_Nx, z_Bk, z_Ct, z_Seq, z_seqN, z_seqR, z_seqB, z_seqC, z_Asg, z_Ret, z_RetN, z_Expr, z_If, z_iSeq, z_iApp, z_For, z_loopN, z_loopC, z_lkN, z_lkC, z_lkB, z_lkR, z_setN, z_setT, z_smN, z_smC, z_eFrz, z_aN, z_aE, z_aP, z_pN, z_pE, z_pP, z_call, z_callE, z_ckO, z_ckE, z_make, z_makeE, z_mkO, z_mkE, z_meth, z_finPk, z_finEv, z_prop, z_FldI, z_Raise, z_Try, z_tkO, z_tkE, z_tkI, z_hC, z_hN, z_App, z_SetIx, z_setK, z_chain, z_own, z_ownK, z_fSub, z_fMul, z_fDiv, z_fMod, z_fPow, z_fLt, z_fLe, z_fGt, z_fGe, z_fNeg, z_fAbs, z_fMin, z_fMax, z_Xis, z_Xf, z_Lc, z_lcN, z_lcC, z_lcK, z_yes, z_wN, z_wC, z_bkN, z_bkC, z_isN1, z_isN2, z_isN3, z_isN4, z_isN5, z_isN6, z_isB1, z_isB2, z_isB3, z_isB4, z_isB5, z_isB6, z_it1, z_it2, z_it3, z_len1, z_len2, z_len3, z_ix1, z_ix2, z_ix3, fAdd, strO, tupO, ownL, intO, fInt, fList, fTuple, slO, fSlF, fSlT, fSlN, fTup, fLst, flatD, eqS, fRgL1, fRgL2, rawAll, runF, startE, backO, O.fro?, putN, putD, envX, envB, xSl, Nat.reduceLeDiff, Nat.reduceLT, List.take_succ_cons, List.take_zero, List.any_cons, List.any_nil, List.all_cons, List.all_nil, List.map_cons, List.map_nil, List.cons_append, List.nil_append, List.append_nil, List.length_cons, List.length_nil, List.replicate_succ, List.replicate_zero, List.getElem?_cons_zero, List.getElem?_cons_succ, List.getElem?_nil, List.set_cons_zero, List.set_cons_succ, List.headD_cons, List.tail_cons, List.contains_cons, List.contains_nil, Option.map_some, Option.map_none, Option.isSome_some, Bool.and_true, Bool.true_and, Bool.and_false, Bool.false_and, Bool.or_true, Bool.true_or, Bool.or_false, Bool.false_or, Bool.not_true, Bool.not_false, if_true, if_false, reduceIte, reduceCtorEq, beq_self_eq_true, Nat.reduceSub, Nat.reduceAdd, Nat.reduceBEq, Nat.reduceEqDiff, decide_true, decide_false, Bool.false_eq_true, e0]) ?_
  refine fin_nx (e' := [some (scr ns), some (hnd a1 b0 c1 d0), some (tup3 tx ty tz), none, none, none, none, none, none, none, none, none, none, none, none]) (by simp only [z_bind, z_bindE, z_bindS, z_ite, z_noX, z_iteX, z_get0, z_getN, z_getS, z_goN, z_goC, z_ev, z_pk, z_finN, z_finE, z_finP, z_app, z_C, z_Var, z_Fz, z_Mv, z_frz1, z_frz2, z_bOf, z_bool, z_bAnd, z_bOr, z_bNot, z_eAnd, z_eOr, z_eNot, z_eIf, z_Nx, z_Bk, z_Ct, z_Seq, z_seqN, z_seqR, z_seqB, z_seqC, z_Asg, z_Ret, z_RetN, z_Expr, z_If, z_iSeq, z_iApp, z_For, z_loopN, z_loopC, z_lkN, z_lkC, z_lkB, z_lkR, z_setN, z_setT, z_smN, z_smC, z_eFrz, z_aN, z_aE, z_aP, z_pN, z_pE, z_pP, z_call, z_callE, z_ckO, z_ckE, z_make, z_makeE, z_mkO, z_mkE, z_meth, z_finPk, z_finEv, z_prop, z_FldI, z_Raise, z_Try, z_tkO, z_tkE, z_tkI, z_hC, z_hN, z_App, z_SetIx, z_setK, z_chain, z_own, z_ownK, z_fSub, z_fMul, z_fDiv, z_fMod, z_fPow, z_fLt, z_fLe, z_fGt, z_fGe, z_fNeg, z_fAbs, z_fMin, z_fMax, z_Xis, z_Xf, z_Lc, z_lcN, z_lcC, z_lcK, z_yes, z_wN, z_wC, z_bkN, z_bkC, z_isN1, z_isN2, z_isN3, z_isN4, z_isN5, z_isN6, z_isB1, z_isB2, z_isB3, z_isB4, z_isB5, z_isB6, z_it1, z_it2, z_it3, z_len1, z_len2, z_len3, z_ix1, z_ix2, z_ix3, fAdd, strO, tupO, ownL, intO, fInt, fList, fTuple, slO, fSlF, fSlT, fSlN, fTup, fLst, flatD, eqS, fRgL1, fRgL2, rawAll, runF, startE, backO, O.fro?, putN, putD, envX, envB, xSl, Nat.reduceLeDiff, Nat.reduceLT, List.take_succ_cons, List.take_zero, List.any_cons, List.any_nil, List.all_cons, List.all_nil, List.map_cons, List.map_nil, List.cons_append, List.nil_append, List.append_nil, List.length_cons, List.length_nil, List.replicate_succ, List.replicate_zero, List.getElem?_cons_zero, List.getElem?_cons_succ, List.getElem?_nil, List.set_cons_zero, List.set_cons_succ, List.headD_cons, List.tail_cons, List.contains_cons, List.contains_nil, Option.map_some, Option.map_none, Option.isSome_some, Bool.and_true, Bool.true_and, Bool.and_false, Bool.false_and, Bool.or_true, Bool.true_or, Bool.or_false, Bool.false_or, Bool.not_true, Bool.not_false, if_true, if_false, reduceIte, reduceCtorEq, beq_self_eq_true, Nat.reduceSub, Nat.reduceAdd, Nat.reduceBEq, Nat.reduceEqDiff, decide_true, decide_false, Bool.false_eq_true, e1]) ?_
  refine fin_nx (e' := [some (scr ns), some (hnd a1 b0 c1 d0), some (tup3 tx ty tz), some (.own .lst [tD (rx, ry, rz)]), none, none, none, none, none, none, none, none, none, none, none]) (by simp only [z_bind, z_bindE, z_bindS, z_ite, z_noX, z_iteX, z_get0, z_getN, z_getS, z_goN, z_goC, z_ev, z_pk, z_finN, z_finE, z_finP, z_app, z_C, z_Var, z_Fz, z_Mv, z_frz1, z_frz2, z_bOf, z_bool, z_bAnd, z_bOr, z_bNot, z_eAnd, z_eOr, z_eNot, z_eIf, z_Nx, z_Bk, z_Ct, z_Seq, z_seqN, z_seqR, z_seqB, z_seqC, z_Asg, z_Ret, z_RetN, z_Expr, z_If, z_iSeq, z_iApp, z_For, z_loopN, z_loopC, z_lkN, z_lkC, z_lkB, z_lkR, z_setN, z_setT, z_smN, z_smC, z_eFrz, z_aN, z_aE, z_aP, z_pN, z_pE, z_pP, z_call, z_callE, z_ckO, z_ckE, z_make, z_makeE, z_mkO, z_mkE, z_meth, z_finPk, z_finEv, z_prop, z_FldI, z_Raise, z_Try, z_tkO, z_tkE, z_tkI, z_hC, z_hN, z_App, z_SetIx, z_setK, z_chain, z_own, z_ownK, z_fSub, z_fMul, z_fDiv, z_fMod, z_fPow, z_fLt, z_fLe, z_fGt, z_fGe, z_fNeg, z_fAbs, z_fMin, z_fMax, z_Xis, z_Xf, z_Lc, z_lcN, z_lcC, z_lcK, z_yes, z_wN, z_wC, z_bkN, z_bkC, z_isN1, z_isN2, z_isN3, z_isN4, z_isN5, z_isN6, z_isB1, z_isB2, z_isB3, z_isB4, z_isB5, z_isB6, z_it1, z_it2, z_it3, z_len1, z_len2, z_len3, z_ix1, z_ix2, z_ix3, fAdd, strO, tupO, ownL, intO, fInt, fList, fTuple, slO, fSlF, fSlT, fSlN, fTup, fLst, flatD, eqS, fRgL1, fRgL2, rawAll, runF, startE, backO, O.fro?, putN, putD, envX, envB, xSl, Nat.reduceLeDiff, Nat.reduceLT, List.take_succ_cons, List.take_zero, List.any_cons, List.any_nil, List.all_cons, List.all_nil, List.map_cons, List.map_nil, List.cons_append, List.nil_append, List.append_nil, List.length_cons, List.length_nil, List.replicate_succ, List.replicate_zero, List.getElem?_cons_zero, List.getElem?_cons_succ, List.getElem?_nil, List.set_cons_zero, List.set_cons_succ, List.headD_cons, List.tail_cons, List.contains_cons, List.contains_nil, Option.map_some, Option.map_none, Option.isSome_some, Bool.and_true, Bool.true_and, Bool.and_false, Bool.false_and, Bool.or_true, Bool.true_or, Bool.or_false, Bool.false_or, Bool.not_true, Bool.not_false, if_true, if_false, reduceIte, reduceCtorEq, beq_self_eq_true, Nat.reduceSub, Nat.reduceAdd, Nat.reduceBEq, Nat.reduceEqDiff, decide_true, decide_false, Bool.false_eq_true, e2, e3]) ?_
  refine fin_nx (e' := [some (scr ns), some (hnd a4 b0 c4 d0), some (tup3 tx ty tz), some (.own .lst [tD (rx, ry, rz)]), some (.fro (tD (bx, by', bz))), none, none, none, none, none, none, none, none, none, none]) (by simp only [z_bind, z_bindE, z_bindS, z_ite, z_noX, z_iteX, z_get0, z_getN, z_getS, z_goN, z_goC, z_ev, z_pk, z_finN, z_finE, z_finP, z_app, z_C, z_Var, z_Fz, z_Mv, z_frz1, z_frz2, z_bOf, z_bool, z_bAnd, z_bOr, z_bNot, z_eAnd, z_eOr, z_eNot, z_eIf, z_Nx, z_Bk, z_Ct, z_Seq, z_seqN, z_seqR, z_seqB, z_seqC, z_Asg, z_Ret, z_RetN, z_Expr, z_If, z_iSeq, z_iApp, z_For, z_loopN, z_loopC, z_lkN, z_lkC, z_lkB, z_lkR, z_setN, z_setT, z_smN, z_smC, z_eFrz, z_aN, z_aE, z_aP, z_pN, z_pE, z_pP, z_call, z_callE, z_ckO, z_ckE, z_make, z_makeE, z_mkO, z_mkE, z_meth, z_finPk, z_finEv, z_prop, z_FldI, z_Raise, z_Try, z_tkO, z_tkE, z_tkI, z_hC, z_hN, z_App, z_SetIx, z_setK, z_chain, z_own, z_ownK, z_fSub, z_fMul, z_fDiv, z_fMod, z_fPow, z_fLt, z_fLe, z_fGt, z_fGe, z_fNeg, z_fAbs, z_fMin, z_fMax, z_Xis, z_Xf, z_Lc, z_lcN, z_lcC, z_lcK, z_yes, z_wN, z_wC, z_bkN, z_bkC, z_isN1, z_isN2, z_isN3, z_isN4, z_isN5, z_isN6, z_isB1, z_isB2, z_isB3, z_isB4, z_isB5, z_isB6, z_it1, z_it2, z_it3, z_len1, z_len2, z_len3, z_ix1, z_ix2, z_ix3, fAdd, strO, tupO, ownL, intO, fInt, fList, fTuple, slO, fSlF, fSlT, fSlN, fTup, fLst, flatD, eqS, fRgL1, fRgL2, rawAll, runF, startE, backO, O.fro?, putN, putD, envX, envB, xSl, Nat.reduceLeDiff, Nat.reduceLT, List.take_succ_cons, List.take_zero, List.any_cons, List.any_nil, List.all_cons, List.all_nil, List.map_cons, List.map_nil, List.cons_append, List.nil_append, List.append_nil, List.length_cons, List.length_nil, List.replicate_succ, List.replicate_zero, List.getElem?_cons_zero, List.getElem?_cons_succ, List.getElem?_nil, List.set_cons_zero, List.set_cons_succ, List.headD_cons, List.tail_cons, List.contains_cons, List.contains_nil, Option.map_some, Option.map_none, Option.isSome_some, Bool.and_true, Bool.true_and, Bool.and_false, Bool.false_and, Bool.or_true, Bool.true_or, Bool.or_false, Bool.false_or, Bool.not_true, Bool.not_false, if_true, if_false, reduceIte, reduceCtorEq, beq_self_eq_true, Nat.reduceSub, Nat.reduceAdd, Nat.reduceBEq, Nat.reduceEqDiff, decide_true, decide_false, Bool.false_eq_true, e4, at0]) ?_
  refine fin_nx (e' := [some (scr ns), some (hnd a4 b0 c4 d0), some (tup3 tx ty tz), some (.own .lst [tD (rx, ry, rz)]), some (.fro (tD (bx, by', bz))), some (I far), none, none, none, none, none, none, none, none, none]) (by simp only [z_bind, z_bindE, z_bindS, z_ite, z_noX, z_iteX, z_get0, z_getN, z_getS, z_goN, z_goC, z_ev, z_pk, z_finN, z_finE, z_finP, z_app, z_C, z_Var, z_Fz, z_Mv, z_frz1, z_frz2, z_bOf, z_bool, z_bAnd, z_bOr, z_bNot, z_eAnd, z_eOr, z_eNot, z_eIf, z_Nx, z_Bk, z_Ct, z_Seq, z_seqN, z_seqR, z_seqB, z_seqC, z_Asg, z_Ret, z_RetN, z_Expr, z_If, z_iSeq, z_iApp, z_For, z_loopN, z_loopC, z_lkN, z_lkC, z_lkB, z_lkR, z_setN, z_setT, z_smN, z_smC, z_eFrz, z_aN, z_aE, z_aP, z_pN, z_pE, z_pP, z_call, z_callE, z_ckO, z_ckE, z_make, z_makeE, z_mkO, z_mkE, z_meth, z_finPk, z_finEv, z_prop, z_FldI, z_Raise, z_Try, z_tkO, z_tkE, z_tkI, z_hC, z_hN, z_App, z_SetIx, z_setK, z_chain, z_own, z_ownK, z_fSub, z_fMul, z_fDiv, z_fMod, z_fPow, z_fLt, z_fLe, z_fGt, z_fGe, z_fNeg, z_fAbs, z_fMin, z_fMax, z_Xis, z_Xf, z_Lc, z_lcN, z_lcC, z_lcK, z_yes, z_wN, z_wC, z_bkN, z_bkC, z_isN1, z_isN2, z_isN3, z_isN4, z_isN5, z_isN6, z_isB1, z_isB2, z_isB3, z_isB4, z_isB5, z_isB6, z_it1, z_it2, z_it3, z_len1, z_len2, z_len3, z_ix1, z_ix2, z_ix3, fAdd, strO, tupO, ownL, intO, fInt, fList, fTuple, slO, fSlF, fSlT, fSlN, fTup, fLst, flatD, eqS, fRgL1, fRgL2, rawAll, runF, startE, backO, O.fro?, putN, putD, envX, envB, xSl, Nat.reduceLeDiff, Nat.reduceLT, List.take_succ_cons, List.take_zero, List.any_cons, List.any_nil, List.all_cons, List.all_nil, List.map_cons, List.map_nil, List.cons_append, List.nil_append, List.append_nil, List.length_cons, List.length_nil, List.replicate_succ, List.replicate_zero, List.getElem?_cons_zero, List.getElem?_cons_succ, List.getElem?_nil, List.set_cons_zero, List.set_cons_succ, List.headD_cons, List.tail_cons, List.contains_cons, List.contains_nil, Option.map_some, Option.map_none, Option.isSome_some, Bool.and_true, Bool.true_and, Bool.and_false, Bool.false_and, Bool.or_true, Bool.true_or, Bool.or_false, Bool.false_or, Bool.not_true, Bool.not_false, if_true, if_false, reduceIte, reduceCtorEq, beq_self_eq_true, Nat.reduceSub, Nat.reduceAdd, Nat.reduceBEq, Nat.reduceEqDiff, decide_true, decide_false, Bool.false_eq_true, e5, e6]) ?_
  refine fin_nx (e' := [some (scr ns), some (hnd a4 b0 c4 d0), some (tup3 tx ty tz), some (.own .lst [tD (rx, ry, rz)]), some (.fro (tD (bx, by', bz))), some (I far), some (wrO tx ty tz), none, none, none, none, none, none, none, none]) (by simp only [z_bind, z_bindE, z_bindS, z_ite, z_noX, z_iteX, z_get0, z_getN, z_getS, z_goN, z_goC, z_ev, z_pk, z_finN, z_finE, z_finP, z_app, z_C, z_Var, z_Fz, z_Mv, z_frz1, z_frz2, z_bOf, z_bool, z_bAnd, z_bOr, z_bNot, z_eAnd, z_eOr, z_eNot, z_eIf, z_Nx, z_Bk, z_Ct, z_Seq, z_seqN, z_seqR, z_seqB, z_seqC, z_Asg, z_Ret, z_RetN, z_Expr, z_If, z_iSeq, z_iApp, z_For, z_loopN, z_loopC, z_lkN, z_lkC, z_lkB, z_lkR, z_setN, z_setT, z_smN, z_smC, z_eFrz, z_aN, z_aE, z_aP, z_pN, z_pE, z_pP, z_call, z_callE, z_ckO, z_ckE, z_make, z_makeE, z_mkO, z_mkE, z_meth, z_finPk, z_finEv, z_prop, z_FldI, z_Raise, z_Try, z_tkO, z_tkE, z_tkI, z_hC, z_hN, z_App, z_SetIx, z_setK, z_chain, z_own, z_ownK, z_fSub, z_fMul, z_fDiv, z_fMod, z_fPow, z_fLt, z_fLe, z_fGt, z_fGe, z_fNeg, z_fAbs, z_fMin, z_fMax, z_Xis, z_Xf, z_Lc, z_lcN, z_lcC, z_lcK, z_yes, z_wN, z_wC, z_bkN, z_bkC, z_isN1, z_isN2, z_isN3, z_isN4, z_isN5, z_isN6, z_isB1, z_isB2, z_isB3, z_isB4, z_isB5, z_isB6, z_it1, z_it2, z_it3, z_len1, z_len2, z_len3, z_ix1, z_ix2, z_ix3, fAdd, strO, tupO, ownL, intO, fInt, fList, fTuple, slO, fSlF, fSlT, fSlN, fTup, fLst, flatD, eqS, fRgL1, fRgL2, rawAll, runF, startE, backO, O.fro?, putN, putD, envX, envB, xSl, Nat.reduceLeDiff, Nat.reduceLT, List.take_succ_cons, List.take_zero, List.any_cons, List.any_nil, List.all_cons, List.all_nil, List.map_cons, List.map_nil, List.cons_append, List.nil_append, List.append_nil, List.length_cons, List.length_nil, List.replicate_succ, List.replicate_zero, List.getElem?_cons_zero, List.getElem?_cons_succ, List.getElem?_nil, List.set_cons_zero, List.set_cons_succ, List.headD_cons, List.tail_cons, List.contains_cons, List.contains_nil, Option.map_some, Option.map_none, Option.isSome_some, Bool.and_true, Bool.true_and, Bool.and_false, Bool.false_and, Bool.or_true, Bool.true_or, Bool.or_false, Bool.false_or, Bool.not_true, Bool.not_false, if_true, if_false, reduceIte, reduceCtorEq, beq_self_eq_true, Nat.reduceSub, Nat.reduceAdd, Nat.reduceBEq, Nat.reduceEqDiff, decide_true, decide_false, Bool.false_eq_true, e7]) ?_
  have hne : ¬ ((bx, by', bz).1 = (rx, ry, rz).1 ∧ (bx, by', bz).2.1 = (rx, ry, rz).2.1 ∧ (bx, by', bz).2.2 = (rx, ry, rz).2.2) := n4
  cases hw : wrong tx ty tz with
  | none =>
    have hwo : wrO tx ty tz = .fro .non := by
      unfold wrO
      rw [hw]
    rw [hwo]
    refine fin_nx (e' := [some (scr ns), some (hnd a4 b0 c4 d0), some (tup3 tx ty tz), some (.own .lst [tD (rx, ry, rz), tD (tx, ty, tz)]), some (.fro (tD (bx, by', bz))), some (I far), some (.fro .non), none, none, none, none, none, none, none, none]) (by simp only [z_bind, z_bindE, z_bindS, z_ite, z_noX, z_iteX, z_get0, z_getN, z_getS, z_goN, z_goC, z_ev, z_pk, z_finN, z_finE, z_finP, z_app, z_C, z_Var, z_Fz, z_Mv, z_frz1, z_frz2, z_bOf, z_bool, z_bAnd, z_bOr, z_bNot, z_eAnd, z_eOr, z_eNot, z_eIf, z_Nx, z_Bk, z_Ct, z_Seq, z_seqN, z_seqR, z_seqB, z_seqC, z_Asg, z_Ret, z_RetN, z_Expr, z_If, z_iSeq, z_iApp, z_For, z_loopN, z_loopC, z_lkN, z_lkC, z_lkB, z_lkR, z_setN, z_setT, z_smN, z_smC, z_eFrz, z_aN, z_aE, z_aP, z_pN, z_pE, z_pP, z_call, z_callE, z_ckO, z_ckE, z_make, z_makeE, z_mkO, z_mkE, z_meth, z_finPk, z_finEv, z_prop, z_FldI, z_Raise, z_Try, z_tkO, z_tkE, z_tkI, z_hC, z_hN, z_App, z_SetIx, z_setK, z_chain, z_own, z_ownK, z_fSub, z_fMul, z_fDiv, z_fMod, z_fPow, z_fLt, z_fLe, z_fGt, z_fGe, z_fNeg, z_fAbs, z_fMin, z_fMax, z_Xis, z_Xf, z_Lc, z_lcN, z_lcC, z_lcK, z_yes, z_wN, z_wC, z_bkN, z_bkC, z_isN1, z_isN2, z_isN3, z_isN4, z_isN5, z_isN6, z_isB1, z_isB2, z_isB3, z_isB4, z_isB5, z_isB6, z_it1, z_it2, z_it3, z_len1, z_len2, z_len3, z_ix1, z_ix2, z_ix3, fAdd, strO, tupO, ownL, intO, fInt, fList, fTuple, slO, fSlF, fSlT, fSlN, fTup, fLst, flatD, eqS, fRgL1, fRgL2, rawAll, runF, startE, backO, O.fro?, putN, putD, envX, envB, xSl, Nat.reduceLeDiff, Nat.reduceLT, List.take_succ_cons, List.take_zero, List.any_cons, List.any_nil, List.all_cons, List.all_nil, List.map_cons, List.map_nil, List.cons_append, List.nil_append, List.append_nil, List.length_cons, List.length_nil, List.replicate_succ, List.replicate_zero, List.getElem?_cons_zero, List.getElem?_cons_succ, List.getElem?_nil, List.set_cons_zero, List.set_cons_succ, List.headD_cons, List.tail_cons, List.contains_cons, List.contains_nil, Option.map_some, Option.map_none, Option.isSome_some, Bool.and_true, Bool.true_and, Bool.and_false, Bool.false_and, Bool.or_true, Bool.true_or, Bool.or_false, Bool.false_or, Bool.not_true, Bool.not_false, if_true, if_false, reduceIte, reduceCtorEq, beq_self_eq_true, Nat.reduceSub, Nat.reduceAdd, Nat.reduceBEq, Nat.reduceEqDiff, decide_true, decide_false, Bool.false_eq_true]) ?_
    exact tail_ok (scr ns) (hnd a4 b0 c4 d0) (tup3 tx ty tz) (.fro .non) [(rx, ry, rz), (tx, ty, tz)] (fun t ht => by
      rcases List.mem_cons.mp ht with rfl | ht
      · exact ⟨r1, r2, r3⟩
      · rw [List.mem_singleton.mp ht]
        exact wrong_good hw) (by show 2 < 900; decide) (rx, ry, rz) (bx, by', bz) rfl g4 hne far ⟨f1, f2⟩
  | some p =>
    have hwo : wrO tx ty tz = .fro (.str p) := by
      unfold wrO
      rw [hw]
    rw [hwo]
    have hp : SeqAt.shaped (.str p) = true := by
      have k1 : SeqAt.shaped (.str "burst") = true := by decide +kernel
      have k2 : SeqAt.shaped (.str "den") = true := by decide +kernel
      have k3 : SeqAt.shaped (.str "num") = true := by decide +kernel
      unfold wrong at hw
      split at hw
      · split at hw
        · split at hw
          · cases hw
          · cases hw
            exact k3
        · cases hw
          exact k2
      · cases hw
        exact k1
    have s2 : SeqAt.shaped (.str "refused") = true := by decide +kernel
    have x1 := refused_ok hw
    have x2 := by_base_ok hw
    have x3 := same_tup 2 [.str "refused", .str p, .bl true, .bl true, .bl false] (by simp only [List.all_cons, List.all_nil, scal, s2, hp, Bool.and_true]) (by show 5 < 1000; decide)
    have x4 := same_tup 2 [.bl true, .bl true, .bl false] rfl (by show 3 < 1000; decide)
    refine fin_nx (e' := [some (scr ns), some (hnd a4 b0 c4 d0), some (tup3 tx ty tz), some (.own .lst [tD (rx, ry, rz)]), some (.fro (tD (bx, by', bz))), some (I far), some (.fro (.str p)), none, none, none, none, none, none, none, none]) (by simp only [z_bind, z_bindE, z_bindS, z_ite, z_noX, z_iteX, z_get0, z_getN, z_getS, z_goN, z_goC, z_ev, z_pk, z_finN, z_finE, z_finP, z_app, z_C, z_Var, z_Fz, z_Mv, z_frz1, z_frz2, z_bOf, z_bool, z_bAnd, z_bOr, z_bNot, z_eAnd, z_eOr, z_eNot, z_eIf, z_Nx, z_Bk, z_Ct, z_Seq, z_seqN, z_seqR, z_seqB, z_seqC, z_Asg, z_Ret, z_RetN, z_Expr, z_If, z_iSeq, z_iApp, z_For, z_loopN, z_loopC, z_lkN, z_lkC, z_lkB, z_lkR, z_setN, z_setT, z_smN, z_smC, z_eFrz, z_aN, z_aE, z_aP, z_pN, z_pE, z_pP, z_call, z_callE, z_ckO, z_ckE, z_make, z_makeE, z_mkO, z_mkE, z_meth, z_finPk, z_finEv, z_prop, z_FldI, z_Raise, z_Try, z_tkO, z_tkE, z_tkI, z_hC, z_hN, z_App, z_SetIx, z_setK, z_chain, z_own, z_ownK, z_fSub, z_fMul, z_fDiv, z_fMod, z_fPow, z_fLt, z_fLe, z_fGt, z_fGe, z_fNeg, z_fAbs, z_fMin, z_fMax, z_Xis, z_Xf, z_Lc, z_lcN, z_lcC, z_lcK, z_yes, z_wN, z_wC, z_bkN, z_bkC, z_isN1, z_isN2, z_isN3, z_isN4, z_isN5, z_isN6, z_isB1, z_isB2, z_isB3, z_isB4, z_isB5, z_isB6, z_it1, z_it2, z_it3, z_len1, z_len2, z_len3, z_ix1, z_ix2, z_ix3, fAdd, strO, tupO, ownL, intO, fInt, fList, fTuple, slO, fSlF, fSlT, fSlN, fTup, fLst, flatD, eqS, fRgL1, fRgL2, rawAll, runF, startE, backO, O.fro?, putN, putD, envX, envB, xSl, Nat.reduceLeDiff, Nat.reduceLT, List.take_succ_cons, List.take_zero, List.any_cons, List.any_nil, List.all_cons, List.all_nil, List.map_cons, List.map_nil, List.cons_append, List.nil_append, List.append_nil, List.length_cons, List.length_nil, List.replicate_succ, List.replicate_zero, List.getElem?_cons_zero, List.getElem?_cons_succ, List.getElem?_nil, List.set_cons_zero, List.set_cons_succ, List.headD_cons, List.tail_cons, List.contains_cons, List.contains_nil, Option.map_some, Option.map_none, Option.isSome_some, Bool.and_true, Bool.true_and, Bool.and_false, Bool.false_and, Bool.or_true, Bool.true_or, Bool.or_false, Bool.false_or, Bool.not_true, Bool.not_false, if_true, if_false, reduceIte, reduceCtorEq, beq_self_eq_true, Nat.reduceSub, Nat.reduceAdd, Nat.reduceBEq, Nat.reduceEqDiff, decide_true, decide_false, Bool.false_eq_true, x1, x2, x3, x4]) ?_
    exact tail_ok (scr ns) (hnd a4 b0 c4 d0) (tup3 tx ty tz) (.fro (.str p)) [(rx, ry, rz)] (fun t ht => by
      rw [List.mem_singleton.mp ht]
      exact ⟨r1, r2, r3⟩) (by show 1 < 900; decide) (rx, ry, rz) (bx, by', bz) rfl g4 hne far ⟨f1, f2⟩
end G_lampcrossings_k36_rate_credits
end

section
set_option Elab.async false
set_option linter.all false
set_option maxRecDepth 100000
set_option maxHeartbeats 4000000
namespace DL
open PySem PySem.Spec PyProof.Rows L2
/-- the end of a law whose wish is a sum of data: the exceptions' side by the world -/
theorem walk_W {l : PySem.W.OpenLaw} {n k : Nat} {q : Program} {loo : List Str} {X1 : (Str → Option Value) → Heap → Prop} {Y1 : World → Heap → Prop} {d : DefRec} {x : Str} {Cw : World → CXT}
    (hn : l.most = some n) (h2 : n ≤ sizeLine) (h0 : d.params.defaults = []) (hr : Room k callerA)
    (F : ∀ (w : World) (mg : Str → Option Value) (fa : Addr) (h : Heap), Y1 w h → h.Ns mainGlobals mg → mg d.name = some (.ref fa) → ∃ (K : PySem.W.Frag) (fd : FuncData) (sp : Sp), K.In h ∧
      (∀ (s : Shared) (u : Value), BindsTo s fd ⟨[u], []⟩ [(x, u)]) ∧
      (∀ (H : Hp) (a : Addr) (ns : List Int), ns.length ≤ n → Only H →
        SqL K H a (ns.map V.int) → sp [.ref a] H (fun v _ => v = .bl true) fun _ _ _ => False) ∧
      ∀ base : Heap, K.In base → base.Ns mainGlobals mg →
        FnOk l.prog w K mg base (Cw w) k fa fd [x] sp)
    (no : ∀ (w : World) (H : Hp) (s : Shared) (e : Value) (t : Shared), Cw w [] H s (fun _ _ _ => False) e t → False) :
    PySem.W.WalkO q loo X1 Y1 l.row.toRowW d [] (fun f vs => PySem.call f vs) := by
  refine Att.attach_call hn h0 fun w s₀ s₁ mg mb fa o pm cd doc a vs ns G Y ho hd hcd hmg hob his hle hg => ?_
  obtain ⟨K, fd, sp, KX, hb, hs, hF⟩ := F w mg fa _ Y G.T.g hmg
  exact law_call KX G.T.g G.T.b G.T.builtins G.T.nolimit hg hob his (Nat.le_trans hle h2) hr hF hb
    (fun H h1 h3 => hs H a ns hle h1 h3) fun H e t => no w H s₁ e t
end DL
open PySem PySem.W PySem.Calls PyProof.Rows G_lampcrossings_k36_rate_credits in
theorem PySem.Challenge.cw_lampcrossings_k36_rate_credits_holds : PySem.Challenge.rw_lampcrossings_k36_rate_credits.Holds := by
  w_on; o_law
  refine HandSHeadRun.head_any (r := Rw) (q := view Rw.prog [30]) (H := hk) (ob := ob) (M := 4000) (loose := loose) (d := HandSHeadRun.topDef Rw.prog 30) (kwd := []) G_lampcrossings_k36_rate_credits.ob_eq
    (by kernel_rfl) (fun s => by kernel_rfl) G_lampcrossings_k36_rate_credits.run (by kernel_rfl) (by kernel_rfl) (by kernel_rfl) (by rfl) (by first | assumption | decide +kernel) (by decide +kernel) ⟨rfl, rfl, rfl, rfl, rfl, by decide +kernel⟩ ?hw ?hc
  case hw => w_witness2
  case hc =>
    refine DL.walk_W (l := PySem.Challenge.rw_lampcrossings_k36_rate_credits) (n := 63) (k := 8) (x := "script") (Cw := fun w => L2.CX Pg w) rfl (by decide) (by kernel_rfl) ⟨rfl, by decide, by decide⟩ ?F ?no
    case no =>
      intro w H s e t z
      obtain ⟨_, _, _, _, _, _, _, _, _, _, _, _, z⟩ := z
      exact z
    case F =>
      intro w mg fa h Y G hm0
      obtain ⟨K, KX, c⟩ := Y
      have hm : mg ("law" : PySem.Str) = some (.ref fa) := by
        have e : (HandSHeadRun.topDef Rw.prog 30).name = ("law" : PySem.Str) := by kernel_rfl
        rw [← e]
        exact hm0
      obtain ⟨fd, hb, hF⟩ := G_lampcrossings_k36_rate_credits.facts (w := w) KX G hm c
      exact ⟨K, fd, DL.spOf (DL.bA K) 1 S_law, KX, hb, fun H a ns hl _ hS => DL.law_sp hS (law_ok ns), hF⟩
end
