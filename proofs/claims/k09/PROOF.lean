import PyProof.Rows.All
import Wide.All
import OpenK.AllK
import Wide.FinOn
import HandS.ForMost
import HandS.ForExc
import HandS.Lambda
import KE.SortKeyHeap
import KE.DataCmp
import KE.DataMinMax
import KE.DataFind
import KE.DataAny
import KE.DataEq
import HandS.Conv
import HandS.Walk
import HandS.Small
import HandS.Ends
import HandS.EndBits
import KE.KNest
import HandS.Words
import HandS.Style
import HandS.TupAny
import HandS.TupMul
import HandS.Deep
import HandS.SortKw
import KE.KTupSum
import HandS.Zip
import PyProof.PassesOwn
import PySem.Challenge.RW_factorwebs_k09_excesses_of_lots
set_option Elab.async false
set_option linter.all false
set_option maxRecDepth 100000
/-! IvA: data, slots, what a value denotes, how slots are kept apart. -/
namespace Iv
open PySem L2

abbrev D := PyData

mutual
def imm : D → Bool
  | .list _ => false
  | .dict _ => false
  | .tuple xs => immL xs
  | _ => true
def immL : List D → Bool
  | [] => true
  | x :: xs => imm x && immL xs
end

def keyD : Key → D
  | .inl i => .int i
  | .inr s => .str s

mutual
/-- v is the data d in H; fp: the lists and dicts in it -/
inductive Den (K : PySem.W.Frag) (H : Hp) : V → D → List Addr → Prop
  | non : Den K H .non .none []
  | bl (b : Bool) : Den K H (.bl b) (.bool b) []
  | int (i : Int) : Den K H (.int i) (.int i) []
  | str (x : Str) : Den K H (.str x) (.str x) []
  | lst {a : Addr} {xs : List V} {ds : List D} {fp : List Addr} : H a = some (.lst xs) → DenL K H xs ds fp → Den K H (.ref a) (.list ds) (a :: fp)
  | tup {a : Addr} {xs : List V} {ds : List D} {fp : List Addr} : SqT K H a xs → DenL K H xs ds fp → Den K H (.ref a) (.tuple ds) fp
  | dK {a : Addr} {kvs : List (Key × V)} {es : List (D × D)} {fp : List Addr} : H a = some (.dK kvs) → es.map (·.1) = kvs.map (fun p => keyD p.1) → DenL K H (kvs.map (·.2)) (es.map (·.2)) fp →
      Den K H (.ref a) (.dict es) (a :: fp)
  | dT {a : Addr} {kvs : List (List Key × V)} {es : List (D × D)} {fp : List Addr} : H a = some (.dT kvs) → es.map (·.1) = kvs.map (fun p => PyData.tuple (p.1.map keyD)) → DenL K H (kvs.map (·.2)) (es.map (·.2)) fp →
      Den K H (.ref a) (.dict es) (a :: fp)
inductive DenL (K : PySem.W.Frag) (H : Hp) : List V → List D → List Addr → Prop
  | nil : DenL K H [] [] []
  | cons {v : V} {vs : List V} {d : D} {ds : List D} {fp fq : List Addr} : Den K H v d fp → DenL K H vs ds fq → DenL K H (v :: vs) (d :: ds) (fp ++ fq)
end

/-- what never changes -/
def Fixed : HO → Prop
  | .tup _ => True
  | .frz _ _ => True
  | _ => False
/-- no table of code objects -/
def NT : HO → Prop
  | .tbl _ => False
  | _ => True
/-- lists and dicts -/
def Mv : HO → Prop
  | .lst _ => True
  | .dK _ => True
  | .dT _ => True
  | _ => False
theorem Mv.nt {o : HO} (h : Mv o) : NT o := by
  cases o <;> first | exact trivial | exact h.elim
theorem tabs_of {T : List (Addr × Str)} {H H' : Hp} (t : LamX.Tabs T H) (h : ∀ a o, H a = some o → ¬ Mv o → H' a = some o) : LamX.Tabs T H' := fun p hp => by
  obtain ⟨ps, h1, h2, h3⟩ := t p hp
  refine ⟨ps, h _ _ h1 id, h2, fun pos cv hc => ?_⟩
  obtain ⟨c, e1, e2⟩ := h3 pos cv hc
  exact ⟨c, e1, h _ _ e2 id⟩
/-- the tables of code objects that may grow, with the names of what they hold -/
class Tbl where
  T : List (Addr × Str)
  one : ∀ p ∈ T, ∀ q ∈ T, p.1 = q.1 → p.2 = q.2

section
variable {K : PySem.W.Frag} {H H' : Hp}

theorem sqT_fix {a : Addr} {xs : List V} (h : SqT K H a xs) (k : ∀ a o, H a = some o → Fixed o → H' a = some o) : SqT K H' a xs := by
  rcases h with (h | ⟨o, h⟩) | h
  · exact .inl (.inl (k _ _ h trivial))
  · exact .inl (.inr ⟨o, k _ _ h trivial⟩)
  · exact .inr h
mutual
theorem Den.stay (kf : ∀ a o, H a = some o → Fixed o → H' a = some o) : ∀ {v : V} {d : D} {fp : List Addr}, Den K H v d fp → (∀ a ∈ fp, ∀ o, H a = some o → NT o → H' a = some o) → Den K H' v d fp
  | _, _, _, .non, _ => .non
  | _, _, _, .bl b, _ => .bl b
  | _, _, _, .int i, _ => .int i
  | _, _, _, .str x, _ => .str x
  | _, _, _, .lst h l, k => .lst (k _ List.mem_cons_self _ h trivial) (l.stay kf fun a ha => k a (List.mem_cons_of_mem _ ha))
  | _, _, _, .tup h l, k => .tup (sqT_fix h kf) (l.stay kf k)
  | _, _, _, .dK h e l, k => .dK (k _ List.mem_cons_self _ h trivial) e (l.stay kf fun a ha => k a (List.mem_cons_of_mem _ ha))
  | _, _, _, .dT h e l, k => .dT (k _ List.mem_cons_self _ h trivial) e (l.stay kf fun a ha => k a (List.mem_cons_of_mem _ ha))
theorem DenL.stay (kf : ∀ a o, H a = some o → Fixed o → H' a = some o) : ∀ {vs : List V} {ds : List D} {fp : List Addr}, DenL K H vs ds fp → (∀ a ∈ fp, ∀ o, H a = some o → NT o → H' a = some o) → DenL K H' vs ds fp
  | _, _, _, .nil, _ => .nil
  | _, _, _, .cons h l, k => .cons (h.stay kf fun a ha => k a (List.mem_append_left _ ha)) (l.stay kf fun a ha => k a (List.mem_append_right _ ha))
end

theorem thr_cons {a : Addr} {o : HO} {fp : List Addr} (e : H a = some o) (n : ¬ Fixed o) (t : ∀ c ∈ fp, ∃ o, H c = some o ∧ ¬ Fixed o) : ∀ c ∈ a :: fp, ∃ o, H c = some o ∧ ¬ Fixed o := fun c hc => by
  rcases List.mem_cons.mp hc with q | q
  · subst q; exact ⟨o, e, n⟩
  · exact t c q
mutual
/-- what is in the footprint stands -/
theorem Den.there : ∀ {v : V} {d : D} {fp : List Addr}, Den K H v d fp → ∀ a ∈ fp, ∃ o, H a = some o ∧ ¬ Fixed o
  | _, _, _, .non, a, h => nomatch h
  | _, _, _, .bl b, a, h => nomatch h
  | _, _, _, .int i, a, h => nomatch h
  | _, _, _, .str x, a, h => nomatch h
  | _, _, _, .lst e l, a, h => thr_cons e (fun z => z) (fun c hc => l.there c hc) a h
  | _, _, _, .tup e l, a, h => l.there a h
  | _, _, _, .dK e _ l, a, h => thr_cons e (fun z => z) (fun c hc => l.there c hc) a h
  | _, _, _, .dT e _ l, a, h => thr_cons e (fun z => z) (fun c hc => l.there c hc) a h
theorem DenL.there : ∀ {vs : List V} {ds : List D} {fp : List Addr}, DenL K H vs ds fp → ∀ a ∈ fp, ∃ o, H a = some o ∧ ¬ Fixed o
  | _, _, _, .nil, a, h => nomatch h
  | _, _, _, .cons e l, a, h => (List.mem_append.mp h).elim (fun q => e.there a q) fun q => l.there a q
end

theorem mv_cons {a : Addr} {o : HO} {fp : List Addr} (e : H a = some o) (n : Mv o) (t : ∀ c ∈ fp, ∃ o, H c = some o ∧ Mv o) : ∀ c ∈ a :: fp, ∃ o, H c = some o ∧ Mv o := fun c hc => by
  rcases List.mem_cons.mp hc with q | q
  · subst q; exact ⟨o, e, n⟩
  · exact t c q
mutual
theorem Den.mv : ∀ {v : V} {d : D} {fp : List Addr}, Den K H v d fp → ∀ a ∈ fp, ∃ o, H a = some o ∧ Mv o
  | _, _, _, .non, a, h => nomatch h
  | _, _, _, .bl b, a, h => nomatch h
  | _, _, _, .int i, a, h => nomatch h
  | _, _, _, .str x, a, h => nomatch h
  | _, _, _, .lst e l, a, h => mv_cons e trivial (fun c hc => l.mv c hc) a h
  | _, _, _, .tup e l, a, h => l.mv a h
  | _, _, _, .dK e _ l, a, h => mv_cons e trivial (fun c hc => l.mv c hc) a h
  | _, _, _, .dT e _ l, a, h => mv_cons e trivial (fun c hc => l.mv c hc) a h
theorem DenL.mv : ∀ {vs : List V} {ds : List D} {fp : List Addr}, DenL K H vs ds fp → ∀ a ∈ fp, ∃ o, H a = some o ∧ Mv o
  | _, _, _, .nil, a, h => nomatch h
  | _, _, _, .cons e l, a, h => (List.mem_append.mp h).elim (fun q => e.mv a q) fun q => l.mv a q
end

mutual
/-- what has no list and no dict has no footprint, and is tracked -/
theorem Den.imm : ∀ {v : V} {d : D} {fp : List Addr}, Den K H v d fp → Iv.imm d = true → fp = []
  | _, _, _, .non, _ => rfl
  | _, _, _, .bl b, _ => rfl
  | _, _, _, .int i, _ => rfl
  | _, _, _, .str x, _ => rfl
  | _, _, _, .lst _ _, h => by simp [Iv.imm] at h
  | _, _, _, .tup e l, h => by
    exact l.imm (by simpa [Iv.imm] using h)
  | _, _, _, .dK _ _ _, h => by simp [Iv.imm] at h
  | _, _, _, .dT _ _ _, h => by simp [Iv.imm] at h
theorem DenL.imm : ∀ {vs : List V} {ds : List D} {fp : List Addr}, DenL K H vs ds fp → immL ds = true → fp = []
  | _, _, _, .nil, _ => rfl
  | _, _, _, .cons e l, h => by
    simp only [immL, Bool.and_eq_true] at h
    rw [e.imm h.1, l.imm h.2]
    rfl
end

theorem DenL.length : ∀ {vs : List V} {ds : List D} {fp : List Addr}, DenL K H vs ds fp → vs.length = ds.length
  | _, _, _, .nil => rfl
  | _, _, _, .cons _ l => congrArg (· + 1) l.length
theorem DenL.get : ∀ {vs : List V} {ds : List D} {fp : List Addr}, DenL K H vs ds fp → ∀ {i : Nat} {d : D}, ds[i]? = some d → ∃ v fq, vs[i]? = some v ∧ Den K H v d fq ∧ fq.Sublist fp
  | _, _, _, .nil, i, d, h => by simp at h
  | _, _, _, .cons (fp := f1) e l, 0, d, h => by
    simp at h
    subst h
    exact ⟨_, _, rfl, e, List.sublist_append_left _ _⟩
  | _, _, _, .cons e l, i + 1, d, h => by
    obtain ⟨v, fq, h1, h2, h3⟩ := l.get (i := i) (d := d) (by simpa using h)
    exact ⟨v, fq, by simpa using h1, h2, h3.trans (List.sublist_append_right _ _)⟩
theorem DenL.append : ∀ {vs ws : List V} {ds es : List D} {fp fq : List Addr}, DenL K H vs ds fp → DenL K H ws es fq → DenL K H (vs ++ ws) (ds ++ es) (fp ++ fq)
  | _, _, _, _, _, _, .nil, q => q
  | _, _, _, _, _, _, .cons e l, q => by
    rw [List.append_assoc]
    exact .cons e (l.append q)
theorem DenL.split {v : V} {vs : List V} {d : D} {ds : List D} (h : DenL K H (v :: vs) (d :: ds) []) : Den K H v d [] ∧ DenL K H vs ds [] := by
  generalize e : ([] : List Addr) = fp at h
  cases h with
  | cons a l =>
    obtain ⟨e1, e2⟩ := List.append_eq_nil_iff.mp e.symm
    subst e1 e2
    exact ⟨a, l⟩
theorem DenL.take : ∀ {vs : List V} {ds : List D}, DenL K H vs ds [] → ∀ n, DenL K H (vs.take n) (ds.take n) []
  | _, _, _, 0 => by simp; exact .nil
  | [], [], _, n + 1 => by simp; exact .nil
  | v :: vs, d :: ds, h, n + 1 => .cons (fp := []) (fq := []) h.split.1 (h.split.2.take n)
  | [], d :: ds, h, n + 1 => by have := h.length; simp at this
  | v :: vs, [], h, n + 1 => by have := h.length; simp at this
theorem DenL.drop : ∀ {vs : List V} {ds : List D}, DenL K H vs ds [] → ∀ n, DenL K H (vs.drop n) (ds.drop n) []
  | _, _, h, 0 => by simpa using h
  | [], [], _, n + 1 => by simp; exact .nil
  | v :: vs, d :: ds, h, n + 1 => by simpa using h.split.2.drop n
  | [], d :: ds, h, n + 1 => by have := h.length; simp at this
  | v :: vs, [], h, n + 1 => by have := h.length; simp at this
end

/-! ### slots -/
inductive Kd where | imm | flat | deep
  deriving DecidableEq
/-- where a value comes from: fresh; the very thing of an own slot; a part of one; shared -/
inductive Pv where | fr | sl (i : Nat) | pt (i : Nat) | sh
  deriving DecidableEq
structure Val where
  k : Kd
  p : Pv
  d : D
structure Sl where
  k : Kd
  own : Bool
  d : D
abbrev Env := List (Option Sl)

def flatD : D → Bool
  | .list ds => immL ds
  | .dict es => immL (es.map (·.2))
  | d => imm d
def KdOk : Kd → D → Prop
  | .imm, d => imm d = true
  | .flat, d => flatD d = true
  | .deep, _ => True

variable [Tbl]
structure ER (K : PySem.W.Frag) (H : Hp) (σ : St) (env : Env) (fps : Nat → List Addr) : Prop where
  len : σ.length = env.length
  val : ∀ i s, env[i]? = some (some s) → ∃ v, σ[i]? = some (some v) ∧ Den K H v s.d (fps i) ∧ KdOk s.k s.d
  nd : ∀ i s, env[i]? = some (some s) → s.own = true → (fps i).Nodup
  dj : ∀ i j s t, i ≠ j → env[i]? = some (some s) → s.own = true → env[j]? = some (some t) → ∀ a ∈ fps i, a ∉ fps j
  tb : LamX.Tabs Tbl.T H

/-- an own slot that is not locked -/
def Unl (L : List Nat) (env : Env) (i : Nat) : Prop := i ∉ L ∧ ∃ s, env[i]? = some (some s) ∧ s.own = true
def OwnA (L : List Nat) (env : Env) (fps : Nat → List Addr) (a : Addr) : Prop := ∃ i, Unl L env i ∧ a ∈ fps i
def AnyA (env : Env) (fps : Nat → List Addr) (a : Addr) : Prop := ∃ i s, env[i]? = some (some s) ∧ a ∈ fps i

/-- what an expression may change -/
structure Step (L : List Nat) (H : Hp) (env : Env) (fps : Nat → List Addr) (H' : Hp) (env' : Env) (fps' : Nat → List Addr) : Prop where
  keep : ∀ a o, H a = some o → ¬ OwnA L env fps a → NT o → H' a = some o
  fix : ∀ a o, H a = some o → Fixed o → H' a = some o
  oth : ∀ i, ¬ Unl L env i → env'[i]? = env[i]? ∧ fps' i = fps i
  own : ∀ i, Unl L env i → ∀ a ∈ fps' i, OwnA L env fps a ∨ H a = none
  alv : ∀ a, H a ≠ none → H' a ≠ none

/-- a value as it stands -/
def VOk (K : PySem.W.Frag) (H : Hp) (σ : St) (env : Env) (fps : Nat → List Addr) (v : V) (x : Val) (fp : List Addr) : Prop :=
  KdOk x.k x.d ∧ match x.p with
  | .fr => Den K H v x.d fp ∧ fp.Nodup ∧ ∀ a ∈ fp, ¬ AnyA env fps a
  | .sl i => σ[i]? = some (some v) ∧ env[i]? = some (some ⟨x.k, true, x.d⟩) ∧ fp = fps i
  | .pt i => Den K H v x.d fp ∧ (∃ s, env[i]? = some (some s) ∧ s.own = true) ∧ ∀ a ∈ fp, a ∈ fps i
  | .sh => Den K H v x.d fp ∧ ∀ a ∈ fp, ∀ i s, env[i]? = some (some s) → s.own = true → a ∉ fps i
/-- which values must have nothing in common -/
def Ap (p q : Pv) : Prop := (p = .fr ∧ (q = .fr ∨ q = .sh)) ∨ (p = .sh ∧ q = .fr)
/-- whence the footprint of a result may come -/
def Bnd (L : List Nat) (H : Hp) (env : Env) (fps : Nat → List Addr) (x : Val) (fp : List Addr) : Prop :=
  match x.p with
  | .fr => ∀ a ∈ fp, OwnA L env fps a ∨ H a = none
  | .sl _ => True
  | .pt _ => True
  | .sh => ∀ a ∈ fp, AnyA env fps a ∨ H a = none

section
variable {K : PySem.W.Frag} {H H1 H2 H3 H' : Hp} {σ : St} {env env1 env2 env3 : Env} {fps fps1 fps2 fps3 : Nat → List Addr} {L L' : List Nat} {v w : V} {x y : Val} {fp fq : List Addr}
theorem Unl.mono (h : ∀ i ∈ L, i ∈ L') {i : Nat} (u : Unl L' env i) : Unl L env i := ⟨fun q => u.1 (h i q), u.2⟩
theorem OwnA.mono (h : ∀ i ∈ L, i ∈ L') {a : Addr} (u : OwnA L' env fps a) : OwnA L env fps a := let ⟨i, q, r⟩ := u; ⟨i, q.mono h, r⟩
theorem OwnA.toAny {a : Addr} (u : OwnA L env fps a) : AnyA env fps a := let ⟨i, ⟨_, s, e, _⟩, r⟩ := u; ⟨i, s, e, r⟩
theorem Step.refl : Step L H env fps H env fps :=
  ⟨fun _ _ e _ _ => e, fun _ _ e _ => e, fun _ _ => ⟨rfl, rfl⟩, fun i u a ha => .inl ⟨i, u, ha⟩, fun _ h => h⟩
theorem Step.unl (S : Step L H1 env1 fps1 H2 env2 fps2) {i : Nat} (u : Unl L env2 i) : Unl L env1 i := by
  by_cases h : Unl L env1 i
  · exact h
  · obtain ⟨n, s, e, o⟩ := u
    rw [(S.oth i h).1] at e
    exact ⟨n, s, e, o⟩
theorem Step.ownBack (S : Step L H1 env1 fps1 H2 env2 fps2) {a : Addr} (u : OwnA L env2 fps2 a) : OwnA L env1 fps1 a ∨ H1 a = none := by
  obtain ⟨i, q, r⟩ := u
  exact S.own i (S.unl q) a r
theorem Step.noneBack (S : Step L H1 env1 fps1 H2 env2 fps2) (ok : ∀ a, OwnA L env1 fps1 a → H1 a ≠ none) {a : Addr} (h : H2 a = none) : OwnA L env1 fps1 a ∨ H1 a = none := by
  by_cases q : OwnA L env1 fps1 a
  · exact .inl q
  · refine .inr ?_
    cases e : H1 a with
    | none => rfl
    | some o => exact (S.alv a (by rw [e]; simp) h).elim
theorem ER.there (R : ER K H σ env fps) {a : Addr} (h : AnyA env fps a) : ∃ o, H a = some o ∧ ¬ Fixed o := by
  obtain ⟨i, s, e, q⟩ := h
  obtain ⟨v, _, h2, _⟩ := R.val i s e
  exact h2.there a q
theorem ER.mv (R : ER K H σ env fps) {a : Addr} (h : AnyA env fps a) : ∃ o, H a = some o ∧ Mv o := by
  obtain ⟨i, s, e, q⟩ := h
  obtain ⟨v, _, h2, _⟩ := R.val i s e
  exact h2.mv a q
theorem ER.ne (R : ER K H σ env fps) {a : Addr} (h : AnyA env fps a) : H a ≠ none := by
  obtain ⟨o, e, _⟩ := R.there h
  rw [e]; simp
theorem Step.trans (R : ER K H1 σ env1 fps1) (S : Step L H1 env1 fps1 H2 env2 fps2) (T : Step L H2 env2 fps2 H3 env3 fps3) : Step L H1 env1 fps1 H3 env3 fps3 := by
  refine ⟨fun a o e n t => T.keep a o (S.keep a o e n t) (fun q => ?_) t, fun a o e n => T.fix a o (S.fix a o e n) n, fun i n => ?_, fun i u => ?_, fun a h => T.alv a (S.alv a h)⟩
  · rcases S.ownBack q with h | h
    · exact n h
    · rw [e] at h; cases h
  · have h1 := S.oth i n
    have n2 : ¬ Unl L env2 i := fun q => n (S.unl q)
    have h2 := T.oth i n2
    exact ⟨h2.1.trans h1.1, h2.2.trans h1.2⟩
  · have h1 := S.own i u
    by_cases u2 : Unl L env2 i
    · intro a ha
      rcases T.own i u2 a ha with q | q
      · exact S.ownBack q
      · exact S.noneBack (fun b hb => R.ne hb.toAny) q
    · have h2 := T.oth i u2
      intro a ha
      rw [h2.2] at ha
      exact h1 a ha
theorem Step.mono (h : ∀ i ∈ L, i ∈ L') (S : Step L' H1 env1 fps1 H2 env2 fps2) : Step L H1 env1 fps1 H2 env2 fps2 := by
  refine ⟨fun a o e n t => S.keep a o e (fun q => n (q.mono h)) t, S.fix, fun i n => S.oth i fun q => n (q.mono h), fun i u => ?_, S.alv⟩
  by_cases q : Unl L' env1 i
  · exact fun a ha => (S.own i q a ha).imp (fun (z : OwnA L' env1 fps1 a) => z.mono h) id
  · obtain ⟨e1, e2⟩ := S.oth i q
    obtain ⟨n, s, e, o⟩ := u
    exact fun a ha => .inl ⟨i, ⟨n, s, e, o⟩, by rw [e2] at ha; exact ha⟩
theorem Step.anyBack (S : Step L H1 env1 fps1 H2 env2 fps2) {a : Addr} (u : AnyA env2 fps2 a) : AnyA env1 fps1 a ∨ H1 a = none := by
  obtain ⟨i, s, e, q⟩ := u
  by_cases h : Unl L env1 i
  · exact (S.own i h a q).imp (fun z => z.toAny) id
  · obtain ⟨e1, e2⟩ := S.oth i h
    rw [e1] at e
    rw [e2] at q
    exact .inl ⟨i, s, e, q⟩

theorem KdOk.imm' {k : Kd} {d : D} (h : KdOk k d) (e : k = .imm) : Iv.imm d = true := by subst e; exact h
theorem VOk.den (R : ER K H σ env fps) (h : VOk K H σ env fps v x fp) : Den K H v x.d fp := by
  obtain ⟨k, p, d⟩ := x
  cases p with
  | fr => exact h.2.1
  | sl i =>
    obtain ⟨_, e1, e2, rfl⟩ := h
    obtain ⟨v', e3, h2, _⟩ := R.val i _ e2
    rw [e1] at e3
    cases e3
    exact h2
  | pt i => exact h.2.1
  | sh => exact h.2.1
theorem VOk.kd (h : VOk K H σ env fps v x fp) : KdOk x.k x.d := h.1
/-- a value that waits while something else is worked out -/
theorem VOk.step (R : ER K H1 σ env1 fps1) (h : VOk K H1 σ env1 fps1 v x fp) (S : Step L H1 env1 fps1 H2 env2 fps2) (hl : ∀ i, x.p = .sl i ∨ x.p = .pt i → i ∈ L) : VOk K H2 σ env2 fps2 v x fp := by
  obtain ⟨k, p, d⟩ := x
  refine ⟨h.1, ?_⟩
  cases p with
  | fr =>
    obtain ⟨_, h1, h2, h3⟩ := h
    refine ⟨h1.stay S.fix fun a ha o e t => S.keep a o e (fun q => h3 a ha q.toAny) t, h2, fun a ha q => ?_⟩
    rcases S.anyBack q with z | z
    · exact h3 a ha z
    · obtain ⟨o, e, _⟩ := h1.there a ha
      rw [z] at e; cases e
  | sl i =>
    obtain ⟨_, h1, h2, h3⟩ := h
    have n : ¬ Unl L env1 i := fun q => q.1 (hl i (.inl rfl))
    obtain ⟨e1, e2⟩ := S.oth i n
    exact ⟨h1, e1.trans h2, h3.trans e2.symm⟩
  | pt i =>
    obtain ⟨_, h1, ⟨s, h2, h4⟩, h3⟩ := h
    have n : ¬ Unl L env1 i := fun q => q.1 (hl i (.inr rfl))
    obtain ⟨e1, e2⟩ := S.oth i n
    refine ⟨h1.stay S.fix fun a ha o e nt => S.keep a o e (fun ⟨j, ⟨nj, t, e', o'⟩, q⟩ => ?_) nt, ⟨s, e1.trans h2, h4⟩, fun a ha => by rw [e2]; exact h3 a ha⟩
    have hij : j ≠ i := fun z => by subst z; exact nj (hl j (.inr rfl))
    exact R.dj j i t s hij e' o' h2 a q (h3 a ha)
  | sh =>
    obtain ⟨_, h1, h2⟩ := h
    refine ⟨h1.stay S.fix fun a ha o e nt => S.keep a o e (fun ⟨i, ⟨_, s, e', o'⟩, q⟩ => h2 a ha i s e' o' q) nt, fun a ha i s e o q => ?_⟩
    by_cases u : Unl L env1 i
    · rcases S.own i u a q with ⟨j, ⟨_, t, e2, o2⟩, z⟩ | z
      · exact h2 a ha j t e2 o2 z
      · obtain ⟨o3, e3, _⟩ := h1.there a ha
        rw [z] at e3; cases e3
    · obtain ⟨e1, e2⟩ := S.oth i u
      rw [e1] at e
      rw [e2] at q
      exact h2 a ha i s e o q
/-- two fresh values, one behind the other -/
theorem VOk.apart (R : ER K H1 σ env1 fps1) (h : VOk K H1 σ env1 fps1 v x fp) (hp : Ap x.p y.p) (b : Bnd L H1 env1 fps1 y fq) : ∀ a ∈ fp, a ∉ fq := by
  obtain ⟨k, p, d⟩ := x
  obtain ⟨k', p', d'⟩ := y
  intro a ha hb
  rcases hp with ⟨hx, hy⟩ | ⟨hx, hy⟩
  · cases hx
    obtain ⟨_, h1, _, h3⟩ := h
    have key : AnyA env1 fps1 a ∨ H1 a = none → False := fun z => by
      rcases z with z | z
      · exact h3 a ha z
      · obtain ⟨o, e, _⟩ := h1.there a ha
        rw [z] at e; cases e
    rcases hy with hy | hy
    · cases hy; exact key ((b a hb).imp (fun z => z.toAny) id)
    · cases hy; exact key (b a hb)
  · cases hx
    cases hy
    obtain ⟨_, h1, h3⟩ := h
    rcases b a hb with ⟨i, ⟨_, s, e, o⟩, q⟩ | z
    · exact h3 a ha i s e o q
    · obtain ⟨o, e, _⟩ := h1.there a ha
      rw [z] at e; cases e
theorem Bnd.back (R : ER K H1 σ env1 fps1) (S : Step L H1 env1 fps1 H2 env2 fps2) (b : Bnd L H2 env2 fps2 x fp) : Bnd L H1 env1 fps1 x fp := by
  obtain ⟨k, p, d⟩ := x
  cases p with
  | fr =>
    intro a ha
    rcases b a ha with z | z
    · exact S.ownBack z
    · exact S.noneBack (fun _ q => R.ne q.toAny) z
  | sl i => trivial
  | pt i => trivial
  | sh =>
    intro a ha
    rcases b a ha with z | z
    · exact S.anyBack z
    · exact (S.noneBack (fun _ q => R.ne q.toAny) z).imp (fun q => q.toAny) id
theorem Bnd.mono (h : ∀ i ∈ L, i ∈ L') (b : Bnd L' H1 env1 fps1 x fp) : Bnd L H1 env1 fps1 x fp := by
  obtain ⟨k, p, d⟩ := x
  cases p with
  | fr => exact fun a ha => (b a ha).imp (fun q => q.mono h) id
  | sl i => trivial
  | pt i => trivial
  | sh => exact b
end
end Iv

set_option maxRecDepth 100000
/-! IvB: the small language, what its programs give. -/
namespace Iv
open PySem L2

/-! ### what works on values alone -/
inductive Pr
  | neg | add | sub | mul | fdiv | mod
  | lt | le | gt | ge | eq | ne | isin | notin | isNone | notNone
  | len | abs | max2 | min2 | toInt
  | sum | maxOf | minOf | sorted | tupleOf | listOf | repr | lrange | trange
  | sortT | sortR | sortTR | addT | slTo | slFrom | rev | revT | sumT | maxT | minT | idxL | mulT | addI | subI
  deriving DecidableEq

/-- all that is within is without lists and dicts -/
def fl (k : Kd) (d : D) : Bool := match k with
  | .deep => flatD d
  | _ => true

def intsOf : List D → Option (List Int)
  | [] => some []
  | .int i :: r => (intsOf r).map (i :: ·)
  | _ => none

def plain (d : D) : Bool := SeqAt.shaped d
def allAlikeB (ds : List D) : Bool := ds.all fun d => ds.all fun e => PySem.W.alike d e
def isTupN : D → Bool
  | .tuple (_ :: _) => true
  | _ => false
def noTup : D → Bool
  | .tuple _ => false
  | .none => false
  | _ => true
def sortableB (ds : List D) : Bool := ds.all isTupN || ds.all noTup
def sortOk (ds : List D) : Bool := allAlikeB ds && sortableB ds && decide (PyData.depthAll ds ≤ 64)
def sortD (ds : List D) : List D := ds.mergeSort (PySem.W.dataLe false id)
def sortDR (ds : List D) : List D := ds.mergeSort (PySem.W.dataLe true id)
def shows (d : D) : Bool := d.showable && decide (d.depth ≤ 64) && decide (d.shown.length ≤ sizeLine) && !d.hasDict

abbrev Res := Option (Kd × D)
def rI (d : D) : Res := some (.imm, d)
def rB (b : Bool) : Res := some (.imm, .bool b)
def rN (i : Int) : Res := some (.imm, .int i)
def fits (n : Nat) : Bool := decide (n ≤ 16777216)
def mulOk (i j : Int) : Bool := (decide (-(2 ^ 64) < i) && decide (i < 2 ^ 64)) || (decide (-(2 ^ 64) < j) && decide (j < 2 ^ 64))

def isNoneD : D → Bool
  | .none => true
  | _ => false
def rangeD (a b : Int) : List D := (List.range (b - a).toNat).map fun (i : Nat) => PyData.int (a + i)
def rgOk (a b : Int) : Bool := decide (-(2 ^ 62) ≤ a) && decide (a < 2 ^ 62) && decide (-(2 ^ 62) ≤ b) && decide (b < 2 ^ 62) && fits (b - a).toNat
/-- xs[:j], xs[j:] -/
def cutI (n : Nat) (j : Int) : Nat := if 0 ≤ j then min j.toNat n else (j + n).toNat
def toI {α : Type} (xs : List α) (j : Int) : List α := xs.take (cutI xs.length j)
def fromI {α : Type} (xs : List α) (j : Int) : List α := xs.drop (cutI xs.length j)
/-- the first place of e -/
def idxI (xs : List D) (e : D) : Option Int := (xs.findIdx? fun z => PyData.eqv z e).map fun (i : Nat) => (i : Int)
def pr1 (f : Pr) (k : Kd) (d : D) : Res :=
  match f, d with
  | .neg, .int i => rN (-i)
  | .isNone, d => rB (isNoneD d)
  | .notNone, d => rB (!isNoneD d)
  | .len, .list ds => rN ds.length
  | .len, .tuple ds => rN ds.length
  | .abs, .int i => rN (if i < 0 then -i else i)
  | .toInt, .int i => rN i
  | .toInt, .bool b => rN (if b then 1 else 0)
  | .sorted, .list ds => if fl k d && sortOk ds then some (.flat, .list (sortD ds)) else none
  | .tupleOf, .list ds => if fl k d then rI (.tuple ds) else none
  | .tupleOf, .tuple ds => if fl k d then rI (.tuple ds) else none
  | .listOf, .list ds => if fl k d then some (.flat, .list ds) else none
  | .listOf, .tuple ds => if fl k d then some (.flat, .list ds) else none
  | .repr, d => if shows d then rI (.str d.shown) else none
  | .lrange, .int n => if rgOk 0 n then some (.flat, .list (rangeD 0 n)) else none
  | .trange, .int n => if rgOk 0 n then some (.imm, .tuple (rangeD 0 n)) else none
  | .sum, .list ds => (intsOf ds).bind fun ns => rN ns.sum
  | .maxOf, .list ds => (intsOf ds).bind fun ns => if ns.isEmpty then none else rN (ns.foldl max (ns.headD 0))
  | .minOf, .list ds => (intsOf ds).bind fun ns => if ns.isEmpty then none else rN (ns.foldl min (ns.headD 0))
  | .sortT, .tuple ds => if fl k d && sortOk ds then some (.flat, .list (sortD ds)) else none
  | .sortR, .list ds => if fl k d && sortOk ds then some (.flat, .list (sortDR ds)) else none
  | .sortTR, .tuple ds => if fl k d && sortOk ds then some (.flat, .list (sortDR ds)) else none
  | .rev, .list ds => if fl k d then some (.flat, .list ds.reverse) else none
  | .revT, .tuple ds => if fl k d then rI (.tuple ds.reverse) else none
  | .sumT, .tuple ds => (intsOf ds).bind fun ns => rN ns.sum
  | .maxT, .tuple ds => (intsOf ds).bind fun ns => if ns.isEmpty then none else rN (ns.foldl max (ns.headD 0))
  | .minT, .tuple ds => (intsOf ds).bind fun ns => if ns.isEmpty then none else rN (ns.foldl min (ns.headD 0))
  | _, _ => none

def pr2 (f : Pr) (k : Kd) (d : D) (l : Kd) (e : D) : Res :=
  match f, d, e with
  | .add, .int i, .int j => rN (i + j)
  | .sub, .int i, .int j => rN (i - j)
  | .mul, .int i, .int j => if mulOk i j then rN (i * j) else none
  | .fdiv, .int i, .int j => if decide (0 < j) && decide (j < 1073741824) then rN (i / j) else none
  | .mod, .int i, .int j => if decide (0 < j) then rN (i % j) else none
  | .lt, .int i, .int j => rB (decide (i < j))
  | .le, .int i, .int j => rB (decide (i ≤ j))
  | .gt, .int i, .int j => rB (decide (j < i))
  | .ge, .int i, .int j => rB (decide (j ≤ i))
  | .max2, .int i, .int j => rN (if j > i then j else i)
  | .min2, .int i, .int j => rN (if j < i then j else i)
  | .add, .list xs, .list ys => if fl k d && fl l e && fits (xs.length + ys.length) then some (.flat, .list (xs ++ ys)) else none
  | .mul, .list xs, .int j => if fl k d && decide (-(2 ^ 63) ≤ j) && decide (j < 2 ^ 63) && fits (xs.length * j.toNat) then some (.flat, .list (List.replicate j.toNat xs).flatten) else none
  | .lrange, .int a, .int b => if rgOk a b then some (.flat, .list (rangeD a b)) else none
  | .trange, .int a, .int b => if rgOk a b then some (.imm, .tuple (rangeD a b)) else none
  | .eq, d, e => if plain d && plain e then rB (PyData.eqv d e) else none
  | .ne, d, e => if plain d && plain e then rB (!PyData.eqv d e) else none
  | .isin, d, .list es => if plain d && plain (.list es) then rB (es.any fun z => PyData.eqv z d) else none
  | .isin, d, .tuple es => if plain d && plain (.tuple es) then rB (es.any fun z => PyData.eqv z d) else none
  | .notin, d, .list es => if plain d && plain (.list es) then rB (!es.any fun z => PyData.eqv z d) else none
  | .notin, d, .tuple es => if plain d && plain (.tuple es) then rB (!es.any fun z => PyData.eqv z d) else none
  | .addT, .tuple xs, .tuple ys => if fl k d && fl l e && fits (xs.length + ys.length) then rI (.tuple (xs ++ ys)) else none
  | .mulT, .tuple xs, .int j => if fl k d && decide (1 ≤ j) && decide (j ≤ 1000) && decide (1 ≤ xs.length) && decide (xs.length ≤ 1000) then rI (.tuple (List.replicate j.toNat xs).flatten) else none
  | .slTo, .list xs, .int j => if fl k d && fits xs.length then some (.flat, .list (toI xs j)) else none
  | .slTo, .tuple xs, .int j => if fl k d && fits xs.length then rI (.tuple (toI xs j)) else none
  | .slFrom, .list xs, .int j => if fl k d && fits xs.length then some (.flat, .list (fromI xs j)) else none
  | .slFrom, .tuple xs, .int j => if fl k d && fits xs.length then rI (.tuple (fromI xs j)) else none
  | .addI, .int i, .int j => rN (i + j)
  | .subI, .int i, .int j => rN (i - j)
  | .idxL, .list xs, e => if fl k d && plain (.list xs) && plain e then (idxI xs e).bind fun i => rN i else none
  | _, _, _ => none

/-! ### programs -/

inductive Tg
  | nm (i : Nat)
  | tp (ts : List Tg)
inductive Ik | val | valF | rng1 | rng2 | enum | zip | enumT
  deriving DecidableEq
inductive Mt | append | pop | popAt
  deriving DecidableEq
/-- a small expression over slots -/
inductive KX
  | cap (i : Nat) | int (n : Int) | neg (a : KX) | sub (a b : KX) | ix (a b : KX) | len (a : KX) | tup (as : List KX)
inductive CE
  | var (i : Nat) | con (d : D)
  | p1 (f : Pr) (a : CE) | p2 (f : Pr) (a b : CE)
  | tup (as : List CE) | lst (as : List CE)
  | ix (a b : CE)
  | nt (a : CE) | andE (a b : CE) | orE (a b : CE) | ife (t a b : CE)
  | chain (f g : Pr) (a b c : CE)
  | call (f : Str) (as : List CE)
  | comp (dp : Bool) (own : List Nat) (elt : CE) (tg : Tg) (ik : Ik) (it : List CE) (cond : CE)
  | mut (m : Mt) (r : Nat) (path : List CE) (args : List CE)
  | sortK (rg : Bool) (i : Nat) (kc : KX) (a : CE)
  | idx (a b : CE)
  | bad
inductive CS
  | expr (e : CE) | asg (t : Tg) (e : CE) | par (i j : Nat) (a b : CE)
  | set (r : Nat) (path : List CE) (i e : CE)
  | ite (c : CE) (a b : List CS) | forS (t : Tg) (ik : Ik) (it : List CE) (body : List CS) | whl (c : CE) (body : List CS)
  | augS (r : Nat) (f : Pr) (i e : CE)
  | ret (e : CE) | retN | pass | brk | cnt | bad

inductive R (α : Type) | ok (a : α) | ex (n : Str) (env : Env) | no
def R.bind {α β : Type} : R α → (α → R β) → R β
  | .ok a, f => f a
  | .ex n e, _ => .ex n e
  | .no, _ => .no
def R.of {α : Type} : Option α → R α
  | some a => .ok a
  | none => .no

/-- functions by name: which parameters they change; what a call gives and how the parameters stand behind it -/
structure Tab where
  io : Str → List Bool
  fn : Str → List Sl → R (Val × Env)
  fuel : Nat

def V0 (d : D) : Val := ⟨.imm, .fr, d⟩
def lk (x : Val) (L : List Nat) : List Nat := match x.p with
  | .sl i => i :: L
  | .pt i => i :: L
  | _ => L
def lkIo (b : Bool) (x : Val) (L : List Nat) : List Nat := match b, x.p with
  | true, .sl _ => L
  | _, _ => lk x L
def lks (xs : List Val) (L : List Nat) : List Nat := xs.foldl (fun L x => lk x L) L
def sub1 (k : Kd) (d : D) : Kd := match k with
  | .deep => if imm d then .imm else .deep
  | _ => .imm
/-- slot i is its own's no more -/
def disown (i : Nat) (env : Env) : Env := match env[i]? with
  | some (some s) => env.set i (some { s with own := false })
  | _ => env
/-- the slots that values are the very things of -/
def slots : List Val → List Nat
  | [] => []
  | x :: r => match x.p with
    | .sl i => i :: slots r
    | .pt i => i :: slots r
    | _ => slots r
def share (x : Val) : Val := match x.p with
  | .sl _ => { x with p := .sh }
  | .pt _ => { x with p := .sh }
  | _ => x
/-- values that stand in more than one place from now on -/
def esc (L : List Nat) (xs : List Val) (env : Env) : Option (List Val × Env) :=
  if (slots xs).all (fun i => decide (i ∉ L)) then some (xs.map share, (slots xs).foldl (fun e i => disown i e) env) else none

def kAll (xs : List Val) : Bool := xs.all fun x => decide (x.k = .imm)
def pAll (xs : List Val) : Pv := if xs.all fun x => decide (x.p = .fr) then .fr else .sh

def load (i : Nat) (env : Env) : R (Val × Env) := match env[i]? with
  | some (some s) => .ok (if s.k = .imm then ⟨.imm, .fr, s.d⟩ else if s.own then ⟨s.k, .sl i, s.d⟩ else ⟨s.k, .sh, s.d⟩, env)
  | _ => .no
def store (L : List Nat) (i : Nat) (x : Val) (env : Env) : Option Env :=
  (esc L [x] env).bind fun q => match q.1 with
    | [y] => some (q.2.set i (some ⟨y.k, decide (y.p = .fr), y.d⟩))
    | _ => none

/-- a thing that stands within x -/
def part (x : Val) (d : D) : Val := if sub1 x.k d = .imm then V0 d else ⟨.deep, match x.p with | .sl i => .pt i | p => p, d⟩
mutual
def asgT (L : List Nat) : Tg → Val → Env → Option Env
  | .nm i, x, env => store L i x env
  | .tp ts, x, env => (esc L [x] env).bind fun q => match q.1 with
    | [y] => match y.d with
      | .tuple ds => asgTs L ts (ds.map fun d => part { y with p := .sh } d) q.2
      | _ => none
    | _ => none
def asgTs (L : List Nat) : List Tg → List Val → Env → Option Env
  | [], [], env => some env
  | t :: ts, d :: ds, env => (asgT L t d env).bind fun env => asgTs L ts ds env
  | _, _, _ => none
end

def ixV (x y : Val) : Option Val :=
  match x.d, y.d with
  | .list ds, .int i => (atI ds i).map (part x)
  | .tuple ds, .int i => (atI ds i).map (part x)
  | .dict es, .str k => (es.find? fun e => PyData.eqv e.1 (.str k)).map fun e => part x e.2
  | _, _ => none

/-- the items of a list or a tuple -/
def seqD : D → Option (List D)
  | .list ds => some ds
  | .tuple ds => some ds
  | _ => none
/-- what a loop walks, by what its source is -/
def itsOf (ik : Ik) (vs : List Val) : Option (List Val) := match ik, vs with
  | .val, [x] => match x.d with
    | .list ds => some (ds.map (part { x with p := .sh }))
    | .tuple ds => some (ds.map (part { x with p := .sh }))
    | _ => none
  | .valF, [x] => match x.d with
    | .list ds => some (ds.map (part { x with p := .sh }))
    | .tuple ds => some (ds.map (part { x with p := .sh }))
    | _ => none
  | .rng1, [x] => match x.d with
    | .int n => if rgOk 0 n then some ((rangeD 0 n).map V0) else none
    | _ => none
  | .rng2, [x, y] => match x.d, y.d with
    | .int a, .int b => if rgOk a b then some ((rangeD a b).map V0) else none
    | _, _ => none
  | .enum, [x] => match x.d with
    | .list ds => if fl x.k x.d then some (ds.zipIdx.map fun p => V0 (.tuple [.int (p.2 : Nat), p.1])) else none
    | _ => none
  | .enumT, [x] => match x.d with
    | .tuple ds => if fl x.k x.d then some (ds.zipIdx.map fun p => V0 (.tuple [.int (p.2 : Nat), p.1])) else none
    | _ => none
  | .zip, [x, y] => match seqD x.d, seqD y.d with
    | some ds, some es => some ((ds.zip es).map fun p => V0 (.tuple [p.1, p.2]))
    | _, _ => none
  | _, _ => none
/-- what is walked is shared from now on if lists stand in it -/
def escIts (L : List Nat) (vs : List Val) (env : Env) : Option (List Val × Env) := if kAll vs || vs.all (fun x => decide (x.k ≠ .deep)) then some (vs, env) else esc L vs env
/-- valF: a list out of another one, without lists in it: nothing is shared by walking it -/
def relab (x : Val) : Val := if x.k = .deep then { x with k := .flat } else x
def escK (ik : Ik) (L : List Nat) (vs : List Val) (env : Env) : Option (List Val × Env) := match ik with
  | .valF => if vs.all (fun x => fl x.k x.d) then some (vs.map relab, env) else none
  | .zip => if vs.all (fun x => fl x.k x.d) then some (vs, env) else none
  | _ => escIts L vs env

/-- the data at a path changed -/
def atPath {β : Type} : List D → (D → Option (D × β)) → D → Option (D × β)
  | [], f, d => f d
  | k :: ks, f, .list ds => match k with
    | .int i => (ixN ds.length i).bind fun j => (ds[j]?).bind fun d => (atPath ks f d).map fun q => (.list (ds.set j q.1), q.2)
    | _ => none
  | k :: ks, f, .dict es => match k with
    | .str s => (es.findIdx? fun e => PyData.eqv e.1 (.str s)).bind fun j => (es[j]?).bind fun e => (atPath ks f e.2).map fun q => (.dict (es.set j (e.1, q.1)), q.2)
    | _ => none
  | _, _, _ => none
/-- a place in a list or a dict taken by another thing -/
def putD (k : D) (v : D) : D → Option (D × D)
  | .list ds => match k with
    | .int i => (ixN ds.length i).map fun j => (.list (ds.set j v), .none)
    | _ => none
  | .dict es => match k with
    | .str s => match es.findIdx? fun e => PyData.eqv e.1 (.str s) with
      | some j => if decide (es.length < 16777216) && (es.drop (j + 1)).all (fun e => !PyData.eqv e.1 (.str s)) then some (.dict (es.set j (.str s, v)), .none) else none
      | none => none
    | _ => none
  | _ => none
def mutD (m : Mt) (args : List D) : D → Option (D × D)
  | .list ds => match m, args with
    | .append, [d] => if fits (ds.length + 1) then some (.list (ds ++ [d]), .none) else none
    | .pop, [] => (ds[ds.length - 1]?).map fun y => (.list ds.dropLast, y)
    | .popAt, [.int i] => if decide (-(2 ^ 63) ≤ i) && decide (i < 2 ^ 63) then (seqIndex? i ds.length).bind fun k => (ds[k]?).map fun y => (.list (ds.eraseIdx k), y) else none
    | _, _ => none
  | _ => none

/-- values that go into another thing: own ones leave their slots -/
def mv (L : List Nat) : List Val → Env → Option (List Val × Env)
  | [], env => some ([], env)
  | x :: xs, env => match x.p with
    | .fr => (mv L xs env).map fun q => (x :: q.1, q.2)
    | .sl i => if i ∈ L then none else match env[i]? with
      | some (some s) => if s.own then (mv L xs (env.set i none)).map fun q => (⟨x.k, .fr, x.d⟩ :: q.1, q.2) else none
      | _ => none
    | _ => none
/-- a path whose steps are without lists -/
def changed (L : List Nat) (r : Nat) (env : Env) (kx : Bool) (f : D → Option (D × D)) : Option (Val × Env) :=
  if r ∈ L then none else match env[r]? with
  | some (some s) => if s.own && decide (s.k ≠ .imm) then (f s.d).map fun q =>
      ((if sub1 s.k q.2 = .imm then V0 q.2 else ⟨.deep, .fr, q.2⟩), env.set r (some ⟨if kx then s.k else .deep, true, q.1⟩)) else none
  | _ => none

/-- a slot that is one's own, and has what the path says -/
def okP (ok : D → Bool) (r : Nat) (env : Env) (ks : List D) : Bool := match env[r]? with
  | some (some s) => s.own && decide (s.k ≠ .imm) && (atPath ks (fun d => if ok d then some (d, ()) else none) s.d).isSome
  | _ => false
def isL : D → Bool
  | .list _ => true
  | _ => false
def anyD (_ : D) : Bool := true

inductive RS | nx (env : Env) | rt (x : Val) (env : Env) | bk (env : Env) | ct (env : Env) | ex (n : Str) (env : Env) | no

/-- a comprehension's turns -/
def compL (L : List Nat) (own : List Nat) (dp : Bool) (tg : Tg) (cond : Env → R (Val × Env)) (elt : Env → R (Val × Env)) : List Val → List Val → Env → R (List Val × Env)
  | [], acc, env => .ok (acc, env)
  | x :: xs, acc, env => (R.of (asgT L tg x env)).bind fun env => (cond env).bind fun q => match q.1.d with
    | .bool true => (elt q.2).bind fun r => (R.of (esc L [r.1] r.2)).bind fun z => if dp || kAll z.1 then compL L own dp tg cond elt xs (acc ++ z.1) (own.foldl (fun e i => e.set i none) z.2) else .no
    | .bool false => compL L own dp tg cond elt xs acc (own.foldl (fun e i => e.set i none) q.2)
    | _ => .no
def unown (own : List Nat) (env0 env : Env) : Env := own.foldl (fun e i => e.set i (env0[i]?.getD none)) env

/-- the call of a function: the slots that it may change; those that it may look at -/
def ioS : List Bool → List Val → List Nat
  | io, x :: xs => match io.headD false, x.p with
    | true, .sl i => i :: ioS io.tail xs
    | _, _ => ioS io.tail xs
  | _, [] => []
def roS : List Bool → List Val → List Val
  | io, x :: xs => match io.headD false with
    | true => roS io.tail xs
    | false => x :: roS io.tail xs
  | _, [] => []
def prepL : List Bool → List Val → Env → Option (List Sl)
  | io, x :: xs, env => match io.headD false with
    | true => match x.p with
      | .sl i => match env[i]? with
        | some (some s) => if s.own then (prepL io.tail xs env).map (s :: ·) else none
        | _ => none
      | .fr => (prepL io.tail xs env).map (⟨x.k, true, x.d⟩ :: ·)
      | _ => none
    | false => (prepL io.tail xs env).map (⟨x.k, decide (x.p = .fr), x.d⟩ :: ·)
  | _, [], _ => some []
def prep (L : List Nat) (io : List Bool) (xs : List Val) (env : Env) : Option (List Sl) :=
  if decide (ioS io xs).Nodup && (ioS io xs).all (fun i => decide (i ∉ L) && decide (i ∉ slots (roS io xs))) then prepL io xs env else none
/-- how the changed slots stand behind the call -/
def back : List Bool → List Val → Env → Env → Env
  | io, x :: xs, o :: fin, env => match io.headD false, x.p with
    | true, .sl i => back io.tail xs fin (env.set i o)
    | _, _ => back io.tail xs fin env
  | _, _, _, env => env
/-- what the caller may see of a callee's parameters -/
def maskE : List Bool → Env → Env
  | io, o :: env => (if io.headD false then o else none) :: maskE io.tail env
  | _, [] => []

/-! keys -/
def kx1 (d : D) : Option D := match d with
  | .int i => some (.int (-i))
  | _ => none
def kx2 (d e : D) : Option D := match d, e with
  | .int i, .int j => some (.int (i - j))
  | _, _ => none
def kxI (d e : D) : Option D := match d, e with
  | .list ds, .int i => if fits ds.length then atI ds i else none
  | .tuple ds, .int i => if fits ds.length then atI ds i else none
  | _, _ => none
mutual
def kx (env : Env) : KX → Option D
  | .cap i => match env[i]? with
    | some (some s) => if s.d.hasDict then none else some s.d
    | _ => none
  | .int n => some (.int n)
  | .neg a => (kx env a).bind kx1
  | .sub a b => (kx env a).bind fun d => (kx env b).bind (kx2 d)
  | .ix a b => (kx env a).bind fun d => (kx env b).bind (kxI d)
  | .len a => none
  | .tup as => (kxs env as).bind fun ds => if fits ds.length then some (.tuple ds) else none
def kxs (env : Env) : List KX → Option (List D)
  | [] => some []
  | a :: as => (kx env a).bind fun d => (kxs env as).bind fun ds => some (d :: ds)
end

/-- the keys of items, the parameter at the slot i -/
def keysK (env : Env) (i : Nat) (kc : KX) : List D → Option (List D)
  | [] => some []
  | d :: ds => if d.hasDict then none else (kx (env.set i (some ⟨.imm, true, d⟩)) kc).bind fun k => if imm k then (keysK env i kc ds).map (k :: ·) else none
def srcK (rg : Bool) (x : Val) : Option (List D) := match rg, x.d with
  | false, .list ds => if fl x.k x.d then some ds else none
  | false, .tuple ds => if fl x.k x.d then some ds else none
  | true, .int n => if rgOk 0 n then some (rangeD 0 n) else none
  | _, _ => none
def sortBy (ds ks : List D) : List D := ((ds.zip ks).mergeSort (PySem.W.dataLe false Prod.snd)).map (·.1)
section
variable (T : Tab)
mutual
def ev : CE → List Nat → Env → R (Val × Env)
  | .var i, L, env => load i env
  | .con d, L, env => .ok (V0 d, env)
  | .p1 f a, L, env => (ev a L env).bind fun q => R.of ((pr1 f q.1.k q.1.d).map fun r => (⟨r.1, .fr, r.2⟩, q.2))
  | .p2 f a b, L, env => (ev a L env).bind fun q => (ev b (lk q.1 L) q.2).bind fun p => R.of ((pr2 f q.1.k q.1.d p.1.k p.1.d).map fun r => (⟨r.1, .fr, r.2⟩, p.2))
  | .tup as, L, env => (evs [] as L env).bind fun q => if fits q.1.length then (R.of (esc L q.1 q.2)).bind fun z => .ok (⟨if kAll z.1 then .imm else .deep, pAll z.1, .tuple (z.1.map (·.d))⟩, z.2) else .no
  | .lst as, L, env => (evs [] as L env).bind fun q => if fits q.1.length then (R.of (esc L q.1 q.2)).bind fun z => .ok (⟨if kAll z.1 then .flat else .deep, pAll z.1, .list (z.1.map (·.d))⟩, z.2) else .no
  | .ix a b, L, env => (ev a L env).bind fun q => (ev b (lk q.1 L) q.2).bind fun p => R.of ((ixV q.1 p.1).map fun r => (r, p.2))
  | .nt a, L, env => (ev a L env).bind fun q => match q.1.d with
    | .bool b => .ok (V0 (.bool (!b)), q.2)
    | _ => .no
  | .andE a b, L, env => (ev a L env).bind fun q => match q.1.d with
    | .bool true => ev b L q.2
    | .bool false => .ok (V0 (.bool false), q.2)
    | _ => .no
  | .orE a b, L, env => (ev a L env).bind fun q => match q.1.d with
    | .bool true => .ok (V0 (.bool true), q.2)
    | .bool false => ev b L q.2
    | _ => .no
  | .ife t a b, L, env => (ev t L env).bind fun q => match q.1.d with
    | .bool true => ev a L q.2
    | .bool false => ev b L q.2
    | _ => .no
  | .chain f g a b c, L, env => (ev a L env).bind fun q => (ev b (lk q.1 L) q.2).bind fun p => match pr2 f q.1.k q.1.d p.1.k p.1.d with
    | some (_, .bool true) => (ev c (lk p.1 L) p.2).bind fun o => R.of ((pr2 g p.1.k p.1.d o.1.k o.1.d).map fun r => (⟨r.1, .fr, r.2⟩, o.2))
    | some (_, .bool false) => .ok (V0 (.bool false), p.2)
    | _ => .no
  | .call f as, L, env => (evs (T.io f) as L env).bind fun q => (R.of (prep L (T.io f) q.1 q.2)).bind fun ps => match T.fn f ps with
    | .ok r => if r.1.p = .fr then .ok (r.1, back (T.io f) q.1 r.2 q.2) else (R.of (esc L (roS (T.io f) q.1) (back (T.io f) q.1 r.2 q.2))).bind fun z => .ok ({ r.1 with p := .sh }, z.2)
    | .ex n fin => .ex n (back (T.io f) q.1 fin q.2)
    | .no => .no
  | .comp dp own elt tg ik it cond, L, env => (evs [] it L env).bind fun q => (R.of (escK ik L q.1 q.2)).bind fun z => (R.of (itsOf ik z.1)).bind fun xs =>
      if !fits xs.length then .no else match compL (lks z.1 L) own dp tg (fun e => ev cond (lks z.1 L) e) (fun e => ev elt (lks z.1 L) e) xs [] (own.foldl (fun e i => e.set i none) z.2) with
      | .ok (acc, env1) => .ok (⟨if dp then .deep else .flat, pAll acc, .list (acc.map (·.d))⟩, unown own z.2 env1)
      | _ => .no
  | .mut m r path args, L, env => if decide (r ∈ L) || !okP anyD r env [] then .no else (evs [] path L env).bind fun q => if kAll q.1 && okP isL r q.2 (q.1.map (·.d)) then
      (evs [] args (if q.1.isEmpty then L else r :: L) q.2).bind fun p => (R.of (mv (r :: L) p.1 p.2)).bind fun o => R.of (changed L r o.2 (kAll o.1) (atPath (q.1.map (·.d)) (mutD m (o.1.map (·.d))))) else .no
  | .sortK rg i kc a, L, env => (ev a L env).bind fun q => match srcK rg q.1 with
    | some ds => match keysK q.2 i kc ds with
      | some ks => if sortOk ks then .ok (⟨.flat, .fr, .list (sortBy ds ks)⟩, q.2) else .no
      | none => .no
    | none => .no
  | .idx a b, L, env => (ev a L env).bind fun q => if isL q.1.d then (ev b (lk q.1 L) q.2).bind fun p => R.of ((pr2 .idxL q.1.k q.1.d p.1.k p.1.d).map fun r => (⟨r.1, .fr, r.2⟩, p.2)) else .no
  | .bad, _, _ => .no
def evs : List Bool → List CE → List Nat → Env → R (List Val × Env)
  | _, [], L, env => .ok ([], env)
  | io, a :: as, L, env => (ev a L env).bind fun q => (evs io.tail as (lkIo (io.headD false) q.1 L) q.2).bind fun r => .ok (q.1 :: r.1, r.2)
end

/-- the number at a place of a list in a slot -/
def getN (r : Nat) (k : D) (env : Env) : Option Int := match env[r]? with
  | some (some s) => match s.d, k with
    | .list ds, .int j => match atI ds j with
      | some (.int n) => some n
      | _ => none
    | _, _ => none
  | _ => none
/-- a loop's turns -/
def forL (L : List Nat) (tg : Tg) (body : Env → RS) : List Val → Env → RS
  | [], env => .nx env
  | x :: xs, env => match asgT L tg x env with
    | none => .no
    | some env => match body env with
      | .nx env => forL L tg body xs env
      | .ct env => forL L tg body xs env
      | .bk env => .nx env
      | r => r
def whlL (c : Env → R (Val × Env)) (body : Env → RS) : Nat → Env → RS
  | 0, _ => .no
  | n + 1, env => match c env with
    | .ok (q, env) => match q.d with
      | .bool true => match body env with
        | .nx env => whlL c body n env
        | .ct env => whlL c body n env
        | .bk env => .nx env
        | r => r
      | .bool false => .nx env
      | _ => .no
    | .ex n e => .ex n e
    | .no => .no
def R.rs {α : Type} : R α → (α → RS) → RS
  | .ok a, f => f a
  | .ex n e, _ => .ex n e
  | .no, _ => .no
mutual
def exec : CS → List Nat → Env → RS
  | .expr e, L, env => (ev T e L env).rs fun q => .nx q.2
  | .asg t e, L, env => (ev T e L env).rs fun q => (R.of (asgT L t q.1 q.2)).rs fun env => .nx env
  | .par i j a b, L, env => (evs T [] [a, b] L env).rs fun q => (R.of (esc L q.1 q.2)).rs fun z => match z.1 with
    | [x, y] => .nx ((z.2.set i (some ⟨x.k, decide (x.p = .fr), x.d⟩)).set j (some ⟨y.k, decide (y.p = .fr), y.d⟩))
    | _ => .no
  | .set r path i e, L, env => if decide (r ∈ L) || !okP anyD r env [] then .no else (ev T e L env).rs fun x => (evs T [] path (lk x.1 L) x.2).rs fun q => if kAll q.1 && okP anyD r q.2 (q.1.map (·.d)) then (ev T i (if q.1.isEmpty then lk x.1 L else r :: lk x.1 L) q.2).rs fun k =>
      (R.of (mv (r :: L) [x.1] k.2)).rs fun o => (match o.1 with
        | [y] => (R.of (changed L r o.2 (decide (y.k = .imm)) (atPath (q.1.map (·.d)) (putD k.1.d y.d)))).rs fun z => .nx z.2
        | _ => .no) else .no
  | .augS r f i e, L, env => if decide (r ∈ L) || !okP isL r env [] then .no else (ev T i (r :: L) env).rs fun k => match getN r k.1.d k.2 with
    | some old => (ev T e (r :: L) k.2).rs fun y => match pr2 f .imm (.int old) y.1.k y.1.d with
      | some (_, .int new) => (R.of (changed L r y.2 true (atPath [] (putD k.1.d (.int new))))).rs fun z => .nx z.2
      | _ => .no
    | none => .no
  | .ite c a b, L, env => (ev T c L env).rs fun q => match q.1.d with
    | .bool true => execs a L q.2
    | .bool false => execs b L q.2
    | _ => .no
  | .forS tg ik it body, L, env => (evs T [] it L env).rs fun q => (R.of (escK ik L q.1 q.2)).rs fun z => (R.of (itsOf ik z.1)).rs fun xs => forL (lks z.1 L) tg (fun e => execs body (lks z.1 L) e) xs z.2
  | .whl c body, L, env => whlL (fun e => ev T c L e) (fun e => execs body L e) T.fuel env
  | .ret e, L, env => (ev T e L env).rs fun q => .rt q.1 q.2
  | .retN, L, env => .rt (V0 .none) env
  | .pass, L, env => .nx env
  | .brk, L, env => .bk env
  | .cnt, L, env => .ct env
  | .bad, _, _ => .no
def execs : List CS → List Nat → Env → RS
  | [], L, env => .nx env
  | s :: ss, L, env => match exec s L env with
    | .nx env => execs ss L env
    | r => r
end
end

/-- a def: its parameters' number, its slots' number, which parameters it changes, its body -/
structure Def where
  np : Nat
  ns : Nat
  io : List Bool
  body : List CS
def retP (io : List Bool) (x : Val) : Option Pv := match x.p with
  | .fr => some .fr
  | .sl i => if (io.getD i false) then none else some .fr
  | .pt i => if (io.getD i false) then none else some .sh
  | .sh => some .sh
def runD (T : Tab) (d : Def) (ps : List Sl) : R (Val × Env) :=
  if ps.length = d.np then match execs T d.body [] (ps.map some ++ List.replicate (d.ns - d.np) none) with
    | .nx env => .ok (V0 .none, maskE d.io (env.take d.np))
    | .rt x env => (R.of (retP d.io x)).bind fun p => .ok ({ x with p := p }, maskE d.io (env.take d.np))
    | _ => .no
  else .no
def ioOf (defs : Str → Option Def) (f : Str) : List Bool := ((defs f).map (·.io)).getD []
def fnK (defs : Str → Option Def) (fuel : Nat) : Nat → Str → List Sl → R (Val × Env)
  | 0, _, _ => .no
  | k + 1, f, ps => match defs f with
    | some d => runD ⟨ioOf defs, fnK defs fuel k, fuel⟩ d ps
    | none => .no
/-- the functions to the depth k -/
def tab (defs : Str → Option Def) (fuel k : Nat) : Tab := ⟨ioOf defs, fnK defs fuel k, fuel⟩
end Iv

set_option maxRecDepth 100000
set_option maxHeartbeats 1000000
/-! IvC: what is promised of a result; the rules of expressions. -/
namespace Iv
open PySem L2
variable [Tbl]

def Ext (H H' : Hp) : Prop := ∀ a o, H a = some o → H' a = some o
theorem Ext.refl (H : Hp) : Ext H H := fun _ _ e => e
theorem Ext.upd {H : Hp} {p : Addr} {o : HO} (h : H p = none) : Ext H (upd H p o) := fun a u e => by rw [upd_ne (ne_of_none e h)]; exact e
theorem Ext.trans {H H1 H2 : Hp} (a : Ext H H1) (b : Ext H1 H2) : Ext H H2 := fun c o e => b c o (a c o e)

section
variable {K : PySem.W.Frag} {H H1 H2 H3 H' : Hp} {σ : St} {env env1 env2 env3 env' : Env} {fps fps1 fps2 fps3 : Nat → List Addr} {L L' : List Nat} {v w : V} {x y : Val} {fp fq : List Addr} {W : WX} {xc : Str → Value}

theorem Ext.den (e : Ext H H') {d : D} (h : Den K H v d fp) : Den K H' v d fp := h.stay (fun a o q _ => e a o q) fun a _ o q _ => e a o q
theorem Ext.denL (e : Ext H H') {vs : List V} {ds : List D} (h : DenL K H vs ds fp) : DenL K H' vs ds fp := h.stay (fun a o q _ => e a o q) fun a _ o q _ => e a o q
theorem Ext.step (e : Ext H H') : Step L H env fps H' env fps := ⟨fun a o q _ _ => e a o q, fun a o q _ => e a o q, fun _ _ => ⟨rfl, rfl⟩, fun i u a ha => .inl ⟨i, u, ha⟩, fun a h => by
  cases q : H a with
  | none => exact (h q).elim
  | some o => rw [e a o q]; simp⟩
theorem ER.ext (R : ER K H σ env fps) (e : Ext H H') : ER K H' σ env fps :=
  ⟨R.len, fun i s q => let ⟨v, h1, h2, h3⟩ := R.val i s q; ⟨v, h1, e.den h2, h3⟩, R.nd, R.dj, R.tb.ext e⟩

/-- what is promised of an expression's result -/
def PostR (K : PySem.W.Frag) (xc : Str → Value) (W : WX) (L : List Nat) (σ : St) (H : Hp) (env : Env) (fps : Nat → List Addr) (r : R (Val × Env)) (Q : VK) : Prop := match r with
  | .ok q => ∀ v H' fps' fp, Step L H env fps H' q.2 fps' → ER K H' σ q.2 fps' → VOk K H' σ q.2 fps' v q.1 fp → Bnd L H env fps q.1 fp → Q v H'
  | .ex n env' => ∀ H' fps', Step L H env fps H' env' fps' → ER K H' σ env' fps' → W (xc n) none σ H'
  | .no => False
def tI (K : PySem.W.Frag) (xc : Str → Value) (T : Tab) (W : WX) (c : CE) : TE := fun σ H Q => ∃ L env fps, ER K H σ env fps ∧ PostR K xc W L σ H env fps (ev T c L env) Q

theorem PostR.rebase {r : R (Val × Env)} {Q : VK} (R : ER K H σ env fps) (S : Step L H env fps H1 env1 fps1) (R1 : ER K H1 σ env1 fps1) (P : PostR K xc W L σ H env fps r Q) : PostR K xc W L σ H1 env1 fps1 r Q := by
  cases r with
  | ok q => exact fun v H' fps' fp s1 r1 v1 b1 => P v H' fps' fp (S.trans R s1) r1 v1 (b1.back R S)
  | ex n e => exact fun H' fps' s1 r1 => P H' fps' (S.trans R s1) r1
  | no => exact P
theorem PostR.mono {r : R (Val × Env)} {Q : VK} (h : ∀ i ∈ L, i ∈ L') (P : PostR K xc W L σ H env fps r Q) : PostR K xc W L' σ H env fps r Q := by
  cases r with
  | ok q => exact fun v H' fps' fp s1 r1 v1 b1 => P v H' fps' fp (s1.mono h) r1 v1 (b1.mono h)
  | ex n e => exact fun H' fps' s1 r1 => P H' fps' (s1.mono h) r1
  | no => exact P
theorem PostR.imp {r : R (Val × Env)} {Q Q' : VK} (h : ∀ v H', Q v H' → Q' v H') (P : PostR K xc W L σ H env fps r Q) : PostR K xc W L σ H env fps r Q' := by
  cases r with
  | ok q => exact fun v H' fps' fp s1 r1 v1 b1 => h _ _ (P v H' fps' fp s1 r1 v1 b1)
  | ex n e => exact P
  | no => exact P
theorem lk_sub (x : Val) (L : List Nat) : ∀ i ∈ L, i ∈ lk x L := fun i h => by
  unfold lk
  split <;> first | exact List.mem_cons_of_mem _ h | exact h
theorem lk_has {x : Val} {L : List Nat} {i : Nat} (h : x.p = .sl i ∨ x.p = .pt i) : i ∈ lk x L := by
  unfold lk
  rcases h with h | h <;> rw [h] <;> exact List.mem_cons_self

/-- first this (with more locked), then that -/
theorem tI.bind {T : Tab} {a : CE} {f : Val × Env → R (Val × Env)} {Q Q1 : VK} (hL : ∀ i ∈ L, i ∈ L') (R : ER K H σ env fps) (P : PostR K xc W L σ H env fps ((ev T a L' env).bind f) Q)
    (k : ∀ x env1 v H1 fps1 fp, Step L' H env fps H1 env1 fps1 → ER K H1 σ env1 fps1 → VOk K H1 σ env1 fps1 v x fp → Bnd L' H env fps x fp → PostR K xc W L σ H1 env1 fps1 (f (x, env1)) Q → Q1 v H1) : tI K xc T W a σ H Q1 := by
  refine ⟨L', env, fps, R, ?_⟩
  cases e : ev T a L' env with
  | ok q =>
    rw [e] at P
    obtain ⟨x, env1⟩ := q
    exact fun v H1 fps1 fp s1 r1 v1 b1 => k x env1 v H1 fps1 fp s1 r1 v1 b1 (PostR.rebase R (s1.mono hL) r1 P)
  | ex n e' => rw [e] at P; exact PostR.mono (r := .ex n e') (Q := Q1) hL P
  | no => rw [e] at P; exact P
theorem self_sub (L : List Nat) : ∀ i ∈ L, i ∈ L := fun _ h => h

/-- a new thing, fresh -/
def New (K : PySem.W.Frag) (H : Hp) (r : Kd × D) (Q : VK) : Prop := ∀ v H' fp, Ext H H' → Den K H' v r.2 fp → fp.Nodup → (∀ a ∈ fp, H a = none) → KdOk r.1 r.2 → Q v H'
theorem New.post {r : Kd × D} {Q : VK} (R : ER K H σ env fps) (P : PostR K xc W L σ H env fps (.ok (⟨r.1, .fr, r.2⟩, env)) Q) : New K H r Q := fun v H' fp e d n f k =>
  P v H' fps fp e.step (R.ext e) ⟨k, d, n, fun a ha q => R.ne q (f a ha)⟩ fun a ha => .inr (f a ha)
theorem New.of {r : Option (Kd × D)} {Q : VK} (R : ER K H σ env fps) (P : PostR K xc W L σ H env fps (Iv.R.of (r.map fun r => (⟨r.1, .fr, r.2⟩, env))) Q) : ∃ q, r = some q ∧ New K H q Q := by
  cases r with
  | none => exact P.elim
  | some q => exact ⟨q, rfl, New.post R P⟩

/-- by values -/
def rP1 (K : PySem.W.Frag) (f : Pr) (v : V) (H : Hp) (Q : VK) : Prop := ∃ k d fp r, Den K H v d fp ∧ KdOk k d ∧ pr1 f k d = some r ∧ New K H r Q
def rP2 (K : PySem.W.Frag) (f : Pr) (v w : V) (H : Hp) (Q : VK) : Prop := ∃ k d fp l e fq r, Den K H v d fp ∧ KdOk k d ∧ Den K H w e fq ∧ KdOk l e ∧ pr2 f k d l e = some r ∧ New K H r Q
def rC1 (K : PySem.W.Frag) (f : Pr) (vs : List V) (H : Hp) (Q : VK) : Prop := ∃ v, vs = [v] ∧ rP1 K f v H Q
def rC2 (K : PySem.W.Frag) (f : Pr) (vs : List V) (H : Hp) (Q : VK) : Prop := ∃ v w, vs = [v, w] ∧ rP2 K f v w H Q
end

/-- an expression and its code: as a value, as a test -/
structure Sd (X : Cx) (xc : Str → Value) (T : Tab) (W : WX) (e : Expr) (c : CE) : Prop where
  pe : PE X e (tI X.K xc T W c)
  pt : PT X e (tB (tI X.K xc T W c))

section
variable {X : Cx} {xc : Str → Value} {T : Tab} {W : WX} {e a b c d : Expr} {ca cb cc : CE} {pos : Pos}
theorem PE.weak {e : Expr} {t t' : TE} (h : PE X e t) (k : ∀ σ H Q, t' σ H Q → t σ H Q) : PE X e t' := ⟨fun pins s σ H Q I q => h.run pins s σ H Q I (k _ _ _ q)⟩
theorem PT.weak {e : Expr} {t t' : TT} (h : PT X e t) (k : ∀ σ H Q, t' σ H Q → t σ H Q) : PT X e t' := ⟨fun pins s σ H Q I q => h.run pins s σ H Q I (k _ _ _ q)⟩
theorem PW.weak {e : Expr} {t t' : TT} (h : PW X e t) (k : ∀ σ H Q, t' σ H Q → t σ H Q) : PW X e t' := ⟨fun wh pins s σ H Q I q => h.run wh pins s σ H Q I (k _ _ _ q)⟩
theorem Sd.mk' {t : TE} (h : PE X e t) (k : ∀ σ H Q, tI X.K xc T W ca σ H Q → t σ H Q) (he : ∀ whole, isTrue e X.env whole = (do let v ← whole; standAt e.pos; holding [v] (truthy v)) := by intro _; rfl) : Sd X xc T W e ca :=
  have q := PE.weak h k
  ⟨q, pt_val q he⟩

theorem sd_bad {e : Expr} : Sd X xc T W e .bad := ⟨⟨fun _ _ _ _ _ _ h => by obtain ⟨_, _, _, _, h⟩ := h; exact h.elim⟩, ⟨fun _ _ _ _ _ _ h => by obtain ⟨_, _, _, _, h⟩ := h; exact h.elim⟩⟩

theorem sd_var {i : Nat} {x : Str} {pos : Pos} (hN : X.N[i]? = some x) (hv : Vis X.env.scope x) (hd : (x == ("__debug__" : Str)) = false) (hcd : (x == ("__classdict__" : Str)) = false) : Sd X xc T W (.Name x pos) (.var i) := by
  refine Sd.mk' (pe_var hN hv hd hcd) fun σ H Q h => ?_
  obtain ⟨L, env, fps, R, P⟩ := h
  simp only [ev, load] at P
  cases e : env[i]? with
  | none => rw [e] at P; exact P.elim
  | some o =>
    cases o with
    | none => rw [e] at P; exact P.elim
    | some s =>
      rw [e] at P
      obtain ⟨v, h1, h2, h3⟩ := R.val i s e
      refine ⟨v, h1, ?_⟩
      simp only at P
      by_cases hk : s.k = .imm
      · rw [if_pos hk] at P
        have hi : imm s.d = true := by rw [hk] at h3; exact h3
        have z := h2.imm hi
        refine P v H fps [] Step.refl R ⟨hi, by rw [← z]; exact h2, List.nodup_nil, fun a ha => nomatch ha⟩ (fun a ha => nomatch ha)
      · rw [if_neg hk] at P
        cases ho : s.own with
        | true =>
          rw [ho, if_pos rfl] at P
          refine P v H fps (fps i) Step.refl R ⟨h3, h1, ?_, rfl⟩ trivial
          rw [e, ← ho]
        | false =>
          rw [ho, if_neg Bool.false_ne_true] at P
          refine P v H fps (fps i) Step.refl R ⟨h3, h2, fun a ha j t e' o' q => ?_⟩ fun a ha => .inl ⟨i, s, e, ha⟩
          have hij : j ≠ i := fun z => by subst z; rw [e] at e'; cases e'; rw [ho] at o'; cases o'
          exact R.dj j i t s hij e' o' e a q ha

theorem con_post {K : PySem.W.Frag} {σ : St} {H : Hp} {Q : VK} {d : D} {v : V} (h : tI K xc T W (.con d) σ H Q) (hv : Den K H v d []) (hi : imm d = true) : Q v H := by
  obtain ⟨L, env, fps, R, P⟩ := h
  exact P v H fps [] Step.refl R ⟨hi, hv, List.nodup_nil, fun a ha => nomatch ha⟩ (fun a ha => nomatch ha)
theorem sd_int {i : Int} {j : Nat} {pos : Pos} : Sd X xc T W (.Constant (.int i) j pos) (.con (.int i)) := Sd.mk' pe_int fun _ _ _ h => con_post h (.int i) rfl
theorem sd_bl {b : Bool} {j : Nat} {pos : Pos} : Sd X xc T W (.Constant (.bool b) j pos) (.con (.bool b)) := Sd.mk' pe_bl fun _ _ _ h => con_post h (.bl b) rfl
theorem sd_str {x : Str} {j : Nat} {pos : Pos} : Sd X xc T W (.Constant (.str x) j pos) (.con (.str x)) := Sd.mk' pe_str fun _ _ _ h => con_post h (.str x) rfl
theorem sd_non {j : Nat} {pos : Pos} : Sd X xc T W (.Constant .none j pos) (.con .none) := Sd.mk' pe_non fun _ _ _ h => con_post h .non rfl

/-- one argument, by values -/
theorem p1_red {f : Pr} {K : PySem.W.Frag} {σ : St} {H : Hp} {Q : VK} (h : tI K xc T W (.p1 f ca) σ H Q) : tI K xc T W ca σ H fun v H1 => rP1 K f v H1 Q := by
  obtain ⟨L, env, fps, R, P⟩ := h
  simp only [ev] at P
  refine tI.bind (self_sub L) R P fun x env1 v H1 fps1 fp S1 R1 V1 B1 P1 => ?_
  obtain ⟨q, e, n⟩ := New.of R1 P1
  exact ⟨x.k, x.d, fp, q, V1.den R1, V1.kd, e, n⟩
theorem p2_red {f : Pr} {K : PySem.W.Frag} {σ : St} {H : Hp} {Q : VK} (h : tI K xc T W (.p2 f ca cb) σ H Q) : tI K xc T W ca σ H fun v H1 => tI K xc T W cb σ H1 fun w H2 => rP2 K f v w H2 Q := by
  obtain ⟨L, env, fps, R, P⟩ := h
  simp only [ev] at P
  refine tI.bind (self_sub L) R P fun x env1 v H1 fps1 fp S1 R1 V1 B1 P1 => ?_
  refine tI.bind (lk_sub x L) R1 P1 fun y env2 w H2 fps2 fq S2 R2 V2 B2 P2 => ?_
  have V1' := V1.step R1 S2 (fun i h => lk_has h)
  obtain ⟨q, e, n⟩ := New.of R2 P2
  exact ⟨x.k, x.d, fp, y.k, y.d, fq, q, V1'.den R2, V1'.kd, V2.den R2, V2.kd, e, n⟩
theorem sd_un {f : Pr} {op : UnaryOp} (h : UnR X (unaryOp op) fun x H Q => rP1 X.K f x H Q) (ha : Sd X xc T W a ca) (he : ∀ whole, isTrue (.UnaryOp op a pos) X.env whole = (do let v ← whole; standAt (Expr.UnaryOp op a pos).pos; holding [v] (truthy v))) : Sd X xc T W (.UnaryOp op a pos) (.p1 f ca) :=
  Sd.mk' (pe_un h ha.pe) (fun _ _ _ q => p1_red q) he
theorem sd_bin {f : Pr} {op : Operator} (h : OpR X (binaryOp op) fun x y H Q => rP2 X.K f x y H Q) (ha : Sd X xc T W a ca) (hb : Sd X xc T W b cb) : Sd X xc T W (.BinOp a op b pos) (.p2 f ca cb) :=
  Sd.mk' (pe_op h ha.pe hb.pe) fun _ _ _ q => p2_red q
theorem sd_cmp {f : Pr} {op : CmpOp} (h : OpR X (compareOp op) fun x y H Q => rP2 X.K f x y H Q) (hm : behindInMarks op b = false) (ha : Sd X xc T W a ca) (hb : Sd X xc T W b cb) : Sd X xc T W (.Compare a [op] [b] pos) (.p2 f ca cb) :=
  ⟨PE.weak (pe_cmpR h ha.pe hb.pe hm) fun _ _ _ q => p2_red q, PT.weak (pt_cmpR h ha.pe hb.pe hm) fun _ _ _ q => p2_red q⟩
theorem tI.imp {K : PySem.W.Frag} {σ : St} {H : Hp} {Q Q' : VK} (h : tI K xc T W ca σ H Q) (k : ∀ v H', Q v H' → Q' v H') : tI K xc T W ca σ H Q' := by
  obtain ⟨L, env, fps, R, P⟩ := h
  exact ⟨L, env, fps, R, P.imp k⟩
theorem New.at {K : PySem.W.Frag} {H : Hp} {Q : VK} {d : D} {v : V} (n : New K H (.imm, d) Q) (h : Den K H v d []) (hi : imm d = true) : Q v H :=
  n v H [] (Ext.refl H) h List.nodup_nil (fun a ha => nomatch ha) hi
theorem den_none {K : PySem.W.Frag} {H : Hp} {v : V} {d : D} {fp : List Addr} (h : Den K H v d fp) : decide (v = .non) = isNoneD d := by
  cases h <;> simp [isNoneD]
theorem pr_isN {k : Kd} {d : D} {r : Kd × D} (h : pr1 .isNone k d = some r) : r = (.imm, .bool (isNoneD d)) := by
  cases d <;> simp [pr1, rB, isNoneD] at h ⊢ <;> simp [← h]
theorem pr_notN {k : Kd} {d : D} {r : Kd × D} (h : pr1 .notNone k d = some r) : r = (.imm, .bool (!isNoneD d)) := by
  cases d <;> simp [pr1, rB, isNoneD] at h ⊢ <;> simp [← h]
theorem sd_isN {j : Nat} {p : Pos} (ha : Sd X xc T W a ca) : Sd X xc T W (.Compare a [.Is] [.Constant .none j p] pos) (.p1 .isNone ca) := by
  have k : ∀ (σ : St) (H : Hp) (Q : VK), tI X.K xc T W (.p1 .isNone ca) σ H Q → tIsN (tI X.K xc T W ca) σ H Q := fun σ H Q q => by
    refine (p1_red q).imp fun v H' h => ?_
    obtain ⟨k, d, fp, r, hd, _, e, n⟩ := h
    rw [pr_isN e] at n
    rw [den_none hd]
    exact n.at (.bl _) rfl
  exact ⟨PE.weak (pe_cmp (pc_isN ha.pe) rfl) k, PT.weak (pt_cmp (pc_isN ha.pe) rfl) fun _ _ _ q => k _ _ _ q⟩
theorem sd_notN {j : Nat} {p : Pos} (ha : Sd X xc T W a ca) : Sd X xc T W (.Compare a [.IsNot] [.Constant .none j p] pos) (.p1 .notNone ca) := by
  have k : ∀ (σ : St) (H : Hp) (Q : VK), tI X.K xc T W (.p1 .notNone ca) σ H Q → tNotN (tI X.K xc T W ca) σ H Q := fun σ H Q q => by
    refine (p1_red q).imp fun v H' h => ?_
    obtain ⟨k, d, fp, r, hd, _, e, n⟩ := h
    rw [pr_notN e] at n
    rw [den_none hd]
    exact n.at (.bl _) rfl
  exact ⟨PE.weak (pe_cmp (pc_notN ha.pe) rfl) k, PT.weak (pt_cmp (pc_notN ha.pe) rfl) fun _ _ _ q => k _ _ _ q⟩

/-! ### not, and, or, if else -/
theorem den_bool {K : PySem.W.Frag} {H : Hp} {v : V} {b : Bool} {fp : List Addr} (h : Den K H v (.bool b) fp) : v = .bl b := by cases h; rfl
theorem nt_red {K : PySem.W.Frag} {σ : St} {H : Hp} {Q : VK} (h : tI K xc T W (.nt ca) σ H Q) : tI K xc T W ca σ H fun v H1 => ∃ c, v = .bl c ∧ Q (.bl (!c)) H1 := by
  obtain ⟨L, env, fps, R, P⟩ := h
  simp only [ev] at P
  refine tI.bind (self_sub L) R P fun x env1 v H1 fps1 fp S1 R1 V1 B1 P1 => ?_
  obtain ⟨k, p, d⟩ := x
  cases d with
  | bool b =>
    refine ⟨b, den_bool (V1.den R1), ?_⟩
    exact P1 _ H1 fps1 [] Step.refl R1 ⟨rfl, .bl _, List.nodup_nil, fun a ha => nomatch ha⟩ (fun a ha => nomatch ha)
  | _ => exact P1.elim
theorem sd_nt (ha : Sd X xc T W a ca) : Sd X xc T W (.UnaryOp .Not a pos) (.nt ca) :=
  ⟨PE.weak (pe_not ha.pe) fun _ _ _ q => nt_red q, PT.weak (pt_not ha.pt) fun σ H Q q => (nt_red q).imp fun v H' ⟨c, e, z⟩ => ⟨c, e, let ⟨c', e', z'⟩ := z; by cases e'; exact z'⟩⟩

/-- a branch's code, run from where the test ended -/
theorem branch {K : PySem.W.Frag} {σ : St} {H1 : Hp} {env1 : Env} {fps1 : Nat → List Addr} {L : List Nat} {Q : VK} (R1 : ER K H1 σ env1 fps1) (P : PostR K xc W L σ H1 env1 fps1 (ev T cb L env1) Q) : tI K xc T W cb σ H1 Q := ⟨L, env1, fps1, R1, P⟩
theorem and_red {K : PySem.W.Frag} {σ : St} {H : Hp} {Q : VK} (h : tI K xc T W (.andE ca cb) σ H Q) : tI K xc T W ca σ H fun v H1 => ∃ c, v = .bl c ∧ if c = true then tI K xc T W cb σ H1 Q else Q (.bl false) H1 := by
  obtain ⟨L, env, fps, R, P⟩ := h
  simp only [ev] at P
  refine tI.bind (self_sub L) R P fun x env1 v H1 fps1 fp S1 R1 V1 B1 P1 => ?_
  obtain ⟨k, p, d⟩ := x
  cases d with
  | bool b =>
    refine ⟨b, den_bool (V1.den R1), ?_⟩
    cases b with
    | true => exact iteT (branch R1 P1)
    | false => exact iteF (P1 _ H1 fps1 [] Step.refl R1 ⟨rfl, .bl _, List.nodup_nil, fun a ha => nomatch ha⟩ (fun a ha => nomatch ha))
  | _ => exact P1.elim
theorem or_red {K : PySem.W.Frag} {σ : St} {H : Hp} {Q : VK} (h : tI K xc T W (.orE ca cb) σ H Q) : tI K xc T W ca σ H fun v H1 => ∃ c, v = .bl c ∧ if c = true then Q (.bl true) H1 else tI K xc T W cb σ H1 Q := by
  obtain ⟨L, env, fps, R, P⟩ := h
  simp only [ev] at P
  refine tI.bind (self_sub L) R P fun x env1 v H1 fps1 fp S1 R1 V1 B1 P1 => ?_
  obtain ⟨k, p, d⟩ := x
  cases d with
  | bool b =>
    refine ⟨b, den_bool (V1.den R1), ?_⟩
    cases b with
    | false => exact iteF (branch R1 P1)
    | true => exact iteT (P1 _ H1 fps1 [] Step.refl R1 ⟨rfl, .bl _, List.nodup_nil, fun a ha => nomatch ha⟩ (fun a ha => nomatch ha))
  | _ => exact P1.elim
theorem ife_red {ct : CE} {K : PySem.W.Frag} {σ : St} {H : Hp} {Q : VK} (h : tI K xc T W (.ife ct ca cb) σ H Q) : tI K xc T W ct σ H fun v H1 => ∃ c, v = .bl c ∧ if c = true then tI K xc T W ca σ H1 Q else tI K xc T W cb σ H1 Q := by
  obtain ⟨L, env, fps, R, P⟩ := h
  simp only [ev] at P
  refine tI.bind (self_sub L) R P fun x env1 v H1 fps1 fp S1 R1 V1 B1 P1 => ?_
  obtain ⟨k, p, d⟩ := x
  cases d with
  | bool b =>
    refine ⟨b, den_bool (V1.den R1), ?_⟩
    cases b with
    | true => exact iteT (branch R1 P1)
    | false => exact iteF (branch R1 P1)
  | _ => exact P1.elim
theorem sd_ife {t : Expr} {ct : CE} (ht : Sd X xc T W t ct) (ha : Sd X xc T W a ca) (hb : Sd X xc T W b cb) : Sd X xc T W (.IfExp t a b pos) (.ife ct ca cb) := by
  refine ⟨PE.weak (pe_ifExp ht.pt ha.pe hb.pe) fun _ _ _ q => ife_red q, ⟨fun pins s σ H Q I h => ?_⟩⟩
  show wpAny _ _ (do if ← isTrue t X.env (eval t X.env) then isTrue a X.env (eval a X.env) else isTrue b X.env (eval b X.env)) _ _ _
  refine wpAny_bind (thn (ht.pt.run pins s σ H _ I (ife_red h)) fun d s1 ⟨H1, I1, q⟩ => ?_)
  cases d with
  | true => exact ha.pt.run pins s1 σ H1 Q I1 (by simp only [if_true, Bool.false_eq_true, if_false] at q; exact q)
  | false => exact hb.pt.run pins s1 σ H1 Q I1 (by simp only [if_true, Bool.false_eq_true, if_false] at q; exact q)
/-- a chain of and, or: also whatever the whole is -/
structure SdB (X : Cx) (xc : Str → Value) (T : Tab) (W : WX) (e : Expr) (c : CE) : Prop where
  sd : Sd X xc T W e c
  pw : PW X e (tB (tI X.K xc T W c))
theorem sb_and1 (ha : Sd X xc T W a ca) : SdB X xc T W (.BoolOp .And [a] pos) ca := ⟨⟨pe_one ha.pe, (pw_and1 ha.pt).pt⟩, pw_and1 ha.pt⟩
theorem sb_or1 (ha : Sd X xc T W a ca) : SdB X xc T W (.BoolOp .Or [a] pos) ca := ⟨⟨pe_one ha.pe, (pw_or1 ha.pt).pt⟩, pw_or1 ha.pt⟩
theorem sb_and {r : List Expr} (ha : Sd X xc T W a ca) (hb : SdB X xc T W (.BoolOp .And (b :: r) pos) cb) : SdB X xc T W (.BoolOp .And (a :: b :: r) pos) (.andE ca cb) := by
  have w : PW X (.BoolOp .And (a :: b :: r) pos) (tB (tI X.K xc T W (.andE ca cb))) := PW.weak (pw_and ha.pt hb.pw) fun σ H Q q => by
    refine (and_red q).imp fun v H' ⟨c, e, z⟩ => ⟨c, e, ?_⟩
    cases c with
    | true => simp only [if_true] at z; exact iteT z
    | false => simp only [Bool.false_eq_true, if_false] at z; obtain ⟨c', e', z'⟩ := z; cases e'; exact iteF z'
  exact ⟨⟨PE.weak (pe_and ha.pe hb.sd.pe) fun _ _ _ q => and_red q, w.pt⟩, w⟩
theorem sb_or {r : List Expr} (ha : Sd X xc T W a ca) (hb : SdB X xc T W (.BoolOp .Or (b :: r) pos) cb) : SdB X xc T W (.BoolOp .Or (a :: b :: r) pos) (.orE ca cb) := by
  have w : PW X (.BoolOp .Or (a :: b :: r) pos) (tB (tI X.K xc T W (.orE ca cb))) := PW.weak (pw_or ha.pt hb.pw) fun σ H Q q => by
    refine (or_red q).imp fun v H' ⟨c, e, z⟩ => ⟨c, e, ?_⟩
    cases c with
    | false => simp only [Bool.false_eq_true, if_false] at z; exact iteF z
    | true => simp only [if_true] at z; obtain ⟨c', e', z'⟩ := z; cases e'; exact iteT z'
  exact ⟨⟨PE.weak (pe_or ha.pe hb.sd.pe) fun _ _ _ q => or_red q, w.pt⟩, w⟩

/-! ### a < b < c -/
theorem chain_red {f g : Pr} {K : PySem.W.Frag} {σ : St} {H : Hp} {Q : VK} (h : tI K xc T W (.chain f g ca cb cc) σ H Q) :
    tChain (fun x y H Q => rP2 K f x y H Q) (fun x y H Q => rP2 K g x y H Q) (tI K xc T W ca) (tI K xc T W cb) (tI K xc T W cc) σ H Q := by
  obtain ⟨L, env, fps, R, P⟩ := h
  simp only [ev] at P
  refine tI.bind (self_sub L) R P fun x env1 v H1 fps1 fp S1 R1 V1 B1 P1 => ?_
  refine tI.bind (lk_sub x L) R1 P1 fun y env2 w H2 fps2 fq S2 R2 V2 B2 P2 => ?_
  have V1' := V1.step R1 S2 (fun i h => lk_has h)
  simp only at P2
  cases e : pr2 f x.k x.d y.k y.d with
  | none => rw [e] at P2; exact P2.elim
  | some q =>
    rw [e] at P2
    refine ⟨x.k, x.d, fp, y.k, y.d, fq, q, V1'.den R2, V1'.kd, V2.den R2, V2.kd, e, fun z H' fr ex hd nd nf kd => ?_⟩
    obtain ⟨k, d⟩ := q
    cases d with
    | bool b =>
      refine ⟨b, den_bool hd, ?_⟩
      have R3 := R2.ext ex
      have S3 : Step (lk y (lk x L)) H2 env2 fps2 H' env2 fps2 := ex.step
      cases b with
      | true =>
        refine iteT (tI.bind (lk_sub y L) R3 (PostR.rebase R2 ex.step R3 P2) fun o env3 u H3 fps3 fo S4 R4 V4 B4 P4 => ?_)
        have V2' := (V2.step R2 (ex.step (L := lk y L)) (fun i h => lk_has h)).step R3 S4 (fun i h => lk_has h)
        obtain ⟨q', e', n'⟩ := New.of R4 P4
        exact ⟨y.k, y.d, fq, o.k, o.d, fo, q', V2'.den R4, V2'.kd, V4.den R4, V4.kd, e', n'⟩
      | false => exact iteF (PostR.rebase R2 ex.step R3 P2 _ H' fps2 [] Step.refl R3 ⟨rfl, .bl _, List.nodup_nil, fun a ha => nomatch ha⟩ (fun a ha => nomatch ha))
    | _ => exact P2.elim
theorem sd_chain {f g : Pr} {op op' : CmpOp} (h : OpR X (compareOp op) fun x y H Q => rP2 X.K f x y H Q) (h' : OpR X (compareOp op') fun x y H Q => rP2 X.K g x y H Q) (hm : lastMarks [op, op'] [b, c] = false)
    (ha : Sd X xc T W a ca) (hb : Sd X xc T W b cb) (hc : Sd X xc T W c cc) : Sd X xc T W (.Compare a [op, op'] [b, c] pos) (.chain f g ca cb cc) :=
  ⟨PE.weak (pe_chain h h' ha.pe hb.pe hc.pe hm) fun _ _ _ q => chain_red q, PT.weak (pt_chain h h' ha.pe hb.pe hc.pe hm) fun _ _ _ q => chain_red q⟩
end
end Iv

set_option maxRecDepth 100000
set_option maxHeartbeats 1000000
/-! IvD: several values; displays; parts of things. -/
namespace Iv
open PySem L2
variable [Tbl]

def VArg (b : Bool) (K : PySem.W.Frag) (H : Hp) (σ : St) (env : Env) (fps : Nat → List Addr) (v : V) (x : Val) (fp : List Addr) : Prop := match b, x.p with
  | true, .sl i => σ[i]? = some (some v)
  | _, _ => VOk K H σ env fps v x fp
def Apart (x : Val) (fp : List Addr) (xs : List Val) (fpl : List (List Addr)) : Prop := ∀ (k : Nat) (y : Val) (fq : List Addr), xs[k]? = some y → fpl[k]? = some fq → Ap x.p y.p → ∀ a ∈ fp, a ∉ fq
def VsOk (K : PySem.W.Frag) (H : Hp) (σ : St) (env : Env) (fps : Nat → List Addr) : List Bool → List V → List Val → List (List Addr) → Prop
  | _, [], [], [] => True
  | io, v :: vs, x :: xs, fp :: fpl => VArg (io.headD false) K H σ env fps v x fp ∧ Apart x fp xs fpl ∧ VsOk K H σ env fps io.tail vs xs fpl
  | _, _, _, _ => False
def BndS (L : List Nat) (H : Hp) (env : Env) (fps : Nat → List Addr) : List Val → List (List Addr) → Prop
  | x :: xs, fp :: fpl => Bnd L H env fps x fp ∧ BndS L H env fps xs fpl
  | _, _ => True

section
variable {K : PySem.W.Frag} {H H1 H2 H3 H' : Hp} {σ : St} {env env1 env2 env3 env' : Env} {fps fps1 fps2 fps3 : Nat → List Addr} {L L' : List Nat} {v w : V} {x y : Val} {fp fq : List Addr} {W : WX} {xc : Str → Value}
  {io : List Bool} {vs : List V} {xs ys : List Val} {fpl : List (List Addr)} {b : Bool}

theorem lkIo_sub (b : Bool) (x : Val) (L : List Nat) : ∀ i ∈ L, i ∈ lkIo b x L := fun i h => by
  unfold lkIo
  split
  · exact h
  · exact lk_sub x L i h
theorem VArg.step (R : ER K H1 σ env1 fps1) (h : VArg b K H1 σ env1 fps1 v x fp) (S : Step (lkIo b x L) H1 env1 fps1 H2 env2 fps2) : VArg b K H2 σ env2 fps2 v x fp := by
  obtain ⟨k, p, d⟩ := x
  cases b with
  | false => exact VOk.step R h S fun i q => lk_has q
  | true =>
    cases p with
    | sl i => exact h
    | fr => exact VOk.step R h S fun i q => lk_has q
    | pt i => exact VOk.step R h S fun i q => lk_has q
    | sh => exact VOk.step R h S fun i q => lk_has q
theorem VsOk.at : ∀ {io : List Bool} {vs : List V} {xs : List Val} {fpl : List (List Addr)}, VsOk K H σ env fps io vs xs fpl → ∀ {k : Nat} {y : Val}, xs[k]? = some y → ∃ v fq, vs[k]? = some v ∧ fpl[k]? = some fq ∧ VArg (io.getD k false) K H σ env fps v y fq
  | io, [], [], [], _, k, y, e => by simp at e
  | io, v :: vs, x :: xs, fp :: fpl, h, 0, y, e => by
    simp at e; subst e
    refine ⟨v, fp, rfl, rfl, ?_⟩
    have := h.1
    cases io <;> simpa using this
  | io, v :: vs, x :: xs, fp :: fpl, h, k + 1, y, e => by
    obtain ⟨u, fq, h1, h2, h3⟩ := VsOk.at h.2.2 (k := k) (by simpa using e)
    refine ⟨u, fq, by simpa using h1, by simpa using h2, ?_⟩
    cases io <;> simpa using h3
  | _, [], _ :: _, _, h, _, _, _ => by cases h
  | _, _ :: _, _ :: _, [], h, _, _, _ => by cases h
theorem VArg.ok (h : VArg false K H σ env fps v x fp) : VOk K H σ env fps v x fp := h

def PostRs (K : PySem.W.Frag) (xc : Str → Value) (W : WX) (io : List Bool) (L : List Nat) (σ : St) (H : Hp) (env : Env) (fps : Nat → List Addr) (r : R (List Val × Env)) (Q : List V → Hp → Prop) : Prop := match r with
  | .ok q => ∀ vs H' fps' fpl, Step L H env fps H' q.2 fps' → ER K H' σ q.2 fps' → VsOk K H' σ q.2 fps' io vs q.1 fpl → BndS L H env fps q.1 fpl → Q vs H'
  | .ex n env' => ∀ H' fps', Step L H env fps H' env' fps' → ER K H' σ env' fps' → W (xc n) none σ H'
  | .no => False
def tA (K : PySem.W.Frag) (xc : Str → Value) (T : Tab) (W : WX) (io : List Bool) (cs : List CE) : TA := fun σ H Q => ∃ L env fps, ER K H σ env fps ∧ PostRs K xc W io L σ H env fps (evs T io cs L env) Q

theorem BndS.back (R : ER K H1 σ env1 fps1) (S : Step L H1 env1 fps1 H2 env2 fps2) : ∀ {xs : List Val} {fpl : List (List Addr)}, BndS L H2 env2 fps2 xs fpl → BndS L H1 env1 fps1 xs fpl
  | [], _, _ => trivial
  | _ :: _, [], _ => trivial
  | _ :: _, _ :: _, h => ⟨h.1.back R S, h.2.back R S⟩
theorem BndS.mono (h : ∀ i ∈ L, i ∈ L') : ∀ {xs : List Val} {fpl : List (List Addr)}, BndS L' H1 env1 fps1 xs fpl → BndS L H1 env1 fps1 xs fpl
  | [], _, _ => trivial
  | _ :: _, [], _ => trivial
  | _ :: _, _ :: _, q => ⟨q.1.mono h, q.2.mono h⟩
theorem PostRs.rebase {r : R (List Val × Env)} {Q : List V → Hp → Prop} (R : ER K H σ env fps) (S : Step L H env fps H1 env1 fps1) (R1 : ER K H1 σ env1 fps1) (P : PostRs K xc W io L σ H env fps r Q) : PostRs K xc W io L σ H1 env1 fps1 r Q := by
  cases r with
  | ok q => exact fun v H' fps' fp s1 r1 v1 b1 => P v H' fps' fp (S.trans R s1) r1 v1 (b1.back R S)
  | ex n e => exact fun H' fps' s1 r1 => P H' fps' (S.trans R s1) r1
  | no => exact P
/-- first several, then that -/
theorem tA.bind {T : Tab} {io : List Bool} {cs : List CE} {f : List Val × Env → R (Val × Env)} {Q : VK} {Q1 : List V → Hp → Prop} (hL : ∀ i ∈ L, i ∈ L') (R : ER K H σ env fps) (P : PostR K xc W L σ H env fps ((evs T io cs L' env).bind f) Q)
    (k : ∀ xs env1 vs H1 fps1 fpl, Step L' H env fps H1 env1 fps1 → ER K H1 σ env1 fps1 → VsOk K H1 σ env1 fps1 io vs xs fpl → BndS L' H env fps xs fpl → PostR K xc W L σ H env fps (f (xs, env1)) Q → Q1 vs H1) : tA K xc T W io cs σ H Q1 := by
  refine ⟨L', env, fps, R, ?_⟩
  cases e : evs T io cs L' env with
  | ok q =>
    rw [e] at P
    obtain ⟨x, env1⟩ := q
    exact fun v H1 fps1 fp s1 r1 v1 b1 => k x env1 v H1 fps1 fp s1 r1 v1 b1 P
  | ex n e' => rw [e] at P; exact fun H' fps' s1 r1 => P H' fps' (s1.mono hL) r1
  | no => rw [e] at P; exact P
theorem BndS.get : ∀ {xs : List Val} {fpl : List (List Addr)}, BndS L H env fps xs fpl → ∀ {k : Nat} {y : Val} {fq : List Addr}, xs[k]? = some y → fpl[k]? = some fq → Bnd L H env fps y fq
  | [], _, _, k, _, _, e, _ => by simp at e
  | _ :: _, [], _, k, _, _, _, e => by simp at e
  | x :: xs, fp :: fpl, h, 0, _, _, e, e' => by simp at e e'; subst e e'; exact h.1
  | x :: xs, fp :: fpl, h, k + 1, _, _, e, e' => BndS.get h.2 (by simpa using e) (by simpa using e')
end

section
variable {X : Cx} {xc : Str → Value} {T : Tab} {W : WX} {e a b c d : Expr} {ca cb cc : CE} {pos : Pos} {io : List Bool} {cs : List CE} {es : List Expr}
theorem sa_nil : PA X [] (tA X.K xc T W io []) := ⟨fun pos pins s σ H Q I h => (pa_nil (X := X)).run pos pins s σ H Q I (by
  obtain ⟨L, env, fps, R, P⟩ := h
  simp only [evs] at P
  exact P [] H fps [] Step.refl R trivial trivial)⟩
theorem sa_cons (ha : Sd X xc T W e ca) (hr : PA X es (tA X.K xc T W io.tail cs)) (hs : starEach (e :: es) X.env = (false, eval e X.env) :: starEach es X.env) : PA X (e :: es) (tA X.K xc T W io (ca :: cs)) := by
  refine ⟨fun pos pins s σ H Q I h => (pa_cons ha.pe hr hs).run pos pins s σ H Q I ?_⟩
  obtain ⟨L, env, fps, R, P⟩ := h
  simp only [evs] at P
  refine ⟨L, env, fps, R, ?_⟩
  cases q1 : ev T ca L env with
  | ok r1 =>
    obtain ⟨x, env1⟩ := r1
    rw [q1] at P
    intro v H1 fps1 fp S1 R1 V1 B1
    refine ⟨lkIo (io.headD false) x L, env1, fps1, R1, ?_⟩
    simp only [Iv.R.bind] at P
    cases q : evs T io.tail cs (lkIo (io.headD false) x L) env1 with
    | ok r =>
      rw [q] at P
      obtain ⟨xs, env2⟩ := r
      intro vs H2 fps2 fpl S2 R2 V2 B2
      have S2' := S2.mono (lkIo_sub (io.headD false) x L)
      refine P (v :: vs) H2 fps2 (fp :: fpl) (S1.trans R S2') R2 ⟨?_, fun k y fq e1 e2 hp => V1.apart R1 hp (B2.get e1 e2), V2⟩ ⟨B1, (B2.mono (lkIo_sub _ x L)).back R S1⟩
      refine VArg.step R1 ?_ S2
      unfold VArg
      split
      · rename_i i _ hp
        obtain ⟨k, p, d⟩ := x
        cases hp
        exact V1.2.1
      · exact V1
    | ex n e' => rw [q] at P; exact fun H' fps' s1 r1 => P H' fps' (S1.trans R (s1.mono (lkIo_sub _ x L))) r1
    | no => rw [q] at P; exact P
  | ex n e' => rw [q1] at P; exact P
  | no => rw [q1] at P; exact P
end
end Iv

set_option maxRecDepth 100000
set_option maxHeartbeats 1000000
/-! IvE: sharing; displays; parts of things. -/
namespace Iv
open PySem L2
variable [Tbl]

def dis (is : List Nat) (env : Env) : Env := is.foldl (fun e i => disown i e) env
theorem disown_get (i : Nat) (env : Env) (j : Nat) : (disown i env)[j]? = env[j]?.map fun o => o.map fun s => if j = i then { s with own := false } else s := by
  unfold disown
  split
  · rename_i s e
    by_cases h : j = i
    · subst h
      have hj : j < env.length := (List.getElem?_eq_some_iff.mp e).1
      rw [List.getElem?_set_self hj, e]
      simp
    · rw [List.getElem?_set_ne (fun z => h z.symm)]
      cases q : env[j]? with
      | none => rfl
      | some o => cases o <;> simp [h]
  · rename_i hn
    cases q : env[j]? with
    | none => rfl
    | some o =>
      cases o with
      | none => rfl
      | some s =>
        by_cases h : j = i
        · subst h; exact (hn s q).elim
        · simp [h]
theorem dis_get : ∀ (is : List Nat) (env : Env) (j : Nat), (dis is env)[j]? = env[j]?.map fun o => o.map fun s => if j ∈ is then { s with own := false } else s
  | [], env, j => by
    show env[j]? = _
    cases env[j]? with
    | none => rfl
    | some o => cases o <;> simp
  | i :: is, env, j => by
    show (dis is (disown i env))[j]? = _
    rw [dis_get is, disown_get]
    cases env[j]? with
    | none => rfl
    | some o =>
      cases o with
      | none => rfl
      | some s =>
        simp only [Option.map_some, List.mem_cons]
        by_cases h1 : j = i <;> by_cases h2 : j ∈ is <;> simp [h1, h2]
        all_goals (subst h1; simp [h2])
theorem disown_len (i : Nat) (env : Env) : (disown i env).length = env.length := by
  unfold disown; split <;> simp
theorem dis_len : ∀ (is : List Nat) (env : Env), (dis is env).length = env.length
  | [], _ => rfl
  | i :: is, env => (dis_len is (disown i env)).trans (disown_len i env)

section
variable {K : PySem.W.Frag} {H H0 H1 H2 H3 H' : Hp} {σ : St} {env env0 env1 env2 env3 env' : Env} {fps fps0 fps1 fps2 fps3 : Nat → List Addr} {L L' : List Nat} {v w : V} {x y : Val} {fp fq : List Addr} {W : WX} {xc : Str → Value}
  {io : List Bool} {vs : List V} {xs ys : List Val} {fpl : List (List Addr)} {b : Bool} {is : List Nat}

theorem dis_some {j : Nat} {t : Sl} (h : (dis is env)[j]? = some (some t)) : ∃ s, env[j]? = some (some s) ∧ t.d = s.d ∧ t.k = s.k ∧ (t.own = true → s.own = true ∧ j ∉ is ∧ t = s) := by
  rw [dis_get] at h
  cases e : env[j]? with
  | none => rw [e] at h; cases h
  | some o =>
    cases o with
    | none => rw [e] at h; cases h
    | some s =>
      rw [e] at h
      simp only [Option.map_some, Option.some.injEq] at h
      refine ⟨s, rfl, ?_, ?_, fun q => ?_⟩
      · rw [← h]; split <;> rfl
      · rw [← h]; split <;> rfl
      · by_cases hj : j ∈ is
        · rw [if_pos hj] at h; rw [← h] at q; cases q
        · rw [if_neg hj] at h; rw [← h] at q; exact ⟨q, hj, h.symm⟩
theorem dis_ER (R : ER K H σ env fps) : ER K H σ (dis is env) fps := by
  refine ⟨R.len.trans (dis_len _ _).symm, fun i t e => ?_, fun i t e o => ?_, fun i j s t n e o e' => ?_, R.tb⟩
  · obtain ⟨s, e1, e2, e3, _⟩ := dis_some e
    obtain ⟨v, h1, h2, h3⟩ := R.val i s e1
    exact ⟨v, h1, by rw [e2]; exact h2, by rw [e2, e3]; exact h3⟩
  · obtain ⟨s, e1, _, _, q⟩ := dis_some e
    exact R.nd i s e1 (q o).1
  · obtain ⟨s1, e1, _, _, q⟩ := dis_some e
    obtain ⟨t1, e2, _, _, _⟩ := dis_some e'
    exact R.dj i j s1 t1 n e1 (q o).1 e2
theorem dis_Step (hL : ∀ i ∈ is, i ∉ L) : Step L H env fps H (dis is env) fps := by
  refine ⟨fun _ _ e _ _ => e, fun _ _ e _ => e, fun i n => ⟨?_, rfl⟩, fun i u a ha => .inl ⟨i, u, ha⟩, fun _ h => h⟩
  rw [dis_get]
  cases e : env[i]? with
  | none => rfl
  | some o =>
    cases o with
    | none => rfl
    | some s =>
      by_cases hi : i ∈ is
      · have ho : s.own = false := by
          cases q : s.own with
          | false => rfl
          | true => exact (n ⟨hL i hi, s, e, q⟩).elim
        simp only [Option.map_some, if_pos hi]
        rw [← ho]
      · simp [hi]
theorem dis_any {a : Addr} : AnyA (dis is env) fps a ↔ AnyA env fps a := by
  constructor
  · rintro ⟨i, t, e, q⟩
    obtain ⟨s, e1, _⟩ := dis_some e
    exact ⟨i, s, e1, q⟩
  · rintro ⟨i, s, e, q⟩
    have h := dis_get is env i
    rw [e] at h
    exact ⟨i, _, h, q⟩
theorem share_p (x : Val) : (share x).p = .fr ∧ x.p = .fr ∨ (share x).p = .sh := by
  obtain ⟨k, p, d⟩ := x
  cases p <;> simp [share]
theorem share_d (x : Val) : (share x).d = x.d ∧ (share x).k = x.k := by
  obtain ⟨k, p, d⟩ := x
  cases p <;> simp [share]
/-- a value shared -/
theorem VOk.share (R : ER K H σ env fps) (h : VOk K H σ env fps v x fp) (hi : ∀ i, x.p = .sl i ∨ x.p = .pt i → i ∈ is) : VOk K H σ (dis is env) fps v (share x) fp := by
  obtain ⟨k, p, d⟩ := x
  refine ⟨by rw [(share_d _).1, (share_d _).2]; exact h.1, ?_⟩
  have den := h.den R
  have own : ∀ i, i ∈ is → (∀ a ∈ fp, a ∈ fps i) → (∃ s, env[i]? = some (some s)) → ∀ a ∈ fp, ∀ j t, (dis is env)[j]? = some (some t) → t.own = true → a ∉ fps j := fun i hi hf ⟨s', es'⟩ a ha j t e o q => by
    obtain ⟨s, e1, _, _, z⟩ := dis_some e
    obtain ⟨z1, z2, _⟩ := z o
    have hne : j ≠ i := fun z => by subst z; exact z2 hi
    exact R.dj j i s s' hne e1 z1 es' a q (hf a ha)
  cases p with
  | fr => exact ⟨h.2.1, h.2.2.1, fun a ha q => h.2.2.2 a ha (dis_any.mp q)⟩
  | sl i =>
    obtain ⟨_, h1, h2, h3⟩ := h
    exact ⟨den, own i (hi i (.inl rfl)) (fun a ha => by rw [← h3]; exact ha) ⟨_, h2⟩⟩
  | pt i =>
    obtain ⟨_, h1, ⟨s, h2, _⟩, h3⟩ := h
    exact ⟨den, own i (hi i (.inr rfl)) h3 ⟨s, h2⟩⟩
  | sh => exact ⟨den, fun a ha j t e o q => let ⟨s, e1, _, _, z⟩ := dis_some e; h.2.2 a ha j s e1 (z o).1 q⟩
theorem Bnd.share (R0 : ER K H0 σ env0 fps0) (S : Step L H0 env0 fps0 H env fps) (h : VOk K H σ env fps v x fp) (b : Bnd L H0 env0 fps0 x fp) : Bnd L H0 env0 fps0 (Iv.share x) fp := by
  obtain ⟨k, p, d⟩ := x
  cases p with
  | fr => exact b
  | sl i =>
    obtain ⟨_, h1, h2, h3⟩ := h
    exact fun a ha => S.anyBack ⟨i, _, h2, by rw [← h3]; exact ha⟩
  | pt i =>
    obtain ⟨_, h1, ⟨s, h2, _⟩, h3⟩ := h
    exact fun a ha => S.anyBack ⟨i, s, h2, h3 a ha⟩
  | sh => exact b
theorem VOk.any (h : VOk K H σ env fps v x fp) : x.p = .fr ∨ x.p = .sh ∨ ∀ a ∈ fp, AnyA env fps a := by
  obtain ⟨k, p, d⟩ := x
  cases p with
  | fr => exact .inl rfl
  | sh => exact .inr (.inl rfl)
  | sl i =>
    obtain ⟨_, _, h2, h3⟩ := h
    exact .inr (.inr fun a ha => ⟨i, _, h2, by rw [← h3]; exact ha⟩)
  | pt i =>
    obtain ⟨_, _, ⟨s, h2, _⟩, h3⟩ := h
    exact .inr (.inr fun a ha => ⟨i, s, h2, h3 a ha⟩)
theorem VOk.fresh (h : VOk K H σ env fps v x fp) (e : x.p = .fr) : ∀ a ∈ fp, ¬ AnyA env fps a := by
  obtain ⟨k, p, d⟩ := x
  cases e
  exact h.2.2.2
theorem slots_has : ∀ {xs : List Val} {x : Val}, x ∈ xs → ∀ i, x.p = .sl i ∨ x.p = .pt i → i ∈ slots xs
  | y :: xs, x, hm, i, h => by
    rcases List.mem_cons.mp hm with rfl | hm
    · rcases h with h | h <;> simp [slots, h]
    · have := slots_has hm i h
      unfold slots
      split <;> first | exact List.mem_cons_of_mem _ this | exact this
theorem VsOk.share (R : ER K H σ env fps) : ∀ {io : List Bool} {vs : List V} {xs : List Val} {fpl : List (List Addr)}, io = [] → VsOk K H σ env fps io vs xs fpl → (∀ x ∈ xs, ∀ i, x.p = .sl i ∨ x.p = .pt i → i ∈ is) → VsOk K H σ (dis is env) fps [] vs (xs.map Iv.share) fpl
  | _, [], [], [], _, _, _ => trivial
  | _, v :: vs, x :: xs, fp :: fpl, e, h, q => by
    subst e
    obtain ⟨h1, h2, h3⟩ := h
    refine ⟨VOk.share R (VArg.ok h1) (q x List.mem_cons_self), fun k y fq e1 e2 hp => ?_, VsOk.share R rfl h3 fun x hx => q x (List.mem_cons_of_mem _ hx)⟩
    rw [List.getElem?_map] at e1
    cases e : xs[k]? with
    | none => rw [e] at e1; cases e1
    | some z =>
      rw [e] at e1
      simp only [Option.map_some, Option.some.injEq] at e1
      subst e1
      obtain ⟨u, fz, _, e3, vz⟩ := h3.at e
      rw [e2] at e3
      cases e3
      have vz : VOk K H σ env fps u z fq := VArg.ok (by simpa using vz)
      have h1 := VArg.ok h1
      have z1 : z.p = .fr ∨ z.p = .sh ∨ ∀ a ∈ fq, AnyA env fps a := VOk.any vz
      have x1 : x.p = .fr ∨ x.p = .sh ∨ ∀ a ∈ fp, AnyA env fps a := VOk.any h1
      intro a ha hb
      rcases x1 with x1 | x1 | x1 <;> rcases z1 with z1 | z1 | z1
      · exact h2 k z fq e e2 (.inl ⟨x1, .inl z1⟩) a ha hb
      · exact h2 k z fq e e2 (.inl ⟨x1, .inr z1⟩) a ha hb
      · exact h1.fresh x1 a ha (z1 a hb)
      · exact h2 k z fq e e2 (.inr ⟨x1, z1⟩) a ha hb
      · have q1 : (Iv.share x).p = Pv.sh := by obtain ⟨k, p, d⟩ := x; cases x1; rfl
        have q2 : (Iv.share z).p = Pv.sh := by obtain ⟨k, p, d⟩ := z; cases z1; rfl
        rw [q1, q2] at hp
        rcases hp with ⟨hp, _⟩ | ⟨_, hp⟩ <;> cases hp
      · have q1 : (Iv.share x).p = Pv.sh := by obtain ⟨k, p, d⟩ := x; cases x1; rfl
        rw [q1] at hp
        rcases hp with ⟨hp, _⟩ | ⟨_, hp⟩
        · cases hp
        · have z2 : z.p = .fr := by rcases share_p z with w | w; exact w.2; rw [hp] at w; cases w
          exact vz.fresh z2 a hb (z1 a hb)
      · exact vz.fresh z1 a hb (x1 a ha)
      · have q2 : (Iv.share z).p = Pv.sh := by obtain ⟨k, p, d⟩ := z; cases z1; rfl
        rw [q2] at hp
        rcases hp with ⟨hp, _⟩ | ⟨_, hp⟩
        · have z2 : x.p = .fr := by rcases share_p x with w | w; exact w.2; rw [hp] at w; cases w
          exact h1.fresh z2 a ha (x1 a ha)
        · cases hp
      · rcases hp with ⟨hp, _⟩ | ⟨_, hp⟩
        · have z2 : x.p = .fr := by rcases share_p x with w | w; exact w.2; rw [hp] at w; cases w
          exact h1.fresh z2 a ha (x1 a ha)
        · have z2 : z.p = .fr := by rcases share_p z with w | w; exact w.2; rw [hp] at w; cases w
          exact vz.fresh z2 a hb (z1 a hb)
theorem BndS.share (R0 : ER K H0 σ env0 fps0) (S : Step L H0 env0 fps0 H env fps) : ∀ {io : List Bool} {vs : List V} {xs : List Val} {fpl : List (List Addr)}, io = [] → VsOk K H σ env fps io vs xs fpl → BndS L H0 env0 fps0 xs fpl → BndS L H0 env0 fps0 (xs.map Iv.share) fpl
  | _, [], [], [], _, _, _ => trivial
  | _, v :: vs, x :: xs, fp :: fpl, e, h, q => by
    subst e
    exact ⟨Bnd.share R0 S (VArg.ok h.1) q.1, BndS.share R0 S rfl h.2.2 q.2⟩
theorem esc_ok (R0 : ER K H0 σ env0 fps0) (S : Step L H0 env0 fps0 H env fps) (R : ER K H σ env fps) (h : VsOk K H σ env fps [] vs xs fpl) (b : BndS L H0 env0 fps0 xs fpl) (e : esc L xs env = some (ys, env')) :
    Step L H0 env0 fps0 H env' fps ∧ ER K H σ env' fps ∧ VsOk K H σ env' fps [] vs ys fpl ∧ BndS L H0 env0 fps0 ys fpl ∧ (∀ y ∈ ys, y.p = .fr ∨ y.p = .sh) ∧ ys = xs.map Iv.share := by
  unfold esc at e
  split at e
  · rename_i hL
    simp only [Option.some.injEq, Prod.mk.injEq] at e
    obtain ⟨rfl, rfl⟩ := e
    have hL' : ∀ i ∈ slots xs, i ∉ L := fun i hi => of_decide_eq_true (List.all_eq_true.mp hL i hi)
    refine ⟨S.trans R0 (dis_Step hL'), dis_ER R, VsOk.share R rfl h fun x hx i q => slots_has hx i q, BndS.share R0 S rfl h b, fun y hy => ?_, rfl⟩
    obtain ⟨x, _, rfl⟩ := List.mem_map.mp hy
    rcases share_p x with q | q
    · exact .inl q.1
    · exact .inr q
  · cases e
/-- several values, fresh or shared, put together -/
theorem VsOk.all (R : ER K H σ env fps) : ∀ {io : List Bool} {vs : List V} {ys : List Val} {fpl : List (List Addr)}, io = [] → VsOk K H σ env fps io vs ys fpl → (∀ y ∈ ys, y.p = .fr ∨ y.p = .sh) →
    DenL K H vs (ys.map (·.d)) fpl.flatten ∧ vs.length = ys.length ∧ (∀ a ∈ fpl.flatten, ∀ i s, env[i]? = some (some s) → s.own = true → a ∉ fps i) ∧ (kAll ys = true → immL (ys.map (·.d)) = true) ∧
      (pAll ys = .fr → fpl.flatten.Nodup ∧ (∀ a ∈ fpl.flatten, ¬ AnyA env fps a) ∧ ∀ y ∈ ys, y.p = .fr)
  | _, [], [], [], _, _, _ => ⟨.nil, rfl, (fun a ha => by simp at ha), fun _ => rfl, fun _ => ⟨List.nodup_nil, (fun a ha => by simp at ha), fun _ h => nomatch h⟩⟩
  | _, v :: vs, x :: xs, fp :: fpl, e, h, q => by
    subst e
    obtain ⟨h1, h2, h3⟩ := h
    have h1 := VArg.ok h1
    obtain ⟨i1, i2, i3, i4, i5⟩ := VsOk.all R rfl h3 fun y hy => q y (List.mem_cons_of_mem _ hy)
    refine ⟨.cons (h1.den R) i1, congrArg (· + 1) i2, fun a ha i s es os => ?_, fun hk => ?_, fun hp => ?_⟩
    · rw [List.flatten_cons] at ha
      rcases List.mem_append.mp ha with ha | ha
      · obtain ⟨k, p, d⟩ := x
        rcases q _ List.mem_cons_self with z | z
        · cases z
          exact fun w => h1.2.2.2 a ha ⟨i, s, es, w⟩
        · cases z
          exact h1.2.2 a ha i s es os
      · exact i3 a ha i s es os
    · simp only [kAll, List.all_cons, Bool.and_eq_true, decide_eq_true_eq] at hk
      simp only [List.map_cons, immL, Bool.and_eq_true]
      refine ⟨?_, i4 (by simp only [kAll]; exact hk.2)⟩
      exact h1.kd.imm' hk.1
    · unfold pAll at hp
      split at hp
      · rename_i hall
        simp only [List.all_cons, Bool.and_eq_true, decide_eq_true_eq] at hall
        obtain ⟨j1, j2, j3⟩ := i5 (by unfold pAll; rw [if_pos hall.2])
        obtain ⟨k, p, d⟩ := x
        have hx : p = .fr := hall.1
        subst hx
        refine ⟨?_, fun a ha => ?_, fun y hy => ?_⟩
        · rw [List.flatten_cons, List.nodup_append]
          refine ⟨h1.2.2.1, j1, fun a ha b hb e => ?_⟩
          subst e
          obtain ⟨fq, hfq, haq⟩ := List.mem_flatten.mp hb
          obtain ⟨k', hk'⟩ := List.getElem?_of_mem hfq
          have hlen : xs.length = fpl.length := by
            have : ∀ {io : List Bool} {vs : List V} {xs : List Val} {fpl : List (List Addr)}, VsOk K H σ env fps io vs xs fpl → xs.length = fpl.length := by
              intro io vs xs fpl h
              induction xs generalizing io vs fpl with
              | nil => cases vs <;> cases fpl <;> simp [VsOk] at h ⊢
              | cons x xs ih =>
                cases vs <;> cases fpl <;> simp [VsOk] at h ⊢
                exact ih h.2.2
            exact this h3
          have hk2 : k' < xs.length := by rw [hlen]; exact (List.getElem?_eq_some_iff.mp hk').1
          have hy : xs[k']? = some xs[k'] := List.getElem?_eq_getElem hk2
          exact h2 k' xs[k'] fq hy hk' (.inl ⟨rfl, .inl (j3 _ (List.getElem_mem hk2))⟩) a ha haq
        · rw [List.flatten_cons] at ha
          rcases List.mem_append.mp ha with ha | ha
          · exact h1.2.2.2 a ha
          · exact j2 a ha
        · rcases List.mem_cons.mp hy with rfl | hy
          · rfl
          · exact j3 y hy
      · cases hp
theorem BndS.flat : ∀ {ys : List Val} {fpl : List (List Addr)}, ys.length = fpl.length → BndS L H env fps ys fpl → (∀ y ∈ ys, y.p = .fr ∨ y.p = .sh) → (∀ a ∈ fpl.flatten, AnyA env fps a ∨ H a = none) ∧ ((∀ y ∈ ys, y.p = .fr) → ∀ a ∈ fpl.flatten, OwnA L env fps a ∨ H a = none)
  | [], [], _, _, _ => ⟨fun a ha => by simp at ha, fun _ a ha => by simp at ha⟩
  | y :: ys, fp :: fpl, hl, h, q => by
    obtain ⟨i1, i2⟩ := BndS.flat (by simpa using hl) h.2 fun y hy => q y (List.mem_cons_of_mem _ hy)
    obtain ⟨k, p, d⟩ := y
    refine ⟨fun a ha => ?_, fun hf a ha => ?_⟩
    · rw [List.flatten_cons] at ha
      rcases List.mem_append.mp ha with ha | ha
      · rcases q _ List.mem_cons_self with z | z
        · cases z; exact (h.1 a ha).imp (fun w => w.toAny) id
        · cases z; exact h.1 a ha
      · exact i1 a ha
    · rw [List.flatten_cons] at ha
      rcases List.mem_append.mp ha with ha | ha
      · have z := hf _ List.mem_cons_self
        cases z
        exact h.1 a ha
      · exact i2 (fun y hy => hf y (List.mem_cons_of_mem _ hy)) a ha
theorem VsOk.len : ∀ {io : List Bool} {vs : List V} {xs : List Val} {fpl : List (List Addr)}, VsOk K H σ env fps io vs xs fpl → vs.length = xs.length ∧ xs.length = fpl.length := by
  intro io vs xs fpl h
  induction xs generalizing io vs fpl with
  | nil => cases vs <;> cases fpl <;> simp [VsOk] at h ⊢
  | cons x xs ih =>
    cases vs <;> cases fpl <;> simp [VsOk] at h ⊢
    exact ih h.2.2
end

section
variable {K : PySem.W.Frag} {H H0 H1 H2 H3 H' : Hp} {σ : St} {env env0 env1 env2 env3 env' : Env} {fps fps0 fps1 fps2 fps3 : Nat → List Addr} {L L' : List Nat} {v w : V} {x y : Val} {fp fq : List Addr} {W : WX} {xc : Str → Value}
  {vs : List V} {xs ys : List Val} {fpl : List (List Addr)}
/-- a new object whose items are the values: what it is -/
theorem disp_ok {dd : D} {fr : List Addr} {k : Kd} (R0 : ER K H0 σ env0 fps0) (R : ER K H σ env fps) (S : Step L H0 env0 fps0 H env fps) (h : VsOk K H σ env fps [] vs ys fpl) (b : BndS L H0 env0 fps0 ys fpl) (q : ∀ y ∈ ys, y.p = .fr ∨ y.p = .sh)
    (ex : Ext H H') (hd : Den K H' v dd fr) (hk : KdOk k dd) (hfr : ∀ a ∈ fr, a ∈ fpl.flatten ∨ H a = none) (hnd : fpl.flatten.Nodup → fr.Nodup) :
    Step L H0 env0 fps0 H' env fps ∧ ER K H' σ env fps ∧ VOk K H' σ env fps v ⟨k, pAll ys, dd⟩ fr ∧ Bnd L H0 env0 fps0 ⟨k, pAll ys, dd⟩ fr := by
  obtain ⟨_, _, a3, _, a5⟩ := VsOk.all R rfl h q
  obtain ⟨b1, b2⟩ := BndS.flat h.len.2 b q
  have none0 : ∀ {a : Addr}, H a = none → OwnA L env0 fps0 a ∨ H0 a = none := fun {a} e => S.noneBack (fun _ z => R0.ne z.toAny) e
  refine ⟨S.trans R0 ex.step, R.ext ex, ⟨hk, ?_⟩, ?_⟩
  · show match pAll ys with | .fr => _ | .sl i => _ | .pt i => _ | .sh => _
    cases e : pAll ys with
    | fr =>
      obtain ⟨c1, c2, _⟩ := a5 e
      exact ⟨hd, hnd c1, fun a ha z => (hfr a ha).elim (fun w => c2 a w z) fun w => R.ne z w⟩
    | sh => exact ⟨hd, fun a ha i s es os z => (hfr a ha).elim (fun w => a3 a w i s es os z) fun w => R.ne ⟨i, s, es, z⟩ w⟩
    | sl i => unfold pAll at e; split at e <;> cases e
    | pt i => unfold pAll at e; split at e <;> cases e
  · show match pAll ys with | .fr => _ | .sl i => _ | .pt i => _ | .sh => _
    cases e : pAll ys with
    | fr =>
      obtain ⟨_, _, c3⟩ := a5 e
      exact fun a ha => (hfr a ha).elim (fun w => b2 c3 a w) none0
    | sh => exact fun a ha => (hfr a ha).elim (fun w => b1 a w) fun w => (none0 w).imp (fun z => z.toAny) id
    | sl i => trivial
    | pt i => trivial
end

section
variable {X : Cx} {xc : Str → Value} {T : Tab} {W : WX} {e a b c d : Expr} {ca cb cc : CE} {pos : Pos} {cs : List CE} {es : List Expr}
theorem fits_le {n : Nat} (h : fits n = true) : n ≤ sizeLine := of_decide_eq_true h
theorem sd_tup {x1} (h : PA X es (tA X.K xc T W [] cs)) (he : ∀ whole, isTrue (.Tuple es x1 pos) X.env whole = (do let v ← whole; standAt (Expr.Tuple es x1 pos).pos; holding [v] (truthy v))) : Sd X xc T W (.Tuple es x1 pos) (.tup cs) := by
  refine Sd.mk' (pe_tup h) (fun σ H Q q => ?_) he
  obtain ⟨L, env, fps, R, P⟩ := q
  simp only [ev] at P
  refine tA.bind (self_sub L) R P fun xs env1 vs H1 fps1 fpl S1 R1 V1 B1 P1 => ?_
  simp only at P1
  split at P1
  · rename_i hf
    cases e : esc L xs env1 with
    | none => rw [e] at P1; exact P1.elim
    | some z =>
      obtain ⟨ys, env2⟩ := z
      rw [e] at P1
      obtain ⟨S2, R2, V2, B2, q2, rfl⟩ := esc_ok R S1 R1 V1 B1 e
      obtain ⟨a1, a2, _, a4, _⟩ := VsOk.all R2 rfl V2 q2
      have hl : vs.length ≤ sizeLine := by rw [V1.len.1]; exact fits_le hf
      refine ⟨hl, fun p hp => ?_⟩
      have ex : Ext H1 (upd H1 p (.tup vs)) := Ext.upd hp
      have hd : Den X.K (upd H1 p (.tup vs)) (.ref p) (.tuple ((xs.map Iv.share).map (·.d))) fpl.flatten := .tup (SqT.of upd_same) (ex.denL a1)
      obtain ⟨c1, c2, c3, c4⟩ := disp_ok (k := if kAll (xs.map Iv.share) then .imm else .deep) R R2 S2 V2 B2 q2 ex hd (by
        split
        · rename_i hk; exact a4 hk
        · trivial) (fun a ha => .inl ha) id
      exact P1 _ _ fps1 _ c1 c2 c3 c4
  · exact P1.elim
theorem sd_lst (h : PA X es (tA X.K xc T W [] cs)) (he : ∀ whole, isTrue (.List es pos) X.env whole = (do let v ← whole; standAt (Expr.List es pos).pos; holding [v] (truthy v))) : Sd X xc T W (.List es pos) (.lst cs) := by
  refine Sd.mk' (pe_lst h) (fun σ H Q q => ?_) he
  obtain ⟨L, env, fps, R, P⟩ := q
  simp only [ev] at P
  refine tA.bind (self_sub L) R P fun xs env1 vs H1 fps1 fpl S1 R1 V1 B1 P1 => ?_
  simp only at P1
  split at P1
  · rename_i hf
    cases e : esc L xs env1 with
    | none => rw [e] at P1; exact P1.elim
    | some z =>
      obtain ⟨ys, env2⟩ := z
      rw [e] at P1
      obtain ⟨S2, R2, V2, B2, q2, rfl⟩ := esc_ok R S1 R1 V1 B1 e
      obtain ⟨a1, a2, _, a4, _⟩ := VsOk.all R2 rfl V2 q2
      have hl : vs.length ≤ sizeLine := by rw [V1.len.1]; exact fits_le hf
      refine ⟨hl, fun p hp => ?_⟩
      have ex : Ext H1 (upd H1 p (.lst vs)) := Ext.upd hp
      have hd : Den X.K (upd H1 p (.lst vs)) (.ref p) (.list ((xs.map Iv.share).map (·.d))) (p :: fpl.flatten) := .lst upd_same (ex.denL a1)
      obtain ⟨c1, c2, c3, c4⟩ := disp_ok (k := if kAll (xs.map Iv.share) then .flat else .deep) R R2 S2 V2 B2 q2 ex hd (by
        split
        · rename_i hk; exact a4 hk
        · trivial) (fun a ha => (List.mem_cons.mp ha).elim (fun z => .inr (by rw [z]; exact hp)) .inl) fun nd => List.nodup_cons.mpr ⟨(fun z => by
          obtain ⟨o, eo, _⟩ := a1.there p z
          rw [hp] at eo
          cases eo), nd⟩
      exact P1 _ _ fps1 _ c1 c2 c3 c4
  · exact P1.elim
end
end Iv

set_option maxRecDepth 100000
set_option maxHeartbeats 1000000
/-! IvF: parts of things. -/
namespace Iv
open PySem L2
variable [Tbl]
section
variable {K : PySem.W.Frag} {H H0 H1 H2 H3 H' : Hp} {σ : St} {env env0 env1 env2 env3 env' : Env} {fps fps0 fps1 fps2 fps3 : Nat → List Addr} {L L' : List Nat} {v w : V} {x y : Val} {fp fq : List Addr} {W : WX} {xc : Str → Value}
theorem immL_mem : ∀ {ds : List D} {d : D}, immL ds = true → d ∈ ds → imm d = true
  | x :: xs, d, h, m => by
    simp only [immL, Bool.and_eq_true] at h
    rcases List.mem_cons.mp m with rfl | m
    · exact h.1
    · exact immL_mem h.2 m
theorem imm_tuple {ds : List D} : imm (.tuple ds) = immL ds := by simp [imm]
/-- d stands directly within e -/
inductive Within : D → D → Prop
  | lst {d : D} {ds : List D} : d ∈ ds → Within d (.list ds)
  | tup {d : D} {ds : List D} : d ∈ ds → Within d (.tuple ds)
  | dic {d : D} {es : List (D × D)} : d ∈ es.map (·.2) → Within d (.dict es)
theorem sub1_imm {k : Kd} {d e : D} (h : KdOk k e) (w : Within d e) (q : sub1 k d = .imm) : imm d = true := by
  cases k with
  | deep =>
    unfold sub1 at q
    split at q
    · split at q
      · assumption
      · cases q
    · rename_i hn; exact (hn rfl).elim
  | imm =>
    cases w with
    | lst m => cases (show imm (.list _) = true from h)
    | tup m => exact immL_mem (imm_tuple ▸ h) m
    | dic m => cases (show imm (.dict _) = true from h)
  | flat =>
    cases w with
    | lst m => exact immL_mem (show immL _ = true from h) m
    | tup m => exact immL_mem (imm_tuple ▸ (show imm _ = true from h)) m
    | dic m => exact immL_mem (show immL _ = true from h) m
theorem sub1_deep {k : Kd} {d : D} (q : ¬ sub1 k d = .imm) : k = .deep := by
  cases k <;> simp [sub1] at q ⊢
/-- a part of a value -/
theorem VOk.part {d : D} {u : V} (R : ER K H σ env fps) (h : VOk K H σ env fps v x fp) (w : Within d x.d) (hd : Den K H u d fq) (hs : fq.Sublist fp) : ∃ fr, VOk K H σ env fps u (Iv.part x d) fr ∧ fr.Sublist fp ∧
    (∀ (L0 : List Nat) (H0 : Hp) (env0 : Env) (fps0 : Nat → List Addr), Bnd L0 H0 env0 fps0 x fp → Bnd L0 H0 env0 fps0 (Iv.part x d) fr) := by
  unfold Iv.part
  by_cases q : sub1 x.k d = .imm
  · rw [if_pos q]
    have hi := sub1_imm h.kd w q
    have z := hd.imm hi
    subst z
    exact ⟨[], ⟨hi, hd, List.nodup_nil, fun a ha => nomatch ha⟩, List.nil_sublist _, fun _ _ _ _ _ a ha => nomatch ha⟩
  · rw [if_neg q]
    obtain ⟨k, p, dd⟩ := x
    obtain rfl : k = .deep := sub1_deep q
    refine ⟨fq, ⟨trivial, ?_⟩, hs, ?_⟩
    · cases p with
      | fr => exact ⟨hd, hs.nodup h.2.2.1, fun a ha => h.2.2.2 a (hs.subset ha)⟩
      | sl i =>
        obtain ⟨_, h1, h2, h3⟩ := h
        exact ⟨hd, ⟨_, h2, rfl⟩, fun a ha => by rw [← h3]; exact hs.subset ha⟩
      | pt i => exact ⟨hd, h.2.2.1, fun a ha => h.2.2.2 a (hs.subset ha)⟩
      | sh => exact ⟨hd, fun a ha => h.2.2 a (hs.subset ha)⟩
    · intro L0 H0 env0 fps0 b
      cases p with
      | fr => exact fun a ha => b a (hs.subset ha)
      | sl i => trivial
      | pt i => trivial
      | sh => exact fun a ha => b a (hs.subset ha)
theorem atI_den {vs : List V} {ds : List D} {i : Int} {d : D} (l : DenL K H vs ds fp) (e : atI ds i = some d) : ∃ u fq, atI vs i = some u ∧ Den K H u d fq ∧ fq.Sublist fp ∧ d ∈ ds := by
  unfold atI at *
  rw [← l.length] at e
  cases q : ixN vs.length i with
  | none => rw [q] at e; cases e
  | some j =>
    rw [q] at e
    obtain ⟨u, fq, h1, h2, h3⟩ := l.get (i := j) (d := d) e
    exact ⟨u, fq, h1, h2, h3, List.mem_of_getElem? e⟩
theorem keyD_str {k : Key} {s : Str} : PyData.eqv (keyD k) (.str s) = decide (k = Sum.inr s) := by
  cases k with
  | inl i => simp [keyD, PyData.eqv]
  | inr x =>
    simp only [keyD, PyData.eqv]
    by_cases h : x = s
    · subst h; simp
    · rw [beq_eq_false_iff_ne.mpr h]
      rw [decide_eq_false]
      intro q; exact h (Sum.inr.inj q)
theorem tup_str {k : List D} {s : Str} : PyData.eqv (.tuple k) (.str s) = false := by simp [PyData.eqv]
/-- the entry of a text -/
theorem dic_find {kvs : List (Key × V)} {es : List (D × D)} {s : Str} {e : D × D} (hk : es.map (·.1) = kvs.map (fun p => keyD p.1)) (l : DenL K H (kvs.map (·.2)) (es.map (·.2)) fp) (h : es.find? (fun e => PyData.eqv e.1 (.str s)) = some e) :
    ∃ u fq, valV kvs (Sum.inr s) = some u ∧ Den K H u e.2 fq ∧ fq.Sublist fp ∧ e.2 ∈ es.map (·.2) := by
  induction es generalizing kvs fp with
  | nil => cases h
  | cons a es ih =>
    cases kvs with
    | nil => cases hk
    | cons kv kvs =>
      simp only [List.map_cons, List.cons.injEq] at hk l
      cases l with
      | cons d0 l0 =>
        rw [List.find?_cons, hk.1, keyD_str] at h
        by_cases q : kv.1 = Sum.inr s
        · rw [decide_eq_true q] at h
          simp only [Option.some.injEq] at h
          subst h
          refine ⟨kv.2, _, ?_, d0, List.sublist_append_left _ _, List.mem_cons_self⟩
          unfold valV
          rw [List.find?_cons, decide_eq_true q]
          rfl
        · rw [decide_eq_false q] at h
          obtain ⟨u, fq, h1, h2, h3, h4⟩ := ih hk.2 l0 h
          refine ⟨u, fq, ?_, h2, h3.trans (List.sublist_append_right _ _), List.mem_cons_of_mem _ h4⟩
          unfold valV
          rw [List.find?_cons, decide_eq_false q]
          exact h1
end
section
variable {X : Cx} {xc : Str → Value} {T : Tab} {W : WX} {e a b c d : Expr} {ca cb cc : CE} {pos : Pos}
theorem PE.or {e : Expr} {t t1 t2 : TE} (h1 : PE X e t1) (h2 : PE X e t2) (k : ∀ σ H Q, t σ H Q → t1 σ H Q ∨ t2 σ H Q) : PE X e t :=
  ⟨fun pins s σ H Q I q => (k _ _ _ q).elim (h1.run pins s σ H Q I) (h2.run pins s σ H Q I)⟩
/-- a value and another one, by values that the code tells -/
theorem two_red {f : Val → Val → Option Val} {K : PySem.W.Frag} {σ : St} {H : Hp} {Q : VK} {r : V → V → Hp → VK → Prop} {L : List Nat} {env : Env} {fps : Nat → List Addr} (R : ER K H σ env fps)
    (P : PostR K xc W L σ H env fps ((ev T ca L env).bind fun q => (ev T cb (lk q.1 L) q.2).bind fun p => Iv.R.of ((f q.1 p.1).map fun r => (r, p.2))) Q)
    (k : ∀ x env1 y env2 v w H2 fps2 fp fq z, ev T ca L env = .ok (x, env1) → ev T cb (lk x L) env1 = .ok (y, env2) → ER K H2 σ env2 fps2 → VOk K H2 σ env2 fps2 v x fp → VOk K H2 σ env2 fps2 w y fq → f x y = some z →
      (∀ u, (∃ fz, VOk K H2 σ env2 fps2 u z fz ∧ (∀ (L0 : List Nat) (H0 : Hp) (env0 : Env) (fps0 : Nat → List Addr), Bnd L0 H0 env0 fps0 x fp → Bnd L0 H0 env0 fps0 z fz)) → Q u H2) → r v w H2 Q) :
    tI K xc T W ca σ H fun v H1 => tI K xc T W cb σ H1 fun w H2 => r v w H2 Q := by
  refine ⟨L, env, fps, R, ?_⟩
  cases e1 : ev T ca L env with
  | ok q =>
    obtain ⟨x, env1⟩ := q
    rw [e1] at P
    intro v H1 fps1 fp S1 R1 V1 B1
    refine ⟨lk x L, env1, fps1, R1, ?_⟩
    simp only [Iv.R.bind] at P
    cases e2 : ev T cb (lk x L) env1 with
    | ok q =>
      obtain ⟨y, env2⟩ := q
      rw [e2] at P
      intro w H2 fps2 fq S2 R2 V2 B2
      have V1' := V1.step R1 S2 (fun i h => lk_has h)
      have S := S1.trans R (S2.mono (lk_sub x L))
      simp only at P
      cases ez : f x y with
      | none => rw [ez] at P; exact P.elim
      | some z =>
        rw [ez] at P
        exact k x env1 y env2 v w H2 fps2 fp fq z e1 e2 R2 V1' V2 ez fun u ⟨fz, vz, bz⟩ => P u H2 fps2 fz S R2 vz (bz _ _ _ _ B1)
    | ex n e' => rw [e2] at P; exact fun H' fps' s1 r1 => P H' fps' (S1.trans R (s1.mono (lk_sub x L))) r1
    | no => rw [e2] at P; exact P
  | ex n e' => rw [e1] at P; exact P
  | no => rw [e1] at P; exact P
theorem sd_ix (hu : X.A.units + 1 < cLine) (ha : Sd X xc T W a ca) (hb : Sd X xc T W b cb) (hs : NoSl b) : Sd X xc T W (.Subscript a b pos) (.ix ca cb) := by
  have main : PE X (.Subscript a b pos) (tI X.K xc T W (.ix ca cb)) := by
    refine PE.or (pe_ix ix_seq ha.pe hb.pe hs) (pe_dget (pos := pos) hu ha.pe hb.pe hs) fun σ H Q h => ?_
    obtain ⟨L, env, fps, R, P⟩ := h
    simp only [ev] at P
    by_cases hd : ∃ x env1 es, ev T ca L env = .ok (x, env1) ∧ x.d = .dict es
    · obtain ⟨x0, env1, es, e1, ed⟩ := hd
      refine .inr (two_red (f := ixV) (r := fun x y H2 Q => ∃ a v, x = .ref a ∧ DGet H2 a y (some v) ∧ Q v H2) R P fun x env1' y env2 v w H2 fps2 fp fq z q1 q2 R2 V1 V2 ez done => ?_)
      rw [e1] at q1
      cases q1
      have D1 := V1.den R2
      have D2 := V2.den R2
      obtain ⟨k, p, d⟩ := x0
      obtain ⟨k', p', d'⟩ := y
      obtain rfl : d = .dict es := ed
      cases d' with
      | str s =>
        cases D2
        simp only [ixV, Option.map_eq_some_iff] at ez
        obtain ⟨e, he, rfl⟩ := ez
        cases D1 with
        | dK h1 h2 h3 =>
          obtain ⟨u, fr, g1, g2, g3, g4⟩ := dic_find h2 h3 he
          obtain ⟨fz, z1, z2, z3⟩ := VOk.part R2 V1 (.dic g4) g2 (g3.trans (List.sublist_cons_self _ _))
          refine ⟨_, u, rfl, ?_, done u ⟨fz, z1, z3⟩⟩
          rw [← g1]
          exact DGet.k (k := Sum.inr s) h1
        | dT h1 h2 h3 =>
          exfalso
          have : ∀ (es : List (D × D)) (kvs : List (List Key × V)), es.map (·.1) = kvs.map (fun p => PyData.tuple (p.1.map keyD)) → es.find? (fun e => PyData.eqv e.1 (.str s)) = none := by
            intro es
            induction es with
            | nil => intros; rfl
            | cons a es ih =>
              intro kvs q
              cases kvs with
              | nil => cases q
              | cons kv kvs =>
                simp only [List.map_cons, List.cons.injEq] at q
                rw [List.find?_cons, q.1, tup_str]
                exact ih kvs q.2
          rw [this es _ h2] at he
          cases he
      | _ => simp [ixV] at ez
    · refine .inl (two_red (f := ixV) (r := rIx X.K) R P fun x env1 y env2 v w H2 fps2 fp fq z e1 e2 R2 V1 V2 ez done => ?_)
      have D1 := V1.den R2
      have D2 := V2.den R2
      obtain ⟨k, p, d⟩ := x
      obtain ⟨k', p', d'⟩ := y
      cases d with
      | dict es => exact (hd ⟨_, _, es, e1, rfl⟩).elim
      | list ds =>
        cases d' with
        | int i =>
          cases D2
          simp only [ixV, Option.map_eq_some_iff] at ez
          obtain ⟨d, hi, rfl⟩ := ez
          cases D1 with
          | lst h1 h2 =>
            obtain ⟨u, fr, g1, g2, g3, g4⟩ := atI_den h2 hi
            obtain ⟨fz, z1, z2, z3⟩ := VOk.part R2 V1 (.lst g4) g2 (g3.trans (List.sublist_cons_self _ _))
            exact .inl ⟨_, _, i, u, rfl, rfl, SqL.of h1, g1, done u ⟨fz, z1, z3⟩⟩
        | _ => simp [ixV] at ez
      | tuple ds =>
        cases d' with
        | int i =>
          cases D2
          simp only [ixV, Option.map_eq_some_iff] at ez
          obtain ⟨d, hi, rfl⟩ := ez
          cases D1 with
          | tup h1 h2 =>
            obtain ⟨u, fr, g1, g2, g3, g4⟩ := atI_den h2 hi
            obtain ⟨fz, z1, z2, z3⟩ := VOk.part R2 V1 (.tup g4) g2 g3
            exact .inr (.inl ⟨_, _, i, u, rfl, rfl, h1, g1, done u ⟨fz, z1, z3⟩⟩)
        | _ => simp [ixV] at ez
      | _ => simp [ixV] at ez
  exact ⟨main, pt_val main (by intro _; rfl)⟩
end
end Iv

set_option maxRecDepth 100000
set_option maxHeartbeats 1000000
/-! IvG: what works on values alone, shown. -/
namespace Iv
open PySem L2 PyProof.Rows
variable [Tbl]

structure Gd (X : Cx) : Prop where
  calm : X.calm = true
  nd : X.N.Nodup
  hu : X.A.units + 200 < cLine
  gu : X.A.guards = some []

theorem OpR.imp {X : Cx} {f : Value → Value → Sem Value} {r r' : R2} (h : OpR X f r) (k : ∀ x y H Q, r' x y H Q → r x y H Q) : OpR X f r' := fun pins s σ H x y v u Q I rx ry q => h pins s σ H x y v u Q I rx ry (k _ _ _ _ q)
theorem CallR.imp {X : Cx} {f : Value} {r r' : List V → Hp → VK → Prop} (h : CallR X f r) (k : ∀ xs H Q, r' xs H Q → r xs H Q) : CallR X f r' := fun pins s σ H xs us Q I rx q => h pins s σ H xs us Q I rx (k _ _ _ q)

section
variable {K : PySem.W.Frag} {H H' : Hp} {v w : V} {d e : D} {fp fq : List Addr}
mutual
theorem Den.dp : ∀ {v : V} {d : D} {fp : List Addr}, Den K H v d fp → d.canLay0 = true → Dp K H v d
  | _, _, _, .non, _ => .non
  | _, _, _, .bl b, _ => .bl b
  | _, _, _, .int i, _ => .int i
  | _, _, _, .str x, _ => .str x
  | _, _, _, .lst h l, q => .lst (SqL.of h) (l.dp (by simpa [PyData.canLay0] using q))
  | _, _, _, .tup h l, q => .tup h (l.dp (by simpa [PyData.canLay0] using q))
  | _, _, _, .dK _ _ _, q => by simp [PyData.canLay0] at q
  | _, _, _, .dT _ _ _, q => by simp [PyData.canLay0] at q
theorem DenL.dp : ∀ {vs : List V} {ds : List D} {fp : List Addr}, DenL K H vs ds fp → PyData.canLayAll0 ds = true → DpAll K H vs ds
  | _, _, _, .nil, _ => .nil
  | _, _, _, .cons h l, q => by
    simp only [PyData.canLayAll0, Bool.and_eq_true] at q
    exact .cons (h.dp q.1) (l.dp q.2)
end
theorem plain_dp (h : Den K H v d fp) (q : plain d = true) : Dp K H v d := h.dp (SeqAt.canLay_of_shaped q)
mutual
theorem Den.dpD : ∀ {v : V} {d : D} {fp : List Addr}, Den K H v d fp → d.hasDict = false → Dp K H v d
  | _, _, _, .non, _ => .non
  | _, _, _, .bl b, _ => .bl b
  | _, _, _, .int i, _ => .int i
  | _, _, _, .str x, _ => .str x
  | _, _, _, .lst h l, q => .lst (SqL.of h) (l.dpD (by simpa [PyData.hasDict] using q))
  | _, _, _, .tup h l, q => .tup h (l.dpD (by simpa [PyData.hasDict] using q))
  | _, _, _, .dK _ _ _, q => by simp [PyData.hasDict] at q
  | _, _, _, .dT _ _ _, q => by simp [PyData.hasDict] at q
theorem DenL.dpD : ∀ {vs : List V} {ds : List D} {fp : List Addr}, DenL K H vs ds fp → PyData.hasDictAll ds = false → DpAll K H vs ds
  | _, _, _, .nil, _ => .nil
  | _, _, _, .cons h l, q => by
    simp only [PyData.hasDictAll, Bool.or_eq_false_iff] at q
    exact .cons (h.dpD q.1) (l.dpD q.2)
end
theorem fl_flat {k : Kd} (h : KdOk k d) (q : fl k d = true) : flatD d = true := by
  cases k with
  | imm =>
    have h : imm d = true := h
    cases d <;> simp_all [flatD, imm]
  | flat => exact h
  | deep => exact q
theorem fl_tuple {k : Kd} {ds : List D} (h : KdOk k (.tuple ds)) (q : fl k (.tuple ds) = true) : immL ds = true := by
  have := fl_flat h q
  simpa [flatD, imm] using this
theorem ints_of : ∀ {ds : List D} {ns : List Int}, intsOf ds = some ns → ds = ns.map PyData.int
  | [], ns, h => by simp [intsOf] at h; subst h; rfl
  | .int i :: r, ns, h => by
    simp only [intsOf, Option.map_eq_some_iff] at h
    obtain ⟨ms, h1, rfl⟩ := h
    rw [ints_of h1]; rfl
  | .none :: _, _, h => by simp [intsOf] at h
  | .bool _ :: _, _, h => by simp [intsOf] at h
  | .str _ :: _, _, h => by simp [intsOf] at h
  | .list _ :: _, _, h => by simp [intsOf] at h
  | .tuple _ :: _, _, h => by simp [intsOf] at h
  | .dict _ :: _, _, h => by simp [intsOf] at h
theorem intsOf_map : ∀ ns : List Int, intsOf (ns.map PyData.int) = some ns
  | [] => rfl
  | n :: ns => by simp [intsOf, intsOf_map ns]
theorem denL_ints : ∀ {vs : List V} {ns : List Int} {fp : List Addr}, DenL K H vs (ns.map PyData.int) fp → vs = ns.map V.int ∧ fp = []
  | _, [], _, .nil => ⟨rfl, rfl⟩
  | _, n :: ns, _, .cons h l => by
    obtain ⟨e1, e2⟩ := denL_ints l
    cases h
    subst e1 e2
    exact ⟨rfl, rfl⟩
/-- a new list of things without lists -/
theorem New.lst {Q : VK} {ds : List D} {vs : List V} {p : Addr} (n : New K H (.flat, .list ds) Q) (hp : H p = none) (l : DenL K H vs ds []) (hi : immL ds = true) : Q (.ref p) (upd H p (.lst vs)) :=
  n _ _ [p] (Ext.upd hp) (.lst upd_same ((Ext.upd hp).denL l)) (List.nodup_cons.mpr ⟨by simp, List.nodup_nil⟩) (fun a ha => by
    have e : a = p := by simpa using ha
    rw [e]; exact hp) hi
theorem New.tup {Q : VK} {ds : List D} {vs : List V} {p : Addr} (n : New K H (.imm, .tuple ds) Q) (hp : H p = none) (l : DenL K H vs ds []) (hi : immL ds = true) : Q (.ref p) (upd H p (.tup vs)) :=
  n _ _ [] (Ext.upd hp) (.tup (SqT.of upd_same) ((Ext.upd hp).denL l)) List.nodup_nil (fun a ha => nomatch ha) (by rw [KdOk, imm_tuple]; exact hi)
theorem DenL.nil_of {vs : List V} {ds : List D} {fp : List Addr} (l : DenL K H vs ds fp) (hi : immL ds = true) : DenL K H vs ds [] := by
  have := l.imm hi; subst this; exact l
end

section
variable {X : Cx}
theorem pr_add (G : Gd X) : OpR X (binaryOp .Add) (fun x y H Q => rP2 X.K .add x y H Q) := by
  refine OpR.imp (op_add.or op_cat) fun x y H Q h => ?_
  obtain ⟨k, d, fp, l, e, fq, r, hd, hk, he, hl, hp, n⟩ := h
  cases d <;> cases e <;> simp [pr2, rN] at hp
  · cases hd; cases he; subst hp
    exact .inl ⟨_, _, rfl, rfl, n.at (.int _) rfl⟩
  · obtain ⟨⟨⟨f1, f2⟩, f3⟩, rfl⟩ := hp
    cases hd with
    | lst a1 a2 =>
      cases he with
      | lst b1 b2 =>
        have i1 : immL _ = true := fl_flat hk f1
        have i2 : immL _ = true := fl_flat hl f2
        refine .inr ⟨_, _, _, _, rfl, rfl, a1, b1, ?_, fun p hp => n.lst hp (DenL.append (fp := []) (fq := []) (a2.nil_of i1) (b2.nil_of i2)) ?_⟩
        · rw [a2.length, b2.length]; exact fits_le f3
        · have app : ∀ (xs ys : List D), immL xs = true → immL ys = true → immL (xs ++ ys) = true := by
            intro xs ys h1 h2
            induction xs with
            | nil => exact h2
            | cons x xs ih =>
              simp only [immL, Bool.and_eq_true, List.cons_append] at h1 ⊢
              exact ⟨h1.1, ih h1.2⟩
          exact app _ _ i1 i2
theorem pr_sub (G : Gd X) : OpR X (binaryOp .Sub) (fun x y H Q => rP2 X.K .sub x y H Q) := by
  refine OpR.imp op_sub fun x y H Q h => ?_
  obtain ⟨k, d, fp, l, e, fq, r, hd, hk, he, hl, hp, n⟩ := h
  cases d <;> cases e <;> simp [pr2, rN] at hp
  cases hd; cases he; subst hp
  exact ⟨_, _, rfl, rfl, n.at (.int _) rfl⟩
theorem immL_rep : ∀ (n : Nat) (xs : List D), immL xs = true → immL (List.replicate n xs).flatten = true
  | 0, _, _ => rfl
  | n + 1, xs, h => by
    rw [List.replicate_succ, List.flatten_cons]
    have app : ∀ (xs ys : List D), immL xs = true → immL ys = true → immL (xs ++ ys) = true := by
      intro xs ys h1 h2
      induction xs with
      | nil => exact h2
      | cons x xs ih =>
        simp only [immL, Bool.and_eq_true, List.cons_append] at h1 ⊢
        exact ⟨h1.1, ih h1.2⟩
    exact app _ _ h (immL_rep n xs h)
theorem denL_rep {K : PySem.W.Frag} {H : Hp} : ∀ (n : Nat) {vs : List V} {xs : List D}, DenL K H vs xs [] → DenL K H (List.replicate n vs).flatten (List.replicate n xs).flatten []
  | 0, _, _, _ => .nil
  | n + 1, vs, xs, h => by
    rw [List.replicate_succ, List.flatten_cons, List.replicate_succ, List.flatten_cons]
    exact DenL.append (fp := []) (fq := []) h (denL_rep n h)
theorem pr_mul (G : Gd X) : OpR X (binaryOp .Mult) (fun x y H Q => rP2 X.K .mul x y H Q) := by
  refine OpR.imp (op_mul.or op_rep) fun x y H Q h => ?_
  obtain ⟨k, d, fp, l, e, fq, r, hd, hk, he, hl, hp, n⟩ := h
  cases d <;> cases e <;> simp [pr2, rN, mulOk] at hp
  · cases hd; cases he
    obtain ⟨h1, rfl⟩ := hp
    exact .inl ⟨_, _, rfl, rfl, h1, n.at (.int _) rfl⟩
  · obtain ⟨⟨⟨⟨f1, f2⟩, f3⟩, f4⟩, rfl⟩ := hp
    cases he
    cases hd with
    | lst a1 a2 =>
      have i1 : immL _ = true := fl_flat hk f1
      refine .inr ⟨_, _, _, rfl, rfl, a1, f2, f3, ?_, fun p hp => n.lst hp (denL_rep _ (a2.nil_of i1)) (immL_rep _ _ i1)⟩
      rw [a2.length]; exact fits_le f4
theorem pr_fdiv (G : Gd X) : OpR X (binaryOp .FloorDiv) (fun x y H Q => rP2 X.K .fdiv x y H Q) := by
  refine OpR.imp op_fdiv fun x y H Q h => ?_
  obtain ⟨k, d, fp, l, e, fq, r, hd, hk, he, hl, hp, n⟩ := h
  cases d <;> cases e <;> simp [pr2, rN] at hp
  obtain ⟨h1, rfl⟩ := hp
  cases hd; cases he
  exact ⟨_, _, rfl, rfl, h1, n.at (.int _) rfl⟩
theorem pr_mod (G : Gd X) : OpR X (binaryOp .Mod) (fun x y H Q => rP2 X.K .mod x y H Q) := by
  refine OpR.imp op_mod fun x y H Q h => ?_
  obtain ⟨k, d, fp, l, e, fq, r, hd, hk, he, hl, hp, n⟩ := h
  cases d <;> cases e <;> simp [pr2, rN] at hp
  obtain ⟨h1, rfl⟩ := hp
  cases hd; cases he
  exact ⟨_, _, rfl, rfl, h1, n.at (.int _) rfl⟩
theorem pr_lt (G : Gd X) : OpR X (compareOp .Lt) (fun x y H Q => rP2 X.K .lt x y H Q) := by
  refine OpR.imp op_lt fun x y H Q h => ?_
  obtain ⟨k, d, fp, l, e, fq, r, hd, hk, he, hl, hp, n⟩ := h
  cases d <;> cases e <;> simp [pr2, rB] at hp
  cases hd; cases he; subst hp
  exact ⟨_, _, rfl, rfl, n.at (.bl _) rfl⟩
theorem pr_le (G : Gd X) : OpR X (compareOp .LtE) (fun x y H Q => rP2 X.K .le x y H Q) := by
  refine OpR.imp op_le fun x y H Q h => ?_
  obtain ⟨k, d, fp, l, e, fq, r, hd, hk, he, hl, hp, n⟩ := h
  cases d <;> cases e <;> simp [pr2, rB] at hp
  cases hd; cases he; subst hp
  exact ⟨_, _, rfl, rfl, n.at (.bl _) rfl⟩
theorem pr_gt (G : Gd X) : OpR X (compareOp .Gt) (fun x y H Q => rP2 X.K .gt x y H Q) := by
  refine OpR.imp op_gt fun x y H Q h => ?_
  obtain ⟨k, d, fp, l, e, fq, r, hd, hk, he, hl, hp, n⟩ := h
  cases d <;> cases e <;> simp [pr2, rB] at hp
  cases hd; cases he; subst hp
  exact ⟨_, _, rfl, rfl, n.at (.bl _) rfl⟩
theorem pr_ge (G : Gd X) : OpR X (compareOp .GtE) (fun x y H Q => rP2 X.K .ge x y H Q) := by
  refine OpR.imp op_ge fun x y H Q h => ?_
  obtain ⟨k, d, fp, l, e, fq, r, hd, hk, he, hl, hp, n⟩ := h
  cases d <;> cases e <;> simp [pr2, rB] at hp
  cases hd; cases he; subst hp
  exact ⟨_, _, rfl, rfl, n.at (.bl _) rfl⟩
theorem pr_eq (G : Gd X) : OpR X (compareOp .Eq) (fun x y H Q => rP2 X.K .eq x y H Q) := by
  refine OpR.imp (op_eqD (by have := G.hu; omega)) fun x y H Q h => ?_
  obtain ⟨k, d, fp, l, e, fq, r, hd, hk, he, hl, hp, n⟩ := h
  simp only [pr2, rB] at hp
  split at hp
  · rename_i q
    simp only [Bool.and_eq_true] at q
    cases hp
    exact ⟨d, e, plain_dp hd q.1, plain_dp he q.2, q.1, q.2, n.at (.bl _) rfl⟩
  · cases hp
theorem pr_ne (G : Gd X) : OpR X (compareOp .NotEq) (fun x y H Q => rP2 X.K .ne x y H Q) := by
  refine OpR.imp (op_neD (by have := G.hu; omega)) fun x y H Q h => ?_
  obtain ⟨k, d, fp, l, e, fq, r, hd, hk, he, hl, hp, n⟩ := h
  simp only [pr2, rB] at hp
  split at hp
  · rename_i q
    simp only [Bool.and_eq_true] at q
    cases hp
    exact ⟨d, e, plain_dp hd q.1, plain_dp he q.2, q.1, q.2, n.at (.bl _) rfl⟩
  · cases hp
theorem plain_list {ds : List D} (h : plain (.list ds) = true) : PyData.canLayAll0 ds = true := by
  have := SeqAt.canLay_of_shaped h
  simpa [PyData.canLay0] using this
theorem plain_tuple {ds : List D} (h : plain (.tuple ds) = true) : PyData.canLayAll0 ds = true := by
  have := SeqAt.canLay_of_shaped h
  simpa [PyData.canLay0] using this
/-- in, not in: a list or a tuple -/
theorem in_main (G : Gd X) {neg : Bool} {op : CmpOp} {f : Pr} (ho : op = if neg then CmpOp.NotIn else CmpOp.In) (hf : f = if neg then Pr.notin else Pr.isin) : OpR X (compareOp op) (fun x y H Q => rP2 X.K f x y H Q) := by
  intro pins s σ H x y v u Q I rx ry h
  obtain ⟨k, d, fp, l, e, fq, r, hd, hk, he, hl, hp, n⟩ := h
  have key : ∃ es, (e = .list es ∨ e = .tuple es) ∧ plain d = true ∧ plain e = true ∧ r = (.imm, .bool (if neg then !es.any fun z => PyData.eqv z d else es.any fun z => PyData.eqv z d)) := by
    subst hf
    cases neg <;> cases e <;> simp [pr2, rB] at hp
    all_goals
      obtain ⟨⟨h1, h2⟩, rfl⟩ := hp
      exact ⟨_, by first | exact .inl rfl | exact .inr rfl, h1, h2, by simp⟩
  obtain ⟨es, hes, p1, p2, rfl⟩ := key
  obtain ⟨as, r1⟩ := Dp.reads I d x v (plain_dp hd p1) rx
  obtain ⟨bs, r2⟩ := Dp.reads I e y u (plain_dp he p2) ry
  have fin : EP X pins σ Q (.bool (if neg then !es.any fun z => PyData.eqv z d else es.any fun z => PyData.eqv z d)) s := ⟨.bl _, H, I, rfl, n.at (.bl _) rfl⟩
  have dd := SeqAt.canLay_of_shaped p1
  have room : X.A.units + 1 + min (PyData.depthAll es) d.depth < cLine := by
    have := SeqAt.depth_of_shaped p1
    have := Nat.min_le_right (PyData.depthAll es) d.depth
    have := G.hu
    omega
  subst ho
  rcases hes with rfl | rfl
  · cases neg with
    | true => exact SeqAt.notIn_list_reads r2 r1 (plain_list p2) dd room fin
    | false => exact SeqAt.in_list_reads r2 r1 (plain_list p2) dd room fin
  · cases neg with
    | true => exact SeqAt.notIn_tuple_reads r2 r1 (plain_tuple p2) dd room fin
    | false => exact SeqAt.in_tuple_reads r2 r1 (plain_tuple p2) dd room fin
theorem pr_in (G : Gd X) : OpR X (compareOp .In) (fun x y H Q => rP2 X.K .isin x y H Q) := in_main G (neg := false) rfl rfl
theorem pr_notin (G : Gd X) : OpR X (compareOp .NotIn) (fun x y H Q => rP2 X.K .notin x y H Q) := in_main G (neg := true) rfl rfl
theorem pr_neg (G : Gd X) : UnR X (unaryOp .USub) (fun x H Q => rP1 X.K .neg x H Q) := fun pins s σ H x v Q I rx h => by
  refine un_neg pins s σ H x v Q I rx ?_
  obtain ⟨k, d, fp, r, hd, hk, hp, n⟩ := h
  cases d <;> simp [pr1, rN] at hp
  cases hd; subst hp
  exact ⟨_, rfl, n.at (.int _) rfl⟩
theorem pr_len (G : Gd X) : CallR X (.builtin "len") (rC1 X.K .len) := by
  refine CallR.imp call_len fun xs H Q h => ?_
  obtain ⟨v, rfl, k, d, fp, r, hd, hk, hp, n⟩ := h
  cases d <;> simp [pr1, rN] at hp
  · subst hp
    cases hd with
    | lst a1 a2 => exact ⟨_, _, rfl, .inl ⟨_, SqL.of a1, rfl⟩, by rw [a2.length]; exact n.at (.int _) rfl⟩
  · subst hp
    cases hd with
    | tup a1 a2 => exact ⟨_, _, rfl, .inr ⟨_, a1, rfl⟩, by rw [a2.length]; exact n.at (.int _) rfl⟩
theorem pr_abs (G : Gd X) : CallR X (.builtin "abs") (rC1 X.K .abs) := by
  refine CallR.imp call_abs fun xs H Q h => ?_
  obtain ⟨v, rfl, k, d, fp, r, hd, hk, hp, n⟩ := h
  cases d <;> simp [pr1, rN] at hp
  subst hp; cases hd
  exact ⟨_, rfl, n.at (.int _) rfl⟩
theorem pr_int (G : Gd X) : CallR X (.type "int") (rC1 X.K .toInt) := by
  refine CallR.imp call_int1 fun xs H Q h => ?_
  obtain ⟨v, rfl, k, d, fp, r, hd, hk, hp, n⟩ := h
  cases d <;> simp [pr1, rN] at hp
  · subst hp; cases hd
    exact .inr ⟨_, rfl, n.at (.int _) rfl⟩
  · subst hp; cases hd
    exact .inl ⟨_, rfl, n.at (.int _) rfl⟩
theorem pr_max2 (G : Gd X) : CallR X (.builtin "max") (rC2 X.K .max2) := by
  refine CallR.imp (call_max2 G.calm) fun xs H Q h => ?_
  obtain ⟨v, w, rfl, k, d, fp, l, e, fq, r, hd, hk, he, hl, hp, n⟩ := h
  cases d <;> cases e <;> simp [pr2, rN] at hp
  subst hp; cases hd; cases he
  exact ⟨_, _, rfl, n.at (.int _) rfl⟩
theorem pr_min2 (G : Gd X) : CallR X (.builtin "min") (rC2 X.K .min2) := by
  refine CallR.imp (call_min2 G.calm) fun xs H Q h => ?_
  obtain ⟨v, w, rfl, k, d, fp, l, e, fq, r, hd, hk, he, hl, hp, n⟩ := h
  cases d <;> cases e <;> simp [pr2, rN] at hp
  subst hp; cases hd; cases he
  exact ⟨_, _, rfl, n.at (.int _) rfl⟩
theorem pr_list (G : Gd X) : CallR X (.type "list") (rC1 X.K .listOf) := by
  refine CallR.imp call_list_of fun xs H Q h => ?_
  obtain ⟨v, rfl, k, d, fp, r, hd, hk, hp, n⟩ := h
  cases d <;> simp [pr1] at hp
  · obtain ⟨f, rfl⟩ := hp
    cases hd with
    | lst a1 a2 =>
      have i : immL _ = true := fl_flat hk f
      exact ⟨_, _, rfl, .inl (SqL.of a1), fun p hp => n.lst hp (a2.nil_of i) i⟩
  · obtain ⟨f, rfl⟩ := hp
    cases hd with
    | tup a1 a2 =>
      have i := fl_tuple hk f
      exact ⟨_, _, rfl, .inr a1, fun p hp => n.lst hp (a2.nil_of i) i⟩
theorem pr_tuple (G : Gd X) : CallR X (.type "tuple") (rC1 X.K .tupleOf) := by
  refine CallR.imp call_tuple_of fun xs H Q h => ?_
  obtain ⟨v, rfl, k, d, fp, r, hd, hk, hp, n⟩ := h
  cases d <;> simp [pr1, rI] at hp
  · obtain ⟨f, rfl⟩ := hp
    cases hd with
    | lst a1 a2 =>
      have i : immL _ = true := fl_flat hk f
      exact ⟨_, _, rfl, .inl ⟨SqL.of a1, fun p hp => n.tup hp (a2.nil_of i) i⟩⟩
  · obtain ⟨f, rfl⟩ := hp
    cases hd with
    | tup a1 a2 =>
      have i := fl_tuple hk f
      exact ⟨_, _, rfl, .inr ⟨a1, n.at (.tup a1 (a2.nil_of i)) (by rw [imm_tuple]; exact i)⟩⟩

theorem each_reads {K : PySem.W.Frag} {H : Hp} {h : Heap} : ∀ {vs : List V} {ds : List D} {us : List Value} {as : List Addr}, DenL K H vs ds [] → Vals vs us → ReadsAll h us ds as →
    PySem.W.EachIs (fun u d => ∃ v, RelV v u ∧ Den K H v d []) us ds ∧ PySem.W.EachIs (fun u d => ∃ as, Reads h u d as) us ds
  | [], [], [], _, _, _, _ => ⟨.nil, .nil⟩
  | v :: vs, d :: ds, u :: us, _, l, .cons rv rvs, .cons r1 r2 => by
    obtain ⟨e1, e2⟩ := each_reads l.split.2 rvs r2
    exact ⟨.cons ⟨v, rv, l.split.1⟩ e1, .cons ⟨_, r1⟩ e2⟩
theorem each_back {K : PySem.W.Frag} {H : Hp} : ∀ {ds : List D} {us : List Value}, PySem.W.EachIs (fun u d => ∃ v, RelV v u ∧ Den K H v d []) us ds → ∃ vs, Vals vs us ∧ DenL K H vs ds []
  | [], [], _ => ⟨[], .nil, .nil⟩
  | d :: ds, u :: us, .cons ⟨v, r, h⟩ t => by
    obtain ⟨vs, h1, h2⟩ := each_back t
    exact ⟨v :: vs, .cons r h1, .cons (fp := []) (fq := []) h h2⟩
theorem immL_all {ds : List D} : immL ds = true ↔ ∀ d ∈ ds, imm d = true := by
  induction ds with
  | nil => simp [immL]
  | cons d ds ih => simp [immL, ih]
theorem immL_nodict : ∀ {ds : List D}, immL ds = true → PyData.hasDictAll ds = false := by
  have main : ∀ (n : Nat), (∀ d : D, sizeOf d < n → imm d = true → d.hasDict = false) ∧ (∀ ds : List D, sizeOf ds < n → immL ds = true → PyData.hasDictAll ds = false) := by
    intro n
    induction n with
    | zero => exact ⟨fun _ h => absurd h (Nat.not_lt_zero _), fun _ h => absurd h (Nat.not_lt_zero _)⟩
    | succ n ih =>
      refine ⟨fun d hd hi => ?_, fun ds hd hi => ?_⟩
      · cases d with
        | tuple xs =>
          have := ih.2 xs (by simp at hd; omega) (by rw [imm_tuple] at hi; exact hi)
          simpa [PyData.hasDict] using this
        | list xs => simp [imm] at hi
        | dict xs => simp [imm] at hi
        | _ => rfl
      · cases ds with
        | nil => rfl
        | cons x xs =>
          simp only [immL, Bool.and_eq_true] at hi
          simp only [PyData.hasDictAll, Bool.or_eq_false_iff]
          simp at hd
          exact ⟨ih.1 x (by omega) hi.1, ih.2 xs (by omega) hi.2⟩
  exact fun {ds} h => (main (sizeOf ds + 1)).2 ds (Nat.lt_succ_self _) h
theorem mem_depth {ds : List D} {d : D} (h : d ∈ ds) : d.depth ≤ PyData.depthAll ds := by
  induction ds with
  | nil => cases h
  | cons x xs ih =>
    simp only [PyData.depthAll]
    rcases List.mem_cons.mp h with rfl | h
    · exact Nat.le_max_left _ _
    · exact Nat.le_trans (ih h) (Nat.le_max_right _ _)
theorem alike_ok {ds : List D} (h : allAlikeB ds = true) : PySem.W.AllAlike ds := fun d hd e he => by
  have := List.all_eq_true.mp (List.all_eq_true.mp h d hd) e he
  exact this
theorem sortable_ok {ds : List D} (h : sortableB ds = true) : PySem.W.Sortable ds := by
  simp only [sortableB, Bool.or_eq_true] at h
  rcases h with h | h
  · refine .inl fun d hd => ?_
    have q := List.all_eq_true.mp h d hd
    cases d with
    | tuple xs =>
      cases xs with
      | nil => simp [isTupN] at q
      | cons x r => exact ⟨x, r, rfl⟩
    | _ => simp [isTupN] at q
  · refine .inr fun d hd => ?_
    have q := List.all_eq_true.mp h d hd
    cases d <;> simp [noTup] at q ⊢
theorem pr_sorted (G : Gd X) : CallR X (.builtin "sorted") (rC1 X.K .sorted) := by
  intro pins s σ H xs us Q I r h
  obtain ⟨v, rfl, k, d, fp, q, hd, hk, hp, n⟩ := h
  cases d <;> simp [pr1, sortOk] at hp
  rename_i ds
  obtain ⟨⟨f, ⟨f1, f2⟩, f3⟩, rfl⟩ := hp
  cases hd with
  | lst a1 a2 =>
    have i : immL ds = true := fl_flat hk f
    have a2 := a2.nil_of i
    rw [Vals.ref1 r]
    obtain ⟨its, rv, pl, hz⟩ := I.list (SqL.of a1)
    obtain ⟨as, rs⟩ := Dp.readsAll I _ _ its (a2.dpD (immL_nodict i)) rv
    obtain ⟨e1, e2⟩ := each_reads a2 rv rs
    refine PySem.W.sorted_data (enc := id) pl.isList e1 e2 (by rw [List.map_id]; exact alike_ok f1) (by rw [List.map_id]; exact sortable_ok f2) (by rw [← a2.length]; exact hz) (fun b hb => ?_) fun out hl ho => ?_
    · have := mem_depth hb
      have := G.hu
      show X.A.units + 2 + b.depth < cLine
      omega
    · obtain ⟨ws, w1, w2⟩ := each_back ho
      obtain ⟨c, hc⟩ := PyProof.Rows.sortedAll_at s.heap its out.toArray
      have hn : H (s.heap.objs.size + 1) = none := I.hok.fresh (Nat.le_succ _)
      have perm : (sortD ds).Perm ds := List.mergeSort_perm ds (PySem.W.dataLe false id)
      have i' : immL (sortD ds) = true := immL_all.mpr fun d hd => immL_all.mp i d (perm.subset hd)
      refine ⟨.ref (s.heap.objs.size + 1), upd H (s.heap.objs.size + 1) (.lst ws), ?_, rfl, n.lst hn w2 i'⟩
      refine I.laid (t' := s.toks) (fun b u e => PyProof.Rows.sortedAll_old e) (Nat.le_succ _) ⟨?_, out, c, w1, hc⟩
      rw [w2.length]
      have : (sortD ds).length = ds.length := perm.length_eq
      show (sortD ds).length ≤ sizeLine
      rw [this, ← a2.length]
      exact hz
theorem pr_sum (G : Gd X) : CallR X (.builtin "sum") (rC1 X.K .sum) := by
  refine CallR.imp (cr_sum G.calm) fun xs H Q h => ?_
  obtain ⟨v, rfl, k, d, fp, r, hd, hk, hp, n⟩ := h
  cases d <;> simp [pr1, rN, Option.bind_eq_some_iff] at hp
  obtain ⟨ns, h1, rfl⟩ := hp
  obtain rfl := ints_of h1
  cases hd with
  | lst a1 a2 =>
    obtain ⟨rfl, _⟩ := denL_ints a2
    exact ⟨_, ns, rfl, SqL.of a1, n.at (.int _) rfl⟩
theorem pr_repr (G : Gd X) : CallR X (.builtin "repr") (rC1 X.K .repr) := by
  intro pins s σ H xs us Q I r h
  obtain ⟨v, rfl, k, d, fp, q, hd, hk, hp, n⟩ := h
  have key : shows d = true ∧ q = (.imm, .str d.shown) := by
    simp only [pr1, rI] at hp
    split at hp
    · rename_i hs; exact ⟨hs, by cases hp; rfl⟩
    · cases hp
  obtain ⟨hs, rfl⟩ := key
  simp only [shows, Bool.and_eq_true, decide_eq_true_eq, Bool.not_eq_true'] at hs
  obtain ⟨⟨⟨h1, h2⟩, h3⟩, h4⟩ := hs
  cases r with
  | cons ru rn =>
    rename_i u us'
    cases rn
    obtain ⟨as, rd⟩ := Dp.reads I d v u (hd.dpD h4) ru
    have fin : ∀ h' tk, (∀ b o, s.heap.get? b = some o → h'.get? b = some o) → ∀ t, EP X pins σ Q (.str d.shown t) { s with heap := h', toks := tk } := fun h' tk kp t =>
      ⟨.str d.shown, H, I.kept (t' := tk) kp, ⟨_, rfl⟩, n.at (.str _) rfl⟩
    cases hd with
    | non => cases ru; exact PySem.P.repr_of_none (fin s.heap _ (fun _ _ e => e) _)
    | bl b => cases ru; exact PySem.P.repr_of_bool (fin s.heap _ (fun _ _ e => e) _)
    | int i =>
      obtain ⟨t, rfl⟩ := ru
      exact PySem.P.repr_of_int (by simpa [PyData.showable] using h1) (fin s.heap _ (fun _ _ e => e) _)
    | str x =>
      obtain ⟨t, rfl⟩ := ru
      exact PySem.P.repr_of_str (fin s.heap _ (fun _ _ e => e) _) (by simpa [PyData.shown] using h3)
    | lst _ _ =>
      cases ru
      exact repr_of_reads' rd h1 (fun z => by rw [h4] at z; cases z) G.gu (by have := G.hu; omega) (fun _ _ e => e) (fun h' u tk hk => fin h' tk hk u) h3
    | tup _ _ =>
      cases ru
      exact repr_of_reads' rd h1 (fun z => by rw [h4] at z; cases z) G.gu (by have := G.hu; omega) (fun _ _ e => e) (fun h' u tk hk => fin h' tk hk u) h3
    | dK _ _ _ => simp [PyData.hasDict] at h4
    | dT _ _ _ => simp [PyData.hasDict] at h4

theorem range_den {K : PySem.W.Frag} {H : Hp} (a : Int) (n : Nat) : DenL K H ((List.range n).map fun (i : Nat) => V.int (a + i)) ((List.range n).map fun (i : Nat) => PyData.int (a + i)) [] ∧ immL ((List.range n).map fun (i : Nat) => PyData.int (a + i)) = true := by
  generalize List.range n = l
  induction l with
  | nil => exact ⟨.nil, rfl⟩
  | cons x l ih => exact ⟨.cons (fp := []) (fq := []) (.int _) ih.1, by simp only [List.map_cons, immL, imm, ih.2]; rfl⟩
theorem rgOk_ok {a b : Int} (h : rgOk a b = true) : RgOk a b := by
  simp only [rgOk, Bool.and_eq_true, decide_eq_true_eq, fits] at h
  obtain ⟨⟨⟨⟨h1, h2⟩, h3⟩, h4⟩, h5⟩ := h
  exact ⟨h1, h2, h3, h4, by omega⟩
end
end Iv

set_option maxRecDepth 100000
set_option maxHeartbeats 1000000
/-! IvH: what statements may change; targets. -/
namespace Iv
open PySem L2
variable [Tbl]

/-- what statements may change; the slots at A may be stored to -/
structure StepN (A L : List Nat) (H : Hp) (env : Env) (fps : Nat → List Addr) (H' : Hp) (env' : Env) (fps' : Nat → List Addr) : Prop where
  keep : ∀ a o, H a = some o → ¬ OwnA L env fps a → NT o → H' a = some o
  fix : ∀ a o, H a = some o → Fixed o → H' a = some o
  own : ∀ i s', env'[i]? = some (some s') → s'.own = true → ∀ a ∈ fps' i, OwnA L env fps a ∨ H a = none ∨ (i ∈ L ∧ ∃ s, env[i]? = some (some s) ∧ s.own = true ∧ a ∈ fps i)
  oth : ∀ i, i ∉ A → ¬ Unl L env i → env'[i]? = env[i]? ∧ fps' i = fps i
  sub : ∀ i, i ∉ A → ∀ a ∈ fps' i, OwnA L env fps a ∨ H a = none ∨ a ∈ fps i
  alv : ∀ a, H a ≠ none → H' a ≠ none
structure StepS (A L : List Nat) (H : Hp) (env : Env) (fps : Nat → List Addr) (H' : Hp) (env' : Env) (fps' : Nat → List Addr) : Prop extends StepN A L H env fps H' env' fps' where
  any : ∀ a, AnyA env' fps' a → AnyA env fps a ∨ H a = none
def Agree (A : List Nat) (σ σ' : St) : Prop := (∀ i, i ∉ A → σ'[i]? = σ[i]?) ∧ σ'.length = σ.length
theorem Agree.refl {A : List Nat} {σ : St} : Agree A σ σ := ⟨fun _ _ => rfl, rfl⟩
theorem Agree.trans {A : List Nat} {σ σ1 σ2 : St} (a : Agree A σ σ1) (b : Agree A σ1 σ2) : Agree A σ σ2 := ⟨fun i h => (b.1 i h).trans (a.1 i h), b.2.trans a.2⟩

section
variable {K : PySem.W.Frag} {H H0 H1 H2 H3 H' : Hp} {σ σ0 σ1 : St} {env env0 env1 env2 env3 env' : Env} {fps fps0 fps1 fps2 fps3 : Nat → List Addr} {L L' L0 A : List Nat} {v w : V} {x y : Val} {fp fq : List Addr} {W : WX} {xc : Str → Value}
theorem Step.toN (S : Step L H env fps H' env' fps1) : StepN A L H env fps H' env' fps1 := by
  refine ⟨S.keep, S.fix, fun i s' e o a ha => ?_, fun i _ => S.oth i, fun i _ a ha => ?_, S.alv⟩
  · by_cases u : Unl L env i
    · exact (S.own i u a ha).imp id .inl
    · obtain ⟨e1, e2⟩ := S.oth i u
      rw [e1] at e
      rw [e2] at ha
      by_cases hi : i ∈ L
      · exact .inr (.inr ⟨hi, s', e, o, ha⟩)
      · exact (u ⟨hi, s', e, o⟩).elim
  · by_cases u : Unl L env i
    · exact (S.own i u a ha).imp id .inl
    · obtain ⟨e1, e2⟩ := S.oth i u
      rw [e2] at ha
      exact .inr (.inr ha)
theorem Step.toS (S : Step L H env fps H' env' fps1) : StepS A L H env fps H' env' fps1 := ⟨S.toN, fun a => S.anyBack⟩
theorem StepN.refl : StepN A L H env fps H env fps := Step.refl.toN
theorem StepS.refl : StepS A L H env fps H env fps := Step.refl.toS
theorem StepN.noneBack (S : StepN A L H1 env1 fps1 H2 env2 fps2) {a : Addr} (h : H2 a = none) : OwnA L env1 fps1 a ∨ H1 a = none := by
  by_cases q : OwnA L env1 fps1 a
  · exact .inl q
  · refine .inr ?_
    cases e : H1 a with
    | none => rfl
    | some o => exact (S.alv a (by rw [e]; simp) h).elim
theorem StepN.ownBack (S : StepN A L H1 env1 fps1 H2 env2 fps2) {a : Addr} (u : OwnA L env2 fps2 a) : OwnA L env1 fps1 a ∨ H1 a = none := by
  obtain ⟨i, ⟨n, s, e, o⟩, r⟩ := u
  rcases S.own i s e o a r with z | z | ⟨z, _⟩
  · exact .inl z
  · exact .inr z
  · exact (n z).elim
theorem StepN.trans (S : StepN A L H1 env1 fps1 H2 env2 fps2) (T : StepN A L H2 env2 fps2 H3 env3 fps3) : StepN A L H1 env1 fps1 H3 env3 fps3 := by
  refine ⟨fun a o e n t => T.keep a o (S.keep a o e n t) (fun q => ?_) t, fun a o e n => T.fix a o (S.fix a o e n) n, fun i s' e o a ha => ?_, fun i hi n => ?_, fun i hi a ha => ?_, fun a h => T.alv a (S.alv a h)⟩
  · rcases S.ownBack q with h | h
    · exact n h
    · rw [e] at h; cases h
  · rcases T.own i s' e o a ha with z | z | ⟨hi, s, es, os, z⟩
    · exact (S.ownBack z).imp id .inl
    · exact (S.noneBack z).imp id .inl
    · exact S.own i s es os a z
  · obtain ⟨e1, e2⟩ := S.oth i hi n
    have n2 : ¬ Unl L env2 i := fun ⟨q, s, e, o⟩ => n ⟨q, s, e1 ▸ e, o⟩
    obtain ⟨e3, e4⟩ := T.oth i hi n2
    exact ⟨e3.trans e1, e4.trans e2⟩
  · rcases T.sub i hi a ha with z | z | z
    · exact (S.ownBack z).imp id .inl
    · exact (S.noneBack z).imp id .inl
    · exact S.sub i hi a z
theorem StepS.trans (S : StepS A L H1 env1 fps1 H2 env2 fps2) (T : StepS A L H2 env2 fps2 H3 env3 fps3) : StepS A L H1 env1 fps1 H3 env3 fps3 :=
  ⟨S.toStepN.trans T.toStepN, fun a h => by
    rcases T.any a h with z | z
    · exact S.any a z
    · exact (S.noneBack z).imp (fun q => q.toAny) id⟩
theorem StepN.mono (h : ∀ i ∈ L, i ∈ L') (S : StepN A L' H1 env1 fps1 H2 env2 fps2) : StepN A L H1 env1 fps1 H2 env2 fps2 := by
  refine ⟨fun a o e n t => S.keep a o e (fun q => n (q.mono h)) t, S.fix, fun i s' e o a ha => ?_, fun i hi n => S.oth i hi fun q => n (q.mono h), fun i hi a ha => (S.sub i hi a ha).imp (fun (z : OwnA L' env1 fps1 a) => z.mono h) id, S.alv⟩
  rcases S.own i s' e o a ha with z | z | ⟨hi, s, es, os, z⟩
  · exact .inl (z.mono h)
  · exact .inr (.inl z)
  · by_cases q : i ∈ L
    · exact .inr (.inr ⟨q, s, es, os, z⟩)
    · exact .inl ⟨i, ⟨q, s, es, os⟩, z⟩
theorem StepS.mono (h : ∀ i ∈ L, i ∈ L') (S : StepS A L' H1 env1 fps1 H2 env2 fps2) : StepS A L H1 env1 fps1 H2 env2 fps2 := ⟨S.toStepN.mono h, S.any⟩
theorem StepN.other {D : Addr} {o' : HO} (S : StepN A L H1 env1 fps1 H2 env2 fps2) (h : H1 D = none) (nf : ∀ o, H2 D = some o → ¬ Fixed o) : StepN A L H1 env1 fps1 (upd H2 D o') env2 fps2 := by
  have ne : ∀ {a : Addr} {o : HO}, H1 a = some o → a ≠ D := fun {a o} e z => by rw [z, h] at e; cases e
  refine ⟨fun a o e n t => by rw [upd_ne (ne e)]; exact S.keep a o e n t, fun a o e f => by rw [upd_ne (ne e)]; exact S.fix a o e f, S.own, S.oth, S.sub, fun a q => ?_⟩
  by_cases z : a = D
  · subst z; exact (q h).elim
  · rw [upd_ne z]; exact S.alv a q
theorem StepS.other {D : Addr} {o' : HO} (S : StepS A L H1 env1 fps1 H2 env2 fps2) (h : H1 D = none) (nf : ∀ o, H2 D = some o → ¬ Fixed o) : StepS A L H1 env1 fps1 (upd H2 D o') env2 fps2 := ⟨S.toStepN.other h nf, S.any⟩
theorem Bnd.backS (S : StepS A L H1 env1 fps1 H2 env2 fps2) (b : Bnd L H2 env2 fps2 x fp) : Bnd L H1 env1 fps1 x fp := by
  obtain ⟨k, p, d⟩ := x
  cases p with
  | fr =>
    intro a ha
    rcases b a ha with z | z
    · exact S.ownBack z
    · exact S.noneBack z
  | sl i => trivial
  | pt i => trivial
  | sh =>
    intro a ha
    rcases b a ha with z | z
    · exact S.any a z
    · exact (S.noneBack z).imp (fun q => q.toAny) id

def putF (fps : Nat → List Addr) (i : Nat) (fp : List Addr) : Nat → List Addr := fun j => if j = i then fp else fps j
theorem putF_same {i : Nat} : putF fps i fp i = fp := if_pos rfl
theorem putF_ne {i j : Nat} (h : j ≠ i) : putF fps i fp j = fps j := if_neg h
/-- a value (fresh or shared) put into a slot -/
theorem ER.store {i : Nat} (R : ER K H σ env fps) (V : VOk K H σ env fps v x fp) (hp : x.p = .fr ∨ x.p = .sh) (hi : i < env.length) : ER K H (σ.set i (some v)) (env.set i (some ⟨x.k, decide (x.p = .fr), x.d⟩)) (putF fps i fp) := by
  have hiσ : i < σ.length := by rw [R.len]; exact hi
  have get : ∀ {j : Nat} {s : Sl}, (env.set i (some ⟨x.k, decide (x.p = .fr), x.d⟩))[j]? = some (some s) → (j = i ∧ s = ⟨x.k, decide (x.p = .fr), x.d⟩) ∨ (j ≠ i ∧ env[j]? = some (some s)) := fun {j s} e => by
    by_cases h : j = i
    · subst h
      rw [List.getElem?_set_self hi] at e
      cases e
      exact .inl ⟨rfl, rfl⟩
    · rw [List.getElem?_set_ne (Ne.symm h)] at e
      exact .inr ⟨h, e⟩
  have den := V.den R
  refine ⟨by simp [R.len], fun j s e => ?_, fun j s e o => ?_, fun j l s t n e o e' a ha hb => ?_, R.tb⟩
  · rcases get e with ⟨rfl, rfl⟩ | ⟨h, ee⟩
    · exact ⟨v, List.getElem?_set_self hiσ, by rw [putF_same]; exact den, V.kd⟩
    · obtain ⟨u, h1, h2, h3⟩ := R.val j s ee
      exact ⟨u, by rw [List.getElem?_set_ne (Ne.symm h)]; exact h1, by rw [putF_ne h]; exact h2, h3⟩
  · rcases get e with ⟨rfl, rfl⟩ | ⟨h, ee⟩
    · rw [putF_same]
      obtain ⟨k, p, d⟩ := x
      have hp' : p = .fr := of_decide_eq_true o
      subst hp'
      exact V.2.2.1
    · rw [putF_ne h]; exact R.nd j s ee o
  · rcases get e with ⟨rfl, rfl⟩ | ⟨h, ee⟩
    · rcases get e' with ⟨rfl, rfl⟩ | ⟨h', ee'⟩
      · exact n rfl
      · rw [putF_same] at ha
        rw [putF_ne h'] at hb
        obtain ⟨k, p, d⟩ := x
        have hp' : p = .fr := of_decide_eq_true o
        subst hp'
        exact V.2.2.2 a ha ⟨l, t, ee', hb⟩
    · rw [putF_ne h] at ha
      rcases get e' with ⟨rfl, rfl⟩ | ⟨h', ee'⟩
      · rw [putF_same] at hb
        obtain ⟨k, p, d⟩ := x
        rcases hp with rfl | rfl
        · exact V.2.2.2 a hb ⟨j, s, ee, ha⟩
        · exact V.2.2 a hb j s ee o ha
      · rw [putF_ne h'] at hb
        exact R.dj j l s t n ee o ee' a ha hb
theorem Agree.set {i : Nat} (h : i ∈ A) (v : Option V) : Agree A σ (σ.set i v) := ⟨fun j hj => by
  rw [List.getElem?_set_ne]
  rintro rfl
  exact hj h, List.length_set⟩

theorem Bnd.shareS (S : StepS A L H0 env0 fps0 H env fps) (h : VOk K H σ env fps v x fp) (b : Bnd L H0 env0 fps0 x fp) : Bnd L H0 env0 fps0 (Iv.share x) fp := by
  obtain ⟨k, p, d⟩ := x
  cases p with
  | fr => exact b
  | sl i =>
    obtain ⟨_, h1, h2, h3⟩ := h
    exact fun a ha => S.any a ⟨i, _, h2, by rw [← h3]; exact ha⟩
  | pt i =>
    obtain ⟨_, h1, ⟨s, h2, _⟩, h3⟩ := h
    exact fun a ha => S.any a ⟨i, s, h2, h3 a ha⟩
  | sh => exact b
/-- one value shared, told at the base -/
theorem esc_one (S : StepS A L H0 env0 fps0 H env fps) (R : ER K H σ env fps) (V : VOk K H σ env fps v x fp) (b : Bnd L H0 env0 fps0 x fp) {ys : List Val} (e : esc L [x] env = some (ys, env')) :
    StepS A L H0 env0 fps0 H env' fps ∧ ER K H σ env' fps ∧ VOk K H σ env' fps v (share x) fp ∧ Bnd L H0 env0 fps0 (share x) fp ∧ ((share x).p = .fr ∨ (share x).p = .sh) ∧ ys = [share x] ∧ env'.length = env.length ∧ Step L H env fps H env' fps := by
  unfold esc at e
  split at e
  · rename_i hL
    simp only [Option.some.injEq, Prod.mk.injEq, List.map_cons, List.map_nil] at e
    obtain ⟨rfl, rfl⟩ := e
    have hL' : ∀ i ∈ slots [x], i ∉ L := fun i hi => of_decide_eq_true (List.all_eq_true.mp hL i hi)
    refine ⟨S.trans (dis_Step hL').toS, dis_ER R, VOk.share R V fun i h => slots_has List.mem_cons_self i h, Bnd.shareS S V b, ?_, rfl, dis_len _ _, dis_Step hL'⟩
    rcases share_p x with q | q
    · exact .inl q.1
    · exact .inr q
  · cases e
/-- a value that may wait while others are stored -/
def Waits (x : Val) : Prop := (x.k = .imm ∧ x.p = .fr) ∨ x.p = .sh
/-- what storing a value (whose footprint is fp) may do; the heap stands -/
structure Asg (A L : List Nat) (env : Env) (fps : Nat → List Addr) (x : Val) (fp : List Addr) (env' : Env) (fps' : Nat → List Addr) : Prop where
  own : ∀ j s', env'[j]? = some (some s') → s'.own = true → ∀ a ∈ fps' j, (∃ s, env[j]? = some (some s) ∧ s.own = true ∧ a ∈ fps j) ∨ (x.p = .fr ∧ a ∈ fp ∧ j ∈ A)
  any : ∀ a, AnyA env' fps' a → AnyA env fps a ∨ a ∈ fp
  oth : ∀ i, i ∉ A → ¬ Unl L env i → env'[i]? = env[i]? ∧ fps' i = fps i
  sub : ∀ i, i ∉ A → fps' i = fps i
  len : env'.length = env.length
theorem Asg.refl : Asg A L env fps x fp env fps := ⟨fun j s e o a ha => .inl ⟨s, e, o, ha⟩, fun a h => .inl h, fun _ _ _ => ⟨rfl, rfl⟩, fun _ _ => rfl, rfl⟩
theorem Asg.unl (q : Asg A L env fps x fp env1 fps1) {i : Nat} (hi : i ∉ A) (u : Unl L env1 i) : Unl L env i := by
  by_cases h : Unl L env i
  · exact h
  · obtain ⟨n, s, e, o⟩ := u
    rw [(q.oth i hi h).1] at e
    exact ⟨n, s, e, o⟩
theorem StepN.asg (S : StepN A L0 H0 env0 fps0 H env fps) (hL : ∀ i ∈ L0, i ∈ L) (q : Asg A L env fps x fp env' fps1) (b : x.p = .fr → ∀ a ∈ fp, OwnA L0 env0 fps0 a ∨ H0 a = none) : StepN A L0 H0 env0 fps0 H env' fps1 := by
  refine ⟨S.keep, S.fix, fun j s' e o a ha => ?_, fun i hi n => ?_, fun i hi a ha => S.sub i hi a (by rw [← q.sub i hi]; exact ha), S.alv⟩
  · rcases q.own j s' e o a ha with ⟨s, es, os, z⟩ | ⟨hp, z, _⟩
    · exact S.own j s es os a z
    · exact (b hp a z).imp id .inl
  · obtain ⟨e1, e2⟩ := S.oth i hi n
    have n2 : ¬ Unl L env i := fun ⟨ni, s, e, o⟩ => n ⟨fun z => ni (hL i z), s, e1 ▸ e, o⟩
    obtain ⟨e3, e4⟩ := q.oth i hi n2
    exact ⟨e3.trans e1, e4.trans e2⟩
theorem StepS.asg (S : StepS A L0 H0 env0 fps0 H env fps) (hL : ∀ i ∈ L0, i ∈ L) (q : Asg A L env fps x fp env' fps1) (b : Bnd L0 H0 env0 fps0 x fp) (bs : ∀ a ∈ fp, AnyA env0 fps0 a ∨ H0 a = none) : StepS A L0 H0 env0 fps0 H env' fps1 :=
  ⟨S.toStepN.asg hL q fun hp => by
    obtain ⟨k, p, d⟩ := x
    cases hp
    exact b, fun a h => (q.any a h).elim (S.any a) fun h => bs a h⟩
/-- where the footprint of a value lies, told at a base -/
theorem VOk.base (S : StepS A L0 H0 env0 fps0 H env fps) (h : VOk K H σ env fps v x fp) (b : Bnd L0 H0 env0 fps0 x fp) : ∀ a ∈ fp, AnyA env0 fps0 a ∨ H0 a = none := by
  have := Bnd.shareS S h b
  obtain ⟨k, p, d⟩ := x
  cases p with
  | fr => exact fun a ha => (b a ha).imp (fun z => z.toAny) id
  | sl i => exact this
  | pt i => exact this
  | sh => exact b
theorem store_ok {i : Nat} (R : ER K H σ env fps) (hV : VOk K H σ env fps v x fp) (hi : i < env.length) (hA : i ∈ A) (e : store L i x env = some env') :
    ∃ fps', Asg A L env fps x fp env' fps' ∧ ER K H (σ.set i (some v)) env' fps' ∧ (Waits x → ∀ y u fq, VOk K H σ env fps u y fq → Waits y → VOk K H (σ.set i (some v)) env' fps' u y fq) := by
  unfold store at e
  cases q : esc L [x] env with
  | none => rw [q] at e; cases e
  | some z =>
    obtain ⟨ys, env1⟩ := z
    rw [q] at e
    have q0 := q
    unfold esc at q
    split at q
    · rename_i hL
      simp only [Option.some.injEq, Prod.mk.injEq, List.map_cons, List.map_nil] at q
      obtain ⟨rfl, rfl⟩ := q
      have hL' : ∀ i ∈ slots [x], i ∉ L := fun i hi => of_decide_eq_true (List.all_eq_true.mp hL i hi)
      have R1 : ER K H σ (dis (slots [x]) env) fps := dis_ER R
      have V1 : VOk K H σ (dis (slots [x]) env) fps v (share x) fp := VOk.share R hV fun i h => slots_has List.mem_cons_self i h
      have T1 : Step L H env fps H (dis (slots [x]) env) fps := dis_Step hL'
      have hp : (share x).p = .fr ∨ (share x).p = .sh := by
        rcases share_p x with q | q
        · exact .inl q.1
        · exact .inr q
      simp only [Option.bind_some, Option.some.injEq] at e
      subst e
      have hi1 : i < (dis (slots [x]) env).length := by rw [dis_len]; exact hi
      refine ⟨putF fps i fp, ⟨fun j s ej oj a ha => ?_, fun a ⟨j, s, ej, ha⟩ => ?_, fun j hj n => ?_, fun j hj => putF_ne fun z => hj (z ▸ hA), by rw [List.length_set]; exact dis_len _ _⟩, R1.store V1 hp hi1, fun hx y u fq Vy hy => ?_⟩
      · by_cases h : j = i
        · subst h
          have ej : ((dis (slots [x]) env).set j (some ⟨(share x).k, decide ((share x).p = .fr), (share x).d⟩))[j]? = some (some s) := ej
          rw [List.getElem?_set_self hi1] at ej
          cases ej
          rw [putF_same] at ha
          have hf : (share x).p = .fr := of_decide_eq_true oj
          rcases share_p x with z | z
          · exact .inr ⟨z.2, ha, hA⟩
          · rw [hf] at z; cases z
        · have ej : ((dis (slots [x]) env).set i (some ⟨(share x).k, decide ((share x).p = .fr), (share x).d⟩))[j]? = some (some s) := ej
          rw [List.getElem?_set_ne (Ne.symm h)] at ej
          rw [putF_ne h] at ha
          obtain ⟨t, et, _, _, z⟩ := dis_some ej
          exact .inl ⟨t, et, (z oj).1, ha⟩
      · by_cases h : j = i
        · subst h
          rw [putF_same] at ha
          exact .inr ha
        · have ej : ((dis (slots [x]) env).set i (some ⟨(share x).k, decide ((share x).p = .fr), (share x).d⟩))[j]? = some (some s) := ej
          rw [List.getElem?_set_ne (Ne.symm h)] at ej
          rw [putF_ne h] at ha
          obtain ⟨t, et, _⟩ := dis_some ej
          exact .inl ⟨j, t, et, ha⟩
      · have h : j ≠ i := fun z => hj (z ▸ hA)
        obtain ⟨e1, e2⟩ := T1.oth j n
        refine ⟨?_, by rw [putF_ne h]⟩
        show ((dis (slots [x]) env).set i (some ⟨(share x).k, decide ((share x).p = .fr), (share x).d⟩))[j]? = _
        rw [List.getElem?_set_ne (Ne.symm h)]
        exact e1
      · obtain ⟨k, p, d⟩ := y
        rcases hy with ⟨hk, hp'⟩ | hp'
        · cases hk; cases hp'
          have z := Vy.2.1.imm Vy.1
          subst z
          exact ⟨Vy.1, Vy.2.1, Vy.2.2.1, fun a ha => nomatch ha⟩
        · cases hp'
          refine ⟨Vy.1, Vy.2.1, fun a ha j s ej oj hb => ?_⟩
          have ej : ((dis (slots [x]) env).set i (some ⟨(share x).k, decide ((share x).p = .fr), (share x).d⟩))[j]? = some (some s) := ej
          by_cases hj : j = i
          · subst hj
            rw [List.getElem?_set_self hi1] at ej
            cases ej
            rw [putF_same] at hb
            obtain ⟨k2, p2, d2⟩ := x
            rcases hx with ⟨h1, h2⟩ | h2
            · cases h1; cases h2
              have z := hV.2.1.imm hV.1
              subst z
              exact absurd hb List.not_mem_nil
            · cases h2
              have oj : decide (Pv.sh = Pv.fr) = true := oj
              cases of_decide_eq_true oj
          · rw [List.getElem?_set_ne (Ne.symm hj)] at ej
            rw [putF_ne hj] at hb
            obtain ⟨t, et, _, _, z⟩ := dis_some ej
            exact Vy.2.2 a ha j t et (z oj).1 hb
    · cases q
theorem Asg.trans (q : Asg A L env fps x fp env1 fps1) (q2 : Asg A L env1 fps1 x fp env2 fps2) : Asg A L env fps x fp env2 fps2 := by
  refine ⟨fun j s e o a ha => ?_, fun a h => ?_, fun i hi n => ?_, fun i hi => (q2.sub i hi).trans (q.sub i hi), q2.len.trans q.len⟩
  · rcases q2.own j s e o a ha with ⟨t, et, ot, z⟩ | z
    · exact q.own j t et ot a z
    · exact .inr z
  · rcases q2.any a h with z | z
    · exact q.any a z
    · exact .inr z
  · obtain ⟨e1, e2⟩ := q.oth i hi n
    obtain ⟨e3, e4⟩ := q2.oth i hi fun u => n (q.unl hi u)
    exact ⟨e3.trans e1, e4.trans e2⟩
end

/-- a target's promise -/
def gI (K : PySem.W.Frag) (A : List Nat) (tg : Tg) : TG := fun v σ H Q => ∃ L env fps x fp env', ER K H σ env fps ∧ VOk K H σ env fps v x fp ∧ asgT L tg x env = some env' ∧
  ∀ σ' fps', Asg A L env fps x fp env' fps' → ER K H σ' env' fps' → Agree A σ σ' → (Waits x → ∀ y u fq, VOk K H σ env fps u y fq → Waits y → VOk K H σ' env' fps' u y fq) → Q σ' H
/-- several waiting values, all within fp -/
def Wait (K : PySem.W.Frag) (H : Hp) (σ : St) (env : Env) (fps : Nat → List Addr) (fp : List Addr) : List V → List Val → Prop
  | [], [] => True
  | v :: vs, x :: xs => (∃ fq, VOk K H σ env fps v x fq ∧ ∀ a ∈ fq, a ∈ fp) ∧ Waits x ∧ Wait K H σ env fps fp vs xs
  | _, _ => False
def gIs (K : PySem.W.Frag) (A : List Nat) (tgs : List Tg) : TGs := fun vs σ H Q => ∃ L env fps xs fp env', ER K H σ env fps ∧ Wait K H σ env fps fp vs xs ∧ asgTs L tgs xs env = some env' ∧
  ∀ σ' fps', Asg A L env fps ⟨.deep, .sh, .none⟩ fp env' fps' → ER K H σ' env' fps' → Agree A σ σ' → (∀ y u fq, VOk K H σ env fps u y fq → Waits y → VOk K H σ' env' fps' u y fq) → Q σ' H
theorem Wait.imp {K : PySem.W.Frag} {H : Hp} {σ σ' : St} {env env' : Env} {fps fps' : Nat → List Addr} {fp : List Addr} (k : ∀ y u fq, VOk K H σ env fps u y fq → Waits y → VOk K H σ' env' fps' u y fq) :
    ∀ {vs : List V} {xs : List Val}, Wait K H σ env fps fp vs xs → Wait K H σ' env' fps' fp vs xs
  | [], [], _ => trivial
  | v :: vs, x :: xs, h => ⟨let ⟨fq, a, b⟩ := h.1; ⟨fq, k _ _ _ a h.2.1, b⟩, h.2.1, Wait.imp k h.2.2⟩
/-- a waiting value stored takes no own footprint -/
theorem Asg.wait {A L : List Nat} {env env' : Env} {fps fps' : Nat → List Addr} {x : Val} {fp fq : List Addr} {k : Kd} {d : D} {K : PySem.W.Frag} {H : Hp} {σ : St} {v : V} (q : Asg A L env fps x fp env' fps') (hV : VOk K H σ env fps v x fp) (w : Waits x) (h : ∀ a ∈ fp, a ∈ fq) : Asg A L env fps ⟨k, .sh, d⟩ fq env' fps' := by
  refine ⟨fun j s e o a ha => ?_, fun a ha => (q.any a ha).imp id (h a), q.oth, q.sub, q.len⟩
  rcases q.own j s e o a ha with z | ⟨z1, z2, _⟩
  · exact .inl z
  · obtain ⟨k', p', d'⟩ := x
    rcases w with ⟨h1, h2⟩ | h2
    · cases h1; cases h2
      have := hV.2.1.imm hV.1
      subst this
      cases z2
    · rw [h2] at z1; cases z1

section
variable {X : Cx} {A : List Nat} {pos : Pos}
theorem PG.weak {e : Expr} {t t' : TG} (h : PG X e t) (k : ∀ v σ H Q, t' v σ H Q → t v σ H Q) : PG X e t' := ⟨fun pins s σ H v u Q I r q => h.run pins s σ H v u Q I r (k _ _ _ _ q)⟩
theorem PGs.weak {e : List Expr} {t t' : TGs} (h : PGs X e t) (k : ∀ v σ H Q, t' v σ H Q → t v σ H Q) : PGs X e t' := ⟨fun pins s σ H v u Q I r q => h.run pins s σ H v u Q I r (k _ _ _ _ q)⟩
theorem sg_name (nd : X.N.Nodup) {i : Nat} {x : Str} (hi : X.N[i]? = some x) (hx : Loc X.env.scope x) (hf : X.fn x = true ∨ X.env.scope.names.lookup x = some .local) (hA : i ∈ A) : PG X (.Name x pos) (gI X.K A (.nm i)) := by
  refine ⟨fun pins s σ H v u Q I r h => (pg_name nd hi hx hf).run pins s σ H v u Q I r ?_⟩
  obtain ⟨L, env, fps, x, fp, env', R, hV, e, k⟩ := h
  have hl : i < env.length := by
    rw [← R.len, I.len]
    exact (List.getElem?_eq_some_iff.mp hi).1
  obtain ⟨fps', S', R', w⟩ := store_ok (A := A) R hV hl hA e
  exact k _ fps' S' R' (Agree.set hA _) w
theorem sgs_nil : PGs X [] (gIs X.K A []) := PGs.weak pgs_nil fun vs σ H Q h => by
  obtain ⟨L, env, fps, xs, fp, env', R, w, e, k⟩ := h
  cases xs with
  | nil =>
    cases vs with
    | nil =>
      simp only [asgTs, Option.some.injEq] at e
      subst e
      exact ⟨rfl, k σ fps Asg.refl R Agree.refl fun _ _ _ v _ => v⟩
    | cons v vs => exact w.elim
  | cons x xs => simp [asgTs] at e
theorem sgs_cons {e : Expr} {es : List Expr} {t : Tg} {ts : List Tg} (h1 : PG X e (gI X.K A t)) (h2 : PGs X es (gIs X.K A ts)) (hs : assignEach (e :: es) X.env = (false, assign e X.env) :: assignEach es X.env) : PGs X (e :: es) (gIs X.K A (t :: ts)) := by
  refine PGs.weak (pgs_cons h1 h2 (by rw [hs]; rfl)) fun vs σ H Q h => ?_
  obtain ⟨L, env, fps, xs, fp, env', R, w, e, k⟩ := h
  cases xs with
  | nil => simp [asgTs] at e
  | cons x xs =>
    cases vs with
    | nil => exact w.elim
    | cons v vs =>
      obtain ⟨⟨fq, hV, b⟩, hw, w⟩ := w
      simp only [asgTs, Option.bind_eq_some_iff] at e
      obtain ⟨env1, e1, e2⟩ := e
      refine ⟨v, vs, rfl, L, env, fps, x, fq, env1, R, hV, e1, fun σ1 fps1 q1 R1 A1 w1 => ?_⟩
      refine ⟨L, env1, fps1, xs, fp, env', R1, w.imp (w1 hw), e2, fun σ2 fps2 q2 R2 A2 w2 => k σ2 fps2 ((q1.wait hV hw b).trans q2) R2 (A1.trans A2) fun y u fq vy hy => w2 y u fq (w1 hw y u fq vy hy) hy⟩
theorem part_wait {y : Val} {d : D} : Waits (part { y with p := .sh } d) := by
  unfold part
  split
  · exact .inl ⟨rfl, rfl⟩
  · exact .inr rfl
theorem VOk.toSh {K : PySem.W.Frag} {H : Hp} {σ : St} {env : Env} {fps : Nat → List Addr} {v : V} {x : Val} {fp : List Addr} (hV : VOk K H σ env fps v x fp) (hp : x.p = .fr ∨ x.p = .sh) : VOk K H σ env fps v { x with p := .sh } fp := by
  obtain ⟨k, p, d⟩ := x
  rcases hp with rfl | rfl
  · exact ⟨hV.1, hV.2.1, fun a ha i s e o q => hV.2.2.2 a ha ⟨i, s, e, q⟩⟩
  · exact hV
/-- the parts of a tuple wait -/
theorem wait_parts {K : PySem.W.Frag} {H : Hp} {σ : St} {env : Env} {fps : Nat → List Addr} {v : V} {y : Val} {fp : List Addr} (R : ER K H σ env fps) (hV : VOk K H σ env fps v { y with p := .sh } fp) :
    ∀ {vs : List V} {ds : List D} {fq : List Addr}, DenL K H vs ds fq → fq.Sublist fp → (∀ d ∈ ds, Within d y.d) → Wait K H σ env fps fp vs (ds.map fun d => part { y with p := .sh } d)
  | _, _, _, .nil, _, _ => trivial
  | _, _, _, .cons (fp := f1) (fq := f2) h l, hs, hw => by
    have hs1 : f1.Sublist fp := (List.sublist_append_left _ _).trans hs
    obtain ⟨fr, z1, z2, _⟩ := VOk.part R hV (hw _ List.mem_cons_self) h hs1
    exact ⟨⟨fr, z1, fun a ha => z2.subset ha⟩, part_wait, wait_parts R hV l ((List.sublist_append_right _ _).trans hs) fun d hd => hw d (List.mem_cons_of_mem _ hd)⟩
theorem sg_tup (calm : X.calm = true) {es : List Expr} {k : Nat} {ts : List Tg} {n : Nat} (h : PGs X es (gIs X.K A ts)) (hl : ts.length = n) (hn : (assignEach es X.env).length = n) (hst : (assignEach es X.env).findIdx? (·.1) = none) : PG X (.Tuple es k pos) (gI X.K A (.tp ts)) := by
  refine PG.weak (pg_tup calm h hn hst) fun v σ H Q h => ?_
  obtain ⟨L, env, fps, x, fp, env', R, hV, e, k⟩ := h
  simp only [asgT, Option.bind_eq_some_iff] at e
  obtain ⟨⟨ys, env1⟩, e1, e2⟩ := e
  have e0 := e1
  unfold esc at e1
  split at e1
  · rename_i hL
    simp only [Option.some.injEq, Prod.mk.injEq, List.map_cons, List.map_nil] at e1
    obtain ⟨rfl, rfl⟩ := e1
    have hL' : ∀ i ∈ slots [x], i ∉ L := fun i hi => of_decide_eq_true (List.all_eq_true.mp hL i hi)
    have R1 : ER X.K H σ (dis (slots [x]) env) fps := dis_ER R
    have V1 : VOk X.K H σ (dis (slots [x]) env) fps v (share x) fp := VOk.share R hV fun i h => slots_has List.mem_cons_self i h
    have T1 : Step L H env fps H (dis (slots [x]) env) fps := dis_Step hL'
    have q1 : Asg A L env fps ⟨.deep, .sh, .none⟩ fp (dis (slots [x]) env) fps := by
      refine ⟨fun j s ej oj a ha => ?_, fun a h => .inl (dis_any.mp h), fun i _ n => T1.oth i n, fun _ _ => rfl, dis_len _ _⟩
      obtain ⟨t, et, _, _, z⟩ := dis_some ej
      exact .inl ⟨t, et, (z oj).1, ha⟩
    have hp : (share x).p = .fr ∨ (share x).p = .sh := by
      rcases share_p x with q | q
      · exact .inl q.1
      · exact .inr q
    have V2 := V1.toSh hp
    change (match (share x).d with | .tuple ds => asgTs L ts (ds.map fun d => part { (share x) with p := .sh } d) (dis (slots [x]) env) | _ => none) = some env' at e2
    generalize hy : share x = y at V1 hp e2 V2
    obtain ⟨yk, yp, yd⟩ := y
    cases yd with
    | tuple ds =>
      simp only at e2
      have D := V1.den R1
      cases D with
      | tup a1 a2 =>
        have hlen : ∀ (ts : List Tg) (xs : List Val) (env env' : Env), asgTs L ts xs env = some env' → ts.length = xs.length := by
          intro ts
          induction ts with
          | nil => intro xs env env' h; cases xs <;> simp [asgTs] at h ⊢
          | cons t ts ih =>
            intro xs env env' h
            cases xs with
            | nil => simp [asgTs] at h
            | cons x xs =>
              simp only [asgTs, Option.bind_eq_some_iff] at h
              obtain ⟨e1, _, h⟩ := h
              simp [ih xs e1 env' h]
        have hl2 := hlen _ _ _ _ e2
        rw [List.length_map, hl] at hl2
        refine ⟨_, _, rfl, a1, by rw [a2.length, hl2], L, dis (slots [x]) env, fps, _, fp, env', R1, wait_parts (y := ⟨yk, yp, .tuple ds⟩) R1 V2 a2 (List.Sublist.refl _) (fun d hd => .tup hd), e2, fun σ' fps' q' R' A' w' => k σ' fps' ?_ R' A' fun hx y u fq vy hy' => w' y u fq ?_ hy'⟩
        · have q2 := q1.trans q'
          exact ⟨fun j s ej oj a ha => (q2.own j s ej oj a ha).imp id (fun z => (nomatch z.1)), q2.any, q2.oth, q2.sub, q2.len⟩
        · obtain ⟨k0, p0, d0⟩ := y
          rcases hy' with ⟨h1, h2⟩ | h2
          · cases h1; cases h2
            have z := vy.2.1.imm vy.1
            subst z
            exact ⟨vy.1, vy.2.1, vy.2.2.1, fun a ha => nomatch ha⟩
          · cases h2
            refine ⟨vy.1, vy.2.1, fun a ha j s ej oj hb => ?_⟩
            obtain ⟨s', es, _, _, q⟩ := dis_some (is := slots [x]) ej
            exact vy.2.2 a ha j s' es (q oj).1 hb
    | _ => simp at e2
  · cases e1
end
end Iv

set_option maxRecDepth 100000
set_option maxHeartbeats 1000000
/-! IvI: what is walked; comprehensions. -/
namespace Iv
open PySem L2
variable [Tbl]

def KeptS (S : Addr → Prop) (H H' : Hp) : Prop := (∀ a o, S a → H a = some o → NT o → H' a = some o) ∧ ∀ a o, H a = some o → Fixed o → H' a = some o
/-- a walk over items -/
structure ItOk (K : PySem.W.Frag) (L' : List Nat) (H : Hp) (env : Env) (fps : Nat → List Addr) (H1 : Hp) (env2 : Env) (fps2 : Nat → List Addr) (items : List Val) (J : It) (St : Hp → Prop) (Y : Nat → Hp → V → Hp → Prop) (S : Addr → Prop) : Prop where
  walk : Walk J items.length St Y
  st : ∀ Hc, KeptS S H1 Hc → St Hc
  it : ∀ i Hc x Hd, i < items.length → KeptS S H1 Hc → Y i Hc x Hd → Ext Hc Hd ∧ ∃ y fq, items[i]? = some y ∧ Den K Hd x y.d fq ∧ KdOk y.k y.d ∧ Waits y ∧ (y.p = .sh → ∀ a ∈ fq, S a)
  there : ∀ a, S a → ∃ o, H1 a = some o
  own : ∀ a, S a → ¬ OwnA L' env2 fps2 a
  deep : (∃ y ∈ items, y.p = .sh) → ∀ a, S a → ∀ i s, env2[i]? = some (some s) → s.own = true → a ∉ fps2 i
  any : ∀ a, S a → AnyA env fps a ∨ H a = none
def tIt (K : PySem.W.Frag) (xc : Str → Value) (T : Tab) (W : WX) (ik : Ik) (cs : List CE) : TI := fun σ H R => ∃ L env fps, ER K H σ env fps ∧ match evs T [] cs L env with
  | .ok q => ∃ ws env2 items, escK ik L q.1 q.2 = some (ws, env2) ∧ itsOf ik ws = some items ∧
      ∀ J St Y S H1 fps2, Step L H env fps H1 env2 fps2 → ER K H1 σ env2 fps2 → ItOk K (lks ws L) H env fps H1 env2 fps2 items J St Y S → R J H1
  | .ex n e => ∀ H' fps', Step L H env fps H' e fps' → ER K H' σ e fps' → W (xc n) none σ H'
  | .no => False
theorem lks_sub : ∀ (xs : List Val) (L : List Nat), ∀ i ∈ L, i ∈ lks xs L
  | [], L, i, h => h
  | x :: xs, L, i, h => lks_sub xs (lk x L) i (lk_sub x L i h)
theorem lks_one (x : Val) (L : List Nat) : lks [x] L = lk x L := rfl

section
variable {K : PySem.W.Frag} {H H0 H1 H2 H3 H' : Hp} {σ σ0 σ1 : St} {env env0 env1 env2 env3 env' : Env} {fps fps0 fps1 fps2 fps3 : Nat → List Addr} {L L' A : List Nat} {v w : V} {x y : Val} {fp fq : List Addr} {W : WX} {xc : Str → Value}
/-- one source, evaluated: what it is when it is walked -/
theorem escIts_one (R0 : ER K H σ env fps) (S : Step L H env fps H1 env1 fps1) (R : ER K H1 σ env1 fps1) (hV : VOk K H1 σ env1 fps1 v x fp) (b : Bnd L H env fps x fp) {ws : List Val} {ik : Ik} (e : escK ik L [x] env1 = some (ws, env2)) (hnz : ik ≠ .zip := by intro z; cases z) :
    ∃ y, ws = [y] ∧ y.d = x.d ∧ True ∧ Step L H env fps H1 env2 fps1 ∧ ER K H1 σ env2 fps1 ∧ Den K H1 v y.d fp ∧ KdOk y.k y.d ∧ (∀ a ∈ fp, ¬ OwnA (lks [y] L) env2 fps1 a) ∧ (y.k = .deep → ∀ a ∈ fp, ∀ i s, env2[i]? = some (some s) → s.own = true → a ∉ fps1 i) ∧
      (∀ a ∈ fp, AnyA env fps a ∨ H a = none) := by
  have any : ∀ a ∈ fp, AnyA env fps a ∨ H a = none := by
    obtain ⟨k, p, d⟩ := x
    cases p with
    | fr => exact fun a ha => (b a ha).imp (fun z => z.toAny) id
    | sl i =>
      obtain ⟨_, h1, h2, h3⟩ := hV
      exact fun a ha => S.anyBack ⟨i, _, h2, by rw [← h3]; exact ha⟩
    | pt i =>
      obtain ⟨_, h1, ⟨s, h2, _⟩, h3⟩ := hV
      exact fun a ha => S.anyBack ⟨i, s, h2, h3 a ha⟩
    | sh => exact b
  have apart : ∀ a ∈ fp, ¬ OwnA (lk x L) env1 fps1 a := by
    intro a ha
    rintro ⟨i, ⟨ni, s, es, os⟩, q⟩
    obtain ⟨k, p, d⟩ := x
    cases p with
    | fr => exact hV.2.2.2 a ha ⟨i, s, es, q⟩
    | sl j =>
      obtain ⟨_, h1, h2, h3⟩ := hV
      have hij : i ≠ j := fun z => by subst z; exact ni (lk_has (.inl rfl))
      exact R.dj i j s _ hij es os h2 a q (by rw [← h3]; exact ha)
    | pt j =>
      obtain ⟨_, h1, ⟨t, h2, _⟩, h3⟩ := hV
      have hij : i ≠ j := fun z => by subst z; exact ni (lk_has (.inr rfl))
      exact R.dj i j s t hij es os h2 a q (h3 a ha)
    | sh => exact hV.2.2 a ha i s es os q
  by_cases hik : ik = .valF
  · subst hik
    simp only [escK] at e
    split at e
    case isFalse => cases e
    rename_i hk
    simp only [Option.some.injEq, Prod.mk.injEq] at e
    obtain ⟨rfl, rfl⟩ := e
    simp only [List.all_cons, List.all_nil, Bool.and_true] at hk
    have h1 : (relab x).d = x.d := by unfold relab; split <;> rfl
    have h2 : (relab x).k ≠ .deep := by unfold relab; split <;> simp_all
    have h3 : lks [relab x] L = lk x L := by rw [lks_one]; unfold relab; split <;> rfl
    refine ⟨relab x, rfl, h1, trivial, S, R, by rw [h1]; exact hV.den R, ?_, by rw [h3]; exact apart, fun z => (h2 z).elim, any⟩
    rw [h1]
    by_cases hd : x.k = .deep
    · have : (relab x).k = .flat := by unfold relab; rw [if_pos hd]
      rw [this]
      rw [hd] at hk
      exact hk
    · have : relab x = x := by unfold relab; rw [if_neg hd]
      rw [this]; exact hV.kd
  by_cases hiz : ik = .zip
  · subst hiz
    simp only [escK] at e
    split at e
    case isFalse => cases e
    rename_i hk
    simp only [Option.some.injEq, Prod.mk.injEq] at e
    obtain ⟨rfl, rfl⟩ := e
    exact (hnz rfl).elim
  have e : escIts L [x] env1 = some (ws, env2) := by
    cases ik <;> first | exact (hik rfl).elim | exact (hiz rfl).elim | exact e
  unfold escIts at e
  split at e
  · rename_i hk
    simp only [Option.some.injEq, Prod.mk.injEq] at e
    obtain ⟨rfl, rfl⟩ := e
    have hnd : x.k ≠ .deep := by
      simp only [kAll, List.all_cons, List.all_nil, Bool.and_true, Bool.or_eq_true, decide_eq_true_eq] at hk
      rcases hk with h | h
      · rw [h]; intro z; cases z
      · exact h
    exact ⟨x, rfl, rfl, trivial, S, R, hV.den R, hV.kd, apart, fun z => (hnd z).elim, any⟩
  · obtain ⟨_, R2, V2, _, hp, rfl, _, T1⟩ := esc_one (A := []) S.toS R hV b e
    have key : ∀ a ∈ fp, ∀ i s, env2[i]? = some (some s) → s.own = true → a ∉ fps1 i := by
      generalize share x = y at V2 hp
      obtain ⟨k, p, d⟩ := y
      rcases hp with hp | hp
      · cases hp
        exact fun a ha i s es os q => V2.2.2.2 a ha ⟨i, s, es, q⟩
      · cases hp
        exact fun a ha i s es os q => V2.2.2 a ha i s es os q
    exact ⟨share x, rfl, (share_d x).1, trivial, S.trans R0 T1, R2, V2.den R2, V2.kd, fun a ha ⟨i, ⟨_, s, es, os⟩, q⟩ => key a ha i s es os q, fun _ => key, any⟩
theorem part_sh {y : Val} {d : D} (h : (part { y with p := .sh } d).p = .sh) : y.k = .deep := by
  unfold part at h
  split at h
  · cases h
  · rename_i q; exact sub1_deep (k := y.k) q
theorem part_kd {y : Val} {d : D} (h : KdOk y.k y.d) (w : Within d y.d) : KdOk (part { y with p := .sh } d).k (part { y with p := .sh } d).d ∧ (part { y with p := .sh } d).d = d := by
  unfold part
  by_cases q : sub1 y.k d = .imm
  · rw [if_pos (show sub1 ({ y with p := .sh } : Val).k d = .imm from q)]
    exact ⟨sub1_imm h w q, rfl⟩
  · rw [if_neg (show ¬ sub1 ({ y with p := .sh } : Val).k d = .imm from q)]
    exact ⟨trivial, rfl⟩
/-- a list or a tuple walked -/
theorem itOk_seq {vs : List V} {ds : List D} {J : It} {St : Hp → Prop} (hw : Walk J vs.length St (YAt vs)) (hl : DenL K H1 vs ds fq) (hs : fq.Sublist fp) (hst : ∀ Hc, KeptS (fun a => a ∈ fp) H1 Hc → St Hc) (kd : KdOk y.k y.d) (hwi : ∀ d ∈ ds, Within d y.d) (ht : ∀ a ∈ fp, ∃ o, H1 a = some o)
    (own : ∀ a ∈ fp, ¬ OwnA L' env2 fps2 a) (deep : y.k = .deep → ∀ a ∈ fp, ∀ i s, env2[i]? = some (some s) → s.own = true → a ∉ fps2 i) (any : ∀ a ∈ fp, AnyA env fps a ∨ H a = none) :
    ItOk K L' H env fps H1 env2 fps2 (ds.map (part { y with p := .sh })) J St (YAt vs) (fun a => a ∈ fp) := by
  refine ⟨by rw [List.length_map, ← hl.length]; exact hw, hst, fun i Hc x Hd hi hk hy => ?_, ht, own, fun ⟨z, hz, hp⟩ => ?_, any⟩
  · obtain ⟨rfl, hx⟩ := hy
    refine ⟨Ext.refl _, ?_⟩
    rw [List.length_map] at hi
    have hd : ds[i]? = some ds[i] := List.getElem?_eq_getElem hi
    have hm : ds[i] ∈ ds := List.getElem_mem hi
    have lc : DenL K Hd vs ds fq := hl.stay hk.2 fun a ha o e nt => hk.1 a o (hs.subset ha) e nt
    obtain ⟨u, fr, h1, h2, h3⟩ := lc.get hd
    rw [hx] at h1
    cases h1
    obtain ⟨k1, k2⟩ := part_kd (y := y) kd (hwi _ hm)
    refine ⟨part { y with p := .sh } ds[i], fr, by rw [List.getElem?_map, hd]; rfl, by rw [k2]; exact h2, k1, part_wait, fun _ a ha => hs.subset (h3.subset ha)⟩
  · obtain ⟨d, hd, rfl⟩ := List.mem_map.mp hz
    exact deep (part_sh hp)
theorem itOk_rng {a : Int} {n : Nat} {J : It} (hw : Walk J n (fun _ => True) (YFn fun i => .int (a + i))) : ItOk K L' H env fps H1 env2 fps2 (((List.range n).map fun (i : Nat) => PyData.int (a + i)).map V0) J (fun _ => True) (YFn fun i => .int (a + i)) (fun _ => False) := by
  refine ⟨by simpa using hw, fun _ _ => trivial, fun i Hc x Hd hi hk hy => ?_, fun _ h => h.elim, fun _ h => h.elim, fun _ _ h => h.elim, fun _ h => h.elim⟩
  obtain ⟨rfl, rfl⟩ := hy
  have hi : i < n := by simpa using hi
  exact ⟨Ext.refl _, V0 (.int (a + i)), [], by simp [hi], .int _, rfl, .inl ⟨rfl, rfl⟩, fun h => nomatch h⟩
end

section
variable {X : Cx} {xc : Str → Value} {T : Tab} {W : WX} {e a b c d tg : Expr} {ca cb cc : CE} {pos : Pos}
theorem PI.or {t t1 t2 : TI} (h1 : PI X tg e t1) (h2 : PI X tg e t2) (k : ∀ σ H R, t σ H R → t1 σ H R ∨ t2 σ H R) : PI X tg e t :=
  ⟨fun pins s σ H R I q => (k _ _ _ q).elim (h1.run pins s σ H R I) (h2.run pins s σ H R I)⟩
theorem PI.weak {t t1 : TI} (h1 : PI X tg e t1) (k : ∀ σ H R, t σ H R → t1 σ H R) : PI X tg e t := ⟨fun pins s σ H R I q => h1.run pins s σ H R I (k _ _ _ q)⟩
theorem evs_one {L : List Nat} {env : Env} : evs T [] [ca] L env = (ev T ca L env).bind fun q => .ok ([q.1], q.2) := by
  show (ev T ca L env).bind _ = _
  cases ev T ca L env <;> rfl
theorem si_valK {ik : Ik} (hik : ik = .val ∨ ik = .valF) (ha : Sd X xc T W a ca) : PI X tg a (tIt X.K xc T W ik [ca]) := by
  have its : ∀ vs, itsOf ik vs = itsOf .val vs := fun vs => by
    rcases hik with h | h <;> subst h
    · rfl
    · match vs with
      | [] => simp [itsOf]
      | [x] => simp [itsOf]
      | _ :: _ :: _ => simp [itsOf]
  refine PI.or (pi_list ha.pe) (pi_tup ha.pe) fun σ H R h => ?_
  obtain ⟨L, env, fps, R0, P⟩ := h
  rw [evs_one] at P
  cases e1 : ev T ca L env with
  | no => rw [e1] at P; exact P.elim
  | ex n en =>
    rw [e1] at P
    exact .inl ⟨L, env, fps, R0, by rw [e1]; exact P⟩
  | ok q =>
    obtain ⟨x, env1⟩ := q
    rw [e1] at P
    obtain ⟨ws, env2, items, q1, q2, P⟩ := P
    have mk : ∀ v H1 fps1 fp, Step L H env fps H1 env1 fps1 → ER X.K H1 σ env1 fps1 → VOk X.K H1 σ env1 fps1 v x fp → Bnd L H env fps x fp → ∃ y, ws = [y] ∧ y.d = x.d ∧ Step L H env fps H1 env2 fps1 ∧ ER X.K H1 σ env2 fps1 ∧ Den X.K H1 v y.d fp ∧ KdOk y.k y.d ∧ (∀ a ∈ fp, ¬ OwnA (lks [y] L) env2 fps1 a) ∧ (y.k = .deep → ∀ a ∈ fp, ∀ i s, env2[i]? = some (some s) → s.own = true → a ∉ fps1 i) ∧ (∀ a ∈ fp, AnyA env fps a ∨ H a = none) := fun v H1 fps1 fp s1 r1 v1 b1 => by
      obtain ⟨y, a1, a2, _, a4, a5, a6, a7, a8, a9, a10⟩ := escIts_one R0 s1 r1 v1 b1 q1 (by rcases hik with h | h <;> rw [h] <;> intro z <;> cases z)
      exact ⟨y, a1, a2, a4, a5, a6, a7, a8, a9, a10⟩
    by_cases hl : ∃ ds, x.d = .list ds
    · obtain ⟨ds, hd⟩ := hl
      refine .inl ⟨L, env, fps, R0, ?_⟩
      rw [e1]
      intro v H1 fps1 fp s1 r1 v1 b1
      obtain ⟨y, rfl, yd, S2, R2, D2, K2, o2, d2, a2⟩ := mk v H1 fps1 fp s1 r1 v1 b1
      rw [hd] at yd
      rw [its] at q2
      simp only [itsOf, yd, Option.some.injEq] at q2
      subst q2
      rw [yd] at D2
      have there := D2.there
      cases D2 with
      | lst h1 h2 =>
        refine ⟨_, rfl, ⟨_, SqL.of h1⟩, P _ _ _ _ H1 fps1 S2 R2 (itOk_seq walk_list h2 (List.sublist_cons_self _ _) (fun Hc hk => SqL.of (hk.1 _ _ List.mem_cons_self h1 trivial)) K2 (fun d hd => by rw [yd]; exact .lst hd) (fun a ha => let ⟨o, e, _⟩ := there a ha; ⟨o, e⟩) o2 d2 a2)⟩
    · refine .inr ⟨L, env, fps, R0, ?_⟩
      rw [e1]
      intro v H1 fps1 fp s1 r1 v1 b1
      obtain ⟨y, rfl, yd, S2, R2, D2, K2, o2, d2, a2⟩ := mk v H1 fps1 fp s1 r1 v1 b1
      obtain ⟨yk, yp, dd⟩ := y
      cases dd with
      | list ds => exact (hl ⟨ds, yd.symm⟩).elim
      | tuple ds =>
        rw [its] at q2
        simp only [itsOf, Option.some.injEq] at q2
        subst q2
        have there := D2.there
        cases D2 with
        | tup h1 h2 =>
          exact ⟨_, rfl, ⟨_, h1⟩, P _ _ _ _ H1 fps1 S2 R2 (itOk_seq (y := ⟨yk, yp, .tuple ds⟩) walk_tup h2 (List.Sublist.refl _) (fun Hc hk => sqT_fix h1 hk.2) K2 (fun d hd => .tup hd) (fun a ha => let ⟨o, e, _⟩ := there a ha; ⟨o, e⟩) o2 d2 a2)⟩
      | _ => rw [its] at q2; simp [itsOf] at q2
theorem si_val (ha : Sd X xc T W a ca) : PI X tg a (tIt X.K xc T W .val [ca]) := si_valK (.inl rfl) ha
theorem si_valF (ha : Sd X xc T W a ca) : PI X tg a (tIt X.K xc T W .valF [ca]) := si_valK (.inr rfl) ha

theorem escIts_imm {L : List Nat} {vs ws : List Val} {env1 env2 : Env} (h : kAll vs = true) (e : escIts L vs env1 = some (ws, env2)) : ws = vs ∧ env2 = env1 := by
  unfold escIts at e
  rw [h] at e
  simp at e
  exact ⟨e.1.symm, e.2.symm⟩
theorem VOk.int {K : PySem.W.Frag} {H : Hp} {σ : St} {env : Env} {fps : Nat → List Addr} {v : V} {k : Kd} {p : Pv} {i : Int} {fp : List Addr} (R : ER K H σ env fps) (h : VOk K H σ env fps v ⟨k, p, .int i⟩ fp) : v = .int i := by
  have D := h.den R
  cases D
  rfl
theorem evs_len : ∀ {io : List Bool} {cs : List CE} {L : List Nat} {env env' : Env} {xs : List Val}, evs T io cs L env = .ok (xs, env') → xs.length = cs.length := by
  intro io cs
  induction cs generalizing io with
  | nil =>
    intro L env env' xs h
    simp only [evs, Iv.R.ok.injEq, Prod.mk.injEq] at h
    obtain ⟨rfl, _⟩ := h
    rfl
  | cons c cs ih =>
    intro L env env' xs h
    simp only [evs] at h
    cases e1 : ev T c L env with
    | ok q =>
      rw [e1] at h
      simp only [Iv.R.bind] at h
      cases e2 : evs T io.tail cs (lkIo (io.headD false) q.1 L) q.2 with
      | ok r =>
        rw [e2] at h
        simp only [Iv.R.ok.injEq, Prod.mk.injEq] at h
        rw [← h.1, List.length_cons, List.length_cons, ih (xs := r.1) (env' := r.2) e2]
      | ex n e' => rw [e2] at h; cases h
      | no => rw [e2] at h; cases h
    | ex n e' => rw [e1] at h; cases h
    | no => rw [e1] at h; cases h
theorem VsOk.one {K : PySem.W.Frag} {H : Hp} {σ : St} {env : Env} {fps : Nat → List Addr} {vs : List V} {x : Val} {fpl : List (List Addr)} (h : VsOk K H σ env fps [] vs [x] fpl) : ∃ v fp, vs = [v] ∧ fpl = [fp] ∧ VOk K H σ env fps v x fp := by
  match vs, fpl, h with
  | [v], [fp], h => exact ⟨v, fp, rfl, rfl, h.1⟩
  | v :: w :: r, [fp], h => exact h.2.2.elim
  | [v], fp :: fq :: r, h => exact h.2.2.elim
  | v :: w :: r, fp :: fq :: r', h => exact h.2.2.elim
  | [], fpl, h => cases fpl <;> simp [VsOk] at h
  | _ :: _, [], h => exact h.elim
theorem VsOk.two {K : PySem.W.Frag} {H : Hp} {σ : St} {env : Env} {fps : Nat → List Addr} {vs : List V} {x y : Val} {fpl : List (List Addr)} (h : VsOk K H σ env fps [] vs [x, y] fpl) : ∃ v w fp fq, vs = [v, w] ∧ fpl = [fp, fq] ∧ VOk K H σ env fps v x fp ∧ VOk K H σ env fps w y fq ∧ Apart x fp [y] [fq] := by
  match vs, fpl, h with
  | v :: vs, fp :: fpl, h =>
    obtain ⟨w, fq, rfl, rfl, h2⟩ := VsOk.one h.2.2
    exact ⟨v, w, fp, fq, rfl, rfl, h.1, h2, h.2.1⟩
  | [], fpl, h => cases fpl <;> simp [VsOk] at h
  | _ :: _, [], h => exact h.elim
theorem len1 {α : Type} {xs : List α} (h : xs.length = 1) : ∃ x, xs = [x] := by
  match xs, h with
  | [x], _ => exact ⟨x, rfl⟩
theorem len2 {α : Type} {xs : List α} (h : xs.length = 2) : ∃ x y, xs = [x, y] := by
  match xs, h with
  | [x, y], _ => exact ⟨x, y, rfl⟩
theorem si_rng1 (hg : Gl X "range") (hm : X.mg "range" = none) (ha : PA X [a] (tA X.K xc T W [] [ca])) (hs : starEach [a] X.env = [(false, eval a X.env)]) {p q : Pos} : PI X tg (.Call (.Name "range" p) [a] [] q) (tIt X.K xc T W .rng1 [ca]) := by
  refine PI.weak (pi_range1 hg hm ha hs) fun σ H R h => ?_
  obtain ⟨L, env, fps, R0, P⟩ := h
  refine ⟨L, env, fps, R0, ?_⟩
  cases e1 : evs T [] [ca] L env with
  | no => rw [e1] at P; exact P.elim
  | ex n en => rw [e1] at P; exact P
  | ok q =>
    obtain ⟨xs, env1⟩ := q
    rw [e1] at P
    obtain ⟨ws, env2, items, q1, q2, P⟩ := P
    obtain ⟨x, rfl⟩ := len1 (evs_len e1)
    intro vs H1 fps1 fpl S1 R1 V1 B1
    obtain ⟨v, fp, rfl, rfl, hV⟩ := V1.one
    obtain ⟨y, rfl, yd, yk, S2, R2, D2, K2, o2, d2, a2⟩ := escIts_one R0 S1 R1 hV B1.1 q1
    obtain ⟨k, p, d⟩ := y
    cases d with
    | int n =>
      cases D2
      simp only [itsOf] at q2
      split at q2
      · rename_i hr
        simp only [Option.some.injEq] at q2
        subst q2
        have h := rgOk_ok hr
        refine ⟨n, rfl, h.2.2.1, h.2.2.2.1, P _ _ _ _ H1 fps1 S2 R2 (itOk_rng (a := 0) (n := (n - 0).toNat) ?_)⟩
        rw [Int.sub_zero]
        exact walk_range
      · cases q2
    | _ => simp [itsOf] at q2
theorem escIts_d {L : List Nat} {xs ws : List Val} {env1 env2 : Env} (e : escIts L xs env1 = some (ws, env2)) : ws.map (·.d) = xs.map (·.d) ∧ (esc L xs env1 = some (ws, env2) ∨ (ws = xs ∧ env2 = env1)) := by
  unfold escIts at e
  split at e
  · simp only [Option.some.injEq, Prod.mk.injEq] at e
    obtain ⟨rfl, rfl⟩ := e
    exact ⟨rfl, .inr ⟨rfl, rfl⟩⟩
  · refine ⟨?_, .inl e⟩
    unfold esc at e
    split at e
    · simp only [Option.some.injEq, Prod.mk.injEq] at e
      rw [← e.1, List.map_map]
      exact List.map_congr_left fun x _ => (share_d x).1
    · cases e
theorem si_rng2 (hg : Gl X "range") (hm : X.mg "range" = none) (ha : PA X [a, b] (tA X.K xc T W [] [ca, cb])) (hs : starEach [a, b] X.env = [(false, eval a X.env), (false, eval b X.env)]) (hs2 : starEach [b] X.env = [(false, eval b X.env)]) {p q : Pos} : PI X tg (.Call (.Name "range" p) [a, b] [] q) (tIt X.K xc T W .rng2 [ca, cb]) := by
  refine PI.weak (pi_range2 hg hm ha hs hs2) fun σ H R h => ?_
  obtain ⟨L, env, fps, R0, P⟩ := h
  refine ⟨L, env, fps, R0, ?_⟩
  cases e1 : evs T [] [ca, cb] L env with
  | no => rw [e1] at P; exact P.elim
  | ex n en => rw [e1] at P; exact P
  | ok q =>
    obtain ⟨xs, env1⟩ := q
    rw [e1] at P
    obtain ⟨ws, env2, items, q1, q2, P⟩ := P
    obtain ⟨x, y, rfl⟩ := len2 (evs_len e1)
    intro vs H1 fps1 fpl S1 R1 V1 B1
    obtain ⟨v, w, fp, fq, rfl, rfl, hV, hW, _⟩ := V1.two
    have D1 := hV.den R1
    have D2 := hW.den R1
    obtain ⟨hd, hcase⟩ := escIts_d q1
    have S2 : Step L H env fps H1 env2 fps1 ∧ ER X.K H1 σ env2 fps1 := by
      rcases hcase with h | ⟨_, rfl⟩
      · obtain ⟨z1, z2, _⟩ := esc_ok R0 S1 R1 V1 B1 h
        exact ⟨z1, z2⟩
      · exact ⟨S1, R1⟩
    have hl : ws.length = 2 := by have := congrArg List.length hd; simpa using this
    obtain ⟨x', y', rfl⟩ := len2 hl
    simp only [List.map_cons, List.map_nil, List.cons.injEq, and_true] at hd
    obtain ⟨e0, e2⟩ := hd
    simp only [itsOf, e0, e2] at q2
    generalize hx : x.d = dx at q2 D1
    generalize hy : y.d = dy at q2 D2
    cases dx with
    | int i =>
      cases dy with
      | int j =>
        cases D1
        cases D2
        simp only at q2
        split at q2
        · rename_i hr
          simp only [Option.some.injEq] at q2
          subst q2
          have h := rgOk_ok hr
          exact ⟨i, j, rfl, ⟨h.1, h.2.1, h.2.2.1, h.2.2.2.1⟩, P _ _ _ _ H1 fps1 S2.1 S2.2 (itOk_rng walk_range)⟩
        · cases q2
      | _ => simp at q2
    | _ => simp at q2
/-- enumerate(list) -/
theorem si_enum {elts : List Expr} {kk : Nat} {tpos p q : Pos} (hg : Gl X "enumerate") (hm : X.mg "enumerate" = none) (ha : PA X [a] (tA X.K xc T W [] [ca])) (hpi : PI X (.Tuple elts kk tpos) (.Call (.Name "enumerate" p) [a] [] q) (iEnum X.K (tA X.K xc T W [] [ca]))) : PI X (.Tuple elts kk tpos) (.Call (.Name "enumerate" p) [a] [] q) (tIt X.K xc T W .enum [ca]) := by
  refine PI.weak hpi fun σ H R h => ?_
  obtain ⟨L, env, fps, R0, P⟩ := h
  refine ⟨L, env, fps, R0, ?_⟩
  cases e1 : evs T [] [ca] L env with
  | no => rw [e1] at P; exact P.elim
  | ex n en => rw [e1] at P; exact P
  | ok q =>
    obtain ⟨xs, env1⟩ := q
    rw [e1] at P
    obtain ⟨ws, env2, items, q1, q2, P⟩ := P
    obtain ⟨x, rfl⟩ := len1 (evs_len e1)
    intro vs H1 fps1 fpl S1 R1 V1 B1
    obtain ⟨v, fp, rfl, rfl, hV⟩ := V1.one
    obtain ⟨y, rfl, yd, yk, S2, R2, D2, K2, o2, d2, a2⟩ := escIts_one R0 S1 R1 hV B1.1 q1
    obtain ⟨k, p, d⟩ := y
    cases d with
    | list ds =>
      simp only [itsOf] at q2
      split at q2
      · rename_i hf
        simp only [Option.some.injEq] at q2
        subst q2
        have there := D2.there
        have im : immL ds = true := fl_flat K2 hf
        cases D2 with
        | lst h1 h2 =>
          rename_i ad vs fq
          have h2 := h2.nil_of im
          refine ⟨ad, vs, rfl, SqL.of h1, P _ (fun H => SqL X.K H ad vs) (YPair (fun i => some (.int (i : Nat))) (fun i => vs[i]?)) (fun c => c = ad) H1 fps1 S2 R2 ⟨?_, fun Hc hk => SqL.of (hk.1 _ _ rfl h1 trivial), fun i Hc z Hd hi hk hy => ?_, fun c hc => by subst hc; exact ⟨_, h1⟩, fun c hc => by rw [hc]; exact o2 _ List.mem_cons_self, fun ⟨z, hz, hp⟩ => ?_, fun c hc => by rw [hc]; exact a2 _ List.mem_cons_self⟩⟩
          · rw [List.length_map, List.length_zipIdx, ← h2.length]; exact walk_enum
          · obtain ⟨T', a', b', e1, e2, e3, e4, e5⟩ := hy
            have hi : i < ds.length := by simpa using hi
            have hdi : ds[i]? = some ds[i] := List.getElem?_eq_getElem hi
            have ex : Ext Hc Hd := by rw [e3]; exact Ext.upd e2
            have lc : DenL X.K Hc vs ds [] := h2.stay hk.2 fun a ha => nomatch ha
            obtain ⟨u, fr, g1, g2, g3⟩ := lc.get hdi
            simp only [Option.some.injEq] at e4
            simp only at e5
            rw [g1] at e5
            cases e5
            have fr0 : fr = [] := List.sublist_nil.mp g3
            subst fr0
            have imi := immL_mem im (List.getElem_mem hi)
            refine ⟨ex, V0 (.tuple [.int (i : Nat), ds[i]]), [], by simp [hdi], ?_, by show imm _ = true; simp [imm, immL, imi, V0], .inl ⟨rfl, rfl⟩, fun h => nomatch h⟩
            rw [e1, e3]
            refine .tup (SqT.of upd_same) (.cons (fp := []) (fq := []) (by rw [← e4]; exact .int _) (.cons (fp := []) (fq := []) ((Ext.upd e2).den g2) .nil))
          · obtain ⟨w, _, rfl⟩ := List.mem_map.mp hz
            cases hp
      · cases q2
    | _ => simp [itsOf] at q2
end
end Iv

set_option maxRecDepth 100000
set_option maxHeartbeats 2000000
/-! IvJ: comprehensions. -/
namespace Iv
open PySem L2
variable [Tbl]

abbrev wipeE (ow : List Nat) (env : Env) : Env := ow.foldl (fun e i => e.set i none) env
theorem wipeE_get : ∀ (ow : List Nat) (env : Env) (j : Nat), (wipeE ow env)[j]? = if j ∈ ow then env[j]?.map (fun _ => none) else env[j]?
  | [], env, j => by simp [wipeE]
  | i :: ow, env, j => by
    show (wipeE ow (env.set i none))[j]? = _
    rw [wipeE_get ow]
    by_cases h : j = i
    · subst h
      by_cases h2 : j ∈ ow
      · rw [if_pos h2, if_pos (List.mem_cons_self)]
        by_cases hl : j < env.length
        · rw [List.getElem?_set_self hl, List.getElem?_eq_getElem hl]; rfl
        · rw [List.getElem?_eq_none (by simpa using hl), List.getElem?_eq_none (by simpa using hl)]
      · rw [if_neg h2, if_pos (List.mem_cons_self)]
        by_cases hl : j < env.length
        · rw [List.getElem?_set_self hl, List.getElem?_eq_getElem hl]; rfl
        · rw [List.getElem?_eq_none (by simpa using hl), List.getElem?_eq_none (by simpa using hl)]; rfl
    · rw [List.getElem?_set_ne (Ne.symm h)]
      simp [h]
theorem wipeE_len : ∀ (ow : List Nat) (env : Env), (wipeE ow env).length = env.length
  | [], _ => rfl
  | i :: ow, env => by
    show (wipeE ow (env.set i none)).length = _
    rw [wipeE_len ow, List.length_set]
theorem wipeE_some {ow : List Nat} {env : Env} {j : Nat} {s : Sl} (h : (wipeE ow env)[j]? = some (some s)) : j ∉ ow ∧ env[j]? = some (some s) := by
  rw [wipeE_get] at h
  split at h
  · cases e : env[j]? <;> rw [e] at h <;> simp at h
  · rename_i hj; exact ⟨hj, h⟩
theorem wipe_none {σ : St} {j : Nat} : ∀ {vs : List Nat}, j ∈ vs → (wipe σ vs)[j]? = σ[j]?.map fun _ => none
  | v :: vs, h => by
    unfold wipe
    by_cases e : v = j
    · subst e
      by_cases hl : v < σ.length
      · rw [List.getElem?_set_self (by rw [wipe_length]; exact hl), List.getElem?_eq_getElem hl]; rfl
      · rw [List.getElem?_eq_none (by rw [List.length_set, wipe_length]; omega), List.getElem?_eq_none (by omega)]; rfl
    · rw [List.getElem?_set_ne e]
      exact wipe_none ((List.mem_cons.mp h).elim (fun z => (e z.symm).elim) id)
theorem wipe_agree {σ σ2 : St} {ow : List Nat} (h : Agree ow (wipe σ ow) σ2) (hl : σ2.length = σ.length) : wipe σ2 ow = wipe σ ow := by
  apply List.ext_getElem?
  intro j
  by_cases hj : j ∈ ow
  · rw [wipe_none hj, wipe_none hj]
    by_cases h2 : j < σ.length
    · rw [List.getElem?_eq_getElem h2, List.getElem?_eq_getElem (by omega)]; rfl
    · rw [List.getElem?_eq_none (by omega), List.getElem?_eq_none (by omega)]
  · rw [wipe_out hj, h.1 j hj]

section
variable {K : PySem.W.Frag} {H H0 H1 H2 H3 H' : Hp} {σ σ0 σ1 : St} {env env0 env1 env2 env3 env' : Env} {fps fps0 fps1 fps2 fps3 : Nat → List Addr} {L L' L0 A ow : List Nat} {v w : V} {x y : Val} {fp fq : List Addr} {W : WX} {xc : Str → Value}
theorem ER.wipe (R : ER K H σ env fps) : ER K H (wipe σ ow) (wipeE ow env) fps := by
  refine ⟨by rw [wipe_length, wipeE_len]; exact R.len, fun i s e => ?_, fun i s e o => R.nd i s (wipeE_some e).2 o, fun i j s t n e o e' => R.dj i j s t n (wipeE_some e).2 o (wipeE_some e').2, R.tb⟩
  obtain ⟨h, e⟩ := wipeE_some e
  obtain ⟨v, h1, h2, h3⟩ := R.val i s e
  exact ⟨v, by rw [wipe_out h]; exact h1, h2, h3⟩
theorem wipe_any {a : Addr} (h : AnyA (wipeE ow env) fps a) : AnyA env fps a := let ⟨i, s, e, q⟩ := h; ⟨i, s, (wipeE_some e).2, q⟩
theorem wipe_own {a : Addr} (h : OwnA L (wipeE ow env) fps a) : OwnA L env fps a := let ⟨i, ⟨n, s, e, o⟩, q⟩ := h; ⟨i, ⟨n, s, (wipeE_some e).2, o⟩, q⟩
theorem wipe_N : StepN ow L H env fps H (wipeE ow env) fps := by
  refine ⟨fun _ _ e _ _ => e, fun _ _ e _ => e, fun i s e o a ha => ?_, fun i hi n => ⟨by rw [wipeE_get, if_neg hi], rfl⟩, fun i hi a ha => .inr (.inr ha), fun _ h => h⟩
  have e := (wipeE_some e).2
  by_cases hi : i ∈ L
  · exact .inr (.inr ⟨hi, s, e, o, ha⟩)
  · exact .inl ⟨i, ⟨hi, s, e, o⟩, ha⟩
theorem wipe_S : StepS ow L H env fps H (wipeE ow env) fps := ⟨wipe_N, fun a h => .inl (wipe_any h)⟩

/-- an object in no slot changed: the new list grows -/
theorem ER.other {D : Addr} {o o' : HO} (R : ER K H σ env fps) (hD : H D = some o) (nf : ¬ Fixed o) (mv : Mv o) (n : ¬ AnyA env fps D) : ER K (upd H D o') σ env fps := by
  refine ⟨R.len, fun i s e => ?_, R.nd, R.dj, tabs_of R.tb fun a u e f => by
    rw [upd_ne]; exact e
    rintro rfl
    rw [hD] at e; cases e; exact f mv⟩
  obtain ⟨v, h1, h2, h3⟩ := R.val i s e
  refine ⟨v, h1, h2.stay (fun a u e f => ?_) fun a ha u e' _ => ?_, h3⟩
  · rw [upd_ne]; exact e
    rintro rfl
    rw [hD] at e; cases e; exact nf f
  · rw [upd_ne]; exact e'
    rintro rfl
    exact n ⟨i, s, e, ha⟩
/-- a value that is kept while the turns go on -/
structure Acc (Zf Zs : Addr → Prop) (K : PySem.W.Frag) (S : Addr → Prop) (D : Addr) (L : List Nat) (H0 : Hp) (env0 : Env) (fps0 : Nat → List Addr) (H : Hp) (env : Env) (fps : Nat → List Addr) (v : V) (x : Val) (fp : List Addr) : Prop where
  p : x.p = .fr ∨ x.p = .sh
  ok : VOk K H [] env fps v x fp
  d : D ∉ fp
  s : x.p = .fr → ∀ a ∈ fp, ¬ S a
  b : Bnd L H0 env0 fps0 x fp
  zf : x.p = .fr → ∀ a ∈ fp, Zf a
  zs : x.p = .sh → ∀ a ∈ fp, Zs a
theorem VOk.sig (h : VOk K H σ env fps v x fp) (p : x.p = .fr ∨ x.p = .sh) (σ' : St) : VOk K H σ' env fps v x fp := by
  obtain ⟨k, q, d⟩ := x
  rcases p with rfl | rfl <;> exact h
section
variable {S Zf Zs : Addr → Prop} {D : Addr}
theorem Acc.ext (h : Acc Zf Zs K S D L H0 env0 fps0 H env fps v x fp) (e : Ext H H') : Acc Zf Zs K S D L H0 env0 fps0 H' env fps v x fp := by
  refine ⟨h.p, ?_, h.d, h.s, h.b, h.zf, h.zs⟩
  have ok := h.ok
  have p := h.p
  obtain ⟨k, q, d⟩ := x
  rcases p with rfl | rfl
  · exact ⟨ok.1, e.den ok.2.1, ok.2.2.1, ok.2.2.2⟩
  · exact ⟨ok.1, e.den ok.2.1, ok.2.2⟩
theorem Acc.asg (h : Acc Zf Zs K S D L H0 env0 fps0 H env fps v x fp) (q : Asg A L' env fps y fq env' fps1) (hy : y.p = .fr → fq = []) (hq : ∀ a ∈ fq, S a) : Acc Zf Zs K S D L H0 env0 fps0 H env' fps1 v x fp := by
  refine ⟨h.p, ?_, h.d, h.s, h.b, h.zf, h.zs⟩
  have ok := h.ok
  have p := h.p
  have s := h.s
  obtain ⟨k, p', d⟩ := x
  rcases p with rfl | rfl
  · exact ⟨ok.1, ok.2.1, ok.2.2.1, fun a ha z => (q.any a z).elim (ok.2.2.2 a ha) fun z => s rfl a ha (hq a z)⟩
  · refine ⟨ok.1, ok.2.1, fun a ha i t e o z => ?_⟩
    rcases q.own i t e o a z with ⟨t', e', o', z'⟩ | ⟨z1, z2, _⟩
    · exact ok.2.2 a ha i t' e' o' z'
    · rw [hy z1] at z2; cases z2
theorem Acc.step (h : Acc Zf Zs K S D L H0 env0 fps0 H env fps v x fp) (R : ER K H σ env fps) (T : Step L' H env fps H' env' fps1) : Acc Zf Zs K S D L H0 env0 fps0 H' env' fps1 v x fp :=
  ⟨h.p, ((h.ok.sig h.p σ).step R T fun i z => by rcases h.p with q | q <;> rw [q] at z <;> rcases z with z | z <;> cases z).sig h.p _, h.d, h.s, h.b, h.zf, h.zs⟩
theorem Acc.wipe (h : Acc Zf Zs K S D L H0 env0 fps0 H env fps v x fp) : Acc Zf Zs K S D L H0 env0 fps0 H (wipeE ow env) fps v x fp := by
  refine ⟨h.p, ?_, h.d, h.s, h.b, h.zf, h.zs⟩
  have ok := h.ok
  have p := h.p
  obtain ⟨k, q, d⟩ := x
  rcases p with rfl | rfl
  · exact ⟨ok.1, ok.2.1, ok.2.2.1, fun a ha z => ok.2.2.2 a ha (wipe_any z)⟩
  · exact ⟨ok.1, ok.2.1, fun a ha i t e o => ok.2.2 a ha i t (wipeE_some e).2 o⟩
theorem Acc.other {o o' : HO} (h : Acc Zf Zs K S D L H0 env0 fps0 H env fps v x fp) (hD : H D = some o) (nf : ¬ Fixed o) : Acc Zf Zs K S D L H0 env0 fps0 (upd H D o') env fps v x fp := by
  refine ⟨h.p, ?_, h.d, h.s, h.b, h.zf, h.zs⟩
  have ok := h.ok
  have p := h.p
  have dd := h.d
  have den : ∀ {d : PyData}, Den K H v d fp → Den K (upd H D o') v d fp := fun {d} q => q.stay (fun a u e f => by
    rw [upd_ne]; exact e
    rintro rfl
    rw [hD] at e; cases e; exact nf f) fun a ha u e' _ => by
    rw [upd_ne]; exact e'
    rintro rfl
    exact dd ha
  obtain ⟨k, q, d⟩ := x
  rcases p with rfl | rfl
  · exact ⟨ok.1, den ok.2.1, ok.2.2⟩
  · exact ⟨ok.1, den ok.2.1, ok.2.2⟩
def AccL (P : V → Val → List Addr → Prop) : List V → List Val → List (List Addr) → Prop
  | [], [], [] => True
  | v :: vs, x :: xs, fp :: fpl => P v x fp ∧ Apart x fp xs fpl ∧ AccL P vs xs fpl
  | _, _, _ => False
theorem AccL.imp {P P' : V → Val → List Addr → Prop} (k : ∀ v x fp, P v x fp → P' v x fp) : ∀ {vs : List V} {xs : List Val} {fpl : List (List Addr)}, AccL P vs xs fpl → AccL P' vs xs fpl
  | [], [], [], _ => trivial
  | _ :: _, _ :: _, _ :: _, h => ⟨k _ _ _ h.1, h.2.1, AccL.imp k h.2.2⟩
theorem AccL.len {P : V → Val → List Addr → Prop} : ∀ {vs : List V} {xs : List Val} {fpl : List (List Addr)}, AccL P vs xs fpl → vs.length = xs.length ∧ xs.length = fpl.length := by
  intro vs xs fpl h
  induction xs generalizing vs fpl with
  | nil => cases vs <;> cases fpl <;> simp [AccL] at h ⊢
  | cons x xs ih =>
    cases vs <;> cases fpl <;> simp [AccL] at h ⊢
    exact ih h.2.2
theorem AccL.push {P P0 : V → Val → List Addr → Prop} (h0 : P v x fp) (ap : ∀ w y fq, P0 w y fq → Ap y.p x.p → ∀ a ∈ fq, a ∉ fp) : ∀ {vs : List V} {xs : List Val} {fpl : List (List Addr)}, AccL (fun v x fp => P0 v x fp ∧ P v x fp) vs xs fpl → AccL P (vs ++ [v]) (xs ++ [x]) (fpl ++ [fp])
  | [], [], [], _ => ⟨h0, (fun k y fq e => by simp at e), trivial⟩
  | w :: vs, y :: xs, fq :: fpl, h => by
    refine ⟨h.1.2, fun k z fz e1 e2 hz => ?_, AccL.push h0 ap h.2.2⟩
    have hl := h.2.2.len.2
    have e1 : (xs ++ [x])[k]? = some z := e1
    have e2 : (fpl ++ [fp])[k]? = some fz := e2
    by_cases hk : k < xs.length
    · rw [List.getElem?_append_left hk] at e1
      rw [List.getElem?_append_left (by omega)] at e2
      exact h.2.1 k z fz e1 e2 hz
    · rw [List.getElem?_append_right (by omega)] at e1
      rw [List.getElem?_append_right (by omega)] at e2
      have k0 : k - xs.length = 0 := by
        have := (List.getElem?_eq_some_iff.mp e1).1
        simp at this; omega
      rw [k0] at e1
      rw [← hl, k0] at e2
      simp at e1 e2
      subst e1 e2
      exact ap w y fq h.1.1 hz
theorem AccL.vs : ∀ {vs : List V} {xs : List Val} {fpl : List (List Addr)}, AccL (Acc Zf Zs K S D L H0 env0 fps0 H env fps) vs xs fpl → VsOk K H σ env fps [] vs xs fpl ∧ BndS L H0 env0 fps0 xs fpl ∧ (∀ y ∈ xs, y.p = .fr ∨ y.p = .sh) ∧ ∀ fp ∈ fpl, D ∉ fp
  | [], [], [], _ => ⟨trivial, trivial, (fun _ h => nomatch h), fun _ h => nomatch h⟩
  | v :: vs, x :: xs, fp :: fpl, h => by
    obtain ⟨a, b, c, d⟩ := AccL.vs h.2.2
    exact ⟨⟨h.1.ok.sig h.1.p _, h.2.1, a⟩, ⟨h.1.b, b⟩, fun y hy => (List.mem_cons.mp hy).elim (fun z => by rw [z]; exact h.1.p) (c y), fun f hf => (List.mem_cons.mp hf).elim (fun z => by rw [z]; exact h.1.d) (d f)⟩
end

theorem not_in_new {D : Addr} (b : Bnd L' H3 env3 fps3 x fp) (h : VOk K H1 σ env1 fps1 v x fp) (n1 : ¬ AnyA env1 fps1 D) (n3 : ¬ AnyA env3 fps3 D) (h3 : H3 D ≠ none) : D ∉ fp := fun hd => by
  obtain ⟨k, p, dd⟩ := x
  cases p with
  | fr => exact (b D hd).elim (fun q => n3 q.toAny) h3
  | sl i =>
    obtain ⟨_, _, e, hf⟩ := h
    exact n1 ⟨i, _, e, by rw [← hf]; exact hd⟩
  | pt i =>
    obtain ⟨_, _, ⟨s, es, _⟩, hh⟩ := h
    exact n1 ⟨i, s, es, hh D hd⟩
  | sh => exact (b D hd).elim n3 h3
end
abbrev WF : WX := fun _ _ _ _ => False
theorem compL_cons {L' ow : List Nat} {dp : Bool} {tg : Tg} {cond elt : Env → R (Val × Env)} {x : Val} {xs acc : List Val} {env : Env} {r : List Val × Env} (h : compL L' ow dp tg cond elt (x :: xs) acc env = .ok r) :
    ∃ env1, asgT L' tg x env = some env1 ∧ ∃ q, cond env1 = .ok q ∧ ((q.1.d = .bool false ∧ compL L' ow dp tg cond elt xs acc (wipeE ow q.2) = .ok r) ∨
      (q.1.d = .bool true ∧ ∃ y, elt q.2 = .ok y ∧ ∃ z, esc L' [y.1] y.2 = some z ∧ (dp || kAll z.1) = true ∧ compL L' ow dp tg cond elt xs (acc ++ z.1) (wipeE ow z.2) = .ok r)) := by
  unfold compL at h
  cases e1 : asgT L' tg x env with
  | none => rw [e1] at h; cases h
  | some env1 =>
    rw [e1] at h
    simp only [Iv.R.of, Iv.R.bind] at h
    refine ⟨env1, rfl, ?_⟩
    cases e2 : cond env1 with
    | no => rw [e2] at h; cases h
    | ex n e => rw [e2] at h; cases h
    | ok q =>
      rw [e2] at h
      refine ⟨q, rfl, ?_⟩
      obtain ⟨⟨k, p, d⟩, en⟩ := q
      cases d with
      | bool b =>
        cases b with
        | false => exact .inl ⟨rfl, h⟩
        | true =>
          refine .inr ⟨rfl, ?_⟩
          simp only at h
          cases e3 : elt en with
          | no => rw [e3] at h; cases h
          | ex n e => rw [e3] at h; cases h
          | ok y =>
            rw [e3] at h
            simp only at h
            refine ⟨y, rfl, ?_⟩
            cases e4 : esc L' [y.1] y.2 with
            | none => rw [e4] at h; cases h
            | some z =>
              rw [e4] at h
              simp only at h
              refine ⟨z, rfl, ?_⟩
              split at h
              · rename_i hk; exact ⟨hk, h⟩
              · cases h
      | _ => cases h


theorem unown_cons (i : Nat) (ow : List Nat) (env0 env : Env) : unown (i :: ow) env0 env = unown ow env0 (env.set i (env0[i]?.getD none)) := rfl
theorem unown_len : ∀ (ow : List Nat) (env0 env : Env), (unown ow env0 env).length = env.length
  | [], _, _ => rfl
  | i :: ow, env0, env => by rw [unown_cons, unown_len ow, List.length_set]
theorem unown_get : ∀ (ow : List Nat) (env0 env : Env), env.length = env0.length → ∀ j, (unown ow env0 env)[j]? = if j ∈ ow then env0[j]? else env[j]?
  | [], env0, env, _, j => by simp [unown]
  | i :: ow, env0, env, hl, j => by
    rw [unown_cons, unown_get ow env0 _ (by rw [List.length_set]; exact hl)]
    by_cases h2 : j ∈ ow
    · rw [if_pos h2, if_pos (List.mem_cons_of_mem _ h2)]
    · rw [if_neg h2]
      by_cases h : j = i
      · subst h
        rw [if_pos List.mem_cons_self]
        by_cases hj : j < env.length
        · rw [List.getElem?_set_self hj, List.getElem?_eq_getElem (by omega : j < env0.length)]; rfl
        · rw [List.getElem?_eq_none (by rw [List.length_set]; omega), List.getElem?_eq_none (by omega)]
      · rw [List.getElem?_set_ne (Ne.symm h), if_neg (by simp [h, h2])]
section
variable {K : PySem.W.Frag} {H H0 H1 H2 H3 H' Hc : Hp} {σ σ0 σ1 : St} {env env0 env1 env2 env3 env' envc : Env} {fps fps0 fps1 fps2 fps3 fpsc : Nat → List Addr} {L L' L0 A ow : List Nat} {v w : V} {x y : Val} {fp fq : List Addr} {W : WX} {xc : Str → Value} {S Zf Zs : Addr → Prop} {D : Addr}
theorem Pv_all (ys : List Val) : pAll ys = .fr ∧ (∀ y ∈ ys, y.p = .fr) ∨ pAll ys = .sh := by
  unfold pAll
  split
  · rename_i h
    exact .inl ⟨rfl, fun y hy => by simpa using List.all_eq_true.mp h y hy⟩
  · exact .inr rfl
/-- a new object whose items are kept values: what it is -/
theorem disp_ok2 {dd : PyData} {fr : List Addr} {k : Kd} {vs : List V} {ys : List Val} {fpl : List (List Addr)} (R : ER K H σ env fps) (h : VsOk K H σ env fps [] vs ys fpl) (b : BndS L H0 env0 fps0 ys fpl) (q : ∀ y ∈ ys, y.p = .fr ∨ y.p = .sh)
    (hd : Den K H v dd fr) (hk : KdOk k dd) (hfr : ∀ a ∈ fr, a ∈ fpl.flatten ∨ (¬ AnyA env fps a ∧ H0 a = none)) (hnd : fpl.flatten.Nodup → fr.Nodup) :
    VOk K H σ env fps v ⟨k, pAll ys, dd⟩ fr ∧ Bnd L H0 env0 fps0 ⟨k, pAll ys, dd⟩ fr := by
  obtain ⟨_, _, a3, _, a5⟩ := VsOk.all R rfl h q
  obtain ⟨b1, b2⟩ := BndS.flat h.len.2 b q
  refine ⟨⟨hk, ?_⟩, ?_⟩
  · show match pAll ys with | .fr => _ | .sl i => _ | .pt i => _ | .sh => _
    cases e : pAll ys with
    | fr =>
      obtain ⟨c1, c2, _⟩ := a5 e
      exact ⟨hd, hnd c1, fun a ha z => (hfr a ha).elim (fun w => c2 a w z) fun w => w.1 z⟩
    | sh => exact ⟨hd, fun a ha i s es os z => (hfr a ha).elim (fun w => a3 a w i s es os z) fun w => w.1 ⟨i, s, es, z⟩⟩
    | sl i => unfold pAll at e; split at e <;> cases e
    | pt i => unfold pAll at e; split at e <;> cases e
  · show match pAll ys with | .fr => _ | .sl i => _ | .pt i => _ | .sh => _
    cases e : pAll ys with
    | fr =>
      obtain ⟨_, _, c3⟩ := a5 e
      exact fun a ha => (hfr a ha).elim (fun w => b2 c3 a w) fun w => .inr w.2
    | sh => exact fun a ha => (hfr a ha).elim (fun w => b1 a w) fun w => .inr w.2
    | sl i => trivial
    | pt i => trivial
/-- what an address in a kept value may be, by what stood before -/
def ZF (L' ow : List Nat) (H1 : Hp) (env2 : Env) (fps2 : Nat → List Addr) (a : Addr) : Prop := OwnA L' (wipeE ow env2) fps2 a ∨ H1 a = none
def ZS (L' ow : List Nat) (H1 : Hp) (env2 : Env) (fps2 : Nat → List Addr) (S : Addr → Prop) (dp : Prop) (a : Addr) : Prop := ZF L' ow H1 env2 fps2 a ∨ (∃ j s, j ∉ ow ∧ env2[j]? = some (some s) ∧ a ∈ fps2 j) ∨ (S a ∧ dp)
/-- what is new or was not hidden is in no hidden slot -/
theorem zf_hid (R2 : ER K H1 σ env2 fps2) {a : Addr} (z : ZF L' ow H1 env2 fps2 a) {i : Nat} {s : Sl} (hi : i ∈ ow) (e : env2[i]? = some (some s)) : a ∉ fps2 i := fun ha => by
  rcases z with ⟨j, ⟨_, t, et, ot⟩, hj⟩ | z
  · obtain ⟨nj, et⟩ := wipeE_some et
    exact R2.dj j i t s (fun q => nj (q ▸ hi)) et ot e a hj ha
  · exact R2.ne ⟨i, s, e, ha⟩ z
theorem zs_hid {dp : Prop} (R2 : ER K H1 σ env2 fps2) (hS : dp → ∀ a, S a → ∀ i s, env2[i]? = some (some s) → s.own = true → a ∉ fps2 i) {a : Addr} (z : ZS L' ow H1 env2 fps2 S dp a) {i : Nat} {s : Sl} (hi : i ∈ ow) (e : env2[i]? = some (some s)) (o : s.own = true) : a ∉ fps2 i := fun ha => by
  rcases z with z | ⟨j, t, nj, et, hj⟩ | ⟨hs, hd⟩
  · exact zf_hid R2 z hi e ha
  · exact R2.dj i j s t (fun q => nj (q ▸ hi)) e o et a ha hj
  · exact hS hd a hs i s e o ha
open Classical in
/-- after the turns: the hidden slots stand as they stood -/
theorem unwipe {dp : Prop} (R2 : ER K H1 σ env2 fps2) (hS : dp → ∀ a, S a → ∀ i s, env2[i]? = some (some s) → s.own = true → a ∉ fps2 i) (Rc : ER K Hc (wipe σ ow) envc fpsc)
    (N : StepN ow L' H1 (wipeE ow env2) fps2 Hc envc fpsc) (ZA : ∀ a, AnyA envc fpsc a → ZS L' ow H1 env2 fps2 S dp a) :
    ∃ fpsF, ER K Hc σ (unown ow env2 envc) fpsF ∧ Step L' H1 env2 fps2 Hc (unown ow env2 envc) fpsF ∧ (∀ j s, (unown ow env2 envc)[j]? = some (some s) → ∀ a ∈ fpsF j, (AnyA envc fpsc a ∧ (s.own = true → envc[j]? = some (some s) ∧ a ∈ fpsc j)) ∨ (j ∈ ow ∧ env2[j]? = some (some s) ∧ a ∈ fps2 j)) := by
  have hl : envc.length = env2.length := by rw [← Rc.len, wipe_length, R2.len]
  have get := unown_get ow env2 envc hl
  refine ⟨fun i => if i ∈ ow then fps2 i else fpsc i, ⟨?_, fun i s e => ?_, fun i s e o => ?_, fun i j s t hij e o e' a ha hb => ?_, Rc.tb⟩, ⟨fun a o e n t => N.keep a o e (fun q => n (wipe_own q)) t, N.fix, fun i n => ?_, fun i u a ha => ?_, N.alv⟩, fun j s e a ha => ?_⟩
  · rw [unown_len, hl, R2.len]
  · rw [get] at e
    by_cases hi : i ∈ ow
    · rw [if_pos hi] at e
      simp only [hi, if_true]
      obtain ⟨v, h1, h2, h3⟩ := R2.val i s e
      refine ⟨v, h1, h2.stay N.fix fun a ha o e' t => N.keep a o e' (fun q => zf_hid R2 (.inl q) hi e ha) t, h3⟩
    · rw [if_neg hi] at e
      simp only [hi, if_false]
      obtain ⟨v, h1, h2⟩ := Rc.val i s e
      rw [wipe_out hi] at h1
      exact ⟨v, h1, h2⟩
  · rw [get] at e
    by_cases hi : i ∈ ow
    · rw [if_pos hi] at e
      simp only [hi, if_true]
      exact R2.nd i s e o
    · rw [if_neg hi] at e
      simp only [hi, if_false]
      exact Rc.nd i s e o
  · rw [get] at e e'
    by_cases hi : i ∈ ow <;> by_cases hj : j ∈ ow
    · rw [if_pos hi] at e
      rw [if_pos hj] at e'
      simp only [hi, hj, if_true] at ha hb
      exact R2.dj i j s t hij e o e' a ha hb
    · rw [if_pos hi] at e
      rw [if_neg hj] at e'
      simp only [hi, hj, if_true, if_false] at ha hb
      exact zs_hid R2 hS (ZA a ⟨j, t, e', hb⟩) hi e o ha
    · rw [if_neg hi] at e
      rw [if_pos hj] at e'
      simp only [hi, hj, if_true, if_false] at ha hb
      rcases N.own i s e o a ha with z | z | ⟨_, u, eu, ou, z⟩
      · exact zf_hid R2 (.inl z) hj e' hb
      · exact zf_hid R2 (.inr z : ZF L' ow H1 env2 fps2 a) hj e' hb
      · exact R2.dj i j u t hij (wipeE_some eu).2 ou e' a z hb
    · rw [if_neg hi] at e
      rw [if_neg hj] at e'
      simp only [hi, hj, if_false] at ha hb
      exact Rc.dj i j s t hij e o e' a ha hb
  · rw [get]
    by_cases hi : i ∈ ow
    · simp [hi]
    · simp only [hi, if_false]
      have := N.oth i hi fun ⟨n1, t, et, ot⟩ => n ⟨n1, t, (wipeE_some et).2, ot⟩
      rw [wipeE_get, if_neg hi] at this
      exact this
  · by_cases hi : i ∈ ow
    · simp only [hi, if_true] at ha
      exact .inl ⟨i, u, ha⟩
    · simp only [hi, if_false] at ha
      rcases N.sub i hi a ha with z | z | z
      · exact .inl (wipe_own z)
      · exact .inr z
      · exact .inl ⟨i, u, z⟩
  · rw [get] at e
    by_cases hi : j ∈ ow
    · rw [if_pos hi] at e
      simp only [hi, if_true] at ha
      exact .inr ⟨hi, e, ha⟩
    · rw [if_neg hi] at e
      simp only [hi, if_false] at ha
      exact .inl ⟨⟨j, s, e, ha⟩, fun _ => ⟨e, ha⟩⟩
/-- a kept value, once the hidden slots are back -/
theorem Acc.back {dp : Prop} {envU : Env} {fpsF : Nat → List Addr} (h : Acc (ZF L' ow H1 env2 fps2) (ZS L' ow H1 env2 fps2 S dp) K S D L H0 env0 fps0 Hc envc fpsc v x fp)
    (R2 : ER K H1 σ env2 fps2) (hS : dp → ∀ a, S a → ∀ i s, env2[i]? = some (some s) → s.own = true → a ∉ fps2 i)
    (hU : ∀ j s, envU[j]? = some (some s) → ∀ a ∈ fpsF j, (AnyA envc fpsc a ∧ (s.own = true → envc[j]? = some (some s) ∧ a ∈ fpsc j)) ∨ (j ∈ ow ∧ env2[j]? = some (some s) ∧ a ∈ fps2 j)) : Acc (ZF L' ow H1 env2 fps2) (ZS L' ow H1 env2 fps2 S dp) K S D L H0 env0 fps0 Hc envU fpsF v x fp := by
  refine ⟨h.p, ?_, h.d, h.s, h.b, h.zf, h.zs⟩
  have ok := h.ok
  have p := h.p
  have zf := h.zf
  have zs := h.zs
  obtain ⟨k, q, d⟩ := x
  rcases p with rfl | rfl
  · refine ⟨ok.1, ok.2.1, ok.2.2.1, fun a ha ⟨j, s, e, hj⟩ => ?_⟩
    rcases hU j s e a hj with z | ⟨z1, z2, z3⟩
    · exact ok.2.2.2 a ha z.1
    · exact zf_hid R2 (zf rfl a ha) z1 z2 z3
  · refine ⟨ok.1, ok.2.1, fun a ha j s e o hj => ?_⟩
    rcases hU j s e a hj with z | ⟨z1, z2, z3⟩
    · obtain ⟨z1, z2⟩ := z.2 o
      exact ok.2.2 a ha j s z1 o z2
    · exact zs_hid R2 hS (zs rfl a ha) z1 z2 o z3
end

theorem AccL.both {P P' : V → Val → List Addr → Prop} : ∀ {vs : List V} {xs : List Val} {fpl : List (List Addr)}, AccL P vs xs fpl → AccL P' vs xs fpl → AccL (fun v x fp => P v x fp ∧ P' v x fp) vs xs fpl
  | [], [], [], _, _ => trivial
  | _ :: _, _ :: _, _ :: _, h, h' => ⟨⟨h.1, h'.1⟩, h.2.1, AccL.both h.2.2 h'.2.2⟩
section
variable {X : Cx} {xc : Str → Value} {T : Tab} {W : WX} {elt tg iter : Expr} {ifs : List Expr} {ce cc : CE} {cs : List CE} {tgc : Tg} {ik : Ik} {pos : Pos} {scope : Scope} {own : List (Str × Nat)} {dp : Bool}
theorem comp_red {wi : TI} {σ : St} {H : Hp} {Q : VK} (hwi : ∀ σ H R, tIt X.K xc T W ik cs σ H R → wi σ H R) (h : tI X.K xc T W (.comp dp (own.map (·.2)) ce tgc ik cs cc) σ H Q) :
    tLc wi (gI X.K (own.map (·.2)) tgc) (tB (tI X.K xc T WF cc)) (tI X.K xc T WF ce) (own.map (·.2)) σ H Q := by
  generalize how : own.map (·.2) = ow at h ⊢
  obtain ⟨L, env, fps, R0, P⟩ := h
  refine hwi _ _ _ ⟨L, env, fps, R0, ?_⟩
  simp only [ev] at P
  cases e1 : evs T [] cs L env with
  | no => rw [e1] at P; exact P.elim
  | ex n e => rw [e1] at P; exact P
  | ok q =>
    obtain ⟨xs, env1⟩ := q
    rw [e1] at P
    simp only [Iv.R.bind] at P ⊢
    cases e2 : escK ik L xs env1 with
    | none => rw [e2] at P; exact P.elim
    | some z =>
      obtain ⟨ws, env2⟩ := z
      rw [e2] at P
      simp only [Iv.R.of] at P
      cases e3 : itsOf ik ws with
      | none => rw [e3] at P; exact P.elim
      | some items =>
        rw [e3] at P
        simp only at P
        split at P
        · exact P.elim
        rename_i hfit
        have hfit : items.length ≤ sizeLine := fits_le (by simpa using hfit)
        refine ⟨ws, env2, items, rfl, e3, fun J St Y S H1 fps2 S2 R2 IO D hD => ?_⟩
        generalize hL : lks ws L = L' at P IO
        have hLL : ∀ i ∈ L, i ∈ L' := by rw [← hL]; exact lks_sub ws L
        cases e4 : compL L' ow dp tgc (fun e => ev T cc L' e) (fun e => ev T ce L' e) items [] (wipeE ow env2) with
        | no => rw [show compL L' ow dp tgc (fun e => ev T cc L' e) (fun e => ev T ce L' e) items [] (List.foldl (fun e i => e.set i none) env2 ow) = .no from e4] at P; exact P.elim
        | ex n e => rw [show compL L' ow dp tgc (fun e => ev T cc L' e) (fun e => ev T ce L' e) items [] (List.foldl (fun e i => e.set i none) env2 ow) = .ex n e from e4] at P; exact P.elim
        | ok fin =>
          rw [show compL L' ow dp tgc (fun e => ev T cc L' e) (fun e => ev T ce L' e) items [] (List.foldl (fun e i => e.set i none) env2 ow) = .ok fin from e4] at P
          obtain ⟨accF, envF⟩ := fin
          simp only at P
          have ex0 : Ext H1 (upd H1 D (.lst [])) := Ext.upd hD
          have noD : ∀ {a : Addr}, (∃ o, H1 a = some o) → a ≠ D := fun {a} ⟨o, e⟩ z => by rw [z, hD] at e; cases e
          have SD : ∀ a, S a → a ≠ D := fun a h => noD (IO.there a h)
          have HD0 : H D = none := by
            cases q : H D with
            | none => rfl
            | some o => exact (S2.alv D (by rw [q]; simp) hD).elim
          refine lc_it IO.walk (fun i Hc => ∃ envc fpsc accs accV fpl, ER X.K Hc (wipe σ ow) envc fpsc ∧ StepN ow L' H1 (wipeE ow env2) fps2 Hc envc fpsc ∧ StepS ow L H env fps Hc envc fpsc ∧ ¬ AnyA envc fpsc D ∧
            Hc D = some (.lst accV) ∧ accV.length ≤ i ∧ AccL (Acc (ZF L' ow H1 env2 fps2) (ZS L' ow H1 env2 fps2 S (∃ z ∈ items, z.p = .sh)) X.K S D L H env fps Hc envc fpsc) accV accs fpl ∧ (∀ a, AnyA envc fpsc a → ZS L' ow H1 env2 fps2 S (∃ z ∈ items, z.p = .sh) a) ∧ (dp || kAll accs) = true ∧ compL L' ow dp tgc (fun e => ev T cc L' e) (fun e => ev T ce L' e) (items.drop i) accs envc = .ok (accF, envF)) ?_ ?_ ?_ ?_
          · have R1w : ER X.K (upd H1 D (.lst [])) (wipe σ ow) (wipeE ow env2) fps2 := (R2.ext ex0).wipe
            refine ⟨wipeE ow env2, fps2, [], [], [], R1w, ex0.step.toN, (S2.trans R0 ex0.step).toS.trans wipe_S, fun q => ?_, upd_same, Nat.le_refl _, trivial, fun a ⟨j, t, e, q⟩ => .inr (.inl ⟨j, t, (wipeE_some e).1, (wipeE_some e).2, q⟩), ?_, e4⟩
            · obtain ⟨o, e, _⟩ := R2.there (wipe_any q)
              rw [hD] at e; cases e
            · cases dp <;> rfl
          · rintro i Hc hi ⟨envc, fpsc, accs, accV, fpl, Rc, Nc, Sc, nD, hDc, hlen, ha, ZA, hk, hc⟩
            refine IO.st Hc ⟨fun a o hs e t => Nc.keep a o e (fun q => IO.own a hs (wipe_own q)) t, fun a o e f => Nc.fix a o e f⟩
          · rintro i x Hc Hd hi ⟨envc, fpsc, accs, accV, fpl, Rc, Nc, Sc, nD, hDc, hlen, ha, ZA, hk, hc⟩ hy
            have kept : KeptS S H1 Hc := ⟨fun a o hs e t => Nc.keep a o e (fun q => IO.own a hs (wipe_own q)) t, fun a o e f => Nc.fix a o e f⟩
            obtain ⟨exd, y, fq, hyi, hyd, hyk, hyw, hys⟩ := IO.it i Hc x Hd hi kept hy
            have hdrop : items.drop i = y :: items.drop (i + 1) := by
              rw [List.drop_eq_getElem_cons hi]
              rw [List.getElem?_eq_getElem hi] at hyi
              cases hyi; rfl
            rw [hdrop] at hc
            obtain ⟨envA, hA, qc, hcond, hrest⟩ := compL_cons hc
            have Rd := Rc.ext exd
            have allocS : ∀ a, S a → ∃ o, Hd a = some o := fun a hs => by
              obtain ⟨o, e⟩ := IO.there a hs
              cases q : Hc a with
              | none => exact (Nc.alv a (by rw [e]; simp) q).elim
              | some o' => exact ⟨o', exd a o' q⟩
            -- the item as a value
            have hfq : y.p = .fr → fq = [] := fun h => by
              rcases hyw with ⟨h1, h2⟩ | h2
              · rw [h1] at hyk
                exact hyd.imm hyk
              · rw [h2] at h; cases h
            have hfS : ∀ a ∈ fq, S a := fun a ha => by
              rcases hyw with ⟨h1, h2⟩ | h2
              · rw [hfq h2] at ha; cases ha
              · exact hys h2 a ha
            have ownS : ∀ a, (∃ z ∈ items, z.p = .sh) → S a → ∀ j s, envc[j]? = some (some s) → s.own = true → a ∉ fpsc j := fun a hz hs j s ej oj hb => by
              rcases Nc.own j s ej oj a hb with z | z | ⟨hj, t, et, ot, z⟩
              · exact IO.own a hs (wipe_own z)
              · obtain ⟨o, e⟩ := IO.there a hs
                rw [e] at z; cases z
              · exact IO.deep hz a hs j t (wipeE_some et).2 ot z
            have hV : VOk X.K Hd (wipe σ ow) envc fpsc x y fq := by
              obtain ⟨k, p, d⟩ := y
              rcases hyw with ⟨h1, h2⟩ | h2
              · cases h1; cases h2
                have z := hfq rfl
                subst z
                exact ⟨hyk, hyd, List.nodup_nil, fun a ha => nomatch ha⟩
              · cases h2
                exact ⟨hyk, hyd, fun a ha j s ej oj => ownS a ⟨_, List.mem_of_getElem? hyi, rfl⟩ (hfS a ha) j s ej oj⟩
            refine ⟨L', envc, fpsc, y, fq, envA, Rd, hV, hA, fun σ2 fpsA qA RA aA wA => ⟨wipe_agree aA (by rw [RA.len, qA.len, ← Rc.len, wipe_length]), ?_⟩⟩
            -- where things stand behind the store
            have hσ : wipe σ2 ow = wipe σ ow := wipe_agree aA (by rw [RA.len, qA.len, ← Rc.len, wipe_length])
            have SdB : StepS ow L H env fps Hd envc fpsc := Sc.trans exd.step.toS
            have NdB : StepN ow L' H1 (wipeE ow env2) fps2 Hd envc fpsc := Nc.trans exd.step.toN
            have bq : Bnd L H env fps y fq := by
              obtain ⟨k, p, d⟩ := y
              rcases hyw with ⟨h1, h2⟩ | h2
              · cases h1; cases h2
                rw [hfq rfl]
                exact fun a ha => nomatch ha
              · cases h2
                exact fun a ha => IO.any a (hfS a ha)
            have SA : StepS ow L H env fps Hd envA fpsA := SdB.asg hLL qA bq fun a ha => IO.any a (hfS a ha)
            have NA : StepN ow L' H1 (wipeE ow env2) fps2 Hd envA fpsA := NdB.asg (fun _ h => h) qA fun h a ha => by rw [hfq h] at ha; cases ha
            have hDd : Hd D = some (.lst accV) := exd D _ hDc
            have nDA : ¬ AnyA envA fpsA D := fun q => (qA.any D q).elim nD fun z => SD D (hfS D z) rfl
            have aA' : AccL (Acc (ZF L' ow H1 env2 fps2) (ZS L' ow H1 env2 fps2 S (∃ z ∈ items, z.p = .sh)) X.K S D L H env fps Hd envA fpsA) accV accs fpl := ha.imp fun v x fp h => (h.ext exd).asg qA hfq hfS
            have ZAA : ∀ a, AnyA envA fpsA a → ZS L' ow H1 env2 fps2 S (∃ z ∈ items, z.p = .sh) a := fun a h => (qA.any a h).elim (ZA a) fun z => .inr (.inr ⟨hfS a z, by
              rcases hyw with ⟨h1, h2⟩ | h2
              · rw [hfq h2] at z; cases z
              · exact ⟨y, List.mem_of_getElem? hyi, h2⟩⟩)
            -- the test
            refine ⟨L', envA, fpsA, RA, ?_⟩
            rw [hcond]
            intro v3 H3 fps3 fp3 S3 R3 V3 B3
            have S3' : StepS ow L H env fps H3 qc.2 fps3 := SA.trans (S3.mono hLL).toS
            have N3 : StepN ow L' H1 (wipeE ow env2) fps2 H3 qc.2 fps3 := NA.trans S3.toN
            have a3 : AccL (Acc (ZF L' ow H1 env2 fps2) (ZS L' ow H1 env2 fps2 S (∃ z ∈ items, z.p = .sh)) X.K S D L H env fps H3 qc.2 fps3) accV accs fpl := aA'.imp fun v x fp h => h.step RA S3
            have nD3 : ¬ AnyA qc.2 fps3 D := fun q => (S3.anyBack q).elim nDA fun z => by rw [hDd] at z; cases z
            have ZA3 : ∀ a, AnyA qc.2 fps3 a → ZS L' ow H1 env2 fps2 S (∃ z ∈ items, z.p = .sh) a := fun a h => (S3.anyBack h).elim (ZAA a) fun z => .inl (NA.noneBack z)
            have hD3 : H3 D = some (.lst accV) := S3.keep D _ hDd (fun q => nDA q.toAny) trivial
            rcases hrest with ⟨hb, hc⟩ | ⟨hb, r, hr, z, hz, hkz, hc⟩
            · refine ⟨false, ?_, ?_⟩
              · have d3 := V3.den R3
                rw [hb] at d3
                exact den_bool d3
              · refine iteF ⟨wipeE ow qc.2, fps3, accs, accV, fpl, hσ ▸ R3.wipe, N3.trans wipe_N, S3'.trans wipe_S, fun q => nD3 (wipe_any q), hD3, Nat.le_succ_of_le hlen, a3.imp fun v x fp h => h.wipe, fun a h => ZA3 a (wipe_any h), hk, hc⟩
            · refine ⟨true, ?_, ?_⟩
              · have d3 := V3.den R3
                rw [hb] at d3
                exact den_bool d3
              refine iteT ⟨L', qc.2, fps3, R3, ?_⟩
              rw [hr]
              intro v4 H4 fps4 fp4 S4 R4 V4 B4
              obtain ⟨ys, env5⟩ := z
              obtain ⟨_, R5, V5, _, hp5, rfl, hl5, T5⟩ := esc_one (A := ow) S4.toS R4 V4 B4 hz
              have S4' : StepS ow L H env fps H4 r.2 fps4 := S3'.trans (S4.mono hLL).toS
              have N4 : StepN ow L' H1 (wipeE ow env2) fps2 H4 r.2 fps4 := N3.trans S4.toN
              have S5 : StepS ow L H env fps H4 env5 fps4 := S4'.trans (T5.mono hLL).toS
              have N5 : StepN ow L' H1 (wipeE ow env2) fps2 H4 env5 fps4 := N4.trans T5.toN
              have hD4 : H4 D = some (.lst accV) := S4.keep D _ hD3 (fun q => nD3 q.toAny) trivial
              have nD4 : ¬ AnyA r.2 fps4 D := fun q => (S4.anyBack q).elim nD3 fun z => by rw [hD3] at z; cases z
              have nD5 : ¬ AnyA env5 fps4 D := fun q => (T5.anyBack q).elim nD4 fun z => by rw [hD4] at z; cases z
              have ZA5 : ∀ a, AnyA env5 fps4 a → ZS L' ow H1 env2 fps2 S (∃ z ∈ items, z.p = .sh) a := fun a h => (T5.anyBack h).elim (fun h => (S4.anyBack h).elim (ZA3 a) fun z => .inl (N3.noneBack z)) fun z => .inl (N4.noneBack z)
              have a4 : AccL (Acc (ZF L' ow H1 env2 fps2) (ZS L' ow H1 env2 fps2 S (∃ z ∈ items, z.p = .sh)) X.K S D L H env fps H4 r.2 fps4) accV accs fpl := a3.imp fun v x fp h => h.step R3 S4
              have a5 : AccL (Acc (ZF L' ow H1 env2 fps2) (ZS L' ow H1 env2 fps2 S (∃ z ∈ items, z.p = .sh)) X.K S D L H env fps H4 env5 fps4) accV accs fpl := a4.imp fun v x fp h => h.step R4 T5
              -- the new item's footprint
              have B4L : Bnd L H env fps (share r.1) fp4 := by
                have b1 : Bnd L H env fps r.1 fp4 := (B4.mono hLL).backS S3'
                exact Bnd.shareS S4' V4 b1
              have d4 : D ∉ fp4 := not_in_new B4 V4 nD4 nD3 (by rw [hD3]; simp)
              have b4 : (share r.1).p = .fr → ∀ a ∈ fp4, OwnA L' qc.2 fps3 a ∨ H3 a = none := fun hf a ha => by
                have hr : r.1.p = .fr := by
                  rcases share_p r.1 with q | q
                  · exact q.2
                  · rw [hf] at q; cases q
                obtain ⟨⟨k, p, dd⟩, en⟩ := r
                cases hr
                exact B4 a ha
              have zf4 : (share r.1).p = .fr → ∀ a ∈ fp4, ZF L' ow H1 env2 fps2 a := fun hf a ha => (b4 hf a ha).elim N3.ownBack N3.noneBack
              have zs4 : (share r.1).p = .sh → ∀ a ∈ fp4, ZS L' ow H1 env2 fps2 S (∃ z ∈ items, z.p = .sh) a := fun _ a ha => (V4.base (A := ow) S4.toS B4 a ha).elim (ZA3 a) fun z => .inl (N3.noneBack z)
              have s4 : (share r.1).p = .fr → ∀ a ∈ fp4, ¬ S a := fun hf a ha hs => by
                have hb4 := b4 hf a ha
                obtain ⟨o, e⟩ := IO.there a hs
                rcases hb4 with q | q
                · rcases N3.ownBack q with q | q
                  · exact IO.own a hs (wipe_own q)
                  · rw [e] at q; cases q
                · rcases N3.noneBack q with q | q
                  · exact IO.own a hs (wipe_own q)
                  · rw [e] at q; cases q
              have new : Acc (ZF L' ow H1 env2 fps2) (ZS L' ow H1 env2 fps2 S (∃ z ∈ items, z.p = .sh)) X.K S D L H env fps H4 env5 fps4 v4 (share r.1) fp4 := ⟨hp5, V5.sig hp5 _, d4, s4, B4L, zf4, zs4⟩
              refine ⟨accV, hD4, ?_, wipeE ow env5, fps4, accs ++ [share r.1], accV ++ [v4], fpl ++ [fp4], ?_, ?_, ?_, fun q => nD5 (wipe_any q), upd_same, ?_, ?_, fun a h => ZA5 a (wipe_any h), ?_, hc⟩
              · have : accV.length < items.length := Nat.lt_of_le_of_lt hlen hi
                exact Nat.lt_of_lt_of_le this hfit
              · have R5w : ER X.K H4 (wipe σ ow) (wipeE ow env5) fps4 := hσ ▸ R5.wipe
                exact R5w.other hD4 (fun z => z) trivial fun q => nD5 (wipe_any q)
              · exact (N5.trans wipe_N).other hD fun o e => by rw [hD4] at e; cases e; exact fun z => z
              · exact (S5.trans wipe_S).other HD0 fun o e => by rw [hD4] at e; cases e; exact fun z => z
              · simp; omega
              · refine AccL.push (new.wipe.other hD4 fun z => z) (fun w y fq hw hp a ha hb => ?_) (AccL.both a3 (a5.imp fun v x fp h => h.wipe.other hD4 fun z => z))
                -- an older kept item and the new one
                have ok := hw.ok
                obtain ⟨k, q, d⟩ := y
                rcases hp with ⟨hy, hx⟩ | ⟨hy, hx⟩
                · cases hy
                  have key : AnyA qc.2 fps3 a ∨ H3 a = none → False := fun z => by
                    rcases z with z | z
                    · exact ok.2.2.2 a ha z
                    · obtain ⟨o, e, _⟩ := ok.2.1.there a ha
                      rw [z] at e; cases e
                  rcases hx with hx | hx
                  · exact key ((b4 hx a hb).imp (fun z => z.toAny) id)
                  · exact key (V4.base (A := ow) S4.toS B4 a hb)
                · cases hy
                  rcases b4 hx a hb with ⟨i, ⟨_, t, et, ot⟩, z⟩ | z
                  · exact ok.2.2 a ha i t et ot z
                  · obtain ⟨o, e, _⟩ := ok.2.1.there a ha
                    rw [z] at e; cases e
              · rw [show kAll (accs ++ [share r.1]) = (kAll accs && kAll [share r.1]) from List.all_append]
                cases dp with
                | true => rfl
                | false => simp only [Bool.false_or] at hk hkz ⊢; rw [hk, hkz]; rfl
          · rintro Hc ⟨envc, fpsc, accs, accV, fpl, Rc, Nc, Sc, nD, hDc, hlen, ha, ZA, hk, hc⟩
            rw [List.drop_length] at hc
            cases hc
            have hS : (∃ z ∈ items, z.p = .sh) → ∀ a, S a → ∀ i s, env2[i]? = some (some s) → s.own = true → a ∉ fps2 i := IO.deep
            obtain ⟨fpsF, RF, SF, hU⟩ := unwipe R2 hS Rc Nc ZA
            have aF := ha.imp fun v x fp h => h.back R2 hS hU
            obtain ⟨vF, bF, pF, dF⟩ := aF.vs (σ := σ)
            have S0 : Step L H env fps Hc (unown ow env2 envF) fpsF := S2.trans R0 (SF.mono hLL)
            have dd := (VsOk.all RF rfl vF pF).1
            have nDF : ¬ AnyA (unown ow env2 envF) fpsF D := fun ⟨j, s, e, q⟩ => by
              rcases hU j s e D q with z | ⟨_, z, z'⟩
              · exact nD z.1
              · obtain ⟨o, e', _⟩ := R2.there ⟨j, s, z, z'⟩
                rw [hD] at e'; cases e'
            refine (disp_ok2 (fr := D :: fpl.flatten) (k := if dp then .deep else .flat) RF vF bF pF (.lst hDc dd) ?_ (fun a ha => ?_) (fun hn => List.nodup_cons.mpr ⟨fun hm => ?_, hn⟩)).elim fun VV BB => P _ Hc fpsF _ S0 RF VV BB
            · cases dp with
              | true => trivial
              | false => exact (VsOk.all RF rfl vF pF).2.2.2.1 (by simpa using hk)
            · rcases List.mem_cons.mp ha with q | q
              · rw [q]; exact .inr ⟨nDF, HD0⟩
              · exact .inl q
            · obtain ⟨f, hf, hm⟩ := List.mem_flatten.mp hm
              exact dF f hf hm
end
end Iv

set_option maxRecDepth 100000
set_option maxHeartbeats 2000000
/-! IvK: calls of the module's functions. -/
namespace Iv
open PySem L2
variable [Tbl]

def posOf : List Bool → List Val → Nat → Option Nat
  | io, x :: xs, i => match io.headD false, x.p with
    | true, .sl j => if j = i then some 0 else (posOf io.tail xs i).map (· + 1)
    | _, _ => (posOf io.tail xs i).map (· + 1)
  | _, [], _ => none
theorem getD_tail (io : List Bool) (j : Nat) : io.tail.getD j false = io.getD (j + 1) false := by cases io <;> simp
theorem headD_getD (io : List Bool) : io.headD false = io.getD 0 false := by cases io <;> simp
theorem posOf_some : ∀ {io : List Bool} {xs : List Val} {i j : Nat}, posOf io xs i = some j → io.getD j false = true ∧ ∃ x, xs[j]? = some x ∧ x.p = .sl i
  | _, [], _, _, h => by simp [posOf] at h
  | io, x :: xs, i, j, h => by
    unfold posOf at h
    have rest : (posOf io.tail xs i).map (· + 1) = some j → io.getD j false = true ∧ ∃ y, (x :: xs)[j]? = some y ∧ y.p = .sl i := fun h => by
      obtain ⟨k, hk, rfl⟩ := Option.map_eq_some_iff.mp h
      obtain ⟨h1, y, h2, h3⟩ := posOf_some hk
      rw [getD_tail] at h1
      exact ⟨h1, y, by simpa using h2, h3⟩
    split at h
    · rename_i j' e1 e2
      split at h
      · rename_i e
        cases h
        subst e
        rw [headD_getD] at e1
        exact ⟨e1, x, rfl, e2⟩
      · exact rest h
    · exact rest h
theorem ioS_mem : ∀ {io : List Bool} {xs : List Val} {j i : Nat} {x : Val}, io.getD j false = true → xs[j]? = some x → x.p = .sl i → i ∈ ioS io xs
  | _, [], _, _, _, _, h, _ => by simp at h
  | io, y :: xs, 0, i, x, h1, h2, h3 => by
    simp at h2; subst h2
    unfold ioS
    rw [headD_getD, h1, h3]
    exact List.mem_cons_self
  | io, y :: xs, j + 1, i, x, h1, h2, h3 => by
    have := ioS_mem (io := io.tail) (xs := xs) (j := j) (by rw [getD_tail]; exact h1) (by simpa using h2) h3
    unfold ioS
    split
    · exact List.mem_cons_of_mem _ this
    · exact this
theorem ioS_uniq : ∀ {io : List Bool} {xs : List Val} {j l i : Nat} {x y : Val}, (ioS io xs).Nodup → io.getD j false = true → xs[j]? = some x → x.p = .sl i → io.getD l false = true → xs[l]? = some y → y.p = .sl i → j = l
  | _, [], _, _, _, _, _, _, _, h, _, _, _, _ => by simp at h
  | io, z :: xs, 0, 0, i, x, y, nd, h1, h2, h3, g1, g2, g3 => rfl
  | io, z :: xs, 0, l + 1, i, x, y, nd, h1, h2, h3, g1, g2, g3 => by
    simp at h2; subst h2
    have := ioS_mem (io := io.tail) (xs := xs) (j := l) (by rw [getD_tail]; exact g1) (by simpa using g2) g3
    unfold ioS at nd
    rw [headD_getD, h1, h3] at nd
    exact ((List.nodup_cons.mp nd).1 this).elim
  | io, z :: xs, j + 1, 0, i, x, y, nd, h1, h2, h3, g1, g2, g3 => by
    simp at g2; subst g2
    have := ioS_mem (io := io.tail) (xs := xs) (j := j) (by rw [getD_tail]; exact h1) (by simpa using h2) h3
    unfold ioS at nd
    rw [headD_getD, g1, g3] at nd
    exact ((List.nodup_cons.mp nd).1 this).elim
  | io, z :: xs, j + 1, l + 1, i, x, y, nd, h1, h2, h3, g1, g2, g3 => by
    have nd' : (ioS io.tail xs).Nodup := by
      unfold ioS at nd
      split at nd
      · exact (List.nodup_cons.mp nd).2
      · exact nd
    exact congrArg (· + 1) (ioS_uniq nd' (by rw [getD_tail]; exact h1) (by simpa using h2) h3 (by rw [getD_tail]; exact g1) (by simpa using g2) g3)
theorem posOf_none : ∀ {io : List Bool} {xs : List Val} {i : Nat}, i ∉ ioS io xs → posOf io xs i = none
  | _, [], _, _ => rfl
  | io, x :: xs, i, h => by
    unfold ioS at h
    unfold posOf
    split
    · rename_i j e1 e2
      rw [e1, e2] at h
      simp only [List.mem_cons, not_or] at h
      rw [if_neg (Ne.symm h.1), posOf_none h.2]; rfl
    · rename_i hn
      have : i ∉ ioS io.tail xs := by
        split at h
        · rename_i j e1 e2
          exact (hn j e1 e2).elim
        · exact h
      rw [posOf_none this]; rfl
theorem posOf_at {io : List Bool} {xs : List Val} {j i : Nat} {x : Val} (nd : (ioS io xs).Nodup) (h1 : io.getD j false = true) (h2 : xs[j]? = some x) (h3 : x.p = .sl i) : posOf io xs i = some j := by
  cases e : posOf io xs i with
  | some l =>
    obtain ⟨g1, y, g2, g3⟩ := posOf_some e
    rw [ioS_uniq nd g1 g2 g3 h1 h2 h3]
  | none =>
    exfalso
    revert h1 h2 h3 e
    clear nd
    induction xs generalizing io j with
    | nil => intro _ h _ _; simp at h
    | cons y xs ih =>
      intro h1 h2 h3 e
      unfold posOf at e
      cases j with
      | zero =>
        simp at h2; subst h2
        rw [headD_getD, h1, h3] at e
        simp at e
      | succ j =>
        have h1' : io.tail.getD j false = true := by rw [getD_tail]; exact h1
        have h2' : xs[j]? = some x := by simpa using h2
        split at e
        · split at e
          · cases e
          · exact ih h1' h2' h3 (Option.map_eq_none_iff.mp e)
        · exact ih h1' h2' h3 (Option.map_eq_none_iff.mp e)
theorem back_len : ∀ {io : List Bool} {xs : List Val} {fin env : Env}, (back io xs fin env).length = env.length
  | _, [], _, _ => by cases ‹Env› <;> simp [back]
  | _, _ :: _, [], _ => by simp [back]
  | io, x :: xs, o :: fin, env => by
    unfold back
    split
    · rw [back_len, List.length_set]
    · rw [back_len]
theorem posOf_sl {io : List Bool} {x : Val} {xs : List Val} {i j : Nat} (e1 : io.headD false = true) (e2 : x.p = .sl j) : posOf io (x :: xs) i = if j = i then some 0 else (posOf io.tail xs i).map (· + 1) := by
  show (match io.headD false, x.p with | true, .sl j => _ | _, _ => _) = _
  rw [e1, e2]
theorem posOf_ne {io : List Bool} {x : Val} {xs : List Val} {i : Nat} (hn : ∀ j, io.headD false = true → x.p = .sl j → False) : posOf io (x :: xs) i = (posOf io.tail xs i).map (· + 1) := by
  conv => lhs; unfold posOf
  split
  · rename_i j e1 e2; exact (hn j e1 e2).elim
  · rfl
theorem ioS_pos : ∀ {io : List Bool} {xs : List Val} {i : Nat}, i ∈ ioS io xs → posOf io xs i ≠ none
  | _, [], _, h => by simp [ioS] at h
  | io, y :: xs, i, h => by
    unfold ioS at h
    split at h
    · rename_i j e1 e2
      rw [posOf_sl e1 e2]
      split
      · simp
      · rename_i hne
        rcases List.mem_cons.mp h with z | z
        · exact (hne z.symm).elim
        · intro q
          exact ioS_pos z (Option.map_eq_none_iff.mp q)
    · rename_i hn
      rw [posOf_ne hn]
      intro q
      exact ioS_pos h (Option.map_eq_none_iff.mp q)
theorem back_get : ∀ {io : List Bool} {xs : List Val} {fin env : Env} {i : Nat}, (ioS io xs).Nodup → fin.length = xs.length → (back io xs fin env)[i]? = match posOf io xs i with | some j => env[i]?.bind fun _ => fin[j]? | none => env[i]?
  | _, [], fin, env, i, _, h => by
    cases fin <;> simp [back, posOf]
  | io, x :: xs, [], env, i, _, h => by simp at h
  | io, x :: xs, o :: fin, env, i, nd, h => by
    have h' : fin.length = xs.length := by simpa using h
    unfold back
    unfold ioS at nd
    split
    · rename_i j e1 e2
      rw [e1, e2] at nd
      have nd := List.nodup_cons.mp nd
      rw [back_get nd.2 h', posOf_sl e1 e2]
      by_cases hi : j = i
      · subst hi
        rw [if_pos rfl, posOf_none nd.1]
        by_cases hl : j < env.length
        · simp [List.getElem?_set_self hl, List.getElem?_eq_getElem hl]
        · rw [List.getElem?_eq_none (by simpa using hl), List.getElem?_eq_none (Nat.le_of_not_lt hl)]; rfl
      · rw [if_neg hi, List.getElem?_set_ne hi]
        cases posOf io.tail xs i <;> simp
    · rename_i hn
      rw [posOf_ne hn]
      have nd' : (ioS io.tail xs).Nodup := by
        split at nd
        · exact (List.nodup_cons.mp nd).2
        · exact nd
      rw [back_get nd' h']
      cases posOf io.tail xs i <;> simp
theorem prepL_at : ∀ {io : List Bool} {xs : List Val} {env : Env} {ps : List Sl}, prepL io xs env = some ps → ps.length = xs.length ∧ ∀ j s, ps[j]? = some s → ∃ x, xs[j]? = some x ∧
    ((∃ i, io.getD j false = true ∧ x.p = .sl i ∧ env[i]? = some (some s) ∧ s.own = true) ∨ ((x.p = .fr ∨ io.getD j false = false) ∧ s = ⟨x.k, decide (x.p = .fr), x.d⟩))
  | _, [], _, ps, h => by
    simp [prepL] at h; subst h
    exact ⟨rfl, fun j s h => by simp at h⟩
  | io, x :: xs, env, ps, h => by
    have step : ∀ s0 (hs : ((∃ i, io.getD 0 false = true ∧ x.p = .sl i ∧ env[i]? = some (some s0) ∧ s0.own = true) ∨ ((x.p = .fr ∨ io.getD 0 false = false) ∧ s0 = ⟨x.k, decide (x.p = .fr), x.d⟩))),
        (prepL io.tail xs env).map (s0 :: ·) = some ps → ps.length = (x :: xs).length ∧ ∀ j s, ps[j]? = some s → ∃ y, (x :: xs)[j]? = some y ∧
        ((∃ i, io.getD j false = true ∧ y.p = .sl i ∧ env[i]? = some (some s) ∧ s.own = true) ∨ ((y.p = .fr ∨ io.getD j false = false) ∧ s = ⟨y.k, decide (y.p = .fr), y.d⟩)) := fun s0 hs h => by
      obtain ⟨qs, hq, rfl⟩ := Option.map_eq_some_iff.mp h
      obtain ⟨i1, i2⟩ := prepL_at hq
      refine ⟨by simp [i1], fun j s hj => ?_⟩
      cases j with
      | zero => simp at hj; subst hj; exact ⟨x, rfl, hs⟩
      | succ j =>
        obtain ⟨y, h1, h2⟩ := i2 j s (by simpa using hj)
        refine ⟨y, by simpa using h1, ?_⟩
        rw [getD_tail] at h2
        exact h2
    unfold prepL at h
    split at h
    · rename_i e1
      rw [headD_getD] at e1
      split at h
      · rename_i i e2
        split at h
        · rename_i s e3
          split at h
          · rename_i e4
            exact step s (.inl ⟨i, e1, e2, e3, e4⟩) h
          · cases h
        · cases h
      · rename_i e2
        exact step _ (.inr ⟨.inl e2, by rw [e2]; rfl⟩) h
      · cases h
    · rename_i e1
      rw [headD_getD] at e1
      exact step _ (.inr ⟨.inr e1, rfl⟩) h
theorem roS_mem : ∀ {io : List Bool} {xs : List Val} {j : Nat} {x : Val}, io.getD j false = false → xs[j]? = some x → x ∈ roS io xs
  | _, [], _, _, _, h => by simp at h
  | io, y :: xs, 0, x, h1, h2 => by
    simp at h2; subst h2
    unfold roS
    rw [headD_getD, h1]
    exact List.mem_cons_self
  | io, y :: xs, j + 1, x, h1, h2 => by
    have := roS_mem (io := io.tail) (xs := xs) (j := j) (by rw [getD_tail]; exact h1) (by simpa using h2)
    unfold roS
    split
    · exact this
    · exact List.mem_cons_of_mem _ this

/-- how a call ends: what may have changed -/
structure CallEnd (io : List Bool) (H : Hp) (ps : Env) (fps : Nat → List Addr) (H' : Hp) (fin : Env) (fps' : Nat → List Addr) : Prop where
  keep : ∀ a o, H a = some o → ¬ OwnA [] ps fps a → NT o → H' a = some o
  fix : ∀ a o, H a = some o → Fixed o → H' a = some o
  alv : ∀ a, H a ≠ none → H' a ≠ none
  own : ∀ i s', fin[i]? = some (some s') → ∀ a ∈ fps' i, OwnA [] ps fps a ∨ H a = none ∨ a ∈ fps i
  msk : ∀ i s, fin[i]? = some (some s) → io.getD i false = true
/-- a function's promise, by what the table says -/
def spI (K : PySem.W.Frag) (xc : Str → Value) (T : Tab) (f : Str) : Sp := fun vs H Q E => ∃ (ps : List Sl) (fps : Nat → List Addr), ER K H (vs.map some) (ps.map some) fps ∧ match T.fn f ps with
  | .ok r => ∀ v H' fps' fp, CallEnd (T.io f) H (ps.map some) fps H' r.2 fps' → ER K H' (vs.map some) r.2 fps' → (r.1.p = .fr ∨ r.1.p = .sh) → VOk K H' (vs.map some) r.2 fps' v r.1 fp → Bnd [] H (ps.map some) fps r.1 fp → Q v H'
  | .ex n fin => ∀ H' fps', CallEnd (T.io f) H (ps.map some) fps H' fin fps' → ER K H' (vs.map some) fin fps' → E (xc n) none H'
  | .no => False

section
variable {K : PySem.W.Frag} {H H0 H1 H2 H3 H' : Hp} {σ : St} {env env1 fin : Env} {fps fps1 fps' : Nat → List Addr} {L : List Nat} {xs : List Val} {vs : List V} {fpl : List (List Addr)} {io : List Bool} {ps : List Sl}
/-- the footprints of a call's parameters -/
def gfA (io : List Bool) (xs : List Val) (fpl : List (List Addr)) (fps1 : Nat → List Addr) (j : Nat) : List Addr := match io.getD j false, (xs[j]?).map Val.p with
  | true, some (Pv.sl i) => fps1 i
  | _, _ => fpl[j]?.getD []
theorem arg_at (hp : prepL io xs env1 = some ps) (hV : VsOk K H1 σ env1 fps1 io vs xs fpl) {j : Nat} {s : Sl} (hj : (ps.map some)[j]? = some (some s)) : ∃ x v fp, xs[j]? = some x ∧ vs[j]? = some v ∧ fpl[j]? = some fp ∧
    ((∃ i, io.getD j false = true ∧ x.p = .sl i ∧ env1[i]? = some (some s) ∧ s.own = true ∧ σ[i]? = some (some v) ∧ gfA io xs fpl fps1 j = fps1 i) ∨
      ((x.p = .fr ∨ io.getD j false = false) ∧ s = ⟨x.k, decide (x.p = .fr), x.d⟩ ∧ VOk K H1 σ env1 fps1 v x fp ∧ gfA io xs fpl fps1 j = fp)) := by
  rw [List.getElem?_map] at hj
  cases e : ps[j]? with
  | none => rw [e] at hj; cases hj
  | some s' =>
    rw [e] at hj
    cases hj
    obtain ⟨x, h1, h2⟩ := (prepL_at hp).2 j s e
    obtain ⟨v, fp, h3, h4, h5⟩ := hV.at h1
    refine ⟨x, v, fp, h1, h3, h4, ?_⟩
    rcases h2 with ⟨i, a1, a2, a3, a4⟩ | ⟨a1, a2⟩
    · refine .inl ⟨i, a1, a2, a3, a4, ?_, ?_⟩
      · rw [a1] at h5
        unfold VArg at h5
        rw [a2] at h5
        exact h5
      · unfold gfA
        rw [a1, h1]
        simp [a2]
    · refine .inr ⟨a1, a2, ?_, ?_⟩
      · unfold VArg at h5
        split at h5
        · rename_i i b1 b2
          rcases a1 with a1 | a1
          · rw [a1] at b2; cases b2
          · rw [a1] at b1; cases b1
        · exact h5
      · unfold gfA
        rw [h1, h4]
        split
        · rename_i i b1 b2
          simp at b2
          rcases a1 with a1 | a1
          · rw [a1] at b2; cases b2
          · rw [a1] at b1; cases b1
        · rfl
structure PrepOk (L : List Nat) (io : List Bool) (xs : List Val) (env1 : Env) (ps : List Sl) : Prop where
  nd : (ioS io xs).Nodup
  free : ∀ i ∈ ioS io xs, i ∉ L ∧ i ∉ slots (roS io xs)
  get : prepL io xs env1 = some ps
theorem prep_ok (h : prep L io xs env1 = some ps) : PrepOk L io xs env1 ps := by
  unfold prep at h
  split at h
  · rename_i hc
    simp only [Bool.and_eq_true, decide_eq_true_eq, List.all_eq_true] at hc
    exact ⟨hc.1, fun i hi => hc.2 i hi, h⟩
  · cases h
theorem VsOk.apartAt : ∀ {io : List Bool} {vs : List V} {xs : List Val} {fpl : List (List Addr)}, VsOk K H σ env fps io vs xs fpl → ∀ {j l : Nat} {x y : Val} {fp fq : List Addr}, j ≠ l → xs[j]? = some x → xs[l]? = some y → fpl[j]? = some fp → fpl[l]? = some fq → Ap x.p y.p → ∀ a ∈ fp, a ∉ fq
  | io, [], [], [], _, j, l, _, _, _, _, _, h, _, _, _, _ => by simp at h
  | io, v :: vs, x :: xs, fp :: fpl, h, 0, 0, _, _, _, _, n, _, _, _, _, _ => absurd rfl n
  | io, v :: vs, x :: xs, fp :: fpl, h, 0, l + 1, x', y, fp', fq, n, h1, h2, h3, h4, hp => by
    simp at h1 h3; subst h1 h3
    exact h.2.1 l y fq (by simpa using h2) (by simpa using h4) hp
  | io, v :: vs, x :: xs, fp :: fpl, h, j + 1, 0, x', y, fp', fq, n, h1, h2, h3, h4, hp => by
    simp at h2 h4; subst h2 h4
    intro a ha hb
    refine h.2.1 j x' fp' (by simpa using h1) (by simpa using h3) ?_ a hb ha
    rcases hp with ⟨p1, p2 | p2⟩ | ⟨p1, p2⟩
    · exact .inl ⟨p2, .inl p1⟩
    · exact .inr ⟨p2, p1⟩
    · exact .inl ⟨p2, .inr p1⟩
  | io, v :: vs, x :: xs, fp :: fpl, h, j + 1, l + 1, x', y, fp', fq, n, h1, h2, h3, h4, hp => VsOk.apartAt h.2.2 (j := j) (l := l) (by omega) (by simpa using h1) (by simpa using h2) (by simpa using h3) (by simpa using h4) hp
  | _, [], _ :: _, _, h, _, _, _, _, _, _, _, _, _, _, _, _ => by cases h
  | _, [], [], _ :: _, h, _, _, _, _, _, _, _, _, _, _, _, _ => by cases h
  | _, _ :: _, [], _, h, _, _, _, _, _, _, _, _, _, _, _, _ => by cases h
  | _, _ :: _, _ :: _, [], h, _, _, _, _, _, _, _, _, _, _, _, _ => by cases h
/-- the parameters stand as slots of the callee -/
theorem call_in (R1 : ER K H1 σ env1 fps1) (p : PrepOk L io xs env1 ps) (hV : VsOk K H1 σ env1 fps1 io vs xs fpl) : ER K H1 (vs.map some) (ps.map some) (gfA io xs fpl fps1) := by
  have hl := (prepL_at p.get).1
  refine ⟨by rw [List.length_map, List.length_map, hl, hV.len.1], fun j s hj => ?_, fun j s hj o => ?_, fun j l s t n hj o hl' a ha hb => ?_, R1.tb⟩
  · obtain ⟨x, v, fp, h1, h2, h3, ⟨i, a1, a2, a3, a4, a5, a6⟩ | ⟨a1, a2, a3, a4⟩⟩ := arg_at p.get hV hj
    · obtain ⟨v', b1, b2, b3⟩ := R1.val i s a3
      rw [a5] at b1; cases b1
      exact ⟨v, by rw [List.getElem?_map, h2]; rfl, by rw [a6]; exact b2, b3⟩
    · subst a2
      exact ⟨v, by rw [List.getElem?_map, h2]; rfl, by rw [a4]; exact a3.den R1, a3.kd⟩
  · obtain ⟨x, v, fp, h1, h2, h3, ⟨i, a1, a2, a3, a4, a5, a6⟩ | ⟨a1, a2, a3, a4⟩⟩ := arg_at p.get hV hj
    · rw [a6]; exact R1.nd i s a3 o
    · subst a2
      have hx : x.p = .fr := by simpa using o
      rw [a4]
      obtain ⟨k, q, d⟩ := x
      cases hx
      exact a3.2.2.1
  · obtain ⟨x, v, fp, h1, h2, h3, c1⟩ := arg_at p.get hV hj
    obtain ⟨y, w, fq, g1, g2, g3, c2⟩ := arg_at p.get hV hl'
    rcases c1 with ⟨i, a1, a2, a3, a4, a5, a6⟩ | ⟨a1, a2, a3, a4⟩ <;> rcases c2 with ⟨k, b1, b2, b3, b4, b5, b6⟩ | ⟨b1, b2, b3, b4⟩
    · rw [a6] at ha
      rw [b6] at hb
      have hik : i ≠ k := fun z => n (by subst z; exact ioS_uniq p.nd a1 h1 a2 b1 g1 b2)
      exact R1.dj i k s t hik a3 a4 b3 a ha hb
    · rw [a6] at ha
      rw [b4] at hb
      have hi := p.free i (ioS_mem a1 h1 a2)
      have any : AnyA env1 fps1 a := ⟨i, s, a3, ha⟩
      rcases b1 with b1 | b1
      · exact b3.fresh b1 a hb any
      · obtain ⟨k, q, d⟩ := y
        cases q with
        | fr => exact b3.fresh rfl a hb any
        | sh => exact b3.2.2 a hb i s a3 a4 ha
        | sl m =>
          have hm : m ∈ slots (roS io xs) := slots_has (roS_mem b1 g1) m (.inl rfl)
          obtain ⟨_, _, e2, e3⟩ := b3
          exact R1.dj i m s _ (fun z => hi.2 (z ▸ hm)) a3 a4 e2 a ha (by rw [← e3]; exact hb)
        | pt m =>
          have hm : m ∈ slots (roS io xs) := slots_has (roS_mem b1 g1) m (.inr rfl)
          obtain ⟨_, _, ⟨u, e2, _⟩, e3⟩ := b3
          exact R1.dj i m s _ (fun z => hi.2 (z ▸ hm)) a3 a4 e2 a ha (e3 a hb)
    · subst a2
      have hx : x.p = .fr := by simpa using o
      rw [a4] at ha
      rw [b6] at hb
      exact a3.fresh hx a ha ⟨k, t, b3, hb⟩
    · subst a2
      have hx : x.p = .fr := by simpa using o
      rw [a4] at ha
      rw [b4] at hb
      rcases b3.any with z | z | z
      · exact hV.apartAt n h1 g1 h3 g3 (.inl ⟨hx, .inl z⟩) a ha hb
      · exact hV.apartAt n h1 g1 h3 g3 (.inl ⟨hx, .inr z⟩) a ha hb
      · exact a3.fresh hx a ha (z a hb)
/-- an address that the callee may change: whose it is -/
theorem own_in (R : ER K H σ env fps) (S : Step L H env fps H1 env1 fps1) (R1 : ER K H1 σ env1 fps1) (p : PrepOk L io xs env1 ps) (hV : VsOk K H1 σ env1 fps1 io vs xs fpl) (hB : BndS L H env fps xs fpl) {a : Addr} (h : OwnA [] (ps.map some) (gfA io xs fpl fps1) a) :
    (OwnA L env fps a ∨ H a = none) ∧ H1 a ≠ none ∧ ((∃ i s, i ∈ ioS io xs ∧ env1[i]? = some (some s) ∧ s.own = true ∧ a ∈ fps1 i) ∨ ¬ AnyA env1 fps1 a) := by
  obtain ⟨j, ⟨_, s, hj, o⟩, ha⟩ := h
  obtain ⟨x, v, fp, h1, h2, h3, ⟨i, a1, a2, a3, a4, a5, a6⟩ | ⟨a1, a2, a3, a4⟩⟩ := arg_at p.get hV hj
  · rw [a6] at ha
    have hi := ioS_mem a1 h1 a2
    exact ⟨S.ownBack ⟨i, ⟨(p.free i hi).1, s, a3, a4⟩, ha⟩, R1.ne ⟨i, s, a3, ha⟩, .inl ⟨i, s, hi, a3, a4, ha⟩⟩
  · subst a2
    have hx : x.p = .fr := by simpa using o
    rw [a4] at ha
    have hb := hB.get h1 h3
    refine ⟨?_, ?_, .inr (a3.fresh hx a ha)⟩
    · obtain ⟨k, q, d⟩ := x
      cases hx
      exact hb a ha
    · obtain ⟨o', e, _⟩ := (a3.den R1).there a ha
      rw [e]; simp

/-- the caller's footprints behind the call -/
def fpsB (io : List Bool) (xs : List Val) (fin : Env) (fps1 fps' : Nat → List Addr) (i : Nat) : List Addr := match posOf io xs i with
  | some j => match fin[j]? with
    | some (some _) => fps' j
    | _ => []
  | none => fps1 i
theorem back_at (nd : (ioS io xs).Nodup) (hl : fin.length = xs.length) {i : Nat} {s : Sl} (h : (back io xs fin env1)[i]? = some (some s)) :
    (posOf io xs i = none ∧ env1[i]? = some (some s) ∧ fpsB io xs fin fps1 fps' i = fps1 i) ∨ ∃ j x, posOf io xs i = some j ∧ fin[j]? = some (some s) ∧ xs[j]? = some x ∧ x.p = .sl i ∧ io.getD j false = true ∧ fpsB io xs fin fps1 fps' i = fps' j := by
  rw [back_get nd hl] at h
  cases e : posOf io xs i with
  | none =>
    rw [e] at h
    refine .inl ⟨rfl, h, ?_⟩
    unfold fpsB; rw [e]
  | some j =>
    rw [e] at h
    obtain ⟨g1, x, g2, g3⟩ := posOf_some e
    cases e' : env1[i]? with
    | none => rw [e'] at h; cases h
    | some o =>
      rw [e'] at h
      have h : fin[j]? = some (some s) := h
      refine .inr ⟨j, x, rfl, h, g2, g3, g1, ?_⟩
      unfold fpsB; rw [e]; simp only; rw [h]
theorem call_step (R : ER K H σ env fps) (S : Step L H env fps H1 env1 fps1) (R1 : ER K H1 σ env1 fps1) (p : PrepOk L io xs env1 ps) (hV : VsOk K H1 σ env1 fps1 io vs xs fpl) (hB : BndS L H env fps xs fpl)
    (C : CallEnd io H1 (ps.map some) (gfA io xs fpl fps1) H' fin fps') (RE : ER K H' (vs.map some) fin fps') : Step L H env fps H' (back io xs fin env1) (fpsB io xs fin fps1 fps') := by
  have hl : fin.length = xs.length := by rw [← RE.len, List.length_map, hV.len.1]
  have oi := fun {a : Addr} (h : OwnA [] (ps.map some) (gfA io xs fpl fps1) a) => own_in R S R1 p hV hB h
  refine ⟨fun a o e n nt => ?_, fun a o e f => C.fix a o (S.fix a o e f) f, fun i n => ?_, fun i u a ha => ?_, fun a h => C.alv a (S.alv a h)⟩
  · refine C.keep a o (S.keep a o e n nt) (fun q => ?_) nt
    rcases (oi q).1 with z | z
    · exact n z
    · rw [e] at z; cases z
  · obtain ⟨e1, e2⟩ := S.oth i n
    have hni : i ∉ ioS io xs := fun hi => by
      apply n
      refine S.unl ⟨(p.free i hi).1, ?_⟩
      obtain ⟨j, hj⟩ : ∃ j, posOf io xs i = some j := Option.ne_none_iff_exists'.mp (ioS_pos hi)
      obtain ⟨g1, x, g2, g3⟩ := posOf_some hj
      have hjl : j < ps.length := by rw [(prepL_at p.get).1]; exact (List.getElem?_eq_some_iff.mp g2).1
      obtain ⟨x', h1, h2⟩ := (prepL_at p.get).2 j ps[j] (List.getElem?_eq_getElem hjl)
      rw [g2] at h1; cases h1
      rcases h2 with ⟨i', a1, a2, a3, a4⟩ | ⟨a1, a2⟩
      · rw [g3] at a2; cases a2
        exact ⟨_, a3, a4⟩
      · rcases a1 with a1 | a1
        · rw [g3] at a1; cases a1
        · rw [g1] at a1; cases a1
    have hpn := posOf_none hni
    rw [back_get p.nd hl, hpn]
    refine ⟨e1, ?_⟩
    unfold fpsB; rw [hpn]; exact e2
  · unfold fpsB at ha
    cases e : posOf io xs i with
    | none => rw [e] at ha; exact S.own i u a ha
    | some j =>
      rw [e] at ha
      obtain ⟨g1, x, g2, g3⟩ := posOf_some e
      simp only at ha
      split at ha
      · rename_i s' hs
        rcases C.own j s' hs a ha with z | z | z
        · exact (oi z).1
        · exact S.noneBack (fun _ z => R.ne z.toAny) z
        · have : gfA io xs fpl fps1 j = fps1 i := by unfold gfA; rw [g1, g2]; simp [g3]
          rw [this] at z
          exact S.own i u a z
      · cases ha
theorem call_out (R : ER K H σ env fps) (S : Step L H env fps H1 env1 fps1) (R1 : ER K H1 σ env1 fps1) (p : PrepOk L io xs env1 ps) (hV : VsOk K H1 σ env1 fps1 io vs xs fpl) (hB : BndS L H env fps xs fpl)
    (C : CallEnd io H1 (ps.map some) (gfA io xs fpl fps1) H' fin fps') (RE : ER K H' (vs.map some) fin fps') : ER K H' σ (back io xs fin env1) (fpsB io xs fin fps1 fps') := by
  have hl : fin.length = xs.length := by rw [← RE.len, List.length_map, hV.len.1]
  have oi := fun {a : Addr} (h : OwnA [] (ps.map some) (gfA io xs fpl fps1) a) => own_in R S R1 p hV hB h
  -- what the callee may change is in no slot that it was not given
  have keepN : ∀ {i : Nat} {s : Sl} {a : Addr}, posOf io xs i = none → env1[i]? = some (some s) → a ∈ fps1 i → ¬ OwnA [] (ps.map some) (gfA io xs fpl fps1) a := fun {i s a} hp e ha q => by
    rcases (oi q).2.2 with ⟨k, t, hk, et, ot, hb⟩ | z
    · have hne : k ≠ i := fun z => by
        subst z
        exact ioS_pos hk hp
      exact R1.dj k i t s hne et ot e a hb ha
    · exact z ⟨i, s, e, ha⟩
  -- what stands in a slot that came back is of none other
  have newN : ∀ {i j : Nat} {s s' : Sl} {a : Addr} {x : Val}, posOf io xs i = none → env1[i]? = some (some s) → a ∈ fps1 i → fin[j]? = some (some s') → xs[j]? = some x → io.getD j false = true → (∃ k, x.p = .sl k) → a ∉ fps' j := fun {i j s s' a x} hp e ha hs hx hio ⟨k, hk⟩ hb => by
    rcases C.own j s' hs a hb with z | z | z
    · exact keepN hp e ha z
    · exact R1.ne ⟨i, s, e, ha⟩ z
    · have hjl : j < ps.length := by rw [(prepL_at p.get).1]; exact (List.getElem?_eq_some_iff.mp hx).1
      obtain ⟨x', h1, h2⟩ := (prepL_at p.get).2 j ps[j] (List.getElem?_eq_getElem hjl)
      rw [hx] at h1; cases h1
      rcases h2 with ⟨i', a1, a2, a3, a4⟩ | ⟨a1, a2⟩
      · refine keepN hp e ha ⟨j, ⟨List.not_mem_nil, ps[j], by rw [List.getElem?_map, List.getElem?_eq_getElem hjl]; rfl, a4⟩, z⟩
      · rcases a1 with a1 | a1
        · rw [hk] at a1; cases a1
        · rw [hio] at a1; cases a1
  refine ⟨by rw [back_len]; exact R1.len, fun i s e => ?_, fun i s e o => ?_, fun i l s t n e o e' a ha hb => ?_, RE.tb⟩
  · rcases back_at (fps1 := fps1) (fps' := fps') p.nd hl e with ⟨h1, h2, h3⟩ | ⟨j, x, h1, h2, h3, h4, h5, h6⟩
    · obtain ⟨v, g1, g2, g3⟩ := R1.val i s h2
      rw [h3]
      exact ⟨v, g1, g2.stay C.fix fun a ha o e nt => C.keep a o e (keepN h1 h2 ha) nt, g3⟩
    · obtain ⟨v, g1, g2, g3⟩ := RE.val j s h2
      obtain ⟨u, fq, k1, k2, k3⟩ := hV.at h3
      rw [List.getElem?_map, k1] at g1
      cases g1
      rw [h6]
      refine ⟨v, ?_, g2, g3⟩
      rw [h5] at k3
      unfold VArg at k3
      rw [h4] at k3
      exact k3
  · rcases back_at (fps1 := fps1) (fps' := fps') p.nd hl e with ⟨h1, h2, h3⟩ | ⟨j, x, h1, h2, h3, h4, h5, h6⟩
    · rw [h3]; exact R1.nd i s h2 o
    · rw [h6]; exact RE.nd j s h2 o
  · rcases back_at (fps1 := fps1) (fps' := fps') p.nd hl e with ⟨h1, h2, h3⟩ | ⟨j, x, h1, h2, h3, h4, h5, h6⟩ <;> rcases back_at (fps1 := fps1) (fps' := fps') p.nd hl e' with ⟨g1, g2, g3⟩ | ⟨j', y, g1, g2, g3, g4, g5, g6⟩
    · rw [h3] at ha; rw [g3] at hb
      exact R1.dj i l s t n h2 o g2 a ha hb
    · rw [h3] at ha; rw [g6] at hb
      exact newN h1 h2 ha g2 g3 g5 ⟨_, g4⟩ hb
    · rw [h6] at ha; rw [g3] at hb
      exact newN g1 g2 hb h2 h3 h5 ⟨_, h4⟩ ha
    · rw [h6] at ha; rw [g6] at hb
      refine RE.dj j j' s t (fun z => n ?_) h2 o g2 a ha hb
      subst z
      rw [h3] at g3; cases g3
      rw [h4] at g4; cases g4; rfl
end

section
variable {X : Cx} {xc : Str → Value} {T : Tab} {W : WX} {cs : List CE} {f : Str}
theorem call_red {K : PySem.W.Frag} {σ : St} {H : Hp} {Q : VK} (h : tI K xc T W (.call f cs) σ H Q) : tA K xc T W (T.io f) cs σ H fun vs H1 => spI K xc T f vs H1 Q fun c d H' => W c d σ H' := by
  obtain ⟨L, env, fps, R, P⟩ := h
  simp only [ev] at P
  refine tA.bind (self_sub L) R P fun xs env1 vs H1 fps1 fpl S1 R1 V1 B1 P1 => ?_
  cases e : prep L (T.io f) xs env1 with
  | none => simp only [e] at P1; exact P1.elim
  | some ps =>
    simp only [e, Iv.R.of, Iv.R.bind] at P1
    have p := prep_ok e
    refine ⟨ps, gfA (T.io f) xs fpl fps1, call_in R1 p V1, ?_⟩
    cases er : T.fn f ps with
    | no => rw [er] at P1; exact P1.elim
    | ex n fin => rw [er] at P1; exact fun H' fps' C RE => P1 H' _ (call_step R S1 R1 p V1 B1 C RE) (call_out R S1 R1 p V1 B1 C RE)
    | ok r =>
      obtain ⟨x, fin⟩ := r
      rw [er] at P1
      intro v H' fps' fp C RE hp V B
      have SB := call_step R S1 R1 p V1 B1 C RE
      have RB := call_out R S1 R1 p V1 B1 C RE
      have hl : fin.length = xs.length := by rw [← RE.len, List.length_map, V1.len.1]
      have oi := fun {a : Addr} (h : OwnA [] (ps.map some) (gfA (T.io f) xs fpl fps1) a) => own_in R S1 R1 p V1 B1 h
      have none1 : ∀ {a : Addr}, H1 a = none → OwnA L env fps a ∨ H a = none := fun {a} h => S1.noneBack (fun _ z => R.ne z.toAny) h
      obtain ⟨k, q, d⟩ := x
      rcases hp with hp | hp
      · cases hp
        simp only [if_true] at P1
        refine P1 v H' _ fp SB RB ⟨V.1, V.2.1, V.2.2.1, fun a ha ⟨i, s, ei, hi⟩ => ?_⟩ fun a ha => (B a ha).elim (fun z => (oi z).1) none1
        rcases back_at (fps1 := fps1) (fps' := fps') p.nd hl ei with ⟨h1, h2, h3⟩ | ⟨j, x, h1, h2, h3, h4, h5, h6⟩
        · rw [h3] at hi
          rcases B a ha with z | z
          · -- own of the callee, and in a slot that stayed
            rcases (oi z).2.2 with ⟨m, t, hm, et, ot, hb⟩ | z
            · by_cases hmi : m = i
              · subst hmi
                exact ioS_pos hm h1
              · exact R1.dj m i t s hmi et ot h2 a hb hi
            · exact z ⟨i, s, h2, hi⟩
          · exact R1.ne ⟨i, s, h2, hi⟩ z
        · rw [h6] at hi
          exact V.2.2.2 a ha ⟨j, s, h2, hi⟩
      · cases hp
        simp only [reduceCtorEq, if_false] at P1
        cases ee : esc L (roS (T.io f) xs) (back (T.io f) xs fin env1) with
        | none => rw [ee] at P1; exact P1.elim
        | some z =>
          rw [ee] at P1
          unfold esc at ee
          split at ee
          · rename_i hL
            have hL' : ∀ i ∈ slots (roS (T.io f) xs), i ∉ L := fun i hi => of_decide_eq_true (List.all_eq_true.mp hL i hi)
            cases ee
            refine P1 v H' _ fp (SB.trans R (dis_Step hL')) (dis_ER RB) ⟨V.1, V.2.1, fun a ha i s ei oi' hi => ?_⟩ fun a ha => ?_
            · obtain ⟨t, et, _, _, ht⟩ := dis_some ei
              obtain ⟨ot, hni, _⟩ := ht oi'
              rcases back_at (fps1 := fps1) (fps' := fps') p.nd hl et with ⟨h1, h2, h3⟩ | ⟨j, x, h1, h2, h3, h4, h5, h6⟩
              · rw [h3] at hi
                rcases B a ha with ⟨j, s', hj, hb⟩ | z
                · obtain ⟨x, u, fx, g1, g2, g3, ⟨m, a1, a2, a3, a4, a5, a6⟩ | ⟨a1, a2, a3, a4⟩⟩ := arg_at p.get V1 hj
                  · rw [a6] at hb
                    exact R1.dj i m t s' (fun z => ioS_pos (ioS_mem a1 g1 a2) (z ▸ h1)) h2 ot a3 a hi hb
                  · rw [a4] at hb
                    rcases a1 with a1 | a1
                    · exact a3.fresh a1 a hb ⟨i, t, h2, hi⟩
                    · obtain ⟨kx, qx, dx⟩ := x
                      cases qx with
                      | fr => exact a3.fresh rfl a hb ⟨i, t, h2, hi⟩
                      | sh => exact a3.2.2 a hb i t h2 ot hi
                      | sl m =>
                        have hm : m ∈ slots (roS (T.io f) xs) := slots_has (roS_mem a1 g1) m (.inl rfl)
                        obtain ⟨_, _, e2, e3⟩ := a3
                        exact R1.dj i m t _ (fun z => hni (z ▸ hm)) h2 ot e2 a hi (by rw [← e3]; exact hb)
                      | pt m =>
                        have hm : m ∈ slots (roS (T.io f) xs) := slots_has (roS_mem a1 g1) m (.inr rfl)
                        obtain ⟨_, _, ⟨u', e2, _⟩, e3⟩ := a3
                        exact R1.dj i m t _ (fun z => hni (z ▸ hm)) h2 ot e2 a hi (e3 a hb)
                · exact R1.ne ⟨i, t, h2, hi⟩ z
              · rw [h6] at hi
                exact V.2.2 a ha j t h2 ot hi
            · rcases B a ha with ⟨j, s', hj, hb⟩ | z
              · obtain ⟨x, u, fx, g1, g2, g3, ⟨m, a1, a2, a3, a4, a5, a6⟩ | ⟨a1, a2, a3, a4⟩⟩ := arg_at p.get V1 hj
                · rw [a6] at hb
                  exact S1.anyBack ⟨m, s', a3, hb⟩
                · rw [a4] at hb
                  have bb := B1.get g1 g3
                  rcases a3.any with z | z | z
                  · obtain ⟨kx, qx, dx⟩ := x
                    cases z
                    exact (bb a hb).imp (fun z => z.toAny) id
                  · obtain ⟨kx, qx, dx⟩ := x
                    cases z
                    exact bb a hb
                  · exact S1.anyBack (z a hb)
              · exact (none1 z).imp (fun z => z.toAny) id
          · cases ee
end
end Iv

set_option maxRecDepth 100000
set_option maxHeartbeats 2000000
/-! IvL: things changed in place. -/
namespace Iv
open PySem L2
variable [Tbl]

section
variable {K : PySem.W.Frag} {H H0 H1 H2 H' : Hp} {σ : St} {env env0 env1 env' : Env} {fps fps0 fps1 : Nat → List Addr} {L L' : List Nat} {v w : V} {x y : Val} {fp fq : List Addr}
theorem DenL.pick : ∀ {vs : List V} {ds : List PyData} {fp : List Addr}, DenL K H vs ds fp → ∀ {j : Nat} {d : PyData}, ds[j]? = some d → ∃ v1 w v2 d1 d2 f1 fq f2, vs = v1 ++ w :: v2 ∧ ds = d1 ++ d :: d2 ∧ v1.length = j ∧ d1.length = j ∧ fp = f1 ++ (fq ++ f2) ∧
    DenL K H v1 d1 f1 ∧ Den K H w d fq ∧ DenL K H v2 d2 f2
  | _, _, _, .nil, j, d, h => by simp at h
  | _, _, _, .cons (v := v) (vs := vs) (d := d0) (ds := ds) e l, 0, d, h => by
    simp at h; subst h
    exact ⟨[], v, vs, [], ds, [], _, _, rfl, rfl, rfl, rfl, rfl, .nil, e, l⟩
  | _, _, _, .cons (v := v) (d := d0) (fp := f0) e l, j + 1, d, h => by
    obtain ⟨v1, w, v2, d1, d2, f1, fq, f2, h1, h2, h3, h4, h5, h6, h7, h8⟩ := l.pick (j := j) (d := d) (by simpa using h)
    subst h1 h2 h5
    exact ⟨v :: v1, w, v2, d0 :: d1, d2, f0 ++ f1, fq, f2, rfl, rfl, by simp [h3], by simp [h4], by simp [List.append_assoc], .cons e h6, h7, h8⟩
theorem set_mid {α : Type} {l1 l2 : List α} {x y : α} {j : Nat} (h : l1.length = j) : (l1 ++ x :: l2).set j y = l1 ++ y :: l2 := by subst h; simp
theorem get_mid {α : Type} {l1 l2 : List α} {x : α} {j : Nat} (h : l1.length = j) : (l1 ++ x :: l2)[j]? = some x := by subst h; simp
theorem erase_mid {α : Type} {l1 l2 : List α} {x : α} {j : Nat} (h : l1.length = j) : (l1 ++ x :: l2).eraseIdx j = l1 ++ l2 := by subst h; simp [List.eraseIdx_append_of_length_le]
theorem dic_pick {s : Str} {e : PyData × PyData} : ∀ {kvs : List (Key × V)} {es : List (PyData × PyData)} {fp : List Addr} {j : Nat}, es.map (·.1) = kvs.map (fun p => keyD p.1) → DenL K H (kvs.map (·.2)) (es.map (·.2)) fp → es.findIdx? (fun e => PyData.eqv e.1 (.str s)) = some j → es[j]? = some e →
    ∃ k1 w k2 e1 e2 f1 fq f2, kvs = k1 ++ (Sum.inr s, w) :: k2 ∧ es = e1 ++ e :: e2 ∧ k1.length = j ∧ e1.length = j ∧ fp = f1 ++ (fq ++ f2) ∧ e.1 = .str s ∧ e1.map (·.1) = k1.map (fun p => keyD p.1) ∧ e2.map (·.1) = k2.map (fun p => keyD p.1) ∧
      DenL K H (k1.map (·.2)) (e1.map (·.2)) f1 ∧ Den K H w e.2 fq ∧ DenL K H (k2.map (·.2)) (e2.map (·.2)) f2 ∧ ∀ p ∈ k1, p.1 ≠ Sum.inr s
  | kvs, [], _, j, _, _, h, _ => by simp at h
  | [], a :: es, _, j, hk, _, _, _ => by cases hk
  | kv :: kvs, a :: es, fp, j, hk, l, h, hj => by
    simp only [List.map_cons, List.cons.injEq] at hk l
    generalize hfp : fp = fp0 at l
    cases l with
    | cons d0 l0 =>
      rename_i f0 fr
      subst hfp
      rw [List.findIdx?_cons, hk.1, keyD_str] at h
      by_cases q : kv.1 = Sum.inr s
      · rw [decide_eq_true q] at h
        simp only [if_true, Option.some.injEq] at h
        subst h
        simp at hj; subst hj
        refine ⟨[], kv.2, kvs, [], es, [], f0, fr, ?_, rfl, rfl, rfl, rfl, ?_, rfl, hk.2, .nil, d0, l0, fun _ h => nomatch h⟩
        · rw [← q]; rfl
        · rw [hk.1, q]; rfl
      · rw [decide_eq_false q] at h
        simp only [Bool.false_eq_true, if_false, Option.map_eq_some_iff] at h
        obtain ⟨j', h, rfl⟩ := h
        obtain ⟨k1, w, k2, e1, e2, f1, fq, f2, h1, h2, h3, h4, h5, h6, h7, h8, h9, h10, h11, h12⟩ := dic_pick hk.2 l0 h (by simpa using hj)
        subst h1 h2 h5
        refine ⟨kv :: k1, w, k2, a :: e1, e2, f0 ++ f1, fq, f2, rfl, rfl, by simp [h3], by simp [h4], by simp [List.append_assoc], h6, by simp [hk.1, h7], h8, .cons d0 h9, h10, h11, fun p hp => ?_⟩
        rcases List.mem_cons.mp hp with z | z
        · rw [z]; exact q
        · exact h12 p z
theorem val_mid {k1 k2 : List (Key × V)} {s : Str} {w : V} (h : ∀ p ∈ k1, p.1 ≠ Sum.inr s) : valV (k1 ++ (Sum.inr s, w) :: k2) (Sum.inr s) = some w := by
  induction k1 with
  | nil => exact valV_pos rfl
  | cons p k1 ih =>
    rw [List.cons_append, valV_neg (h p List.mem_cons_self)]
    exact ih fun q hq => h q (List.mem_cons_of_mem _ hq)
theorem put_mid {k1 k2 : List (Key × V)} {s : Str} {w u : V} (h : ∀ p ∈ k1, p.1 ≠ Sum.inr s) (h2 : ∀ p ∈ k2, p.1 ≠ Sum.inr s) : putK (k1 ++ (Sum.inr s, w) :: k2) (Sum.inr s) u = k1 ++ (Sum.inr s, u) :: k2 := by
  have same : ∀ {ks : List (Key × V)}, (∀ p ∈ ks, p.1 ≠ Sum.inr s) → ks.map (fun kv => if kv.1 = Sum.inr s then (kv.1, u) else kv) = ks := fun {ks} h => by
    induction ks with
    | nil => rfl
    | cons p ks ih => rw [List.map_cons, if_neg (h p List.mem_cons_self), ih fun q hq => h q (List.mem_cons_of_mem _ hq)]
  unfold putK
  rw [if_pos (by simp), List.map_append, List.map_cons, if_pos rfl, same h, same h2]

/-- one step of a path, by values -/
def StepV (H : Hp) (v : V) (k : V) (w : V) : Prop := (∃ a xs i, v = .ref a ∧ k = .int i ∧ H a = some (.lst xs) ∧ atI xs i = some w) ∨ ∃ a kvs s, v = .ref a ∧ k = .str s ∧ H a = some (.dK kvs) ∧ valV kvs (Sum.inr s) = some w
def WalkV (H : Hp) (v : V) : List V → V → Prop
  | [], w => w = v
  | [k], w => StepV H v k w
  | _, _ => False
theorem WalkV.same {ks : List V} {w w' : V} (h : WalkV H v ks w) (h' : WalkV H v ks w') : w = w' := by
  match ks, h, h' with
  | [], h, h' => exact h.trans h'.symm
  | [k], h, h' =>
    rcases h with ⟨a, xs, i, rfl, rfl, h1, h2⟩ | ⟨a, kvs, s, rfl, rfl, h1, h2⟩ <;> rcases h' with ⟨a', xs', i', e1, e2, g1, g2⟩ | ⟨a', kvs', s', e1, e2, g1, g2⟩ <;> cases e1 <;> cases e2 <;> rw [h1] at g1 <;> cases g1 <;> rw [h2] at g2 <;> cases g2 <;> rfl
theorem WalkV.keep {ks : List V} {w : V} (h : WalkV H v ks w) (k : ∀ a o, v = .ref a → H a = some o → H' a = some o) : WalkV H' v ks w := by
  match ks, h with
  | [], h => exact h
  | [_], h =>
    rcases h with ⟨a, xs, i, rfl, rfl, h1, h2⟩ | ⟨a, kvs, s, rfl, rfl, h1, h2⟩
    · exact .inl ⟨a, xs, i, rfl, rfl, k a _ rfl h1, h2⟩
    · exact .inr ⟨a, kvs, s, rfl, rfl, k a _ rfl h1, h2⟩
/-- keys as data and as values -/
def KeysV (K : PySem.W.Frag) (H : Hp) : List V → List PyData → Prop
  | [], [] => True
  | [v], [d] => Den K H v d []
  | _, _ => False
/-- what a path leads to, and what the whole is when that has changed -/
theorem tgt {β : Type} {ks : List PyData} {kvs : List V} {d d' : PyData} {yy : β} {f : PyData → Option (PyData × β)} (hks : KeysV K H kvs ks) (h : Den K H v d fp) (nd : fp.Nodup) (e : atPath ks f d = some (d', yy)) :
    ∃ w d0 d0' fq, WalkV H v kvs w ∧ Den K H w d0 fq ∧ f d0 = some (d0', yy) ∧ fq.Nodup ∧ (∀ a ∈ fq, a ∈ fp) ∧ (ks ≠ [] → ∀ k, KdOk k d → sub1 k d0 = .imm → imm d0 = true) ∧ (ks = [] → d0 = d ∧ d0' = d' ∧ fq = fp) ∧ (ks ≠ [] → ∃ a, v = .ref a ∧ a ∈ fp) ∧
      ∀ (H' : Hp) (fr : List Addr), (∀ a o, H a = some o → a ∉ fq → H' a = some o) → Den K H' w d0' fr → fr.Nodup → (∀ a ∈ fr, a ∈ fq ∨ a ∉ fp) → ∃ fp', Den K H' v d' fp' ∧ fp'.Nodup ∧ ∀ a ∈ fp', a ∈ fr ∨ (a ∈ fp ∧ a ∉ fq) := by
  match ks, kvs, hks with
  | [], _ :: _, hks => simp [KeysV] at hks
  | _ :: _, [], hks => simp [KeysV] at hks
  | _ :: _ :: _, [_], hks => simp [KeysV] at hks
  | [_], _ :: _ :: _, hks => simp [KeysV] at hks
  | _ :: _ :: _, _ :: _ :: _, hks => simp [KeysV] at hks
  | [], [], _ =>
    exact ⟨v, d, d', fp, rfl, h, e, nd, fun _ h => h, fun h => absurd rfl h, fun _ => ⟨rfl, rfl, rfl⟩, fun h => absurd rfl h, fun H' fr _ hd hn _ => ⟨fr, hd, hn, fun a ha => .inl ha⟩⟩
  | [k], [kv], hks =>
    -- the rest stays
    have stay : ∀ {H' : Hp} {fq : List Addr} {w0 : V} {dd : PyData}, Den K H w0 dd fq → (∀ a o, H a = some o → a ∉ fq → H' a = some o) → ∀ {vs : List V} {ds : List PyData} {f1 : List Addr}, DenL K H vs ds f1 → (∀ a ∈ f1, a ∉ fq) → DenL K H' vs ds f1 := fun {H' fq w0 dd} hw k {vs ds f1} l hf =>
      l.stay (fun a o e f => k a o e fun z => by obtain ⟨o', e', nf⟩ := hw.there a z; rw [e] at e'; cases e'; exact nf f) fun a ha o e _ => k a o e (hf a ha)
    have nodup3 : ∀ {a : Addr} {f1 fq f2 fr : List Addr}, (a :: (f1 ++ (fq ++ f2))).Nodup → fr.Nodup → (∀ b ∈ fr, b ∈ fq ∨ b ∉ a :: (f1 ++ (fq ++ f2))) → (a :: (f1 ++ (fr ++ f2))).Nodup ∧ (∀ b ∈ a :: (f1 ++ (fr ++ f2)), b ∈ fr ∨ (b ∈ a :: (f1 ++ (fq ++ f2)) ∧ b ∉ fq)) ∧ a ∉ fq ∧ (∀ b ∈ f1, b ∉ fq) ∧ ∀ b ∈ f2, b ∉ fq := fun {a f1 fq f2 fr} hn hr hd => by
      rw [List.nodup_cons, List.nodup_append, List.nodup_append] at hn
      obtain ⟨n1, n2, ⟨n3, n4, n5⟩, n6⟩ := hn
      simp only [List.mem_append, not_or] at n1 n6
      have q1 : ∀ b ∈ f1, b ∉ fq := fun b hb hc => n6 b hb b (.inl hc) rfl
      have q2 : ∀ b ∈ f2, b ∉ fq := fun b hb hc => n5 b hc b hb rfl
      refine ⟨?_, ?_, n1.2.1, q1, q2⟩
      · rw [List.nodup_cons, List.nodup_append, List.nodup_append]
        refine ⟨?_, n2, ⟨hr, n4, fun b hb c hc e => ?_⟩, fun b hb c hc e => ?_⟩
        · simp only [List.mem_append, not_or]
          refine ⟨n1.1, fun q => ?_, n1.2.2⟩
          rcases hd a q with z | z
          · exact n1.2.1 z
          · exact z List.mem_cons_self
        · subst e
          rcases hd b hb with z | z
          · exact n5 b z b hc rfl
          · exact z (List.mem_cons_of_mem _ (List.mem_append_right _ (List.mem_append_right _ hc)))
        · subst e
          rcases List.mem_append.mp hc with z | z
          · rcases hd b z with y | y
            · exact n6 b hb b (.inl y) rfl
            · exact y (List.mem_cons_of_mem _ (List.mem_append_left _ hb))
          · exact n6 b hb b (.inr z) rfl
      · intro b hb
        simp only [List.mem_cons, List.mem_append] at hb ⊢
        rcases hb with rfl | hb | hb | hb
        · exact .inr ⟨.inl rfl, n1.2.1⟩
        · exact .inr ⟨.inr (.inl hb), q1 b hb⟩
        · exact .inl hb
        · exact .inr ⟨.inr (.inr (.inr hb)), q2 b hb⟩
    cases d with
    | list ds =>
      cases k with
      | int i =>
        cases hks
        simp only [atPath, Option.bind_eq_some_iff, Option.map_eq_some_iff] at e
        obtain ⟨j, e1, dj, e2, ⟨d0', y'⟩, e3, e4⟩ := e
        cases e4
        cases h with
        | lst ha l =>
          rename_i a vs fl
          obtain ⟨v1, w, v2, d1, d2, f1, fq, f2, h1, h2, h3, h4, h5, h6, h7, h8⟩ := l.pick e2
          subst h1 h2 h5
          refine ⟨w, dj, d0', fq, .inl ⟨a, _, i, rfl, rfl, ha, ?_⟩, h7, e3, ?_, fun b hb => List.mem_cons_of_mem _ (List.mem_append_right _ (List.mem_append_left _ hb)), fun _ k hk q => sub1_imm hk (.lst (by simp)) q, fun h => (by cases h), fun _ => ⟨a, rfl, List.mem_cons_self⟩, fun H' fr kp hd hn hf => ?_⟩
          · unfold atI
            have : (v1 ++ w :: v2).length = (d1 ++ dj :: d2).length := l.length
            rw [this, e1]
            exact get_mid h3
          · have := (List.nodup_cons.mp nd).2
            exact (List.nodup_append.mp (List.nodup_append.mp this).2.1).1
          · obtain ⟨m1, m2, m3, m4, m5⟩ := nodup3 nd hn hf
            refine ⟨_, ?_, m1, m2⟩
            rw [set_mid h4]
            exact .lst (kp a _ ha m3) ((stay h7 kp h6 m4).append (.cons hd (stay h7 kp h8 m5)))
      | _ => simp [atPath] at e
    | dict es =>
      cases k with
      | str s =>
        cases hks
        simp only [atPath, Option.bind_eq_some_iff, Option.map_eq_some_iff] at e
        obtain ⟨j, e1, ej, e2, ⟨d0', y'⟩, e3, e4⟩ := e
        cases e4
        cases h with
        | dK ha hk l =>
          rename_i a kvs fl
          obtain ⟨k1, w, k2, es1, es2, f1, fq, f2, h1, h2, h3, h4, h5, h6, h7, h8, h9, h10, h11, h12⟩ := dic_pick hk l e1 e2
          subst h1 h2 h5
          refine ⟨w, ej.2, d0', fq, .inr ⟨a, _, s, rfl, rfl, ha, val_mid h12⟩, h10, e3, ?_, fun b hb => List.mem_cons_of_mem _ (List.mem_append_right _ (List.mem_append_left _ hb)), fun _ k hk q => sub1_imm hk (.dic (by simp)) q, fun h => (by cases h), fun _ => ⟨a, rfl, List.mem_cons_self⟩, fun H' fr kp hd hn hf => ?_⟩
          · have := (List.nodup_cons.mp nd).2
            exact (List.nodup_append.mp (List.nodup_append.mp this).2.1).1
          · obtain ⟨m1, m2, m3, m4, m5⟩ := nodup3 nd hn hf
            refine ⟨_, ?_, m1, m2⟩
            rw [set_mid h4]
            refine .dK (kp a _ ha m3) ?_ ?_
            · simp [h7, h8, h6, keyD]
            · rw [List.map_append, List.map_append, List.map_cons, List.map_cons]
              exact (stay h10 kp h9 m4).append (.cons hd (stay h10 kp h11 m5))
        | dT ha hk l =>
          exfalso
          have : ∀ (es : List (PyData × PyData)) (kvs : List (List Key × V)), es.map (·.1) = kvs.map (fun p => PyData.tuple (p.1.map keyD)) → es.findIdx? (fun e => PyData.eqv e.1 (.str s)) = none := by
            intro es
            induction es with
            | nil => intros; rfl
            | cons a es ih =>
              intro kvs q
              cases kvs with
              | nil => cases q
              | cons kv kvs =>
                simp only [List.map_cons, List.cons.injEq] at q
                rw [List.findIdx?_cons, q.1, tup_str]
                simp [ih kvs q.2]
          rw [this es _ hk] at e1
          cases e1
      | _ => simp [atPath] at e
    | _ => cases k <;> simp [atPath] at e

/-- what a change does to the thing that it changes -/
def Eff (K : PySem.W.Frag) (H : Hp) (fu : List Addr) (kx : Bool) (g : PyData → Option (PyData × PyData)) (REL : V → Hp → V → Prop) : Prop := ∀ (w : V) (d0 d0' yd : PyData) (fq : List Addr), Den K H w d0 fq → fq.Nodup → (∀ a ∈ fu, a ∉ fq) → g d0 = some (d0', yd) →
  imm d0 = false ∧ (flatD d0 = true → imm yd = true ∧ (kx = true → flatD d0' = true)) ∧ ∃ H' yv fr fy, REL w H' yv ∧ (∀ a o, H a = some o → a ∉ fq → H' a = some o) ∧ (∀ a, H a ≠ none → H' a ≠ none) ∧ Den K H' w d0' fr ∧ fr.Nodup ∧ (∀ a ∈ fr, a ∈ fq ∨ a ∈ fu) ∧
    Den K H' yv yd fy ∧ fy.Nodup ∧ ∀ a ∈ fy, a ∈ fq ∧ a ∉ fr
theorem changed_ok {r : Nat} {ks : List PyData} {kvs : List V} {g : PyData → Option (PyData × PyData)} {REL : V → Hp → V → Prop} {kx : Bool} {fu : List Addr} {v0 : V} {val : Val} (R0 : ER K H0 σ env0 fps0) (S : Step L H0 env0 fps0 H env fps) (R : ER K H σ env fps)
    (hv : σ[r]? = some (some v0)) (hks : KeysV K H kvs ks) (eff : Eff K H fu kx g REL) (hfu : ∀ a ∈ fu, ¬ AnyA env fps a ∧ (OwnA L env0 fps0 a ∨ H0 a = none)) (e : changed L r env kx (atPath ks g) = some (val, env')) :
    ∃ w H' yv fps' fy, WalkV H v0 kvs w ∧ REL w H' yv ∧ Step L H0 env0 fps0 H' env' fps' ∧ ER K H' σ env' fps' ∧ VOk K H' σ env' fps' yv val fy ∧ Bnd L H0 env0 fps0 val fy := by
  unfold changed at e
  split at e
  · cases e
  rename_i hrL
  cases er : env[r]? with
  | none => rw [er] at e; cases e
  | some o =>
  cases o with
  | none => rw [er] at e; cases e
  | some s =>
  rw [er] at e
  simp only at e
  split at e
  · rename_i hc
    simp only [Bool.and_eq_true, decide_eq_true_eq] at hc
    obtain ⟨hown, hk⟩ := hc
    obtain ⟨⟨d', yd⟩, ep, e⟩ := Option.map_eq_some_iff.mp e
    cases e
    obtain ⟨v0', g1, g2, g3⟩ := R.val r s er
    rw [hv] at g1; cases g1
    have hnd := R.nd r s er hown
    have any : ∀ {a : Addr}, a ∈ fps r → AnyA env fps a := fun {a} h => ⟨r, s, er, h⟩
    have own : ∀ {a : Addr}, a ∈ fps r → OwnA L env fps a := fun {a} h => ⟨r, ⟨hrL, s, er, hown⟩, h⟩
    obtain ⟨w, d0, d0', fq, t1, t2, t3, t4, t5, t6, t7, _, t8⟩ := tgt hks g2 hnd ep
    obtain ⟨i1, i2, H', yv, fr, fy, j1, j2, j3, j4, j5, j6, j7, j8, j9⟩ := eff w d0 d0' yd fq t2 t4 (fun a ha hb => (hfu a ha).1 (any (t5 a hb))) t3
    obtain ⟨fp', u1, u2, u3⟩ := t8 H' fr j2 j4 j5 fun a ha => (j6 a ha).imp id fun z q => (hfu a z).1 (any q)
    have flat : s.k = .flat → ks = [] := fun hs => by
      by_cases q : ks = []
      · exact q
      · have : imm d0 = true := t6 q s.k g3 (by rw [hs]; rfl)
        rw [i1] at this; cases this
    have hrl : r < env.length := (List.getElem?_eq_some_iff.mp er).1
    -- the changed slot's footprint is the slot's own and the moved things'
    have hfp : ∀ a ∈ fp', a ∈ fps r ∨ a ∈ fu := fun a ha => by
      rcases u3 a ha with z | z
      · exact (j6 a z).imp (t5 a) id
      · exact .inl z.1
    have keep : ∀ a o, H a = some o → a ∉ fps r → H' a = some o := fun a o e n => j2 a o e fun z => n (t5 a z)
    have fix : ∀ a o, H a = some o → Fixed o → H' a = some o := fun a o e f => j2 a o e fun z => by
      obtain ⟨o', e', nf⟩ := t2.there a z
      rw [e] at e'; cases e'; exact nf f
    have RF : ER K H' σ (env.set r (some ⟨if kx then s.k else .deep, true, d'⟩)) (putF fps r fp') := by
      refine ⟨by rw [List.length_set]; exact R.len, fun i t e => ?_, fun i t e o => ?_, fun i j t u n ei o e' a ha hb => ?_, tabs_of R.tb fun a o e f => j2 a o e fun z => by
        obtain ⟨o', e', m⟩ := t2.mv a z
        rw [e] at e'; cases e'; exact f m⟩
      · by_cases hi : i = r
        · subst hi
          rw [List.getElem?_set_self hrl] at e
          cases e
          rw [putF_same]
          refine ⟨v0, hv, u1, ?_⟩
          cases hkx : kx with
          | false => trivial
          | true =>
            simp only [if_true]
            cases hs : s.k with
            | imm => exact (hk hs).elim
            | deep => trivial
            | flat =>
              obtain ⟨z1, z2, _⟩ := t7 (flat hs)
              rw [hs] at g3
              subst z1 z2
              exact (i2 g3).2 hkx
        · rw [List.getElem?_set_ne (Ne.symm hi)] at e
          rw [putF_ne hi]
          obtain ⟨v, b1, b2, b3⟩ := R.val i t e
          exact ⟨v, b1, b2.stay fix fun a ha o e' _ => keep a o e' fun z => R.dj r i s t (Ne.symm hi) er hown e a z ha, b3⟩
      · by_cases hi : i = r
        · subst hi; rw [putF_same]; exact u2
        · rw [List.getElem?_set_ne (Ne.symm hi)] at e
          rw [putF_ne hi]; exact R.nd i t e o
      · by_cases hi : i = r
        · subst hi
          rw [putF_same] at ha
          rw [putF_ne (Ne.symm n)] at hb
          rw [List.getElem?_set_ne n] at e'
          rcases hfp a ha with z | z
          · exact R.dj i j s u n er hown e' a z hb
          · exact (hfu a z).1 ⟨j, u, e', hb⟩
        · rw [List.getElem?_set_ne (Ne.symm hi)] at ei
          rw [putF_ne hi] at ha
          by_cases hj : j = r
          · subst hj
            rw [putF_same] at hb
            rcases hfp a hb with z | z
            · exact R.dj i j t s n ei o er a ha z
            · exact (hfu a z).1 ⟨i, t, ei, ha⟩
          · rw [List.getElem?_set_ne (Ne.symm hj)] at e'
            rw [putF_ne hj] at hb
            exact R.dj i j t u n ei o e' a ha hb
    have SF : Step L H0 env0 fps0 H' (env.set r (some ⟨if kx then s.k else .deep, true, d'⟩)) (putF fps r fp') := by
      have ur : Unl L env0 r := S.unl ⟨hrL, s, er, hown⟩
      refine ⟨fun a o e n nt => keep a o (S.keep a o e n nt) fun z => ?_, fun a o e f => fix a o (S.fix a o e f) f, fun i n => ?_, fun i u a ha => ?_, fun a h => j3 a (S.alv a h)⟩
      · rcases S.ownBack (own z) with q | q
        · exact n q
        · rw [e] at q; cases q
      · have hi : i ≠ r := fun z => n (z ▸ ur)
        rw [List.getElem?_set_ne (Ne.symm hi), putF_ne hi]
        exact S.oth i n
      · by_cases hi : i = r
        · subst hi
          rw [putF_same] at ha
          rcases hfp a ha with z | z
          · exact S.own i u a z
          · exact (hfu a z).2
        · rw [putF_ne hi] at ha
          exact S.own i u a ha
    have notAny : ∀ a ∈ fy, ¬ AnyA (env.set r (some ⟨if kx then s.k else .deep, true, d'⟩)) (putF fps r fp') a := fun a ha ⟨i, t, e, q⟩ => by
      obtain ⟨z1, z2⟩ := j9 a ha
      by_cases hi : i = r
      · subst hi
        rw [putF_same] at q
        rcases u3 a q with z | z
        · exact z2 z
        · exact z.2 z1
      · rw [List.getElem?_set_ne (Ne.symm hi)] at e
        rw [putF_ne hi] at q
        exact R.dj r i s t (Ne.symm hi) er hown e a (t5 a z1) q
    by_cases hsub : sub1 s.k yd = .imm
    · rw [if_pos hsub]
      have hy : imm yd = true := by
        cases hs : s.k with
        | imm => exact (hk hs).elim
        | flat =>
          obtain ⟨z1, z2, _⟩ := t7 (flat hs)
          rw [hs] at g3
          subst z1
          exact (i2 g3).1
        | deep =>
          rw [hs] at hsub
          unfold sub1 at hsub
          simp only at hsub
          split at hsub
          · assumption
          · cases hsub
      have z := j7.imm hy
      subst z
      exact ⟨w, H', yv, _, [], t1, j1, SF, RF, ⟨hy, j7, List.nodup_nil, fun a ha => nomatch ha⟩, fun a ha => nomatch ha⟩
    · rw [if_neg hsub]
      refine ⟨w, H', yv, _, fy, t1, j1, SF, RF, ⟨trivial, j7, j8, notAny⟩, fun a ha => S.ownBack (own (t5 a (j9 a ha).1))⟩
  · cases e

/-! ### the changes -/
def rM (m : Mt) (w : V) (us : List V) (H : Hp) (Q : VK) : Prop := match m with
  | .append => rAppend w us H Q
  | .pop => rPop w us H Q
  | .popAt => rPopAt w us H Q
def ArgsV (K : PySem.W.Frag) (H : Hp) : List V → List PyData → List Addr → Prop
  | [], [], fu => fu = []
  | [u], [d], fu => Den K H u d fu
  | _, _, _ => False
theorem immL_app {xs ys : List PyData} : immL (xs ++ ys) = (immL xs && immL ys) := by
  induction xs with
  | nil => rfl
  | cons x xs ih => simp [immL, ih, Bool.and_assoc]
theorem upd_keep {p : Addr} {o o' : HO} (hp : H p = some o) {fq : List Addr} (h : p ∈ fq) : (∀ a u, H a = some u → a ∉ fq → upd H p o' a = some u) ∧ ∀ a, H a ≠ none → upd H p o' a ≠ none := by
  refine ⟨fun a u e n => ?_, fun a e => ?_⟩
  · rw [upd_ne]; exact e
    rintro rfl; exact n h
  · by_cases q : a = p
    · rw [q, upd_same]; simp
    · rw [upd_ne q]; exact e
theorem Den.upd {p : Addr} {o o' : HO} {d : PyData} (hp : H p = some o) (nf : ¬ Fixed o) (h : Den K H v d fp) (n : p ∉ fp) : Den K (upd H p o') v d fp := h.stay (fun a u e f => by
    rw [upd_ne]; exact e
    rintro rfl; rw [hp] at e; cases e; exact nf f) fun a ha u e _ => by
    rw [upd_ne]; exact e
    rintro rfl; exact n ha
theorem DenL.upd {p : Addr} {o o' : HO} {ds : List PyData} {vs : List V} (hp : H p = some o) (nf : ¬ Fixed o) (h : DenL K H vs ds fp) (n : p ∉ fp) : DenL K (L2.upd H p o') vs ds fp := h.stay (fun a u e f => by
    rw [upd_ne]; exact e
    rintro rfl; rw [hp] at e; cases e; exact nf f) fun a ha u e _ => by
    rw [upd_ne]; exact e
    rintro rfl; exact n ha
theorem mut_eff {m : Mt} {us : List V} {args : List PyData} {fu : List Addr} {kx : Bool} (ha : ArgsV K H us args fu) (hn : fu.Nodup) (hkx : kx = true → immL args = true) : Eff K H fu kx (mutD m args) fun w H' yv => ∀ Q : VK, Q yv H' → rM m w us H Q := by
  intro w d0 d0' yd fq hd nd dj e
  cases d0 with
  | list ds =>
    cases hd with
    | lst hp l =>
      rename_i p xs fl
      have hpl : p ∉ fl := (List.nodup_cons.mp nd).1
      have ndl := (List.nodup_cons.mp nd).2
      -- an item is taken away
      have take : ∀ {j : Nat} {xs' : List V} {ds' : List PyData}, ds[j]? = some yd → d0' = .list ds' → (∀ v1 w v2 d1 d2, xs = v1 ++ w :: v2 → ds = d1 ++ yd :: d2 → v1.length = j → d1.length = j → xs' = v1 ++ v2 ∧ ds' = d1 ++ d2) → (∀ wv, xs[j]? = some wv → ∀ Q : VK, Q wv (L2.upd H p (.lst xs')) → rM m (.ref p) us H Q) →
          imm (PyData.list ds) = false ∧ (flatD (.list ds) = true → imm yd = true ∧ (kx = true → flatD d0' = true)) ∧ ∃ H' yv fr fy, (∀ Q : VK, Q yv H' → rM m (.ref p) us H Q) ∧ (∀ a o, H a = some o → a ∉ p :: fl → H' a = some o) ∧ (∀ a, H a ≠ none → H' a ≠ none) ∧ Den K H' (.ref p) d0' fr ∧ fr.Nodup ∧ (∀ a ∈ fr, a ∈ p :: fl ∨ a ∈ fu) ∧
            Den K H' yv yd fy ∧ fy.Nodup ∧ ∀ a ∈ fy, a ∈ p :: fl ∧ a ∉ fr := fun {j xs' ds'} hj hd' hs hr => by
        obtain ⟨v1, w, v2, d1, d2, f1, fq, f2, h1, h2, h3, h4, h5, h6, h7, h8⟩ := l.pick hj
        obtain ⟨rfl, rfl⟩ := hs v1 w v2 d1 d2 h1 h2 h3 h4
        subst hd'
        have hf : ∀ {ds : List PyData}, immL ds = true → flatD (.list ds) = true := fun h => h
        subst h5
        simp only [List.mem_append, not_or] at hpl
        rw [List.nodup_append, List.nodup_append] at ndl
        obtain ⟨n1, ⟨n2, n3, n4⟩, n5⟩ := ndl
        obtain ⟨k1, k2⟩ := upd_keep (o' := HO.lst (v1 ++ v2)) hp (fq := p :: (f1 ++ (fq ++ f2))) List.mem_cons_self
        refine ⟨by simp [imm], fun hfl => ?_, L2.upd H p (.lst (v1 ++ v2)), w, p :: (f1 ++ f2), fq, hr w (by rw [h1]; exact get_mid h3), k1, k2, .lst upd_same ((h6.upd hp (fun z => z) hpl.1).append (h8.upd hp (fun z => z) hpl.2.2)), ?_, fun a ha => .inl ?_, h7.upd hp (fun z => z) hpl.2.1, n2, fun a ha => ⟨?_, fun q => ?_⟩⟩
        · have hfl : immL ds = true := hfl
          rw [h2, immL_app] at hfl
          simp only [immL, Bool.and_eq_true] at hfl
          exact ⟨hfl.2.1, fun _ => hf (by rw [immL_app, hfl.1, hfl.2.2]; rfl)⟩
        · rw [List.nodup_cons, List.nodup_append]
          refine ⟨by simp only [List.mem_append, not_or]; exact ⟨hpl.1, hpl.2.2⟩, n1, n3, fun a ha b hb e => n5 a ha b (List.mem_append_right _ hb) e⟩
        · simp only [List.mem_cons, List.mem_append] at ha ⊢
          rcases ha with z | z | z
          · exact .inl z
          · exact .inr (.inl z)
          · exact .inr (.inr (.inr z))
        · exact List.mem_cons_of_mem _ (List.mem_append_right _ (List.mem_append_left _ ha))
        · simp only [List.mem_cons, List.mem_append] at q
          rcases q with rfl | q | q
          · exact hpl.2.1 ha
          · exact n5 a q a (List.mem_append_left _ ha) rfl
          · exact n4 a ha a q rfl
      cases m with
      | append =>
        match us, args, ha, e, hkx with
        | [u], [d], ha, e, hkx =>
          have ha : Den K H u d fu := ha
          simp only [mutD] at e
          split at e
          · rename_i hfit
            cases e
            have hz := fits_le hfit
            have hpu : p ∉ fu := fun z => dj p z List.mem_cons_self
            obtain ⟨k1, k2⟩ := upd_keep (o' := HO.lst (xs ++ [u])) hp (fq := p :: fl) List.mem_cons_self
            have lu : DenL K (L2.upd H p (.lst (xs ++ [u]))) [u] [d] fu := by
              have := DenL.cons (ha.upd (o' := HO.lst (xs ++ [u])) hp (fun z => z) hpu) .nil
              rw [List.append_nil] at this
              exact this
            refine ⟨by simp [imm], fun hfl => ⟨rfl, fun hk => ?_⟩, L2.upd H p (.lst (xs ++ [u])), .non, p :: (fl ++ fu), [], fun Q q => ⟨p, xs, u, rfl, rfl, hp, ?_, q⟩, k1, k2, .lst upd_same ((l.upd hp (fun z => z) hpl).append lu), ?_, fun a ha => ?_, .non, List.nodup_nil, fun a ha => nomatch ha⟩
            · have hfl : immL ds = true := hfl
              have := hkx hk
              show immL (ds ++ [d]) = true
              rw [immL_app, hfl]; exact this
            · have := l.length
              omega
            · rw [List.nodup_cons, List.nodup_append]
              refine ⟨by simp only [List.mem_append, not_or]; exact ⟨hpl, hpu⟩, ndl, hn, fun a ha b hb e => dj b hb (e ▸ List.mem_cons_of_mem _ ha)⟩
            · simp only [List.mem_cons, List.mem_append] at ha ⊢
              rcases ha with z | z | z
              · exact .inl (.inl z)
              · exact .inl (.inr z)
              · exact .inr z
          · cases e
        | [], [], _, e, _ => simp [mutD] at e
        | [], _ :: _, ha, _, _ => simp [ArgsV] at ha
        | _ :: _, [], ha, _, _ => simp [ArgsV] at ha
        | _ :: _ :: _, _ :: _, ha, _, _ => simp [ArgsV] at ha
        | [_], _ :: _ :: _, ha, _, _ => simp [ArgsV] at ha
      | pop =>
          obtain rfl : args = [] := by
            cases args with
            | nil => rfl
            | cons d r => simp [mutD] at e
          obtain rfl : us = [] := by
            cases us with
            | nil => rfl
            | cons d r => simp [ArgsV] at ha
          simp only [mutD, Option.map_eq_some_iff] at e
          obtain ⟨y, e1, e2⟩ := e
          cases e2
          refine take e1 rfl (fun v1 w v2 d1 d2 h1 h2 h3 h4 => ?_) (xs' := xs.dropLast) fun wv hw Q q => ⟨p, xs, wv, rfl, rfl, hp, ?_, q⟩
          · have z : d2 = [] := by
              have := congrArg List.length h2
              simp at this
              apply List.eq_nil_of_length_eq_zero
              omega
            have z' : v2 = [] := by
              have := congrArg List.length h2
              have hl := l.length
              rw [h1, h2] at hl
              simp at this hl
              apply List.eq_nil_of_length_eq_zero
              omega
            subst z z' h1 h2
            simp
          · rw [l.length]; exact hw
      | popAt =>
            obtain ⟨i, rfl⟩ : ∃ i, args = [.int i] := by
              cases args with
              | nil => simp [mutD] at e
              | cons d r =>
                cases r with
                | nil => cases d <;> first | exact ⟨_, rfl⟩ | simp [mutD] at e
                | cons d2 r => cases d <;> simp [mutD] at e
            obtain ⟨u, rfl⟩ : ∃ u, us = [u] := by
              cases us with
              | nil => simp [ArgsV] at ha
              | cons u r =>
                cases r with
                | nil => exact ⟨u, rfl⟩
                | cons _ _ => simp [ArgsV] at ha
            cases (show Den K H u (.int i) fu from ha)
            simp only [mutD] at e
            split at e
            · rename_i hb
              simp only [Bool.and_eq_true, decide_eq_true_eq] at hb
              simp only [Option.bind_eq_some_iff, Option.map_eq_some_iff] at e
              obtain ⟨k, e0, y, e1, e2⟩ := e
              cases e2
              refine take e1 rfl (fun v1 w v2 d1 d2 h1 h2 h3 h4 => ?_) (xs' := xs.eraseIdx k) fun wv hw Q q => ⟨p, xs, i, k, wv, rfl, rfl, hp, hb.1, hb.2, ?_, hw, q⟩
              · rw [h1, h2]
                exact ⟨erase_mid h3, erase_mid h4⟩
              · rw [l.length]; exact e0
            · cases e
  | _ => simp [mutD] at e
end
end Iv

set_option maxRecDepth 100000
set_option maxHeartbeats 2000000
/-! IvM: rules for methods that change, and for stores into things. -/
namespace Iv
open PySem L2
variable [Tbl]

section
variable {K : PySem.W.Frag} {H H0 H1 H2 H' : Hp} {σ : St} {env env0 env1 env' : Env} {fps fps0 fps1 : Nat → List Addr} {L L' : List Nat} {v w : V} {x y : Val} {fp fq : List Addr}
def rPut (w kv u : V) (H : Hp) (Q : Hp → Prop) : Prop := rSetL w kv u H Q ∨ rSetD w kv u H Q
theorem put_eff {kv u : V} {kd vd : PyData} {fu : List Addr} {kx : Bool} (hk : Den K H kv kd []) (hu : Den K H u vd fu) (hn : fu.Nodup) (hkx : kx = true → imm vd = true) : Eff K H fu kx (putD kd vd) fun w H' yv => ∀ Q : Hp → Prop, Q H' → rPut w kv u H Q := by
  intro w d0 d0' yd fq hd nd dj e
  -- what stands about the place
  have nod : ∀ {p : Addr} {f1 f0 f2 : List Addr}, (p :: (f1 ++ (f0 ++ f2))).Nodup → (∀ a ∈ fu, a ∉ p :: (f1 ++ (f0 ++ f2))) → (p :: (f1 ++ (fu ++ f2))).Nodup ∧ (∀ a ∈ p :: (f1 ++ (fu ++ f2)), a ∈ p :: (f1 ++ (f0 ++ f2)) ∨ a ∈ fu) ∧ p ∉ f1 ∧ p ∉ f2 ∧ p ∉ fu := fun {p f1 f0 f2} h k => by
    rw [List.nodup_cons, List.nodup_append, List.nodup_append] at h
    obtain ⟨n1, n2, ⟨n3, n4, n5⟩, n6⟩ := h
    simp only [List.mem_append, not_or] at n1
    have k' : ∀ a ∈ fu, a ≠ p ∧ a ∉ f1 ∧ a ∉ f0 ∧ a ∉ f2 := fun a ha => by
      have := k a ha
      simp only [List.mem_cons, List.mem_append, not_or] at this
      exact this
    refine ⟨?_, ?_, n1.1, n1.2.2, fun z => (k' p z).1 rfl⟩
    · rw [List.nodup_cons, List.nodup_append, List.nodup_append]
      refine ⟨?_, n2, ⟨hn, n4, fun a ha b hb e => (k' a ha).2.2.2 (e ▸ hb)⟩, fun a ha b hb e => ?_⟩
      · simp only [List.mem_append, not_or]
        exact ⟨n1.1, fun z => (k' p z).1 rfl, n1.2.2⟩
      · subst e
        rcases List.mem_append.mp hb with z | z
        · exact (k' a z).2.1 ha
        · exact n6 a ha a (List.mem_append_right _ z) rfl
    · intro a ha
      simp only [List.mem_cons, List.mem_append] at ha ⊢
      rcases ha with z | z | z | z
      · exact .inl (.inl z)
      · exact .inl (.inr (.inl z))
      · exact .inr z
      · exact .inl (.inr (.inr (.inr z)))
  cases d0 with
  | list ds =>
    cases hd with
    | lst hp l =>
      rename_i p xs fl
      cases kd with
      | int i =>
        cases hk
        simp only [putD, Option.map_eq_some_iff] at e
        obtain ⟨j, e1, e2⟩ := e
        cases e2
        have hj : j < ds.length := (ixN_seq e1).2.1
        obtain ⟨v1, w, v2, d1, d2, f1, f0, f2, h1, h2, h3, h4, h5, h6, h7, h8⟩ := l.pick (List.getElem?_eq_getElem hj)
        have hl := l.length
        rw [h2] at e1
        subst h5
        obtain ⟨m1, m2, m3, m4, m5⟩ := nod nd dj
        obtain ⟨k1, k2⟩ := upd_keep (o' := HO.lst (v1 ++ u :: v2)) hp (fq := p :: (f1 ++ (f0 ++ f2))) List.mem_cons_self
        refine ⟨by simp [imm], fun hfl => ⟨rfl, fun hkk => ?_⟩, L2.upd H p (.lst (v1 ++ u :: v2)), .non, p :: (f1 ++ (fu ++ f2)), [], fun Q q => .inl ⟨p, xs, i, j, rfl, rfl, hp, ?_, ?_⟩, k1, k2, ?_, m1, m2, .non, List.nodup_nil, fun a ha => nomatch ha⟩
        · have hfl : immL ds = true := hfl
          show immL (ds.set j vd) = true
          rw [h2, set_mid h4]
          rw [h2, immL_app] at hfl
          simp only [immL, Bool.and_eq_true] at hfl
          rw [immL_app]
          simp only [immL, hfl.1, hfl.2.2, hkx hkk, Bool.and_self]
        · rw [hl, h2]; exact e1
        · rw [h1, set_mid h3]; exact q
        · rw [h2, set_mid h4]
          exact .lst upd_same ((h6.upd hp (fun z => z) m3).append (.cons (hu.upd hp (fun z => z) m5) (h8.upd hp (fun z => z) m4)))
      | _ => simp [putD] at e
  | dict es =>
    cases kd with
    | str s =>
      cases hk
      simp only [putD] at e
      split at e
      · rename_i j e1
        split at e
        · rename_i hc
          cases e
          simp only [Bool.and_eq_true, decide_eq_true_eq, List.all_eq_true, Bool.not_eq_true'] at hc
          obtain ⟨hz, hdr⟩ := hc
          have hj : j < es.length := (List.findIdx?_eq_some_iff_getElem.mp e1).1
          obtain ⟨ej, hej⟩ : ∃ e, es[j]? = some e := ⟨_, List.getElem?_eq_getElem hj⟩
          cases hd with
          | dK hp hkk l =>
            rename_i p kvs fl
            obtain ⟨k1, w, k2, es1, es2, f1, f0, f2, h1, h2, h3, h4, h5, h6, h7, h8, h9, h10, h11, h12⟩ := dic_pick hkk l e1 hej
            have hl : kvs.length = es.length := by
              have := congrArg List.length hkk
              simpa using this.symm
            subst h5
            obtain ⟨m1, m2, m3, m4, m5⟩ := nod nd dj
            have hk2 : ∀ q ∈ k2, q.1 ≠ Sum.inr s := fun q hq hs => by
              have hd2 : es.drop (j + 1) = es2 := by subst h4; rw [h2]; simp
              rw [hd2] at hdr
              have : keyD q.1 ∈ es2.map (·.1) := by rw [h8]; exact List.mem_map.mpr ⟨q, hq, rfl⟩
              obtain ⟨e, he, he'⟩ := List.mem_map.mp this
              have := hdr e he
              rw [he', keyD_str, hs] at this
              simp at this
            obtain ⟨u1, u2⟩ := upd_keep (o' := HO.dK (k1 ++ (Sum.inr s, u) :: k2)) hp (fq := p :: (f1 ++ (f0 ++ f2))) List.mem_cons_self
            refine ⟨by simp [imm], fun hfl => ⟨rfl, fun hkk => ?_⟩, L2.upd H p (.dK (k1 ++ (Sum.inr s, u) :: k2)), .non, p :: (f1 ++ (fu ++ f2)), [], fun Q q => .inr ⟨p, _, rfl, ?_, q⟩, u1, u2, ?_, m1, m2, .non, List.nodup_nil, fun a ha => nomatch ha⟩
            · have hfl : immL (es.map (·.2)) = true := hfl
              show immL ((es.set j (.str s, vd)).map (·.2)) = true
              rw [h2, set_mid h4, List.map_append, List.map_cons]
              rw [h2, List.map_append, List.map_cons, immL_app] at hfl
              simp only [immL, Bool.and_eq_true] at hfl
              rw [immL_app]
              simp only [immL, hfl.1, hfl.2.2, hkx hkk, Bool.and_self]
            · have := DPut.k (k := Sum.inr s) (v := u) hp (by rw [hl]; exact Nat.lt_of_lt_of_le hz (Nat.le_refl _))
              rw [h1, put_mid h12 hk2] at this
              exact this
            · rw [h2, set_mid h4]
              refine .dK upd_same ?_ ?_
              · simp [h7, h8, keyD]
              · rw [List.map_append, List.map_append, List.map_cons, List.map_cons]
                exact (h9.upd hp (fun z => z) m3).append (.cons (hu.upd hp (fun z => z) m5) (h11.upd hp (fun z => z) m4))
          | dT hp hkk l =>
            exfalso
            have : ∀ (es : List (PyData × PyData)) (kvs : List (List Key × V)), es.map (·.1) = kvs.map (fun p => PyData.tuple (p.1.map keyD)) → es.findIdx? (fun e => PyData.eqv e.1 (.str s)) = none := by
              intro es
              induction es with
              | nil => intros; rfl
              | cons a es ih =>
                intro kvs q
                cases kvs with
                | nil => cases q
                | cons kv kvs =>
                  simp only [List.map_cons, List.cons.injEq] at q
                  rw [List.findIdx?_cons, q.1, tup_str]
                  simp [ih kvs q.2]
            rw [this es _ hkk] at e1
            cases e1
        · cases e
      · cases e
    | _ => simp [putD] at e
  | _ => simp [putD] at e
/-- a value that leaves its slot -/
theorem mv_one {M : List Nat} {o : List Val} (hM : ∀ i ∈ L, i ∈ M) (R0 : ER K H0 σ env0 fps0) (S : Step L H0 env0 fps0 H env fps) (R : ER K H σ env fps) (hV : VOk K H σ env fps v x fp) (b : Bnd L H0 env0 fps0 x fp) (e : mv M [x] env = some (o, env')) :
    ∃ y, o = [y] ∧ y.d = x.d ∧ y.k = x.k ∧ Step L H0 env0 fps0 H env' fps ∧ ER K H σ env' fps ∧ Den K H v x.d fp ∧ fp.Nodup ∧ (∀ a ∈ fp, ¬ AnyA env' fps a ∧ (OwnA L env0 fps0 a ∨ H0 a = none)) ∧ ∀ i ∈ M, env'[i]? = env[i]? := by
  obtain ⟨k, p, d⟩ := x
  cases p with
  | fr =>
    simp [mv] at e
    obtain ⟨rfl, rfl⟩ := e
    exact ⟨_, rfl, rfl, rfl, S, R, hV.2.1, hV.2.2.1, fun a ha => ⟨hV.2.2.2 a ha, b a ha⟩, fun _ _ => rfl⟩
  | sl i =>
    obtain ⟨h0, h1, h2, h3⟩ := hV
    simp only [mv] at e
    split at e
    · cases e
    rename_i hi
    rw [h2] at e
    simp at e
    obtain ⟨rfl, rfl⟩ := e
    obtain ⟨v', g1, g2, g3⟩ := R.val i _ h2
    rw [h1] at g1; cases g1
    have some_of : ∀ {j : Nat} {s : Sl}, (env.set i none)[j]? = some (some s) → j ≠ i ∧ env[j]? = some (some s) := fun {j s} e => by
      by_cases hj : j = i
      · subst hj
        have hl : j < env.length := (List.getElem?_eq_some_iff.mp h2).1
        rw [List.getElem?_set_self hl] at e; cases e
      · rw [List.getElem?_set_ne (Ne.symm hj)] at e; exact ⟨hj, e⟩
    refine ⟨_, rfl, rfl, rfl, ⟨S.keep, S.fix, fun j n => ?_, S.own, S.alv⟩, ⟨by rw [List.length_set]; exact R.len, fun j s e => R.val j s (some_of e).2, fun j s e o => R.nd j s (some_of e).2 o, fun j l s t n e o e' => R.dj j l s t n (some_of e).2 o (some_of e').2, R.tb⟩, by rw [h3]; exact g2, by rw [h3]; exact R.nd i _ h2 rfl,
      fun a ha => ⟨fun ⟨j, s, e, q⟩ => ?_, S.ownBack ⟨i, ⟨fun z => hi (hM i z), _, h2, rfl⟩, by rw [← h3]; exact ha⟩⟩, fun j hj => ?_⟩
    · have hji : j ≠ i := fun z => n (S.unl ⟨fun q => hi (hM i (z ▸ q)), _, z ▸ h2, rfl⟩)
      rw [List.getElem?_set_ne (Ne.symm hji)]
      exact S.oth j n
    · obtain ⟨hj, e⟩ := some_of e
      exact R.dj i j _ s (Ne.symm hj) h2 rfl e a (by rw [← h3]; exact ha) q
    · rw [List.getElem?_set_ne (by rintro rfl; exact hi hj)]
  | pt i => simp [mv] at e
  | sh => simp [mv] at e
theorem okP_at {ok : PyData → Bool} {r : Nat} {ks : List PyData} (h : okP ok r env ks = true) : ∃ s, env[r]? = some (some s) ∧ s.own = true ∧ s.k ≠ .imm ∧ ∃ q, atPath ks (fun d => if ok d then some (d, ()) else none) s.d = some q := by
  unfold okP at h
  split at h
  · rename_i s e
    simp only [Bool.and_eq_true, decide_eq_true_eq] at h
    exact ⟨s, e, h.1.1, h.1.2, Option.isSome_iff_exists.mp h.2⟩
  · cases h
theorem keys_of {kvs : List V} {ks : List Val} {fpl : List (List Addr)} (R : ER K H σ env fps) (hV : VsOk K H σ env fps [] kvs ks fpl) (hi : kAll ks = true) (hl : ks.length ≤ 1) : KeysV K H kvs (ks.map (·.d)) := by
  match ks, hl with
  | [], _ =>
    have := hV.len.1
    cases kvs with
    | nil => trivial
    | cons _ _ => simp at this
  | [k], _ =>
    obtain ⟨u, fq, rfl, rfl, h⟩ := VsOk.one hV
    have hk : k.k = .imm := by simpa [kAll] using hi
    have d := h.den R
    have z := d.imm (h.kd.imm' hk)
    show Den K H u k.d []
    rw [← z]; exact d
theorem KeysV.fix {kvs : List V} {ks : List PyData} (h : KeysV K H kvs ks) (f : ∀ a o, H a = some o → Fixed o → H' a = some o) : KeysV K H' kvs ks := by
  match kvs, ks, h with
  | [], [], h => trivial
  | [v], [d], h => exact Den.stay f h fun a ha => nomatch ha
def WalkB (b : Bool) (H : Hp) (v : V) : List V → V → Prop
  | [], w => w = v
  | [k], w => match b with
    | false => ∃ a xs i, v = .ref a ∧ k = .int i ∧ H a = some (.lst xs) ∧ atI xs i = some w
    | true => ∃ a kvs s, v = .ref a ∧ k = .str s ∧ H a = some (.dK kvs) ∧ valV kvs (Sum.inr s) = some w
  | _, _ => False
end

section
variable {X : Cx} {xc : Str → Value} {T : Tab} {W : WX} {cs path : List CE} {r : Nat} {m : Mt}
theorem tA.bindE {K : PySem.W.Frag} {L L' : List Nat} {σ : St} {H : Hp} {env : Env} {fps : Nat → List Addr} {io : List Bool} {f : List Val × Env → R (Val × Env)} {Q : VK} {Q1 : List V → Hp → Prop} (hL : ∀ i ∈ L, i ∈ L') (R : ER K H σ env fps) (P : PostR K xc W L σ H env fps ((evs T io cs L' env).bind f) Q)
    (k : ∀ xs env1 vs H1 fps1 fpl, evs T io cs L' env = .ok (xs, env1) → Step L' H env fps H1 env1 fps1 → ER K H1 σ env1 fps1 → VsOk K H1 σ env1 fps1 io vs xs fpl → BndS L' H env fps xs fpl → PostR K xc W L σ H env fps (f (xs, env1)) Q → Q1 vs H1) : tA K xc T W io cs σ H Q1 := by
  refine ⟨L', env, fps, R, ?_⟩
  cases e : evs T io cs L' env with
  | ok q =>
    rw [e] at P
    obtain ⟨x, env1⟩ := q
    exact fun v H1 fps1 fp s1 r1 v1 b1 => k x env1 v H1 fps1 fp e s1 r1 v1 b1 P
  | ex n e' => rw [e] at P; exact fun H' fps' s1 r1 => P H' fps' (s1.mono hL) r1
  | no => rw [e] at P; exact P
open Classical in
theorem mut_main {K : PySem.W.Frag} {σ : St} {H : Hp} {Q : VK} (hpl : path.length ≤ 1) (hal : cs.length ≤ 1) (h : tI K xc T W (.mut m r path cs) σ H Q) : ∃ v0, σ[r]? = some (some v0) ∧ ∃ b : Bool, tA K xc T W [] path σ H fun kvs H1 => ∃ w, WalkB b H1 v0 kvs w ∧ (∃ p xs, w = .ref p ∧ H1 p = some (.lst xs)) ∧
    tA K xc T W [] cs σ H1 fun us H2 => rM m w us H2 Q := by
  obtain ⟨L, env, fps, R, P⟩ := h
  simp only [ev] at P
  split at P
  · exact P.elim
  rename_i hc
  simp only [Bool.or_eq_true, decide_eq_true_eq, Bool.not_eq_true', not_or, Bool.not_eq_false] at hc
  obtain ⟨hrL, hok⟩ := hc
  obtain ⟨s, es, os, _, _⟩ := okP_at hok
  obtain ⟨v0, hσ, _, _⟩ := R.val r s es
  refine ⟨v0, hσ, decide (∃ xs env1 s dd, evs T [] path L env = .ok (xs, env1) ∧ env1[r]? = some (some s) ∧ s.d = .dict dd), ?_⟩
  cases epath : evs T [] path L env with
  | no => rw [epath] at P; exact P.elim
  | ex n e => rw [epath] at P; exact ⟨L, env, fps, R, by rw [epath]; exact P⟩
  | ok qq =>
  obtain ⟨ks, env1⟩ := qq
  rw [epath] at P
  refine ⟨L, env, fps, R, ?_⟩
  rw [epath]
  intro kvs H1 fps1 fpl S1 R1 V1 B1
  simp only [Iv.R.bind] at P
  split at P
  case isFalse => exact P.elim
  rename_i hc
  simp only [Bool.and_eq_true] at hc
  obtain ⟨hkimm, hok1⟩ := hc
  obtain ⟨s1, es1, os1, ks1, q1, eq1⟩ := okP_at hok1
  have hkl : ks.length ≤ 1 := by rw [evs_len epath]; exact hpl
  obtain ⟨v0', g1, g2, g3⟩ := R1.val r s1 es1
  rw [hσ] at g1; cases g1
  have hkeys := keys_of R1 V1 hkimm hkl
  obtain ⟨d', u⟩ := q1
  obtain ⟨w, d0, d0', fq, t1, t2, t3, t4, t5, t6, t7, t8, _⟩ := tgt hkeys g2 (R1.nd r s1 es1 os1) eq1
  have hlist : ∃ ds, d0 = .list ds := by
    cases d0 <;> simp [isL] at t3
    exact ⟨_, rfl⟩
  obtain ⟨ds, rfl⟩ := hlist
  refine ⟨w, ?_, ?_, ?_⟩
  · -- the way, by the sort of thing
    have hl2 := V1.len.1
    cases ks with
    | nil =>
      cases kvs with
      | nil => exact t1
      | cons _ _ => simp at hl2
    | cons k kr =>
      cases kr with
      | cons _ _ => simp at hkl
      | nil =>
        cases kvs with
        | nil => simp at hl2
        | cons kv kvr =>
          cases kvr with
          | cons _ _ => simp at hl2
          | nil =>
            show match decide _ with | false => _ | true => _
            rcases t1 with ⟨a, xs, i, z1, z2, z3, z4⟩ | ⟨a, kk, s, z1, z2, z3, z4⟩
            · rw [decide_eq_false]
              · exact ⟨a, xs, i, z1, z2, z3, z4⟩
              · rintro ⟨xs', env1', s', dd, e1, e2, e3⟩
                cases e1
                rw [es1] at e2; cases e2
                subst z1
                rw [e3] at g2
                generalize fps1 r = ff at g2
                cases g2 with
                | dK h _ _ => rw [z3] at h; cases h
                | dT h _ _ => rw [z3] at h; cases h
            · rw [decide_eq_true]
              · exact ⟨a, kk, s, z1, z2, z3, z4⟩
              · refine ⟨[k], env1, s1, ?_⟩
                subst z1
                generalize hdd : s1.d = dd0 at *
                generalize fps1 r = ff at g2
                cases g2 with
                | lst h _ => rw [z3] at h; cases h
                | dK h _ _ => exact ⟨_, rfl, es1, rfl⟩
                | dT h _ _ => exact ⟨_, rfl, es1, rfl⟩
                | tup h _ =>
                  refine absurd eq1 ?_
                  simp only [List.map_cons, List.map_nil]
                  generalize k.d = kd
                  cases kd <;> simp [atPath]
  · cases t2 with
    | lst h _ => exact ⟨_, _, rfl, h⟩
  · have P' := PostR.rebase R S1 R1 P
    have hLL : ∀ i ∈ L, i ∈ (if ks.isEmpty then L else r :: L) := fun i hi => by split; exact hi; exact List.mem_cons_of_mem _ hi
    refine tA.bindE hLL R1 P' fun args env2 us H2 fps2 fpl2 ea S2 R2 V2 B2 P2 => ?_
    have S2' := S2.mono hLL
    have B2' := B2.mono hLL
    -- the way still stands
    have keepW : WalkV H2 v0 kvs w := by
      by_cases hk : ks.map (·.d) = []
      · have : kvs = [] := by
          cases kvs with
          | nil => rfl
          | cons _ _ => rw [hk] at hkeys; simp [KeysV] at hkeys
        subst this
        exact t1
      · obtain ⟨a, ha, hin⟩ := t8 hk
        refine t1.keep fun b o e1 e2 => ?_
        rw [ha] at e1; cases e1
        have hne : ks.isEmpty = false := by
          cases ks with
          | nil => exact (hk rfl).elim
          | cons _ _ => rfl
        rw [hne] at S2
        refine S2.keep a o e2 (fun ⟨i, ⟨n, t, et, ot⟩, z⟩ => ?_) (by
          obtain ⟨o', e', m⟩ := R1.mv ⟨r, s1, es1, hin⟩
          rw [e2] at e'; cases e'; exact Mv.nt m)
        have hi : i ≠ r := fun z => n (z ▸ List.mem_cons_self)
        exact R1.dj r i s1 t (Ne.symm hi) es1 os1 et a hin z
    simp only at P2
    cases em : mv (r :: L) args env2 with
    | none => rw [em] at P2; exact P2.elim
    | some oo =>
    obtain ⟨o, env3⟩ := oo
    rw [em] at P2
    simp only [Iv.R.of] at P2
    cases ec : changed L r env3 (kAll o) (atPath (ks.map (·.d)) (mutD m (o.map (·.d)))) with
    | none => rw [ec] at P2; exact P2.elim
    | some zz =>
    obtain ⟨val, env4⟩ := zz
    rw [ec] at P2
    have hkeys2 : KeysV K H2 kvs (ks.map (·.d)) := hkeys.fix S2.fix
    -- the moved things
    obtain ⟨fu, S3, R3, hA, hfn, hfu, hkA⟩ : ∃ fu, Step L H1 env1 fps1 H2 env3 fps2 ∧ ER K H2 σ env3 fps2 ∧ ArgsV K H2 us (o.map (·.d)) fu ∧ fu.Nodup ∧ (∀ a ∈ fu, ¬ AnyA env3 fps2 a ∧ (OwnA L env1 fps1 a ∨ H1 a = none)) ∧ (kAll o = true → immL (o.map (·.d)) = true) := by
      have hal' : args.length ≤ 1 := by rw [evs_len ea]; exact hal
      match args, hal', V2, B2', em with
      | [], _, V2, _, em =>
        simp [mv] at em
        obtain ⟨rfl, rfl⟩ := em
        have : us = [] := by
          have := V2.len.1
          cases us with
          | nil => rfl
          | cons _ _ => simp at this
        subst this
        exact ⟨[], S2', R2, rfl, List.nodup_nil, fun a ha => (nomatch ha), fun _ => rfl⟩
      | [x], _, V2, B2', em =>
        obtain ⟨u, fq, rfl, rfl, hu⟩ := VsOk.one V2
        obtain ⟨y, rfl, y1, y2, y3, y4, y5, y6, y7, _⟩ := mv_one (L := L) (fun i hi => List.mem_cons_of_mem _ hi) R1 S2' R2 hu B2'.1 em
        refine ⟨fq, y3, y4, ?_, y6, y7, fun hk => ?_⟩
        · show Den K H2 u y.d fq
          rw [y1]; exact y5
        · have : x.k = .imm := by rw [← y2]; simpa [kAll] using hk
          have := hu.kd.imm' this
          simp [immL, y1, this]
    obtain ⟨w', H', yv, fps', fy, c1, c2, c3, c4, c5, c6⟩ := changed_ok R1 S3 R3 hσ hkeys2 (mut_eff hA hfn hkA) hfu ec
    rw [WalkV.same keepW c1]
    exact c2 Q (P2 yv H' fps' fy c3 c4 c5 c6)
end
end Iv

set_option maxRecDepth 100000
set_option maxHeartbeats 2000000
/-! IvN: statements. -/
namespace Iv
open PySem L2
variable [Tbl]

section
variable {K : PySem.W.Frag} {H H0 H1 H2 H' : Hp} {σ σ1 σ2 : St} {env env0 env1 env' : Env} {fps fps0 fps1 : Nat → List Addr} {A L L' : List Nat} {v w : V} {x y : Val} {fp fq : List Addr} {W : WX} {xc : Str → Value} {D : Ends} {r : RS} {T : Tab}
def PostS (K : PySem.W.Frag) (xc : Str → Value) (W : WX) (A L : List Nat) (σ : St) (H : Hp) (env : Env) (fps : Nat → List Addr) (r : RS) (D : Ends) : Prop := match r with
  | .nx e => ∀ σ' H' fps', StepS A L H env fps H' e fps' → ER K H' σ' e fps' → Agree A σ σ' → D.nx σ' H'
  | .bk e => ∀ σ' H' fps', StepS A L H env fps H' e fps' → ER K H' σ' e fps' → Agree A σ σ' → D.bk σ' H'
  | .ct e => ∀ σ' H' fps', StepS A L H env fps H' e fps' → ER K H' σ' e fps' → Agree A σ σ' → D.ct σ' H'
  | .rt x e => ∀ σ' H' fps' v fp, StepS A L H env fps H' e fps' → ER K H' σ' e fps' → Agree A σ σ' → VOk K H' σ' e fps' v x fp → Bnd L H env fps x fp → D.rt v H'
  | .ex n e => ∀ σ' H' fps', StepS A L H env fps H' e fps' → ER K H' σ' e fps' → Agree A σ σ' → W (xc n) none σ' H'
  | .no => False
theorem PostS.rebase (S : StepS A L H env fps H1 env1 fps1) (ag : Agree A σ σ1) (P : PostS K xc W A L σ H env fps r D) : PostS K xc W A L σ1 H1 env1 fps1 r D := by
  cases r with
  | nx e => exact fun σ' H' fps' s1 r1 a1 => P σ' H' fps' (S.trans s1) r1 (ag.trans a1)
  | bk e => exact fun σ' H' fps' s1 r1 a1 => P σ' H' fps' (S.trans s1) r1 (ag.trans a1)
  | ct e => exact fun σ' H' fps' s1 r1 a1 => P σ' H' fps' (S.trans s1) r1 (ag.trans a1)
  | rt x e => exact fun σ' H' fps' v fp s1 r1 a1 v1 b1 => P σ' H' fps' v fp (S.trans s1) r1 (ag.trans a1) v1 (b1.backS S)
  | ex n e => exact fun σ' H' fps' s1 r1 a1 => P σ' H' fps' (S.trans s1) r1 (ag.trans a1)
  | no => exact P
theorem PostS.mono (h : ∀ i ∈ L, i ∈ L') (P : PostS K xc W A L σ H env fps r D) : PostS K xc W A L' σ H env fps r D := by
  cases r with
  | nx e => exact fun σ' H' fps' s1 r1 a1 => P σ' H' fps' (s1.mono h) r1 a1
  | bk e => exact fun σ' H' fps' s1 r1 a1 => P σ' H' fps' (s1.mono h) r1 a1
  | ct e => exact fun σ' H' fps' s1 r1 a1 => P σ' H' fps' (s1.mono h) r1 a1
  | rt x e => exact fun σ' H' fps' v fp s1 r1 a1 v1 b1 => P σ' H' fps' v fp (s1.mono h) r1 a1 v1 (b1.mono h)
  | ex n e => exact fun σ' H' fps' s1 r1 a1 => P σ' H' fps' (s1.mono h) r1 a1
  | no => exact P
def tS (K : PySem.W.Frag) (xc : Str → Value) (T : Tab) (W : WX) (A : List Nat) (c : CS) : TS := fun D σ H => ∃ L env fps, ER K H σ env fps ∧ PostS K xc W A L σ H env fps (exec T c L env) D
def tSs (K : PySem.W.Frag) (xc : Str → Value) (T : Tab) (W : WX) (A : List Nat) (cs : List CS) : TS := fun D σ H => ∃ L env fps, ER K H σ env fps ∧ PostS K xc W A L σ H env fps (execs T cs L env) D
theorem rs_bind {c : CE} {f : Val × Env → RS} {Q1 : VK} (hL : ∀ i ∈ L, i ∈ L') (R : ER K H σ env fps) (P : PostS K xc W A L σ H env fps ((ev T c L' env).rs f) D)
    (k : ∀ x env1 v H1 fps1 fp, Step L' H env fps H1 env1 fps1 → ER K H1 σ env1 fps1 → VOk K H1 σ env1 fps1 v x fp → Bnd L' H env fps x fp → PostS K xc W A L σ H env fps (f (x, env1)) D → Q1 v H1) : tI K xc T W c σ H Q1 := by
  refine ⟨L', env, fps, R, ?_⟩
  cases e : ev T c L' env with
  | ok q =>
    rw [e] at P
    obtain ⟨x, env1⟩ := q
    exact fun v H1 fps1 fp s1 r1 v1 b1 => k x env1 v H1 fps1 fp s1 r1 v1 b1 P
  | ex n e' => rw [e] at P; exact fun H' fps' s1 r1 => P σ H' fps' (s1.mono hL).toS r1 Agree.refl
  | no => rw [e] at P; exact P
theorem rs_binds {io : List Bool} {cs : List CE} {f : List Val × Env → RS} {Q1 : List V → Hp → Prop} (hL : ∀ i ∈ L, i ∈ L') (R : ER K H σ env fps) (P : PostS K xc W A L σ H env fps ((evs T io cs L' env).rs f) D)
    (k : ∀ xs env1 vs H1 fps1 fpl, evs T io cs L' env = .ok (xs, env1) → Step L' H env fps H1 env1 fps1 → ER K H1 σ env1 fps1 → VsOk K H1 σ env1 fps1 io vs xs fpl → BndS L' H env fps xs fpl → PostS K xc W A L σ H env fps (f (xs, env1)) D → Q1 vs H1) : tA K xc T W io cs σ H Q1 := by
  refine ⟨L', env, fps, R, ?_⟩
  cases e : evs T io cs L' env with
  | ok q =>
    rw [e] at P
    obtain ⟨x, env1⟩ := q
    exact fun v H1 fps1 fp s1 r1 v1 b1 => k x env1 v H1 fps1 fp e s1 r1 v1 b1 P
  | ex n e' => rw [e] at P; exact fun H' fps' s1 r1 => P σ H' fps' (s1.mono hL).toS r1 Agree.refl
  | no => rw [e] at P; exact P
end

section
variable {X : Cx} {xc : Str → Value} {T : Tab} {W : WX} {A : List Nat} {e a b : Expr} {ce ca cb : CE} {pos : Pos} {st : Stmt} {sts : List Stmt} {c : CS} {cs body : List CS} {tg : Expr} {tgc : Tg} {D : Ends}
theorem PS.weak {t t' : TS} (h : PS X st t) (k : ∀ D σ H, t' D σ H → t D σ H) : PS X st t' := ⟨fun pins s σ H D I q => h.run pins s σ H D I (k _ _ _ q)⟩
theorem PSs.weak {t t' : TS} (h : PSs X sts t) (k : ∀ D σ H, t' D σ H → t D σ H) : PSs X sts t' := ⟨fun pins s σ H D I q => h.run pins s σ H D I (k _ _ _ q)⟩
theorem ss_bad : PS X st (tS X.K xc T W A .bad) := ⟨fun _ _ _ _ _ _ h => by obtain ⟨_, _, _, _, h⟩ := h; exact h.elim⟩
theorem sss_nil : PSs X [] (tSs X.K xc T W A []) := PSs.weak pss_nil fun D σ H ⟨L, env, fps, R, P⟩ => P σ H fps StepS.refl R Agree.refl
theorem sss_cons (h1 : PS X st (tS X.K xc T W A c)) (h2 : PSs X sts (tSs X.K xc T W A cs)) : PSs X (st :: sts) (tSs X.K xc T W A (c :: cs)) := by
  refine PSs.weak (pss_cons h1 h2) fun D σ H ⟨L, env, fps, R, P⟩ => ⟨L, env, fps, R, ?_⟩
  simp only [execs] at P
  cases e : exec T c L env with
  | nx e1 => rw [e] at P; exact fun σ' H' fps' s1 r1 a1 => ⟨L, e1, fps', r1, PostS.rebase s1 a1 P⟩
  | bk e1 => rw [e] at P; exact P
  | ct e1 => rw [e] at P; exact P
  | rt x e1 => rw [e] at P; exact P
  | ex n e1 => rw [e] at P; exact P
  | no => rw [e] at P; exact P
theorem ss_pass : PS X (.Pass pos) (tS X.K xc T W A .pass) := PS.weak ps_pass fun D σ H ⟨L, env, fps, R, P⟩ => P σ H fps StepS.refl R Agree.refl
theorem ss_doc {x j pos pos'} : PS X (.Expr (.Constant (.str x) j pos) pos') (tS X.K xc T W A .pass) := PS.weak ps_doc fun D σ H ⟨L, env, fps, R, P⟩ => P σ H fps StepS.refl R Agree.refl
theorem ss_brk : PS X (.Break pos) (tS X.K xc T W A .brk) := PS.weak ps_break fun D σ H ⟨L, env, fps, R, P⟩ => P σ H fps StepS.refl R Agree.refl
theorem ss_cnt : PS X (.Continue pos) (tS X.K xc T W A .cnt) := PS.weak ps_continue fun D σ H ⟨L, env, fps, R, P⟩ => P σ H fps StepS.refl R Agree.refl
theorem ss_expr (he : Sd X xc T W e ce) (hs : swapsWith e none pos.line X.env = pure false) : PS X (.Expr e pos) (tS X.K xc T W A (.expr ce)) := by
  refine PS.weak (ps_expr he.pe hs) fun D σ H ⟨L, env, fps, R, P⟩ => ?_
  simp only [exec] at P
  exact rs_bind (fun _ h => h) R P fun x env1 v H1 fps1 fp S1 R1 V1 B1 P1 => P1 σ H1 fps1 S1.toS R1 Agree.refl
theorem ss_ret (he : Sd X xc T W e ce) : PS X (.Return (some e) pos) (tS X.K xc T W A (.ret ce)) := by
  refine PS.weak (ps_ret he.pe) fun D σ H ⟨L, env, fps, R, P⟩ => ?_
  simp only [exec] at P
  exact rs_bind (fun _ h => h) R P fun x env1 v H1 fps1 fp S1 R1 V1 B1 P1 => P1 σ H1 fps1 v fp S1.toS R1 Agree.refl V1 B1
theorem ss_retN : PS X (.Return none pos) (tS X.K xc T W A .retN) := by
  refine PS.weak ps_retN fun D σ H ⟨L, env, fps, R, P⟩ => ?_
  exact P σ H fps .non [] StepS.refl R Agree.refl ⟨rfl, .non, List.nodup_nil, fun a ha => nomatch ha⟩ fun a ha => nomatch ha
theorem asg_red {te : TE} (k : ∀ σ H Q, tI X.K xc T W ce σ H Q → te σ H Q) {σ : St} {H : Hp} (h : tS X.K xc T W A (.asg tgc ce) D σ H) : tAsg te (gI X.K A tgc) D σ H := by
  obtain ⟨L, env, fps, R, P⟩ := h
  simp only [exec] at P
  refine k _ _ _ (rs_bind (fun _ h => h) R P fun x env1 v H1 fps1 fp S1 R1 V1 B1 P1 => ?_)
  cases ea : asgT L tgc x env1 with
  | none => simp only [ea] at P1; exact P1.elim
  | some env' =>
    simp only [ea] at P1
    exact ⟨L, env1, fps1, x, fp, env', R1, V1, ea, fun σ' fps' q R' ag _ => P1 σ' H1 fps' (S1.toS.asg (fun _ h => h) q B1 (V1.base (A := A) S1.toS B1)) R' ag⟩
theorem ss_asg (he : Sd X xc T W e ce) (hg : PG X tg (gI X.K A tgc)) (hs : swapsWithSole [tg] e pos.line X.env = pure false) (hw : swappedStores [tg] e X.env = pure none)
    (h1 : (assignEach [tg] X.env).map (·.2) = [assign tg X.env]) : PS X (.Assign [tg] e pos) (tS X.K xc T W A (.asg tgc ce)) :=
  PS.weak (ps_asg he.pe hg hs hw h1) fun D σ H h => asg_red (fun _ _ _ q => q) h
/-- several values stored, each in its name -/
theorem VOk.keptAsg {K : PySem.W.Frag} {H : Hp} {σ σ' : St} {env env' : Env} {fps fps' : Nat → List Addr} {L : List Nat} {u : V} {x y : Val} {fp fq : List Addr} (hy : y.p = .fr ∨ y.p = .sh) (h : VOk K H σ env fps u y fq) (q : Asg A L env fps x fp env' fps') (hx : x.p = .fr ∨ x.p = .sh) (ap : Ap x.p y.p → ∀ a ∈ fp, a ∉ fq) : VOk K H σ' env' fps' u y fq := by
  obtain ⟨k, p, d⟩ := y
  rcases hy with rfl | rfl
  · refine ⟨h.1, h.2.1, h.2.2.1, fun a ha z => ?_⟩
    rcases q.any a z with z | z
    · exact h.2.2.2 a ha z
    · rcases hx with hx | hx
      · exact ap (.inl ⟨hx, .inl rfl⟩) a z ha
      · exact ap (.inr ⟨hx, rfl⟩) a z ha
  · refine ⟨h.1, h.2.1, fun a ha j s e o z => ?_⟩
    rcases q.own j s e o a z with ⟨s', e', o', z'⟩ | ⟨z1, z2, _⟩
    · exact h.2.2 a ha j s' e' o' z'
    · exact ap (.inl ⟨z1, .inr rfl⟩) a z2 ha
theorem store_plain {L : List Nat} {i : Nat} {x : Val} {env : Env} (h : x.p = .fr ∨ x.p = .sh) : store L i x env = some (env.set i (some ⟨x.k, decide (x.p = .fr), x.d⟩)) := by
  obtain ⟨k, p, d⟩ := x
  rcases h with rfl | rfl <;> rfl
theorem ss_par {i j : Nat} {x y : Str} {px py pt : Pos} {kt k2 pt2} (hc : X.calm = true) (hN : X.N.Nodup) (hi : X.N[i]? = some x) (hj : X.N[j]? = some y) (hij : i ≠ j)
    (hx : X.env.scope.names.lookup x = some .local) (hy : X.env.scope.names.lookup y = some .local) (ha : PA X [a, b] (tA X.K xc T W [] [ca, cb])) (hAi : i ∈ A) (hAj : j ∈ A)
    (hw : swappedStores [.Tuple [.Name x px, .Name y py] kt pt] (.Tuple [a, b] k2 pt2) X.env = pure (some [x, y]))
    (hs : swapsWithSole [.Tuple [.Name x px, .Name y py] kt pt] (.Tuple [a, b] k2 pt2) pos.line X.env = pure false) :
    PS X (.Assign [.Tuple [.Name x px, .Name y py] kt pt] (.Tuple [a, b] k2 pt2) pos) (tS X.K xc T W A (.par i j ca cb)) := by
  refine ⟨fun pins s σ H D I h => (ps_par hc hN hi hj hij hx hy ha hw hs).run pins s σ H D I ?_⟩
  have hlen := I.len
  obtain ⟨L, env, fps, R, P⟩ := h
  simp only [exec] at P
  refine rs_binds (fun _ h => h) R P fun xs env1 vs H1 fps1 fpl ee S1 R1 V1 B1 P1 => ?_
  obtain ⟨x1, y1, rfl⟩ := len2 (evs_len ee)
  obtain ⟨v, w, fp, fq, rfl, rfl, hV, hW, _⟩ := VsOk.two V1
  refine ⟨v, w, rfl, ?_⟩
  cases es : esc L [x1, y1] env1 with
  | none => simp only [es] at P1; exact P1.elim
  | some z =>
    obtain ⟨zs, env2⟩ := z
    obtain ⟨S2, R2, V2, B2, hp, hz⟩ := esc_ok R S1 R1 V1 B1 es
    subst hz
    simp only [es, Iv.R.of, Iv.R.rs, List.map_cons, List.map_nil] at P1
    obtain ⟨v', w', fp', fq', e1, e2, hV2, hW2, ap⟩ := VsOk.two V2
    cases e1; cases e2
    have px := hp (share x1) (by simp)
    have py := hp (share y1) (by simp)
    have hil : i < env2.length := by rw [← R2.len, hlen]; exact (List.getElem?_eq_some_iff.mp hi).1
    have hjl : j < env2.length := by rw [← R2.len, hlen]; exact (List.getElem?_eq_some_iff.mp hj).1
    obtain ⟨fps3, q3, R3, _⟩ := store_ok (A := A) R2 hV2 hil hAi (store_plain (L := L) px)
    have hW3 := VOk.keptAsg (σ' := σ.set i (some v)) py hW2 q3 px fun h => ap 0 _ _ rfl rfl h
    obtain ⟨fps4, q4, R4, _⟩ := store_ok (A := A) R3 hW3 (by rw [List.length_set]; exact hjl) hAj (store_plain (L := L) py)
    have b2 : ∀ a ∈ fp, AnyA env fps a ∨ H a = none := hV2.base (A := A) S2.toS B2.1
    have b3 : ∀ a ∈ fq, AnyA env fps a ∨ H a = none := hW2.base (A := A) S2.toS B2.2.1
    have SA := (S2.toS (A := A)).asg (fun _ h => h) q3 B2.1 b2
    have SB := SA.asg (fun _ h => h) q4 B2.2.1 b3
    exact P1 _ H1 fps4 SB R4 ((Agree.set hAi _).trans (Agree.set hAj _))
theorem ss_ite {t : Expr} {ct : CE} {p q : List Stmt} {cp cq : List CS} (ht : Sd X xc T W t ct) (hp : PSs X p (tSs X.K xc T W A cp)) (hq : PSs X q (tSs X.K xc T W A cq)) : PS X (.If t p q pos) (tS X.K xc T W A (.ite ct cp cq)) := by
  refine PS.weak (ps_if ht.pt hp hq) fun D σ H ⟨L, env, fps, R, P⟩ => ?_
  simp only [exec] at P
  refine rs_bind (fun _ h => h) R P fun x env1 v H1 fps1 fp S1 R1 V1 B1 P1 => ?_
  obtain ⟨k, p, d⟩ := x
  cases d with
  | bool b =>
    refine ⟨b, den_bool (V1.den R1), ?_⟩
    cases b with
    | true => exact iteT ⟨L, env1, fps1, R1, PostS.rebase S1.toS Agree.refl P1⟩
    | false => exact iteF ⟨L, env1, fps1, R1, PostS.rebase S1.toS Agree.refl P1⟩
  | _ => exact P1.elim
theorem ss_for {ik : Ik} {it : List CE} {iter : Expr} {bs : List Stmt} (hp : PassesOwn (model X.prog X.w) X.A X.env X.xe) (hc : X.calm = true) (hi : PI X tg iter (tIt X.K xc T W ik it)) (hg : PG X tg (gI X.K A tgc)) (hb : PSs X bs (tSs X.K xc T W A body))
    (hs : ∀ x, foldedSetIterable iter X.env x = pure x) : PS X (.For tg iter bs [] pos) (tS X.K xc T W A (.forS tgc ik it body)) := by
  refine PS.weak (ps_for hp hc hi hg hb hs) fun D σ H ⟨L, env, fps, R0, P⟩ => ⟨L, env, fps, R0, ?_⟩
  simp only [exec] at P
  cases e1 : evs T [] it L env with
  | no => rw [e1] at P; exact P.elim
  | ex n e => rw [e1] at P; exact fun H' fps' s1 r1 => P σ H' fps' s1.toS r1 Agree.refl
  | ok q =>
    obtain ⟨xs, env1⟩ := q
    rw [e1] at P
    simp only [Iv.R.rs] at P ⊢
    cases e2 : escK ik L xs env1 with
    | none => rw [e2] at P; exact P.elim
    | some z =>
      obtain ⟨ws, env2⟩ := z
      rw [e2] at P
      simp only [Iv.R.of] at P
      cases e3 : itsOf ik ws with
      | none => rw [e3] at P; exact P.elim
      | some items =>
        rw [e3] at P
        simp only at P
        refine ⟨ws, env2, items, rfl, e3, fun J St Y S H1 fps2 S2 R2 IO => ?_⟩
        generalize hL : lks ws L = L' at P IO
        have hLL : ∀ i ∈ L, i ∈ L' := by rw [← hL]; exact lks_sub ws L
        refine for_it IO.walk (fun i σc Hc => ∃ envc fpsc, ER X.K Hc σc envc fpsc ∧ StepN A L' H1 env2 fps2 Hc envc fpsc ∧ StepS A L H env fps Hc envc fpsc ∧ Agree A σ σc ∧ PostS X.K xc W A L σ H env fps (forL L' tgc (fun e => execs T body L' e) (items.drop i) envc) D) ?_ ?_ ?_ ?_
        · exact ⟨env2, fps2, R2, StepN.refl, S2.toS, Agree.refl, P⟩
        · rintro i σc Hc hi ⟨envc, fpsc, Rc, Nc, Sc, ag, hP⟩
          exact IO.st Hc ⟨fun a o hs e t => Nc.keep a o e (fun q => IO.own a hs q) t, fun a o e f => Nc.fix a o e f⟩
        · rintro i x σc Hc Hd hi ⟨envc, fpsc, Rc, Nc, Sc, ag, hP⟩ hy
          have kept : KeptS S H1 Hc := ⟨fun a o hs e t => Nc.keep a o e (fun q => IO.own a hs q) t, fun a o e f => Nc.fix a o e f⟩
          obtain ⟨exd, y, fq, hyi, hyd, hyk, hyw, hys⟩ := IO.it i Hc x Hd hi kept hy
          have hdrop : items.drop i = y :: items.drop (i + 1) := by
            rw [List.drop_eq_getElem_cons hi]
            rw [List.getElem?_eq_getElem hi] at hyi
            cases hyi; rfl
          rw [hdrop] at hP
          unfold forL at hP
          have Rd := Rc.ext exd
          have hfq : y.p = .fr → fq = [] := fun h => by
            rcases hyw with ⟨h1, h2⟩ | h2
            · rw [h1] at hyk
              exact hyd.imm hyk
            · rw [h2] at h; cases h
          have hfS : ∀ a ∈ fq, S a := fun a ha => by
            rcases hyw with ⟨h1, h2⟩ | h2
            · rw [hfq h2] at ha; cases ha
            · exact hys h2 a ha
          have ownS : ∀ a, (∃ z ∈ items, z.p = .sh) → S a → ∀ j s, envc[j]? = some (some s) → s.own = true → a ∉ fpsc j := fun a hz hs j s ej oj hb => by
            rcases Nc.own j s ej oj a hb with z | z | ⟨hj, t, et, ot, z⟩
            · exact IO.own a hs z
            · obtain ⟨o, e⟩ := IO.there a hs
              rw [e] at z; cases z
            · exact IO.deep hz a hs j t et ot z
          have hV : VOk X.K Hd σc envc fpsc x y fq := by
            obtain ⟨k, p, d⟩ := y
            rcases hyw with ⟨h1, h2⟩ | h2
            · cases h1; cases h2
              have z := hfq rfl
              subst z
              exact ⟨hyk, hyd, List.nodup_nil, fun a ha => nomatch ha⟩
            · cases h2
              exact ⟨hyk, hyd, fun a ha j s ej oj => ownS a ⟨_, List.mem_of_getElem? hyi, rfl⟩ (hfS a ha) j s ej oj⟩
          have SdB : StepS A L H env fps Hd envc fpsc := Sc.trans exd.step.toS
          have NdB : StepN A L' H1 env2 fps2 Hd envc fpsc := Nc.trans exd.step.toN
          have bq : Bnd L H env fps y fq := by
            obtain ⟨k, p, d⟩ := y
            rcases hyw with ⟨h1, h2⟩ | h2
            · cases h1; cases h2
              rw [hfq rfl]
              exact fun a ha => nomatch ha
            · cases h2
              exact fun a ha => IO.any a (hfS a ha)
          cases ea : asgT L' tgc y envc with
          | none => rw [ea] at hP; exact hP.elim
          | some envA =>
            rw [ea] at hP
            simp only at hP
            refine ⟨L', envc, fpsc, y, fq, envA, Rd, hV, ea, fun σ2 fpsA qA RA aA wA => ⟨L', envA, fpsA, RA, ?_⟩⟩
            have SA : StepS A L H env fps Hd envA fpsA := SdB.asg hLL qA bq fun a ha => IO.any a (hfS a ha)
            have NA : StepN A L' H1 env2 fps2 Hd envA fpsA := NdB.asg (fun _ h => h) qA fun h a ha => by rw [hfq h] at ha; cases ha
            have agA := ag.trans aA
            cases er : execs T body L' envA with
            | nx e => rw [er] at hP; exact fun σ' H' fps' s1 r1 a1 => ⟨e, fps', r1, NA.trans s1.toStepN, SA.trans (s1.mono hLL), agA.trans a1, hP⟩
            | ct e => rw [er] at hP; exact fun σ' H' fps' s1 r1 a1 => ⟨e, fps', r1, NA.trans s1.toStepN, SA.trans (s1.mono hLL), agA.trans a1, hP⟩
            | bk e => rw [er] at hP; exact fun σ' H' fps' s1 r1 a1 => hP σ' H' fps' (SA.trans (s1.mono hLL)) r1 (agA.trans a1)
            | rt x e => rw [er] at hP; exact fun σ' H' fps' v fp s1 r1 a1 v1 b1 => hP σ' H' fps' v fp (SA.trans (s1.mono hLL)) r1 (agA.trans a1) v1 ((b1.mono hLL).backS SA)
            | ex n e => rw [er] at hP; exact fun σ' H' fps' s1 r1 a1 => hP σ' H' fps' (SA.trans (s1.mono hLL)) r1 (agA.trans a1)
            | no => rw [er] at hP; exact hP.elim
        · rintro σc Hc ⟨envc, fpsc, Rc, Nc, Sc, ag, hP⟩
          rw [List.drop_length] at hP
          exact hP σc Hc fpsc Sc Rc ag
theorem ss_whl {t : Expr} {ct : CE} {bs : List Stmt} (hp : PassesOwn (model X.prog X.w) X.A X.env X.xe) (ht : Sd X xc T W t ct) (hb : PSs X bs (tSs X.K xc T W A body)) : PS X (.While t bs [] pos) (tS X.K xc T W A (.whl ct body)) := by
  refine PS.weak (ps_while hp ht.pt hb) fun D σ H ⟨L, env, fps, R0, P⟩ => ?_
  simp only [exec] at P
  refine ⟨fun m σc Hc => ∃ envc fpsc, ER X.K Hc σc envc fpsc ∧ PostS X.K xc W A L σc Hc envc fpsc (whlL (fun e => ev T ct L e) (fun e => execs T body L e) m envc) D, ⟨T.fuel, env, fps, R0, P⟩, ?_⟩
  rintro m σc Hc ⟨envc, fpsc, Rc, hP⟩
  cases m with
  | zero => exact hP.elim
  | succ m =>
    simp only [whlL] at hP
    refine ⟨L, envc, fpsc, Rc, ?_⟩
    cases e1 : ev T ct L envc with
    | no => rw [e1] at hP; exact hP.elim
    | ex n e => rw [e1] at hP; exact fun H' fps' s1 r1 => hP σc H' fps' s1.toS r1 Agree.refl
    | ok q =>
      obtain ⟨⟨k, p, d⟩, env1⟩ := q
      rw [e1] at hP
      simp only at hP
      intro v H1 fps1 fp S1 R1 V1 B1
      cases d with
      | bool b =>
        refine ⟨b, den_bool (V1.den R1), ?_⟩
        cases b with
        | false => exact iteF (hP σc H1 fps1 S1.toS R1 Agree.refl)
        | true =>
          refine iteT ⟨fun σ' H' => ∃ envc fpsc, ER X.K H' σ' envc fpsc ∧ PostS X.K xc W A L σ' H' envc fpsc (whlL (fun e => ev T ct L e) (fun e => execs T body L e) m envc) D, fun σ' H' h => ⟨m, Nat.lt_succ_self _, h⟩, L, env1, fps1, R1, ?_⟩
          simp only at hP
          cases er : execs T body L env1 with
          | nx e => rw [er] at hP; exact fun σ' H' fps' s1 r1 a1 => ⟨e, fps', r1, PostS.rebase (S1.toS.trans s1) a1 hP⟩
          | ct e => rw [er] at hP; exact fun σ' H' fps' s1 r1 a1 => ⟨e, fps', r1, PostS.rebase (S1.toS.trans s1) a1 hP⟩
          | bk e => rw [er] at hP; exact fun σ' H' fps' s1 r1 a1 => hP σ' H' fps' (S1.toS.trans s1) r1 a1
          | rt x e => rw [er] at hP; exact fun σ' H' fps' v fp s1 r1 a1 v1 b1 => hP σ' H' fps' v fp (S1.toS.trans s1) r1 a1 v1 (b1.backS (A := A) S1.toS)
          | ex n e => rw [er] at hP; exact fun σ' H' fps' s1 r1 a1 => hP σ' H' fps' (S1.toS.trans s1) r1 a1
          | no => rw [er] at hP; exact hP.elim
      | _ => exact hP.elim
end
end Iv

set_option maxRecDepth 100000
set_option maxHeartbeats 2000000
/-! IvO: rules: stores, methods, built-in functions, comprehensions. -/
namespace Iv
open PySem L2
variable [Tbl]

section
variable {X : Cx} {xc : Str → Value} {T : Tab} {W : WX} {A : List Nat} {e a b k : Expr} {ce ca cb ck : CE} {pos cpos apos sp p : Pos} {D : Ends} {m : Mt} {r : Nat} {x name : Str} {id : String}
theorem tA_nil {K : PySem.W.Frag} {σ : St} {H : Hp} {Q : List V → Hp → Prop} (h : tA K xc T W [] [] σ H Q) : Q [] H := by
  obtain ⟨L, env, fps, R, P⟩ := h
  simp only [evs] at P
  exact P [] H fps [] Step.refl R trivial trivial
theorem tA_one {K : PySem.W.Frag} {σ : St} {H : Hp} {Q : List V → Hp → Prop} (h : tA K xc T W [] [ca] σ H Q) : tI K xc T W ca σ H fun v H1 => Q [v] H1 := by
  obtain ⟨L, env, fps, R, P⟩ := h
  rw [evs_one] at P
  refine ⟨L, env, fps, R, ?_⟩
  cases e : ev T ca L env with
  | ok q =>
    rw [e] at P
    exact fun v H' fps' fp s1 r1 v1 b1 => P [v] H' fps' [fp] s1 r1 ⟨v1, fun k y fq e => by simp at e, trivial⟩ ⟨b1, trivial⟩
  | ex n e' => rw [e] at P; exact P
  | no => rw [e] at P; exact P
theorem ty_lst {K : PySem.W.Frag} {H : Hp} {q : Addr} {xs : List V} (h : H q = some (.lst xs)) : tyV K "list" (.ref q) H := Or.inl ⟨rfl, xs, SqL.of h⟩
theorem gI_name {K : PySem.W.Frag} {σ : St} {H : Hp} {i : Nat} {v : V} {Q : St → Hp → Prop} (hA : i ∈ A) (hl : i < σ.length) (h : gI K A (.nm i) v σ H Q) : Q (σ.set i (some v)) H := by
  obtain ⟨L, env, fps, x, fp, env', R, hV, e, k⟩ := h
  obtain ⟨fps', S', R', w⟩ := store_ok (A := A) R hV (by rw [← R.len]; exact hl) hA e
  exact k _ fps' S' R' (Agree.set hA _) w
/-! ### methods that change a list -/
section
variable (pa : PlainAttrs "list") (slot : Slot "list" name id) (hty : typeOf (.builtin id) = pure (.type "method_descriptor")) (hm : MtR X id (rM m))
  (hN : X.N[r]? = some x) (hv : Vis X.env.scope x) (hd : (x == ("__debug__" : Str)) = false) (hcd : (x == ("__classdict__" : Str)) = false) (hline : (apos.endLine == cpos.line) = true)
include pa slot hty hm hN hv hd hcd hline
/-- x.m(a) -/
theorem sd_mutA0 (ha : Sd X xc T W a ca) (hbase : attributeBase (.Name x p) name X.env (eval (.Name x p) X.env) = eval (.Name x p) X.env) (hs : starEach [a] X.env = (false, eval a X.env) :: starEach [] X.env) : Sd X xc T W (.Call (.Attribute (.Name x p) name apos) [a] [] cpos) (.mut m r [] [ca]) := by
  refine Sd.mk' (pe_bm pa slot hty hm (pe_var hN hv hd hcd) (pa_cons ha.pe pa_nil hs) hbase (by rw [hs]; rfl) hline hs rfl) fun σ H Q h => ?_
  obtain ⟨v0, h0, bb, h⟩ := mut_main (Nat.zero_le _) (Nat.le_refl _) h
  obtain ⟨w, hw, ⟨q, xs, rfl, hl⟩, h2⟩ := tA_nil h
  obtain rfl : V.ref q = v0 := hw
  exact ⟨_, h0, ty_lst hl, tA_one h2⟩
/-- x.m() -/
theorem sd_mutN0 (hbase : attributeBase (.Name x p) name X.env (eval (.Name x p) X.env) = eval (.Name x p) X.env) : Sd X xc T W (.Call (.Attribute (.Name x p) name apos) [] [] cpos) (.mut m r [] []) := by
  refine Sd.mk' (pe_bm0 pa slot hty hm (pe_var hN hv hd hcd) hbase hline) fun σ H Q h => ?_
  obtain ⟨v0, h0, bb, h⟩ := mut_main (Nat.zero_le _) (Nat.zero_le _) h
  obtain ⟨w, hw, ⟨q, xs, rfl, hl⟩, h2⟩ := tA_nil h
  obtain rfl : V.ref q = v0 := hw
  exact ⟨_, h0, ty_lst hl, tA_nil h2⟩
/-- x[k].m(a) -/
theorem sd_mutA1 (hu : X.A.units + 1 < cLine) (hk : Sd X xc T W k ck) (ha : Sd X xc T W a ca) (hs1 : NoSl k) (hbase : attributeBase (.Subscript (.Name x p) k sp) name X.env (eval (.Subscript (.Name x p) k sp) X.env) = eval (.Subscript (.Name x p) k sp) X.env)
    (hs : starEach [a] X.env = (false, eval a X.env) :: starEach [] X.env) : Sd X xc T W (.Call (.Attribute (.Subscript (.Name x p) k sp) name apos) [a] [] cpos) (.mut m r [ck] [ca]) := by
  have main : PE X (.Call (.Attribute (.Subscript (.Name x p) k sp) name apos) [a] [] cpos) (tI X.K xc T W (.mut m r [ck] [ca])) := by
    refine PE.or (pe_bm pa slot hty hm (pe_ix ix_seq (pe_var hN hv hd hcd) hk.pe hs1) (pa_cons ha.pe pa_nil hs) hbase (by rw [hs]; rfl) hline hs rfl)
      (pe_bm pa slot hty hm (pe_dget hu (pe_var hN hv hd hcd) hk.pe hs1) (pa_cons ha.pe pa_nil hs) hbase (by rw [hs]; rfl) hline hs rfl) fun σ H Q h => ?_
    obtain ⟨v0, h0, bb, h⟩ := mut_main (Nat.le_refl _) (Nat.le_refl _) h
    cases bb with
    | false =>
      refine .inl ⟨v0, h0, (tA_one h).imp fun kv H1 ⟨w, hw, ⟨q, xs, e, hl⟩, h2⟩ => ?_⟩
      obtain ⟨l, ys, i, rfl, rfl, z1, z2⟩ := hw
      subst e
      exact .inl ⟨l, ys, i, _, rfl, rfl, SqL.of z1, z2, ty_lst hl, tA_one h2⟩
    | true =>
      refine .inr ⟨v0, h0, (tA_one h).imp fun kv H1 ⟨w, hw, ⟨q, xs, e, hl⟩, h2⟩ => ?_⟩
      obtain ⟨l, kvs, s, rfl, rfl, z1, z2⟩ := hw
      subst e
      refine ⟨l, _, rfl, ?_, ty_lst hl, tA_one h2⟩
      rw [← z2]
      exact DGet.k (k := Sum.inr s) z1
  exact ⟨main, pt_val main (by intro _; rfl)⟩
/-- x[k].m() -/
theorem sd_mutN1 (hu : X.A.units + 1 < cLine) (hk : Sd X xc T W k ck) (hs1 : NoSl k) (hbase : attributeBase (.Subscript (.Name x p) k sp) name X.env (eval (.Subscript (.Name x p) k sp) X.env) = eval (.Subscript (.Name x p) k sp) X.env) :
    Sd X xc T W (.Call (.Attribute (.Subscript (.Name x p) k sp) name apos) [] [] cpos) (.mut m r [ck] []) := by
  have main : PE X (.Call (.Attribute (.Subscript (.Name x p) k sp) name apos) [] [] cpos) (tI X.K xc T W (.mut m r [ck] [])) := by
    refine PE.or (pe_bm0 pa slot hty hm (pe_ix ix_seq (pe_var hN hv hd hcd) hk.pe hs1) hbase hline)
      (pe_bm0 pa slot hty hm (pe_dget hu (pe_var hN hv hd hcd) hk.pe hs1) hbase hline) fun σ H Q h => ?_
    obtain ⟨v0, h0, bb, h⟩ := mut_main (Nat.le_refl _) (Nat.zero_le _) h
    cases bb with
    | false =>
      refine .inl ⟨v0, h0, (tA_one h).imp fun kv H1 ⟨w, hw, ⟨q, xs, e, hl⟩, h2⟩ => ?_⟩
      obtain ⟨l, ys, i, rfl, rfl, z1, z2⟩ := hw
      subst e
      exact .inl ⟨l, ys, i, _, rfl, rfl, SqL.of z1, z2, ty_lst hl, tA_nil h2⟩
    | true =>
      refine .inr ⟨v0, h0, (tA_one h).imp fun kv H1 ⟨w, hw, ⟨q, xs, e, hl⟩, h2⟩ => ?_⟩
      obtain ⟨l, kvs, s, rfl, rfl, z1, z2⟩ := hw
      subst e
      refine ⟨l, _, rfl, ?_, ty_lst hl, tA_nil h2⟩
      rw [← z2]
      exact DGet.k (k := Sum.inr s) z1
  exact ⟨main, pt_val main (by intro _; rfl)⟩
end

/-! ### built-in functions by values -/
theorem sd_c1 {f : Pr} {y : Str} (hc : CallR X (.builtin id) (rC1 X.K f)) (hg : Gl X y) (hm : X.mg y = none) (hv : bootBuiltins y = some (.builtin id)) (ha : Sd X xc T W a ca) (hn : y ≠ "__name__") (hdb : (y == ("__debug__" : Str)) = false)
    (hs : starEach [a] X.env = (false, eval a X.env) :: starEach [] X.env) : Sd X xc T W (.Call (.Name y p) [a] [] pos) (.p1 f ca) :=
  Sd.mk' (pe_callB hc hg hm hv (pa_cons ha.pe pa_nil hs) hn hdb hs rfl) fun _ _ _ q => (p1_red q).imp fun v H' h => ⟨v, rfl, h⟩
theorem sd_t1 {f : Pr} {y : Str} (hc : CallR X (.type id) (rC1 X.K f)) (hg : Gl X y) (hm : X.mg y = none) (hv : bootBuiltins y = some (.type id)) (ha : Sd X xc T W a ca) (hn : y ≠ "__name__") (hdb : (y == ("__debug__" : Str)) = false)
    (hs : starEach [a] X.env = (false, eval a X.env) :: starEach [] X.env) : Sd X xc T W (.Call (.Name y p) [a] [] pos) (.p1 f ca) :=
  Sd.mk' (pe_callTy hc hg hm hv (pa_cons ha.pe pa_nil hs) hn hdb hs rfl) fun _ _ _ q => (p1_red q).imp fun v H' h => ⟨v, rfl, h⟩
theorem sd_c2 {f : Pr} {y : Str} (hc : CallR X (.builtin id) (rC2 X.K f)) (hg : Gl X y) (hm : X.mg y = none) (hv : bootBuiltins y = some (.builtin id)) (ha : Sd X xc T W a ca) (hb : Sd X xc T W b cb) (hn : y ≠ "__name__") (hdb : (y == ("__debug__" : Str)) = false)
    (hs : starEach [a, b] X.env = (false, eval a X.env) :: starEach [b] X.env) (hs2 : starEach [b] X.env = (false, eval b X.env) :: starEach [] X.env) (hpl : (backTo pos (starEach [b] X.env)).any (·.1) = false) : Sd X xc T W (.Call (.Name y p) [a, b] [] pos) (.p2 f ca cb) :=
  Sd.mk' (pe_callB hc hg hm hv (pa_cons ha.pe (pa_cons hb.pe pa_nil hs2) hs) hn hdb hs hpl) fun _ _ _ q => (p2_red q).imp fun v H' h => h.imp fun w H2 h => ⟨v, w, rfl, h⟩
/-! ### list(range(..)), tuple(range(..)) -/
theorem rgV_den {K : PySem.W.Frag} {H : Hp} (i j : Int) : DenL K H (rgV i j) (rangeD i j) [] := (range_den i _).1
theorem rgV_imm {K : PySem.W.Frag} (i j : Int) : immL (rangeD i j) = true := (range_den (K := K) (H := fun _ => none) i _).2
section
variable {lp rp lpos rpos : Pos} (G : Gd X) (hgr : Gl X "range") (hmr : X.mg "range" = none)
include G hgr hmr
theorem rg1_red {f : Pr} {o : List V → HO} {k : Kd} {mk : List PyData → PyData} (hf : ∀ kk n, pr1 f kk (.int n) = if rgOk 0 n then some (k, mk (rangeD 0 n)) else none) (hf2 : ∀ kk d r, pr1 f kk d = some r → ∃ n, d = .int n) (hne : ∀ {K : PySem.W.Frag} {H : Hp} {Q : VK} {ds : List PyData} {vs : List V} {p : Addr}, New K H (k, mk ds) Q → H p = none → DenL K H vs ds [] → immL ds = true → Q (.ref p) (upd H p (o vs)))
    {σ : St} {H : Hp} {Q : VK} (h : tI X.K xc T W (.p1 f ca) σ H Q) : tRg1 (tI X.K xc T W ca) σ H fun i j H1 => RgOk i j ∧ ∀ q, H1 q = none → Q (.ref q) (upd H1 q (o (rgV i j))) := by
  refine (p1_red h).imp fun v H1 ⟨kk, d, fp, r, hd, _, e, n⟩ => ?_
  obtain ⟨i, rfl⟩ := hf2 _ _ _ e
  cases hd
  rw [hf] at e
  split at e
  · rename_i hr
    cases e
    exact ⟨i, rfl, rgOk_ok hr, fun q hq => hne n hq (rgV_den 0 i) (rgV_imm (K := X.K) 0 i)⟩
  · cases e
theorem sd_lrange1 (hgl : Gl X "list") (hml : X.mg "list" = none) (ha : Sd X xc T W a ca) (hs : starEach [a] X.env = (false, eval a X.env) :: starEach [] X.env) : Sd X xc T W (.Call (.Name "list" lp) [.Call (.Name "range" rp) [a] [] rpos] [] lpos) (.p1 .lrange ca) :=
  Sd.mk' (pe_listRg G.calm hgl hml (prg_1 hgr hmr ha.pe hs)) fun σ H Q h => rg1_red G hgr hmr (o := .lst) (k := .flat) (mk := .list) (fun _ _ => rfl) (fun kk d r e => by cases d <;> first | exact ⟨_, rfl⟩ | simp [pr1] at e) (fun n hq l hi => n.lst hq l hi) h
theorem sd_trange1 (hgl : Gl X "tuple") (hml : X.mg "tuple" = none) (ha : Sd X xc T W a ca) (hs : starEach [a] X.env = (false, eval a X.env) :: starEach [] X.env) : Sd X xc T W (.Call (.Name "tuple" lp) [.Call (.Name "range" rp) [a] [] rpos] [] lpos) (.p1 .trange ca) :=
  Sd.mk' (pe_tupRg G.calm hgl hml (prg_1 hgr hmr ha.pe hs)) fun σ H Q h => rg1_red G hgr hmr (o := .tup) (k := .imm) (mk := .tuple) (fun _ _ => rfl) (fun kk d r e => by cases d <;> first | exact ⟨_, rfl⟩ | simp [pr1] at e) (fun n hq l hi => n.tup hq l hi) h
end
/-! ### comprehensions -/
theorem sd_comp0 {elt tg iter : Expr} {cs : List CE} {tgc : Tg} {ik : Ik} {scope : Scope} {own : List (Str × Nat)} {dp : Bool} (G : Gd X) (hi : PI X tg iter (tIt X.K xc T W ik cs)) (ok : BlkOk X.N X.env.scope scope own)
    (hg : ∀ (s : Shared) (H : Hp) (C : Addr) (cl : List (Str × Addr)) (fp : List Addr), PG (X.blk s H scope (compEnvC scope cl C X.env) fp) tg (gI X.K (own.map (·.2)) tgc))
    (he : ∀ (s : Shared) (H : Hp) (C : Addr) (cl : List (Str × Addr)) (fp : List Addr), PE (X.blk s H scope (compEnvC scope cl C X.env) fp) elt (tI X.K xc T WF ce)) (hs : ∀ x, foldedSetIterable iter X.env x = pure x) :
    Sd X xc T W (.ListComp elt [⟨tg, iter, [], 0⟩] scope pos) (.comp dp (own.map (·.2)) ce tgc ik cs (.con (.bool true))) := by
  refine Sd.mk' (pe_lc (tt := tB (tI X.K xc T WF (.con (.bool true)))) G.calm G.nd hi ok hg (fun s H C cl fp => ⟨fun pins s σ H Q I h => pts_nil.run pins s σ H Q I ?_⟩) he hs) fun σ H Q h => comp_red (fun _ _ _ q => q) h
  obtain ⟨L, env, fps, R, P⟩ := h
  obtain ⟨c, e, z⟩ := P (.bl true) _ fps [] Step.refl R ⟨rfl, .bl _, List.nodup_nil, fun a ha => nomatch ha⟩ fun a ha => nomatch ha
  cases e
  exact z
theorem sd_comp1 {elt tg iter t : Expr} {cc : CE} {cs : List CE} {tgc : Tg} {ik : Ik} {scope : Scope} {own : List (Str × Nat)} {dp : Bool} (G : Gd X) (hi : PI X tg iter (tIt X.K xc T W ik cs)) (ok : BlkOk X.N X.env.scope scope own)
    (hg : ∀ (s : Shared) (H : Hp) (C : Addr) (cl : List (Str × Addr)) (fp : List Addr), PG (X.blk s H scope (compEnvC scope cl C X.env) fp) tg (gI X.K (own.map (·.2)) tgc))
    (ht : ∀ (s : Shared) (H : Hp) (C : Addr) (cl : List (Str × Addr)) (fp : List Addr), PT (X.blk s H scope (compEnvC scope cl C X.env) fp) t (tB (tI X.K xc T WF cc)))
    (he : ∀ (s : Shared) (H : Hp) (C : Addr) (cl : List (Str × Addr)) (fp : List Addr), PE (X.blk s H scope (compEnvC scope cl C X.env) fp) elt (tI X.K xc T WF ce)) (hs : ∀ x, foldedSetIterable iter X.env x = pure x) :
    Sd X xc T W (.ListComp elt [⟨tg, iter, [t], 0⟩] scope pos) (.comp dp (own.map (·.2)) ce tgc ik cs cc) :=
  Sd.mk' (pe_lc (tt := tB (tI X.K xc T WF cc)) G.calm G.nd hi ok hg (fun s H C cl fp => pts_one (ht s H C cl fp)) he hs) fun σ H Q h => comp_red (fun _ _ _ q => q) h
/-- name = [..] on one line -/
theorem ss_setLc0 {elt tg iter : Expr} {cs : List CE} {tgc : Tg} {ik : Ik} {scope : Scope} {own : List (Str × Nat)} {dp : Bool} {i : Nat} {y : Str} {py spos : Pos} (G : Gd X) (hy : X.N[i]? = some y) (hyl : X.env.scope.names.lookup y = some .local) (hA : i ∈ A)
    (hsw : swapsWith (.ListComp elt [⟨tg, iter, [], 0⟩] scope pos) (some (.Name y py)) spos.line X.env = pure true) (hi : PI X tg iter (tIt X.K xc T W ik cs)) (ok : BlkOk X.N X.env.scope scope own)
    (hg : ∀ (s : Shared) (H : Hp) (C : Addr) (cl : List (Str × Addr)) (fp : List Addr), PG (X.blk s H scope (compEnvC scope cl C X.env) fp) tg (gI X.K (own.map (·.2)) tgc))
    (he : ∀ (s : Shared) (H : Hp) (C : Addr) (cl : List (Str × Addr)) (fp : List Addr), PE (X.blk s H scope (compEnvC scope cl C X.env) fp) elt (tI X.K xc T WF ce)) (hs : ∀ x, foldedSetIterable iter X.env x = pure x) :
    PS X (.Assign [.Name y py] (.ListComp elt [⟨tg, iter, [], 0⟩] scope pos) spos) (tS X.K xc T W A (.asg (.nm i) (.comp dp (own.map (·.2)) ce tgc ik cs (.con (.bool true))))) := by
  refine ⟨fun pins s σ H D I h => (ps_setLc (tt := tB (tI X.K xc T WF (.con (.bool true)))) G.calm G.nd hy hyl hsw hi ok hg (fun s H C cl fp => ⟨fun pins s σ H Q I h => pts_nil.run pins s σ H Q I ?_⟩) he hs).run pins s σ H D I ?_⟩
  · obtain ⟨L, env, fps, R, P⟩ := h
    obtain ⟨c, e, z⟩ := P (.bl true) _ fps [] Step.refl R ⟨rfl, .bl _, List.nodup_nil, fun a ha => nomatch ha⟩ fun a ha => nomatch ha
    cases e
    exact z
  · have hil : i < σ.length := by rw [I.len]; exact (List.getElem?_eq_some_iff.mp hy).1
    have q := asg_red (te := tI X.K xc T W (.comp dp (own.map (·.2)) ce tgc ik cs (.con (.bool true)))) (fun _ _ _ q => q) h
    exact comp_red (fun _ _ _ q => q) (tI.imp q fun v H' h => gI_name hA hil h)
theorem ss_setLc1 {elt tg iter t : Expr} {cc : CE} {cs : List CE} {tgc : Tg} {ik : Ik} {scope : Scope} {own : List (Str × Nat)} {dp : Bool} {i : Nat} {y : Str} {py spos : Pos} (G : Gd X) (hy : X.N[i]? = some y) (hyl : X.env.scope.names.lookup y = some .local) (hA : i ∈ A)
    (hsw : swapsWith (.ListComp elt [⟨tg, iter, [t], 0⟩] scope pos) (some (.Name y py)) spos.line X.env = pure true) (hi : PI X tg iter (tIt X.K xc T W ik cs)) (ok : BlkOk X.N X.env.scope scope own)
    (hg : ∀ (s : Shared) (H : Hp) (C : Addr) (cl : List (Str × Addr)) (fp : List Addr), PG (X.blk s H scope (compEnvC scope cl C X.env) fp) tg (gI X.K (own.map (·.2)) tgc))
    (ht : ∀ (s : Shared) (H : Hp) (C : Addr) (cl : List (Str × Addr)) (fp : List Addr), PT (X.blk s H scope (compEnvC scope cl C X.env) fp) t (tB (tI X.K xc T WF cc)))
    (he : ∀ (s : Shared) (H : Hp) (C : Addr) (cl : List (Str × Addr)) (fp : List Addr), PE (X.blk s H scope (compEnvC scope cl C X.env) fp) elt (tI X.K xc T WF ce)) (hs : ∀ x, foldedSetIterable iter X.env x = pure x) :
    PS X (.Assign [.Name y py] (.ListComp elt [⟨tg, iter, [t], 0⟩] scope pos) spos) (tS X.K xc T W A (.asg (.nm i) (.comp dp (own.map (·.2)) ce tgc ik cs cc))) := by
  refine ⟨fun pins s σ H D I h => (ps_setLc (tt := tB (tI X.K xc T WF cc)) G.calm G.nd hy hyl hsw hi ok hg (fun s H C cl fp => pts_one (ht s H C cl fp)) he hs).run pins s σ H D I ?_⟩
  have hil : i < σ.length := by rw [I.len]; exact (List.getElem?_eq_some_iff.mp hy).1
  have q := asg_red (te := tI X.K xc T W (.comp dp (own.map (·.2)) ce tgc ik cs cc)) (fun _ _ _ q => q) h
  exact comp_red (fun _ _ _ q => q) (tI.imp q fun v H' h => gI_name hA hil h)
/-! ### x[k] = e -/
theorem rs_bindT {K : PySem.W.Frag} {L L' : List Nat} {σ : St} {H H1 : Hp} {env env1 : Env} {fps fps1 : Nat → List Addr} {c : CE} {f : Val × Env → RS} {Q1 : VK} (hL : ∀ i ∈ L, i ∈ L') (S0 : Step L H env fps H1 env1 fps1) (R1 : ER K H1 σ env1 fps1) (P : PostS K xc W A L σ H env fps ((ev T c L' env1).rs f) D)
    (k : ∀ x env2 v H2 fps2 fp, Step L' H1 env1 fps1 H2 env2 fps2 → ER K H2 σ env2 fps2 → VOk K H2 σ env2 fps2 v x fp → Bnd L' H1 env1 fps1 x fp → PostS K xc W A L σ H env fps (f (x, env2)) D → Q1 v H2) : tI K xc T W c σ H1 Q1 := by
  refine ⟨L', env1, fps1, R1, ?_⟩
  cases e : ev T c L' env1 with
  | ok q =>
    rw [e] at P
    obtain ⟨x, env1⟩ := q
    exact fun v H1 fps1 fp s1 r1 v1 b1 => k x env1 v H1 fps1 fp s1 r1 v1 b1 P
  | ex n e' => rw [e] at P; exact fun H' fps' s1 r1 => P σ H' fps' (S0.toS.trans (s1.mono hL).toS) r1 Agree.refl
  | no => rw [e] at P; exact P
theorem set_red {K : PySem.W.Frag} {ci : CE} {σ : St} {H : Hp} (h : tS K xc T W A (.set r [] ci ce) D σ H) : tI K xc T W ce σ H fun v H1 => gSub (tVar r) (tI K xc T W ci) rPut v σ H1 D.nx := by
  obtain ⟨L, env, fps, R, P⟩ := h
  simp only [exec] at P
  split at P
  · exact P.elim
  rename_i hc
  simp only [Bool.or_eq_true, decide_eq_true_eq, Bool.not_eq_true', not_or, Bool.not_eq_false] at hc
  obtain ⟨hrL, hok⟩ := hc
  obtain ⟨s0, es0, os0, _, _⟩ := okP_at hok
  obtain ⟨v0, hσ, _, _⟩ := R.val r s0 es0
  refine rs_bind (self_sub L) R P fun x env1 v H1 fps1 fp S1 R1 V1 B1 P1 => ⟨v0, hσ, ?_⟩
  simp only [evs, Iv.R.rs, List.map_nil, List.isEmpty_nil] at P1
  split at P1
  case isFalse => exact P1.elim
  refine rs_bindT (lk_sub x L) S1 R1 P1 fun kx env2 kv H2 fps2 fk S2 R2 V2 B2 P2 => ?_
  have V1' := V1.step R1 S2 (fun i h => lk_has h)
  have S2' := S2.mono (lk_sub x L)
  have S12 := S1.trans R S2'
  cases em : mv (r :: L) [x] env2 with
  | none => simp only [em] at P2; exact P2.elim
  | some oo =>
    obtain ⟨o, env3⟩ := oo
    obtain ⟨y, rfl, y1, y2, S3, R3, y5, y6, y7, _⟩ := mv_one (L := L) (fun i hi => List.mem_cons_of_mem _ hi) R S12 R2 V1' B1 em
    simp only [em, Iv.R.of] at P2
    cases ec : changed L r env3 (decide (y.k = .imm)) (atPath [] (putD kx.d y.d)) with
    | none => simp only [ec] at P2; exact P2.elim
    | some zz =>
      obtain ⟨val, env4⟩ := zz
      simp only [ec] at P2
      have hkd : Den K H2 kv kx.d [] := by
        have d := V2.den R2
        have hi : imm kx.d = true := by
          cases hkx : kx.d with
          | int _ => rfl
          | str _ => rfl
          | _ => 
            exfalso
            rw [hkx] at ec
            have : ∀ d, putD kx.d y.d d = none := fun d => by rw [hkx]; cases d <;> rfl
            rw [hkx] at this
            unfold changed at ec
            split at ec
            · cases ec
            · split at ec
              · split at ec
                · simp [atPath, this] at ec
                · cases ec
              · cases ec
        have z := d.imm hi
        rw [← z]; exact d
      have hu : Den K H2 v y.d fp := by rw [y1]; exact y5
      obtain ⟨w, H', yv, fps', fy, c1, c2, c3, c4, c5, c6⟩ := changed_ok (kvs := []) (ks := []) R S3 R3 hσ trivial (put_eff hkd hu y6 fun hk => by
        have : x.k = .imm := by rw [← y2]; simpa using hk
        rw [y1]; exact V1'.kd.imm' this) y7 ec
      have hw : w = v0 := c1
      subst hw
      exact c2 _ (P2 σ H' fps' c3.toS c4 Agree.refl)
theorem set_put (hu : X.A.units + 1 < cLine) : PSet X rPut := fun pins s σ H o i v ov iv u Q I ro ri rv h => h.elim (fun h => set_list pins s σ H o i v ov iv u Q I ro ri rv h) fun h => set_dict hu pins s σ H o i v ov iv u Q I ro ri rv h
theorem ss_set {i : Expr} {ci : CE} {tpos : Pos} (hu : X.A.units + 1 < cLine) (hN : X.N[r]? = some x) (hv : Vis X.env.scope x) (hd : (x == ("__debug__" : Str)) = false) (hcd : (x == ("__classdict__" : Str)) = false) (hi : Sd X xc T W i ci) (he : Sd X xc T W e ce)
    (hs : swapsWithSole [.Subscript (.Name x p) i tpos] e pos.line X.env = pure false) (hw : swappedStores [.Subscript (.Name x p) i tpos] e X.env = pure none)
    (h1 : (assignEach [.Subscript (.Name x p) i tpos] X.env).map (·.2) = [assign (.Subscript (.Name x p) i tpos) X.env])
    (ha : ∀ v, assign (.Subscript (.Name x p) i tpos) X.env v = (do
      let ov ← holding [v] (eval (.Name x p) X.env)
      let iv ← holding [v, ov] (eval i X.env)
      standAt tpos
      holding [v, ov, iv] (setItem ov iv v)
      release [v, ov, iv] [])) : PS X (.Assign [.Subscript (.Name x p) i tpos] e pos) (tS X.K xc T W A (.set r [] ci ce)) :=
  PS.weak (ps_asg he.pe (pg_sub (pe_var hN hv hd hcd) hi.pe (set_put hu) ha) hs hw h1) fun D σ H h => set_red h
end
end Iv

set_option maxRecDepth 100000
set_option maxHeartbeats 2000000
/-! IvP: functions: what a def promises where no repr is under way; calls; the law's head. -/
namespace Iv
open PySem L2
variable [Tbl]
open PyProof.Rows (envOfC)

/-- nothing is let out -/
def CXn : CXT := fun _ _ _ _ _ _ => False
structure FnG (P : Program) (w : World) (K : PySem.W.Frag) (mg : Str → Option Value) (base : Heap) (k : Nat) (f : Addr) (fd : FuncData) (ps : List Str) (sp : Sp) : Prop where
  len : ∀ vs H Q E, sp vs H Q E → vs.length = ps.length
  run : ∀ (A : Around) (outer : List PySem.Env) (s : Shared) (H : Hp) (args : Args) (us : List Value) (vs : List V) (Q : VK) (E : XK), A.guards = some [] → Room k A → Env0 P w K mg base A outer s H → BindsTo s fd args (ps.zip us) → Vals vs us → sp vs H Q E →
    codeAny (model P w) A (.call (.ref f) args) (CR CXn outer P w H s Q E) s
/-- the context of a def's body that lets nothing out -/
def cxN (P : Program) (w : World) (K : PySem.W.Frag) (mg : Str → Option Value) (base : Heap) (N : List Str) (qual : Str) (scope : Scope) (f : Addr) (cd : Value) (A : Around) (outer : List PySem.Env) (s : Shared) (H : Hp) : Cx :=
  { cxOf CXn P w K mg base N qual scope f cd A outer s H (fun _ _ _ => False) with xe := fun _ _ => False }
section
variable {P : Program} {w : World} {K : PySem.W.Frag} {mg : Str → Option Value} {base : Heap} {k : Nat} {f : Addr} {fd : FuncData} {ps N : List Str} {sp : Sp}
theorem inv_N {qual : Str} {scope : Scope} {cd : Value} {A : Around} {outer : List PySem.Env} {s s' : Shared} {H H' : Hp} {pins : List (Addr × Obj)} {σ : St} (I : Inv (cxOf CXn P w K mg base N qual scope f cd A outer s H (fun _ _ _ => False)) pins σ H' s') :
    Inv (cxN P w K mg base N qual scope f cd A outer s H) pins σ H' s' := by
  obtain ⟨ok, h2, h3, h4, h5, h6, h7, h8, h9, h10, h11⟩ := I
  obtain ⟨a1, a2, a3, a4, a5, a6, a7, a8, a9, a10, a11, a12, a13, a14, a15, a16, a17, a18⟩ := ok
  exact ⟨⟨a1, a2, a3, a4, a5, a6, a7, a8, a9, a10, a11, a12, a13, a14, a15, a16, a17, a18⟩, h2, h3, h4, h5, h6, h7, h8, h9, h10, h11⟩
/-- a def by its body -/
theorem fnG_of {name qual : Str} {params : Arguments} {body : List Stmt} {scope : Scope} {dV kV doc pm cdv ct oc : Value} {an od : Option Addr}
    {osl : Array (Option Value)} (lk : K.lookup f = some ⟨oc, od, .func (PySem.W.fnOf name qual params body scope dV kV doc pm an cdv ct), osl⟩) (hcd : PySem.W.codeIn K cdv qual = true) (S : FnScope N ps scope)
    (len : ∀ vs H Q E, sp vs H Q E → vs.length = ps.length)
    (hbody : ∀ (A : Around) (outer : List PySem.Env) (s : Shared) (H : Hp) (vs : List V) (Q : VK) (E : XK), A.guards = some [] → Room k (A.deeper (envOfC qual scope s.heap.objs.size f cdv)) → sp vs H Q E →
      ∃ t, PSs (cxN P w K mg base N qual scope f cdv A outer s H) body t ∧ t { nx := fun _ H' => Q .non H', rt := Q } (L2.start N vs) H) :
    FnG P w K mg base (k + 1) f (PySem.W.fnOf name qual params body scope dV kV doc pm an cdv ct) ps sp := by
  refine ⟨len, fun A outer s H args us vs Q E hg hr e0 hb r hsp => ?_⟩
  have hl := len _ _ _ _ hsp
  have KX : K.In s.heap := e0.mod.kin.keeps fun b o e => (e0.bs b o e).1
  have lim : s.heap.NoLimit := e0.mod.nolimit.keeps fun b o e => (e0.bs b o e).1
  have hkind : ∀ y ∈ ps.zip us, scope.names.lookup y.1 = some .local ∨ (scope.names.lookup y.1 = some .cell ∧ ((cellsFrom (s.heap.objs.size + 1) scope.names []).lookup y.1).isSome = true) := fun ⟨n, v⟩ hy => by
    rcases S.par n (List.of_mem_zip hy).1 with q | q
    · exact .inl q
    · exact .inr ⟨q, PySem.W.cellsFrom_some _ _ _ (.inl q)⟩
  refine codeAny_call_function hr.depth (KX _ _ lk) rfl S.co S.gen rfl (PySem.W.codeRec_of KX hcd) (hb _ _ _ _ ?_)
  refine wpAny_newFunctionEnv_cells S.kind hkind fun env he s1 x => ?_
  subst he
  refine ⟨lim.keeps x.toInCall.keep, codeAny_func ?_⟩
  obtain ⟨t, ht, hq⟩ := hbody A outer s H vs Q E hg (hr.deeper _) hsp
  have I := inv_N (inv_start (CX := CXn) (E := fun _ _ _ => False) S hr.hd e0 hl r x)
  refine wpAny_mono (ht.run [] s1 (L2.start N vs) H _ I hq) (fun fl s' hs => ?_) fun e s' hs => False.elim hs
  cases fl with
  | ret u =>
    obtain ⟨v, σ', H', J, rv, q⟩ := hs
    exact ⟨v, H', J.os, J.bare, J.base, J.hok, rv, q⟩
  | next =>
    obtain ⟨σ', H', J, q⟩ := hs
    exact ⟨.non, H', J.os, J.bare, J.base, J.hok, rfl, q⟩
  | brk =>
    obtain ⟨_, _, _, q⟩ := hs
    exact False.elim q
  | cont =>
    obtain ⟨_, _, _, q⟩ := hs
    exact False.elim q
end

section
variable {X : Cx} {k : Nat} {f : Addr} {fd : FuncData} {ps : List Str} {sp : Sp} {x : Str} {p pos : Pos} {e : Expr} {es : List Expr} {xc : Str → Value} {T : Tab} {cs : List CE}
theorem run_fnG {pins : List (Addr × Obj)} {σ : St} {H : Hp} {s : Shared} {Q : VK} {us : List Value} {vs : List V} (G : Gd X) (F : FnG X.prog X.w X.K X.mg X.base k f fd ps sp) (hr : Room k X.A) (hb : Binds X.K fd ps [])
    (I : Inv X pins σ H s) (r : Vals vs us) (h : sp vs H Q fun _ _ _ => False) : wpAny (model X.prog X.w) X.A (call (.ref f) us) (EP X pins σ Q) X.xe s := by
  have hl : us.length = ps.length := by rw [← r.length]; exact F.len _ _ _ _ h
  have b := hb s us I.kIn (by rw [List.append_nil]; exact hl)
  rw [List.append_nil] at b
  refine wpAny_call (codeAny_mono (F.run X.A X.stack s H ⟨us, []⟩ us vs Q _ G.gu hr I.env0 b r h) fun r s' hq => ?_)
  cases r with
  | error e => exact False.elim hq
  | ok fl =>
    cases fl with
    | ret u => exact I.after hq
    | next => exact False.elim hq
    | brk => exact False.elim hq
    | cont => exact False.elim hq
theorem pe_callG {t : TA} (G : Gd X) (F : FnG X.prog X.w X.K X.mg X.base k f fd ps sp) (hr : Room k X.A) (hg : Gl X x) (hm : X.mg x = some (.ref f)) (hk : PySem.W.keepIn X.K (.ref f) = true) (hb : Binds X.K fd ps [])
    (ha : PA X (e :: es) t) (hdb : (x == ("__debug__" : Str)) = false) (he : starEach (e :: es) X.env = (false, eval e X.env) :: starEach es X.env) (hpl : (backTo pos (starEach es X.env)).any (·.1) = false) :
    PE X (.Call (.Name x p) (e :: es) [] pos) (fun σ H Q => t σ H fun vs H1 => sp vs H1 Q fun _ _ _ => False) := by
  refine ⟨fun pins s σ H Q I h => ?_⟩
  refine wpAny_Call_Name_kw (ld_glob I hg hm ?_ hdb)
  refine PySem.W.callWith_K (h₀ := X.base) I.ok.mod.kin hk (thn (ha.run pos pins s σ H _ I h) fun us s1 ⟨vs, H1, I1, r, q⟩ => ⟨I1.kIn, ?_⟩) he hpl
  exact run_fnG G F hr hb I1 r q
theorem sd_call (G : Gd X) (F : FnG X.prog X.w X.K X.mg X.base k f fd ps (spI X.K xc T x)) (hr : Room k X.A) (hg : Gl X x) (hm : X.mg x = some (.ref f)) (hk : PySem.W.keepIn X.K (.ref f) = true) (hb : Binds X.K fd ps [])
    (ha : PA X (e :: es) (tA X.K xc T WF (T.io x) cs)) (hdb : (x == ("__debug__" : Str)) = false) (he : starEach (e :: es) X.env = (false, eval e X.env) :: starEach es X.env) (hpl : (backTo pos (starEach es X.env)).any (·.1) = false) :
    Sd X xc T WF (.Call (.Name x p) (e :: es) [] pos) (.call x cs) := Sd.mk' (pe_callG G F hr hg hm hk hb ha hdb he hpl) fun _ _ _ q => call_red q
end

/-! ### a body's end -/
section
variable {K : PySem.W.Frag} {xc : Str → Value} {T T' : Tab} {d : Def} {fn : Str} {vs : List V} {H : Hp} {Q : VK} {E : XK} {A : List Nat} {N : List Str}
theorem maskE_get : ∀ {io : List Bool} {env : Env} {i : Nat} {s : Sl}, (maskE io env)[i]? = some (some s) → io.getD i false = true ∧ env[i]? = some (some s)
  | _, [], i, s, h => by simp [maskE] at h
  | io, o :: env, 0, s, h => by
    simp only [maskE, List.getElem?_cons_zero, Option.some.injEq] at h
    split at h
    · rename_i e
      rw [headD_getD] at e
      exact ⟨e, by simp [h]⟩
    · cases h
  | io, o :: env, i + 1, s, h => by
    obtain ⟨h1, h2⟩ := maskE_get (io := io.tail) (env := env) (i := i) (by simpa [maskE] using h)
    rw [getD_tail] at h1
    exact ⟨h1, by simpa using h2⟩
theorem maskE_len : ∀ {io : List Bool} {env : Env}, (maskE io env).length = env.length
  | _, [] => rfl
  | _, _ :: _ => by simp [maskE, maskE_len]
theorem start_get {i : Nat} {v : V} (h : vs[i]? = some v) : (L2.start N vs)[i]? = some (some v) := by
  unfold L2.start
  rw [List.getElem?_append_left (by rw [List.length_map]; exact (List.getElem?_eq_some_iff.mp h).1), List.getElem?_map, h]; rfl
theorem body_end (hT : ∀ ps, T'.fn fn ps = runD T d ps) (hio : T'.io fn = d.io) (hns : d.ns = N.length) (hnp : d.np ≤ N.length) (hA : ∀ i, d.io.getD i false = true → i ∉ A) (h : spI K xc T' fn vs H Q E) :
    tSs K xc T WF A d.body { nx := fun _ H' => Q .non H', rt := Q } (L2.start N vs) H := by
  obtain ⟨ps, fps, R, P⟩ := h
  rw [hT, hio] at P
  have hvl : vs.length = ps.length := by simpa using R.len
  unfold runD at P
  by_cases hlen : ps.length = d.np
  case neg => rw [if_neg hlen] at P; exact P.elim
  rw [if_pos hlen] at P
  -- the whole body's slots
  have some0 : ∀ {i : Nat} {s : Sl}, (ps.map some ++ List.replicate (d.ns - d.np) none)[i]? = some (some s) → (ps.map some)[i]? = some (some s) := fun {i s} h => by
    by_cases hi : i < (ps.map some).length
    · rwa [List.getElem?_append_left hi] at h
    · rw [List.getElem?_append_right (by omega), List.getElem?_replicate] at h
      split at h <;> cases h
  have some1 : ∀ {i : Nat} {s : Sl}, (ps.map some)[i]? = some (some s) → (ps.map some ++ List.replicate (d.ns - d.np) none)[i]? = some (some s) := fun {i s} h => by
    rw [List.getElem?_append_left (List.getElem?_eq_some_iff.mp h).1]; exact h
  have RB : ER K H (L2.start N vs) (ps.map some ++ List.replicate (d.ns - d.np) none) fps := by
    refine ⟨?_, fun i s e => ?_, fun i s e o => R.nd i s (some0 e) o, fun i j s t n e o e' => R.dj i j s t n (some0 e) o (some0 e'), R.tb⟩
    · unfold L2.start
      simp only [List.length_append, List.length_map, List.length_replicate]
      omega
    · obtain ⟨v, h1, h2, h3⟩ := R.val i s (some0 e)
      refine ⟨v, start_get ?_, h2, h3⟩
      rw [List.getElem?_map] at h1
      cases q : vs[i]? with
      | none => rw [q] at h1; cases h1
      | some u => rw [q] at h1; cases h1; rfl
  have own0 : ∀ {a : Addr}, OwnA [] (ps.map some ++ List.replicate (d.ns - d.np) none) fps a → OwnA [] (ps.map some) fps a := fun {a} ⟨i, ⟨n, s, e, o⟩, q⟩ => ⟨i, ⟨n, s, some0 e, o⟩, q⟩
  have any0 : ∀ {a : Addr}, AnyA (ps.map some ++ List.replicate (d.ns - d.np) none) fps a → AnyA (ps.map some) fps a := fun {a} ⟨i, s, e, q⟩ => ⟨i, s, some0 e, q⟩
  -- what the caller sees
  have msk : ∀ {e : Env} {i : Nat} {s : Sl}, (maskE d.io (e.take d.np))[i]? = some (some s) → d.io.getD i false = true ∧ e[i]? = some (some s) := fun {e i s} h => by
    obtain ⟨h1, h2⟩ := maskE_get h
    rw [List.getElem?_take] at h2
    split at h2
    · exact ⟨h1, h2⟩
    · cases h2
  have fin : ∀ {σ' : St} {H' : Hp} {e : Env} {fps' : Nat → List Addr}, StepS A [] H (ps.map some ++ List.replicate (d.ns - d.np) none) fps H' e fps' → ER K H' σ' e fps' → Agree A (L2.start N vs) σ' →
      CallEnd d.io H (ps.map some) fps H' (maskE d.io (e.take d.np)) fps' ∧ ER K H' (vs.map some) (maskE d.io (e.take d.np)) fps' := fun {σ' H' e fps'} S R' ag => by
    refine ⟨⟨fun a o e n t => S.keep a o e (fun q => n (own0 q)) t, S.fix, S.alv, fun i s h a ha => ?_, fun i s h => (msk h).1⟩, ⟨?_, fun i s h => ?_, fun i s h o => R'.nd i s (msk h).2 o, fun i j s t n h o h' => R'.dj i j s t n (msk h).2 o (msk h').2, R'.tb⟩⟩
    · exact (S.sub i (hA i (msk h).1) a ha).imp own0 id
    · have h1 := R'.len
      have h2 := RB.len
      have h3 : σ'.length = (L2.start N vs).length := ag.2
      rw [List.length_map, maskE_len, List.length_take, ← h1, h3, h2, List.length_append, List.length_map, List.length_replicate]
      omega
    · obtain ⟨h1, h2⟩ := msk h
      obtain ⟨v, g1, g2, g3⟩ := R'.val i s h2
      refine ⟨v, ?_, g2, g3⟩
      rw [ag.1 i (hA i h1)] at g1
      have hi : i < vs.length := by
        have := (List.getElem?_eq_some_iff.mp h).1
        rw [maskE_len, List.length_take] at this
        omega
      rw [start_get (List.getElem?_eq_getElem hi)] at g1
      rw [List.getElem?_map, List.getElem?_eq_getElem hi]
      exact g1
  refine ⟨[], _, fps, RB, ?_⟩
  cases er : execs T d.body [] (ps.map some ++ List.replicate (d.ns - d.np) none) with
  | nx e =>
    rw [er] at P
    intro σ' H' fps' S R' ag
    obtain ⟨C, RM⟩ := fin S R' ag
    exact P .non H' fps' [] C RM (.inl rfl) ⟨rfl, .non, List.nodup_nil, fun a ha => nomatch ha⟩ fun a ha => nomatch ha
  | rt x e =>
    rw [er] at P
    intro σ' H' fps' v fp S R' ag V' B'
    obtain ⟨C, RM⟩ := fin S R' ag
    have hd := V'.den R'
    have hk := V'.kd
    obtain ⟨kx, px, dx⟩ := x
    have anyM : ∀ {a : Addr}, AnyA (maskE d.io (e.take d.np)) fps' a → AnyA e fps' a := fun {a} ⟨i, s, h, q⟩ => ⟨i, s, (msk h).2, q⟩
    cases px with
    | fr => exact P v H' fps' fp C RM (.inl rfl) ⟨hk, hd, V'.2.2.1, fun a ha z => V'.2.2.2 a ha (anyM z)⟩ fun a ha => (B' a ha).imp own0 id
    | sh => exact P v H' fps' fp C RM (.inr rfl) ⟨hk, hd, fun a ha i s h o => V'.2.2 a ha i s (msk h).2 o⟩ fun a ha => (B' a ha).imp any0 id
    | sl i =>
      by_cases hi : d.io.getD i false = true
      · simp only [retP, if_pos hi, Iv.R.of, Iv.R.bind] at P
      · simp only [retP, if_neg hi, Iv.R.of, Iv.R.bind] at P
        obtain ⟨_, h1, h2, rfl⟩ := V'
        refine P v H' fps' _ C RM (by simp) ⟨hk, hd, R'.nd i _ h2 rfl, fun a ha ⟨j, s, h, q⟩ => ?_⟩ fun a ha => ?_
        · obtain ⟨m1, m2⟩ := msk h
          exact R'.dj i j _ s (fun z => by subst z; exact hi m1) h2 rfl m2 a ha q
        · rcases S.own i _ h2 rfl a ha with z | z | ⟨z, _⟩
          · exact .inl (own0 z)
          · exact .inr z
          · cases z
    | pt i =>
      by_cases hi : d.io.getD i false = true
      · simp only [retP, if_pos hi, Iv.R.of, Iv.R.bind] at P
      · simp only [retP, if_neg hi, Iv.R.of, Iv.R.bind] at P
        obtain ⟨_, h1, ⟨t, h2, h3⟩, h4⟩ := V'
        refine P v H' fps' _ C RM (by simp) ⟨hk, hd, fun a ha j s h o q => ?_⟩ fun a ha => ?_
        · obtain ⟨m1, m2⟩ := msk h
          exact R'.dj j i s t (fun z => by subst z; exact hi m1) m2 o h2 a q (h4 a ha)
        · exact (S.any a ⟨i, t, h2, h4 a ha⟩).imp any0 id
  | bk e => rw [er] at P; exact P.elim
  | ct e => rw [er] at P; exact P.elim
  | ex n e => rw [er] at P; exact P.elim
  | no => rw [er] at P; exact P.elim
end

/-! ### the law's head: the script, and the tables cs of code objects -/
section
open PySem.Spec PyProof.Rows
abbrev Cs := List (Addr × Addr)
abbrev tab0 : Obj := { cls := .none, data := .fields #[] }
/-- what is tracked at the law's head -/
structure HeadH (K : PySem.W.Frag) (cs : Cs) (H : Hp) (a : Addr) (h : Heap) : Prop where
  tbl : ∀ p ∈ cs, H p.2 = some (.tbl #[])
  only : ∀ b, H b = none ∨ b ∈ cs.map (·.2) ∨ ∃ o xs, H b = some (.frz o (.lst xs))
  dom : ∀ b, H b ≠ none → b = a ∨ b ∈ cs.map (·.2)
  out : H a ≠ none → K.lookup a = none
theorem law_callG {P : Program} {w : World} {K : PySem.W.Frag} {mg mb : Str → Option Value} {k : Nat} {fa a : Addr} {cs : Cs} {fd : FuncData} {x : Str} {sp : Sp} {s₁ : Shared} {vs : List Value} {ns : List Int}
    (KX : K.In s₁.heap) (hns : s₁.heap.Ns mainGlobals mg) (hb : s₁.heap.Ns builtinsNs mb) (hbb : ∀ x : Str, x ≠ "__name__" → mb x = bootBuiltins x) (hlim : s₁.heap.NoLimit) (hg : s₁.gens = #[])
    (hT : ∀ p ∈ cs, s₁.heap.get? p.2 = some tab0) (nT : ∀ p ∈ cs, K.lookup p.2 = none) (C : ∀ p ∈ cs, PySem.W.CodeHd s₁.heap p.1 p.2)
    (hbm : ∃ (bm : Addr) (ob : Obj), mg "__builtins__" = some (.ref bm) ∧ bm ≠ builtinsNs ∧ s₁.heap.get? bm = some ob ∧ ob.cls = .type "module" ∧ ob.dict = some builtinsNs ∧ ob.data = .plain)
    (ha : s₁.heap.get? a = some { cls := .type "list", data := .seq vs.toArray }) (hi : IntsAre vs ns) (hl : ns.length ≤ sizeLine) (hr : Room k callerA)
    (F : ∀ base : Heap, K.In base → base.Ns mainGlobals mg → (∀ p ∈ cs, LamX.TabB base mg p.1 p.2) → FnG P w K mg base k fa fd [x] sp) (hbind : ∀ (s : Shared) (u : Value), BindsTo s fd ⟨[u], []⟩ [(x, u)])
    (hsp : ∀ H : Hp, (∀ p ∈ cs, H p.2 = some (.tbl #[])) → SqL K H a (ns.map V.int) → sp [.ref a] H (fun v _ => v = .bl true) fun _ _ _ => False) :
    codeAny (model P w) callerA (.call (.ref fa) ⟨[.ref a], []⟩) (fun r s' => r = .ok (.ret (.bool true)) ∧ OldK s₁.heap s'.heap ∧ s'.os = s₁.os ∧ AllBare s'.gens) s₁ := by
  have rv := vals_ints hi
  have lenV := hi.length
  have isT : ∀ {b : Addr}, b ∈ cs.map (·.2) → s₁.heap.get? b = some tab0 := fun {b} hb => by
    obtain ⟨p, hp, rfl⟩ := List.mem_map.mp hb
    exact hT p hp
  have memT : ∀ {p : Addr × Addr}, p ∈ cs → p.2 ∈ cs.map (·.2) := fun {p} hp => List.mem_map.mpr ⟨p, hp, rfl⟩
  have aT : a ∉ cs.map (·.2) := fun z => by
    have q := isT z
    rw [ha] at q
    cases congrArg Obj.data (Option.some.inj q)
  have core : ∀ H : Hp, HeadH K cs H a s₁.heap → SqL K H a (ns.map V.int) → HOk P w H s₁.heap →
      codeAny (model P w) callerA (.call (.ref fa) ⟨[.ref a], []⟩) (fun r s' => r = .ok (.ret (.bool true)) ∧ OldK s₁.heap s'.heap ∧ s'.os = s₁.os ∧ AllBare s'.gens) s₁ := by
    intro H hH hS hok
    -- what is neither a list nor a table is not tracked
    have noD : ∀ {b : Addr} {o : Obj}, s₁.heap.get? b = some o → (∀ vs n, o.data ≠ .seq vs n) → o.data ≠ .fields #[] → H b = none := fun {b o} e h1 h2 => by
      by_cases q : H b = none
      · exact q
      · rcases hH.dom b q with e' | e'
        · subst e'
          rw [ha] at e; cases e
          exact (h1 _ _ rfl).elim
        · rw [isT e'] at e; cases e
          exact (h2 rfl).elim
    have gone : ∀ {b : Addr} {o : Obj}, s₁.heap.get? b = some o → (∀ vs n, o.data ≠ .seq vs n) → o.data ≠ .fields #[] → (hidT s₁.heap H).get? b = some o := fun e h1 h2 => hidT_get e (noD e h1 h2)
    have noA : ∀ {b : Addr} {o : Obj} {es : Array DictEntry} {ep : Nat}, s₁.heap.get? b = some o → o.data = .dict es ep → H b = none := fun {b o es ep} e d =>
      noD e (fun vs n z => by rw [d] at z; cases z) fun z => by rw [d] at z; cases z
    have nsK : ∀ {b : Addr} {m : Str → Option Value}, s₁.heap.Ns b m → (hidT s₁.heap H).Ns b m := fun {b m} ⟨o, es, ep, e, d, r⟩ => ⟨o, es, ep, hidT_get e (noA e d), d, r⟩
    have hKb : K.In (hidT s₁.heap H) := fun b o e => hidT_get (KX b o e) (by
      by_cases q : H b = none
      · exact q
      · rcases hH.dom b q with e' | e'
        · subst e'
          rw [hH.out q] at e; cases e
        · obtain ⟨p, hp, rfl⟩ := List.mem_map.mp e'
          rw [nT p hp] at e; cases e)
    have hM : Mod K mg (hidT s₁.heap H) := ⟨hKb, nsK hns, ⟨mb, nsK hb, hbb⟩, let ⟨mc, h1, h2⟩ := hlim; ⟨mc, nsK h1, h2⟩⟩
    have TB : ∀ p ∈ cs, LamX.TabB (hidT s₁.heap H) mg p.1 p.2 := fun p hp => by
      have hTp := hT p hp
      refine ⟨?_, ?_, fun z => ?_⟩
      · obtain ⟨o, us, file, tf, flags, tg, inF, text, tt, e1, r1, r2, r3, r4, r5, r6, r7, r8, hne⟩ := C p hp
        exact ⟨o, us, file, tf, flags, tg, inF, text, tt, gone e1 (fun vs n z => by rw [r2] at z; cases z) (fun z => by rw [r2] at z; cases z; simp at r3), r1, r2, r3, r4, r5, r6, r7, r8, hne⟩
      · obtain ⟨bm, ob, b1, b2, b3, b4, b5, b6⟩ := hbm
        have nG : bm ≠ mainGlobals := fun q => by
          obtain ⟨o, es, ep, e, hd, _⟩ := hns
          rw [q, e] at b3; cases b3
          rw [hd] at b6; cases b6
        have nP : bm ≠ p.2 := fun q => by
          rw [q, hTp] at b3; cases b3
          cases b6
        exact ⟨bm, ob, b1, b2, nG, nP, gone b3 (fun vs n z => by rw [b6] at z; cases z) (fun z => by rw [b6] at z; cases z), b4, b5, b6⟩
      · obtain ⟨o, es, ep, e, hd, _⟩ := hns
        rw [z, hTp] at e
        cases e; cases hd
    have e0 : Env0 P w K mg (hidT s₁.heap H) callerA [] s₁ H := ⟨rfl, hM, fun b o e => of_hidT e, Nat.le_of_eq (hidT_size _ _), trivial, fun b hb => absurd (show b ∈ ([] : List Addr) from hb) (by simp), hok, .of_eq hg⟩
    refine codeAny_mono ((F _ hKb (nsK hns) TB).run callerA [] s₁ H ⟨[.ref a], []⟩ [.ref a] [.ref a] _ _ rfl hr e0 (hbind s₁ (.ref a)) (.cons rfl .nil) (hsp H hH.tbl hS)) fun r s' h => ?_
    cases r with
    | error e => exact False.elim h
    | ok fl =>
      cases fl with
      | next => exact False.elim h
      | brk => exact False.elim h
      | cont => exact False.elim h
      | ret u =>
        obtain ⟨v, H', os, bare, un, hok', r', q⟩ := h
        obtain rfl : v = .bl true := q
        obtain rfl : u = Value.bool true := r'
        have key : ∀ b o, b ∉ cs.map (·.2) → s₁.heap.get? b = some o → s'.heap.get? b = some o := fun b o nb e => by
          rcases hH.only b with z | z | ⟨ob, xs, z⟩
          · exact un.keep b o e z (by intro z; exact absurd (show b ∈ ([] : List Addr) from z) (by simp)) (by simp)
          · exact (nb z).elim
          · obtain ⟨e1, _⟩ := hok b _ z
            obtain ⟨e2, _⟩ := hok' b _ (un.frzs b ob _ z)
            rw [e] at e1; cases e1
            exact e2
        have grown : ∀ p ∈ cs, ∃ more : Array Value, s'.heap.get? p.2 = some { cls := .none, data := .fields more } := fun p hp => by
          obtain ⟨more, z⟩ := un.tbls p.2 #[] (hH.tbl p hp)
          exact ⟨_, hok' p.2 _ z⟩
        refine ⟨rfl, ⟨fun b o e => ?_, fun b o e => ?_⟩, os, bare⟩ <;> by_cases hb : b ∈ cs.map (·.2)
        · obtain ⟨p, hp, rfl⟩ := List.mem_map.mp hb
          obtain ⟨more, hm⟩ := grown p hp
          rw [hT p hp] at e; cases e
          exact .inr (.inl ⟨((C p hp).tab (hT p hp)).isCodeTable, rfl, #[], more, rfl, by rw [Array.empty_append]; exact hm⟩)
        · exact .inl (key b o hb e)
        · obtain ⟨p, hp, rfl⟩ := List.mem_map.mp hb
          obtain ⟨more, hm⟩ := grown p hp
          exact ⟨_, hm⟩
        · exact ⟨o, key b o hb e⟩
  cases hk : K.lookup a with
  | some o =>
    have e := KX a o hk
    rw [ha] at e
    cases e
    have on : ∀ {b : Addr}, b ∈ cs.map (·.2) → (if b ∈ cs.map (·.2) then some (HO.tbl #[]) else none) = some (.tbl #[]) := fun hb => if_pos hb
    have off : ∀ {b : Addr}, b ∉ cs.map (·.2) → (if b ∈ cs.map (·.2) then some (HO.tbl #[]) else none) = none := fun hb => if_neg hb
    refine core (fun b => if b ∈ cs.map (·.2) then some (.tbl #[]) else none) ⟨fun p hp => on (memT hp), fun b => ?_, fun b z => ?_, fun z => absurd (off aT) z⟩ (.inr ⟨_, vs.toArray, _, hk, rfl, rfl, rfl, by rw [List.size_toArray, lenV]; exact hl, by simpa using rv⟩) (fun b u z => ?_) <;> by_cases hb : b ∈ cs.map (·.2)
    · exact .inr (.inl hb)
    · exact .inl (off hb)
    · exact .inr hb
    · exact absurd (off hb) z
    · cases (on hb).symm.trans z
      exact isT hb
    · cases (off hb).symm.trans z
  | none =>
    have one : ∀ {b : Addr}, b = a → (if b = a then some (HO.frz { cls := .type "list", data := .seq vs.toArray } (.lst (ns.map V.int))) else if b ∈ cs.map (·.2) then some (.tbl #[]) else none) = some (.frz { cls := .type "list", data := .seq vs.toArray } (.lst (ns.map V.int))) := fun h => if_pos h
    have two : ∀ {b : Addr}, ¬ b = a → b ∈ cs.map (·.2) → (if b = a then some (HO.frz { cls := .type "list", data := .seq vs.toArray } (.lst (ns.map V.int))) else if b ∈ cs.map (·.2) then some (.tbl #[]) else none) = some (.tbl #[]) := fun h h' => (if_neg h).trans (if_pos h')
    have zero : ∀ {b : Addr}, ¬ b = a → b ∉ cs.map (·.2) → (if b = a then some (HO.frz { cls := .type "list", data := .seq vs.toArray } (.lst (ns.map V.int))) else if b ∈ cs.map (·.2) then some (.tbl #[]) else none) = none := fun h h' => (if_neg h).trans (if_neg h')
    refine core (fun b => if b = a then some (.frz { cls := .type "list", data := .seq vs.toArray } (.lst (ns.map V.int))) else if b ∈ cs.map (·.2) then some (.tbl #[]) else none) ⟨fun p hp => two (fun z => aT (z ▸ memT hp)) (memT hp), fun b => ?_, fun b z => ?_, fun _ => hk⟩
      (.inl (.inr ⟨{ cls := .type "list", data := .seq vs.toArray }, one rfl⟩)) (fun b u z => ?_) <;> by_cases hb : b = a
    · exact .inr (.inr ⟨_, _, one hb⟩)
    · by_cases hb2 : b ∈ cs.map (·.2)
      · exact .inr (.inl hb2)
      · exact .inl (zero hb hb2)
    · exact .inl hb
    · by_cases hb2 : b ∈ cs.map (·.2)
      · exact .inr hb2
      · exact absurd (zero hb hb2) z
    · cases (one hb).symm.trans z
      subst hb
      exact ⟨ha, by rw [List.length_map]; exact hl, vs, _, rv, ha⟩
    · by_cases hb2 : b ∈ cs.map (·.2)
      · cases (two hb hb2).symm.trans z
        exact isT hb2
      · cases (zero hb hb2).symm.trans z
/-- what is known of the law's promise at the head's heap -/
def LawG (l : PySem.W.OpenLaw) (w : World) (K : PySem.W.Frag) (k n : Nat) (x : Str) (mg : Str → Option Value) (fa : Addr) (h : Heap) : Prop :=
  ∃ (fd : FuncData) (cs : Cs) (sp : Sp), (∀ p ∈ cs, PySem.W.CodeHd h p.1 p.2 ∧ h.get? p.2 = some tab0) ∧ (∀ p ∈ cs, K.lookup p.2 = none) ∧ (∀ (s : Shared) (u : Value), BindsTo s fd ⟨[u], []⟩ [(x, u)]) ∧
    (∀ (H : Hp) (a : Addr) (ns : List Int), ns.length ≤ n → (∀ p ∈ cs, H p.2 = some (.tbl #[])) → SqL K H a (ns.map V.int) → sp [.ref a] H (fun v _ => v = .bl true) fun _ _ _ => False) ∧
    ∀ base : Heap, K.In base → base.Ns mainGlobals mg → (∀ p ∈ cs, LamX.TabB base mg p.1 p.2) → FnG l.prog w K mg base k fa fd [x] sp
/-- what the head tells of the defs' tables -/
def TabsG (q : Program) (K : PySem.W.Frag) (h : Heap) : Prop := ∀ (x : Str) (d : DefRec) (c P : Addr), (recsOf q).find? (fun e => e.name == x) = some d → PySem.W.tabIn K x = some (c, P) → PySem.W.CodeHd h c P ∧ h.get? P = some tab0
omit [Tbl] in
theorem walk_ofG {l : PySem.W.OpenLaw} {n k : Nat} {q : Program} {loose : List Str} {XP : (Str → Option Value) → Heap → Prop} {YP : World → Heap → Prop} {d : DefRec} {K : Params → PySem.W.Frag} {x : Str}
    (hn : l.most = some n) (hn2 : n ≤ sizeLine) (hdf : d.params.defaults = []) (hr : Room k callerA)
    (hY : ∀ (w : World) (h : Heap), YP w h → (K w.params).In h)
    (F : ∀ (w : World) (mg : Str → Option Value) (fa : Addr) (h : Heap), (K w.params).In h → h.Ns mainGlobals mg → mg d.name = some (.ref fa) → TabsG q (K w.params) h → LawG l w (K w.params) k n x mg fa h) :
    PySem.W.WalkO q loose XP YP l.row.toRowW d [] (fun f vs => PySem.call f vs) := by
  letI : Tbl := ⟨[], fun p hp => nomatch hp⟩
  refine Att.attach_call hn hdf fun w s₀ s₁ mg mb fa o pm cd doc a vs ns G Y ho hd hcd hmg hobj hints hlen hg => ?_
  have KX := hY w _ Y
  obtain ⟨fd, cs, sp, hT, nT, hb, hsp, hF⟩ := F w mg fa _ KX G.T.g hmg fun x d c P h1 h2 => PySem.W.tab_of G.T KX h1 h2
  exact law_callG KX G.T.g G.T.b G.T.builtins G.T.nolimit hg (fun p hp => (hT p hp).2) nT (fun p hp => (hT p hp).1) G.T.bmain hobj hints (Nat.le_trans hlen hn2) hr hF hb fun H hH hS => hsp H a ns hlen hH hS
end
end Iv

set_option maxRecDepth 100000
set_option maxHeartbeats 2000000
/-! IvQ: rules in short, for printed derivations. -/
namespace Iv
open PySem L2
variable [Tbl]

/-- a function that may be called by its name -/
structure CalG (P : Program) (w : World) (K : PySem.W.Frag) (mg : Str → Option Value) (base : Heap) (k : Nat) (xc : Str → Value) (T : Tab) (x : Str) (io : List Bool) : Prop where
  ex : ∃ (f : Addr) (fd : FuncData) (ps : List Str), FnG P w K mg base k f fd ps (spI K xc T x) ∧ mg x = some (.ref f) ∧ PySem.W.keepIn K (.ref f) = true ∧ Binds K fd ps []
  io : T.io x = io
theorem boot_len' : bootBuiltins "len" = some (.builtin "len") := by decide +kernel
theorem boot_abs' : bootBuiltins "abs" = some (.builtin "abs") := by decide +kernel
theorem boot_max' : bootBuiltins "max" = some (.builtin "max") := by decide +kernel
theorem boot_min' : bootBuiltins "min" = some (.builtin "min") := by decide +kernel
theorem boot_sum' : bootBuiltins "sum" = some (.builtin "sum") := by decide +kernel
theorem boot_sorted' : bootBuiltins "sorted" = some (.builtin "sorted") := by decide +kernel
theorem boot_repr' : bootBuiltins "repr" = some (.builtin "repr") := by decide +kernel
theorem boot_int' : bootBuiltins "int" = some (.type "int") := by decide +kernel
theorem boot_list' : bootBuiltins "list" = some (.type "list") := by decide +kernel
theorem boot_tuple' : bootBuiltins "tuple" = some (.type "tuple") := by decide +kernel
section
variable {X : Cx} {xc : Str → Value} {T : Tab} {W : WX} {A : List Nat} {e a b t k : Expr} {es : List Expr} {ce ca cb ck : CE} {cs : List CE} {pos cpos apos sp p q : Pos} {x y name : Str} {id : String} {r : Nat} {io : List Bool}
theorem Gd.blk {s : Shared} {H : Hp} {scope : Scope} {cenv : PySem.Env} {fp : List Addr} (G : Gd X) : Gd (X.blk s H scope cenv fp) := ⟨G.calm, G.nd, G.hu, G.gu⟩
theorem Gd.u1 (G : Gd X) : X.A.units + 1 < cLine := by have := G.hu; omega
theorem qv (i : Nat) (hN : X.N[i]? = some x := by rfl) (hv : Vis X.env.scope x := by first | exact Or.inl rfl | exact Or.inr (Or.inl rfl) | exact Or.inr (Or.inr rfl)) (hd : (x == ("__debug__" : Str)) = false := by decide) (hcd : (x == ("__classdict__" : Str)) = false := by decide) : Sd X xc T W (.Name x pos) (.var i) := sd_var hN hv hd hcd
theorem qn {j : Nat} (nd : X.N.Nodup) (hi : X.N[j]? = some x := by rfl) (hx : Loc X.env.scope x := by first | exact Or.inl rfl | exact Or.inr rfl) (hf : X.fn x = true ∨ X.env.scope.names.lookup x = some .local := by first | exact Or.inl rfl | exact Or.inr rfl) (hA : j ∈ A := by decide) : PG X (.Name x pos) (gI X.K A (.nm j)) := sg_name nd hi hx hf hA
theorem qc1 {f : Pr} {n : Nat} (hc : CallR X (.builtin id) (rC1 X.K f)) (hm : X.mg y = none) (hv : bootBuiltins y = some (.builtin id)) (ha : Sd X xc T W a ca) (hg : Gl X y := by rfl) (hn : y ≠ "__name__" := by decide) (hdb : (y == ("__debug__" : Str)) = false := by decide)
    (hs : starEach [a] X.env = (false, eval a X.env) :: starEach [] X.env := by rfl) : Sd X xc T W (.Call (.Name y p) [a] [] pos) (.p1 f ca) := sd_c1 hc hg hm hv ha hn hdb hs
theorem qt1 {f : Pr} (hc : CallR X (.type id) (rC1 X.K f)) (hm : X.mg y = none) (hv : bootBuiltins y = some (.type id)) (ha : Sd X xc T W a ca) (hg : Gl X y := by rfl) (hn : y ≠ "__name__" := by decide) (hdb : (y == ("__debug__" : Str)) = false := by decide)
    (hs : starEach [a] X.env = (false, eval a X.env) :: starEach [] X.env := by rfl) : Sd X xc T W (.Call (.Name y p) [a] [] pos) (.p1 f ca) := sd_t1 hc hg hm hv ha hn hdb hs
theorem qc2 {f : Pr} (hc : CallR X (.builtin id) (rC2 X.K f)) (hm : X.mg y = none) (hv : bootBuiltins y = some (.builtin id)) (ha : Sd X xc T W a ca) (hb : Sd X xc T W b cb) (hg : Gl X y := by rfl) (hn : y ≠ "__name__" := by decide) (hdb : (y == ("__debug__" : Str)) = false := by decide)
    (hs : starEach [a, b] X.env = (false, eval a X.env) :: starEach [b] X.env := by rfl) (hs2 : starEach [b] X.env = (false, eval b X.env) :: starEach [] X.env := by rfl) (hpl : (backTo pos (starEach [b] X.env)).any (·.1) = false := by rfl) : Sd X xc T W (.Call (.Name y p) [a, b] [] pos) (.p2 f ca cb) :=
  sd_c2 hc hg hm hv ha hb hn hdb hs hs2 hpl
theorem qcall {k : Nat} (G : Gd X) (hr : Room k X.A) (C : CalG X.prog X.w X.K X.mg X.base k xc T x io) (ha : PA X (e :: es) (tA X.K xc T WF io cs)) (hg : Gl X x := by rfl) (hdb : (x == ("__debug__" : Str)) = false := by decide) (he : starEach (e :: es) X.env = (false, eval e X.env) :: starEach es X.env := by rfl)
    (hpl : (backTo pos (starEach es X.env)).any (·.1) = false := by rfl) : Sd X xc T WF (.Call (.Name x p) (e :: es) [] pos) (.call x cs) := by
  obtain ⟨⟨f, fd, ps, F, hm, hk, hb⟩, hio⟩ := C
  exact sd_call G F hr hg hm hk hb (by rw [hio]; exact ha) hdb he hpl
theorem qac (ha : Sd X xc T W e ce) (hr : PA X es (tA X.K xc T W io.tail cs)) (hs : starEach (e :: es) X.env = (false, eval e X.env) :: starEach es X.env := by rfl) : PA X (e :: es) (tA X.K xc T W io (ce :: cs)) := sa_cons ha hr hs
theorem qtup {x1} (h : PA X es (tA X.K xc T W [] cs)) (he : ∀ whole, isTrue (.Tuple es x1 pos) X.env whole = (do let v ← whole; standAt (Expr.Tuple es x1 pos).pos; holding [v] (truthy v)) := by intro _; rfl) : Sd X xc T W (.Tuple es x1 pos) (.tup cs) := sd_tup h he
theorem qlst (h : PA X es (tA X.K xc T W [] cs)) (he : ∀ whole, isTrue (.List es pos) X.env whole = (do let v ← whole; standAt (Expr.List es pos).pos; holding [v] (truthy v)) := by intro _; rfl) : Sd X xc T W (.List es pos) (.lst cs) := sd_lst h he
theorem qix (G : Gd X) (ha : Sd X xc T W a ca) (hb : Sd X xc T W b cb) (hs : NoSl b := by intro _ _; rfl) : Sd X xc T W (.Subscript a b pos) (.ix ca cb) := sd_ix G.u1 ha hb hs
theorem qmA0 {m : Mt} (i : Nat) (slot : Slot "list" name id) (hty : typeOf (.builtin id) = pure (.type "method_descriptor")) (hm : MtR X id (rM m)) (ha : Sd X xc T W a ca) (hN : X.N[i]? = some x := by rfl) (hv : Vis X.env.scope x := by first | exact Or.inl rfl | exact Or.inr (Or.inl rfl) | exact Or.inr (Or.inr rfl)) (hd : (x == ("__debug__" : Str)) = false := by decide) (hcd : (x == ("__classdict__" : Str)) = false := by decide) (hline : (apos.endLine == cpos.line) = true := by rfl)
    (hbase : attributeBase (.Name x p) name X.env (eval (.Name x p) X.env) = eval (.Name x p) X.env := by rfl) (hs : starEach [a] X.env = (false, eval a X.env) :: starEach [] X.env := by rfl) : Sd X xc T W (.Call (.Attribute (.Name x p) name apos) [a] [] cpos) (.mut m i [] [ca]) :=
  sd_mutA0 PySem.F.plainAttrs_list slot hty hm hN hv hd hcd hline ha hbase hs
theorem qmN0 {m : Mt} (i : Nat) (slot : Slot "list" name id) (hty : typeOf (.builtin id) = pure (.type "method_descriptor")) (hm : MtR X id (rM m)) (hN : X.N[i]? = some x := by rfl) (hv : Vis X.env.scope x := by first | exact Or.inl rfl | exact Or.inr (Or.inl rfl) | exact Or.inr (Or.inr rfl)) (hd : (x == ("__debug__" : Str)) = false := by decide) (hcd : (x == ("__classdict__" : Str)) = false := by decide) (hline : (apos.endLine == cpos.line) = true := by rfl)
    (hbase : attributeBase (.Name x p) name X.env (eval (.Name x p) X.env) = eval (.Name x p) X.env := by rfl) : Sd X xc T W (.Call (.Attribute (.Name x p) name apos) [] [] cpos) (.mut m i [] []) :=
  sd_mutN0 PySem.F.plainAttrs_list slot hty hm hN hv hd hcd hline hbase
theorem qmA1 {m : Mt} (i : Nat) (G : Gd X) (slot : Slot "list" name id) (hty : typeOf (.builtin id) = pure (.type "method_descriptor")) (hm : MtR X id (rM m)) (hk : Sd X xc T W k ck) (ha : Sd X xc T W a ca) (hN : X.N[i]? = some x := by rfl) (hv : Vis X.env.scope x := by first | exact Or.inl rfl | exact Or.inr (Or.inl rfl) | exact Or.inr (Or.inr rfl)) (hd : (x == ("__debug__" : Str)) = false := by decide) (hcd : (x == ("__classdict__" : Str)) = false := by decide) (hline : (apos.endLine == cpos.line) = true := by rfl)
    (hs1 : NoSl k := by intro _ _; rfl) (hbase : attributeBase (.Subscript (.Name x p) k sp) name X.env (eval (.Subscript (.Name x p) k sp) X.env) = eval (.Subscript (.Name x p) k sp) X.env := by rfl) (hs : starEach [a] X.env = (false, eval a X.env) :: starEach [] X.env := by rfl) :
    Sd X xc T W (.Call (.Attribute (.Subscript (.Name x p) k sp) name apos) [a] [] cpos) (.mut m i [ck] [ca]) := sd_mutA1 PySem.F.plainAttrs_list slot hty hm hN hv hd hcd hline G.u1 hk ha hs1 hbase hs
theorem qmN1 {m : Mt} (i : Nat) (G : Gd X) (slot : Slot "list" name id) (hty : typeOf (.builtin id) = pure (.type "method_descriptor")) (hm : MtR X id (rM m)) (hk : Sd X xc T W k ck) (hN : X.N[i]? = some x := by rfl) (hv : Vis X.env.scope x := by first | exact Or.inl rfl | exact Or.inr (Or.inl rfl) | exact Or.inr (Or.inr rfl)) (hd : (x == ("__debug__" : Str)) = false := by decide) (hcd : (x == ("__classdict__" : Str)) = false := by decide) (hline : (apos.endLine == cpos.line) = true := by rfl)
    (hs1 : NoSl k := by intro _ _; rfl) (hbase : attributeBase (.Subscript (.Name x p) k sp) name X.env (eval (.Subscript (.Name x p) k sp) X.env) = eval (.Subscript (.Name x p) k sp) X.env := by rfl) : Sd X xc T W (.Call (.Attribute (.Subscript (.Name x p) k sp) name apos) [] [] cpos) (.mut m i [ck] []) :=
  sd_mutN1 PySem.F.plainAttrs_list slot hty hm hN hv hd hcd hline G.u1 hk hs1 hbase
theorem qset {i : Expr} {ci : CE} {tpos : Pos} (r : Nat) (G : Gd X) (hi : Sd X xc T W i ci) (he : Sd X xc T W e ce) (hN : X.N[r]? = some x := by rfl) (hv : Vis X.env.scope x := by first | exact Or.inl rfl | exact Or.inr (Or.inl rfl) | exact Or.inr (Or.inr rfl)) (hd : (x == ("__debug__" : Str)) = false := by decide) (hcd : (x == ("__classdict__" : Str)) = false := by decide)
    (hs : swapsWithSole [.Subscript (.Name x p) i tpos] e pos.line X.env = pure false := by rfl) (hw : swappedStores [.Subscript (.Name x p) i tpos] e X.env = pure none := by rfl)
    (h1 : (assignEach [.Subscript (.Name x p) i tpos] X.env).map (·.2) = [assign (.Subscript (.Name x p) i tpos) X.env] := by rfl)
    (ha : ∀ v, assign (.Subscript (.Name x p) i tpos) X.env v = (do
      let ov ← holding [v] (eval (.Name x p) X.env)
      let iv ← holding [v, ov] (eval i X.env)
      standAt tpos
      holding [v, ov, iv] (setItem ov iv v)
      release [v, ov, iv] []) := by intro _; rfl) : PS X (.Assign [.Subscript (.Name x p) i tpos] e pos) (tS X.K xc T W A (.set r [] ci ce)) := ss_set G.u1 hN hv hd hcd hi he hs hw h1 ha
theorem qasg {tg : Expr} {tgc : Tg} (he : Sd X xc T W e ce) (hg : PG X tg (gI X.K A tgc)) (hs : swapsWithSole [tg] e pos.line X.env = pure false := by rfl) (hw : swappedStores [tg] e X.env = pure none := by rfl)
    (h1 : (assignEach [tg] X.env).map (·.2) = [assign tg X.env] := by rfl) : PS X (.Assign [tg] e pos) (tS X.K xc T W A (.asg tgc ce)) := ss_asg he hg hs hw h1
theorem qexpr (he : Sd X xc T W e ce) (hs : swapsWith e none pos.line X.env = pure false := by rfl) : PS X (.Expr e pos) (tS X.K xc T W A (.expr ce)) := ss_expr he hs
theorem qtg {es : List Expr} {k n : Nat} {ts : List Tg} (calm : X.calm = true) (h : PGs X es (gIs X.K A ts)) (hl : ts.length = n := by rfl) (hn : (assignEach es X.env).length = n := by rfl) (hst : (assignEach es X.env).findIdx? (·.1) = none := by rfl) : PG X (.Tuple es k pos) (gI X.K A (.tp ts)) := sg_tup calm h hl hn hst
theorem qgc {e : Expr} {es : List Expr} {t : Tg} {ts : List Tg} (h1 : PG X e (gI X.K A t)) (h2 : PGs X es (gIs X.K A ts)) (hs : assignEach (e :: es) X.env = (false, assign e X.env) :: assignEach es X.env := by rfl) : PGs X (e :: es) (gIs X.K A (t :: ts)) := sgs_cons h1 h2 hs
end
end Iv

set_option maxRecDepth 100000
set_option maxHeartbeats 2000000
/-! IvR: the source that every law draws from; functions by depth. -/
namespace Iv
open PySem L2
variable [Tbl]
open PyProof.Rows (envOfC)

def mixF (m c : Int) : Int := (m * 69069 + c * 31 + 5) % 2147483629
def srcMix (ns : List Int) : Int := ns.foldl mixF 11
def absI (c : Int) : Int := if c < 0 then -c else c
def srcOf (cells : List Int) (left mixed turn : Int) : PyData := .dict [(.str "cells", .list (cells.map PyData.int)), (.str "left", .int left), (.str "mixed", .int mixed), (.str "turn", .int turn)]
def srcD (ns : List Int) : PyData := srcOf (ns.map absI).reverse 1 (srcMix ns) 0
def spSrc (K : PySem.W.Frag) : Sp := fun vs H Q E => ∃ (a : Addr) (ns : List Int), vs = [.ref a] ∧ SqL K H a (ns.map V.int) ∧ ns.length ≤ 63 ∧ ∀ v H' fp, Ext H H' → Den K H' v (srcD ns) fp → fp.Nodup → (∀ x ∈ fp, H x = none) → Q v H'
abbrev rInt1 : List V → Hp → VK → Prop := fun xs H Q => (∃ i, xs = [.int i] ∧ Q (.int i) H) ∨ ∃ k, xs = [.bl k] ∧ Q (.int (if k then 1 else 0)) H
abbrev rAbs1 : List V → Hp → VK → Prop := fun xs H Q => ∃ i, xs = [.int i] ∧ Q (.int (if i < 0 then -i else i)) H
abbrev srcT (K : PySem.W.Frag) : TS := tSeq (tAsg (tC (.int 11)) (gName 1)) (tSeq (tFor (iList K (tVar 0)) (gName 2) (tAsg (tOp (L2.rI (fun _ j => 0 < j) fun i j => .int (i % j))
    (tCB rInt1 (tCons (tOp (rI0 fun i j => .int (i + j)) (tOp (rI0 fun i j => .int (i + j)) (tOp (L2.rI CMul fun i j => .int (i * j)) (tVar 1) (tC (.int 69069))) (tOp (L2.rI CMul fun i j => .int (i * j)) (tVar 2) (tC (.int 31)))) (tC (.int 5))) tNil)) (tC (.int 2147483629))) (gName 1)))
  (tRet (tDisp [(tC (.str "cells"), tRevL K (tLc (iList K (tVar 0)) (gName 2) tYes (tCB rAbs1 (tCons (tVar 2) tNil)) [2])), (tC (.str "left"), tC (.int 1)), (tC (.str "mixed"), tVar 1), (tC (.str "turn"), tC (.int 0))])))
theorem SqL.ext {K : PySem.W.Frag} {H H' : Hp} {a : Addr} {xs : List V} (h : SqL K H a xs) (e : Ext H H') : SqL K H' a xs := by
  rcases h with (h | ⟨o, h⟩) | h
  · exact .inl (.inl (e a _ h))
  · exact .inl (.inr ⟨o, e a _ h⟩)
  · exact .inr h
theorem mixF_lt (m c : Int) : 0 ≤ mixF m c ∧ mixF m c < 2147483629 := ⟨Int.emod_nonneg _ (by decide), Int.emod_lt_of_pos _ (by decide)⟩
theorem srcMix_lt : ∀ ns : List Int, 0 ≤ srcMix ns ∧ srcMix ns < 2147483629 := by
  have : ∀ (ns : List Int) (m : Int), 0 ≤ m ∧ m < 2147483629 → 0 ≤ ns.foldl mixF m ∧ ns.foldl mixF m < 2147483629 := by
    intro ns
    induction ns with
    | nil => intro m h; exact h
    | cons c ns ih => intro m _; exact ih _ (mixF_lt m c)
  exact fun ns => this ns 11 (by decide)
theorem srcMix_take {ns : List Int} {i : Nat} {c : Int} (h : ns[i]? = some c) : srcMix (ns.take (i + 1)) = mixF (srcMix (ns.take i)) c := by
  unfold srcMix
  rw [List.take_add_one, h, List.foldl_append]
  rfl
theorem denL_int {K : PySem.W.Frag} {H : Hp} : ∀ ns : List Int, DenL K H (ns.map V.int) (ns.map PyData.int) []
  | [] => .nil
  | n :: ns => .cons (fp := []) (fq := []) (.int n) (denL_int ns)
theorem merge4 {a b c d : V} : mergeK [] [(Sum.inr ("cells" : Str), a), (Sum.inr "left", b), (Sum.inr "mixed", c), (Sum.inr "turn", d)] = [(Sum.inr ("cells" : Str), a), (Sum.inr "left", b), (Sum.inr "mixed", c), (Sum.inr "turn", d)] := by
  have h1 : ¬ (("cells" : Str) = "left") := by decide
  have h2 : ¬ (("cells" : Str) = "mixed") := by decide
  have h3 : ¬ (("cells" : Str) = "turn") := by decide
  have h4 : ¬ (("left" : Str) = "mixed") := by decide
  have h5 : ¬ (("left" : Str) = "turn") := by decide
  have h6 : ¬ (("mixed" : Str) = "turn") := by decide
  simp [mergeK, putK, h1, h2, h3, h4, h5, h6]
theorem src_ok {K : PySem.W.Frag} {vs : List V} {H : Hp} {Q : VK} {E : XK} (h : spSrc K vs H Q E) : srcT K { nx := fun _ H' => Q .non H', rt := Q } (L2.start ["script", "mixed", "cell"] vs) H := by
  obtain ⟨a, ns, rfl, hS, hlen, k⟩ := h
  have mul : ∀ {m : Int}, 0 ≤ m ∧ m < 2147483629 → CMul m 69069 := fun h => .inr ⟨by decide, by decide⟩
  refine ⟨_, rfl, a, rfl, ⟨_, hS⟩, for_list (K := K) (a := a) (xs := ns.map V.int) (fun i σ H' => H' = H ∧ ∃ v, σ = [some (.ref a), some (.int (srcMix (ns.take i))), v]) ⟨rfl, none, rfl⟩ (fun i σ H' _ ⟨e, _⟩ => by rw [e]; exact hS) ?_ ?_⟩
  · rintro i x σ H' hx ⟨rfl, v, rfl⟩
    rw [List.getElem?_map] at hx
    cases hc : ns[i]? with
    | none => rw [hc] at hx; cases hx
    | some c =>
      rw [hc] at hx
      cases hx
      refine ⟨_, rfl, _, _, rfl, rfl, .inr ⟨by decide, by decide⟩, _, rfl, _, _, rfl, rfl, .inr ⟨by decide, by decide⟩, _, _, rfl, rfl, _, _, rfl, rfl, .inl ⟨_, rfl, _, _, rfl, rfl, (by show (0 : Int) < 2147483629; decide), rfl, some (.int c), ?_⟩⟩
      rw [srcMix_take hc]
      first | done | rfl
  · rintro σ H' ⟨rfl, v, rfl⟩
    rw [List.length_map, List.take_length]
    intro p hp
    have e1 : Ext H' (upd H' p (.dK [])) := Ext.upd hp
    refine ⟨_, rfl, a, rfl, ⟨_, SqL.ext hS e1⟩, fun D hD => ?_⟩
    have npD : D ≠ p := fun e => by rw [e, upd_same] at hD; cases hD
    have hD0 : H' D = none := by rw [upd_ne npD] at hD; exact hD
    have e2 : ∀ xs, Ext H' (upd (upd H' p (.dK [])) D (.lst xs)) := fun xs b o e => by
      have n1 : b ≠ p := fun z => by rw [z, hp] at e; cases e
      have n2 : b ≠ D := fun z => by rw [z, hD0] at e; cases e
      rw [upd_ne n2, upd_ne n1]; exact e
    refine lc_list (K := K) (a := a) (xs := ns.map V.int) (fun i H2 => H2 = upd (upd H' p (.dK [])) D (.lst ((ns.take i).map fun c => V.int (absI c)))) rfl (fun i H2 _ e => by rw [e]; exact SqL.ext hS (e2 _)) ?_ ?_
    · rintro i x H2 hx rfl
      rw [List.getElem?_map] at hx
      cases hc : ns[i]? with
      | none => rw [hc] at hx; cases hx
      | some c =>
        rw [hc] at hx
        cases hx
        have hi : i < ns.length := (List.getElem?_eq_some_iff.mp hc).1
        refine ⟨rfl, ?_⟩
        simp only [tYes, if_true]
        refine (⟨_, rfl, c, rfl, (ns.take i).map fun c => V.int (absI c), upd_same, ?_, ?_⟩)
        · rw [List.length_map, List.length_take, sizeLine_eq]; omega
        · rw [List.take_add_one, hc, List.map_append]
          funext b
          by_cases hb : b = D
          · rw [hb, upd_same, upd_same]; rfl
          · rw [upd_ne hb, upd_ne hb, upd_ne hb]
    · rintro H2 rfl
      rw [List.length_map, List.take_length]
      refine ⟨D, _, rfl, SqL.of upd_same, fun p2 hp2 => ⟨_, rfl, ?_⟩⟩
      have n2D : p2 ≠ D := fun e => by rw [e, upd_same] at hp2; cases hp2
      rw [upd_ne n2D] at hp2
      have n2p : p2 ≠ p := fun e => by rw [e, upd_same] at hp2; cases hp2
      have hp20 : H' p2 = none := by rw [upd_ne n2p] at hp2; exact hp2
      refine ⟨by rw [upd_ne n2p.symm, upd_ne npD.symm, upd_same], [(Sum.inr "cells", .ref p2), (Sum.inr "left", .int 1), (Sum.inr "mixed", .int (srcMix ns)), (Sum.inr "turn", .int 0)], rfl, by simp, ?_⟩
      rw [merge4]
      have hEx : Ext H' (upd (upd (upd (upd H' p (.dK [])) D (.lst (ns.map fun c => V.int (absI c)))) p2 (.lst (ns.map fun c => V.int (absI c)).reverse)) p (.dK [(Sum.inr ("cells" : Str), .ref p2), (Sum.inr "left", .int 1), (Sum.inr "mixed", .int (srcMix ns)), (Sum.inr "turn", .int 0)])) := fun b o e => by
        have n1 : b ≠ p := fun z => by rw [z, hp] at e; cases e
        have n2 : b ≠ D := fun z => by rw [z, hD0] at e; cases e
        have n3 : b ≠ p2 := fun z => by rw [z, hp20] at e; cases e
        rw [upd_ne n1, upd_ne n3, upd_ne n2, upd_ne n1]; exact e
      refine k (.ref p) _ [p, p2] hEx (.dK upd_same rfl ?_) ?_ ?_
      · have dl := denL_int (K := K) (H := upd (upd (upd (upd H' p (.dK [])) D (.lst (ns.map fun c => V.int (absI c)))) p2 (.lst (ns.map fun c => V.int (absI c)).reverse)) p (.dK [(Sum.inr ("cells" : Str), .ref p2), (Sum.inr "left", .int 1), (Sum.inr "mixed", .int (srcMix ns)), (Sum.inr "turn", .int 0)])) (ns.map absI).reverse
        refine .cons (fp := [p2]) (fq := []) (.lst ?_ dl) (.cons (fp := []) (fq := []) (.int _) (.cons (fp := []) (fq := []) (.int _) (.cons (fp := []) (fq := []) (.int _) .nil)))
        rw [upd_ne n2p, upd_same]
        simp [List.map_reverse]
      · simp [n2p.symm]
      · intro x hx
        simp only [List.mem_cons, List.not_mem_nil, or_false] at hx
        rcases hx with rfl | rfl
        · exact hp
        · exact hp20

/-! ### functions by depth -/
section
variable {P : Program} {w : World} {K : PySem.W.Frag} {mg : Str → Option Value} {base : Heap} {k : Nat} {xc : Str → Value} {defs : Str → Option Def} {fuel : Nat} {x : Str} {st : Stmt} {f : Addr} {fd : FuncData} {N ps : List Str} {d : Def} {io : List Bool} {A : List Nat}
theorem spI_len (hd : defs x = some d) (hnp : d.np = ps.length) {vs : List V} {H : Hp} {Q : VK} {E : XK} (h : spI K xc (tab defs fuel (k + 1)) x vs H Q E) : vs.length = ps.length := by
  obtain ⟨qs, fps, R, h⟩ := h
  have hl : vs.length = qs.length := by simpa using R.len
  have e : (tab defs fuel (k + 1)).fn x qs = runD (tab defs fuel k) d qs := by
    show (match defs x with | some d => runD ⟨ioOf defs, fnK defs fuel k, fuel⟩ d qs | none => .no) = _
    rw [hd]; rfl
  rw [e] at h
  unfold runD at h
  by_cases hlen : qs.length = d.np
  · rw [hl, hlen, hnp]
  · rw [if_neg hlen] at h; exact h.elim
theorem calG_zero (F : Fun K x x st f fd) (hm : mg x = some (.ref f)) (b : Binds K fd ps []) (hd : defs x = some d) (hdio : d.io = io) : CalG P w K mg base 0 xc (tab defs fuel 0) x io :=
  ⟨⟨f, fd, ps, ⟨fun vs H Q E h => by obtain ⟨_, _, _, h⟩ := h; exact h.elim, fun A outer s H args us vs Q E _ _ _ _ _ h => by obtain ⟨_, _, _, h⟩ := h; exact h.elim⟩, hm, F.kp, b⟩, by show ioOf defs x = io; unfold ioOf; rw [hd]; exact hdio⟩
theorem calG_step (F : Fun K x x st f fd) (hm : mg x = some (.ref f)) (b : Binds K fd ps []) (S : FnScope N ps (defScope st)) (hd : defs x = some d) (hdio : d.io = io) (hnp : d.np = ps.length) (hns : d.ns = N.length) (hnl : ps.length ≤ N.length) (hA : ∀ i, io.getD i false = true → i ∉ A)
    (body : ∀ (cdv : Value) (Ar : Around) (outer : List PySem.Env) (s : Shared) (H : Hp), Ar.guards = some [] → Room k (Ar.deeper (envOfC x (defScope st) s.heap.objs.size f cdv)) → PSs (cxN P w K mg base N x (defScope st) f cdv Ar outer s H) (defBody st) (tSs K xc (tab defs fuel k) WF A d.body)) :
    CalG P w K mg base (k + 1) xc (tab defs fuel (k + 1)) x io := by
  have hT : ∀ qs, (tab defs fuel (k + 1)).fn x qs = runD (tab defs fuel k) d qs := fun qs => by
    show (match defs x with | some d => runD ⟨ioOf defs, fnK defs fuel k, fuel⟩ d qs | none => .no) = _
    rw [hd]; rfl
  have hio : (tab defs fuel (k + 1)).io x = d.io := by show ioOf defs x = d.io; unfold ioOf; rw [hd]; rfl
  refine ⟨⟨f, fd, ps, ?_, hm, F.kp, b⟩, by rw [hio]; exact hdio⟩
  obtain ⟨oc, od, kV, doc, pm, an, cdv, ct, osl, rfl, lk, hcd⟩ := F.ex
  refine fnG_of lk hcd S (fun vs H Q E h => spI_len hd hnp h) fun Ar outer s H vs Q E hg hr hsp => ⟨_, body cdv Ar outer s H hg hr, body_end hT hio hns (by rw [hnp]; exact hnl) (fun i hi => hA i (by rw [← hdio]; exact hi)) hsp⟩
end
theorem ioA {io : List Bool} {A : List Nat} (h : ((List.range io.length).all fun i => !(io.getD i false) || !(A.contains i)) = true) : ∀ i, io.getD i false = true → i ∉ A := fun i hi hA => by
  have hl : i < io.length := by
    by_cases q : i < io.length
    · exact q
    · rw [List.getD_eq_getElem?_getD, List.getElem?_eq_none (by omega)] at hi; cases hi
  have := List.all_eq_true.mp h i (List.mem_range.mpr hl)
  rw [hi] at this
  simp [hA] at this
/-- a def of the text, by its name -/
def Known (K : PySem.W.Frag) (mg : Str → Option Value) (x : Str) (st : Stmt) (ps : List Str) : Prop := ∃ (f : Addr) (fd : FuncData), Fun K x x st f fd ∧ mg x = some (.ref f) ∧ Binds K fd ps []
theorem known_zero {P : Program} {w : World} {K : PySem.W.Frag} {mg : Str → Option Value} {base : Heap} {xc : Str → Value} {defs : Str → Option Def} {fuel : Nat} {x : Str} {st : Stmt} {ps : List Str} {d : Def} {io : List Bool} (F : Known K mg x st ps) (hd : defs x = some d) (hdio : d.io = io) : CalG P w K mg base 0 xc (tab defs fuel 0) x io := by
  obtain ⟨f, fd, F, hm, b⟩ := F
  exact calG_zero F hm b hd hdio
theorem known_step {P : Program} {w : World} {K : PySem.W.Frag} {mg : Str → Option Value} {base : Heap} {k : Nat} {xc : Str → Value} {defs : Str → Option Def} {fuel : Nat} {x : Str} {st : Stmt} {N ps : List Str} {d : Def} {io : List Bool} {A : List Nat} (F : Known K mg x st ps) (S : FnScope N ps (defScope st)) (hd : defs x = some d) (hdio : d.io = io) (hnp : d.np = ps.length) (hns : d.ns = N.length) (hnl : ps.length ≤ N.length)
    (hA : ((List.range io.length).all fun i => !(io.getD i false) || !(A.contains i)) = true)
    (body : ∀ (f : Addr) (cdv : Value) (Ar : Around) (outer : List PySem.Env) (s : Shared) (H : Hp), Ar.guards = some [] → Room k (Ar.deeper (envOfC x (defScope st) s.heap.objs.size f cdv)) → PSs (cxN P w K mg base N x (defScope st) f cdv Ar outer s H) (defBody st) (tSs K xc (tab defs fuel k) WF A d.body)) :
    CalG P w K mg base (k + 1) xc (tab defs fuel (k + 1)) x io := by
  obtain ⟨f, fd, F, hm, b⟩ := F
  exact calG_step F hm b S hd hdio hnp hns hnl (ioA hA) (body f)
/-- what the law's promise is -/
def spLaw (K : PySem.W.Frag) : Sp := fun vs H Q _ => ∃ (a : Addr) (ns : List Int), vs = [.ref a] ∧ SqL K H a (ns.map V.int) ∧ LamX.Tabs Tbl.T H ∧ ns.length ≤ 63 ∧ ∀ H', Q (.bl true) H'
/-- the slots of the law's rest: the script is not told, the source is its own -/
def lawEnv (n : Nat) (ns : List Int) : Env := none :: some ⟨.deep, true, srcD ns⟩ :: List.replicate n none
section
variable {P : Program} {w : World} {K : PySem.W.Frag} {mg : Str → Option Value} {base : Heap} {k : Nat} {xc : Str → Value} {T : Tab} {n : Nat} {N : List Str} {A : List Nat} {body : List CS}
theorem law_rest {vs : List V} {H : Hp} {Q : VK} {E : XK} (hN : N.length = n + 2) (hrun : ∀ ns : List Int, ns.length ≤ 63 → ∃ e, execs T body [] (lawEnv n ns) = .rt ⟨.imm, .fr, .bool true⟩ e) (h : spLaw K vs H Q E) :
    tSeq (tAsg (fun σ H Q => tCons (tVar 0) tNil σ H fun vs H1 => spSrc K vs H1 Q fun _ _ _ => False) (gName 1)) (tSs K xc T WF A body) { nx := fun _ H' => Q .non H', rt := Q } (L2.start N vs) H := by
  obtain ⟨a, ns, rfl, hS, hTb, hlen, k⟩ := h
  have h0 : L2.start N [.ref a] = some (.ref a) :: none :: List.replicate n none := by
    unfold L2.start
    rw [hN]
    show some (V.ref a) :: List.replicate (n + 2 - 1) none = _
    rfl
  rw [h0]
  refine ⟨.ref a, rfl, a, ns, rfl, hS, hlen, fun v H' fp ex hd nd nf => ?_⟩
  obtain ⟨e, he⟩ := hrun ns hlen
  refine ⟨[], lawEnv n ns, fun i => if i = 1 then fp else [], ⟨?_, fun i s hs => ?_, fun i s hs o => ?_, fun i j s t hij hs o ht => ?_, hTb.ext ex⟩, ?_⟩
  · simp [lawEnv]
  · match i, hs with
    | 0, hs => simp [lawEnv] at hs
    | 1, hs =>
      simp [lawEnv] at hs
      subst hs
      exact ⟨v, rfl, hd, trivial⟩
    | i + 2, hs =>
      simp only [lawEnv, List.getElem?_cons_succ, List.getElem?_replicate] at hs
      split at hs <;> cases hs
  · by_cases hi : i = 1
    · simp [hi, nd]
    · simp [hi]
  · match i, j, hs, ht with
    | 0, _, hs, _ => simp [lawEnv] at hs
    | i + 2, _, hs, _ =>
      simp only [lawEnv, List.getElem?_cons_succ, List.getElem?_replicate] at hs
      split at hs <;> cases hs
    | 1, 1, _, _ => exact (hij rfl).elim
    | 1, 0, _, ht => simp [lawEnv] at ht
    | 1, j + 2, _, ht =>
      simp only [lawEnv, List.getElem?_cons_succ, List.getElem?_replicate] at ht
      split at ht <;> cases ht
  · rw [he]
    intro σ' H2 fps' u fq S R ag hV B
    have := den_bool (hV.den R)
    subst this
    exact k H2
end
end Iv

set_option maxRecDepth 100000
set_option maxHeartbeats 2000000
/-! IvS: bodies of keys: small expressions that change nothing; lambdas with one parameter. -/
namespace Iv
open PySem L2 PyProof.Rows
variable [Tbl]

/-- the names that the slots stand for, in the heap -/
def Ks (N : List Str) (pe : PySem.Env) (h : Heap) (env : Env) : Prop := ∃ m, h.Ns pe.locals m ∧ ∀ (i : Nat) (x : Str) (s : Sl), N[i]? = some x → env[i]? = some (some s) → s.d.hasDict = false → Vis pe.scope x → ∃ u as, Look pe h m x u ∧ Reads h u s.d as
theorem isCell_keeps {h h' : Heap} {c : Addr} {v : Option Value} (k : ∀ b o, h.get? b = some o → h'.get? b = some o) (e : h.IsCell c v) : h'.IsCell c v := let ⟨o, ho, hd⟩ := e; ⟨o, k _ _ ho, hd⟩
theorem Ks.keeps {N : List Str} {pe : PySem.Env} {h h' : Heap} {env : Env} (q : Ks N pe h env) (k : ∀ b o, h.get? b = some o → h'.get? b = some o) : Ks N pe h' env := by
  obtain ⟨m, h1, h2⟩ := q
  refine ⟨m, h1.keeps k, fun i x s e1 e2 e3 e4 => ?_⟩
  obtain ⟨u, as, l, r⟩ := h2 i x s e1 e2 e3 e4
  refine ⟨u, as, ?_, PyProof.Rows.Reads.keeps k r⟩
  rcases l with l | ⟨l1, c, l2, l3⟩
  · exact .inl l
  · exact .inr ⟨l1, c, l2, isCell_keeps k l3⟩
/-- e is worked out as the code c tells, and nothing is changed -/
def Kp (P : Program) (w : World) (N : List Str) (pe : PySem.Env) (e : Expr) (c : KX) : Prop :=
  ∀ (A : Around) (s : Shared) (env : Env) (r : D) (Q E : Value → Shared → Prop), Ks N pe s.heap env → kx env c = some r →
    (∀ (h' : Heap) (tk : Tok) (u : Value) (as : List Addr), (∀ b o, s.heap.get? b = some o → h'.get? b = some o) → Reads h' u r as → Q u { s with heap := h', toks := tk }) → wpAny (model P w) A (eval e pe) Q E s
def Kps (P : Program) (w : World) (N : List Str) (pe : PySem.Env) (es : List Expr) (cs : List KX) : Prop :=
  ∀ (pos : Pos) (A : Around) (s : Shared) (env : Env) (rs : List D) (Q : List Value → Shared → Prop) (E : Value → Shared → Prop), Ks N pe s.heap env → kxs env cs = some rs →
    (∀ (h' : Heap) (tk : Tok) (us : List Value) (as : List Addr), (∀ b o, s.heap.get? b = some o → h'.get? b = some o) → ReadsAll h' us rs as → Q us { s with heap := h', toks := tk }) →
    wpAny (model P w) A (spliced (backTo pos (starEach es pe))) Q E s
section
variable {P : Program} {w : World} {N : List Str} {pe : PySem.Env} {e a b : Expr} {es : List Expr} {c ca cb : KX} {cs : List KX} {pos : Pos} {x : Str} {i : Nat}
theorem kp_cap (hk : pe.scope.kind = .function) (hN : N[i]? = some x) (hv : Vis pe.scope x) (hd : (x == ("__debug__" : Str)) = false := by decide) (hcd : (x == ("__classdict__" : Str)) = false := by decide) : Kp P w N pe (.Name x pos) (.cap i) := by
  intro A s env r Q E K hr h
  obtain ⟨m, h1, h2⟩ := K
  simp only [kx] at hr
  split at hr
  · rename_i sl hs
    split at hr
    · cases hr
    · rename_i hdd
      simp only [Bool.not_eq_true] at hdd
      cases hr
      obtain ⟨u, as, l, rd⟩ := h2 i x sl hN hs hdd hv
      have fin := h s.heap s.toks u as (fun _ _ e => e) rd
      rcases l with ⟨l1, l2⟩ | ⟨l1, c, l2, l3⟩
      · exact wpAny_Name (wpAny_loadName_local hk l1 h1 l2 fin) hd
      · rcases l1 with l1 | l1
        · exact wpAny_Name (wpAny_loadName_cell hk l1 l2 l3 fin) hd
        · exact wpAny_Name (wpAny_loadName_free hk l1 l2 l3 fin hcd) hd
  · cases hr
theorem kp_int {n : Int} {j : Nat} : Kp P w N pe (.Constant (.int n) j pos) (.int n) := by
  intro A s env r Q E K hr h
  simp only [kx, Option.some.injEq] at hr
  subst hr
  exact wpAny_Constant_int (h s.heap _ _ [] (fun _ _ e => e) (.int _ _))
theorem reads_int {h : Heap} {u : Value} {i : Int} {as : List Addr} (r : Reads h u (.int i) as) : ∃ t, u = .int i t := by
  cases r
  exact ⟨_, rfl⟩
theorem kp_neg (ha : Kp P w N pe a ca) : Kp P w N pe (.UnaryOp .USub a pos) (.neg ca) := by
  intro A s env r Q E K hr h
  simp only [kx, Option.bind_eq_some_iff] at hr
  obtain ⟨d, h1, h2⟩ := hr
  refine UnaryOp_ (ha A s env d _ E K h1 fun h' tk u as kp rd => ?_)
  cases d <;> simp only [kx1] at h2 <;> cases h2
  obtain ⟨t, rfl⟩ := reads_int rd
  exact neg_int (h _ _ _ [] kp (.int _ _))
theorem kp_two {f : Value → Value → Sem Value} {Q E : Value → Shared → Prop} {A : Around} {s : Shared} {env : Env} {d e' : D} (ha : Kp P w N pe a ca) (hb : Kp P w N pe b cb) (K : Ks N pe s.heap env) (h1 : kx env ca = some d) (h2 : kx env cb = some e')
    (k : ∀ (h' : Heap) (tk : Tok) (u v : Value) (as bs : List Addr), (∀ b o, s.heap.get? b = some o → h'.get? b = some o) → Reads h' u d as → Reads h' v e' bs → wpAny (model P w) A (f u v) Q E { s with heap := h', toks := tk }) :
    wpAny (model P w) A (eval a pe) (fun v s₁ => wpAny (model P w) A (eval b pe) (fun u s₂ => wpAny (model P w) A (f v u) Q E s₂) E s₁) E s := by
  refine ha A s env d _ E K h1 fun h' tk u as kp rd => ?_
  exact hb A _ env e' _ E (K.keeps kp) h2 fun h2' tk2 v bs kp2 rd2 => k h2' tk2 u v as bs (fun b o q => kp2 _ _ (kp _ _ q)) (PyProof.Rows.Reads.keeps kp2 rd) rd2
theorem kp_sub (ha : Kp P w N pe a ca) (hb : Kp P w N pe b cb) : Kp P w N pe (.BinOp a .Sub b pos) (.sub ca cb) := by
  intro A s env r Q E K hr h
  simp only [kx, Option.bind_eq_some_iff] at hr
  obtain ⟨d, h1, e', h2, h3⟩ := hr
  refine wpAny_BinOp (kp_two ha hb K h1 h2 fun h' tk u v as bs kp r1 r2 => ?_)
  cases d <;> cases e' <;> simp only [kx2] at h3 <;> cases h3
  obtain ⟨t, rfl⟩ := reads_int r1
  obtain ⟨t', rfl⟩ := reads_int r2
  exact sub_int (h _ _ _ [] kp (.int _ _))
theorem readsAll_get {h : Heap} : ∀ {us : List Value} {ds : List D} {as : List Addr}, ReadsAll h us ds as → ∀ {j : Nat} {d : D}, ds[j]? = some d → ∃ u bs, us[j]? = some u ∧ Reads h u d bs
  | _, _, _, .nil, j, d, e => by simp at e
  | _, _, _, .cons r rs, 0, d, e => by
    simp only [List.getElem?_cons_zero, Option.some.injEq] at e
    subst e
    exact ⟨_, _, rfl, r⟩
  | _, _, _, .cons r rs, j + 1, d, e => by
    obtain ⟨u, bs, h1, h2⟩ := readsAll_get rs (j := j) (d := d) (by simpa using e)
    exact ⟨u, bs, by simpa using h1, h2⟩
theorem readsAll_len {h : Heap} : ∀ {us : List Value} {ds : List D} {as : List Addr}, ReadsAll h us ds as → us.length = ds.length
  | _, _, _, .nil => rfl
  | _, _, _, .cons r rs => congrArg (· + 1) (readsAll_len rs)
theorem kp_ix (ha : Kp P w N pe a ca) (hb : Kp P w N pe b cb) (hs : PlainIx b) : Kp P w N pe (.Subscript a b pos) (.ix ca cb) := by
  intro A s env r Q E K hr h
  simp only [kx, Option.bind_eq_some_iff] at hr
  obtain ⟨d, h1, e', h2, h3⟩ := hr
  refine Subscript_ (kp_two ha hb K h1 h2 fun h' tk u v as bs kp r1 r2 => ?_)
  have hn := line63
  have main : ∀ {ds : List D} {i : Int} {us : Array Value} {cs : List Addr}, fits ds.length = true → atI ds i = some r → ReadsAll h' us.toList ds cs → ∃ j w', seqIndex? i us.size = some j ∧ us[j]? = some w' ∧ Q w' { s with heap := h', toks := tk } ∧ -(us.size : Int) ≤ i ∧ i < us.size ∧ us.size ≤ sizeLine := fun {ds i us cs} hf h3 ra => by
    obtain ⟨j, k1, k2, k3, k4, k5⟩ := atI_get h3
    obtain ⟨w', bs', g1, g2⟩ := readsAll_get ra k2
    have hl := readsAll_len ra
    rw [Array.length_toList] at hl
    rw [hl]
    exact ⟨j, w', k1, by simpa using g1, h _ _ _ bs' kp g2, k4, k5, fits_le hf⟩
  cases d with
  | list ds =>
    cases e' with
    | int i =>
      simp only [kxI] at h3
      split at h3
      case isFalse => cases h3
      rename_i hf
      obtain ⟨t, rfl⟩ := reads_int r2
      cases r1 with
      | list ho hc hdt ra =>
        obtain ⟨j, w', k1, gj, fin, k4, k5, hz⟩ := main hf h3 ra
        have pl : Heap.IsList h' _ _ := ⟨_, ho, hc, _, hdt⟩
        by_cases h0 : 0 ≤ i
        · have hj : i.toNat = j := by
            rw [seqIndex_of h0 k5] at k1
            exact Option.some.inj k1
          exact item_listR pl h0 (by omega) (by rw [hj]; exact gj) fin (hs _ _)
        · have hj := Option.some.inj ((seqIndex_neg (by omega) k4).symm.trans k1)
          exact subscriptTail_builtinR (x := w') pl.typeIs slot_list_getitem.lookup
            (wpAny_getItem_list_neg (Q := fun r s' => r = w' ∧ Q r s') pl (by omega) (by omega) (by omega) (by rw [hj]; exact gj) ⟨rfl, fin⟩) (hs _ _)
    | _ => cases h3
  | tuple ds =>
    cases e' with
    | int i =>
      simp only [kxI] at h3
      split at h3
      case isFalse => cases h3
      rename_i hf
      obtain ⟨t, rfl⟩ := reads_int r2
      cases r1 with
      | tuple ho hc hdt ra =>
        obtain ⟨j, w', k1, gj, fin, k4, k5, hz⟩ := main hf h3 ra
        have pl : IsTup h' _ _ := ⟨_, ho, hc, _, hdt⟩
        exact subscriptTail_builtinR (x := w') pl.typeIs slot_tuple_getitem.lookup
          (getItem_tuple (j := j) (Q := fun r s' => r = w' ∧ Q r s') pl (by omega) (by omega) k1 gj ⟨rfl, fin⟩) (hs _ _)
    | _ => cases h3
  | _ => cases h3
theorem kps_nil : Kps P w N pe [] [] := by
  intro pos A s env rs Q E K hr h
  simp only [kxs, Option.some.injEq] at hr
  subst hr
  exact args_nil (h s.heap s.toks [] [] (fun _ _ e => e) .nil)
theorem kps_cons (ha : Kp P w N pe e c) (hr : Kps P w N pe es cs) (hs : starEach (e :: es) pe = (false, eval e pe) :: starEach es pe) : Kps P w N pe (e :: es) (c :: cs) := by
  intro pos A s env rs Q E K hrs h
  simp only [kxs, Option.bind_eq_some_iff, Option.some.injEq] at hrs
  obtain ⟨d, h1, ds, h2, rfl⟩ := hrs
  rw [hs]
  show wpAny _ _ (spliced ((false, eval e pe) :: backTo pos (starEach es pe))) _ _ s
  refine Calls.spliced_cons (ha A s env d _ E K h1 fun h' tk u as kp rd => ?_)
  exact hr pos A _ env ds _ E (K.keeps kp) h2 fun h2' tk2 us bs kp2 rd2 => h _ _ _ _ (fun b o q => kp2 _ _ (kp _ _ q)) (.cons (PyProof.Rows.Reads.keeps kp2 rd) rd2)
theorem kp_tup {x1} (h : Kps P w N pe es cs) : Kp P w N pe (.Tuple es x1 pos) (.tup cs) := by
  intro A s env r Q E K hr k
  simp only [kx, Option.bind_eq_some_iff] at hr
  obtain ⟨ds, h1, h2⟩ := hr
  split at h2
  · rename_i hf
    cases h2
    refine wpAny_Tuple_spliced (h pos A s env ds _ E K h1 fun h' tk us as kp rd => ⟨?_, ?_⟩)
    · rw [readsAll_len rd]; exact fits_le hf
    · refine k _ _ _ as (fun b o q => Heap.get?_push_of_some _ (kp _ _ q)) (.tuple (Heap.get?_push_size _ rfl) rfl rfl ?_)
      exact PyProof.Rows.ReadsAll.keeps (fun b o q => Heap.get?_push_of_some _ q) (by simpa using rd)
  · cases h2
end

mutual
theorem reads_imm {h : Heap} : ∀ {v : Value} {d : D} {as : List Addr}, Reads h v d as → imm d = true → as = []
  | _, _, _, .none, _ => rfl
  | _, _, _, .bool b, _ => rfl
  | _, _, _, .int i t, _ => rfl
  | _, _, _, .str x t, _ => rfl
  | _, _, _, .list _ _ _ _, h => by simp [imm] at h
  | _, _, _, .tuple _ _ _ r, h => readsAll_imm r (by simpa [imm] using h)
  | _, _, _, .dict _ _ _ _ _, h => by simp [imm] at h
theorem readsAll_imm {h : Heap} : ∀ {vs : List Value} {ds : List D} {as : List Addr}, ReadsAll h vs ds as → immL ds = true → as = []
  | _, _, _, .nil, _ => rfl
  | _, _, _, .cons r rs, h => by
    simp only [immL, Bool.and_eq_true] at h
    rw [reads_imm r h.1, readsAll_imm rs h.2]; rfl
end
/-! ### a lambda is made -/
section
variable {X : Cx} {pins : List (Addr × Obj)} {σ : L2.St} {H : Hp} {s : Shared}
open LamX in
theorem lam_make3 {c P : Addr} {params : Arguments} {body : Expr} {scope : Scope} {pos : Pos} {E : Value → Shared → Prop} {Q : Value → Shared → Prop} (I : Inv X pins σ H s) (TB : TabB X.base X.mg c P) (hcode : X.env.code = .ref c)
    (hm : (P, X.env.qual ++ "<lambda>") ∈ Tbl.T) (hT : Tabs Tbl.T H) (hdef : defaultsOf params X.env = ([], [])) (hfree : ∀ y ∈ scope.names, y.2 = .free → ∃ c, X.env.cells.lookup y.1 = some c)
    (h : ∀ (f c' : Addr) (pm ctv : Value) (H1 : Hp) (s' : Shared), Inv X pins σ H1 s' → (∀ b o, b ≠ P → s.heap.get? b = some o → s'.heap.get? b = some o) → (∀ b o, H b = some o → NT o → H1 b = some o) → (∀ b, H b ≠ none → H1 b ≠ none) → Tabs Tbl.T H1 →
      s'.heap.get? f = some (PySem.W.kla_obj "<lambda>" (X.env.qual ++ "<lambda>") params body scope (cloFrom X.env.cells scope.names []) pm c' ctv) → H1 c' = some (CodeO c' (X.env.qual ++ "<lambda>")) → Q (.ref f) s') :
    wpAny (model X.prog X.w) X.A (eval (.Lambda params body scope pos) X.env) Q E s := by
  have hu : ∀ p ∈ Tbl.T, p.1 = P → p.2 = X.env.qual ++ "<lambda>" := fun p hp e => Tbl.one p hp _ hm e
  obtain ⟨ps, hP, ht, ha⟩ := hT _ hm
  have bP : s.heap.BuiltinsAt X.mg P := TB.bm.keeps I.bk
  have hP' : s.heap.get? P = some { cls := .none, data := .fields ps } := I.hok P _ hP
  refine PySem.W.kla_eval hdef ?_
  cases hc : codeAmong pos ps.toList with
  | some cv =>
    obtain ⟨c', rfl, hco⟩ := ha pos cv hc
    refine PySem.W.kla_makeFunctionHit (mg := X.mg) (c := c) (P := P) (ps := ps) (closure_ok hfree) I.ok.glob (I.mod.glob.keeps I.bk) hcode (TB.code.keeps I.bk) hP' ht hc bP fun ctv h' tk hx hsz => ?_
    exact h h'.objs.size c' ((X.mg "__name__").getD .none) ctv H _ (I.kept fun b o e => Heap.get?_push_of_some _ (hx b o e)) (fun b o _ e => Heap.get?_push_of_some _ (hx b o e)) (fun _ _ e _ => e) (fun _ e => e) hT (Heap.get?_push_size _ rfl) hco
  | none =>
    refine PySem.W.kla_makeFunction (mg := X.mg) (c := c) (P := P) (ps := ps) (closure_ok hfree) I.ok.glob (I.mod.glob.keeps I.bk) hcode (TB.code.keeps I.bk) hP' ht hc TB.gP bP fun c' ctv h' tk hx hge hlt hrec htb => ?_
    obtain ⟨c2, oc, vs, t, e2, hoc, hd, hv⟩ := hrec
    cases e2
    have nC : H c' = none := I.hok.fresh hge
    have nPc : P ≠ c' := ne_of_none hP nC
    have I1 := inv_table (t' := tk) (more := #[rawInt pos.line, rawInt pos.col, .ref c']) (h' := h'.push (PySem.W.kla_obj "<lambda>" (X.env.qual ++ "<lambda>") params body scope (cloFrom X.env.cells scope.names []) ((X.mg "__name__").getD .none) c' ctv)) I hP
      (fun b o hb e => Heap.get?_push_of_some _ (hx b o hb e)) (Heap.get?_push_of_some _ htb) hge ⟨oc, vs, t, Heap.get?_push_of_some _ hoc, hd, hv⟩
    have at_ : ∀ b o, H b = some o → b ≠ P → upd (upd H P (.tbl (ps ++ #[rawInt pos.line, rawInt pos.col, .ref c']))) c' (CodeO c' (X.env.qual ++ "<lambda>")) b = some o := fun b o e z => by
      rw [upd_ne (ne_of_none e nC), upd_ne z]; exact e
    have atP : upd (upd H P (.tbl (ps ++ #[rawInt pos.line, rawInt pos.col, .ref c']))) c' (CodeO c' (X.env.qual ++ "<lambda>")) P = some (.tbl (ps ++ #[rawInt pos.line, rawInt pos.col, .ref c'])) := by rw [upd_ne nPc, upd_same]
    have eL : (ps ++ #[rawInt pos.line, rawInt pos.col, .ref c']).toList = ps.toList ++ [rawInt pos.line, rawInt pos.col, .ref c'] := by simp
    have hE : ∀ b o, H b = some o → NT o → upd (upd H P (.tbl (ps ++ #[rawInt pos.line, rawInt pos.col, .ref c']))) c' (CodeO c' (X.env.qual ++ "<lambda>")) b = some o := fun b o e n => at_ b o e fun z => by
      rw [z, hP] at e; cases e; exact n
    refine h h'.objs.size c' ((X.mg "__name__").getD .none) ctv _ _ I1 (fun b o hb e => Heap.get?_push_of_some _ (hx b o hb e)) hE (fun b hb => ?_) (fun p hp => ?_) (Heap.get?_push_size _ rfl) upd_same
    · cases e : H b with
      | none => exact (hb e).elim
      | some o =>
        by_cases z : b = P
        · rw [z, atP]; simp
        · rw [at_ b o e z]; simp
    · by_cases hb : p.1 = P
      · rw [hu p hp hb, hb]
        refine ⟨_, atP, by rw [eL]; exact PySem.TriplesOk_snoc _ _ _ _ ht, fun p' cv hcv => ?_⟩
        rw [eL] at hcv
        rcases among_app _ ht hcv with z | z
        · obtain ⟨c0, e1, e2⟩ := ha p' cv z
          exact ⟨c0, e1, hE _ _ e2 trivial⟩
        · exact ⟨c', z, upd_same⟩
      · obtain ⟨ps', a1, a2, a3⟩ := hT p hp
        refine ⟨ps', at_ _ _ a1 hb, a2, fun p' cv hcv => ?_⟩
        obtain ⟨c0, e1, e2⟩ := a3 p' cv hcv
        exact ⟨c0, e1, hE _ _ e2 trivial⟩
/-- one parameter, captured names, globals -/
structure LamP (sc scope : Scope) (p : Str) : Prop where
  kind : scope.kind = .function
  co : scope.isCoroutine = false
  gen : scope.isGenerator = false
  own : ∀ y ∈ scope.names, y.2 ≠ .cell ∧ (y.2 = .local → y.1 = p)
  par : scope.names.lookup p = some .local
  free : ∀ y ∈ scope.names, y.2 = .free → sc.names.lookup y.1 = some .cell ∨ sc.names.lookup y.1 = some .free
def lamPB (sc scope : Scope) (p : Str) : Bool :=
  decide (scope.kind = .function) && !scope.isCoroutine && !scope.isGenerator && decide (scope.names.lookup p = some .local) && scope.names.all fun y => !decide (y.2 = .cell) && (!decide (y.2 = .local) || decide (y.1 = p)) && (!decide (y.2 = .free) || decide (sc.names.lookup y.1 = some .cell) || decide (sc.names.lookup y.1 = some .free))
theorem lamP_by {sc scope : Scope} {p : Str} (h : lamPB sc scope p = true) : LamP sc scope p := by
  unfold lamPB at h
  simp only [Bool.and_eq_true, Bool.or_eq_true, Bool.not_eq_true', decide_eq_true_eq, decide_eq_false_iff_not, List.all_eq_true] at h
  obtain ⟨⟨⟨⟨h1, h2⟩, h3⟩, h5⟩, h4⟩ := h
  refine ⟨h1, h2, h3, fun y hy => ⟨(h4 y hy).1.1, fun e => (h4 y hy).1.2.elim (fun z => absurd e z) id⟩, h5, fun y hy e => ?_⟩
  rcases (h4 y hy).2 with (z | z) | z
  · exact absurd e z
  · exact .inl z
  · exact .inr z
theorem LamP.has {scope : Scope} {p : Str} (L : LamP X.env.scope scope p) (ok : X.Ok) : ∀ y ∈ scope.names, y.2 = .free → ∃ c, X.env.cells.lookup y.1 = some c := fun y hy e => by
  rcases L.free y hy e with k | k
  · exact ok.has _ (.inl k)
  · exact ok.has _ (.inr k)
/-- a call of the lambda: nothing is changed -/
theorem lam_turn {scope : Scope} {p : Str} {i : Nat} {body : Expr} {kc : KX} {params : Arguments} {f c' : Addr} {pm ctv : Value} {env : Env} {fps : Nat → List Addr} {A : Around} {h : Heap} {tk : Tok} {v : Value} {d k : D} {as : List Addr}
    (I : Inv X pins σ H s) (L : LamP X.env.scope scope p) (hN : X.N[i]? = some p) (nd : X.N.Nodup) (R : ER X.K H σ env fps)
    (hf : s.heap.get? f = some (PySem.W.kla_obj "<lambda>" (X.env.qual ++ "<lambda>") params body scope (cloFrom X.env.cells scope.names []) pm c' ctv)) (hco : H c' = some (LamX.CodeO c' (X.env.qual ++ "<lambda>")))
    (hbind : bindArgs (PySem.W.kla_fn "<lambda>" (X.env.qual ++ "<lambda>") params body scope (cloFrom X.env.cells scope.names []) pm (.ref c') ctv) ⟨[v], []⟩ = pure [(p, v)]) (hd : A.depth < recursionLimit)
    (hbody : ∀ pe : PySem.Env, pe.scope = scope → Kp X.prog X.w X.N pe body kc) (kp : ∀ b o, s.heap.get? b = some o → h.get? b = some o) (hv : Reads h v d as) (hdd : d.hasDict = false) (hk : kx (env.set i (some ⟨.imm, true, d⟩)) kc = some k) (hi : imm k = true) :
    wpAny (model X.prog X.w) A (call (.ref f) [v]) (PySem.W.KeyPure k { s with heap := h, toks := tk }) (fun _ _ => False) { s with heap := h, toks := tk } := by
  obtain ⟨⟨oc, vs, t, hoc, hdc, hvc⟩, _, _⟩ := I.hok c' _ hco
  have rc : codeAny (model X.prog X.w) A (.call (.ref f) ⟨[v], []⟩) (fun r s2 => ∃ u, r = .ok (.ret u) ∧ PySem.W.KeyPure k { s with heap := h, toks := tk } u s2) { s with heap := h, toks := tk } := by
    refine PySem.W.kla_callFunE hd (kp _ _ hf) rfl L.co L.gen rfl ⟨c', oc, vs, t, rfl, kp _ _ hoc, hdc, hvc⟩ ?_
    rw [hbind]
    refine wpAny_pure (wpAny_newFunctionEnv (fun y hy => (L.own y hy).1) (fun y hy => ?_) (fun h₁ hns hsb => ⟨?_, ?_⟩) L.kind)
    · rw [List.mem_singleton.mp hy]; exact L.par
    · exact ((I.nolimit.keeps kp).fresh _ hsb)
    · show codeAny _ _ (.expr body (LamX.lamEnv X scope h.objs.size f c')) _ _
      have kp1 : ∀ b o, h.get? b = some o → h₁.get? b = some o := fun b o e => hsb.extBut b o (Nat.ne_of_lt (Heap.lt_size e)) (Heap.get?_push_of_some _ e)
      have kp2 : ∀ b o, s.heap.get? b = some o → h₁.get? b = some o := fun b o e => kp1 _ _ (kp _ _ e)
      have ks : Ks X.N (LamX.lamEnv X scope h.objs.size f c') h₁ (env.set i (some ⟨.imm, true, d⟩)) := by
        refine ⟨_, hns, fun j x sl e1 e2 e3 e4 => ?_⟩
        have e4 : Vis scope x := e4
        by_cases hij : i = j
        · subst hij
          have hil : i < env.length := by
            by_cases q : i < env.length
            · exact q
            · rw [List.getElem?_eq_none (by rw [List.length_set]; omega)] at e2; cases e2
          rw [List.getElem?_set_self hil] at e2
          cases e2
          rw [hN] at e1
          cases e1
          exact ⟨v, as, .inl ⟨L.par, by simp [List.lookup]⟩, PyProof.Rows.Reads.keeps kp1 hv⟩
        · rw [List.getElem?_set_ne hij] at e2
          have hne : x ≠ p := fun z => by
            subst z
            exact hij ((List.getElem?_inj (List.getElem?_eq_some_iff.mp hN).1 nd).mp (hN.trans e1.symm))
          rcases e4 with q | q | q
          · exact absurd ((L.own _ (PySem.mem_of_lookup q)).2 rfl) hne
          · exact absurd rfl (L.own _ (PySem.mem_of_lookup q)).1
          · obtain ⟨c, hc⟩ := L.has I.ok _ (PySem.mem_of_lookup q) rfl
            obtain ⟨w0, g1, g2, g3⟩ := R.val j sl e2
            obtain ⟨m, _, hl⟩ := I.loc
            have hvis : Vis X.env.scope x := (L.free _ (PySem.mem_of_lookup q) rfl).elim (fun k => .inr (.inl k)) (fun k => .inr (.inr k))
            obtain ⟨u, ru, lu⟩ := hl j x w0 e1 g1 hvis
            obtain ⟨bs, rd⟩ := Dp.reads I sl.d w0 u (g2.dpD e3) ru
            refine ⟨u, bs, .inr ⟨.inr q, c, ?_, ?_⟩, PyProof.Rows.Reads.keeps kp2 rd⟩
            · have hy : (x, NameKind.free) ∈ scope.names := PySem.mem_of_lookup q
              obtain ⟨c2, h2⟩ := mem_lookup (cloFrom_has (cells := X.env.cells) (acc := []) hy)
              rcases cloFrom_mem (PySem.mem_of_lookup h2) with hm | ⟨m1, m2⟩
              · cases hm
              · have hc : X.env.cells.lookup x = some c := hc
                rw [hc] at m2
                show (cloFrom X.env.cells scope.names []).lookup x = some c
                rw [h2]
                exact congrArg some m2
            · rcases lu with ⟨l1, _⟩ | ⟨_, c3, l2, l3⟩
              · have l1 : X.env.scope.names.lookup x = some .local := l1
                rcases L.free _ (PySem.mem_of_lookup q) rfl with z | z <;> rw [show X.env.scope.names.lookup x = _ from z] at l1 <;> cases l1
              · rw [hc] at l2
                cases l2
                exact isCell_keeps kp2 l3
      refine PySem.W.kla_codeExpr (hbody _ rfl _ _ _ k _ _ ks hk fun h' tk' u bs kp3 rd => ?_)
      refine ⟨u, rfl, h', tk', rfl, fun b o e => kp3 _ _ (kp1 _ _ e), ?_⟩
      have : bs = [] := reads_imm rd hi
      rw [← this]; exact rd
  refine wpAny_call (codeAny_mono rc fun r s' hq => ?_)
  obtain ⟨u, rfl, q⟩ := hq
  exact q
end
end Iv

set_option maxRecDepth 100000
set_option maxHeartbeats 2000000
/-! IvT: sorted of lists, tuples, ranges; by a key, the other way about. -/
namespace Iv
open PySem L2 PyProof.Rows
variable [Tbl]

abbrev Kept (h h' : Heap) : Prop := ∀ b o, h.get? b = some o → h'.get? b = some o
/-- what is collected of src -/
def Clt (P : Program) (w : World) (s : Shared) (src : Value) (C : List Value → Prop) : Prop := ∀ (A : Around) (Q : List Value → Shared → Prop) (E : Value → Shared → Prop), A.handled = none →
  (∀ (h' : Heap) (tk : Tok) (vs : List Value), Kept s.heap h' → C vs → Q vs { s with heap := h', toks := tk }) → wpAny (model P w) A (collect src) Q E s
section
variable {P : Program} {w : World} {s : Shared} {A : Around}
theorem clt_list {l : Addr} {vs : List Value} (hl : s.heap.IsList l vs.toArray) (hz : vs.length ≤ sizeLine) : Clt P w s (.ref l) (fun us => us = vs) := fun A Q E _ h =>
  collect_list hl (h _ s.toks vs (fun b o q => by
    rw [Heap.get?_update_ne _ _ _ _ (Nat.ne_of_lt (Heap.lt_size q))]
    exact Heap.get?_push_of_some _ q) rfl) hz
theorem clt_tup {l : Addr} {vs : List Value} (hl : IsTup s.heap l vs.toArray) (hz : vs.length ≤ sizeLine) : Clt P w s (.ref l) (fun us => us = vs) := fun A Q E _ h => by
  obtain ⟨o, ho, hc, n, hd⟩ := hl
  unfold collect
  refine wpAny_bind (wpAny_runValue (codeAny_builtin F.entry_proto_collect ?_))
  rw [Around.under_plainId F.plain_proto_collect _]
  show wpAny _ A.in1 (newList [] >>= fun l => again (.builtin "list.__iadd__" ⟨[l, .ref _], []⟩)) _ _ s
  refine wpAny_bind (wpAny_newObj_type ?_)
  refine wpAny_pure ⟨plainId_quiet F.plain_list_iadd _, codeAny_builtin F.entry_list_iadd ?_⟩
  rw [Around.under_plainId F.plain_list_iadd _]
  have hS : (s.heap.push { cls := .type "list", data := .seq ([] : List Value).toArray }).get? s.heap.objs.size = some { cls := .type "list", data := .seq #[] 0 } := Heap.get?_push_size _ rfl
  show wpAny _ A.in1 (Builtin.List.listExtendWith (.ref s.heap.objs.size) (.ref l) (.ref s.heap.objs.size)) _ _ _
  have fin : wpAny (model P w) A (do
      let o ← PySem.load s.heap.objs.size
      match o.data with
      | .seq xs _ => pure xs.toList
      | _ => unsupported "internal:collect") Q E { s with heap := (s.heap.push { cls := .type "list", data := .seq ([] : List Value).toArray }).update s.heap.objs.size (Obj.mapSeq (· ++ vs.toArray)) } := by
    refine wpAny_bind (wpAny_load (get?_update_seq hS _) ?_)
    show wpAny _ _ (pure ((#[] : Array Value) ++ vs.toArray).toList) Q E _
    rw [show ((#[] : Array Value) ++ vs.toArray).toList = vs by simp]
    refine wpAny_pure (h _ s.toks vs (fun b o q => ?_) rfl)
    rw [Heap.get?_update_ne _ _ _ _ (Nat.ne_of_lt (Heap.lt_size q))]
    exact Heap.get?_push_of_some _ q
  refine wpAny_mono (wpAny_extend_seq (A := A) (R := fun rr s' => rr = .ok (.ret (.ref s.heap.objs.size)) ∧ s' = { s with heap := (s.heap.push { cls := .type "list", data := .seq ([] : List Value).toArray }).update s.heap.objs.size (Obj.mapSeq (· ++ vs.toArray)) })
    (s := { s with heap := s.heap.push { cls := .type "list", data := .seq ([] : List Value).toArray } }) s.heap.objs.size l (.ref s.heap.objs.size) 0 (T := "tuple") (.inr rfl) hS (Heap.get?_push_of_some _ ho) hc hd ⟨rfl, rfl⟩ (by rw [List.size_toArray]; exact hz)) (fun f s' q => ?_) (fun e s' q => ?_)
  · cases f with
    | done f =>
      obtain ⟨e, rfl⟩ := q
      cases e
      exact fin
    | again c' =>
      refine ⟨q.1, codeAny_mono q.2 fun rr s'' hr' => ?_⟩
      obtain ⟨rfl, rfl⟩ := hr'
      exact fin
  · exact absurd q.1 (by simp)
theorem clt_range {r : Addr} {a b : Int} {t u v : Tok} {n : Nat} (hr : IsRange s.heap r a b 1 t u v) (hsmall : Builtin.Range.small a b 1 = true) (hn : Builtin.Range.rangeSize a b 1 = n) (hlen : n ≤ 2 ^ 24) :
    Clt P w s (.ref r) (fun us => ItemsOf (fun i v => ∃ t, v = .int (a + i * 1) t) us.toArray n) := fun A Q E hh h =>
  collect_range hh hr hsmall hn hlen fun h' tk acc k i => h h' tk acc.toList k (by simpa using i)
theorem sorted_any {src : Value} {C : List Value → Prop} {kw : List (Str × Value)} {Q E : Value → Shared → Prop} (hh : A.handled = none) (hc : Clt P w s src C) (hz : ∀ vs, C vs → vs.length ≤ sizeLine) (ha1 : argsOk "sorted" ⟨[src], kw⟩)
    (body : ∀ (vs : List Value) (h' : Heap) (tk : Tok) (E' : Value → Shared → Prop), C vs → Kept s.heap h' → wpAny (model P w) A.in1 (call (.builtin "list.sort") [.ref h'.objs.size] kw) (fun r s2 => Q (.ref h'.objs.size) s2) E' { s with heap := h'.push (seqObj "list" vs.toArray 0), toks := tk }) :
    wpAny (model P w) A (call (.builtin "sorted") [src] kw) Q E s := by
  refine call_function_entry_kw kind_sorted plain_sorted entry_sorted ha1 ?_
  unfold Builtin.«sorted»
  refine wpAny_bind (m := checkCount "sorted" 1 1 _) (wpAny_pure ?_)
  refine wpAny_bind (hc _ _ _ hh fun h' tk vs kp hv => ?_)
  refine wpAny_bind (wpAny_newList ?_ (hz vs hv))
  refine wpAny_bind (wpAny_holding (wpAny_mono (body vs h' tk _ hv kp) (fun r s2 q => ?_) fun _ _ e => e))
  exact wpAny_pure ⟨_, rfl, q⟩
end

/-! ### the keys -/
theorem hasDict_mem : ∀ {ds : List D} {d : D}, PyData.hasDictAll ds = false → d ∈ ds → d.hasDict = false
  | x :: xs, d, h, m => by
    simp only [PyData.hasDictAll, Bool.or_eq_false_iff] at h
    rcases List.mem_cons.mp m with rfl | m
    · exact h.1
    · exact hasDict_mem h.2 m
theorem keysK_zip {env : Env} {i : Nat} {kc : KX} : ∀ {ds ks : List D}, keysK env i kc ds = some ks → ks.length = ds.length ∧ ∀ x ∈ ds.zip ks, x.1.hasDict = false ∧ kx (env.set i (some ⟨.imm, true, x.1⟩)) kc = some x.2 ∧ imm x.2 = true
  | [], ks, h => by
    simp only [keysK, Option.some.injEq] at h
    subst h
    exact ⟨rfl, fun x hx => by simp at hx⟩
  | d :: ds, ks, h => by
    simp only [keysK] at h
    split at h
    · cases h
    · rename_i hd
      simp only [Bool.not_eq_true] at hd
      obtain ⟨k, h1, h2⟩ := Option.bind_eq_some_iff.mp h
      split at h2
      · rename_i hi
        obtain ⟨ks', h3, rfl⟩ := Option.map_eq_some_iff.mp h2
        obtain ⟨g1, g2⟩ := keysK_zip h3
        refine ⟨by simp [g1], fun x hx => ?_⟩
        rw [List.zip_cons_cons] at hx
        rcases List.mem_cons.mp hx with rfl | hx
        · exact ⟨hd, h1, hi⟩
        · exact g2 x hx
      · cases h2
theorem ER.extN {K : PySem.W.Frag} {H H' : Hp} {σ : L2.St} {env : Env} {fps : Nat → List Addr} (R : ER K H σ env fps) (k : ∀ b o, H b = some o → NT o → H' b = some o) (t : LamX.Tabs Tbl.T H') : ER K H' σ env fps :=
  ⟨R.len, fun i s q => let ⟨v, h1, h2, h3⟩ := R.val i s q; ⟨v, h1, h2.stay (fun a o e f => k a o e (by cases o <;> first | exact trivial | exact f.elim)) fun a _ o e n => k a o e n, h3⟩, R.nd, R.dj, t⟩
/-- items by what they stand for -/
theorem each_zip {K : PySem.W.Frag} {H : Hp} {h : Heap} : ∀ {vs : List V} {ds ks : List D} {us : List Value}, ks.length = ds.length → DenL K H vs ds [] → Vals vs us → (∀ v d u, Den K H v d [] → d ∈ ds → RelV v u → ∃ as, Reads h u d as) →
    PySem.W.EachIs (fun u (x : D × D) => (∃ v, RelV v u ∧ Den K H v x.1 []) ∧ ∃ as, Reads h u x.1 as) us (ds.zip ks)
  | [], [], [], [], _, _, _, _ => .nil
  | [], [], [], _ :: _, _, _, r, _ => nomatch r
  | [], [], _ :: _, _, hl, _, _, _ => by simp at hl
  | v :: vs, d :: ds, k :: ks, u :: us, hl, l, .cons rv rvs, hr => by
    refine .cons ⟨⟨v, rv, l.split.1⟩, hr v d u l.split.1 List.mem_cons_self rv⟩ (each_zip (by simpa using hl) l.split.2 rvs fun v d u h m r => hr v d u h (List.mem_cons_of_mem _ m) r)
  | v :: vs, d :: ds, [], _, hl, _, _, _ => by simp at hl
  | v :: vs, [], _, _, _, l, _, _ => by have := l.length; simp at this
  | [], d :: ds, _, _, _, l, _, _ => by have := l.length; simp at this
theorem each_fst {K : PySem.W.Frag} {H : Hp} {h : Heap} : ∀ {xs : List (D × D)} {us : List Value}, PySem.W.EachIs (fun u (x : D × D) => (∃ v, RelV v u ∧ Den K H v x.1 []) ∧ ∃ as, Reads h u x.1 as) us xs → ∃ vs, Vals vs us ∧ DenL K H vs (xs.map (·.1)) []
  | [], [], .nil => ⟨[], .nil, .nil⟩
  | x :: xs, u :: us, .cons ⟨⟨v, r, h⟩, _⟩ t => by
    obtain ⟨vs, h1, h2⟩ := each_fst t
    exact ⟨v :: vs, .cons r h1, .cons (fp := []) (fq := []) h h2⟩
section
variable {X : Cx} {xc : Str → Value} {T : Tab} {W : WX} {a : Expr} {ca : CE} {pos : Pos}
/-- what is known behind the source -/
def KSt (X : Cx) (xc : Str → Value) (W : WX) (rg : Bool) (i : Nat) (kc : KX) (σ : L2.St) (Q : VK) (v : V) (H1 : Hp) : Prop :=
  ∃ (x : Val) (env : Env) (fps : Nat → List Addr) (fp : List Addr) (ds ks : List D), ER X.K H1 σ env fps ∧ VOk X.K H1 σ env fps v x fp ∧ srcK rg x = some ds ∧ keysK env i kc ds = some ks ∧ sortOk ks = true ∧
    ∀ (H' : Hp) (p : Addr) (ws : List V), (∀ b o, H1 b = some o → NT o → H' b = some o) → (∀ b, H1 b ≠ none → H' b ≠ none) → LamX.Tabs Tbl.T H' → H1 p = none → H' p = some (.lst ws) → DenL X.K H' ws (sortBy ds ks) [] → immL (sortBy ds ks) = true → Q (.ref p) H'
theorem sortK_src {rg : Bool} {i : Nat} {kc : KX} {σ : L2.St} {H : Hp} {Q : VK} (h : tI X.K xc T W (.sortK rg i kc ca) σ H Q) : tI X.K xc T W ca σ H (KSt X xc W rg i kc σ Q) := by
  obtain ⟨L, env, fps, R, P⟩ := h
  simp only [ev] at P
  refine tI.bind (self_sub L) R P fun x env1 v H1 fps1 fp S1 R1 V1 B1 P1 => ?_
  simp only at P1
  cases e1 : srcK rg x with
  | none => rw [e1] at P1; exact P1.elim
  | some ds =>
    rw [e1] at P1
    simp only at P1
    cases e2 : keysK env1 i kc ds with
    | none => rw [e2] at P1; exact P1.elim
    | some ks =>
      rw [e2] at P1
      simp only at P1
      split at P1
      · rename_i ho
        refine ⟨x, env1, fps1, fp, ds, ks, R1, V1, e1, e2, ho, fun H' p ws k al tb hp hp' hw hi => ?_⟩
        refine P1 (.ref p) H' fps1 [p] ⟨fun b o e _ n => k b o e n, fun b o e f => k b o e (by cases o <;> first | exact trivial | exact f.elim), fun _ _ => ⟨rfl, rfl⟩, fun j u b hb => .inl ⟨j, u, hb⟩, al⟩ (R1.extN k tb) ⟨hi, .lst hp' hw, by simp, fun b hb q => ?_⟩ fun b hb => .inr ?_
        · rw [List.mem_singleton.mp hb] at q
          exact R1.ne q hp
        · rw [List.mem_singleton.mp hb]; exact hp
      · exact P1.elim
theorem mem_zip_fst {α β : Type} {xs : List α} {ys : List β} {x : α × β} (h : x ∈ xs.zip ys) : x.1 ∈ xs := (List.of_mem_zip (a := x.1) (b := x.2) h).1
theorem sortBy_imm {ds ks : List D} (h : immL ds = true) : immL (sortBy ds ks) = true := immL_all.mpr fun d hd => by
  unfold sortBy at hd
  obtain ⟨x, hx, rfl⟩ := List.mem_map.mp hd
  exact immL_all.mp h _ (mem_zip_fst ((List.mergeSort_perm _ _).subset hx))
/-- sorted by the lambda: a new list -/
theorem sort_run {rg : Bool} {i : Nat} {kc : KX} {pins : List (Addr × Obj)} {σ : L2.St} {H1 H2 : Hp} {s2 : Shared} {Q : VK} {x : Val} {env : Env} {fps : Nat → List Addr} {ds ks : List D} {vs : List V} {src : Value} {scope : Scope} {p : Str} {body : Expr} {params : Arguments} {f c' : Addr} {pm ctv : Value} {C : List Value → Prop}
    (G : Gd X) (hdep : X.A.depth < recursionLimit) (I : Inv X pins σ H2 s2) (L : LamP X.env.scope scope p) (hN : X.N[i]? = some p) (R : ER X.K H2 σ env fps) (hk : keysK env i kc ds = some ks) (ho : sortOk ks = true) (him : immL ds = true) (hz : ds.length ≤ sizeLine)
    (hf : s2.heap.get? f = some (PySem.W.kla_obj "<lambda>" (X.env.qual ++ "<lambda>") params body scope (cloFrom X.env.cells scope.names []) pm c' ctv)) (hco : H2 c' = some (LamX.CodeO c' (X.env.qual ++ "<lambda>")))
    (hbind : ∀ v, bindArgs (PySem.W.kla_fn "<lambda>" (X.env.qual ++ "<lambda>") params body scope (cloFrom X.env.cells scope.names []) pm (.ref c') ctv) ⟨[v], []⟩ = pure [(p, v)])
    (hbody : ∀ pe : PySem.Env, pe.scope = scope → Kp X.prog X.w X.N pe body kc)
    (hc : Clt X.prog X.w s2 src C) (hC : ∀ us, C us → ∃ vs, Vals vs us ∧ DenL X.K H2 vs ds [])
    (done : ∀ (H' : Hp) (q : Addr) (ws : List V), (∀ b o, H2 b = some o → H' b = some o) → H2 q = none → H' q = some (.lst ws) → DenL X.K H' ws (sortBy ds ks) [] → immL (sortBy ds ks) = true → Q (.ref q) H') :
    wpAny (model X.prog X.w) X.A (call (.builtin "sorted") [src] [(Str.ofString "key", .ref f)]) (EP X pins σ Q) X.xe s2 := by
  obtain ⟨hkl, hkz⟩ := keysK_zip hk
  simp only [sortOk, Bool.and_eq_true, decide_eq_true_eq] at ho
  obtain ⟨⟨o1, o2⟩, o3⟩ := ho
  have hlen : (ds.zip ks).length = ds.length := by rw [List.length_zip, hkl, Nat.min_self]
  have emap : (ds.zip ks).map Prod.snd = ks := List.map_snd_zip (by omega)
  have G' := G.hu
  refine sorted_any (I.ok.hd G.calm) hc (fun us hu => ?_) (by unfold argsOk; kernel_rfl) fun us h' tk E' hu kp => ?_
  · obtain ⟨vs, r, l⟩ := hC us hu
    rw [← r.length, l.length]; exact hz
  · obtain ⟨vs, rv, l⟩ := hC us hu
    have I' : Inv X pins σ H2 { s2 with heap := h', toks := tk } := I.kept kp
    have hal : H2 h'.objs.size = none := I'.hok.fresh (Nat.le_refl _)
    have er : PySem.W.EachIs (fun u (x : D × D) => (∃ v, RelV v u ∧ Den X.K H2 v x.1 []) ∧ ∃ as, Reads s2.heap u x.1 as) us (ds.zip ks) := each_zip hkl l rv fun v d u h m r => Dp.reads I d v u (h.dpD (by
      exact hasDict_mem (immL_nodict him) m)) r
    refine PySem.W.list_sort_key_data (A := X.A.in1) (s := { s2 with heap := h'.push (seqObj "list" us.toArray 0), toks := tk }) (b := false) (vs := us) (bs := ds.zip ks) (n := 0) Prod.snd (Heap.get?_push_size _ rfl) er (by rw [emap]; exact alike_ok o1) (by rw [emap]; exact sortable_ok o2) (by rw [hlen]; exact hz) (fun x hx => ?_)
      (by unfold argsOk; kernel_rfl) rfl (fun v x hR hx h2 tk2 kb => ?_) fun out c h2 tk2 kb hg hlo eo => ?_
    · have h1 : x.2 ∈ ks := (List.of_mem_zip (a := x.1) (b := x.2) hx).2
      have h2 := mem_depth h1
      show X.A.units + 1 + 1 + x.2.depth < cLine
      omega
    · obtain ⟨⟨w, rw', dw⟩, as, rd⟩ := hR
      obtain ⟨k1, k2, k3⟩ := hkz x hx
      have kp2 : ∀ b o, s2.heap.get? b = some o → h2.get? b = some o := fun b o e => kb b o (Nat.ne_of_lt (Heap.lt_size (kp _ _ e))) (Heap.get?_push_of_some _ (kp _ _ e))
      exact lam_turn (s := s2) (env := env) (d := x.1) (as := as) I L hN G.nd R hf hco (hbind v) hdep hbody kp2 (PyProof.Rows.Reads.keeps kp2 rd) k1 k2 k3
    · obtain ⟨ws, w1, w2⟩ := each_fst eo
      have kp2 : ∀ b o, h'.get? b = some o → h2.get? b = some o := fun b o e => kb b o (Nat.ne_of_lt (Heap.lt_size e)) (Heap.get?_push_of_some _ e)
      have ex : Ext H2 (upd H2 h'.objs.size (.lst ws)) := Ext.upd hal
      refine ⟨.ref h'.objs.size, upd H2 h'.objs.size (.lst ws), ?_, rfl, done _ _ ws ex hal upd_same (ex.denL w2) (sortBy_imm him)⟩
      refine I'.laid (t' := tk2) kp2 (Nat.le_refl _) ⟨?_, out, c, w1, hg⟩
      rw [w1.length, hlo, hlen]; exact hz

/-- the keyword's lambda is made -/
theorem kw_lam {c P : Addr} {params : Arguments} {body : Expr} {scope : Scope} {p nm : Str} {lpos kpos : Pos} {pins : List (Addr × Obj)} {σ : L2.St} {H : Hp} {s : Shared} {Q : List Value → Shared → Prop} (I : Inv X pins σ H s) (TB : LamX.TabB X.base X.mg c P) (hcode : X.env.code = .ref c)
    (hm : (P, X.env.qual ++ "<lambda>") ∈ Tbl.T) (hT : LamX.Tabs Tbl.T H) (hdef : defaultsOf params X.env = ([], [])) (L : LamP X.env.scope scope p)
    (h : ∀ (f c' : Addr) (pm ctv : Value) (H1 : Hp) (s' : Shared), Inv X pins σ H1 s' → (∀ b o, b ≠ P → s.heap.get? b = some o → s'.heap.get? b = some o) → (∀ b o, H b = some o → NT o → H1 b = some o) → (∀ b, H b ≠ none → H1 b ≠ none) → LamX.Tabs Tbl.T H1 →
      s'.heap.get? f = some (PySem.W.kla_obj "<lambda>" (X.env.qual ++ "<lambda>") params body scope (cloFrom X.env.cells scope.names []) pm c' ctv) → H1 c' = some (LamX.CodeO c' (X.env.qual ++ "<lambda>")) → Q [.ref f] s') :
    wpAny (model X.prog X.w) X.A (evalAll ((backToKw pos (keywordEach [⟨some nm, .Lambda params body scope lpos, kpos⟩] X.env)).map (·.2))) Q X.xe s := by
  show wpAny _ _ (evalAll ((do let v ← eval (.Lambda params body scope lpos) X.env; standAt pos; pure v) :: [])) _ _ s
  refine wpAny_evalAll_cons (wpAny_bind (lam_make3 I TB hcode hm hT hdef (L.has I.ok) fun f c' pm ctv H1 s' a1 a2 a3 a4 a5 a6 a7 => wpAny_bind (wpAny_standAt (wpAny_pure ?_))))
  exact wpAny_evalAll_nil (h f c' pm ctv H1 s' a1 a2 a3 a4 a5 a6 a7)
theorem sd_sortK {k i : Nat} {c P : Addr} {params : Arguments} {body : Expr} {scope : Scope} {p : Str} {lpos kpos np : Pos} {kc : KX} (G : Gd X) (hr : Room k X.A) (TB : LamX.TabB X.base X.mg c P) (hcode : X.env.code = .ref c) (hm : (P, X.env.qual ++ "<lambda>") ∈ Tbl.T)
    (hmg : X.mg "sorted" = none) (hbt : bootBuiltins "sorted" = some (.builtin "sorted")) (L : LamP X.env.scope scope p) (hN : X.N[i]? = some p) (hdef : defaultsOf params X.env = ([], []))
    (hbind : ∀ (q : Str) (cl : List (Str × Addr)) (pm cv ctv v : Value), bindArgs (PySem.W.kla_fn "<lambda>" q params body scope cl pm cv ctv) ⟨[v], []⟩ = pure [(p, v)])
    (hbody : ∀ pe : PySem.Env, pe.scope = scope → Kp X.prog X.w X.N pe body kc) (ha : Sd X xc T W a ca) (hg : Gl X "sorted" := by rfl) (he : starEach [a] X.env = (false, eval a X.env) :: starEach [] X.env := by rfl) :
    Sd X xc T W (.Call (.Name "sorted" np) [a] [⟨some (Str.ofString "key"), .Lambda params body scope lpos, kpos⟩] pos) (.sortK false i kc ca) := by
  have main : PE X (.Call (.Name "sorted" np) [a] [⟨some (Str.ofString "key"), .Lambda params body scope lpos, kpos⟩] pos) (tI X.K xc T W (.sortK false i kc ca)) := by
    refine ⟨fun pins s σ H Q I h => ?_⟩
    refine wpAny_Call_Name_kw (ld_blt I hg hmg hbt ?_)
    refine PyProof.Rows.callWith_kw (args_cons (thn (ha.pe.run pins s σ H _ I (sortK_src h)) fun u s1 ⟨v, H1, I1, r1, q1⟩ => args_nil ?_) he) (by rw [he]; rfl) (by rw [he]; rfl) rfl rfl
    obtain ⟨x, env, fps, fp, ds, ks, R, hV, e1, e2, e3, fin⟩ := q1
    refine kw_lam I1 TB hcode hm R.tb hdef L fun f c' pm ctv H2 s2 I2 kh kk al tb hf hco => ?_
    have R2 := R.extN kk tb
    have D1 := hV.den R
    have D2 : Den X.K H2 v x.d fp := D1.stay (fun a o e f => kk a o e (by cases o <;> first | exact trivial | exact f.elim)) fun a _ o e n => kk a o e n
    have done : ∀ (H' : Hp) (q : Addr) (ws : List V), (∀ b o, H2 b = some o → H' b = some o) → H2 q = none → H' q = some (.lst ws) → DenL X.K H' ws (sortBy ds ks) [] → immL (sortBy ds ks) = true → Q (.ref q) H' := fun H' q ws k nq hq hw hi => by
      refine fin H' q ws (fun b o e n => k _ _ (kk _ _ e n)) (fun b e => ?_) (tb.ext k) ?_ hq hw hi
      · cases z : H2 b with
        | none => exact (al b e z).elim
        | some o => rw [k b o z]; simp
      · cases z : H1 q with
        | none => rfl
        | some o => exact (al q (by rw [z]; simp) nq).elim
    show wpAny _ _ (call (.builtin "sorted") [u] [(Str.ofString "key", .ref f)]) _ _ _
    obtain ⟨kx', px, dx⟩ := x
    have hkd := hV.kd
    cases dx with
    | list es =>
      simp only [srcK] at e1
      split at e1
      case isFalse => cases e1
      rename_i hfl
      cases e1
      have im : immL ds = true := fl_flat hkd hfl
      cases D2 with
      | lst a1 a2 =>
        obtain rfl : u = .ref _ := r1
        obtain ⟨its, rv, pl, hz⟩ := I2.list (SqL.of a1)
        have a2 := a2.nil_of im
        exact sort_run (rg := false) (x := ⟨kx', px, .list ds⟩) (H1 := H1) (vs := []) G hr.depth I2 L hN R2 e2 e3 im (by rw [← a2.length]; exact hz) hf hco (fun v => hbind _ _ _ _ _ v) hbody (clt_list pl.isList (by rw [← rv.length]; exact hz)) (fun us hu => by subst hu; exact ⟨_, rv, a2⟩) done
    | tuple es =>
      simp only [srcK] at e1
      split at e1
      case isFalse => cases e1
      rename_i hfl
      cases e1
      have im : immL ds = true := fl_tuple hkd hfl
      cases D2 with
      | tup a1 a2 =>
        obtain rfl : u = .ref _ := r1
        obtain ⟨its, rv, pl, hz⟩ := I2.tuple a1
        have a2 := a2.nil_of im
        exact sort_run (rg := false) (x := ⟨kx', px, .tuple ds⟩) (H1 := H1) (vs := []) G hr.depth I2 L hN R2 e2 e3 im (by rw [← a2.length]; exact hz) hf hco (fun v => hbind _ _ _ _ _ v) hbody (clt_tup pl (by rw [← rv.length]; exact hz)) (fun us hu => by subst hu; exact ⟨_, rv, a2⟩) done
    | _ => cases e1
  exact ⟨main, pt_val main (by intro _; rfl)⟩

theorem tI.mono {T : Tab} {K : PySem.W.Frag} {σ : L2.St} {H : Hp} {Q Q' : VK} (k : ∀ v H', Q v H' → Q' v H') (h : tI K xc T W ca σ H Q) : tI K xc T W ca σ H Q' := let ⟨L, env, fps, R, P⟩ := h; ⟨L, env, fps, R, P.imp k⟩
theorem sd_sortKR {k i : Nat} {c P : Addr} {params : Arguments} {body : Expr} {scope : Scope} {p : Str} {lpos kpos np rp rpos : Pos} {kc : KX} (G : Gd X) (hr : Room k X.A) (TB : LamX.TabB X.base X.mg c P) (hcode : X.env.code = .ref c) (hm : (P, X.env.qual ++ "<lambda>") ∈ Tbl.T)
    (hmg : X.mg "sorted" = none) (hbt : bootBuiltins "sorted" = some (.builtin "sorted")) (hmr : X.mg "range" = none) (L : LamP X.env.scope scope p) (hN : X.N[i]? = some p) (hdef : defaultsOf params X.env = ([], []))
    (hbind : ∀ (q : Str) (cl : List (Str × Addr)) (pm cv ctv v : Value), bindArgs (PySem.W.kla_fn "<lambda>" q params body scope cl pm cv ctv) ⟨[v], []⟩ = pure [(p, v)])
    (hbody : ∀ pe : PySem.Env, pe.scope = scope → Kp X.prog X.w X.N pe body kc) (ha : Sd X xc T W a ca) (hg : Gl X "sorted" := by rfl) (hgr : Gl X "range" := by rfl) (he : starEach [a] X.env = (false, eval a X.env) :: starEach [] X.env := by rfl)
    (he2 : starEach [.Call (.Name "range" rp) [a] [] rpos] X.env = (false, eval (.Call (.Name "range" rp) [a] [] rpos) X.env) :: starEach [] X.env := by rfl) :
    Sd X xc T W (.Call (.Name "sorted" np) [.Call (.Name "range" rp) [a] [] rpos] [⟨some (Str.ofString "key"), .Lambda params body scope lpos, kpos⟩] pos) (.sortK true i kc ca) := by
  have main : PE X (.Call (.Name "sorted" np) [.Call (.Name "range" rp) [a] [] rpos] [⟨some (Str.ofString "key"), .Lambda params body scope lpos, kpos⟩] pos) (tI X.K xc T W (.sortK true i kc ca)) := by
    refine ⟨fun pins s σ H Q I h => ?_⟩
    refine wpAny_Call_Name_kw (ld_blt I hg hmg hbt ?_)
    have h1 : tRg1 (tI X.K xc T W ca) σ H (fun a b H1 => a = 0 ∧ KSt X xc W true i kc σ Q (.int b) H1) := tI.mono (fun v H1 q => by
      obtain ⟨x, env, fps, fp, ds, ks, R, hV, e1, r⟩ := q
      have D := hV.den R
      obtain ⟨kx', px, dx⟩ := x
      cases dx with
      | int n =>
        cases D
        exact ⟨n, rfl, rfl, _, env, fps, _, ds, ks, R, hV, e1, r⟩
      | _ => cases e1) (sortK_src h)
    refine PyProof.Rows.callWith_kw (args_cons (thn (prg_1 hgr hmr ha.pe he pins s σ H _ I h1) fun u s1 ⟨r, a0, b0, t0, u0, v0, H1, ex, hrg, I1, q1⟩ => args_nil ?_) he2) (by rw [he2]; rfl) (by rw [he2]; rfl) rfl rfl
    obtain ⟨rfl, x, env, fps, fp, ds, ks, R, hV, e1, e2, e3, fin⟩ := q1
    subst ex
    refine kw_lam I1 TB hcode hm R.tb hdef L fun f c' pm ctv H2 s2 I2 kh kk al tb hf hco => ?_
    have R2 := R.extN kk tb
    have done : ∀ (H' : Hp) (q : Addr) (ws : List V), (∀ b o, H2 b = some o → H' b = some o) → H2 q = none → H' q = some (.lst ws) → DenL X.K H' ws (sortBy ds ks) [] → immL (sortBy ds ks) = true → Q (.ref q) H' := fun H' q ws k nq hq hw hi => by
      refine fin H' q ws (fun b o e n => k _ _ (kk _ _ e n)) (fun b e => ?_) (tb.ext k) ?_ hq hw hi
      · cases z : H2 b with
        | none => exact (al b e z).elim
        | some o => rw [k b o z]; simp
      · cases z : H1 q with
        | none => rfl
        | some o => exact (al q (by rw [z]; simp) nq).elim
    show wpAny _ _ (call (.builtin "sorted") [.ref r] [(Str.ofString "key", .ref f)]) _ _ _
    have hrP : r ≠ P := fun z => by
      obtain ⟨ps, hP, _⟩ := R.tb _ hm
      have q := I1.hok P _ hP
      subst z
      have q : s1.heap.get? r = some { cls := .none, data := .fields ps } := q
      rw [hrg] at q
      cases congrArg Obj.cls (Option.some.inj q)
    have hrg2 := kh _ _ hrP hrg
    obtain ⟨kx', px, dx⟩ := x
    have D := hV.den R
    cases D with
    | int n =>
      simp only [srcK] at e1
      split at e1
      case isFalse => cases e1
      rename_i hok
      cases e1
      have ok := rgOk_ok hok
      obtain ⟨b1, b2, b3, b4, b5⟩ := ok
      have hln : (rangeD 0 b0).length = (b0 - 0).toNat := by unfold rangeD; rw [List.length_map, List.length_range]
      have rd := range_den (K := X.K) (H := H2) 0 (b0 - 0).toNat
      refine sort_run (rg := true) (x := ⟨kx', px, .int b0⟩) (H1 := H1) (vs := []) G hr.depth I2 L hN R2 e2 e3 rd.2 (by rw [hln, sizeLine_eq]; omega) hf hco (fun v => hbind _ _ _ _ _ v) hbody (clt_range hrg2 (small_one b1 b2 b3 b4) (rangeSize_nat 0 b0) b5) (fun us hu => ?_) done
      have := vals_rg hu
      simp only [List.toList_toArray] at this
      exact ⟨_, this, rd.1⟩
    | _ => cases e1
  exact ⟨main, pt_val main (by intro _; rfl)⟩
end
end Iv

set_option maxRecDepth 100000
set_option maxHeartbeats 2000000
/-! IvU: more prims, shown: slices, tuples put together, sorted, sum, max, min of tuples, index. -/
namespace Iv
open PySem L2 PyProof.Rows
variable [Tbl]
theorem immL_cat : ∀ (xs ys : List D), immL xs = true → immL ys = true → immL (xs ++ ys) = true
  | [], ys, _, h => h
  | x :: xs, ys, h1, h2 => by
    simp only [immL, Bool.and_eq_true, List.cons_append] at h1 ⊢
    exact ⟨h1.1, immL_cat xs ys h1.2 h2⟩
theorem immL_sub {xs ys : List D} (h : immL xs = true) (s : ∀ d ∈ ys, d ∈ xs) : immL ys = true := immL_all.mpr fun d hd => immL_all.mp h d (s d hd)
section
variable {X : Cx} {xc : Str → Value} {T : Tab} {W : WX} {a b : Expr} {ca cb : CE} {pos : Pos}
theorem pr_addT (G : Gd X) : OpR X (binaryOp .Add) (fun x y H Q => rP2 X.K .addT x y H Q) := by
  refine OpR.imp op_catA fun x y H Q h => ?_
  obtain ⟨k, d, fp, l, e, fq, r, hd, hk, he, hl, hp, n⟩ := h
  cases d <;> cases e <;> simp [pr2, rI] at hp
  obtain ⟨⟨⟨f1, f2⟩, f3⟩, rfl⟩ := hp
  cases hd with
  | tup a1 a2 =>
    cases he with
    | tup b1 b2 =>
      have i1 : immL _ = true := fl_tuple hk f1
      have i2 : immL _ = true := fl_tuple hl f2
      have a2 := a2.nil_of i1
      have b2 := b2.nil_of i2
      have i3 := immL_cat _ _ i1 i2
      have hl1 := a2.length
      have hl2 := b2.length
      refine ⟨_, _, _, _, rfl, rfl, a1, b1, by rw [hl1, hl2]; exact fits_le f3, fun z => ?_, fun _ z => ?_, fun _ _ p hp => n.tup hp (DenL.append (fp := []) (fq := []) a2 b2) i3⟩
      · subst z
        obtain rfl := List.eq_nil_of_length_eq_zero hl1.symm
        exact n.at (.tup b1 b2) (by rw [imm_tuple]; exact i3)
      · subst z
        obtain rfl := List.eq_nil_of_length_eq_zero hl2.symm
        rw [List.append_nil] at n i3
        exact n.at (.tup a1 a2) (by rw [imm_tuple]; exact i3)
theorem tup_mul1 (l : Addr) (items : Array Value) (n : Nat) (dd : Option Addr) (sl : Array (Option Value)) (u : Tok) :
    Meets (Builtin.«tuple.__mul__» ⟨[.ref l, .int 1 u], []⟩) (fun _ R s => s.heap.get? l = some { cls := .type "tuple", dict := dd, data := .seq items n, slots := sl } ∧ R (.ok (.ret (Value.ref l))) s) :=
  .of_wp fun prog w A R s h => by
    obtain ⟨hp, g, d, tk, os⟩ := s
    obtain ⟨hl, h⟩ := h
    have f1 := AutoSeq1.idx_int
    wp_walk using wpAny_loadPart' hl
    repeat (first
      | (refine wpAny_ite_false (decide_eq_false (by decide)) ?_; wp_walk using wpAny_loadPart' hl)
      | (refine wpAny_ite_true (decide_eq_true (by simp)) ?_; wp_walk using wpAny_loadPart' hl))
    exact ⟨_, rfl, h⟩

theorem op_repT1 : OpR X (binaryOp .Mult) (fun x y H Q => ∃ l xs, x = .ref l ∧ y = .int 1 ∧ SqT X.K H l xs ∧ Q (.ref l) H) := by
  intro pins s σ H x y v u Q I rx ry h
  obtain ⟨l, xs, rfl, rfl, hT, q⟩ := h
  cases rx
  obtain ⟨t, rfl⟩ := ry
  obtain ⟨its, r, ⟨⟨cls, dd, data, sl⟩, ho, hc, n, hd⟩, hs⟩ := I.tuple hT
  simp only at hc hd
  subst hc hd
  exact wpAny_binaryOp_repeat_ref (T := "tuple") (U := "int") (by decide) ⟨_, ho, rfl⟩ (fun s' => typeIs_int s' 1 t) noFill_tuple_mul F.fills_int_mul F.slot_int_rmul repeat_tuple F.slot_int_index.lookup
    (call_meets F.slot_int_rmul (typeIs_int s 1 t) F.entry_int_rmul (F.args_int_rmul_2 _ _) (int_rmul_tuple 1 t l its.toArray n dd sl)
      ⟨ho, rfl, ⟨_, ho, rfl⟩, call_meets F.slot_tuple_mul ⟨_, ho, rfl⟩ F.entry_tuple_mul (F.args_tuple_mul_2 _ _) (tup_mul1 l its.toArray n dd sl t) ⟨ho, .ref l, H, I, rfl, q⟩⟩)
theorem pr_mulT (G : Gd X) : OpR X (binaryOp .Mult) (fun x y H Q => rP2 X.K .mulT x y H Q) := by
  refine OpR.imp (op_repT1.or op_repT) fun x y H Q h => ?_
  obtain ⟨k, d, fp, l, e, fq, r, hd, hk, he, hl, hp, n⟩ := h
  cases d <;> cases e <;> simp [pr2, rI] at hp
  obtain ⟨⟨⟨⟨⟨f1, f2⟩, f3⟩, f4⟩, f5⟩, rfl⟩ := hp
  cases he
  cases hd with
  | tup a1 a2 =>
    have i1 : immL _ = true := fl_tuple hk f1
    rename_i ds j zz vs
    have a2 := a2.nil_of i1
    have hz := a2.length
    by_cases hj : j = 1
    · subst hj
      refine .inl ⟨_, _, rfl, rfl, a1, ?_⟩
      have e1 : (List.replicate (Int.toNat 1) ds).flatten = ds := by simp
      rw [e1] at n
      exact n.at (.tup a1 a2) (by rw [imm_tuple]; exact i1)
    · refine .inr ⟨_, _, _, rfl, rfl, a1, fun z => ?_, by omega, by omega, by omega, fun p hp => n.tup hp (denL_rep _ a2) (immL_rep _ _ i1)⟩
      subst z
      simp at hz
      omega
theorem cut_to {α : Type} (xs : List α) (j : Int) : (xs.drop (HT.sIx xs.length 0 none)).take (HT.sIx xs.length xs.length (some j) - HT.sIx xs.length 0 none) = toI xs j := by
  show (xs.drop 0).take (HT.sIx xs.length xs.length (some j) - 0) = xs.take (cutI xs.length j)
  rw [List.drop_zero, Nat.sub_zero]
  congr 1
  unfold cutI
  show (if j < 0 then (j + (xs.length : Int)).toNat else min j.toNat xs.length) = _
  by_cases h : 0 ≤ j
  · rw [if_pos h, if_neg (by omega)]
  · rw [if_neg h, if_pos (by omega)]
theorem cut_from {α : Type} (xs : List α) (j : Int) : (xs.drop (HT.sIx xs.length 0 (some j))).take (HT.sIx xs.length xs.length none - HT.sIx xs.length 0 (some j)) = fromI xs j := by
  have e : HT.sIx xs.length 0 (some j) = cutI xs.length j := by
    unfold cutI
    show (if j < 0 then (j + (xs.length : Int)).toNat else min j.toNat xs.length) = _
    by_cases h : 0 ≤ j
    · rw [if_pos h, if_neg (by omega)]
    · rw [if_neg h, if_pos (by omega)]
  rw [e]
  show (xs.drop (cutI xs.length j)).take (xs.length - cutI xs.length j) = xs.drop (cutI xs.length j)
  exact List.take_of_length_le (by rw [List.length_drop]; omega)
theorem den_to {K : PySem.W.Frag} {H : Hp} {vs : List V} {ds : List D} (l : DenL K H vs ds []) (j : Int) : DenL K H (toI vs j) (toI ds j) [] := by
  unfold toI; rw [l.length]; exact l.take _
theorem den_from {K : PySem.W.Frag} {H : Hp} {vs : List V} {ds : List D} (l : DenL K H vs ds []) (j : Int) : DenL K H (fromI vs j) (fromI ds j) [] := by
  unfold fromI; rw [l.length]; exact l.drop _
theorem cutI_le (n : Nat) (j : Int) : cutI n j ≤ n ∨ j < 0 := by unfold cutI; split <;> omega
/-- x[:j] -/
theorem sd_slTo {p2 : Pos} (G : Gd X) (ha : Sd X xc T W a ca) (hb : Sd X xc T W b cb) : Sd X xc T W (.Subscript a (.Slice none (some b) none p2) pos) (.p2 .slTo ca cb) := by
  refine Sd.mk' (pe_slice (sl_list.or sl_tupA) ha.pe po_none (po_some hb.pe)) fun σ H Q q => ?_
  refine tI.imp (p2_red q) fun v H1 q => tI.imp q fun w H2 q => ?_
  obtain ⟨k, d, fp, l, e, fq, r, hd, hk, he, hl, hp, n⟩ := q
  cases d <;> cases e <;> simp [pr2, rI] at hp
  · obtain ⟨⟨f1, f2⟩, rfl⟩ := hp
    cases he
    cases hd with
    | lst a1 a2 =>
      have i1 : immL _ = true := fl_flat hk f1
      refine ⟨_, rfl, .inl ⟨_, _, rfl, SqL.of a1, fun p hp => ?_⟩⟩
      have := n.lst hp (den_to (a2.nil_of i1) _) (immL_sub i1 fun d h => List.mem_of_mem_take h)
      rw [← cut_to] at this
      exact this
  · obtain ⟨⟨f1, f2⟩, rfl⟩ := hp
    cases he
    cases hd with
    | tup a1 a2 =>
      rename_i ds j zz vs
      have i1 : immL _ = true := fl_tuple hk f1
      have a2 := a2.nil_of i1
      have i2 : immL (toI ds j) = true := immL_sub i1 fun d h => List.mem_of_mem_take h
      refine ⟨_, rfl, .inr ⟨_, _, rfl, a1, fun z => ?_, fun _ p hp => ?_⟩⟩
      · have e1 : toI ds j = ds := by
          unfold toI
          apply List.take_of_length_le
          have := z.2
          have e2 := cut_to vs j
          have hlv := a2.length
          have e3 : (toI vs j).length = vs.length := by
            rw [← e2, z.1, z.2]; simp
          unfold toI at e3
          rw [List.length_take] at e3
          rw [← hlv]; omega
        rw [e1] at n
        exact n.at (.tup a1 a2) (by rw [imm_tuple]; exact i1)
      · have := n.tup hp (den_to a2 j) i2
        rw [← cut_to] at this
        exact this
/-- x[j:] -/
theorem sd_slFrom {p2 : Pos} (G : Gd X) (ha : Sd X xc T W a ca) (hb : Sd X xc T W b cb) : Sd X xc T W (.Subscript a (.Slice (some b) none none p2) pos) (.p2 .slFrom ca cb) := by
  refine Sd.mk' (pe_slice (sl_list.or sl_tupA) ha.pe (po_some hb.pe) po_none) fun σ H Q q => ?_
  refine tI.imp (p2_red q) fun v H1 q => tI.imp q fun w H2 q => ?_
  obtain ⟨k, d, fp, l, e, fq, r, hd, hk, he, hl, hp, n⟩ := q
  cases d <;> cases e <;> simp [pr2, rI] at hp
  · obtain ⟨⟨f1, f2⟩, rfl⟩ := hp
    cases he
    cases hd with
    | lst a1 a2 =>
      have i1 : immL _ = true := fl_flat hk f1
      refine ⟨_, rfl, .inl ⟨_, _, rfl, SqL.of a1, fun p hp => ?_⟩⟩
      have := n.lst hp (den_from (a2.nil_of i1) _) (immL_sub i1 fun d h => List.mem_of_mem_drop h)
      rw [← cut_from] at this
      exact this
  · obtain ⟨⟨f1, f2⟩, rfl⟩ := hp
    cases he
    cases hd with
    | tup a1 a2 =>
      rename_i ds j zz vs
      have i1 : immL _ = true := fl_tuple hk f1
      have a2 := a2.nil_of i1
      have i2 : immL (fromI ds j) = true := immL_sub i1 fun d h => List.mem_of_mem_drop h
      refine ⟨_, rfl, .inr ⟨_, _, rfl, a1, fun z => ?_, fun _ p hp => ?_⟩⟩
      · have e1 : fromI ds j = ds := by
          have e2 := cut_from vs j
          have hlv := a2.length
          have e3 : (fromI vs j).length = vs.length := by
            rw [← e2, z.1, z.2]; simp
          unfold fromI at e3 ⊢
          rw [List.length_drop] at e3
          rw [← hlv]
          by_cases hv : vs.length = 0
          · rw [hv] at hlv
            obtain rfl := List.eq_nil_of_length_eq_zero hlv.symm
            simp
          · have : cutI vs.length j = 0 := by omega
            rw [this]; simp
        rw [e1] at n
        exact n.at (.tup a1 a2) (by rw [imm_tuple]; exact i1)
      · have := n.tup hp (den_from a2 j) i2
        rw [← cut_from] at this
        exact this
theorem DenL.reverse {K : PySem.W.Frag} {H : Hp} : ∀ {vs : List V} {ds : List D}, DenL K H vs ds [] → DenL K H vs.reverse ds.reverse []
  | [], [], _ => .nil
  | v :: vs, d :: ds, l => by
    rw [List.reverse_cons, List.reverse_cons]
    exact DenL.append (fp := []) (fq := []) (l.split.2.reverse) (.cons (fp := []) (fq := []) l.split.1 .nil)
  | [], _ :: _, l => by have := l.length; simp at this
  | _ :: _, [], l => by have := l.length; simp at this
/-- x[::-1] -/
theorem sd_rev {k : Nat} {p1 p2 p3 : Pos} (ha : Sd X xc T W a ca) : Sd X xc T W (.Subscript a (.Slice none none (some (.UnaryOp .USub (.Constant (.int 1) k p1) p2)) p3) pos) (.p1 .rev ca) := by
  refine Sd.mk' (pe_revL ha.pe) fun σ H Q q => tI.imp (p1_red q) fun v H1 q => ?_
  obtain ⟨k, d, fp, r, hd, hk, hp, n⟩ := q
  cases d <;> simp [pr1] at hp
  obtain ⟨f1, rfl⟩ := hp
  cases hd with
  | lst a1 a2 =>
    have i1 : immL _ = true := fl_flat hk f1
    exact ⟨_, _, rfl, SqL.of a1, fun p hp => n.lst hp (a2.nil_of i1).reverse (immL_sub i1 fun d h => List.mem_reverse.mp h)⟩

/-! ### sorted -/
theorem each_fresh {h g : Heap} {p : Addr} : ∀ {us : List Value} {ds : List D}, immL ds = true → Kept h g → PySem.W.EachIs (fun u d => ∃ as, Reads h u d as) us ds → PySem.W.EachIs (fun u d => ∃ as, Reads g u d as ∧ p ∉ as) us ds
  | [], [], _, _, .nil => .nil
  | u :: us, d :: ds, hi, k, .cons ⟨as, r⟩ t => by
    simp only [immL, Bool.and_eq_true] at hi
    have := reads_imm r hi.1
    subst this
    exact .cons ⟨[], PyProof.Rows.Reads.keeps k r, by simp⟩ (each_fresh hi.2 k t)
theorem sort_plain {pins : List (Addr × Obj)} {σ : L2.St} {H : Hp} {s : Shared} {Q : VK} {ds : List D} {vs : List V} {us : List Value} {src : Value} {kw : List (Str × Value)} {b : Bool} (G : Gd X) (I : Inv X pins σ H s) (hkw : (kw = [] ∧ b = false) ∨ kw = [(Str.ofString "reverse", .bool b)])
    (ho : sortOk ds = true) (him : immL ds = true) (hz : ds.length ≤ sizeLine) (hc : Clt X.prog X.w s src (fun ws => ws = us)) (rv : Vals vs us) (l : DenL X.K H vs ds []) (n : New X.K H (.flat, .list (ds.mergeSort (PySem.W.dataLe b id))) Q) :
    wpAny (model X.prog X.w) X.A (call (.builtin "sorted") [src] kw) (EP X pins σ Q) X.xe s := by
  simp only [sortOk, Bool.and_eq_true, decide_eq_true_eq] at ho
  obtain ⟨⟨o1, o2⟩, o3⟩ := ho
  have G' := G.hu
  have args1 : argsOk "sorted" ⟨[src], kw⟩ := by
    rcases hkw with ⟨rfl, _⟩ | rfl
    · exact args_sorted1 _
    · exact args_sorted_rev _ _
  refine sorted_any (I.ok.hd G.calm) hc (fun ws hw => by subst hw; rw [← rv.length, l.length]; exact hz) args1 fun ws h' tk E' hw kp => ?_
  subst hw
  have I' : Inv X pins σ H { s with heap := h', toks := tk } := I.kept kp
  have hal : H h'.objs.size = none := I'.hok.fresh (Nat.le_refl _)
  obtain ⟨as, rs⟩ := Dp.readsAll I _ _ ws (l.dpD (immL_nodict him)) rv
  obtain ⟨e1, e2⟩ := each_reads l rv rs
  have i2 : immL (ds.mergeSort (PySem.W.dataLe b id)) = true := immL_sub him fun d hd => (List.mergeSort_perm ds _).subset hd
  have e3 : PySem.W.EachIs (fun u d => ∃ as, Reads (h'.push (seqObj "list" ws.toArray 0)) u d as ∧ h'.objs.size ∉ as) ws ds := each_fresh him (fun b o q => Heap.get?_push_of_some _ (kp _ _ q)) e2
  have hu : ∀ d, d ∈ ds → X.A.in1.units + 1 + (id d).depth < cLine := fun d hd => by
    have := mem_depth hd
    show X.A.units + 1 + 1 + d.depth < cLine
    omega
  have fin : ∀ out : List Value, out.length = ds.length → PySem.W.EachIs (fun u d => ∃ v, RelV v u ∧ Den X.K H v d []) out (ds.mergeSort (PySem.W.dataLe b id)) → EP X pins σ Q (.ref h'.objs.size) { s with heap := sortedHeap (h'.push (seqObj "list" ws.toArray 0)) h'.objs.size ws out.toArray, toks := tk } := fun out hlo eo => by
    obtain ⟨xs, w1, w2⟩ := each_back eo
    obtain ⟨c, hcx⟩ := PyProof.Rows.sortedHeap_at (h := h'.push (seqObj "list" ws.toArray 0)) (a := h'.objs.size) (vs := ws) (n := 0) (out := out.toArray) (Heap.get?_push_size _ rfl)
    refine ⟨.ref h'.objs.size, upd H h'.objs.size (.lst xs), ?_, rfl, n.lst hal w2 i2⟩
    refine I'.laid (t' := tk) (fun b o e => by
      have hlt := Heap.lt_size e
      rw [PyProof.Rows.sortedHeap_old (Nat.ne_of_lt hlt) (by rw [size_push']; exact Nat.lt_succ_of_lt hlt)]
      exact Heap.get?_push_of_some _ e) (Nat.le_refl _) ⟨?_, out, c, w1, hcx⟩
    rw [w1.length, hlo]; exact hz
  rcases hkw with ⟨rfl, rfl⟩ | rfl
  · refine PySem.W.list_sort_data (A := X.A.in1) (s := { s with heap := h'.push (seqObj "list" ws.toArray 0), toks := tk }) (vs := ws) (bs := ds) (enc := id) (n := 0) (Heap.get?_push_size _ rfl) e1 e3 (by rw [List.map_id]; exact alike_ok o1) (by rw [List.map_id]; exact sortable_ok o2) hz hu fun out hlo eo => fin out hlo eo
  · refine PySem.W.list_sort_rev_data (A := X.A.in1) (s := { s with heap := h'.push (seqObj "list" ws.toArray 0), toks := tk }) (b := b) (vs := ws) (bs := ds) (enc := id) (n := 0) (Heap.get?_push_size _ rfl) e1 e3 (by rw [List.map_id]; exact alike_ok o1) (by rw [List.map_id]; exact sortable_ok o2) hz hu fun out hlo eo => fin out hlo eo

theorem pr_sortT (G : Gd X) : CallR X (.builtin "sorted") (rC1 X.K .sortT) := by
  intro pins s σ H xs us Q I r h
  obtain ⟨v, rfl, k, d, fp, q, hd, hk, hp, n⟩ := h
  cases d <;> simp [pr1] at hp
  obtain ⟨⟨f, ho⟩, rfl⟩ := hp
  cases hd with
  | tup a1 a2 =>
    have i : immL _ = true := fl_tuple hk f
    have a2 := a2.nil_of i
    rw [Vals.ref1 r]
    obtain ⟨its, rv, pl, hz⟩ := I.tuple a1
    exact sort_plain (b := false) G I (.inl ⟨rfl, rfl⟩) ho i (by rw [← a2.length]; exact hz) (clt_tup pl (by rw [← rv.length]; exact hz)) rv a2 n
theorem pr_sortR (G : Gd X) {f : Pr} (hf : f = .sortR ∨ f = .sortTR) : CallRK X (.builtin "sorted") [Str.ofString "reverse"] (fun xs zs H Q => zs = [.bl true] ∧ rC1 X.K f xs H Q) := by
  intro pins s σ H xs zs us ws Q I r rz h
  obtain ⟨rfl, v, rfl, k, d, fp, q, hd, hk, hp, n⟩ := h
  have hw : ws = [.bool true] := by
    cases rz with
    | cons r1 r2 =>
      cases r2
      obtain rfl := (show _ = Value.bool true from r1)
      rfl
  subst hw
  show wpAny _ _ (call (.builtin "sorted") us [(Str.ofString "reverse", .bool true)]) _ _ _
  rcases hf with rfl | rfl
  · cases d <;> simp [pr1] at hp
    obtain ⟨⟨f, ho⟩, rfl⟩ := hp
    cases hd with
    | lst a1 a2 =>
      have i : immL _ = true := fl_flat hk f
      have a2 := a2.nil_of i
      rw [Vals.ref1 r]
      obtain ⟨its, rv, pl, hz⟩ := I.list (SqL.of a1)
      exact sort_plain (b := true) G I (.inr rfl) ho i (by rw [← a2.length]; exact hz) (clt_list pl.isList (by rw [← rv.length]; exact hz)) rv a2 n
  · cases d <;> simp [pr1] at hp
    obtain ⟨⟨f, ho⟩, rfl⟩ := hp
    cases hd with
    | tup a1 a2 =>
      have i : immL _ = true := fl_tuple hk f
      have a2 := a2.nil_of i
      rw [Vals.ref1 r]
      obtain ⟨its, rv, pl, hz⟩ := I.tuple a1
      exact sort_plain (b := true) G I (.inr rfl) ho i (by rw [← a2.length]; exact hz) (clt_tup pl (by rw [← rv.length]; exact hz)) rv a2 n
/-- sorted(x, reverse=True) -/
theorem sd_sortR {f : Pr} {np kp kpos : Pos} {j : Nat} (G : Gd X) (hf : f = .sortR ∨ f = .sortTR) (hm : X.mg "sorted" = none) (hb : bootBuiltins "sorted" = some (.builtin "sorted")) (ha : Sd X xc T W a ca) (hg : Gl X "sorted" := by rfl) (hs : starEach [a] X.env = (false, eval a X.env) :: starEach [] X.env := by rfl) :
    Sd X xc T W (.Call (.Name "sorted" np) [a] [⟨some (Str.ofString "reverse"), .Constant (.bool true) j kp, kpos⟩] pos) (.p1 f ca) :=
  Sd.mk' (pe_callBK (pr_sortR G hf) hg hm hb (pa_cons ha.pe pa_nil hs) (pk_cons pe_bl pk_nil) (by decide) (by decide) (by rw [hs]; rfl) (by rw [hs]; rfl)) fun σ H Q q => tI.imp (p1_red q) fun v H1 q => ⟨rfl, v, rfl, q⟩

/-! ### sum, max, min -/
theorem fold_max0 (n : Int) (ns : List Int) : (n :: ns).foldl max ((n :: ns).headD 0) = ns.foldl max n := by simp
theorem fold_min0 (n : Int) (ns : List Int) : (n :: ns).foldl min ((n :: ns).headD 0) = ns.foldl min n := by simp
theorem alike_ints (ns : List Int) : PySem.W.AlikeAll (ns.map PyData.int) := ⟨fun x hx y hy => by
  obtain ⟨i, _, rfl⟩ := List.mem_map.mp hx
  obtain ⟨j, _, rfl⟩ := List.mem_map.mp hy
  simp [PySem.W.alike], fun x hx => by
  obtain ⟨i, _, rfl⟩ := List.mem_map.mp hx
  simp⟩
theorem depth_ints : ∀ ns : List Int, PyData.depthAll (ns.map PyData.int) = 0
  | [] => rfl
  | n :: ns => by simp [PyData.depthAll, PyData.depth, depth_ints ns]
theorem mm_fin {pins : List (Addr × Obj)} {σ : L2.St} {H : Hp} {s : Shared} {Q : VK} {m : Int} {v : Value} {h' : Heap} {tk : Tok} {bs : List Addr} (I : Inv X pins σ H s) (n : New X.K H (.imm, .int m) Q) (r : Reads h' v (.int m) bs) (k : Kept s.heap h') : EP X pins σ Q v { s with heap := h', toks := tk } := by
  obtain ⟨t, rfl⟩ := reads_int r
  exact ⟨.int m, H, I.kept k, ⟨_, rfl⟩, n.at (.int _) rfl⟩
theorem pr_maxL (G : Gd X) : CallR X (.builtin "max") (rC1 X.K .maxOf) := by
  intro pins s σ H xs us Q I r h
  obtain ⟨v, rfl, k, d, fp, q, hd, hk, hp, n⟩ := h
  cases d <;> simp [pr1, rN, Option.bind_eq_some_iff] at hp
  obtain ⟨ns, h1, h2, rfl⟩ := hp
  obtain rfl := ints_of h1
  cases hd with
  | lst a1 a2 =>
    obtain ⟨rfl, rfl⟩ := denL_ints a2
    rw [Vals.ref1 r]
    obtain ⟨its, rv, pl, hz⟩ := I.list (SqL.of a1)
    cases ns with
    | nil => simp at h2
    | cons m ns =>
      obtain ⟨as, rs⟩ := Dp.readsAll I _ _ its (a2.dpD (by simpa using immL_nodict (ds := (m :: ns).map PyData.int) (by simp [immL_all, imm]))) rv
      have this : New X.K H (.imm, .int (ns.foldl max m)) Q := by simpa using n
      refine PySem.W.max_list_data (x := .int m) (xs := ns.map .int) (I.ok.hd G.calm) pl.isList (by simpa using rs) (by simpa using alike_ints (m :: ns)) (by have := depth_ints (m :: ns); rw [List.map_cons] at this; rw [this]; have := G.hu; omega) fun i v h' tk bs _ rd k => ?_
      rw [PySem.W.maxD_ints] at rd
      exact mm_fin I this rd k
theorem pr_minL (G : Gd X) : CallR X (.builtin "min") (rC1 X.K .minOf) := by
  intro pins s σ H xs us Q I r h
  obtain ⟨v, rfl, k, d, fp, q, hd, hk, hp, n⟩ := h
  cases d <;> simp [pr1, rN, Option.bind_eq_some_iff] at hp
  obtain ⟨ns, h1, h2, rfl⟩ := hp
  obtain rfl := ints_of h1
  cases hd with
  | lst a1 a2 =>
    obtain ⟨rfl, rfl⟩ := denL_ints a2
    rw [Vals.ref1 r]
    obtain ⟨its, rv, pl, hz⟩ := I.list (SqL.of a1)
    cases ns with
    | nil => simp at h2
    | cons m ns =>
      obtain ⟨as, rs⟩ := Dp.readsAll I _ _ its (a2.dpD (by simpa using immL_nodict (ds := (m :: ns).map PyData.int) (by simp [immL_all, imm]))) rv
      have this : New X.K H (.imm, .int (ns.foldl min m)) Q := by simpa using n
      refine PySem.W.min_list_data (x := .int m) (xs := ns.map .int) (I.ok.hd G.calm) pl.isList (by simpa using rs) (by simpa using alike_ints (m :: ns)) (by have := depth_ints (m :: ns); rw [List.map_cons] at this; rw [this]; have := G.hu; omega) fun i v h' tk bs _ rd k => ?_
      rw [PySem.W.minD_ints] at rd
      exact mm_fin I this rd k
theorem pr_maxT (G : Gd X) : CallR X (.builtin "max") (rC1 X.K .maxT) := by
  intro pins s σ H xs us Q I r h
  obtain ⟨v, rfl, k, d, fp, q, hd, hk, hp, n⟩ := h
  cases d <;> simp [pr1, rN, Option.bind_eq_some_iff] at hp
  obtain ⟨ns, h1, h2, rfl⟩ := hp
  obtain rfl := ints_of h1
  cases hd with
  | tup a1 a2 =>
    obtain ⟨rfl, rfl⟩ := denL_ints a2
    rw [Vals.ref1 r]
    obtain ⟨its, rv, pl, hz⟩ := I.tuple a1
    cases ns with
    | nil => simp at h2
    | cons m ns =>
      obtain ⟨as, rs⟩ := Dp.readsAll I _ _ its (a2.dpD (by simpa using immL_nodict (ds := (m :: ns).map PyData.int) (by simp [immL_all, imm]))) rv
      have this : New X.K H (.imm, .int (ns.foldl max m)) Q := by simpa using n
      refine PySem.W.max_tuple_data (x := .int m) (xs := ns.map .int) (I.ok.hd G.calm) pl (by simpa using rs) (by simpa using alike_ints (m :: ns)) (by have := depth_ints (m :: ns); rw [List.map_cons] at this; rw [this]; have := G.hu; omega) fun i v h' tk bs _ rd k => ?_
      rw [PySem.W.maxD_ints] at rd
      exact mm_fin I this rd k
theorem pr_minT (G : Gd X) : CallR X (.builtin "min") (rC1 X.K .minT) := by
  intro pins s σ H xs us Q I r h
  obtain ⟨v, rfl, k, d, fp, q, hd, hk, hp, n⟩ := h
  cases d <;> simp [pr1, rN, Option.bind_eq_some_iff] at hp
  obtain ⟨ns, h1, h2, rfl⟩ := hp
  obtain rfl := ints_of h1
  cases hd with
  | tup a1 a2 =>
    obtain ⟨rfl, rfl⟩ := denL_ints a2
    rw [Vals.ref1 r]
    obtain ⟨its, rv, pl, hz⟩ := I.tuple a1
    cases ns with
    | nil => simp at h2
    | cons m ns =>
      obtain ⟨as, rs⟩ := Dp.readsAll I _ _ its (a2.dpD (by simpa using immL_nodict (ds := (m :: ns).map PyData.int) (by simp [immL_all, imm]))) rv
      have this : New X.K H (.imm, .int (ns.foldl min m)) Q := by simpa using n
      refine PySem.W.min_tuple_data (x := .int m) (xs := ns.map .int) (I.ok.hd G.calm) pl (by simpa using rs) (by simpa using alike_ints (m :: ns)) (by have := depth_ints (m :: ns); rw [List.map_cons] at this; rw [this]; have := G.hu; omega) fun i v h' tk bs _ rd k => ?_
      rw [PySem.W.minD_ints] at rd
      exact mm_fin I this rd k

theorem sum_rawT {prog : Program} {w : World} {A : Around} {E : Value → Shared → Prop} {s : Shared} {l : Addr} {its : List Value} {ns : List Int} {Q : Value → Shared → Prop} (hh : A.handled = none) (hl : s.heap.IsTuple l its.toArray) (hi : IntsAre its ns)
    (h : ∀ h' tk t', (∀ b o, s.heap.get? b = some o → h'.get? b = some o) → Q (.int ns.sum t') { s with heap := h', toks := tk }) : wpAny (model prog w) A (call (.builtin "sum") [.ref l]) Q E s := by
  obtain ⟨xs, e⟩ := hi.allInts.items
  have hn : numsOf (intItems xs).toList = ns := by rw [← e]; exact hi.numsOf
  rw [nums_intItems] at hn
  rw [e] at hl
  refine PySem.W.ktm_sumG hh hl fun h' tk t' hk => ?_
  have := h h' tk t' hk
  rw [preSum_eq, List.take_of_length_le (by simp), hn]
  exact this
theorem pr_sumT (G : Gd X) : CallR X (.builtin "sum") (rC1 X.K .sumT) := by
  intro pins s σ H xs us Q I r h
  obtain ⟨v, rfl, k, d, fp, q, hd, hk, hp, n⟩ := h
  cases d <;> simp [pr1, rN, Option.bind_eq_some_iff] at hp
  obtain ⟨ns, h1, rfl⟩ := hp
  obtain rfl := ints_of h1
  cases hd with
  | tup a1 a2 =>
    obtain ⟨rfl, rfl⟩ := denL_ints a2
    rw [Vals.ref1 r]
    obtain ⟨its, rv, pl, hz⟩ := I.tuple a1
    exact sum_rawT (I.ok.hd G.calm) pl rv.ints fun h' tk t' hk => ⟨.int _, H, I.kept hk, ⟨_, rfl⟩, n.at (.int _) rfl⟩
/-! ### l.index(x) -/
theorem idx_at {xs : List D} {e : D} {i : Int} (h : idxI xs e = some i) : ∃ (j : Nat) (z : D), i = (j : Int) ∧ xs[j]? = some z ∧ PyData.eqv z e = true ∧ ∀ (m : Nat) (z' : D), m < j → xs[m]? = some z' → PyData.eqv z' e = false := by
  unfold idxI at h
  obtain ⟨j, hj, rfl⟩ := Option.map_eq_some_iff.mp h
  obtain ⟨h1, h2, h3⟩ := List.findIdx?_eq_some_iff_getElem.mp hj
  refine ⟨j, xs[j], rfl, List.getElem?_eq_getElem h1, h2, fun m z' hm hz => ?_⟩
  obtain ⟨h4, h5⟩ := List.getElem?_eq_some_iff.mp hz
  have := h3 m hm
  rw [h5] at this
  simpa using this
theorem idx_red {K : PySem.W.Frag} {σ : L2.St} {H : Hp} {Q : VK} (h : tI K xc T W (.idx ca cb) σ H Q) : tI K xc T W ca σ H fun v H1 => tyV K "list" v H1 ∧ tI K xc T W cb σ H1 fun w H2 => rP2 K .idxL v w H2 Q := by
  obtain ⟨L, env, fps, R, P⟩ := h
  simp only [ev] at P
  refine tI.bind (self_sub L) R P fun x env1 v H1 fps1 fp S1 R1 V1 B1 P1 => ?_
  simp only at P1
  split at P1
  · rename_i hl
    refine ⟨?_, tI.bind (lk_sub x L) R1 P1 fun y env2 w H2 fps2 fq S2 R2 V2 B2 P2 => ?_⟩
    · have D1 := V1.den R1
      cases hx : x.d <;> rw [hx] at hl D1 <;> first | cases hl | skip
      cases D1 with
      | lst a1 a2 => exact .inl ⟨rfl, _, SqL.of a1⟩
    · have V1' := V1.step R1 S2 (fun i h => lk_has h)
      obtain ⟨q, e, n⟩ := New.of R2 P2
      exact ⟨x.k, x.d, fp, y.k, y.d, fq, q, V1'.den R2, V1'.kd, V2.den R2, V2.kd, e, n⟩
  · exact P1.elim
theorem sd_idx {apos cpos : Pos} (G : Gd X) (ha : Sd X xc T W a ca) (hb : Sd X xc T W b cb) (hbase : attributeBase a "index" X.env (eval a X.env) = eval a X.env := by rfl) (hline : (apos.endLine == cpos.line) = true := by rfl)
    (hs : starEach [b] X.env = (false, eval b X.env) :: starEach [] X.env := by rfl) : Sd X xc T W (.Call (.Attribute a "index" apos) [b] [] cpos) (.idx ca cb) := by
  refine Sd.mk' (pe_bm PySem.F.plainAttrs_list PySem.F.slot_list_index PySem.F.type_list_index (mt_indexD (by have := G.hu; omega)) ha.pe (pa_cons hb.pe pa_nil hs) hbase (by rw [hs]; rfl) hline hs rfl) fun σ H Q q => ?_
  refine tI.imp (idx_red q) fun v H1 ⟨ty, q⟩ => ⟨ty, tI.imp q fun w H2 q => ?_⟩
  obtain ⟨k, d, fp, l, e, fq, r, hd, hk, he, hl, hp, n⟩ := q
  cases d <;> simp [pr2, rN, Option.bind_eq_some_iff] at hp
  obtain ⟨⟨⟨f1, f2⟩, f3⟩, i, hi, rfl⟩ := hp
  obtain ⟨j, z, rfl, z1, z2, z3⟩ := idx_at hi
  have dv := hd
  cases hd with
  | lst a1 a2 => exact ⟨_, w, e, _, j, z, rfl, rfl, plain_dp dv f2, plain_dp he f3, f2, f3, z1, z2, z3, n.at (.int _) rfl⟩
end
end Iv

set_option maxRecDepth 100000
set_option maxHeartbeats 2000000
/-! IvV: augmented assignment, of ints. -/
namespace Iv
open PySem L2 PyProof.Rows
variable [Tbl]
section
variable {X : Cx} {xc : Str → Value} {T : Tab} {W : WX} {A : List Nat} {e i : Expr} {ce ci : CE} {pos tpos p pos' : Pos} {D : Ends} {r : Nat} {x : Str} {op : Operator} {f : Pr}
theorem get_list : PGet X (rIxL X.K) := by
  intro pins s σ H x y v u Q I rx ry h
  obtain ⟨p, xs, i, z, rfl, rfl, hq, he, q⟩ := h
  cases rx
  obtain ⟨t, rfl⟩ := ry
  obtain ⟨its, r, pl, hz⟩ := I.list hq
  obtain ⟨j, h1, h2, h3, h4, h5⟩ := atI_get he
  obtain ⟨w, ew, rw'⟩ := r.get h2
  have hl := r.length
  have hn := line63
  have fin : EP X pins σ Q w s := ⟨z, H, I, rw', q⟩
  by_cases h0 : 0 ≤ i
  · have hj : i.toNat = j := by
      rw [seqIndex_of h0 h5] at h1
      exact Option.some.inj h1
    exact wpAny_getItem_list pl.isList h0 (by omega) (by rw [hj]; simpa using ew) fin
  · have hj := Option.some.inj ((seqIndex_neg (by omega) h4).symm.trans h1)
    exact wpAny_getItem_list_neg pl.isList (by omega) (by rw [List.size_toArray] <;> omega) (by omega) (by rw [List.size_toArray, ← hl, hj]; simpa using ew) fin
/-- what op= is on ints -/
def rIp (f : Pr) : TIp := fun x y H Q => ∃ i j k, x = .int i ∧ y = .int j ∧ pr2 f .imm (.int i) .imm (.int j) = some (.imm, .int k) ∧ Q (.int k) H
theorem ip_a : PIp X .Add (rIp .addI) := by
  intro pins s σ H x y v u Q I r1 r2 h
  obtain ⟨i, j, k, e1, e2, e3, q⟩ := h
  simp [pr2, rN] at e3
  exact ip_add pins s σ H x y v u Q I r1 r2 ⟨i, j, e1, e2, by subst e3; exact q⟩
theorem ip_s : PIp X .Sub (rIp .subI) := by
  intro pins s σ H x y v u Q I r1 r2 h
  obtain ⟨i, j, k, e1, e2, e3, q⟩ := h
  simp [pr2, rN] at e3
  exact ip_sub pins s σ H x y v u Q I r1 r2 ⟨i, j, e1, e2, by subst e3; exact q⟩
theorem pr2_ints {k : Kd} {d : PyData} {i : Int} {l : Kd} {z : Kd × PyData} (hf : f = .addI ∨ f = .subI) (h : pr2 f k (.int i) l d = some z) : ∃ j m, d = .int j ∧ z = (.imm, .int m) ∧ pr2 f .imm (.int i) .imm (.int j) = some (.imm, .int m) := by
  rcases hf with rfl | rfl <;> cases d <;> simp [pr2, rN] at h ⊢ <;> exact h.symm
theorem aug_red {K : PySem.W.Frag} {σ : L2.St} {H : Hp} (hf : f = .addI ∨ f = .subI) (h : tS K xc T W A (.augS r f ci ce) D σ H) : tAugS (tVar r) (tI K xc T W ci) (tI K xc T W ce) (rIxL K) (rIp f) rPut D σ H := by
  obtain ⟨L, env, fps, R, P⟩ := h
  simp only [exec] at P
  split at P
  · exact P.elim
  rename_i hc
  simp only [Bool.or_eq_true, decide_eq_true_eq, Bool.not_eq_true', not_or, Bool.not_eq_false] at hc
  obtain ⟨hrL, hok⟩ := hc
  obtain ⟨s0, es0, os0, _, _⟩ := okP_at hok
  obtain ⟨v0, hσ, d0, k0⟩ := R.val r s0 es0
  have sub : ∀ i ∈ L, i ∈ r :: L := fun i h => List.mem_cons_of_mem _ h
  refine ⟨v0, hσ, rs_bind sub R P fun kx env1 kv H1 fps1 fk S1 R1 V1 B1 P1 => ?_⟩
  have S1' := S1.mono sub
  simp only at P1
  cases en : getN r kx.d env1 with
  | none => rw [en] at P1; exact P1.elim
  | some old =>
    rw [en] at P1
    simp only at P1
    -- the slot stands as it stood
    have nu : ¬ Unl (r :: L) env r := fun u => u.1 List.mem_cons_self
    obtain ⟨es1, fs1⟩ := S1.oth r nu
    obtain ⟨w0, g1, g2, g3⟩ := R1.val r s0 (es1.trans es0)
    rw [hσ] at g1; cases g1
    have hn : ∃ ds j, s0.d = .list ds ∧ kx.d = .int j ∧ atI ds j = some (.int old) := by
      unfold getN at en
      rw [es1, es0] at en
      simp only at en
      cases h1 : s0.d <;> rw [h1] at en <;> try cases en
      cases h2 : kx.d <;> rw [h2] at en <;> try cases en
      rename_i ds j
      simp only at en
      split at en
      · rename_i m hm
        cases en
        exact ⟨ds, j, rfl, rfl, hm⟩
      · cases en
    obtain ⟨ds, j, hd, hj, hat⟩ := hn
    have hkd : Den K H1 kv kx.d [] := by
      have d := V1.den R1
      have z := d.imm (by rw [hj]; rfl)
      rw [← z]; exact d
    rw [hd] at g2
    have hk2 := hkd
    rw [hj] at hk2
    cases hk2
    generalize hff : fps1 r = ff at g2
    cases g2 with
    | lst a1 a2 =>
      obtain ⟨u0, fq, b1, b2, b3, b4⟩ := atI_den a2 hat
      cases b2
      refine ⟨_, _, j, _, rfl, rfl, SqL.of a1, b1, ?_⟩
      refine rs_bindT sub S1' R1 P1 fun y env2 v H2 fps2 fp S2 R2 V2 B2 P2 => ?_
      have S2' := S2.mono sub
      have S12 := S1'.trans R S2'
      simp only at P2
      cases ep : pr2 f .imm (.int old) y.k y.d with
      | none => rw [ep] at P2; exact P2.elim
      | some z =>
        obtain ⟨m, n, e1, rfl, e3⟩ := pr2_ints hf ep
        rw [ep] at P2
        simp only at P2
        have D2 := V2.den R2
        rw [e1] at D2
        cases D2
        refine ⟨old, m, n, rfl, rfl, e3, ?_⟩
        cases ec : changed L r env2 true (atPath [] (putD kx.d (.int n))) with
        | none => simp only [ec] at P2; exact P2.elim
        | some zz =>
          obtain ⟨val, env4⟩ := zz
          simp only [ec] at P2
          have hkd2 : Den K H2 (.int j) kx.d [] := by rw [hj]; exact .int j
          obtain ⟨w, H', yv, fps', fy, c1, c2, c3, c4, c5, c6⟩ := changed_ok (kvs := []) (ks := []) R S12 R2 hσ trivial (put_eff (u := .int n) (vd := .int n) (fu := []) hkd2 (.int n) List.nodup_nil fun _ => rfl) (fun a ha => nomatch ha) ec
          have hw : w = _ := c1
          subst hw
          exact c2 _ (P2 σ H' fps' c3.toS c4 Agree.refl)
theorem ss_augS (hf : f = .addI ∧ op = .Add ∨ f = .subI ∧ op = .Sub) (hu : X.A.units + 1 < cLine) (hN : X.N[r]? = some x) (hv : Vis X.env.scope x) (hi : Sd X xc T W i ci) (he : Sd X xc T W e ce)
    (hd : (x == ("__debug__" : Str)) = false := by decide) (hcd : (x == ("__classdict__" : Str)) = false := by decide)
    (ha : ∀ ov iv new, augStore i ov iv new = (do holding [new, ov, iv] (setItem ov iv new); release [new, ov, iv] []; pure .next) := by intros; rfl) : PS X (.AugAssign (.Subscript (.Name x p) i tpos) op e pos) (tS X.K xc T W A (.augS r f ci ce)) := by
  rcases hf with ⟨rfl, rfl⟩ | ⟨rfl, rfl⟩
  · exact PS.weak (ps_augS (pe_var hN hv hd hcd) hi.pe get_list he.pe ip_a (set_put hu) ha) fun D σ H h => aug_red (.inl rfl) h
  · exact PS.weak (ps_augS (pe_var hN hv hd hcd) hi.pe get_list he.pe ip_s (set_put hu) ha) fun D σ H h => aug_red (.inr rfl) h
theorem var_red {K : PySem.W.Frag} {σ : L2.St} {H : Hp} {Q : VK} (h : tI K xc T W (.var r) σ H Q) : ∃ v, σ[r]? = some (some v) ∧ Q v H := by
  obtain ⟨L, env, fps, R, P⟩ := h
  simp only [ev, load] at P
  cases e : env[r]? with
  | none => rw [e] at P; exact P.elim
  | some o =>
    cases o with
    | none => rw [e] at P; exact P.elim
    | some s =>
      rw [e] at P
      obtain ⟨v, h1, h2, h3⟩ := R.val r s e
      refine ⟨v, h1, ?_⟩
      simp only at P
      split at P
      · rename_i hk
        have hi : imm s.d = true := h3.imm' hk
        have z := h2.imm hi
        exact P v H fps [] Step.refl R ⟨hi, by rw [← z]; exact h2, List.nodup_nil, fun a ha => nomatch ha⟩ fun a ha => nomatch ha
      · split at P
        · rename_i ho
          exact P v H fps (fps r) Step.refl R ⟨h3, h1, by rw [e, ← ho], rfl⟩ trivial
        · rename_i ho
          exact P v H fps (fps r) Step.refl R ⟨h3, h2, fun a ha j t et ot q => by
            by_cases hj : j = r
            · subst hj; rw [e] at et; cases et; exact ho ot
            · exact R.dj j r t s hj et ot e a q ha⟩ fun a ha => .inl ⟨r, s, e, ha⟩
theorem ss_aug (hf : f = .addI ∧ op = .Add ∨ f = .subI ∧ op = .Sub) (hc : X.calm = true) (hN : X.N.Nodup) (hi : X.N[r]? = some x) (hA : r ∈ A) (he : Sd X xc T W e ce) (hx : Loc X.env.scope x := by first | exact Or.inl rfl | exact Or.inr rfl)
    (hfn : X.fn x = true ∨ X.env.scope.names.lookup x = some .local := by first | exact Or.inl rfl | exact Or.inr rfl) : PS X (.AugAssign (.Name x pos') op e pos) (tS X.K xc T W A (.asg (.nm r) (.p2 f (.var r) ce))) := by
  refine ⟨fun pins s σ H D I h => ?_⟩
  have hl : r < σ.length := by rw [I.len]; exact (List.getElem?_eq_some_iff.mp hi).1
  have main : tAug r (tI X.K xc T W ce) (rIp f) D σ H := by
    have q := asg_red (te := tI X.K xc T W (.p2 f (.var r) ce)) (fun _ _ _ q => q) h
    obtain ⟨v, e1, q⟩ := var_red (p2_red q)
    refine ⟨v, e1, tI.imp q fun w H2 q => ?_⟩
    obtain ⟨k, d, fp, l, e, fq, z, hd, hk, he, hl2, hp, n⟩ := q
    have : ∃ i, d = .int i := by
      rcases hf with ⟨rfl, _⟩ | ⟨rfl, _⟩ <;> cases d <;> first | exact ⟨_, rfl⟩ | simp [pr2] at hp
    obtain ⟨i, rfl⟩ := this
    obtain ⟨j, m, rfl, rfl, e3⟩ := pr2_ints (hf.imp (·.1) (·.1)) hp
    cases hd; cases he
    exact ⟨i, j, m, rfl, rfl, e3, gI_name hA hl (n.at (.int _) rfl)⟩
  rcases hf with ⟨rfl, rfl⟩ | ⟨rfl, rfl⟩
  · exact (ps_aug hN hi hx he.pe ip_a hfn).run pins s σ H D I main
  · exact (ps_aug hN hi hx he.pe ip_s hfn).run pins s σ H D I main
end
end Iv

set_option maxRecDepth 100000
set_option maxHeartbeats 2000000
/-! IvW: zip of two lists, two tuples, a list and a tuple. -/
namespace Iv
open PySem L2 PyProof.Rows
/-- a list or a tuple -/
inductive Sq | l | t
def LI : Sq → Heap → Addr → Addr → Nat → Prop
  | .l, h, it, l, i => h.IsListIter it l i
  | .t, h, it, l, i => h.IsTupleIter it l i
def LS : Sq → Heap → Addr → Array Value → Prop
  | .l, h, l, xs => h.IsList l xs
  | .t, h, l, xs => h.IsTuple l xs
def SqA : Sq → PySem.W.Frag → Hp → Addr → List V → Prop
  | .l, K, H, a, xs => SqL K H a xs
  | .t, K, H, a, xs => SqT K H a xs
theorem LI.extBut {q : Sq} {h h' : Heap} {c it l : Addr} {i : Nat} (x : LI q h it l i) (e : Heap.ExtBut c h h') (n : it ≠ c) : LI q h' it l i := by
  cases q
  · exact Heap.IsListIter.extBut x e n
  · exact Heap.IsTupleIter.extBut x e n
theorem LS.extBut {q : Sq} {h h' : Heap} {c l : Addr} {xs : Array Value} (x : LS q h l xs) (e : Heap.ExtBut c h h') (n : l ≠ c) : LS q h' l xs := by
  cases q
  · exact Heap.IsList.extBut x e n
  · exact Heap.IsTuple.extBut x e n
theorem LI.at {q : Sq} {h h' : Heap} {it l : Addr} {i : Nat} (x : LI q h it l i) (e : ∀ o, h.get? it = some o → h'.get? it = some o) : LI q h' it l i := by
  cases q <;> exact (let ⟨o, ho, r⟩ := x; ⟨o, e _ ho, r⟩)
theorem LI.lt {q : Sq} {h : Heap} {it l : Addr} {i : Nat} (x : LI q h it l i) : it < h.objs.size := by
  cases q <;> (obtain ⟨_, e, _⟩ := x; exact Heap.lt_size e)
theorem LI.nc {q : Sq} {h : Heap} {it l : Addr} {i : Nat} (x : LI q h it l i) : ∃ o, h.get? it = some o ∧ ∀ v, o.data ≠ .cell v := by
  cases q <;> (obtain ⟨o, e, _, d⟩ := x; exact ⟨o, e, fun v z => by rw [d] at z; cases z⟩)
theorem sq_list {q : Sq} {X : Cx} {pins : List (Addr × Obj)} {σ : L2.St} {H : Hp} {s : Shared} {a : Addr} {xs : List V} (I : Inv X pins σ H s) (h : SqA q X.K H a xs) : ∃ its : List Value, Vals xs its ∧ LS q s.heap a its.toArray ∧ xs.length ≤ sizeLine := by
  cases q
  · obtain ⟨its, r, p, z⟩ := I.list h; exact ⟨its, r, p.isList, z⟩
  · obtain ⟨its, r, p, z⟩ := I.tuple h; exact ⟨its, r, p, z⟩
theorem sq_inj {q : Sq} {X : Cx} {pins : List (Addr × Obj)} {σ : L2.St} {H : Hp} {s : Shared} {a : Addr} {xs ys : List V} (I : Inv X pins σ H s) (h : SqA q X.K H a xs) (h' : SqA q X.K H a ys) : xs = ys := by
  cases q
  · exact I.list_inj h h'
  · exact I.tuple_inj h h'
section
variable {prog : Program} {w : World} {A : Around} {E : Value → Shared → Prop} {s : Shared} {q q1 q2 : Sq}
theorem nx_item {it l : Addr} {i : Nat} {items : Array Value} {x : Value} {Q : Value → Shared → Prop} (hit : LI q s.heap it l i) (hl : LS q s.heap l items) (hx : items[i]? = some x)
    (hQ : ∀ h', LI q h' it l (i + 1) → Heap.SameBut it s.heap h' → Q x { s with heap := h' }) : wpAny (model prog w) A (Builtin.SmallTypes.nextOf (.ref it)) Q E s := by
  cases q
  · exact wpAny_nextOf_list_item hit hl hx hQ
  · exact RZ.nextOf_tuple_item hit hl hx hQ
theorem nx_end {it l : Addr} {i : Nat} {items : Array Value} {Q : Value → Shared → Prop} (hh : A.handled = none) (hit : LI q s.heap it l i) (hl : LS q s.heap l items) (hx : items[i]? = none)
    (hE : ∀ h' e, Heap.ExtBut it s.heap h' → (∃ o, h'.get? e = some o ∧ o.cls = .type "StopIteration") → E (.ref e) { s with heap := h' }) : wpAny (model prog w) A (Builtin.SmallTypes.nextOf (.ref it)) Q E s := by
  cases q
  · exact wpAny_nextOf_list_end hh hit hl hx hE
  · exact RZ.nextOf_tuple_end hh hit hl hx hE
theorem zipM_next_item {z TI TO i1 i2 l1 l2 : Addr} {k1 k2 : Nat} {xs ys : Array Value} {x y a b : Value} {Q : Value → Shared → Prop} (D : ZipApart z TI TO i1 i2 l1 l2)
    (hz : IsZip s.heap z TI TO .none) (hTI : IsPair s.heap TI (.ref i1) (.ref i2)) (hTO : IsPair s.heap TO a b)
    (h1 : LI q1 s.heap i1 l1 k1) (h2 : LI q2 s.heap i2 l2 k2) (hl1 : LS q1 s.heap l1 xs) (hl2 : LS q2 s.heap l2 ys) (hx : xs[k1]? = some x) (hy : ys[k2]? = some y)
    (hQ : ∀ h', IsZip h' z TI TO (rawInt s.heap.objs.size) → IsPair h' TO x y → LI q1 h' i1 l1 (k1 + 1) → LI q2 h' i2 l2 (k2 + 1) → IsPair h' s.heap.objs.size x y → h'.objs.size = s.heap.objs.size + 1 →
      (∀ c o, c ≠ z → c ≠ TO → c ≠ i1 → c ≠ i2 → s.heap.get? c = some o → h'.get? c = some o) → Q (.ref s.heap.objs.size) { s with heap := h' }) :
    wpAny (model prog w) A (Builtin.«zip.__next__» ⟨[.ref z], []⟩) (fun fin s' => ∃ v, fin = .done (.ret v) ∧ Q v s') E s := by
  show wpAny _ _ (field (.ref z) 2 >>= _) _ _ _
  refine wpAny_bind (wpAny_field hz rfl (x := .bool false) rfl ?_)
  show wpAny _ _ (field (.ref z) 3 >>= _) _ _ _
  refine wpAny_bind (wpAny_field hz rfl (x := .ref TI) rfl ?_)
  refine wpAny_bind (wpAny_seqItems hTI rfl ?_)
  show wpAny _ _ (Builtin.SmallTypes.ownedTupleIsFree (.ref z) >>= _) _ _ _
  refine wpAny_bind ?_
  unfold Builtin.SmallTypes.ownedTupleIsFree
  refine wpAny_bind (wpAny_field hz rfl (x := .none) rfl (wpAny_pure ?_))
  simp only [if_true]
  refine wpAny_bind (wpAny_rule ?_)
  refine wpAny_bind (wpAny_field hz rfl (x := .ref TO) rfl ?_)
  refine wpAny_bind (wpAny_setField_rec hz (by simp) fun h₁ hz₁ hs₁ => ?_)
  replace hz₁ : IsZip h₁ z TI TO .ellipsis := hz₁
  refine wpAny_bind ?_
  simp only [List.zipIdx_cons, List.zipIdx_nil, List.forIn_cons, List.forIn_nil]

  refine wpAny_bind (wpAny_bind (wpAny_onRaise ?_))
  show wpAny _ _ (Builtin.SmallTypes.nextOf (.ref i1) >>= _) _ _ _
  refine wpAny_bind (nx_item (h1.extBut hs₁.extBut D.i1z) (hl1.extBut hs₁.extBut D.l1z) hx fun h₂ h1₂ hs₂ => wpAny_pure ?_)
  have hTO₂ : IsPair h₂ TO a b := hs₂.extBut _ _ D.TOi1 (hs₁.extBut _ _ D.TOz hTO)
  refine wpAny_bind (wpAny_seqItems hTO₂ rfl ?_)
  refine wpAny_bind (wpAny_updateSeq_pair hTO₂ fun h₃ hTO₃ hs₃ => ?_)
  replace hTO₃ : IsPair h₃ TO x b := hTO₃
  refine wpAny_bind (wpAny_letGo (wpAny_pure ?_))

  refine wpAny_bind (wpAny_bind (wpAny_onRaise ?_))
  show wpAny _ _ (Builtin.SmallTypes.nextOf (.ref i2) >>= _) _ _ _
  refine wpAny_bind (nx_item (((h2.extBut hs₁.extBut D.i2z).extBut hs₂.extBut D.i12.symm).extBut hs₃.extBut D.TOi2.symm)
    (((hl2.extBut hs₁.extBut D.l2z).extBut hs₂.extBut D.l2i1).extBut hs₃.extBut D.l2TO) hy fun h₄ h2₄ hs₄ => wpAny_pure ?_)
  have hTO₄ : IsPair h₄ TO x b := hs₄.extBut _ _ D.TOi2 hTO₃
  refine wpAny_bind (wpAny_seqItems hTO₄ rfl ?_)
  refine wpAny_bind (wpAny_updateSeq_pair hTO₄ fun h₅ hTO₅ hs₅ => ?_)
  replace hTO₅ : IsPair h₅ TO x y := hTO₅
  refine wpAny_bind (wpAny_letGo (wpAny_pure (wpAny_pure ?_)))

  refine wpAny_bind (wpAny_seqItems hTO₅ rfl ?_)
  refine wpAny_bind (wpAny_newTuple ?_)
  have hsz : h₅.objs.size = s.heap.objs.size := by rw [hs₅.1, hs₄.1, hs₃.1, hs₂.1, hs₁.1]
  have hz₅ : IsZip h₅ z TI TO .ellipsis := hs₅.extBut _ _ D.TOz.symm (hs₄.extBut _ _ D.i2z.symm (hs₃.extBut _ _ D.TOz.symm (hs₂.extBut _ _ D.i1z.symm hz₁)))
  have hk₅ : ∀ c o, c ≠ z → c ≠ TO → c ≠ i1 → c ≠ i2 → s.heap.get? c = some o → h₅.get? c = some o := fun c o c1 c2 c3 c4 e =>
    hs₅.extBut _ _ c2 (hs₄.extBut _ _ c4 (hs₃.extBut _ _ c2 (hs₂.extBut _ _ c3 (hs₁.extBut _ _ c1 e))))
  have h1₅ : LI q1 h₅ i1 l1 (k1 + 1) := ((h1₂.extBut hs₃.extBut D.TOi1.symm).extBut hs₄.extBut D.i12).extBut hs₅.extBut D.TOi1.symm
  have h2₅ : LI q2 h₅ i2 l2 (k2 + 1) := h2₄.extBut hs₅.extBut D.TOi2.symm
  have hzlt : z < h₅.objs.size := Heap.lt_size hz₅
  have hTOlt : TO < h₅.objs.size := Heap.lt_size hTO₅
  have hi1lt : i1 < h₅.objs.size := h1₅.lt
  have hi2lt : i2 < h₅.objs.size := h2₅.lt
  show wpAny _ _ (Builtin.SmallTypes.ownedTupleHandOut (.ref z) (.ref h₅.objs.size) >>= _) _ _ _
  refine wpAny_bind ?_
  unfold Builtin.SmallTypes.ownedTupleHandOut
  have hz₆ : IsZip (h₅.push { cls := .type "tuple", data := .seq #[x, y] }) z TI TO .ellipsis := Heap.get?_push_of_some _ hz₅
  refine wpAny_bind (wpAny_setField_rec hz₆ (by simp) fun h₇ hz₇ hs₇ => ?_)
  replace hz₇ : IsZip h₇ z TI TO (rawInt h₅.objs.size) := hz₇
  refine wpAny_setField_rec hz₇ (by simp) fun h₈ hz₈ hs₈ => ?_
  replace hz₈ : IsZip h₈ z TI TO (rawInt h₅.objs.size) := hz₈
  have up : ∀ c o, c ≠ z → h₅.get? c = some o → h₈.get? c = some o := fun c o c1 e => hs₈.extBut _ _ c1 (hs₇.extBut _ _ c1 (Heap.get?_push_of_some _ e))
  have hT₈ : IsPair h₈ h₅.objs.size x y := hs₈.extBut _ _ (Nat.ne_of_gt hzlt) (hs₇.extBut _ _ (Nat.ne_of_gt hzlt) (Heap.get?_push_size _ rfl))
  have hz8 : h₈.objs.size = h₅.objs.size + 1 := by rw [hs₈.1, hs₇.1, Heap.size_push]
  rw [hsz] at hz₈ hT₈ hz8
  refine wpAny_pure ⟨_, rfl, ?_⟩
  show Q (.ref h₅.objs.size) _
  rw [hsz]
  exact hQ h₈ hz₈ (up _ _ D.TOz hTO₅) (h1₅.at fun o e => up _ o D.i1z e) (h2₅.at fun o e => up _ o D.i2z e) hT₈ hz8 fun c o c1 c2 c3 c4 e => up c o c1 (hk₅ c o c1 c2 c3 c4 e)

theorem zipM_next_end {z TI TO i1 i2 l1 l2 : Addr} {k1 k2 : Nat} {xs ys : Array Value} {a b : Value} {Q : Fin → Shared → Prop} (hh : A.handled = none) (D : ZipApart z TI TO i1 i2 l1 l2)
    (hz : IsZip s.heap z TI TO .none) (hTI : IsPair s.heap TI (.ref i1) (.ref i2)) (hTO : IsPair s.heap TO a b)
    (h1 : LI q1 s.heap i1 l1 k1) (h2 : LI q2 s.heap i2 l2 k2) (hl1 : LS q1 s.heap l1 xs) (hl2 : LS q2 s.heap l2 ys) (hend : xs[k1]? = none ∨ ys[k2]? = none)
    (hE : ∀ h' e, (∀ c o, c ≠ z → c ≠ TO → c ≠ i1 → c ≠ i2 → s.heap.get? c = some o → h'.get? c = some o) → (∃ o, h'.get? e = some o ∧ o.cls = .type "StopIteration") → E (.ref e) { s with heap := h' }) :
    wpAny (model prog w) A (Builtin.«zip.__next__» ⟨[.ref z], []⟩) Q E s := by
  show wpAny _ _ (field (.ref z) 2 >>= _) _ _ _
  refine wpAny_bind (wpAny_field hz rfl (x := .bool false) rfl ?_)
  show wpAny _ _ (field (.ref z) 3 >>= _) _ _ _
  refine wpAny_bind (wpAny_field hz rfl (x := .ref TI) rfl ?_)
  refine wpAny_bind (wpAny_seqItems hTI rfl ?_)
  show wpAny _ _ (Builtin.SmallTypes.ownedTupleIsFree (.ref z) >>= _) _ _ _
  refine wpAny_bind ?_
  unfold Builtin.SmallTypes.ownedTupleIsFree
  refine wpAny_bind (wpAny_field hz rfl (x := .none) rfl (wpAny_pure ?_))
  simp only [if_true]
  refine wpAny_bind (wpAny_rule ?_)
  refine wpAny_bind (wpAny_field hz rfl (x := .ref TO) rfl ?_)
  refine wpAny_bind (wpAny_setField_rec hz (by simp) fun h₁ hz₁ hs₁ => ?_)
  replace hz₁ : IsZip h₁ z TI TO .ellipsis := hz₁
  refine wpAny_bind ?_
  simp only [List.zipIdx_cons, List.zipIdx_nil, List.forIn_cons, List.forIn_nil]
  refine wpAny_bind (wpAny_bind (wpAny_onRaise ?_))
  show wpAny _ _ (Builtin.SmallTypes.nextOf (.ref i1) >>= _) _ _ _
  cases hx : xs[k1]? with
  | none =>
    refine wpAny_bind (nx_end hh (h1.extBut hs₁.extBut D.i1z) (hl1.extBut hs₁.extBut D.l1z) hx fun h₂ e hs₂ he => ?_)
    obtain ⟨oe, hoe, hce⟩ := he
    have hz₂ : IsZip h₂ z TI TO .ellipsis := hs₂ _ _ D.i1z.symm hz₁
    have hez : e ≠ z := fun x => by subst x; rw [hz₂] at hoe; cases hoe; simp at hce
    refine wpAny_setField_rec hz₂ (by simp) fun h₃ _ hs₃ => hE h₃ e (fun c o c1 _ c3 _ x => hs₃.extBut _ _ c1 (hs₂ _ _ c3 (hs₁.extBut _ _ c1 x))) ⟨oe, hs₃.extBut _ _ hez hoe, hce⟩
  | some x =>
    have hy : ys[k2]? = none := by rcases hend with h | h; rw [hx] at h; cases h; exact h
    refine wpAny_bind (nx_item (h1.extBut hs₁.extBut D.i1z) (hl1.extBut hs₁.extBut D.l1z) hx fun h₂ h1₂ hs₂ => wpAny_pure ?_)
    have hTO₂ : IsPair h₂ TO a b := hs₂.extBut _ _ D.TOi1 (hs₁.extBut _ _ D.TOz hTO)
    refine wpAny_bind (wpAny_seqItems hTO₂ rfl ?_)
    refine wpAny_bind (wpAny_updateSeq_pair hTO₂ fun h₃ hTO₃ hs₃ => ?_)
    refine wpAny_bind (wpAny_letGo (wpAny_pure ?_))
    refine wpAny_bind (wpAny_bind (wpAny_onRaise ?_))
    show wpAny _ _ (Builtin.SmallTypes.nextOf (.ref i2) >>= _) _ _ _
    refine wpAny_bind (nx_end hh (((h2.extBut hs₁.extBut D.i2z).extBut hs₂.extBut D.i12.symm).extBut hs₃.extBut D.TOi2.symm)
      (((hl2.extBut hs₁.extBut D.l2z).extBut hs₂.extBut D.l2i1).extBut hs₃.extBut D.l2TO) hy fun h₄ e hs₄ he => ?_)
    obtain ⟨oe, hoe, hce⟩ := he
    have hz₄ : IsZip h₄ z TI TO .ellipsis := hs₄ _ _ D.i2z.symm (hs₃.extBut _ _ D.TOz.symm (hs₂.extBut _ _ D.i1z.symm hz₁))
    have hez : e ≠ z := fun x => by subst x; rw [hz₄] at hoe; cases hoe; simp at hce
    refine wpAny_setField_rec hz₄ (by simp) fun h₅ _ hs₅ => hE h₅ e (fun c o c1 c2 c3 c4 x => hs₅.extBut _ _ c1 (hs₄ _ _ c4 (hs₃.extBut _ _ c2 (hs₂.extBut _ _ c3 (hs₁.extBut _ _ c1 x))))) ⟨oe, hs₅.extBut _ _ hez hoe, hce⟩

theorem pyNext_zipM_item {z TI TO i1 i2 l1 l2 : Addr} {k1 k2 : Nat} {xs ys : Array Value} {x y a b : Value} {Q : Option Value → Shared → Prop} (D : ZipApart z TI TO i1 i2 l1 l2)
    (hz : IsZip s.heap z TI TO .none) (hTI : IsPair s.heap TI (.ref i1) (.ref i2)) (hTO : IsPair s.heap TO a b)
    (h1 : LI q1 s.heap i1 l1 k1) (h2 : LI q2 s.heap i2 l2 k2) (hl1 : LS q1 s.heap l1 xs) (hl2 : LS q2 s.heap l2 ys) (hx : xs[k1]? = some x) (hy : ys[k2]? = some y)
    (hQ : ∀ h', IsZip h' z TI TO (rawInt s.heap.objs.size) → IsPair h' TO x y → LI q1 h' i1 l1 (k1 + 1) → LI q2 h' i2 l2 (k2 + 1) → IsPair h' s.heap.objs.size x y → h'.objs.size = s.heap.objs.size + 1 →
      (∀ c o, c ≠ z → c ≠ TO → c ≠ i1 → c ≠ i2 → s.heap.get? c = some o → h'.get? c = some o) → Q (some (.ref s.heap.objs.size)) { s with heap := h' }) :
    wpAny (model prog w) A (pyNext (.ref z)) Q E s := by
  have hT : s.TypeIs (.ref z) "zip" := ⟨_, hz, rfl⟩
  unfold pyNext
  exact wpAny_bind (wpAny_attempt (wpAny_callSpecial?_slot (name := Str.ofString "__next__") hT F.slot_zip_next
    (wpAny_call_entry F.slot_zip_next hT F.entry_zip_next
      (zipM_next_item D hz hTI hTO h1 h2 hl1 hl2 hx hy fun h' a1 a2 a3 a4 a5 a6 a7 => wpAny_pure (hQ h' a1 a2 a3 a4 a5 a6 a7)) (F.args_zip_next_1 _))))

theorem pyNext_zipM_end {z TI TO i1 i2 l1 l2 : Addr} {k1 k2 : Nat} {xs ys : Array Value} {a b : Value} {Q : Option Value → Shared → Prop} (hh : A.handled = none) (D : ZipApart z TI TO i1 i2 l1 l2)
    (hz : IsZip s.heap z TI TO .none) (hTI : IsPair s.heap TI (.ref i1) (.ref i2)) (hTO : IsPair s.heap TO a b)
    (h1 : LI q1 s.heap i1 l1 k1) (h2 : LI q2 s.heap i2 l2 k2) (hl1 : LS q1 s.heap l1 xs) (hl2 : LS q2 s.heap l2 ys) (hend : xs[k1]? = none ∨ ys[k2]? = none)
    (hQ : ∀ h', (∀ c o, c ≠ z → c ≠ TO → c ≠ i1 → c ≠ i2 → s.heap.get? c = some o → h'.get? c = some o) → Q none { s with heap := h' }) : wpAny (model prog w) A (pyNext (.ref z)) Q E s := by
  have hT : s.TypeIs (.ref z) "zip" := ⟨_, hz, rfl⟩
  unfold pyNext
  refine wpAny_bind (wpAny_attempt (wpAny_callSpecial?_slot (name := Str.ofString "__next__") hT F.slot_zip_next
    (wpAny_call_entry F.slot_zip_next hT F.entry_zip_next (zipM_next_end hh D hz hTI hTO h1 h2 hl1 hl2 hend fun h' e hk he => ?_) (F.args_zip_next_1 _))))
  obtain ⟨o, ho, hc⟩ := he
  refine wpAny_bind (wpAny_isInstance (T := "StopIteration") (b := true) ⟨o, ho, hc⟩ isSubtype_stop ?_)
  exact wpAny_pure (hQ _ hk)
end
/-- what is zipped, as it stands at each turn, the items in new pairs -/
def ItzM (q1 q2 : Sq) (K : PySem.W.Frag) (a b : Addr) : It :=
  ⟨fun i H => ∃ (xs ys : List V) (x y : V), SqA q1 K H a xs ∧ SqA q2 K H b ys ∧ xs[i]? = some x ∧ ys[i]? = some y,
    fun i H v H' => ∃ T x y, v = .ref T ∧ H T = none ∧ H' = upd H T (.tup [x, y]) ∧ (∀ xs, SqA q1 K H a xs → xs[i]? = some x) ∧ ∀ ys, SqA q2 K H b ys → ys[i]? = some y,
    fun i H => ∃ xs ys : List V, SqA q1 K H a xs ∧ SqA q2 K H b ys ∧ (xs.length ≤ i ∨ ys.length ≤ i)⟩
section
variable {q1 q2 : Sq}
theorem turn_zipM {P : Program} {w : World} {K : PySem.W.Frag} {elts : List Expr} {kk : Nat} {tpos : Pos} {a b z TI TO i1 i2 : Addr} (D : ZipApart z TI TO i1 i2 a b) :
    Turn P w K (.Tuple elts kk tpos) (ItzM q1 q2 K a b) [z, TI, TO, i1, i2] z (fun i h => IsZip h z TI TO .none ∧ IsPair h TI (.ref i1) (.ref i2) ∧ (∃ x y, IsPair h TO x y) ∧ LI q1 h i1 a i ∧ LI q2 h i2 b i) where
  mem := by simp
  obj := fun i h st c hc => by
    obtain ⟨hz, hTI, ⟨x, y, hTO⟩, h1, h2⟩ := st
    obtain ⟨o1, e1, d1⟩ := h1.nc
    obtain ⟨o2, e2, d2⟩ := h2.nc
    have e' : c = z ∨ c = TI ∨ c = TO ∨ c = i1 ∨ c = i2 := by simpa using hc
    rcases e' with q | q | q | q | q
    · rw [q]; exact ⟨_, hz, fun v q => nomatch q⟩
    · rw [q]; exact ⟨_, hTI, fun v q => nomatch q⟩
    · rw [q]; exact ⟨_, hTO, fun v q => nomatch q⟩
    · rw [q]; exact ⟨o1, e1, d1⟩
    · rw [q]; exact ⟨o2, e2, d2⟩
  keep := fun i h h' st k => by
    obtain ⟨hz, hTI, ⟨x, y, hTO⟩, h1, h2⟩ := st
    exact ⟨k z (by simp) _ hz, k TI (by simp) _ hTI, ⟨x, y, k TO (by simp) _ hTO⟩, h1.at fun o q => k i1 (by simp) o q, h2.at fun o q => k i2 (by simp) o q⟩
  item := by
    intro X hP hw hK hc i pins s σ H E I hf st hg
    subst hP hw hK
    obtain ⟨hz, hTI, ⟨x0, y0, hTO⟩, h1, h2⟩ := st
    obtain ⟨xs, ys, x, y, hqx, hqy, hx, hy⟩ := hg
    obtain ⟨its, rv, p, _⟩ := sq_list I hqx
    obtain ⟨its2, rv2, p2, _⟩ := sq_list I hqy
    obtain ⟨u, hu, ru⟩ := rv.get hx
    obtain ⟨u2, hu2, ru2⟩ := rv2.get hy
    have hzl : z < s.heap.objs.size := Heap.lt_size hz
    refine pyNext_zipM_item D hz hTI hTO h1 h2 p p2 (x := u) (y := u2) (by simpa using hu) (by simpa using hu2) fun h' z' TO' h1' h2' hT hsz hk => ?_
    refine ⟨_, rfl, wpAny_letOwnedTupleGo_zip (s := { s with heap := h' }) z' fun h'' z'' sb => ?_⟩
    have hT2 : h''.get? s.heap.objs.size = some { cls := .type "tuple", data := .seq #[u, u2] } := (sb.2 _ (Nat.ne_of_gt hzl)).trans hT
    have new : ObjOk X.prog X.w (upd H s.heap.objs.size (.tup [x, y])) h'' s.heap.objs.size (.tup [x, y]) :=
      ⟨by show 2 ≤ sizeLine; decide, [u, u2], .cons ru (.cons ru2 .nil), ⟨_, hT2, rfl, _, rfl⟩⟩
    have I1 : Inv X pins σ (upd H s.heap.objs.size (.tup [x, y])) { s with heap := h'' } :=
      I.turnedNew (t' := s.toks) (ch := [z, TI, TO, i1, i2]) (fun c o hb q => (sb.2 c (fun q' => hb (by simp [q']))).trans (hk c o (fun q' => hb (by simp [q'])) (fun q' => hb (by simp [q'])) (fun q' => hb (by simp [q'])) (fun q' => hb (by simp [q'])) q)) hf (Nat.le_refl _) new
    refine ⟨.ref s.heap.objs.size, _, I1, rfl, ⟨_, x, y, rfl, I.hok.fresh (Nat.le_refl _), rfl, fun l hl => by rw [sq_inj I hl hqx]; exact hx, fun l hl => by rw [sq_inj I hl hqy]; exact hy⟩, ⟨z'', ?_, ⟨u, u2, ?_⟩, ?_, ?_⟩, fun c hcm => ?_⟩
    · exact (sb.2 _ D.TIz).trans (hk _ _ D.TIz D.TITO D.TIi1 D.TIi2 hTI)
    · exact (sb.2 _ D.TOz).trans TO'
    · exact h1'.at fun o q => (sb.2 _ D.i1z).trans q
    · exact h2'.at fun o q => (sb.2 _ D.i2z).trans q
    · have hlt : c < s.heap.objs.size := by
        have e' : c = z ∨ c = TI ∨ c = TO ∨ c = i1 ∨ c = i2 := by simpa using hcm
        rcases e' with q | q | q | q | q
        · rw [q]; exact hzl
        · rw [q]; exact Heap.lt_size hTI
        · rw [q]; exact Heap.lt_size hTO
        · rw [q]; exact h1.lt
        · rw [q]; exact h2.lt
      rw [upd_ne (Nat.ne_of_lt hlt)]
      exact (hf c hcm).1
  done := by
    intro X hP hw hK hc i pins s σ H E I hf st hg
    subst hP hw hK
    obtain ⟨hz, hTI, ⟨x0, y0, hTO⟩, h1, h2⟩ := st
    obtain ⟨xs, ys, hqx, hqy, hend⟩ := hg
    obtain ⟨its, rv, p, _⟩ := sq_list I hqx
    obtain ⟨its2, rv2, p2, _⟩ := sq_list I hqy
    have l1 := rv.length
    have l2 := rv2.length
    have he : its.toArray[i]? = none ∨ its2.toArray[i]? = none := by
      rcases hend with q | q
      · exact .inl (by simp; omega)
      · exact .inr (by simp; omega)
    exact pyNext_zipM_end (I.ok.hd hc) D hz hTI hTO h1 h2 p p2 he fun h' hk => ⟨rfl, I.turnedL (t' := s.toks) (ch := [z, TI, TO, i1, i2]) (fun c o hb q =>
      hk c o (fun q' => hb (by simp [q'])) (fun q' => hb (by simp [q'])) (fun q' => hb (by simp [q'])) (fun q' => hb (by simp [q'])) q) hf⟩
  self := fun A i s Q E st h => wpAny_pyIter_zip st.1 h

end
def itT : Sq → String
  | .l => "list_iterator"
  | .t => "tuple_iterator"
theorem li_new {q : Sq} {h : Heap} {it l : Addr} (e : h.get? it = some { cls := .type (itT q), data := .fields #[.ref l, .int 0 0] }) : LI q h it l 0 := by
  cases q <;> exact ⟨_, e, rfl, rfl⟩
abbrev zipMH1 (q1 : Sq) (h : Heap) (l1 : Addr) : Heap := h.push { cls := .type (itT q1), data := .fields #[.ref l1, .int 0 0] }
abbrev zipMH2 (q1 q2 : Sq) (h : Heap) (l1 l2 : Addr) : Heap := (zipMH1 q1 h l1).push { cls := .type (itT q2), data := .fields #[.ref l2, .int 0 0] }
abbrev zipMH3 (q1 q2 : Sq) (h : Heap) (l1 l2 : Addr) : Heap := (zipMH2 q1 q2 h l1 l2).push { cls := .type "tuple", data := .seq #[.ref h.objs.size, .ref (zipMH1 q1 h l1).objs.size] }
abbrev zipMH4 (q1 q2 : Sq) (h : Heap) (l1 l2 : Addr) : Heap := (zipMH3 q1 q2 h l1 l2).push { cls := .type "tuple", data := .seq #[.none, .none] }
abbrev zipMH5 (q1 q2 : Sq) (h : Heap) (l1 l2 : Addr) : Heap := (zipMH4 q1 q2 h l1 l2).push { cls := .type "zip", data := .fields #[.none, .bool false, .bool false, .ref (zipMH2 q1 q2 h l1 l2).objs.size, .ref (zipMH3 q1 q2 h l1 l2).objs.size] }

theorem meets_zipM_new {q1 q2 : Sq} (l1 l2 : Addr) (xs ys : Array Value) :
    Meets (Builtin.«zip.__new__» ⟨[.type "zip", .ref l1, .ref l2], []⟩) (fun _ R s => LS q1 s.heap l1 xs ∧ LS q2 s.heap l2 ys ∧
      R (.ok (.ret (.ref (zipMH4 q1 q2 s.heap l1 l2).objs.size))) { s with heap := zipMH5 q1 q2 s.heap l1 l2 }) := by
  cases q1 <;> cases q2 <;> exact .of_wp fun prog w A R s h => by
    obtain ⟨hp, g, d, tk, os⟩ := s; obtain ⟨hl1, hl2, h⟩ := h
    have hsub := sub_zip
    first
    | (have hL1 : Heap.IsTuple (Shared.heap ⟨hp, g, d, tk, os⟩) l1 xs := hl1
       have hL2 : Heap.IsTuple (Shared.heap ⟨hp.push { cls := .type "tuple_iterator", data := .fields #[.ref l1, .int 0 0] }, g, d, tk, os⟩) l2 ys := Heap.IsTuple.push hl2 _
       wp_walk using wpAny_pyIter_tuple hL1, wpAny_pyIter_tuple hL2
       exact ⟨_, rfl, h⟩)
    | (have hL1 : Heap.IsTuple (Shared.heap ⟨hp, g, d, tk, os⟩) l1 xs := hl1
       have hL2 : Heap.IsList (Shared.heap ⟨hp.push { cls := .type "tuple_iterator", data := .fields #[.ref l1, .int 0 0] }, g, d, tk, os⟩) l2 ys := Heap.IsList.push hl2 _
       wp_walk using wpAny_pyIter_tuple hL1, wpAny_pyIter_list hL2
       exact ⟨_, rfl, h⟩)
    | (have hL1 : Heap.IsList (Shared.heap ⟨hp, g, d, tk, os⟩) l1 xs := hl1
       have hL2 : Heap.IsTuple (Shared.heap ⟨hp.push { cls := .type "list_iterator", data := .fields #[.ref l1, .int 0 0] }, g, d, tk, os⟩) l2 ys := Heap.IsTuple.push hl2 _
       wp_walk using wpAny_pyIter_list hL1, wpAny_pyIter_tuple hL2
       exact ⟨_, rfl, h⟩)
    | (have hL1 : Heap.IsList (Shared.heap ⟨hp, g, d, tk, os⟩) l1 xs := hl1
       have hL2 : Heap.IsList (Shared.heap ⟨hp.push { cls := .type "list_iterator", data := .fields #[.ref l1, .int 0 0] }, g, d, tk, os⟩) l2 ys := Heap.IsList.push hl2 _
       wp_walk using wpAny_pyIter_list hL1, wpAny_pyIter_list hL2
       exact ⟨_, rfl, h⟩)
section
variable {prog : Program} {w : World} {A : Around} {E : Value → Shared → Prop} {s : Shared} {q1 q2 : Sq}

theorem call_zipM {l1 l2 : Addr} {xs ys : Array Value} {Q : Value → Shared → Prop} (hl1 : LS q1 s.heap l1 xs) (hl2 : LS q2 s.heap l2 ys)
    (h : ∀ h', IsZip h' (s.heap.objs.size + 4) (s.heap.objs.size + 2) (s.heap.objs.size + 3) .none → IsPair h' (s.heap.objs.size + 2) (.ref s.heap.objs.size) (.ref (s.heap.objs.size + 1)) →
      IsPair h' (s.heap.objs.size + 3) .none .none → LI q1 h' s.heap.objs.size l1 0 → LI q2 h' (s.heap.objs.size + 1) l2 0 → h'.objs.size = s.heap.objs.size + 5 →
      (∀ c o, s.heap.get? c = some o → h'.get? c = some o) → Q (.ref (s.heap.objs.size + 4)) { s with heap := h' }) :
    wpAny (model prog w) A (call (.type "zip") [.ref l1, .ref l2]) Q E s := by
  refine callType_new PySem.F.called_zip (by decide) (PySem.F.typeCall_zip_2 _ _) (PySem.F.newCall_zip_2 _ _) (fun obj => PySem.F.args_object_init_3 obj _ _) PySem.F.entry_zip_new
    (meets_zipM_new (q1 := q1) (q2 := q2) l1 l2 xs ys) ⟨hl1, hl2, ?_⟩
  have z1 : (zipMH1 q1 s.heap l1).objs.size = s.heap.objs.size + 1 := Heap.size_push ..
  have z2 : (zipMH2 q1 q2 s.heap l1 l2).objs.size = s.heap.objs.size + 2 := by rw [Heap.size_push, z1]
  have z3 : (zipMH3 q1 q2 s.heap l1 l2).objs.size = s.heap.objs.size + 3 := by rw [Heap.size_push, z2]
  have z4 : (zipMH4 q1 q2 s.heap l1 l2).objs.size = s.heap.objs.size + 4 := by rw [Heap.size_push, z3]
  have z5 : (zipMH5 q1 q2 s.heap l1 l2).objs.size = s.heap.objs.size + 5 := by rw [Heap.size_push, z4]
  have g5 : (zipMH5 q1 q2 s.heap l1 l2).get? (zipMH4 q1 q2 s.heap l1 l2).objs.size = some _ := Heap.get?_push_size _ rfl
  have g4 : (zipMH5 q1 q2 s.heap l1 l2).get? (zipMH3 q1 q2 s.heap l1 l2).objs.size = some _ := Heap.get?_push_of_some _ (Heap.get?_push_size _ rfl)
  have g3 : (zipMH5 q1 q2 s.heap l1 l2).get? (zipMH2 q1 q2 s.heap l1 l2).objs.size = some _ := Heap.get?_push_of_some _ (Heap.get?_push_of_some _ (Heap.get?_push_size _ rfl))
  have g2 : (zipMH5 q1 q2 s.heap l1 l2).get? (zipMH1 q1 s.heap l1).objs.size = some _ := Heap.get?_push_of_some _ (Heap.get?_push_of_some _ (Heap.get?_push_of_some _ (Heap.get?_push_size _ rfl)))
  have g1 : (zipMH5 q1 q2 s.heap l1 l2).get? s.heap.objs.size = some _ := Heap.get?_push_of_some _ (Heap.get?_push_of_some _ (Heap.get?_push_of_some _ (Heap.get?_push_of_some _ (Heap.get?_push_size _ rfl))))
  show _ ∧ _
  rw [z2, z3, z4] at g5
  rw [z1, z2] at g3
  rw [z3] at g4
  rw [z1] at g2
  rw [z4]
  exact ⟨⟨_, g5, rfl⟩, h _ g5 g3 g4 (li_new g1) (li_new g2) z5 fun c o x =>
    Heap.get?_push_of_some _ (Heap.get?_push_of_some _ (Heap.get?_push_of_some _ (Heap.get?_push_of_some _ (Heap.get?_push_of_some _ x))))⟩
section

def iZipM (K : PySem.W.Frag) (ta : TA) : TI := fun σ H R => ta σ H fun vs H1 => ∃ q1 q2 a b xs ys, vs = [.ref a, .ref b] ∧ SqA q1 K H1 a xs ∧ SqA q2 K H1 b ys ∧ R (ItzM q1 q2 K a b) H1
theorem sq_lt {q : Sq} {h : Heap} {a : Addr} {xs : Array Value} (x : LS q h a xs) : a < h.objs.size := by
  cases q <;> (obtain ⟨_, e, _⟩ := x; exact Heap.lt_size e)
theorem pi_zipM {X : Cx} {e e2 : Expr} {ta : TA} {p pos tpos : Pos} {elts : List Expr} {kk : Nat} (hg : Gl X "zip") (hm : X.mg "zip" = none) (ha : PA X [e, e2] ta)
    (hs : starEach [e, e2] X.env = (false, eval e X.env) :: starEach [e2] X.env := by rfl) (hpl : (backTo pos (starEach [e2] X.env)).any (·.1) = false := by rfl) :
    PI X (.Tuple elts kk tpos) (.Call (.Name "zip" p) [e, e2] [] pos) (iZipM X.K ta) := by
  refine ⟨fun pins s σ H R I h => ?_⟩
  refine Call_ (ld_blt I hg hm PyProof.Rows.boot_zip (PyProof.Rows.callWith_type1 (thn (ha.run pos pins s σ H _ I h) fun us s1 ⟨vs, H1, I1, r1, q1⟩ => ?_) hs hpl))
  obtain ⟨qa, qb, a, b, xs, ys, ex, hqx, hqy, q⟩ := q1
  subst ex
  cases r1 with
  | cons r rr =>
    cases rr with
    | cons r' rr =>
      cases rr
      cases r
      cases r'
      have fresh5 : ∀ c, c ∈ [s1.heap.objs.size + 4, s1.heap.objs.size + 2, s1.heap.objs.size + 3, s1.heap.objs.size, s1.heap.objs.size + 1] → FpOk X pins H1 c := fun c hcm => by
        have e' : c = s1.heap.objs.size + 4 ∨ c = s1.heap.objs.size + 2 ∨ c = s1.heap.objs.size + 3 ∨ c = s1.heap.objs.size ∨ c = s1.heap.objs.size + 1 := by simpa using hcm
        have hle : s1.heap.objs.size ≤ c := by
          rcases e' with z | z | z | z | z
          · rw [z]; exact Nat.le_add_right _ _
          · rw [z]; exact Nat.le_add_right _ _
          · rw [z]; exact Nat.le_add_right _ _
          · rw [z]; exact Nat.le_refl _
          · rw [z]; exact Nat.le_add_right _ _
        exact I1.fpOk hle (I1.hok.fresh hle)
      obtain ⟨its, rv, p1, _⟩ := sq_list I1 hqx
      obtain ⟨its2, rv2, p2, _⟩ := sq_list I1 hqy
      refine call_zipM p1 p2 fun h' hz hTI hTO h1 h2 hsz hk => wpAny_pyIter_zip hz ?_
      have I2 : Inv X pins σ H1 { s1 with heap := h' } := I1.kept (t' := s1.toks) hk
      exact ⟨s1.heap.objs.size + 4, [s1.heap.objs.size + 4, s1.heap.objs.size + 2, s1.heap.objs.size + 3, s1.heap.objs.size, s1.heap.objs.size + 1], _, _, H1, rfl, I2, turn_zipM (PySem.W.ktu_apart s1.heap.objs.size a b (sq_lt p1) (sq_lt p2)), ⟨hz, hTI, ⟨_, _, hTO⟩, h1, h2⟩, fresh5, q⟩
theorem walk_zipM {q1 q2 : Sq} {K : PySem.W.Frag} {a b : Addr} {xs ys : List V} {n : Nat} (hn : n = min xs.length ys.length) : Walk (ItzM q1 q2 K a b) n (fun H => SqA q1 K H a xs ∧ SqA q2 K H b ys) (YPair (fun i => xs[i]?) (fun i => ys[i]?)) := by
  subst hn
  refine ⟨fun i _ hi q => ?_, fun _ q => ⟨xs, ys, q.1, q.2, by omega⟩, fun i H v H' _ q y => ?_⟩
  · have h1 : i < xs.length := by omega
    have h2 : i < ys.length := by omega
    exact ⟨xs, ys, xs[i], ys[i], q.1, q.2, by simp [h1], by simp [h2]⟩
  · obtain ⟨T, x, z, h1, h2, h3, h4, h5⟩ := y
    exact ⟨T, x, z, h1, h2, h3, h4 xs q.1, h5 ys q.2⟩
end
end
end Iv

set_option maxRecDepth 100000
set_option maxHeartbeats 2000000
/-! IvX: zip walked. -/
namespace Iv
open PySem L2
variable [Tbl]
section
variable {K : PySem.W.Frag} {H H1 : Hp} {σ : L2.St} {env env1 : Env} {fps fps1 : Nat → List Addr} {L M : List Nat} {v : V} {x : Val} {fp : List Addr}
theorem VOk.apartM (R : ER K H1 σ env1 fps1) (hV : VOk K H1 σ env1 fps1 v x fp) (h : ∀ i, x.p = .sl i ∨ x.p = .pt i → i ∈ M) : ∀ a ∈ fp, ¬ OwnA M env1 fps1 a := by
  rintro a ha ⟨i, ⟨ni, s, es, os⟩, q⟩
  obtain ⟨k, p, d⟩ := x
  cases p with
  | fr => exact hV.2.2.2 a ha ⟨i, s, es, q⟩
  | sl j =>
    obtain ⟨_, h1, h2, h3⟩ := hV
    have hij : i ≠ j := fun z => by subst z; exact ni (h _ (.inl rfl))
    exact R.dj i j s _ hij es os h2 a q (by rw [← h3]; exact ha)
  | pt j =>
    obtain ⟨_, h1, ⟨t, h2, _⟩, h3⟩ := hV
    have hij : i ≠ j := fun z => by subst z; exact ni (h _ (.inr rfl))
    exact R.dj i j s t hij es os h2 a q (h3 a ha)
  | sh => exact hV.2.2 a ha i s es os q
theorem VOk.anyB (S : Step L H env fps H1 env1 fps1) (hV : VOk K H1 σ env1 fps1 v x fp) (b : Bnd L H env fps x fp) : ∀ a ∈ fp, AnyA env fps a ∨ H a = none := by
  obtain ⟨k, p, d⟩ := x
  cases p with
  | fr => exact fun a ha => (b a ha).imp (fun z => z.toAny) id
  | sl i =>
    obtain ⟨_, h1, h2, h3⟩ := hV
    exact fun a ha => S.anyBack ⟨i, _, h2, by rw [← h3]; exact ha⟩
  | pt i =>
    obtain ⟨_, h1, ⟨s, h2, _⟩, h3⟩ := hV
    exact fun a ha => S.anyBack ⟨i, s, h2, h3 a ha⟩
  | sh => exact b
/-- a list or a tuple without lists, as a walk sees it -/
theorem seq_den {ds : List PyData} {d : PyData} {k : Kd} (hd : Den K H v d fp) (hk : KdOk k d) (hf : fl k d = true) (hs : seqD d = some ds) : ∃ (q : Sq) (a : Addr) (xs : List V), v = .ref a ∧ SqA q K H a xs ∧ DenL K H xs ds [] ∧ immL ds = true ∧
    ∀ Hc : Hp, (∀ c o, c ∈ fp → H c = some o → NT o → Hc c = some o) → (∀ c o, H c = some o → Fixed o → Hc c = some o) → SqA q K Hc a xs := by
  cases d <;> simp only [seqD] at hs <;> cases hs
  · have im : immL ds = true := fl_flat hk hf
    cases hd with
    | lst a1 a2 => exact ⟨.l, _, _, rfl, SqL.of a1, a2.nil_of im, im, fun Hc k _ => SqL.of (k _ _ List.mem_cons_self a1 trivial)⟩
  · have im : immL ds = true := fl_tuple hk hf
    cases hd with
    | tup a1 a2 => exact ⟨.t, _, _, rfl, a1, a2.nil_of im, im, fun Hc _ f => sqT_fix a1 f⟩
end
section
variable {X : Cx} {xc : Str → Value} {T : Tab} {W : WX} {a b : Expr} {ca cb : CE}
theorem si_zip {elts : List Expr} {kk : Nat} {tpos p q : Pos} (hg : Gl X "zip") (hm : X.mg "zip" = none) (ha : PA X [a, b] (tA X.K xc T W [] [ca, cb])) (hs : starEach [a, b] X.env = (false, eval a X.env) :: starEach [b] X.env := by rfl) (hpl : (backTo q (starEach [b] X.env)).any (·.1) = false := by rfl) :
    PI X (.Tuple elts kk tpos) (.Call (.Name "zip" p) [a, b] [] q) (tIt X.K xc T W .zip [ca, cb]) := by
  refine PI.weak (pi_zipM hg hm ha hs hpl) fun σ H R h => ?_
  obtain ⟨L, env, fps, R0, P⟩ := h
  refine ⟨L, env, fps, R0, ?_⟩
  cases e1 : evs T [] [ca, cb] L env with
  | no => rw [e1] at P; exact P.elim
  | ex n en => rw [e1] at P; exact P
  | ok q =>
    obtain ⟨xs, env1⟩ := q
    rw [e1] at P
    obtain ⟨ws, env2, items, q1, q2, P⟩ := P
    obtain ⟨x, y, rfl⟩ := len2 (evs_len e1)
    intro vs H1 fps1 fpl S1 R1 V1 B1
    obtain ⟨v, w, fp, fq, rfl, rfl, hV, hW, _⟩ := V1.two
    simp only [escK] at q1
    split at q1
    case isFalse => cases q1
    rename_i hf
    simp only [Option.some.injEq, Prod.mk.injEq] at q1
    obtain ⟨rfl, rfl⟩ := q1
    simp only [List.all_cons, List.all_nil, Bool.and_true, Bool.and_eq_true] at hf
    simp only [itsOf] at q2
    cases s1 : seqD x.d with
    | none => rw [s1] at q2; cases q2
    | some ds =>
      cases s2 : seqD y.d with
      | none => rw [s1, s2] at q2; cases q2
      | some es =>
        rw [s1, s2] at q2
        simp only [Option.some.injEq] at q2
        subst q2
        obtain ⟨qa, aa, xv, rfl, u1, u2, u3, u4⟩ := seq_den (hV.den R1) hV.kd hf.1 s1
        obtain ⟨qb, bb, yv, rfl, w1, w2, w3, w4⟩ := seq_den (hW.den R1) hW.kd hf.2 s2
        have tV := (hV.den R1).there
        have tW := (hW.den R1).there
        have lx : ∀ i, x.p = .sl i ∨ x.p = .pt i → i ∈ lks [x, y] L := fun i h => lk_sub y _ i (lk_has h)
        have ly : ∀ i, y.p = .sl i ∨ y.p = .pt i → i ∈ lks [x, y] L := fun i h => lk_has (x := y) (L := lk x L) h
        refine ⟨qa, qb, aa, bb, xv, yv, rfl, u1, w1, P _ (fun H => SqA qa X.K H aa xv ∧ SqA qb X.K H bb yv) (YPair (fun i => xv[i]?) (fun i => yv[i]?)) (fun c => c ∈ fp ∨ c ∈ fq) H1 fps1 S1 R1
          ⟨?_, fun Hc hk => ⟨u4 Hc (fun c o m => hk.1 c o (.inl m)) hk.2, w4 Hc (fun c o m => hk.1 c o (.inr m)) hk.2⟩, fun i Hc z Hd hi hk hy => ?_, fun c hc => ?_, fun c hc => ?_, fun ⟨z, hz, hp⟩ => ?_, fun c hc => ?_⟩⟩
        · rw [List.length_map, List.length_zip, ← u2.length, ← w2.length]; exact walk_zipM rfl
        · obtain ⟨T', a', b', e1, e2, e3, e4, e5⟩ := hy
          have hi : i < min ds.length es.length := by simpa using hi
          have hdi : ds[i]? = some ds[i] := List.getElem?_eq_getElem (by omega)
          have hei : es[i]? = some es[i] := List.getElem?_eq_getElem (by omega)
          have ex : Ext Hc Hd := by rw [e3]; exact Ext.upd e2
          have lc : DenL X.K Hc xv ds [] := u2.stay hk.2 fun a ha => nomatch ha
          have lc2 : DenL X.K Hc yv es [] := w2.stay hk.2 fun a ha => nomatch ha
          obtain ⟨u, fr, g1, g2, g3⟩ := lc.get hdi
          obtain ⟨u', fr', g1', g2', g3'⟩ := lc2.get hei
          simp only at e4 e5
          rw [g1] at e4
          rw [g1'] at e5
          cases e4; cases e5
          have fr0 : fr = [] := List.sublist_nil.mp g3
          have fr0' : fr' = [] := List.sublist_nil.mp g3'
          subst fr0 fr0'
          have i1 := immL_mem u3 (List.getElem_mem (show i < ds.length by omega))
          have i2 := immL_mem w3 (List.getElem_mem (show i < es.length by omega))
          refine ⟨ex, V0 (.tuple [ds[i], es[i]]), [], ?_, ?_, by show imm _ = true; simp [imm, immL, i1, i2, V0], .inl ⟨rfl, rfl⟩, fun h => nomatch h⟩
          · rw [List.getElem?_map, show (ds.zip es)[i]? = some (ds[i], es[i]) from List.getElem?_zip_eq_some.mpr ⟨hdi, hei⟩]; rfl
          · rw [e1, e3]
            exact .tup (SqT.of upd_same) (.cons (fp := []) (fq := []) ((Ext.upd e2).den g2) (.cons (fp := []) (fq := []) ((Ext.upd e2).den g2') .nil))
        · rcases hc with hc | hc
          · obtain ⟨o, e, _⟩ := tV c hc; exact ⟨o, e⟩
          · obtain ⟨o, e, _⟩ := tW c hc; exact ⟨o, e⟩
        · rcases hc with hc | hc
          · exact hV.apartM R1 lx c hc
          · exact hW.apartM R1 ly c hc
        · obtain ⟨w, _, rfl⟩ := List.mem_map.mp hz
          cases hp
        · rcases hc with hc | hc
          · exact hV.anyB S1 B1.1 c hc
          · exact hW.anyB S1 B1.2.1 c hc
end

section
open PyProof.Rows
variable {prog : Program} {w : World} {A : Around} {E : Value → Shared → Prop} {s : Shared} {q : Sq}
theorem enumM_next_item {e it l : Addr} {i : Nat} {items : Array Value} {x old : Value} {Q : Value → Shared → Prop}
    (he : IsEnum s.heap e it i old) (hit : LI q s.heap it l i) (hl : LS q s.heap l items) (hx : items[i]? = some x) (hne : e ≠ it)
    (hQ : ∀ h', IsEnumOut h' e it ((i : Int) + 1) x s.heap.objs.size → LI q h' it l (i + 1) →
      h'.get? s.heap.objs.size = some { cls := .type "tuple", data := .seq #[.int i s.toks, x] } → h'.objs.size = s.heap.objs.size + 1 →
      (∀ b o, b ≠ e → b ≠ it → s.heap.get? b = some o → h'.get? b = some o) → Q (.ref s.heap.objs.size) { s with heap := h', toks := s.toks + 1 }) :
    wpAny (model prog w) A (Builtin.«enumerate.__next__» ⟨[.ref e], []⟩) (fun fin s' => ∃ v, fin = .done (.ret v) ∧ Q v s') E s := by
  obtain ⟨hp, g, d, tk, os⟩ := s
  show wpAny _ _ (field (.ref e) 2 >>= _) _ _ _
  refine wpAny_bind (wpAny_field he rfl (x := .ref it) rfl ?_)
  refine wpAny_bind (nx_item hit hl hx fun h₁ hit₁ hs₁ => ?_)
  replace hs₁ : Heap.SameBut it hp h₁ := hs₁
  have he₁ : IsEnum h₁ e it i old := (hs₁.2 e hne).trans he
  show wpAny _ _ (field (.ref e) 3 >>= _) _ _ ⟨h₁, g, d, tk, os⟩
  refine wpAny_bind (wpAny_field he₁ rfl (x := rawInt i) rfl ?_)
  show wpAny _ _ (field (.ref e) 4 >>= _) _ _ ⟨h₁, g, d, tk, os⟩
  refine wpAny_bind (wpAny_field he₁ rfl (x := .none) rfl ?_)
  show wpAny _ _ (mkInt i >>= _) _ _ ⟨h₁, g, d, tk, os⟩
  refine wpAny_bind (wpAny_mkInt ?_)
  show wpAny _ _ (setField (.ref e) 3 (rawInt ((i : Int) + 1)) >>= _) _ _ ⟨h₁, g, d, tk + 1, os⟩
  refine wpAny_bind (wpAny_setField_rec he₁ (by simp) fun h₂ he₂ hs₂ => ?_)
  replace hs₂ : Heap.SameBut e h₁ h₂ := hs₂
  replace he₂ : IsEnum h₂ e it ((i : Int) + 1) old := he₂
  show wpAny _ _ (setField (.ref e) 4 .none >>= _) _ _ ⟨h₂, g, d, tk + 1, os⟩
  refine wpAny_bind (wpAny_setField_rec he₂ (by simp) fun h₃ he₃ hs₃ => ?_)
  replace hs₃ : Heap.SameBut e h₂ h₃ := hs₃
  replace he₃ : IsEnum h₃ e it ((i : Int) + 1) old := he₃
  show wpAny _ _ (newTuple [.int i tk, x] >>= _) _ _ ⟨h₃, g, d, tk + 1, os⟩
  refine wpAny_bind (wpAny_newTuple ?_)
  have he₄ : IsEnum (h₃.push { cls := .type "tuple", data := .seq #[.int i tk, x] }) e it ((i : Int) + 1) old := Heap.get?_push_of_some _ he₃
  generalize hh₄ : h₃.push { cls := .type "tuple", data := .seq #[.int i tk, x] } = h₄ at he₄
  have hsz : h₃.objs.size = hp.objs.size := by rw [hs₃.1, hs₂.1, hs₁.1]
  have hel : e < hp.objs.size := Heap.lt_size he
  have ht₄ : h₄.get? hp.objs.size = some { cls := .type "tuple", data := .seq #[.int i tk, x] } := by rw [← hh₄, ← hsz]; exact Heap.get?_push_size _ rfl
  have hz₄ : h₄.objs.size = hp.objs.size + 1 := by rw [← hh₄, Heap.size_push, hsz]
  have hk₄ : ∀ b o, b ≠ e → b ≠ it → hp.get? b = some o → h₄.get? b = some o := fun b o hbe hbi hb => by
    rw [← hh₄]; exact Heap.get?_push_of_some _ (hs₃.extBut b o hbe (hs₂.extBut b o hbe (hs₁.extBut b o hbi hb)))
  have hit₄ : LI q h₄ it l (i + 1) := by
    rw [← hh₄]; exact LI.at ((hit₁.extBut hs₂.extBut (Ne.symm hne)).extBut hs₃.extBut (Ne.symm hne)) fun o ho => Heap.get?_push_of_some _ ho
  show wpAny _ _ (Builtin.SmallTypes.ownedTupleIsFree (.ref e) >>= _) _ _ ⟨h₄, g, d, tk + 1, os⟩
  rw [hsz]
  clear hh₄ he₃ hs₃ he₂ hs₂ he₁ hs₁ hit₁ hsz h₃ h₂ h₁
  refine wpAny_bind ?_
  · unfold Builtin.SmallTypes.ownedTupleIsFree
    refine wpAny_bind (wpAny_field he₄ rfl (x := .none) rfl (wpAny_pure ?_))
    simp only [if_true]
    refine wpAny_bind (wpAny_rule ?_)
    refine wpAny_bind (wpAny_field he₄ rfl (x := old) rfl ?_)
    refine wpAny_bind (wpAny_setField_rec he₄ (by simp) fun h₅ he₅ hs₅ => ?_)
    replace hs₅ : Heap.SameBut e h₄ h₅ := hs₅
    replace he₅ : IsEnum h₅ e it ((i : Int) + 1) x := he₅
    show wpAny _ _ (Builtin.SmallTypes.ownedTupleHandOut (.ref e) (.ref hp.objs.size) >>= _) _ _ ⟨h₅, g, d, tk + 1, os⟩
    refine wpAny_bind ?_
    · unfold Builtin.SmallTypes.ownedTupleHandOut
      refine wpAny_bind (wpAny_setField_rec he₅ (by simp) fun h₆ he₆ hs₆ => ?_)
      replace hs₆ : Heap.SameBut e h₅ h₆ := hs₆
      replace he₆ : IsEnumOut h₆ e it ((i : Int) + 1) x hp.objs.size := he₆
      refine wpAny_setField_rec he₆ (by simp) fun h₇ he₇ hs₇ => ?_
      replace hs₇ : Heap.SameBut e h₆ h₇ := hs₇
      replace he₇ : IsEnumOut h₇ e it ((i : Int) + 1) x hp.objs.size := he₇
      refine wpAny_bind (wpAny_letGo (wpAny_pure ⟨_, rfl, hQ h₇ he₇ ?_ ?_ ?_ ?_⟩))
      · exact ((hit₄.extBut hs₅.extBut (Ne.symm hne)).extBut hs₆.extBut (Ne.symm hne)).extBut hs₇.extBut (Ne.symm hne)
      · exact hs₇.extBut _ _ (Nat.ne_of_gt hel) (hs₆.extBut _ _ (Nat.ne_of_gt hel) (hs₅.extBut _ _ (Nat.ne_of_gt hel) ht₄))
      · rw [hs₇.1, hs₆.1, hs₅.1, hz₄]
      · exact fun b o hbe hbi hb => hs₇.extBut b o hbe (hs₆.extBut b o hbe (hs₅.extBut b o hbe (hk₄ b o hbe hbi hb)))

theorem pyNext_enumM_item {e it l : Addr} {i : Nat} {items : Array Value} {x old : Value} {Q : Option Value → Shared → Prop}
    (he : IsEnum s.heap e it i old) (hit : LI q s.heap it l i) (hl : LS q s.heap l items) (hx : items[i]? = some x) (hne : e ≠ it)
    (hQ : ∀ h', IsEnumOut h' e it ((i : Int) + 1) x s.heap.objs.size → LI q h' it l (i + 1) →
      h'.get? s.heap.objs.size = some { cls := .type "tuple", data := .seq #[.int i s.toks, x] } → h'.objs.size = s.heap.objs.size + 1 →
      (∀ b o, b ≠ e → b ≠ it → s.heap.get? b = some o → h'.get? b = some o) → Q (some (.ref s.heap.objs.size)) { s with heap := h', toks := s.toks + 1 }) :
    wpAny (model prog w) A (pyNext (.ref e)) Q E s := by
  have hT : s.TypeIs (.ref e) "enumerate" := ⟨_, he, rfl⟩
  unfold pyNext
  exact wpAny_bind (wpAny_attempt (wpAny_callSpecial?_slot (name := Str.ofString "__next__") hT PySem.F.slot_enumerate_next
    (wpAny_call_entry PySem.F.slot_enumerate_next hT PySem.F.entry_enumerate_next
      (enumM_next_item he hit hl hx hne fun h' a b c d k => wpAny_pure (hQ h' a b c d k)) (PySem.F.args_enumerate_next_1 _))))

theorem pyNext_enumM_end {e it l : Addr} {i : Nat} {items : Array Value} {old : Value} {Q : Option Value → Shared → Prop} (hh : A.handled = none)
    (he : IsEnum s.heap e it i old) (hit : LI q s.heap it l i) (hl : LS q s.heap l items) (hx : items[i]? = none)
    (hQ : ∀ h', Heap.ExtBut it s.heap h' → Q none { s with heap := h' }) : wpAny (model prog w) A (pyNext (.ref e)) Q E s := by
  have hT : s.TypeIs (.ref e) "enumerate" := ⟨_, he, rfl⟩
  unfold pyNext
  refine wpAny_bind (wpAny_attempt (wpAny_callSpecial?_slot (name := Str.ofString "__next__") hT PySem.F.slot_enumerate_next
    (wpAny_call_entry PySem.F.slot_enumerate_next hT PySem.F.entry_enumerate_next ?_ (PySem.F.args_enumerate_next_1 _))))
  show wpAny _ _ (field (.ref e) 2 >>= _) _ _ _
  refine wpAny_bind (wpAny_field he rfl (x := .ref it) rfl ?_)
  refine wpAny_bind (nx_end hh hit hl hx fun h' x he' hx' => ?_)
  obtain ⟨o, ho, hc⟩ := hx'
  refine wpAny_bind (wpAny_isInstance (T := "StopIteration") (b := true) ⟨o, ho, hc⟩ isSubtype_stop ?_)
  exact wpAny_pure (hQ _ he')

/-- the pairs of places and items, as they stand at each turn -/
def IteM (q : Sq) (K : PySem.W.Frag) (a : Addr) : It :=
  ⟨fun i H => ∃ (xs : List V) (x : V), SqA q K H a xs ∧ xs[i]? = some x, fun i H v H' => ∃ T x, v = .ref T ∧ H T = none ∧ H' = upd H T (.tup [.int (i : Nat), x]) ∧ ∀ xs, SqA q K H a xs → xs[i]? = some x, fun i H => ∃ xs : List V, SqA q K H a xs ∧ xs.length ≤ i⟩
theorem turn_enumM {P : Program} {w : World} {K : PySem.W.Frag} {elts : List Expr} {kk : Nat} {tpos : Pos} (a e it : Addr) :
    Turn P w K (.Tuple elts kk tpos) (IteM q K a) [e, it] e (fun i h => (∃ old, IsEnum h e it ((i : Nat) : Int) old) ∧ LI q h it a i ∧ e ≠ it) where
  mem := by simp
  obj := fun i h st b hb => by
    obtain ⟨⟨old, he⟩, hit, _⟩ := st
    obtain ⟨o, ho, hd⟩ := hit.nc
    have e' : b = e ∨ b = it := by simpa using hb
    rcases e' with z | z
    · rw [z]; exact ⟨_, he, fun v q => nomatch q⟩
    · rw [z]; exact ⟨o, ho, hd⟩
  keep := fun i h h' st k => let ⟨⟨old, he⟩, hi, hne⟩ := st; ⟨⟨old, k e (by simp) _ he⟩, hi.at fun o q => k it (by simp) o q, hne⟩
  item := by
    intro X hP hw hK hc i pins s σ H E I hf st hg
    subst hP hw hK
    obtain ⟨⟨old, he⟩, hit, hne⟩ := st
    obtain ⟨xs, x, hq, hx⟩ := hg
    obtain ⟨its, rv, p, hz⟩ := sq_list I hq
    obtain ⟨u, hu, ru⟩ := rv.get hx
    have hel : e < s.heap.objs.size := Heap.lt_size he
    have hil : it < s.heap.objs.size := hit.lt
    refine pyNext_enumM_item he hit p (x := u) (by simpa using hu) hne fun h' ho hit' hT hsz hk => ?_
    refine ⟨_, rfl, wpAny_letOwnedTupleGo_enum (s := { s with heap := h', toks := s.toks + 1 }) ho fun h'' he' sb => ?_⟩
    have hT2 : h''.get? s.heap.objs.size = some { cls := .type "tuple", data := .seq #[.int i s.toks, u] } := (sb.2 _ (Nat.ne_of_gt hel)).trans hT
    have new : ObjOk X.prog X.w (upd H s.heap.objs.size (.tup [.int (i : Nat), x])) h'' s.heap.objs.size (.tup [.int (i : Nat), x]) :=
      ⟨by show 2 ≤ sizeLine; decide, [.int i s.toks, u], .cons ⟨_, rfl⟩ (.cons ru .nil), ⟨_, hT2, rfl, _, rfl⟩⟩
    have I1 : Inv X pins σ (upd H s.heap.objs.size (.tup [.int (i : Nat), x])) { s with heap := h'', toks := s.toks + 1 } :=
      I.turnedNew (ch := [e, it]) (fun b ob hb q => (sb.2 b (fun z => hb (by simp [z]))).trans (hk b ob (fun z => hb (by simp [z])) (fun z => hb (by simp [z])) q)) hf (Nat.le_refl _) new
    refine ⟨.ref s.heap.objs.size, _, I1, rfl, ⟨_, x, rfl, I.hok.fresh (Nat.le_refl _), rfl, fun ys hy => by rw [sq_inj I hy hq]; exact hx⟩, ⟨⟨u, ?_⟩, hit'.at fun o q => (sb.2 it (Ne.symm hne)).trans q, hne⟩, fun b hb => ?_⟩
    · have e1 : ((i + 1 : Nat) : Int) = (i : Int) + 1 := by omega
      rw [e1]; exact he'
    · have hb' : b < s.heap.objs.size := by
        have e' : b = e ∨ b = it := by simpa using hb
        rcases e' with z | z
        · rw [z]; exact hel
        · rw [z]; exact hil
      rw [upd_ne (Nat.ne_of_lt hb')]
      exact (hf b hb).1
  done := by
    intro X hP hw hK hc i pins s σ H E I hf st hg
    subst hP hw hK
    obtain ⟨⟨old, he⟩, hit, hne⟩ := st
    obtain ⟨xs, hq, hx⟩ := hg
    obtain ⟨its, rv, p, hz⟩ := sq_list I hq
    obtain ⟨f0, f1, f2, f3, f4, f5⟩ := hf it (by simp)
    have hl := rv.length
    exact pyNext_enumM_end (I.ok.hd hc) he hit p (by simp; omega) fun h' eb => ⟨rfl, I.turned (t' := s.toks) (fun b o hb q => eb b o hb q) f0 f1 f3 f4 f5⟩
  self := fun A i s Q E st h => let ⟨⟨_, he⟩, _⟩ := st; wpAny_pyIter_enum he h
theorem meets_enumT_new (l : Addr) (items : Array Value) (n : Nat) (dct : Option Addr) (sl : Array (Option Value)) :
    Meets (Builtin.«enumerate.__new__» ⟨[.type "enumerate", .ref l], []⟩) (fun _ R s => s.heap.get? l = some { cls := .type "tuple", dict := dct, data := .seq items n, slots := sl } ∧
      R (.ok (.ret (.ref (s.heap.push { cls := .type "tuple_iterator", data := .fields #[.ref l, .int 0 0] }).objs.size)))
        { s with heap := (s.heap.push { cls := .type "tuple_iterator", data := .fields #[.ref l, .int 0 0] }).push { cls := .type "enumerate", data := .fields #[.none, .bool false, .ref s.heap.objs.size, rawInt 0, .none, .none] } }) :=
  .of_wp fun prog w A R s h => by
    obtain ⟨hp, g, d, tk, os⟩ := s; obtain ⟨hl, h⟩ := h
    have hsub := sub_enumerate
    have hL : Heap.IsTuple (Shared.heap ⟨hp, g, d, tk, os⟩) l items := ⟨_, hl, rfl, n, rfl⟩
    wp_walk using wpAny_loadPart' hl
    refine wpAny_stack_any fun st => wpAny_pure ?_
    split
    · rename_i c _ _ _ _ _
      cases (c == Value.type "enumerate")
      · wp_walk using wpAny_loadPart' hl, wpAny_pyIter_tuple hL
        exact ⟨_, rfl, h⟩
      · wp_walk using wpAny_loadPart' hl, wpAny_pyIter_tuple hL
        exact ⟨_, rfl, h⟩
    · wp_walk using wpAny_loadPart' hl, wpAny_pyIter_tuple hL
      exact ⟨_, rfl, h⟩

theorem call_enumT {l : Addr} {items : Array Value} {Q : Value → Shared → Prop} (hL : s.heap.IsTuple l items)
    (h : ∀ h', IsEnum h' (s.heap.objs.size + 1) s.heap.objs.size 0 .none → h'.IsTupleIter s.heap.objs.size l 0 → h'.objs.size = s.heap.objs.size + 2 →
      (∀ b o, s.heap.get? b = some o → h'.get? b = some o) → Q (.ref (s.heap.objs.size + 1)) { s with heap := h' }) :
    wpAny (model prog w) A (call (.type "enumerate") [.ref l]) Q E s := by
  obtain ⟨⟨c, dct, dt, sl⟩, hl, hc, n, hd⟩ := hL
  replace hc : c = .type "tuple" := hc
  replace hd : dt = .seq items n := hd
  subst hc hd
  refine callType_new PySem.F.called_enumerate (by decide) (PySem.F.typeCall_enumerate_1 _) (PySem.F.newCall_enumerate_1 _) (fun obj => PySem.F.args_object_init_2 obj _) PySem.F.entry_enumerate_new
    (meets_enumT_new l items n dct sl) ⟨hl, ?_⟩
  have hz : (s.heap.push { cls := .type "tuple_iterator", data := .fields #[.ref l, .int 0 0] }).objs.size = s.heap.objs.size + 1 := Heap.size_push ..
  show _ ∧ _
  rw [hz]
  have he : IsEnum ((s.heap.push { cls := .type "tuple_iterator", data := .fields #[.ref l, .int 0 0] }).push
      { cls := .type "enumerate", data := .fields #[.none, .bool false, .ref s.heap.objs.size, rawInt 0, .none, .none] }) (s.heap.objs.size + 1) s.heap.objs.size 0 .none := by
    have := Heap.get?_push_size (s.heap.push { cls := .type "tuple_iterator", data := .fields #[.ref l, .int 0 0] })
      (o := { cls := .type "enumerate", data := .fields #[.none, .bool false, .ref s.heap.objs.size, rawInt 0, .none, .none] }) rfl
    rw [hz] at this; exact this
  refine ⟨⟨_, he, rfl⟩, h _ he ⟨_, Heap.get?_push_of_some _ (Heap.get?_push_size _ rfl), rfl, rfl⟩ (by rw [Heap.size_push, hz]) fun b o x => Heap.get?_push_of_some _ (Heap.get?_push_of_some _ x)⟩


def iEnumT (K : PySem.W.Frag) (ta : TA) : TI := fun σ H R => ta σ H fun vs H1 => ∃ a xs, vs = [.ref a] ∧ SqT K H1 a xs ∧ R (IteM .t K a) H1
theorem pi_enumT {X : Cx} {e : Expr} {ta : TA} {p pos tpos : Pos} {elts : List Expr} {kk : Nat} (hg : Gl X "enumerate") (hm : X.mg "enumerate" = none) (ha : PA X [e] ta) (hs : starEach [e] X.env = [(false, eval e X.env)] := by rfl) :
    PI X (.Tuple elts kk tpos) (.Call (.Name "enumerate" p) [e] [] pos) (iEnumT X.K ta) := by
  refine ⟨fun pins s σ H R I h => ?_⟩
  refine Call_ (ld_blt I hg hm boot_enumerate (PyProof.Rows.callWith_type1 (thn (ha.run pos pins s σ H _ I h) fun us s1 ⟨vs, H1, I1, r1, q1⟩ => ?_) hs rfl))
  obtain ⟨a, xs, ex, hq, q⟩ := q1
  subst ex
  cases r1 with
  | cons r rr =>
    cases rr
    cases r
    obtain ⟨its, rv, p', hz⟩ := I1.tuple hq
    refine call_enumT p' fun h' he hit hsz hk => wpAny_pyIter_enum he ?_
    have I2 : Inv X pins σ H1 { s1 with heap := h' } := I1.kept (t' := s1.toks) hk
    refine ⟨s1.heap.objs.size + 1, [s1.heap.objs.size + 1, s1.heap.objs.size], _, _, H1, rfl, I2, turn_enumM (q := .t) a (s1.heap.objs.size + 1) s1.heap.objs.size, ⟨⟨.none, he⟩, hit, Nat.succ_ne_self _⟩, fun b hb => ?_, q⟩
    have e' : b = s1.heap.objs.size + 1 ∨ b = s1.heap.objs.size := by simpa using hb
    have hle : s1.heap.objs.size ≤ b := by
      rcases e' with z | z
      · rw [z]; exact Nat.le_add_right _ _
      · rw [z]; exact Nat.le_refl _
    exact I1.fpOk hle (I1.hok.fresh hle)
theorem walk_enumM {q : Sq} {K : PySem.W.Frag} {a : Addr} {xs : List V} : Walk (IteM q K a) xs.length (fun H => SqA q K H a xs) (YPair (fun i => some (.int (i : Nat))) (fun i => xs[i]?)) := by
  refine ⟨fun i _ hi q => ⟨xs, xs[i], q, by simp [hi]⟩, fun _ q => ⟨xs, q, Nat.le_refl _⟩, fun i H v H' _ q y => ?_⟩
  obtain ⟨T, x, h1, h2, h3, h4⟩ := y
  exact ⟨T, _, x, h1, h2, h3, rfl, h4 xs q⟩
end
section
variable {X : Cx} {xc : Str → Value} {T : Tab} {W : WX} {a : Expr} {ca : CE}
theorem si_enumT {elts : List Expr} {kk : Nat} {tpos p q : Pos} (hg : Gl X "enumerate") (hm : X.mg "enumerate" = none) (ha : PA X [a] (tA X.K xc T W [] [ca])) (hs : starEach [a] X.env = [(false, eval a X.env)] := by rfl) : PI X (.Tuple elts kk tpos) (.Call (.Name "enumerate" p) [a] [] q) (tIt X.K xc T W .enumT [ca]) := by
  refine PI.weak (pi_enumT hg hm ha hs) fun σ H R h => ?_
  obtain ⟨L, env, fps, R0, P⟩ := h
  refine ⟨L, env, fps, R0, ?_⟩
  cases e1 : evs T [] [ca] L env with
  | no => rw [e1] at P; exact P.elim
  | ex n en => rw [e1] at P; exact P
  | ok q =>
    obtain ⟨xs, env1⟩ := q
    rw [e1] at P
    obtain ⟨ws, env2, items, q1, q2, P⟩ := P
    obtain ⟨x, rfl⟩ := len1 (evs_len e1)
    intro vs H1 fps1 fpl S1 R1 V1 B1
    obtain ⟨v, fp, rfl, rfl, hV⟩ := V1.one
    obtain ⟨y, rfl, yd, yk, S2, R2, D2, K2, o2, d2, a2⟩ := escIts_one R0 S1 R1 hV B1.1 q1
    obtain ⟨k, p, d⟩ := y
    cases d with
    | tuple ds =>
      simp only [itsOf] at q2
      split at q2
      · rename_i hf
        simp only [Option.some.injEq] at q2
        subst q2
        have there := D2.there
        have im : immL ds = true := fl_tuple K2 hf
        cases D2 with
        | tup h1 h2 =>
          rename_i ad vs
          have h2 := h2.nil_of im
          refine ⟨ad, vs, rfl, h1, P _ (fun H => SqA .t X.K H ad vs) (YPair (fun i => some (.int (i : Nat))) (fun i => vs[i]?)) (fun c => False) H1 fps1 S2 R2 ⟨?_, fun Hc hk => sqT_fix h1 hk.2, fun i Hc z Hd hi hk hy => ?_, fun c hc => hc.elim, fun c hc => hc.elim, fun ⟨z, hz, hp⟩ => ?_, fun c hc => hc.elim⟩⟩
          · rw [List.length_map, List.length_zipIdx, ← h2.length]; exact walk_enumM
          · obtain ⟨T', a', b', e1, e2, e3, e4, e5⟩ := hy
            have hi : i < ds.length := by simpa using hi
            have hdi : ds[i]? = some ds[i] := List.getElem?_eq_getElem hi
            have ex : Ext Hc Hd := by rw [e3]; exact Ext.upd e2
            have lc : DenL X.K Hc vs ds [] := h2.stay hk.2 fun a ha => nomatch ha
            obtain ⟨u, fr, g1, g2, g3⟩ := lc.get hdi
            simp only [Option.some.injEq] at e4
            simp only at e5
            rw [g1] at e5
            cases e5
            have fr0 : fr = [] := List.sublist_nil.mp g3
            subst fr0
            have imi := immL_mem im (List.getElem_mem hi)
            refine ⟨ex, V0 (.tuple [.int (i : Nat), ds[i]]), [], by simp [hdi], ?_, by show imm _ = true; simp [imm, immL, imi, V0], .inl ⟨rfl, rfl⟩, fun h => nomatch h⟩
            rw [e1, e3]
            refine .tup (SqT.of upd_same) (.cons (fp := []) (fq := []) (by rw [← e4]; exact .int _) (.cons (fp := []) (fq := []) ((Ext.upd e2).den g2) .nil))
          · obtain ⟨w, _, rfl⟩ := List.mem_map.mp hz
            cases hp
      · cases q2
    | _ => simp [itsOf] at q2
end
end Iv

set_option maxRecDepth 100000
set_option maxHeartbeats 2000000
/-! IvY: defs that make lambdas; more rules in short. -/
namespace Iv
open PySem L2
variable [Tbl]
open PyProof.Rows (envOfC)
/-- a def whose code object is told -/
structure FunC (K : PySem.W.Frag) (x qual : Str) (st : Stmt) (f : Addr) (fd : FuncData) (c : Addr) : Prop where
  ex : ∃ (oc : Value) (od : Option Addr) (kV doc pm : Value) (an : Option Addr) (ct : Value) (osl : Array (Option Value)),
    fd = PySem.W.fnOf x qual (defArgs st) (defBody st) (defScope st) .none kV doc pm an (.ref c) ct ∧ K.lookup f = some ⟨oc, od, .func fd, osl⟩ ∧ PySem.W.codeIn K (.ref c) qual = true
  kp : PySem.W.keepIn K (.ref f) = true
theorem FunC.fn {K : PySem.W.Frag} {x qual : Str} {st : Stmt} {f : Addr} {fd : FuncData} {c : Addr} (F : FunC K x qual st f fd c) : Fun K x qual st f fd := ⟨let ⟨oc, od, kV, doc, pm, an, ct, osl, h⟩ := F.ex; ⟨oc, od, kV, doc, pm, an, _, ct, osl, h⟩, F.kp⟩
def KnownC (K : PySem.W.Frag) (mg : Str → Option Value) (x : Str) (st : Stmt) (ps : List Str) (c : Addr) : Prop := ∃ (f : Addr) (fd : FuncData), FunC K x x st f fd c ∧ mg x = some (.ref f) ∧ Binds K fd ps []
theorem KnownC.kn {K : PySem.W.Frag} {mg : Str → Option Value} {x : Str} {st : Stmt} {ps : List Str} {c : Addr} (k : KnownC K mg x st ps c) : Known K mg x st ps := let ⟨f, fd, F, r⟩ := k; ⟨f, fd, F.fn, r⟩
theorem funC_mk {K : PySem.W.Frag} {x qual : Str} {st : Stmt} {f : Addr} {oc : Value} {od : Option Addr} {kV doc pm : Value} {an : Option Addr} {c : Addr} {ct : Value} {osl : Array (Option Value)}
    (l : K.lookup f = some ⟨oc, od, .func (PySem.W.fnOf x qual (defArgs st) (defBody st) (defScope st) .none kV doc pm an (.ref c) ct), osl⟩) (h : PySem.W.codeIn K (.ref c) qual = true) (k : PySem.W.keepIn K (.ref f) = true) :
    FunC K x qual st f (PySem.W.fnOf x qual (defArgs st) (defBody st) (defScope st) .none kV doc pm an (.ref c) ct) c := ⟨⟨oc, od, kV, doc, pm, an, ct, osl, rfl, l, h⟩, k⟩
theorem knownC_step {P : Program} {w : World} {K : PySem.W.Frag} {mg : Str → Option Value} {base : Heap} {k : Nat} {xc : Str → Value} {defs : Str → Option Def} {fuel : Nat} {x : Str} {st : Stmt} {N ps : List Str} {d : Def} {io : List Bool} {A : List Nat} {c : Addr} (F : KnownC K mg x st ps c) (S : FnScope N ps (defScope st)) (hd : defs x = some d) (hdio : d.io = io) (hnp : d.np = ps.length) (hns : d.ns = N.length) (hnl : ps.length ≤ N.length)
    (hA : ((List.range io.length).all fun i => !(io.getD i false) || !(A.contains i)) = true)
    (body : ∀ (f : Addr) (Ar : Around) (outer : List PySem.Env) (s : Shared) (H : Hp), Ar.guards = some [] → Room k (Ar.deeper (envOfC x (defScope st) s.heap.objs.size f (.ref c))) → PSs (cxN P w K mg base N x (defScope st) f (.ref c) Ar outer s H) (defBody st) (tSs K xc (tab defs fuel k) WF A d.body)) :
    CalG P w K mg base (k + 1) xc (tab defs fuel (k + 1)) x io := by
  obtain ⟨f, fd, F, hm, b⟩ := F
  have hT : ∀ qs, (tab defs fuel (k + 1)).fn x qs = runD (tab defs fuel k) d qs := fun qs => by
    show (match defs x with | some d => runD ⟨ioOf defs, fnK defs fuel k, fuel⟩ d qs | none => .no) = _
    rw [hd]; rfl
  have hio : (tab defs fuel (k + 1)).io x = d.io := by show ioOf defs x = d.io; unfold ioOf; rw [hd]; rfl
  refine ⟨⟨f, fd, ps, ?_, hm, F.kp, b⟩, by rw [hio]; exact hdio⟩
  obtain ⟨oc, od, kV, doc, pm, an, ct, osl, rfl, lk, hcd⟩ := F.ex
  refine fnG_of lk hcd S (fun vs H Q E h => spI_len hd hnp h) fun Ar outer s H vs Q E hg hr hsp => ⟨_, body f Ar outer s H hg hr, body_end hT hio hns (by rw [hnp]; exact hnl) (fun i hi => ioA hA i (by rw [← hdio]; exact hi)) hsp⟩
/-! ### the tables are not the same -/
omit [Tbl] in
theorem one_1 {P0 : Addr} {q0 : Str} : ∀ p ∈ [(P0, q0)], ∀ q ∈ [(P0, q0)], p.1 = q.1 → p.2 = q.2 := fun p hp q hq _ => by
  rw [List.mem_singleton.mp hp, List.mem_singleton.mp hq]
omit [Tbl] in
theorem one_2 {P0 P1 : Addr} {q0 q1 : Str} (n : decide (P0 = P1) = false) : ∀ p ∈ [(P0, q0), (P1, q1)], ∀ q ∈ [(P0, q0), (P1, q1)], p.1 = q.1 → p.2 = q.2 := fun p hp q hq e => by
  simp only [decide_eq_false_iff_not] at n
  simp only [List.mem_cons, List.not_mem_nil, or_false] at hp hq
  rcases hp with rfl | rfl <;> rcases hq with rfl | rfl <;> first | rfl | exact (n e).elim | exact (n e.symm).elim
omit [Tbl] in
theorem one_3 {P0 P1 P2 : Addr} {q0 q1 q2 : Str} (n : decide (P0 = P1) = false) (n1 : decide (P0 = P2) = false) (n2 : decide (P1 = P2) = false) : ∀ p ∈ [(P0, q0), (P1, q1), (P2, q2)], ∀ q ∈ [(P0, q0), (P1, q1), (P2, q2)], p.1 = q.1 → p.2 = q.2 := fun p hp q hq e => by
  simp only [decide_eq_false_iff_not] at n n1 n2
  simp only [List.mem_cons, List.not_mem_nil, or_false] at hp hq
  rcases hp with rfl | rfl | rfl <;> rcases hq with rfl | rfl | rfl <;> first | rfl | exact (n e).elim | exact (n e.symm).elim | exact (n1 e).elim | exact (n1 e.symm).elim | exact (n2 e).elim | exact (n2 e.symm).elim
/-! ### the bodies of keys, in short -/
section
variable {P : Program} {w : World} {N : List Str} {pe : PySem.Env} {scope : Scope} {e a b : Expr} {es : List Expr} {c ca cb : KX} {cs : List KX} {pos : Pos} {x : Str}
theorem kq_cap (hs : pe.scope = scope) (i : Nat) (hk : scope.kind = .function := by rfl) (hN : N[i]? = some x := by rfl) (hv : Vis scope x := by first | exact Or.inl rfl | exact Or.inr (Or.inr rfl)) (hd : (x == ("__debug__" : Str)) = false := by decide) (hcd : (x == ("__classdict__" : Str)) = false := by decide) : Kp P w N pe (.Name x pos) (.cap i) := by
  subst hs
  exact kp_cap hk hN hv hd hcd
theorem kq_ix (ha : Kp P w N pe a ca) (hb : Kp P w N pe b cb) (hs : PlainIx b := by intro _ _; rfl) : Kp P w N pe (.Subscript a b pos) (.ix ca cb) := kp_ix ha hb hs
theorem kq_cons (ha : Kp P w N pe e c) (hr : Kps P w N pe es cs) (hs : starEach (e :: es) pe = (false, eval e pe) :: starEach es pe := by rfl) : Kps P w N pe (e :: es) (c :: cs) := kps_cons ha hr hs
end
theorem boot_zip' : bootBuiltins "zip" = some (.type "zip") := by decide +kernel
section
variable {X : Cx} {xc : Str → Value} {T : Tab} {W : WX} {A : List Nat} {e i : Expr} {ce ci : CE} {tpos pos p pos' : Pos} {x : Str} {op : Operator} {f : Pr}
theorem qaugS (r : Nat) (G : Gd X) (hf : f = .addI ∧ op = .Add ∨ f = .subI ∧ op = .Sub) (hi : Sd X xc T W i ci) (he : Sd X xc T W e ce) (hN : X.N[r]? = some x := by rfl) (hv : Vis X.env.scope x := by first | exact Or.inl rfl | exact Or.inr (Or.inl rfl) | exact Or.inr (Or.inr rfl))
    (hd : (x == ("__debug__" : Str)) = false := by decide) (hcd : (x == ("__classdict__" : Str)) = false := by decide)
    (ha : ∀ ov iv new, augStore i ov iv new = (do holding [new, ov, iv] (setItem ov iv new); release [new, ov, iv] []; pure .next) := by intros; rfl) : PS X (.AugAssign (.Subscript (.Name x p) i tpos) op e pos) (tS X.K xc T W A (.augS r f ci ce)) := ss_augS hf G.u1 hN hv hi he hd hcd ha
theorem qaug (r : Nat) (G : Gd X) (hf : f = .addI ∧ op = .Add ∨ f = .subI ∧ op = .Sub) (he : Sd X xc T W e ce) (hi : X.N[r]? = some x := by rfl) (hA : r ∈ A := by decide) (hx : Loc X.env.scope x := by first | exact Or.inl rfl | exact Or.inr rfl)
    (hfn : X.fn x = true ∨ X.env.scope.names.lookup x = some .local := by first | exact Or.inl rfl | exact Or.inr rfl) : PS X (.AugAssign (.Name x pos') op e pos) (tS X.K xc T W A (.asg (.nm r) (.p2 f (.var r) ce))) := ss_aug hf G.calm G.nd hi hA he hx hfn
/-- two tests of a comprehension as one -/
theorem pts_two {e1 e2 : Expr} {c1 c2 : CE} (h1 : Sd X xc T W e1 c1) (h2 : Sd X xc T W e2 c2) : PTs X [e1, e2] (tB (tI X.K xc T W (.andE c1 c2))) := by
  refine ⟨fun pins s σ H Q I h => ?_⟩
  have q1 : tB (tI X.K xc T W c1) σ H fun b H1 => if b = true then tB (tI X.K xc T W c2) σ H1 Q else Q false H1 := by
    refine (and_red h).imp fun v H1 ⟨c, e, z⟩ => ⟨c, e, ?_⟩
    cases c with
    | true => exact z
    | false =>
      simp only [Bool.false_eq_true, if_false] at z ⊢
      obtain ⟨c', e', z'⟩ := z
      cases e'
      exact z'
  simp only [List.forIn_cons, List.forIn_nil, if_true]
  refine wpAny_bind (wpAny_bind (thn (h1.pt.run pins s σ H _ I q1) fun b s1 ⟨H1, I1, q⟩ => wpAny_pure ?_))
  cases b with
  | false =>
    simp only [Bool.false_eq_true, if_false] at q ⊢
    exact wpAny_bind (wpAny_pure (wpAny_pure ⟨H1, I1, q⟩))
  | true =>
    simp only [if_true] at q ⊢
    exact wpAny_bind (wpAny_bind (thn (h2.pt.run pins s1 σ H1 _ I1 q) fun b s2 r => wpAny_pure (wpAny_pure r)))
end
/-! blocks within blocks: the scope by its own look -/
omit [Tbl] in
theorem blkOk_in {N M : List Str} {sc sd scope : Scope} {own : List (Str × Nat)} (h1 : M = N) (h2 : sd = sc) (h : BlkOk N sc scope own) : BlkOk M sd scope own := by subst h1 h2; exact h
omit [Tbl] in
theorem lamP_in {sc sd scope : Scope} {p : Str} (h2 : sd = sc) (h : LamP sc scope p) : LamP sd scope p := by subst h2; exact h
omit [Tbl] in
theorem tabIn_mk {K : PySem.W.Frag} {x : Str} {f cc PP : Addr} {oc oc2 : Value} {od od2 : Option Addr} {fd : FuncData} {sl sl2 : Array (Option Value)} {vs : Array Value} (a : PySem.W.nsIn K mainGlobals x = some (some (.ref f))) (l : K.lookup f = some ⟨oc, od, .func fd, sl⟩) (hc : fd.code = .ref cc)
    (l2 : K.lookup cc = some ⟨oc2, od2, .fields vs, sl2⟩) (h : (vs[11]? : Option Value) = some (.ref PP)) : PySem.W.tabIn K x = some (cc, PP) := by
  unfold PySem.W.tabIn
  simp only [a, l, hc, l2, h]
end Iv

namespace Iv
open PySem L2
open PyProof.Rows (envOfC)
set_option maxHeartbeats 4000000
/-! codes and derivations, printed by ivgen.py -/
def top (i : Nat) : Stmt := PySem.Challenge.pw_factorwebs_k09_excesses_of_lots.main.body.getD i (.Pass ⟨0, 0, 0, 0⟩)
abbrev st_lot_excess : Stmt := top 1
abbrev st_greatest_lot : Stmt := top 2
abbrev st_worst_lot : Stmt := top 3
abbrev st_greatest_excess : Stmt := top 4
abbrev st__law_pick : Stmt := top 7
abbrev st__law_of : Stmt := top 8
abbrev st__law_degrees : Stmt := top 9
abbrev st__law_all_pairs : Stmt := top 10
abbrev st__law_web : Stmt := top 11
abbrev st__law_row : Stmt := top 12
abbrev st__law_excess : Stmt := top 13
abbrev st__law_told_lot : Stmt := top 14
abbrev st__law_lots : Stmt := top 15
abbrev st_law : Stmt := top 16
abbrev st__law_source : Stmt := top 6
structure Mg (mg : Str → Option Value) : Prop where
  m_abs : mg "abs" = none
  m_enumerate : mg "enumerate" = none
  m_int : mg "int" = none
  m_len : mg "len" = none
  m_list : mg "list" = none
  m_max : mg "max" = none
  m_min : mg "min" = none
  m_range : mg "range" = none
  m_repr : mg "repr" = none
  m_sorted : mg "sorted" = none
  m_sum : mg "sum" = none
  m_tuple : mg "tuple" = none
def c_lot_excess : Def := ⟨2, 6, [], [.asg (.nm 2) (.p1 .len (.var 1)), .asg (.nm 3) (.p1 .sum (.comp false [4, 5] (.p2 .min2 (.var 2) (.var 5)) (.tp [.nm 4, .nm 5]) .enumT [.var 0] (.p2 .notin (.var 4) (.var 1)))), .ret (.p2 .sub (.p2 .sub (.p1 .sum (.comp false [4] (.ix (.var 0) (.var 4)) (.nm 4) .val [.var 1] (.con (.bool true)))) (.p2 .mul (.var 2) (.p2 .sub (.var 2) (.con (.int 1))))) (.var 3))]⟩
def N_lot_excess : List Str := ["row", "lot", "t", "others", "c", "number"]
def A_lot_excess : List Nat := [2, 3]
def c_greatest_lot : Def := ⟨2, 3, [], [.ret (.p1 .tupleOf (.p1 .sorted (.p2 .slTo (.sortK true 2 (.tup [.neg (.ix (.cap 0) (.cap 2)), .cap 2]) (.p1 .len (.var 0))) (.var 1))))]⟩
def N_greatest_lot : List Str := ["row", "t", "c"]
def A_greatest_lot : List Nat := []
def c_worst_lot : Def := ⟨1, 4, [], [.asg (.nm 1) (.tup []), .forS (.nm 2) .rng2 [.con (.int 1), .p2 .add (.p1 .len (.var 0)) (.con (.int 1))] [.asg (.nm 3) (.call (Str.ofString "greatest_lot") [.var 0, .var 2]), .asg (.nm 1) (.ife (.p2 .gt (.call (Str.ofString "lot_excess") [.var 0, .var 3]) (.call (Str.ofString "lot_excess") [.var 0, .var 1])) (.var 3) (.var 1))], .ret (.var 1)]⟩
def N_worst_lot : List Str := ["row", "found", "t", "lot"]
def A_worst_lot : List Nat := [1, 2, 3]
def c_greatest_excess : Def := ⟨1, 1, [], [.ret (.call (Str.ofString "lot_excess") [.var 0, .call (Str.ofString "worst_lot") [.var 0]])]⟩
def N_greatest_excess : List Str := ["row"]
def A_greatest_excess : List Nat := []
def c__law_pick : Def := ⟨2, 4, [true, false], [.whl (.andE (.p2 .gt (.var 1) (.con (.int 1))) (.andE (.p2 .lt (.ix (.var 0) (.con (.str (Str.ofString "left")))) (.con (.int 2))) (.p2 .gt (.p1 .len (.ix (.var 0) (.con (.str (Str.ofString "cells"))))) (.con (.int 0))))) [.set 0 [] (.con (.str (Str.ofString "left"))) (.mut .pop 0 [.con (.str (Str.ofString "cells"))] [])], .asg (.nm 2) (.ix (.var 0) (.con (.str (Str.ofString "left")))), .ite (.orE (.p2 .lt (.var 1) (.con (.int 2))) (.p2 .gt (.var 2) (.con (.int 1)))) [.set 0 [] (.con (.str (Str.ofString "left"))) (.p2 .fdiv (.var 2) (.p2 .max2 (.con (.int 1)) (.var 1))), .ret (.p2 .mod (.p1 .toInt (.var 2)) (.p2 .max2 (.con (.int 1)) (.var 1)))] [], .set 0 [] (.con (.str (Str.ofString "turn"))) (.p2 .add (.ix (.var 0) (.con (.str (Str.ofString "turn")))) (.con (.int 1))), .asg (.nm 3) (.p2 .mod (.p1 .toInt (.p2 .add (.ix (.var 0) (.con (.str (Str.ofString "mixed")))) (.p2 .mul (.ix (.var 0) (.con (.str (Str.ofString "turn")))) (.con (.int 104729))))) (.con (.int 998244353))), .asg (.nm 3) (.p2 .mod (.p1 .toInt (.p2 .add (.p2 .mul (.var 3) (.var 3)) (.p2 .mul (.ix (.var 0) (.con (.str (Str.ofString "turn")))) (.con (.int 17))))) (.con (.int 2147483647))), .set 0 [] (.con (.str (Str.ofString "mixed"))) (.var 3), .ret (.p2 .mod (.p1 .toInt (.p2 .fdiv (.var 3) (.con (.int 16)))) (.var 1))]⟩
def N__law_pick : List Str := ["source", "many", "left", "mixed"]
def A__law_pick : List Nat := [2, 3]
def c__law_of : Def := ⟨2, 2, [true, false], [.ret (.ix (.var 1) (.call (Str.ofString "_law_pick") [.var 0, .p1 .len (.var 1)]))]⟩
def N__law_of : List Str := ["source", "some"]
def A__law_of : List Nat := []
def c__law_degrees : Def := ⟨1, 3, [], [.ret (.p1 .tupleOf (.comp false [1] (.p1 .len (.comp false [2] (.con (.int 1)) (.nm 2) .val [.ix (.var 0) (.con (.int 1))] (.p2 .isin (.var 1) (.var 2)))) (.nm 1) .rng1 [.ix (.var 0) (.con (.int 0))] (.con (.bool true))))]⟩
def N__law_degrees : List Str := ["web", "c", "road"]
def A__law_degrees : List Nat := []
def c__law_all_pairs : Def := ⟨1, 4, [], [.asg (.nm 1) (.lst []), .forS (.nm 2) .rng1 [.var 0] [.asg (.nm 1) (.p2 .add (.var 1) (.comp false [3] (.tup [.var 2, .var 3]) (.nm 3) .rng2 [.p2 .add (.var 2) (.con (.int 1)), .var 0] (.con (.bool true))))], .ret (.var 1)]⟩
def N__law_all_pairs : List Str := ["n", "found", "a", "b"]
def A__law_all_pairs : List Nat := [1, 2]
def c__law_web : Def := ⟨2, 4, [true, false], [.asg (.nm 2) (.call (Str.ofString "_law_of") [.var 0, .lst [.con (.int 1), .con (.int 2), .con (.int 2), .con (.int 3)]]), .ret (.tup [.var 1, .p1 .tupleOf (.comp false [3] (.var 3) (.nm 3) .val [.call (Str.ofString "_law_all_pairs") [.var 1]] (.p2 .lt (.call (Str.ofString "_law_pick") [.var 0, .con (.int 4)]) (.var 2)))])]⟩
def N__law_web : List Str := ["source", "n", "share", "pair"]
def A__law_web : List Nat := [2]
def c__law_row : Def := ⟨2, 7, [true, false], [.par 2 3 (.call (Str.ofString "_law_pick") [.var 0, .con (.int 6)]) (.p1 .listOf (.call (Str.ofString "_law_degrees") [.call (Str.ofString "_law_web") [.var 0, .var 1]])), .ite (.p2 .lt (.var 2) (.con (.int 2))) [.ret (.p1 .tupleOf (.var 3))] [], .ite (.p2 .lt (.var 2) (.con (.int 4))) [.forS (.nm 4) .rng1 [.p2 .add (.con (.int 1)) (.call (Str.ofString "_law_pick") [.var 0, .con (.int 3)])] [.asg (.nm 5) (.call (Str.ofString "_law_pick") [.var 0, .var 1]), .set 3 [] (.var 5) (.p2 .max2 (.con (.int 0)) (.p2 .add (.ix (.var 3) (.var 5)) (.call (Str.ofString "_law_of") [.var 0, .lst [.con (.int 1), .con (.int 1), .p1 .neg (.con (.int 1)), .con (.int 2)]])))], .ret (.p1 .tupleOf (.var 3))] [], .asg (.nm 6) (.ife (.p2 .eq (.var 2) (.con (.int 4))) (.p2 .add (.var 1) (.con (.int 1))) (.call (Str.ofString "_law_of") [.var 0, .lst [.con (.int 2), .con (.int 3), .con (.int 99)]])), .ret (.p1 .tupleOf (.comp false [5] (.call (Str.ofString "_law_pick") [.var 0, .p2 .add (.var 6) (.con (.int 1))]) (.nm 5) .rng1 [.var 1] (.con (.bool true))))]⟩
def N__law_row : List Str := ["source", "n", "way", "row", "lap", "k", "most"]
def A__law_row : List Nat := [2, 3, 4, 5, 6]
def c__law_excess : Def := ⟨2, 4, [], [.asg (.nm 2) (.p1 .len (.var 1)), .ret (.p2 .sub (.p2 .sub (.p1 .sum (.comp false [3] (.ix (.var 0) (.var 3)) (.nm 3) .val [.var 1] (.con (.bool true)))) (.p2 .mul (.var 2) (.p2 .sub (.var 2) (.con (.int 1))))) (.p1 .sum (.comp false [3] (.p2 .min2 (.var 2) (.ix (.var 0) (.var 3))) (.nm 3) .rng1 [.p1 .len (.var 0)] (.p2 .notin (.var 3) (.var 1)))))]⟩
def N__law_excess : List Str := ["row", "lot", "t", "c"]
def A__law_excess : List Nat := [2]
def c__law_told_lot : Def := ⟨2, 6, [], [.asg (.nm 2) (.comp false [5, 3] (.var 3) (.tp [.nm 5, .nm 3]) .val [.p1 .sorted (.comp false [3, 4] (.tup [.p2 .sub (.con (.int 0)) (.var 4), .var 3]) (.tp [.nm 3, .nm 4]) .enumT [.var 0] (.con (.bool true)))] (.con (.bool true))), .ret (.p1 .tupleOf (.p1 .sorted (.p2 .slTo (.var 2) (.var 1))))]⟩
def N__law_told_lot : List Str := ["row", "t", "order", "c", "number", "less"]
def A__law_told_lot : List Nat := [2]
def c__law_lots : Def := ⟨1, 4, [], [.asg (.nm 1) (.lst [.tup []]), .forS (.nm 2) .rng1 [.var 0] [.asg (.nm 1) (.p2 .add (.var 1) (.comp false [3] (.p2 .addT (.var 3) (.tup [.var 2])) (.nm 3) .val [.var 1] (.con (.bool true))))], .ret (.var 1)]⟩
def N__law_lots : List Str := ["n", "found", "c", "lot"]
def A__law_lots : List Nat := [1, 2]
def c_law : Def := ⟨1, 15, [], [.forS (.nm 2) .rng1 [.con (.int 5)] [.asg (.nm 3) (.p2 .add (.con (.int 1)) (.call (Str.ofString "_law_pick") [.var 1, .ix (.lst [.con (.int 4), .con (.int 8), .con (.int 12), .con (.int 7), .con (.int 12)]) (.var 2)])), .asg (.nm 4) (.call (Str.ofString "_law_row") [.var 1, .var 3]), .par 5 6 (.p1 .repr (.var 4)) (.comp false [11] (.call (Str.ofString "_law_told_lot") [.var 4, .var 11]) (.nm 11) .rng1 [.p2 .add (.var 3) (.con (.int 1))] (.con (.bool true))), .ite (.p2 .ne (.p1 .repr (.comp false [11] (.call (Str.ofString "greatest_lot") [.var 4, .var 11]) (.nm 11) .rng1 [.p2 .add (.var 3) (.con (.int 1))] (.con (.bool true)))) (.p1 .repr (.var 6))) [.ret (.con (.bool false))] [], .asg (.nm 7) (.comp false [12] (.call (Str.ofString "_law_excess") [.var 4, .var 12]) (.nm 12) .val [.var 6] (.con (.bool true))), .asg (.nm 8) (.lst [.p1 .maxOf (.var 7), .ix (.var 6) (.idx (.var 7) (.p1 .maxOf (.var 7)))]), .ite (.p2 .ne (.p1 .repr (.lst [.call (Str.ofString "greatest_excess") [.var 4], .call (Str.ofString "worst_lot") [.var 4]])) (.p1 .repr (.var 8))) [.ret (.con (.bool false))] [], .asg (.nm 9) (.comp false [13] (.p1 .tupleOf (.comp false [14] (.var 14) (.nm 14) .rng1 [.var 3] (.p2 .eq (.call (Str.ofString "_law_pick") [.var 1, .con (.int 2)]) (.con (.int 0))))) (.nm 13) .rng1 [.con (.int 4)] (.con (.bool true))), .ite (.p2 .ne (.p1 .repr (.comp false [12] (.call (Str.ofString "lot_excess") [.var 4, .var 12]) (.nm 12) .val [.p2 .add (.var 9) (.var 6)] (.con (.bool true)))) (.p1 .repr (.comp false [12] (.call (Str.ofString "_law_excess") [.var 4, .var 12]) (.nm 12) .val [.p2 .add (.var 9) (.var 6)] (.con (.bool true))))) [.ret (.con (.bool false))] [], .ite (.andE (.p2 .lt (.var 3) (.con (.int 8))) (.p2 .ne (.comp false [12] (.con (.int 1)) (.nm 12) .val [.call (Str.ofString "_law_lots") [.var 3]] (.p2 .gt (.call (Str.ofString "_law_excess") [.var 4, .var 12]) (.ix (.var 7) (.p1 .len (.var 12))))) (.lst []))) [.ret (.con (.bool false))] [], .ite (.p2 .ne (.p1 .repr (.var 4)) (.var 5)) [.ret (.con (.bool false))] []], .asg (.nm 10) (.lst [.call (Str.ofString "lot_excess") [.tup [.con (.int 3), .con (.int 3), .con (.int 1), .con (.int 1)], .tup [.con (.int 0), .con (.int 1)]], .call (Str.ofString "greatest_lot") [.tup [.con (.int 1), .con (.int 2), .con (.int 2)], .con (.int 1)], .call (Str.ofString "worst_lot") [.tup [.con (.int 3), .con (.int 3), .con (.int 3)]], .call (Str.ofString "greatest_excess") [.tup [.con (.int 0)]]]), .ret (.p2 .eq (.p1 .repr (.var 10)) (.p1 .repr (.lst [.con (.int 2), .tup [.con (.int 1)], .tup [.con (.int 0), .con (.int 1), .con (.int 2)], .con (.int 0)])))]⟩
def N_law : List Str := ["script", "source", "lap", "n", "row", "kept", "lots", "excesses", "due", "some", "told", "t", "lot", "turn", "c"]
def A_law : List Nat := [1, 2, 3, 4, 5, 6, 7, 8, 9, 10]
def defs (f : Str) : Option Def :=
  if f = "lot_excess" then some c_lot_excess else
  if f = "greatest_lot" then some c_greatest_lot else
  if f = "worst_lot" then some c_worst_lot else
  if f = "greatest_excess" then some c_greatest_excess else
  if f = "_law_pick" then some c__law_pick else
  if f = "_law_of" then some c__law_of else
  if f = "_law_degrees" then some c__law_degrees else
  if f = "_law_all_pairs" then some c__law_all_pairs else
  if f = "_law_web" then some c__law_web else
  if f = "_law_row" then some c__law_row else
  if f = "_law_excess" then some c__law_excess else
  if f = "_law_told_lot" then some c__law_told_lot else
  if f = "_law_lots" then some c__law_lots else
  none
section
variable [Tbl]
variable {P : Program} {w : World} {K : PySem.W.Frag} {mg : Str → Option Value} {base : Heap} {k : Nat} {xc : Str → Value} {T : Tab} {cdv : Value} {A : Around} {outer : List PySem.Env} {s : Shared} {H : Hp} {f : Addr}
theorem sc_lot_excess : FnScope N_lot_excess ["row", "lot"] (defScope st_lot_excess) := ⟨rfl, rfl, rfl, by decide +kernel, rfl, by decide +kernel, by decide +kernel⟩
theorem ss_lot_excess (M : Mg mg)  (hg : A.guards = some []) (hr : Room k (A.deeper (envOfC "lot_excess" (defScope st_lot_excess) s.heap.objs.size f cdv))) : PSs (cxN P w K mg base N_lot_excess "lot_excess" (defScope st_lot_excess) f cdv A outer s H) (defBody st_lot_excess) (tSs K xc T WF A_lot_excess c_lot_excess.body) := by
  have G : Gd (cxN P w K mg base N_lot_excess "lot_excess" (defScope st_lot_excess) f cdv A outer s H) := ⟨rfl, sc_lot_excess.nd, (show (A.deeper (envOfC "lot_excess" (defScope st_lot_excess) s.heap.objs.size f cdv)).units + 200 < cLine by have := hr.un; omega), hg⟩
  exact (sss_cons (qasg (qc1 (n := 0) (pr_len G) M.m_len boot_len' (qv 1)) (qn G.nd))
    (sss_cons (qasg (qc1 (n := 0) (pr_sum G) M.m_sum boot_sum' (sd_comp1 (own := [((Str.ofString "c"), 4), ((Str.ofString "number"), 5)]) (dp := false) G (si_enumT (by rfl) M.m_enumerate (qac (qv 0) sa_nil)) (show BlkOk N_lot_excess (defScope st_lot_excess) _ _ from ⟨rfl, by decide +kernel, by decide +kernel, by decide +kernel, by decide +kernel⟩) (fun _ _ _ _ _ => (qtg G.calm (qgc (qn G.nd) (qgc (qn G.nd) sgs_nil)))) (fun _ _ _ _ _ => ((sd_cmp (pr_notin (Gd.blk G)) rfl (qv 4) (qv 1))).pt) (fun _ _ _ _ _ => ((qc2 (pr_min2 (Gd.blk G)) M.m_min boot_min' (qv 2) (qv 5))).pe) (fun _ => rfl))) (qn G.nd))
    (sss_cons (ss_ret (sd_bin (pr_sub G) (sd_bin (pr_sub G) (qc1 (n := 0) (pr_sum G) M.m_sum boot_sum' (sd_comp0 (own := [((Str.ofString "c"), 4)]) (dp := false) G (si_val (qv 1)) (show BlkOk N_lot_excess (defScope st_lot_excess) _ _ from ⟨rfl, by decide +kernel, by decide +kernel, by decide +kernel, by decide +kernel⟩) (fun _ _ _ _ _ => (qn G.nd)) (fun _ _ _ _ _ => ((qix (Gd.blk G) (qv 0) (qv 4))).pe) (fun _ => rfl))) (sd_bin (pr_mul G) (qv 2) (sd_bin (pr_sub G) (qv 2) sd_int))) (qv 3)))
    sss_nil)))
theorem sc_greatest_lot : FnScope N_greatest_lot ["row", "t"] (defScope st_greatest_lot) := ⟨rfl, rfl, rfl, by decide +kernel, rfl, by decide +kernel, by decide +kernel⟩
theorem ss_greatest_lot (M : Mg mg) {cc PP : Addr} (TB : LamX.TabB base mg cc PP) (hmT : (PP, ((("greatest_lot" : Str) ++ ".<locals>.") ++ "<lambda>")) ∈ Tbl.T)  (hg : A.guards = some []) (hr : Room k (A.deeper (envOfC "greatest_lot" (defScope st_greatest_lot) s.heap.objs.size f (Value.ref cc)))) : PSs (cxN P w K mg base N_greatest_lot "greatest_lot" (defScope st_greatest_lot) f (Value.ref cc) A outer s H) (defBody st_greatest_lot) (tSs K xc T WF A_greatest_lot c_greatest_lot.body) := by
  have G : Gd (cxN P w K mg base N_greatest_lot "greatest_lot" (defScope st_greatest_lot) f (Value.ref cc) A outer s H) := ⟨rfl, sc_greatest_lot.nd, (show (A.deeper (envOfC "greatest_lot" (defScope st_greatest_lot) s.heap.objs.size f (Value.ref cc))).units + 200 < cLine by have := hr.un; omega), hg⟩
  exact (sss_cons (ss_ret (qt1 (pr_tuple G) M.m_tuple boot_tuple' (qc1 (n := 0) (pr_sorted G) M.m_sorted boot_sorted' (sd_slTo G (sd_sortKR G hr TB rfl hmT M.m_sorted boot_sorted' M.m_range (lamP_in (sc := defScope st_greatest_lot) (by exact rfl) (lamP_by (by decide +kernel))) (i := 2) rfl rfl (fun _ _ _ _ _ _ => rfl) (fun pe hs => (kp_tup (kq_cons (kp_neg (kq_ix (kq_cap hs 0) (kq_cap hs 2))) (kq_cons (kq_cap hs 2) kps_nil)))) (qc1 (n := 0) (pr_len G) M.m_len boot_len' (qv 0))) (qv 1)))))
    sss_nil)
theorem sc_worst_lot : FnScope N_worst_lot ["row"] (defScope st_worst_lot) := ⟨rfl, rfl, rfl, by decide +kernel, rfl, by decide +kernel, by decide +kernel⟩
theorem ss_worst_lot (M : Mg mg) (C_greatest_lot : CalG P w K mg base k xc T "greatest_lot" []) (C_lot_excess : CalG P w K mg base k xc T "lot_excess" []) (hg : A.guards = some []) (hr : Room k (A.deeper (envOfC "worst_lot" (defScope st_worst_lot) s.heap.objs.size f cdv))) : PSs (cxN P w K mg base N_worst_lot "worst_lot" (defScope st_worst_lot) f cdv A outer s H) (defBody st_worst_lot) (tSs K xc T WF A_worst_lot c_worst_lot.body) := by
  have G : Gd (cxN P w K mg base N_worst_lot "worst_lot" (defScope st_worst_lot) f cdv A outer s H) := ⟨rfl, sc_worst_lot.nd, (show (A.deeper (envOfC "worst_lot" (defScope st_worst_lot) s.heap.objs.size f cdv)).units + 200 < cLine by have := hr.un; omega), hg⟩
  exact (sss_cons (qasg (qtup sa_nil) (qn G.nd))
    (sss_cons (ss_for PassesOwn.never G.calm (si_rng2 (by rfl) M.m_range (qac sd_int (qac (sd_bin (pr_add G) (qc1 (n := 0) (pr_len G) M.m_len boot_len' (qv 0)) sd_int) sa_nil)) (by rfl) (by rfl)) (qn G.nd) (sss_cons (qasg (qcall G hr C_greatest_lot (qac (qv 0) (qac (qv 2) sa_nil))) (qn G.nd))
    (sss_cons (qasg (sd_ife (sd_cmp (pr_gt G) rfl (qcall G hr C_lot_excess (qac (qv 0) (qac (qv 3) sa_nil))) (qcall G hr C_lot_excess (qac (qv 0) (qac (qv 1) sa_nil)))) (qv 3) (qv 1)) (qn G.nd))
    sss_nil)) (fun _ => rfl))
    (sss_cons (ss_ret (qv 1))
    sss_nil)))
theorem sc_greatest_excess : FnScope N_greatest_excess ["row"] (defScope st_greatest_excess) := ⟨rfl, rfl, rfl, by decide +kernel, rfl, by decide +kernel, by decide +kernel⟩
theorem ss_greatest_excess (M : Mg mg) (C_lot_excess : CalG P w K mg base k xc T "lot_excess" []) (C_worst_lot : CalG P w K mg base k xc T "worst_lot" []) (hg : A.guards = some []) (hr : Room k (A.deeper (envOfC "greatest_excess" (defScope st_greatest_excess) s.heap.objs.size f cdv))) : PSs (cxN P w K mg base N_greatest_excess "greatest_excess" (defScope st_greatest_excess) f cdv A outer s H) (defBody st_greatest_excess) (tSs K xc T WF A_greatest_excess c_greatest_excess.body) := by
  have G : Gd (cxN P w K mg base N_greatest_excess "greatest_excess" (defScope st_greatest_excess) f cdv A outer s H) := ⟨rfl, sc_greatest_excess.nd, (show (A.deeper (envOfC "greatest_excess" (defScope st_greatest_excess) s.heap.objs.size f cdv)).units + 200 < cLine by have := hr.un; omega), hg⟩
  exact (sss_cons (ss_ret (qcall G hr C_lot_excess (qac (qv 0) (qac (qcall G hr C_worst_lot (qac (qv 0) sa_nil)) sa_nil))))
    sss_nil)
theorem sc__law_pick : FnScope N__law_pick ["source", "many"] (defScope st__law_pick) := ⟨rfl, rfl, rfl, by decide +kernel, rfl, by decide +kernel, by decide +kernel⟩
theorem ss__law_pick (M : Mg mg)  (hg : A.guards = some []) (hr : Room k (A.deeper (envOfC "_law_pick" (defScope st__law_pick) s.heap.objs.size f cdv))) : PSs (cxN P w K mg base N__law_pick "_law_pick" (defScope st__law_pick) f cdv A outer s H) (defBody st__law_pick) (tSs K xc T WF A__law_pick c__law_pick.body) := by
  have G : Gd (cxN P w K mg base N__law_pick "_law_pick" (defScope st__law_pick) f cdv A outer s H) := ⟨rfl, sc__law_pick.nd, (show (A.deeper (envOfC "_law_pick" (defScope st__law_pick) s.heap.objs.size f cdv)).units + 200 < cLine by have := hr.un; omega), hg⟩
  exact (sss_cons (ss_whl PassesOwn.never (sb_and (sd_cmp (pr_gt G) rfl (qv 1) sd_int) (sb_and (sd_cmp (pr_lt G) rfl (qix G (qv 0) sd_str) sd_int) (sb_and1 (sd_cmp (pr_gt G) rfl (qc1 (n := 0) (pr_len G) M.m_len boot_len' (qix G (qv 0) sd_str)) sd_int)))).sd (sss_cons (qset 0 G sd_str (qmN1 (m := .pop) 0 G PySem.F.slot_list_pop PySem.F.type_list_pop mt_pop sd_str ))
    sss_nil))
    (sss_cons (qasg (qix G (qv 0) sd_str) (qn G.nd))
    (sss_cons (ss_ite (sb_or (sd_cmp (pr_lt G) rfl (qv 1) sd_int) (sb_or1 (sd_cmp (pr_gt G) rfl (qv 2) sd_int))).sd (sss_cons (qset 0 G sd_str (sd_bin (pr_fdiv G) (qv 2) (qc2 (pr_max2 G) M.m_max boot_max' sd_int (qv 1))))
    (sss_cons (ss_ret (sd_bin (pr_mod G) (qt1 (pr_int G) M.m_int boot_int' (qv 2)) (qc2 (pr_max2 G) M.m_max boot_max' sd_int (qv 1))))
    sss_nil)) sss_nil)
    (sss_cons (qset 0 G sd_str (sd_bin (pr_add G) (qix G (qv 0) sd_str) sd_int))
    (sss_cons (qasg (sd_bin (pr_mod G) (qt1 (pr_int G) M.m_int boot_int' (sd_bin (pr_add G) (qix G (qv 0) sd_str) (sd_bin (pr_mul G) (qix G (qv 0) sd_str) sd_int))) sd_int) (qn G.nd))
    (sss_cons (qasg (sd_bin (pr_mod G) (qt1 (pr_int G) M.m_int boot_int' (sd_bin (pr_add G) (sd_bin (pr_mul G) (qv 3) (qv 3)) (sd_bin (pr_mul G) (qix G (qv 0) sd_str) sd_int))) sd_int) (qn G.nd))
    (sss_cons (qset 0 G sd_str (qv 3))
    (sss_cons (ss_ret (sd_bin (pr_mod G) (qt1 (pr_int G) M.m_int boot_int' (sd_bin (pr_fdiv G) (qv 3) sd_int)) (qv 1)))
    sss_nil))))))))
theorem sc__law_of : FnScope N__law_of ["source", "some"] (defScope st__law_of) := ⟨rfl, rfl, rfl, by decide +kernel, rfl, by decide +kernel, by decide +kernel⟩
theorem ss__law_of (M : Mg mg) (C__law_pick : CalG P w K mg base k xc T "_law_pick" [true, false]) (hg : A.guards = some []) (hr : Room k (A.deeper (envOfC "_law_of" (defScope st__law_of) s.heap.objs.size f cdv))) : PSs (cxN P w K mg base N__law_of "_law_of" (defScope st__law_of) f cdv A outer s H) (defBody st__law_of) (tSs K xc T WF A__law_of c__law_of.body) := by
  have G : Gd (cxN P w K mg base N__law_of "_law_of" (defScope st__law_of) f cdv A outer s H) := ⟨rfl, sc__law_of.nd, (show (A.deeper (envOfC "_law_of" (defScope st__law_of) s.heap.objs.size f cdv)).units + 200 < cLine by have := hr.un; omega), hg⟩
  exact (sss_cons (ss_ret (qix G (qv 1) (qcall G hr C__law_pick (qac (qv 0) (qac (qc1 (n := 0) (pr_len G) M.m_len boot_len' (qv 1)) sa_nil)))))
    sss_nil)
theorem sc__law_degrees : FnScope N__law_degrees ["web"] (defScope st__law_degrees) := ⟨rfl, rfl, rfl, by decide +kernel, rfl, by decide +kernel, by decide +kernel⟩
theorem ss__law_degrees (M : Mg mg)  (hg : A.guards = some []) (hr : Room k (A.deeper (envOfC "_law_degrees" (defScope st__law_degrees) s.heap.objs.size f cdv))) : PSs (cxN P w K mg base N__law_degrees "_law_degrees" (defScope st__law_degrees) f cdv A outer s H) (defBody st__law_degrees) (tSs K xc T WF A__law_degrees c__law_degrees.body) := by
  have G : Gd (cxN P w K mg base N__law_degrees "_law_degrees" (defScope st__law_degrees) f cdv A outer s H) := ⟨rfl, sc__law_degrees.nd, (show (A.deeper (envOfC "_law_degrees" (defScope st__law_degrees) s.heap.objs.size f cdv)).units + 200 < cLine by have := hr.un; omega), hg⟩
  exact (sss_cons (ss_ret (qt1 (pr_tuple G) M.m_tuple boot_tuple' (sd_comp0 (own := [((Str.ofString "c"), 1)]) (dp := false) G (si_rng1 (by rfl) M.m_range (qac (qix G (qv 0) sd_int) sa_nil) (by rfl)) (show BlkOk N__law_degrees (defScope st__law_degrees) _ _ from ⟨rfl, by decide +kernel, by decide +kernel, by decide +kernel, by decide +kernel⟩) (fun _ _ _ _ _ => (qn G.nd)) (fun _ _ _ _ _ => ((qc1 (n := 0) (pr_len (Gd.blk G)) M.m_len boot_len' (sd_comp1 (own := [((Str.ofString "road"), 2)]) (dp := false) (Gd.blk G) (si_val (qix (Gd.blk G) (qv 0) sd_int)) (blkOk_in (N := N__law_degrees) (sc := (relS _ (defScope st__law_degrees))) (by exact rfl) (by exact rfl) (blkOk_by (by decide +kernel))) (fun _ _ _ _ _ => (qn (Gd.blk G).nd)) (fun _ _ _ _ _ => ((sd_cmp (pr_in (Gd.blk (Gd.blk G))) rfl (qv 1) (qv 2))).pt) (fun _ _ _ _ _ => (sd_int).pe) (fun _ => rfl)))).pe) (fun _ => rfl))))
    sss_nil)
theorem sc__law_all_pairs : FnScope N__law_all_pairs ["n"] (defScope st__law_all_pairs) := ⟨rfl, rfl, rfl, by decide +kernel, rfl, by decide +kernel, by decide +kernel⟩
theorem ss__law_all_pairs (M : Mg mg)  (hg : A.guards = some []) (hr : Room k (A.deeper (envOfC "_law_all_pairs" (defScope st__law_all_pairs) s.heap.objs.size f cdv))) : PSs (cxN P w K mg base N__law_all_pairs "_law_all_pairs" (defScope st__law_all_pairs) f cdv A outer s H) (defBody st__law_all_pairs) (tSs K xc T WF A__law_all_pairs c__law_all_pairs.body) := by
  have G : Gd (cxN P w K mg base N__law_all_pairs "_law_all_pairs" (defScope st__law_all_pairs) f cdv A outer s H) := ⟨rfl, sc__law_all_pairs.nd, (show (A.deeper (envOfC "_law_all_pairs" (defScope st__law_all_pairs) s.heap.objs.size f cdv)).units + 200 < cLine by have := hr.un; omega), hg⟩
  exact (sss_cons (qasg (qlst sa_nil) (qn G.nd))
    (sss_cons (ss_for PassesOwn.never G.calm (si_rng1 (by rfl) M.m_range (qac (qv 0) sa_nil) (by rfl)) (qn G.nd) (sss_cons (qasg (sd_bin (pr_add G) (qv 1) (sd_comp0 (own := [((Str.ofString "b"), 3)]) (dp := false) G (si_rng2 (by rfl) M.m_range (qac (sd_bin (pr_add G) (qv 2) sd_int) (qac (qv 0) sa_nil)) (by rfl) (by rfl)) (show BlkOk N__law_all_pairs (defScope st__law_all_pairs) _ _ from ⟨rfl, by decide +kernel, by decide +kernel, by decide +kernel, by decide +kernel⟩) (fun _ _ _ _ _ => (qn G.nd)) (fun _ _ _ _ _ => ((qtup (qac (qv 2) (qac (qv 3) sa_nil)))).pe) (fun _ => rfl))) (qn G.nd))
    sss_nil) (fun _ => rfl))
    (sss_cons (ss_ret (qv 1))
    sss_nil)))
theorem sc__law_web : FnScope N__law_web ["source", "n"] (defScope st__law_web) := ⟨rfl, rfl, rfl, by decide +kernel, rfl, by decide +kernel, by decide +kernel⟩
theorem ss__law_web (M : Mg mg) (C__law_all_pairs : CalG P w K mg base k xc T "_law_all_pairs" []) (C__law_of : CalG P w K mg base k xc T "_law_of" [true, false]) (C__law_pick : CalG P w K mg base k xc T "_law_pick" [true, false]) (hg : A.guards = some []) (hr : Room k (A.deeper (envOfC "_law_web" (defScope st__law_web) s.heap.objs.size f cdv))) : PSs (cxN P w K mg base N__law_web "_law_web" (defScope st__law_web) f cdv A outer s H) (defBody st__law_web) (tSs K xc T WF A__law_web c__law_web.body) := by
  have G : Gd (cxN P w K mg base N__law_web "_law_web" (defScope st__law_web) f cdv A outer s H) := ⟨rfl, sc__law_web.nd, (show (A.deeper (envOfC "_law_web" (defScope st__law_web) s.heap.objs.size f cdv)).units + 200 < cLine by have := hr.un; omega), hg⟩
  exact (sss_cons (qasg (qcall G hr C__law_of (qac (qv 0) (qac (qlst (qac sd_int (qac sd_int (qac sd_int (qac sd_int sa_nil))))) sa_nil))) (qn G.nd))
    (sss_cons (ss_ret (qtup (qac (qv 1) (qac (qt1 (pr_tuple G) M.m_tuple boot_tuple' (sd_comp1 (own := [((Str.ofString "pair"), 3)]) (dp := false) G (si_val (qcall G hr C__law_all_pairs (qac (qv 1) sa_nil))) (show BlkOk N__law_web (defScope st__law_web) _ _ from ⟨rfl, by decide +kernel, by decide +kernel, by decide +kernel, by decide +kernel⟩) (fun _ _ _ _ _ => (qn G.nd)) (fun _ _ _ _ _ => ((sd_cmp (pr_lt (Gd.blk G)) rfl (qcall (Gd.blk G) hr C__law_pick (qac (qv 0) (qac sd_int sa_nil))) (qv 2))).pt) (fun _ _ _ _ _ => ((qv 3)).pe) (fun _ => rfl))) sa_nil))))
    sss_nil))
theorem sc__law_row : FnScope N__law_row ["source", "n"] (defScope st__law_row) := ⟨rfl, rfl, rfl, by decide +kernel, rfl, by decide +kernel, by decide +kernel⟩
theorem ss__law_row (M : Mg mg) (C__law_degrees : CalG P w K mg base k xc T "_law_degrees" []) (C__law_of : CalG P w K mg base k xc T "_law_of" [true, false]) (C__law_pick : CalG P w K mg base k xc T "_law_pick" [true, false]) (C__law_web : CalG P w K mg base k xc T "_law_web" [true, false]) (hg : A.guards = some []) (hr : Room k (A.deeper (envOfC "_law_row" (defScope st__law_row) s.heap.objs.size f cdv))) : PSs (cxN P w K mg base N__law_row "_law_row" (defScope st__law_row) f cdv A outer s H) (defBody st__law_row) (tSs K xc T WF A__law_row c__law_row.body) := by
  have G : Gd (cxN P w K mg base N__law_row "_law_row" (defScope st__law_row) f cdv A outer s H) := ⟨rfl, sc__law_row.nd, (show (A.deeper (envOfC "_law_row" (defScope st__law_row) s.heap.objs.size f cdv)).units + 200 < cLine by have := hr.un; omega), hg⟩
  exact (sss_cons (ss_par G.calm G.nd (i := 2) (j := 3) rfl rfl (by decide) rfl rfl (qac (qcall G hr C__law_pick (qac (qv 0) (qac sd_int sa_nil))) (qac (qt1 (pr_list G) M.m_list boot_list' (qcall G hr C__law_degrees (qac (qcall G hr C__law_web (qac (qv 0) (qac (qv 1) sa_nil))) sa_nil))) sa_nil)) (by decide) (by decide) rfl rfl)
    (sss_cons (ss_ite (sd_cmp (pr_lt G) rfl (qv 2) sd_int) (sss_cons (ss_ret (qt1 (pr_tuple G) M.m_tuple boot_tuple' (qv 3)))
    sss_nil) sss_nil)
    (sss_cons (ss_ite (sd_cmp (pr_lt G) rfl (qv 2) sd_int) (sss_cons (ss_for PassesOwn.never G.calm (si_rng1 (by rfl) M.m_range (qac (sd_bin (pr_add G) sd_int (qcall G hr C__law_pick (qac (qv 0) (qac sd_int sa_nil)))) sa_nil) (by rfl)) (qn G.nd) (sss_cons (qasg (qcall G hr C__law_pick (qac (qv 0) (qac (qv 1) sa_nil))) (qn G.nd))
    (sss_cons (qset 3 G (qv 5) (qc2 (pr_max2 G) M.m_max boot_max' sd_int (sd_bin (pr_add G) (qix G (qv 3) (qv 5)) (qcall G hr C__law_of (qac (qv 0) (qac (qlst (qac sd_int (qac sd_int (qac (sd_un (pr_neg G) sd_int (fun _ => rfl)) (qac sd_int sa_nil))))) sa_nil))))))
    sss_nil)) (fun _ => rfl))
    (sss_cons (ss_ret (qt1 (pr_tuple G) M.m_tuple boot_tuple' (qv 3)))
    sss_nil)) sss_nil)
    (sss_cons (qasg (sd_ife (sd_cmp (pr_eq G) rfl (qv 2) sd_int) (sd_bin (pr_add G) (qv 1) sd_int) (qcall G hr C__law_of (qac (qv 0) (qac (qlst (qac sd_int (qac sd_int (qac sd_int sa_nil)))) sa_nil)))) (qn G.nd))
    (sss_cons (ss_ret (qt1 (pr_tuple G) M.m_tuple boot_tuple' (sd_comp0 (own := [((Str.ofString "k"), 5)]) (dp := false) G (si_rng1 (by rfl) M.m_range (qac (qv 1) sa_nil) (by rfl)) (show BlkOk N__law_row (defScope st__law_row) _ _ from ⟨rfl, by decide +kernel, by decide +kernel, by decide +kernel, by decide +kernel⟩) (fun _ _ _ _ _ => (qn G.nd)) (fun _ _ _ _ _ => ((qcall (Gd.blk G) hr C__law_pick (qac (qv 0) (qac (sd_bin (pr_add (Gd.blk G)) (qv 6) sd_int) sa_nil)))).pe) (fun _ => rfl))))
    sss_nil)))))
theorem sc__law_excess : FnScope N__law_excess ["row", "lot"] (defScope st__law_excess) := ⟨rfl, rfl, rfl, by decide +kernel, rfl, by decide +kernel, by decide +kernel⟩
theorem ss__law_excess (M : Mg mg)  (hg : A.guards = some []) (hr : Room k (A.deeper (envOfC "_law_excess" (defScope st__law_excess) s.heap.objs.size f cdv))) : PSs (cxN P w K mg base N__law_excess "_law_excess" (defScope st__law_excess) f cdv A outer s H) (defBody st__law_excess) (tSs K xc T WF A__law_excess c__law_excess.body) := by
  have G : Gd (cxN P w K mg base N__law_excess "_law_excess" (defScope st__law_excess) f cdv A outer s H) := ⟨rfl, sc__law_excess.nd, (show (A.deeper (envOfC "_law_excess" (defScope st__law_excess) s.heap.objs.size f cdv)).units + 200 < cLine by have := hr.un; omega), hg⟩
  exact (sss_cons (qasg (qc1 (n := 0) (pr_len G) M.m_len boot_len' (qv 1)) (qn G.nd))
    (sss_cons (ss_ret (sd_bin (pr_sub G) (sd_bin (pr_sub G) (qc1 (n := 0) (pr_sum G) M.m_sum boot_sum' (sd_comp0 (own := [((Str.ofString "c"), 3)]) (dp := false) G (si_val (qv 1)) (show BlkOk N__law_excess (defScope st__law_excess) _ _ from ⟨rfl, by decide +kernel, by decide +kernel, by decide +kernel, by decide +kernel⟩) (fun _ _ _ _ _ => (qn G.nd)) (fun _ _ _ _ _ => ((qix (Gd.blk G) (qv 0) (qv 3))).pe) (fun _ => rfl))) (sd_bin (pr_mul G) (qv 2) (sd_bin (pr_sub G) (qv 2) sd_int))) (qc1 (n := 0) (pr_sum G) M.m_sum boot_sum' (sd_comp1 (own := [((Str.ofString "c"), 3)]) (dp := false) G (si_rng1 (by rfl) M.m_range (qac (qc1 (n := 0) (pr_len G) M.m_len boot_len' (qv 0)) sa_nil) (by rfl)) (show BlkOk N__law_excess (defScope st__law_excess) _ _ from ⟨rfl, by decide +kernel, by decide +kernel, by decide +kernel, by decide +kernel⟩) (fun _ _ _ _ _ => (qn G.nd)) (fun _ _ _ _ _ => ((sd_cmp (pr_notin (Gd.blk G)) rfl (qv 3) (qv 1))).pt) (fun _ _ _ _ _ => ((qc2 (pr_min2 (Gd.blk G)) M.m_min boot_min' (qv 2) (qix (Gd.blk G) (qv 0) (qv 3)))).pe) (fun _ => rfl)))))
    sss_nil))
theorem sc__law_told_lot : FnScope N__law_told_lot ["row", "t"] (defScope st__law_told_lot) := ⟨rfl, rfl, rfl, by decide +kernel, rfl, by decide +kernel, by decide +kernel⟩
theorem ss__law_told_lot (M : Mg mg)  (hg : A.guards = some []) (hr : Room k (A.deeper (envOfC "_law_told_lot" (defScope st__law_told_lot) s.heap.objs.size f cdv))) : PSs (cxN P w K mg base N__law_told_lot "_law_told_lot" (defScope st__law_told_lot) f cdv A outer s H) (defBody st__law_told_lot) (tSs K xc T WF A__law_told_lot c__law_told_lot.body) := by
  have G : Gd (cxN P w K mg base N__law_told_lot "_law_told_lot" (defScope st__law_told_lot) f cdv A outer s H) := ⟨rfl, sc__law_told_lot.nd, (show (A.deeper (envOfC "_law_told_lot" (defScope st__law_told_lot) s.heap.objs.size f cdv)).units + 200 < cLine by have := hr.un; omega), hg⟩
  exact (sss_cons (ss_setLc0 (own := [((Str.ofString "less"), 5), ((Str.ofString "c"), 3)]) (dp := false) G (i := 2) rfl rfl (by decide) rfl (si_val (qc1 (n := 0) (pr_sorted G) M.m_sorted boot_sorted' (sd_comp0 (own := [((Str.ofString "c"), 3), ((Str.ofString "number"), 4)]) (dp := false) G (si_enumT (by rfl) M.m_enumerate (qac (qv 0) sa_nil)) (show BlkOk N__law_told_lot (defScope st__law_told_lot) _ _ from ⟨rfl, by decide +kernel, by decide +kernel, by decide +kernel, by decide +kernel⟩) (fun _ _ _ _ _ => (qtg G.calm (qgc (qn G.nd) (qgc (qn G.nd) sgs_nil)))) (fun _ _ _ _ _ => ((qtup (qac (sd_bin (pr_sub (Gd.blk G)) sd_int (qv 4)) (qac (qv 3) sa_nil)))).pe) (fun _ => rfl)))) (show BlkOk N__law_told_lot (defScope st__law_told_lot) _ _ from ⟨rfl, by decide +kernel, by decide +kernel, by decide +kernel, by decide +kernel⟩) (fun _ _ _ _ _ => (qtg G.calm (qgc (qn G.nd) (qgc (qn G.nd) sgs_nil)))) (fun _ _ _ _ _ => ((qv 3)).pe) (fun _ => rfl))
    (sss_cons (ss_ret (qt1 (pr_tuple G) M.m_tuple boot_tuple' (qc1 (n := 0) (pr_sorted G) M.m_sorted boot_sorted' (sd_slTo G (qv 2) (qv 1)))))
    sss_nil))
theorem sc__law_lots : FnScope N__law_lots ["n"] (defScope st__law_lots) := ⟨rfl, rfl, rfl, by decide +kernel, rfl, by decide +kernel, by decide +kernel⟩
theorem ss__law_lots (M : Mg mg)  (hg : A.guards = some []) (hr : Room k (A.deeper (envOfC "_law_lots" (defScope st__law_lots) s.heap.objs.size f cdv))) : PSs (cxN P w K mg base N__law_lots "_law_lots" (defScope st__law_lots) f cdv A outer s H) (defBody st__law_lots) (tSs K xc T WF A__law_lots c__law_lots.body) := by
  have G : Gd (cxN P w K mg base N__law_lots "_law_lots" (defScope st__law_lots) f cdv A outer s H) := ⟨rfl, sc__law_lots.nd, (show (A.deeper (envOfC "_law_lots" (defScope st__law_lots) s.heap.objs.size f cdv)).units + 200 < cLine by have := hr.un; omega), hg⟩
  exact (sss_cons (qasg (qlst (qac (qtup sa_nil) sa_nil)) (qn G.nd))
    (sss_cons (ss_for PassesOwn.never G.calm (si_rng1 (by rfl) M.m_range (qac (qv 0) sa_nil) (by rfl)) (qn G.nd) (sss_cons (qasg (sd_bin (pr_add G) (qv 1) (sd_comp0 (own := [((Str.ofString "lot"), 3)]) (dp := false) G (si_val (qv 1)) (show BlkOk N__law_lots (defScope st__law_lots) _ _ from ⟨rfl, by decide +kernel, by decide +kernel, by decide +kernel, by decide +kernel⟩) (fun _ _ _ _ _ => (qn G.nd)) (fun _ _ _ _ _ => ((sd_bin (pr_addT (Gd.blk G)) (qv 3) (qtup (qac (qv 2) sa_nil)))).pe) (fun _ => rfl))) (qn G.nd))
    sss_nil) (fun _ => rfl))
    (sss_cons (ss_ret (qv 1))
    sss_nil)))
theorem sc_law : FnScope N_law ["script"] (defScope st_law) := ⟨rfl, rfl, rfl, by decide +kernel, rfl, by decide +kernel, by decide +kernel⟩
theorem ss_law (M : Mg mg) (C__law_excess : CalG P w K mg base k xc T "_law_excess" []) (C__law_lots : CalG P w K mg base k xc T "_law_lots" []) (C__law_pick : CalG P w K mg base k xc T "_law_pick" [true, false]) (C__law_row : CalG P w K mg base k xc T "_law_row" [true, false]) (C__law_told_lot : CalG P w K mg base k xc T "_law_told_lot" []) (C_greatest_excess : CalG P w K mg base k xc T "greatest_excess" []) (C_greatest_lot : CalG P w K mg base k xc T "greatest_lot" []) (C_lot_excess : CalG P w K mg base k xc T "lot_excess" []) (C_worst_lot : CalG P w K mg base k xc T "worst_lot" []) (hg : A.guards = some []) (hr : Room k (A.deeper (envOfC "law" (defScope st_law) s.heap.objs.size f cdv))) : PSs (cxN P w K mg base N_law "law" (defScope st_law) f cdv A outer s H) (defBody st_law).tail (tSs K xc T WF A_law c_law.body) := by
  have G : Gd (cxN P w K mg base N_law "law" (defScope st_law) f cdv A outer s H) := ⟨rfl, sc_law.nd, (show (A.deeper (envOfC "law" (defScope st_law) s.heap.objs.size f cdv)).units + 200 < cLine by have := hr.un; omega), hg⟩
  exact (sss_cons (ss_for PassesOwn.never G.calm (si_rng1 (by rfl) M.m_range (qac sd_int sa_nil) (by rfl)) (qn G.nd) (sss_cons (qasg (sd_bin (pr_add G) sd_int (qcall G hr C__law_pick (qac (qv 1) (qac (qix G (qlst (qac sd_int (qac sd_int (qac sd_int (qac sd_int (qac sd_int sa_nil)))))) (qv 2)) sa_nil)))) (qn G.nd))
    (sss_cons (qasg (qcall G hr C__law_row (qac (qv 1) (qac (qv 3) sa_nil))) (qn G.nd))
    (sss_cons (ss_par G.calm G.nd (i := 5) (j := 6) rfl rfl (by decide) rfl rfl (qac (qc1 (n := 0) (pr_repr G) M.m_repr boot_repr' (qv 4)) (qac (sd_comp0 (own := [((Str.ofString "t"), 11)]) (dp := false) G (si_rng1 (by rfl) M.m_range (qac (sd_bin (pr_add G) (qv 3) sd_int) sa_nil) (by rfl)) (show BlkOk N_law (defScope st_law) _ _ from ⟨rfl, by decide +kernel, by decide +kernel, by decide +kernel, by decide +kernel⟩) (fun _ _ _ _ _ => (qn G.nd)) (fun _ _ _ _ _ => ((qcall (Gd.blk G) hr C__law_told_lot (qac (qv 4) (qac (qv 11) sa_nil)))).pe) (fun _ => rfl)) sa_nil)) (by decide) (by decide) rfl rfl)
    (sss_cons (ss_ite (sd_cmp (pr_ne G) rfl (qc1 (n := 0) (pr_repr G) M.m_repr boot_repr' (sd_comp0 (own := [((Str.ofString "t"), 11)]) (dp := false) G (si_rng1 (by rfl) M.m_range (qac (sd_bin (pr_add G) (qv 3) sd_int) sa_nil) (by rfl)) (show BlkOk N_law (defScope st_law) _ _ from ⟨rfl, by decide +kernel, by decide +kernel, by decide +kernel, by decide +kernel⟩) (fun _ _ _ _ _ => (qn G.nd)) (fun _ _ _ _ _ => ((qcall (Gd.blk G) hr C_greatest_lot (qac (qv 4) (qac (qv 11) sa_nil)))).pe) (fun _ => rfl))) (qc1 (n := 0) (pr_repr G) M.m_repr boot_repr' (qv 6))) (sss_cons (ss_ret sd_bl)
    sss_nil) sss_nil)
    (sss_cons (qasg (sd_comp0 (own := [((Str.ofString "lot"), 12)]) (dp := false) G (si_val (qv 6)) (show BlkOk N_law (defScope st_law) _ _ from ⟨rfl, by decide +kernel, by decide +kernel, by decide +kernel, by decide +kernel⟩) (fun _ _ _ _ _ => (qn G.nd)) (fun _ _ _ _ _ => ((qcall (Gd.blk G) hr C__law_excess (qac (qv 4) (qac (qv 12) sa_nil)))).pe) (fun _ => rfl)) (qn G.nd))
    (sss_cons (qasg (qlst (qac (qc1 (n := 0) (pr_maxL G) M.m_max boot_max' (qv 7)) (qac (qix G (qv 6) (sd_idx G (qv 7) (qc1 (n := 0) (pr_maxL G) M.m_max boot_max' (qv 7)))) sa_nil))) (qn G.nd))
    (sss_cons (ss_ite (sd_cmp (pr_ne G) rfl (qc1 (n := 0) (pr_repr G) M.m_repr boot_repr' (qlst (qac (qcall G hr C_greatest_excess (qac (qv 4) sa_nil)) (qac (qcall G hr C_worst_lot (qac (qv 4) sa_nil)) sa_nil)))) (qc1 (n := 0) (pr_repr G) M.m_repr boot_repr' (qv 8))) (sss_cons (ss_ret sd_bl)
    sss_nil) sss_nil)
    (sss_cons (ss_setLc0 (own := [((Str.ofString "turn"), 13)]) (dp := false) G (i := 9) rfl rfl (by decide) rfl (si_rng1 (by rfl) M.m_range (qac sd_int sa_nil) (by rfl)) (show BlkOk N_law (defScope st_law) _ _ from ⟨rfl, by decide +kernel, by decide +kernel, by decide +kernel, by decide +kernel⟩) (fun _ _ _ _ _ => (qn G.nd)) (fun _ _ _ _ _ => ((qt1 (pr_tuple (Gd.blk G)) M.m_tuple boot_tuple' (sd_comp1 (own := [((Str.ofString "c"), 14)]) (dp := false) (Gd.blk G) (si_rng1 (by rfl) M.m_range (qac (qv 3) sa_nil) (by rfl)) (blkOk_in (N := N_law) (sc := (relS _ (defScope st_law))) (by exact rfl) (by exact rfl) (blkOk_by (by decide +kernel))) (fun _ _ _ _ _ => (qn (Gd.blk G).nd)) (fun _ _ _ _ _ => ((sd_cmp (pr_eq (Gd.blk (Gd.blk G))) rfl (qcall (Gd.blk (Gd.blk G)) hr C__law_pick (qac (qv 1) (qac sd_int sa_nil))) sd_int)).pt) (fun _ _ _ _ _ => ((qv 14)).pe) (fun _ => rfl)))).pe) (fun _ => rfl))
    (sss_cons (ss_ite (sd_cmp (pr_ne G) rfl (qc1 (n := 0) (pr_repr G) M.m_repr boot_repr' (sd_comp0 (own := [((Str.ofString "lot"), 12)]) (dp := false) G (si_val (sd_bin (pr_add G) (qv 9) (qv 6))) (show BlkOk N_law (defScope st_law) _ _ from ⟨rfl, by decide +kernel, by decide +kernel, by decide +kernel, by decide +kernel⟩) (fun _ _ _ _ _ => (qn G.nd)) (fun _ _ _ _ _ => ((qcall (Gd.blk G) hr C_lot_excess (qac (qv 4) (qac (qv 12) sa_nil)))).pe) (fun _ => rfl))) (qc1 (n := 0) (pr_repr G) M.m_repr boot_repr' (sd_comp0 (own := [((Str.ofString "lot"), 12)]) (dp := false) G (si_val (sd_bin (pr_add G) (qv 9) (qv 6))) (show BlkOk N_law (defScope st_law) _ _ from ⟨rfl, by decide +kernel, by decide +kernel, by decide +kernel, by decide +kernel⟩) (fun _ _ _ _ _ => (qn G.nd)) (fun _ _ _ _ _ => ((qcall (Gd.blk G) hr C__law_excess (qac (qv 4) (qac (qv 12) sa_nil)))).pe) (fun _ => rfl)))) (sss_cons (ss_ret sd_bl)
    sss_nil) sss_nil)
    (sss_cons (ss_ite (sb_and (sd_cmp (pr_lt G) rfl (qv 3) sd_int) (sb_and1 (sd_cmp (pr_ne G) rfl (sd_comp1 (own := [((Str.ofString "lot"), 12)]) (dp := false) G (si_val (qcall G hr C__law_lots (qac (qv 3) sa_nil))) (show BlkOk N_law (defScope st_law) _ _ from ⟨rfl, by decide +kernel, by decide +kernel, by decide +kernel, by decide +kernel⟩) (fun _ _ _ _ _ => (qn G.nd)) (fun _ _ _ _ _ => ((sd_cmp (pr_gt (Gd.blk G)) rfl (qcall (Gd.blk G) hr C__law_excess (qac (qv 4) (qac (qv 12) sa_nil))) (qix (Gd.blk G) (qv 7) (qc1 (n := 0) (pr_len (Gd.blk G)) M.m_len boot_len' (qv 12))))).pt) (fun _ _ _ _ _ => (sd_int).pe) (fun _ => rfl)) (qlst sa_nil)))).sd (sss_cons (ss_ret sd_bl)
    sss_nil) sss_nil)
    (sss_cons (ss_ite (sd_cmp (pr_ne G) rfl (qc1 (n := 0) (pr_repr G) M.m_repr boot_repr' (qv 4)) (qv 5)) (sss_cons (ss_ret sd_bl)
    sss_nil) sss_nil)
    sss_nil))))))))))) (fun _ => rfl))
    (sss_cons (qasg (qlst (qac (qcall G hr C_lot_excess (qac (qtup (qac sd_int (qac sd_int (qac sd_int (qac sd_int sa_nil))))) (qac (qtup (qac sd_int (qac sd_int sa_nil))) sa_nil))) (qac (qcall G hr C_greatest_lot (qac (qtup (qac sd_int (qac sd_int (qac sd_int sa_nil)))) (qac sd_int sa_nil))) (qac (qcall G hr C_worst_lot (qac (qtup (qac sd_int (qac sd_int (qac sd_int sa_nil)))) sa_nil)) (qac (qcall G hr C_greatest_excess (qac (qtup (qac sd_int sa_nil)) sa_nil)) sa_nil))))) (qn G.nd))
    (sss_cons (ss_ret (sd_cmp (pr_eq G) rfl (qc1 (n := 0) (pr_repr G) M.m_repr boot_repr' (qv 10)) (qc1 (n := 0) (pr_repr G) M.m_repr boot_repr' (qlst (qac sd_int (qac (qtup (qac sd_int sa_nil)) (qac (qtup (qac sd_int (qac sd_int (qac sd_int sa_nil)))) (qac sd_int sa_nil))))))))
    sss_nil)))
theorem sc_src : FnScope ["script", "mixed", "cell"] ["script"] (defScope st__law_source) := ⟨rfl, rfl, rfl, by decide +kernel, rfl, by decide +kernel, by decide +kernel⟩
theorem bd_src (M : Mg mg) : PSs (cxN P w K mg base ["script", "mixed", "cell"] "_law_source" (defScope st__law_source) f cdv A outer s H) (defBody st__law_source) (srcT K) :=
  pss_cons (ps_set (i := 1) sc_src.nd rfl (Or.inl rfl) pe_int) (pss_cons (ps_for PassesOwn.never rfl (pi_list (pv 0)) (pg_name (i := 2) sc_src.nd rfl (Or.inl rfl)) (pss_one (ps_set (i := 1) sc_src.nd rfl (Or.inl rfl) (pe_op op_mod
    (pe_callTy call_int1 (by rfl) M.m_int boot_int' (pa_cons (pe_op op_add (pe_op op_add (pe_op op_mul (pv 1) pe_int) (pe_op op_mul (pv 2) pe_int)) pe_int) pa_nil)) pe_int))))
    (pss_one (ps_ret (pe_disp (pps_cons pe_str (pe_revL (pe_lc (own := [("cell", 2)]) rfl sc_src.nd (pi_list (pv 0)) (show BlkOk ["script", "mixed", "cell"] (defScope st__law_source) _ _ from ⟨rfl, by decide +kernel, by decide +kernel, by decide +kernel, by decide +kernel⟩)
      (fun _ _ _ _ _ => pg_name (i := 2) sc_src.nd rfl (Or.inl rfl)) (fun _ _ _ _ _ => L2.pts_nil) (fun _ _ _ _ _ => pe_callB call_abs (by rfl) M.m_abs boot_abs' (pa_cons (pv 2) pa_nil))))
      (pps_cons pe_str pe_int (pps_cons pe_str (pv 1) (pps_cons pe_str pe_int pps_nil)))) rfl rfl (by simp) (by decide)))))
structure Fx (K : PySem.W.Frag) (mg : Str → Option Value) (cc_greatest_lot : Addr) : Prop where
  M : Mg mg
  f_lot_excess : Known K mg "lot_excess" st_lot_excess ["row", "lot"]
  f_greatest_lot : KnownC K mg "greatest_lot" st_greatest_lot ["row", "t"] cc_greatest_lot
  f_worst_lot : Known K mg "worst_lot" st_worst_lot ["row"]
  f_greatest_excess : Known K mg "greatest_excess" st_greatest_excess ["row"]
  f__law_pick : Known K mg "_law_pick" st__law_pick ["source", "many"]
  f__law_of : Known K mg "_law_of" st__law_of ["source", "some"]
  f__law_degrees : Known K mg "_law_degrees" st__law_degrees ["web"]
  f__law_all_pairs : Known K mg "_law_all_pairs" st__law_all_pairs ["n"]
  f__law_web : Known K mg "_law_web" st__law_web ["source", "n"]
  f__law_row : Known K mg "_law_row" st__law_row ["source", "n"]
  f__law_excess : Known K mg "_law_excess" st__law_excess ["row", "lot"]
  f__law_told_lot : Known K mg "_law_told_lot" st__law_told_lot ["row", "t"]
  f__law_lots : Known K mg "_law_lots" st__law_lots ["n"]
  f__law_source : Known K mg "_law_source" st__law_source ["script"]
omit [Tbl] in
theorem d_lot_excess : defs "lot_excess" = some c_lot_excess := by unfold defs; rw [if_pos rfl]
omit [Tbl] in
theorem d_greatest_lot : defs "greatest_lot" = some c_greatest_lot := by unfold defs; rw [if_neg (by decide +kernel), if_pos rfl]
omit [Tbl] in
theorem d_worst_lot : defs "worst_lot" = some c_worst_lot := by unfold defs; rw [if_neg (by decide +kernel), if_neg (by decide +kernel), if_pos rfl]
omit [Tbl] in
theorem d_greatest_excess : defs "greatest_excess" = some c_greatest_excess := by unfold defs; rw [if_neg (by decide +kernel), if_neg (by decide +kernel), if_neg (by decide +kernel), if_pos rfl]
omit [Tbl] in
theorem d__law_pick : defs "_law_pick" = some c__law_pick := by unfold defs; rw [if_neg (by decide +kernel), if_neg (by decide +kernel), if_neg (by decide +kernel), if_neg (by decide +kernel), if_pos rfl]
omit [Tbl] in
theorem d__law_of : defs "_law_of" = some c__law_of := by unfold defs; rw [if_neg (by decide +kernel), if_neg (by decide +kernel), if_neg (by decide +kernel), if_neg (by decide +kernel), if_neg (by decide +kernel), if_pos rfl]
omit [Tbl] in
theorem d__law_degrees : defs "_law_degrees" = some c__law_degrees := by unfold defs; rw [if_neg (by decide +kernel), if_neg (by decide +kernel), if_neg (by decide +kernel), if_neg (by decide +kernel), if_neg (by decide +kernel), if_neg (by decide +kernel), if_pos rfl]
omit [Tbl] in
theorem d__law_all_pairs : defs "_law_all_pairs" = some c__law_all_pairs := by unfold defs; rw [if_neg (by decide +kernel), if_neg (by decide +kernel), if_neg (by decide +kernel), if_neg (by decide +kernel), if_neg (by decide +kernel), if_neg (by decide +kernel), if_neg (by decide +kernel), if_pos rfl]
omit [Tbl] in
theorem d__law_web : defs "_law_web" = some c__law_web := by unfold defs; rw [if_neg (by decide +kernel), if_neg (by decide +kernel), if_neg (by decide +kernel), if_neg (by decide +kernel), if_neg (by decide +kernel), if_neg (by decide +kernel), if_neg (by decide +kernel), if_neg (by decide +kernel), if_pos rfl]
omit [Tbl] in
theorem d__law_row : defs "_law_row" = some c__law_row := by unfold defs; rw [if_neg (by decide +kernel), if_neg (by decide +kernel), if_neg (by decide +kernel), if_neg (by decide +kernel), if_neg (by decide +kernel), if_neg (by decide +kernel), if_neg (by decide +kernel), if_neg (by decide +kernel), if_neg (by decide +kernel), if_pos rfl]
omit [Tbl] in
theorem d__law_excess : defs "_law_excess" = some c__law_excess := by unfold defs; rw [if_neg (by decide +kernel), if_neg (by decide +kernel), if_neg (by decide +kernel), if_neg (by decide +kernel), if_neg (by decide +kernel), if_neg (by decide +kernel), if_neg (by decide +kernel), if_neg (by decide +kernel), if_neg (by decide +kernel), if_neg (by decide +kernel), if_pos rfl]
omit [Tbl] in
theorem d__law_told_lot : defs "_law_told_lot" = some c__law_told_lot := by unfold defs; rw [if_neg (by decide +kernel), if_neg (by decide +kernel), if_neg (by decide +kernel), if_neg (by decide +kernel), if_neg (by decide +kernel), if_neg (by decide +kernel), if_neg (by decide +kernel), if_neg (by decide +kernel), if_neg (by decide +kernel), if_neg (by decide +kernel), if_neg (by decide +kernel), if_pos rfl]
omit [Tbl] in
theorem d__law_lots : defs "_law_lots" = some c__law_lots := by unfold defs; rw [if_neg (by decide +kernel), if_neg (by decide +kernel), if_neg (by decide +kernel), if_neg (by decide +kernel), if_neg (by decide +kernel), if_neg (by decide +kernel), if_neg (by decide +kernel), if_neg (by decide +kernel), if_neg (by decide +kernel), if_neg (by decide +kernel), if_neg (by decide +kernel), if_neg (by decide +kernel), if_pos rfl]
theorem all_k {fuel : Nat} {cc_greatest_lot PP_greatest_lot : Addr} (X : Fx K mg cc_greatest_lot) (TB_greatest_lot : LamX.TabB base mg cc_greatest_lot PP_greatest_lot) (hm_greatest_lot : (PP_greatest_lot, ((("greatest_lot" : Str) ++ ".<locals>.") ++ "<lambda>")) ∈ Tbl.T) : ∀ k : Nat, CalG P w K mg base k xc (tab defs fuel k) "lot_excess" [] ∧ CalG P w K mg base k xc (tab defs fuel k) "greatest_lot" [] ∧ CalG P w K mg base k xc (tab defs fuel k) "worst_lot" [] ∧ CalG P w K mg base k xc (tab defs fuel k) "greatest_excess" [] ∧ CalG P w K mg base k xc (tab defs fuel k) "_law_pick" [true, false] ∧ CalG P w K mg base k xc (tab defs fuel k) "_law_of" [true, false] ∧ CalG P w K mg base k xc (tab defs fuel k) "_law_degrees" [] ∧ CalG P w K mg base k xc (tab defs fuel k) "_law_all_pairs" [] ∧ CalG P w K mg base k xc (tab defs fuel k) "_law_web" [true, false] ∧ CalG P w K mg base k xc (tab defs fuel k) "_law_row" [true, false] ∧ CalG P w K mg base k xc (tab defs fuel k) "_law_excess" [] ∧ CalG P w K mg base k xc (tab defs fuel k) "_law_told_lot" [] ∧ CalG P w K mg base k xc (tab defs fuel k) "_law_lots" [] ∧ True
  | 0 => ⟨known_zero X.f_lot_excess d_lot_excess rfl, known_zero (X.f_greatest_lot).kn d_greatest_lot rfl, known_zero X.f_worst_lot d_worst_lot rfl, known_zero X.f_greatest_excess d_greatest_excess rfl, known_zero X.f__law_pick d__law_pick rfl, known_zero X.f__law_of d__law_of rfl, known_zero X.f__law_degrees d__law_degrees rfl, known_zero X.f__law_all_pairs d__law_all_pairs rfl, known_zero X.f__law_web d__law_web rfl, known_zero X.f__law_row d__law_row rfl, known_zero X.f__law_excess d__law_excess rfl, known_zero X.f__law_told_lot d__law_told_lot rfl, known_zero X.f__law_lots d__law_lots rfl, trivial⟩
  | k + 1 => by
    obtain ⟨C_lot_excess, C_greatest_lot, C_worst_lot, C_greatest_excess, C__law_pick, C__law_of, C__law_degrees, C__law_all_pairs, C__law_web, C__law_row, C__law_excess, C__law_told_lot, C__law_lots, _⟩ := all_k X TB_greatest_lot hm_greatest_lot k
    exact ⟨known_step (A := A_lot_excess) X.f_lot_excess sc_lot_excess d_lot_excess rfl rfl rfl (by decide) (by decide) (fun f cdv Ar outer s H hg hr => ss_lot_excess X.M  hg hr),
      knownC_step (A := A_greatest_lot) X.f_greatest_lot sc_greatest_lot d_greatest_lot rfl rfl rfl (by decide) (by decide) (fun f Ar outer s H hg hr => ss_greatest_lot X.M TB_greatest_lot hm_greatest_lot  hg hr),
      known_step (A := A_worst_lot) X.f_worst_lot sc_worst_lot d_worst_lot rfl rfl rfl (by decide) (by decide) (fun f cdv Ar outer s H hg hr => ss_worst_lot X.M C_greatest_lot C_lot_excess hg hr),
      known_step (A := A_greatest_excess) X.f_greatest_excess sc_greatest_excess d_greatest_excess rfl rfl rfl (by decide) (by decide) (fun f cdv Ar outer s H hg hr => ss_greatest_excess X.M C_lot_excess C_worst_lot hg hr),
      known_step (A := A__law_pick) X.f__law_pick sc__law_pick d__law_pick rfl rfl rfl (by decide) (by decide) (fun f cdv Ar outer s H hg hr => ss__law_pick X.M  hg hr),
      known_step (A := A__law_of) X.f__law_of sc__law_of d__law_of rfl rfl rfl (by decide) (by decide) (fun f cdv Ar outer s H hg hr => ss__law_of X.M C__law_pick hg hr),
      known_step (A := A__law_degrees) X.f__law_degrees sc__law_degrees d__law_degrees rfl rfl rfl (by decide) (by decide) (fun f cdv Ar outer s H hg hr => ss__law_degrees X.M  hg hr),
      known_step (A := A__law_all_pairs) X.f__law_all_pairs sc__law_all_pairs d__law_all_pairs rfl rfl rfl (by decide) (by decide) (fun f cdv Ar outer s H hg hr => ss__law_all_pairs X.M  hg hr),
      known_step (A := A__law_web) X.f__law_web sc__law_web d__law_web rfl rfl rfl (by decide) (by decide) (fun f cdv Ar outer s H hg hr => ss__law_web X.M C__law_all_pairs C__law_of C__law_pick hg hr),
      known_step (A := A__law_row) X.f__law_row sc__law_row d__law_row rfl rfl rfl (by decide) (by decide) (fun f cdv Ar outer s H hg hr => ss__law_row X.M C__law_degrees C__law_of C__law_pick C__law_web hg hr),
      known_step (A := A__law_excess) X.f__law_excess sc__law_excess d__law_excess rfl rfl rfl (by decide) (by decide) (fun f cdv Ar outer s H hg hr => ss__law_excess X.M  hg hr),
      known_step (A := A__law_told_lot) X.f__law_told_lot sc__law_told_lot d__law_told_lot rfl rfl rfl (by decide) (by decide) (fun f cdv Ar outer s H hg hr => ss__law_told_lot X.M  hg hr),
      known_step (A := A__law_lots) X.f__law_lots sc__law_lots d__law_lots rfl rfl rfl (by decide) (by decide) (fun f cdv Ar outer s H hg hr => ss__law_lots X.M  hg hr), trivial⟩
theorem fn_src {k : Nat} {cc_greatest_lot : Addr} (X : Fx K mg cc_greatest_lot) : ∃ (f : Addr) (fd : FuncData), FnG P w K mg base (k + 1) f fd ["script"] (spSrc K) ∧ mg "_law_source" = some (.ref f) ∧ PySem.W.keepIn K (.ref f) = true ∧ Binds K fd ["script"] [] := by
  obtain ⟨f, fd, F, hm, b⟩ := X.f__law_source
  refine ⟨f, fd, ?_, hm, F.kp, b⟩
  obtain ⟨oc, od, kV, doc, pm, an, cdv, ct, osl, rfl, lk, hcd⟩ := F.ex
  exact fnG_of lk hcd sc_src (fun vs H Q E h => by obtain ⟨a, ns, rfl, _⟩ := h; rfl) fun Ar outer s H vs Q E hg hr h => ⟨_, bd_src X.M, src_ok h⟩
theorem fn_law {k fuel : Nat} {fa : Addr} {fdL : FuncData} {cc_greatest_lot PP_greatest_lot : Addr} (X : Fx K mg cc_greatest_lot) (TB_greatest_lot : LamX.TabB base mg cc_greatest_lot PP_greatest_lot) (hm_greatest_lot : (PP_greatest_lot, ((("greatest_lot" : Str) ++ ".<locals>.") ++ "<lambda>")) ∈ Tbl.T) (F : Fun K "law" "law" st_law fa fdL) (hrun : ∀ ns : List Int, ns.length ≤ 63 → ∃ e, execs (tab defs fuel (k + 1)) c_law.body [] (lawEnv (N_law.length - 2) ns) = .rt ⟨.imm, .fr, .bool true⟩ e) : FnG P w K mg base (k + 2) fa fdL ["script"] (spLaw K) := by
  obtain ⟨fS, fdS, FS, hmS, hkS, hbS⟩ := fn_src (P := P) (w := w) (base := base) (k := k) X
  obtain ⟨C_lot_excess, C_greatest_lot, C_worst_lot, C_greatest_excess, C__law_pick, C__law_of, C__law_degrees, C__law_all_pairs, C__law_web, C__law_row, C__law_excess, C__law_told_lot, C__law_lots, _⟩ := all_k (P := P) (w := w) (base := base) (xc := fun _ => .none) (fuel := fuel) X TB_greatest_lot hm_greatest_lot (k + 1)
  obtain ⟨oc, od, kV, doc, pm, an, cdv, ct, osl, rfl, lk, hcd⟩ := F.ex
  refine fnG_of lk hcd sc_law (fun vs H Q E h => by obtain ⟨a, ns, rfl, _⟩ := h; rfl) fun Ar outer s H vs Q E hg hr h => ⟨_, ?_, law_rest (A := A_law) (xc := fun _ => .none) rfl hrun h⟩
  have G : Gd (cxN P w K mg base N_law "law" (defScope st_law) fa cdv Ar outer s H) := ⟨rfl, sc_law.nd, (show (Ar.deeper (envOfC "law" (defScope st_law) s.heap.objs.size fa cdv)).units + 200 < cLine by have := hr.un; omega), hg⟩
  exact pss_cons (ps_set (i := 1) sc_law.nd rfl (by first | exact Or.inl rfl | exact Or.inr rfl) (pe_callG G FS hr rfl hmS hkS hbS (pa_cons (pv 0) pa_nil) (by decide) rfl rfl)) (ss_law X.M C__law_excess C__law_lots C__law_pick C__law_row C__law_told_lot C_greatest_excess C_greatest_lot C_lot_excess C_worst_lot hg hr)
end
theorem all_mk {l : PySem.W.OpenLaw} {w : World} {K : PySem.W.Frag} {q : Program} {h : Heap} {mg : Str → Option Value} {fa f0 f1 f2 f3 f4 f5 f6 f7 f8 f9 f10 f11 f12 f13 f14 : Addr} {cc_greatest_lot PP_greatest_lot : Addr} (X : K.In h) (G : h.Ns mainGlobals mg) (hfa : mg "law" = some (.ref fa)) (HT : TabsG q K h)
    {dr_greatest_lot : DefRec} {ocx_greatest_lot : Value} {odx_greatest_lot : Option Addr} {vsx_greatest_lot : Array Value} {slx_greatest_lot : Array (Option Value)} (r_greatest_lot : (PyProof.Rows.recsOf q).find? (fun e => e.name == ("greatest_lot" : Str)) = some dr_greatest_lot) (t_greatest_lot : K.lookup cc_greatest_lot = some ⟨ocx_greatest_lot, odx_greatest_lot, .fields vsx_greatest_lot, slx_greatest_lot⟩) (h_greatest_lot : (vsx_greatest_lot[11]? : Option Value) = some (.ref PP_greatest_lot)) (u_greatest_lot : (K.lookup PP_greatest_lot).isNone = true)
    {od0 an0 : Option Addr} {sl0 : Array (Option Value)} {oc0 kV0 dc0 pm0 cd0 ct0 : Value} (a0 : PySem.W.nsIn K mainGlobals "lot_excess" = some (some (.ref f0)))
    (l0 : K.lookup f0 = some ⟨oc0, od0, .func (PySem.W.fnOf "lot_excess" "lot_excess" (defArgs st_lot_excess) (defBody st_lot_excess) (defScope st_lot_excess) .none kV0 dc0 pm0 an0 cd0 ct0), sl0⟩) (c0 : PySem.W.codeIn K cd0 "lot_excess" = true) (k0 : PySem.W.keepIn K (.ref f0) = true)
    {od1 an1 : Option Addr} {sl1 : Array (Option Value)} {oc1 kV1 dc1 pm1 ct1 : Value} (a1 : PySem.W.nsIn K mainGlobals "greatest_lot" = some (some (.ref f1)))
    (l1 : K.lookup f1 = some ⟨oc1, od1, .func (PySem.W.fnOf "greatest_lot" "greatest_lot" (defArgs st_greatest_lot) (defBody st_greatest_lot) (defScope st_greatest_lot) .none kV1 dc1 pm1 an1 (Value.ref cc_greatest_lot) ct1), sl1⟩) (c1 : PySem.W.codeIn K (Value.ref cc_greatest_lot) "greatest_lot" = true) (k1 : PySem.W.keepIn K (.ref f1) = true)
    {od2 an2 : Option Addr} {sl2 : Array (Option Value)} {oc2 kV2 dc2 pm2 cd2 ct2 : Value} (a2 : PySem.W.nsIn K mainGlobals "worst_lot" = some (some (.ref f2)))
    (l2 : K.lookup f2 = some ⟨oc2, od2, .func (PySem.W.fnOf "worst_lot" "worst_lot" (defArgs st_worst_lot) (defBody st_worst_lot) (defScope st_worst_lot) .none kV2 dc2 pm2 an2 cd2 ct2), sl2⟩) (c2 : PySem.W.codeIn K cd2 "worst_lot" = true) (k2 : PySem.W.keepIn K (.ref f2) = true)
    {od3 an3 : Option Addr} {sl3 : Array (Option Value)} {oc3 kV3 dc3 pm3 cd3 ct3 : Value} (a3 : PySem.W.nsIn K mainGlobals "greatest_excess" = some (some (.ref f3)))
    (l3 : K.lookup f3 = some ⟨oc3, od3, .func (PySem.W.fnOf "greatest_excess" "greatest_excess" (defArgs st_greatest_excess) (defBody st_greatest_excess) (defScope st_greatest_excess) .none kV3 dc3 pm3 an3 cd3 ct3), sl3⟩) (c3 : PySem.W.codeIn K cd3 "greatest_excess" = true) (k3 : PySem.W.keepIn K (.ref f3) = true)
    {od4 an4 : Option Addr} {sl4 : Array (Option Value)} {oc4 kV4 dc4 pm4 cd4 ct4 : Value} (a4 : PySem.W.nsIn K mainGlobals "_law_pick" = some (some (.ref f4)))
    (l4 : K.lookup f4 = some ⟨oc4, od4, .func (PySem.W.fnOf "_law_pick" "_law_pick" (defArgs st__law_pick) (defBody st__law_pick) (defScope st__law_pick) .none kV4 dc4 pm4 an4 cd4 ct4), sl4⟩) (c4 : PySem.W.codeIn K cd4 "_law_pick" = true) (k4 : PySem.W.keepIn K (.ref f4) = true)
    {od5 an5 : Option Addr} {sl5 : Array (Option Value)} {oc5 kV5 dc5 pm5 cd5 ct5 : Value} (a5 : PySem.W.nsIn K mainGlobals "_law_of" = some (some (.ref f5)))
    (l5 : K.lookup f5 = some ⟨oc5, od5, .func (PySem.W.fnOf "_law_of" "_law_of" (defArgs st__law_of) (defBody st__law_of) (defScope st__law_of) .none kV5 dc5 pm5 an5 cd5 ct5), sl5⟩) (c5 : PySem.W.codeIn K cd5 "_law_of" = true) (k5 : PySem.W.keepIn K (.ref f5) = true)
    {od6 an6 : Option Addr} {sl6 : Array (Option Value)} {oc6 kV6 dc6 pm6 cd6 ct6 : Value} (a6 : PySem.W.nsIn K mainGlobals "_law_degrees" = some (some (.ref f6)))
    (l6 : K.lookup f6 = some ⟨oc6, od6, .func (PySem.W.fnOf "_law_degrees" "_law_degrees" (defArgs st__law_degrees) (defBody st__law_degrees) (defScope st__law_degrees) .none kV6 dc6 pm6 an6 cd6 ct6), sl6⟩) (c6 : PySem.W.codeIn K cd6 "_law_degrees" = true) (k6 : PySem.W.keepIn K (.ref f6) = true)
    {od7 an7 : Option Addr} {sl7 : Array (Option Value)} {oc7 kV7 dc7 pm7 cd7 ct7 : Value} (a7 : PySem.W.nsIn K mainGlobals "_law_all_pairs" = some (some (.ref f7)))
    (l7 : K.lookup f7 = some ⟨oc7, od7, .func (PySem.W.fnOf "_law_all_pairs" "_law_all_pairs" (defArgs st__law_all_pairs) (defBody st__law_all_pairs) (defScope st__law_all_pairs) .none kV7 dc7 pm7 an7 cd7 ct7), sl7⟩) (c7 : PySem.W.codeIn K cd7 "_law_all_pairs" = true) (k7 : PySem.W.keepIn K (.ref f7) = true)
    {od8 an8 : Option Addr} {sl8 : Array (Option Value)} {oc8 kV8 dc8 pm8 cd8 ct8 : Value} (a8 : PySem.W.nsIn K mainGlobals "_law_web" = some (some (.ref f8)))
    (l8 : K.lookup f8 = some ⟨oc8, od8, .func (PySem.W.fnOf "_law_web" "_law_web" (defArgs st__law_web) (defBody st__law_web) (defScope st__law_web) .none kV8 dc8 pm8 an8 cd8 ct8), sl8⟩) (c8 : PySem.W.codeIn K cd8 "_law_web" = true) (k8 : PySem.W.keepIn K (.ref f8) = true)
    {od9 an9 : Option Addr} {sl9 : Array (Option Value)} {oc9 kV9 dc9 pm9 cd9 ct9 : Value} (a9 : PySem.W.nsIn K mainGlobals "_law_row" = some (some (.ref f9)))
    (l9 : K.lookup f9 = some ⟨oc9, od9, .func (PySem.W.fnOf "_law_row" "_law_row" (defArgs st__law_row) (defBody st__law_row) (defScope st__law_row) .none kV9 dc9 pm9 an9 cd9 ct9), sl9⟩) (c9 : PySem.W.codeIn K cd9 "_law_row" = true) (k9 : PySem.W.keepIn K (.ref f9) = true)
    {od10 an10 : Option Addr} {sl10 : Array (Option Value)} {oc10 kV10 dc10 pm10 cd10 ct10 : Value} (a10 : PySem.W.nsIn K mainGlobals "_law_excess" = some (some (.ref f10)))
    (l10 : K.lookup f10 = some ⟨oc10, od10, .func (PySem.W.fnOf "_law_excess" "_law_excess" (defArgs st__law_excess) (defBody st__law_excess) (defScope st__law_excess) .none kV10 dc10 pm10 an10 cd10 ct10), sl10⟩) (c10 : PySem.W.codeIn K cd10 "_law_excess" = true) (k10 : PySem.W.keepIn K (.ref f10) = true)
    {od11 an11 : Option Addr} {sl11 : Array (Option Value)} {oc11 kV11 dc11 pm11 cd11 ct11 : Value} (a11 : PySem.W.nsIn K mainGlobals "_law_told_lot" = some (some (.ref f11)))
    (l11 : K.lookup f11 = some ⟨oc11, od11, .func (PySem.W.fnOf "_law_told_lot" "_law_told_lot" (defArgs st__law_told_lot) (defBody st__law_told_lot) (defScope st__law_told_lot) .none kV11 dc11 pm11 an11 cd11 ct11), sl11⟩) (c11 : PySem.W.codeIn K cd11 "_law_told_lot" = true) (k11 : PySem.W.keepIn K (.ref f11) = true)
    {od12 an12 : Option Addr} {sl12 : Array (Option Value)} {oc12 kV12 dc12 pm12 cd12 ct12 : Value} (a12 : PySem.W.nsIn K mainGlobals "_law_lots" = some (some (.ref f12)))
    (l12 : K.lookup f12 = some ⟨oc12, od12, .func (PySem.W.fnOf "_law_lots" "_law_lots" (defArgs st__law_lots) (defBody st__law_lots) (defScope st__law_lots) .none kV12 dc12 pm12 an12 cd12 ct12), sl12⟩) (c12 : PySem.W.codeIn K cd12 "_law_lots" = true) (k12 : PySem.W.keepIn K (.ref f12) = true)
    {od13 an13 : Option Addr} {sl13 : Array (Option Value)} {oc13 kV13 dc13 pm13 cd13 ct13 : Value} (a13 : PySem.W.nsIn K mainGlobals "_law_source" = some (some (.ref f13)))
    (l13 : K.lookup f13 = some ⟨oc13, od13, .func (PySem.W.fnOf "_law_source" "_law_source" (defArgs st__law_source) (defBody st__law_source) (defScope st__law_source) .none kV13 dc13 pm13 an13 cd13 ct13), sl13⟩) (c13 : PySem.W.codeIn K cd13 "_law_source" = true) (k13 : PySem.W.keepIn K (.ref f13) = true)
    {od14 an14 : Option Addr} {sl14 : Array (Option Value)} {oc14 kV14 dc14 pm14 cd14 ct14 : Value} (a14 : PySem.W.nsIn K mainGlobals "law" = some (some (.ref f14)))
    (l14 : K.lookup f14 = some ⟨oc14, od14, .func (PySem.W.fnOf "law" "law" (defArgs st_law) (defBody st_law) (defScope st_law) .none kV14 dc14 pm14 an14 cd14 ct14), sl14⟩) (c14 : PySem.W.codeIn K cd14 "law" = true) (k14 : PySem.W.keepIn K (.ref f14) = true)
    (z_abs : PySem.W.nsIn K mainGlobals "abs" = some none)
    (z_enumerate : PySem.W.nsIn K mainGlobals "enumerate" = some none)
    (z_int : PySem.W.nsIn K mainGlobals "int" = some none)
    (z_len : PySem.W.nsIn K mainGlobals "len" = some none)
    (z_list : PySem.W.nsIn K mainGlobals "list" = some none)
    (z_max : PySem.W.nsIn K mainGlobals "max" = some none)
    (z_min : PySem.W.nsIn K mainGlobals "min" = some none)
    (z_range : PySem.W.nsIn K mainGlobals "range" = some none)
    (z_repr : PySem.W.nsIn K mainGlobals "repr" = some none)
    (z_sorted : PySem.W.nsIn K mainGlobals "sorted" = some none)
    (z_sum : PySem.W.nsIn K mainGlobals "sum" = some none)
    (z_tuple : PySem.W.nsIn K mainGlobals "tuple" = some none)
    {k fuel : Nat} (hrun : ∀ ns : List Int, ns.length ≤ 63 → ∃ e, execs (tab defs fuel (k + 1)) c_law.body [] (lawEnv (N_law.length - 2) ns) = .rt ⟨.imm, .fr, .bool true⟩ e) :
    LawG l w K (k + 2) 63 "script" mg fa h := by
  letI : Tbl := ⟨[(PP_greatest_lot, ((("greatest_lot" : Str) ++ ".<locals>.") ++ "<lambda>"))], one_1⟩
  have e := hfa.symm.trans (PySem.W.mg_of X G a14)
  cases e
  have F0 : Known K mg "lot_excess" st_lot_excess ["row", "lot"] := ⟨_, _, fun_mk (st := st_lot_excess) l0 c0 k0, PySem.W.mg_of X G a0, (fun_mk (st := st_lot_excess) l0 c0 k0).binds (ps := ["row", "lot"]) fun _ _ _ _ _ _ us hl => match us, hl with | [_, _], _ => rfl⟩
  have F1 : KnownC K mg "greatest_lot" st_greatest_lot ["row", "t"] cc_greatest_lot := ⟨_, _, funC_mk (st := st_greatest_lot) l1 c1 k1, PySem.W.mg_of X G a1, (funC_mk (st := st_greatest_lot) l1 c1 k1).fn.binds (ps := ["row", "t"]) fun _ _ _ _ _ _ us hl => match us, hl with | [_, _], _ => rfl⟩
  have F2 : Known K mg "worst_lot" st_worst_lot ["row"] := ⟨_, _, fun_mk (st := st_worst_lot) l2 c2 k2, PySem.W.mg_of X G a2, (fun_mk (st := st_worst_lot) l2 c2 k2).binds (ps := ["row"]) fun _ _ _ _ _ _ us hl => match us, hl with | [_], _ => rfl⟩
  have F3 : Known K mg "greatest_excess" st_greatest_excess ["row"] := ⟨_, _, fun_mk (st := st_greatest_excess) l3 c3 k3, PySem.W.mg_of X G a3, (fun_mk (st := st_greatest_excess) l3 c3 k3).binds (ps := ["row"]) fun _ _ _ _ _ _ us hl => match us, hl with | [_], _ => rfl⟩
  have F4 : Known K mg "_law_pick" st__law_pick ["source", "many"] := ⟨_, _, fun_mk (st := st__law_pick) l4 c4 k4, PySem.W.mg_of X G a4, (fun_mk (st := st__law_pick) l4 c4 k4).binds (ps := ["source", "many"]) fun _ _ _ _ _ _ us hl => match us, hl with | [_, _], _ => rfl⟩
  have F5 : Known K mg "_law_of" st__law_of ["source", "some"] := ⟨_, _, fun_mk (st := st__law_of) l5 c5 k5, PySem.W.mg_of X G a5, (fun_mk (st := st__law_of) l5 c5 k5).binds (ps := ["source", "some"]) fun _ _ _ _ _ _ us hl => match us, hl with | [_, _], _ => rfl⟩
  have F6 : Known K mg "_law_degrees" st__law_degrees ["web"] := ⟨_, _, fun_mk (st := st__law_degrees) l6 c6 k6, PySem.W.mg_of X G a6, (fun_mk (st := st__law_degrees) l6 c6 k6).binds (ps := ["web"]) fun _ _ _ _ _ _ us hl => match us, hl with | [_], _ => rfl⟩
  have F7 : Known K mg "_law_all_pairs" st__law_all_pairs ["n"] := ⟨_, _, fun_mk (st := st__law_all_pairs) l7 c7 k7, PySem.W.mg_of X G a7, (fun_mk (st := st__law_all_pairs) l7 c7 k7).binds (ps := ["n"]) fun _ _ _ _ _ _ us hl => match us, hl with | [_], _ => rfl⟩
  have F8 : Known K mg "_law_web" st__law_web ["source", "n"] := ⟨_, _, fun_mk (st := st__law_web) l8 c8 k8, PySem.W.mg_of X G a8, (fun_mk (st := st__law_web) l8 c8 k8).binds (ps := ["source", "n"]) fun _ _ _ _ _ _ us hl => match us, hl with | [_, _], _ => rfl⟩
  have F9 : Known K mg "_law_row" st__law_row ["source", "n"] := ⟨_, _, fun_mk (st := st__law_row) l9 c9 k9, PySem.W.mg_of X G a9, (fun_mk (st := st__law_row) l9 c9 k9).binds (ps := ["source", "n"]) fun _ _ _ _ _ _ us hl => match us, hl with | [_, _], _ => rfl⟩
  have F10 : Known K mg "_law_excess" st__law_excess ["row", "lot"] := ⟨_, _, fun_mk (st := st__law_excess) l10 c10 k10, PySem.W.mg_of X G a10, (fun_mk (st := st__law_excess) l10 c10 k10).binds (ps := ["row", "lot"]) fun _ _ _ _ _ _ us hl => match us, hl with | [_, _], _ => rfl⟩
  have F11 : Known K mg "_law_told_lot" st__law_told_lot ["row", "t"] := ⟨_, _, fun_mk (st := st__law_told_lot) l11 c11 k11, PySem.W.mg_of X G a11, (fun_mk (st := st__law_told_lot) l11 c11 k11).binds (ps := ["row", "t"]) fun _ _ _ _ _ _ us hl => match us, hl with | [_, _], _ => rfl⟩
  have F12 : Known K mg "_law_lots" st__law_lots ["n"] := ⟨_, _, fun_mk (st := st__law_lots) l12 c12 k12, PySem.W.mg_of X G a12, (fun_mk (st := st__law_lots) l12 c12 k12).binds (ps := ["n"]) fun _ _ _ _ _ _ us hl => match us, hl with | [_], _ => rfl⟩
  have F13 : Known K mg "_law_source" st__law_source ["script"] := ⟨_, _, fun_mk (st := st__law_source) l13 c13 k13, PySem.W.mg_of X G a13, (fun_mk (st := st__law_source) l13 c13 k13).binds (ps := ["script"]) fun _ _ _ _ _ _ us hl => match us, hl with | [_], _ => rfl⟩
  have XX : Fx K mg cc_greatest_lot := ⟨⟨PySem.W.mg_none_of X G z_abs, PySem.W.mg_none_of X G z_enumerate, PySem.W.mg_none_of X G z_int, PySem.W.mg_none_of X G z_len, PySem.W.mg_none_of X G z_list, PySem.W.mg_none_of X G z_max, PySem.W.mg_none_of X G z_min, PySem.W.mg_none_of X G z_range, PySem.W.mg_none_of X G z_repr, PySem.W.mg_none_of X G z_sorted, PySem.W.mg_none_of X G z_sum, PySem.W.mg_none_of X G z_tuple⟩, F0, F1, F2, F3, F4, F5, F6, F7, F8, F9, F10, F11, F12, F13⟩
  refine ⟨PySem.W.fnOf "law" "law" (defArgs st_law) (defBody st_law) (defScope st_law) .none kV14 dc14 pm14 an14 cd14 ct14, [(cc_greatest_lot, PP_greatest_lot)], spLaw K, ?_, ?_, fun s v => .of_eq rfl, ?_, ?_⟩
  · exact (List.forall_mem_cons.mpr ⟨HT "greatest_lot" dr_greatest_lot cc_greatest_lot PP_greatest_lot r_greatest_lot (tabIn_mk a1 l1 rfl t_greatest_lot h_greatest_lot), fun p hp => nomatch hp⟩)
  · exact (List.forall_mem_cons.mpr ⟨Option.isNone_iff_eq_none.mp u_greatest_lot, fun p hp => nomatch hp⟩)
  · exact fun H a ns hl hT hS => ⟨a, ns, rfl, hS, (List.forall_mem_cons.mpr ⟨LamX.TabS.nil (hT (cc_greatest_lot, PP_greatest_lot) (by simp)), fun p hp => nomatch hp⟩), hl, fun _ => rfl⟩
  · exact fun base _ _ hB => fn_law XX (hB (cc_greatest_lot, PP_greatest_lot) (by simp)) (List.Mem.head _) (fun_mk (st := st_law) l14 c14 k14) hrun

end Iv
set_option maxRecDepth 100000
/-! MrA: what the slots are known to be (Sp), judgements that tie codes to plain Lean terms in Option, rules for expressions. -/
namespace Iv
open PySem L2

/-- per slot: nothing known, or just what stands there -/
abbrev Sp := List (Option (Option Sl))
def Fit : Sp → Env → Prop
  | [], [] => True
  | s :: sp, o :: e => (∀ x, s = some x → o = x) ∧ Fit sp e
  | [], _ :: _ => False
  | _ :: _, [] => False
theorem Fit.get : ∀ {sp : Sp} {e : Env} {i : Nat} {x : Option Sl}, Fit sp e → sp[i]? = some (some x) → e[i]? = some x
  | [], _, i, x, _, h => by simp at h
  | s :: sp, o :: e, 0, x, f, h => by
    simp at h
    simp [f.1 x h]
  | s :: sp, o :: e, i + 1, x, f, h => by
    simp at h
    simpa using Fit.get f.2 h
theorem Fit.length : ∀ {sp : Sp} {e : Env}, Fit sp e → sp.length = e.length
  | [], [], _ => rfl
  | s :: sp, o :: e, f => by simp [Fit.length f.2]
theorem Fit.put : ∀ {sp : Sp} {e : Env} (i : Nat) (s : Option (Option Sl)) (x : Option Sl), Fit sp e → (∀ y, s = some y → x = y) → Fit (sp.set i s) (e.set i x)
  | [], [], i, s, x, f, h => f
  | s :: sp, o :: e, 0, _, x, f, h => ⟨h, f.2⟩
  | s :: sp, o :: e, i + 1, _, x, f, h => ⟨f.1, Fit.put i _ x f.2 h⟩
theorem Fit.set {sp : Sp} {e : Env} (i : Nat) (x : Option Sl) (f : Fit sp e) : Fit (sp.set i (some x)) (e.set i x) := f.put i _ x fun _ h => by cases h; rfl
inductive Wk : Sp → Sp → Prop
  | nil : Wk [] []
  | any {s : Option (Option Sl)} {sp sp' : Sp} : Wk sp sp' → Wk (s :: sp) (none :: sp')
  | eq {s : Option (Option Sl)} {sp sp' : Sp} : Wk sp sp' → Wk (s :: sp) (s :: sp')
theorem Wk.fit {sp sp' : Sp} (w : Wk sp sp') : ∀ {e : Env}, Fit sp e → Fit sp' e := by
  induction w with
  | nil => exact fun f => f
  | any _ ih =>
    intro e f
    cases e with
    | nil => exact f
    | cons o e => exact ⟨fun x h => by simp at h, ih f.2⟩
  | eq _ ih =>
    intro e f
    cases e with
    | nil => exact f
    | cons o e => exact ⟨f.1, ih f.2⟩
theorem Wk.refl : ∀ sp : Sp, Wk sp sp
  | [] => .nil
  | _ :: sp => .eq (Wk.refl sp)
def disS (i : Nat) (sp : Sp) : Sp := match sp[i]? with
  | some (some (some s)) => sp.set i (some (some { s with own := false }))
  | _ => sp
theorem Fit.set_none {sp : Sp} {e : Env} {i : Nat} {x : Option Sl} (f : Fit sp e) (h : sp[i]? = some none) : Fit sp (e.set i x) := by
  have := f.put i none x (fun _ h => by cases h)
  have e2 : sp.set i none = sp := by
    apply List.ext_getElem?
    intro j
    by_cases hj : i = j
    · subst hj
      rw [h, List.getElem?_set_self (List.getElem?_eq_some_iff.mp h).1]
    · rw [List.getElem?_set_ne hj]
  rwa [e2] at this
theorem Fit.dis {sp : Sp} {e : Env} (i : Nat) (f : Fit sp e) : Fit (disS i sp) (disown i e) := by
  unfold disS disown
  cases h : sp[i]? with
  | none =>
    have : e[i]? = none := by
      rw [List.getElem?_eq_none_iff] at h ⊢
      rw [← f.length]; exact h
    rw [this]; exact f
  | some s =>
    cases s with
    | none =>
      simp only
      cases h2 : e[i]? with
      | none => exact f
      | some o =>
        cases o with
        | none => exact f
        | some s => exact f.set_none h
    | some o =>
      rw [f.get h]
      cases o with
      | none => exact f
      | some s => exact f.set i _
theorem Fit.diss {sp : Sp} {e : Env} (is : List Nat) (f : Fit sp e) : Fit (is.foldl (fun e i => disS i e) sp) (is.foldl (fun e i => disown i e) e) := by
  induction is generalizing sp e with
  | nil => exact f
  | cons i is ih => exact ih (f.dis i)
def wipeS (own : List Nat) (sp : Sp) : Sp := own.foldl (fun e i => e.set i (some none)) sp
theorem Fit.wipe {sp : Sp} {e : Env} (own : List Nat) (f : Fit sp e) : Fit (wipeS own sp) (own.foldl (fun e i => e.set i none) e) := by
  unfold wipeS
  induction own generalizing sp e with
  | nil => exact f
  | cons i is ih => exact ih (f.set i none)
def unownS (own : List Nat) (sp0 sp : Sp) : Sp := own.foldl (fun e i => e.set i (sp0[i]?.getD (some none))) sp
theorem Fit.unown {sp0 sp : Sp} {e0 e : Env} (own : List Nat) (f0 : Fit sp0 e0) (f : Fit sp e) : Fit (unownS own sp0 sp) (unown own e0 e) := by
  unfold unownS Iv.unown
  induction own generalizing sp e with
  | nil => exact f
  | cons i is ih =>
    refine ih (f.put i _ _ fun y hy => ?_)
    cases h : sp0[i]? with
    | none =>
      have : e0[i]? = none := by
        rw [List.getElem?_eq_none_iff] at h ⊢
        rw [← f0.length]; exact h
      rw [this]
      rw [h] at hy
      simp at hy
      simp [hy]
    | some s =>
      rw [h] at hy
      simp at hy
      subst hy
      rw [f0.get h]
      rfl

/-! ### judgements -/
def ET (T : Tab) (e : CE) (sp : Sp) (v : Val) : Prop := ∀ L env, Fit sp env → ev T e L env = .ok (v, env)
def EJ {δ : Type} (T : Tab) (e : CE) (L : List Nat) (sp : Sp) (m : Option δ) (val : δ → Val) (sp' : δ → Sp) : Prop :=
  ∀ env, Fit sp env → ∀ b, m = some b → ∃ env', ev T e L env = .ok (val b, env') ∧ Fit (sp' b) env'
/-- operands in order, then what is made of them -/
def AJ {δ : Type} (T : Tab) (Fin : List Val → Sp → Option δ → Prop) (io : List Bool) (as : List CE) (L : List Nat) (sp : Sp) (pre : List Val) (m : Option δ) : Prop :=
  ∀ env, Fit sp env → ∀ d, m = some d → ∃ vs env' spf, evs T io as L env = .ok (vs, env') ∧ Fit spf env' ∧ Fin (pre ++ vs) spf (some d)
/-- operands in order, all told -/
def AT (T : Tab) (as : List CE) (sp : Sp) (vs : List Val) : Prop := ∀ io L env, Fit sp env → evs T io as L env = .ok (vs, env)
def TgJ (tg : Tg) (x : Val) (sp sp' : Sp) : Prop := ∀ L env, Fit sp env → ∃ env', asgT L tg x env = some env' ∧ Fit sp' env'
def TgsJ (ts : List Tg) (xs : List Val) (sp sp' : Sp) : Prop := ∀ L env, Fit sp env → ∃ env', asgTs L ts xs env = some env' ∧ Fit sp' env'
/-- what a loop walks -/
def IJ {δ α : Type} (T : Tab) (ik : Ik) (it : List CE) (L : List Nat) (sp : Sp) (m : Option δ) (V : α → Val) (xs : δ → List α) (L' : List Nat) (sp' : δ → Sp) : Prop :=
  ∀ env, Fit sp env → ∀ b, m = some b → ∃ vs env1 ws env', evs T [] it L env = .ok (vs, env1) ∧ escK ik L vs env1 = some (ws, env') ∧ itsOf ik ws = some ((xs b).map V) ∧ lks ws L = L' ∧ Fit (sp' b) env'

section
variable {T : Tab} {sp : Sp} {L : List Nat} {δ : Type} {val : δ → Val} {sp' : δ → Sp}

theorem et_var {i : Nat} {o : Bool} {d : D} (h : sp[i]? = some (some (some ⟨.imm, o, d⟩))) : ET T (.var i) sp ⟨.imm, .fr, d⟩ := fun L env f => by
  simp only [ev, load, f.get h, if_true]
theorem et_varO {i : Nat} {k : Kd} {d : D} (h : sp[i]? = some (some (some ⟨k, true, d⟩))) (hk : decide (k = .imm) = false) : ET T (.var i) sp ⟨k, .sl i, d⟩ := fun L env f => by
  simp only [decide_eq_false_iff_not] at hk
  simp only [ev, load, f.get h, if_neg hk, if_true]
theorem et_varS {i : Nat} {k : Kd} {d : D} (h : sp[i]? = some (some (some ⟨k, false, d⟩))) (hk : decide (k = .imm) = false) : ET T (.var i) sp ⟨k, .sh, d⟩ := fun L env f => by
  simp only [decide_eq_false_iff_not] at hk
  simp only [ev, load, f.get h, if_neg hk, Bool.false_eq_true, if_false]
theorem et_con {d : D} : ET T (.con d) sp ⟨.imm, .fr, d⟩ := fun L env f => by simp only [ev, V0]
theorem et_p1 {f : Pr} {a : CE} {k k' : Kd} {p : Pv} {d r : D} (ha : ET T a sp ⟨k, p, d⟩) (h : pr1 f k d = some (k', r)) : ET T (.p1 f a) sp ⟨k', .fr, r⟩ := fun L env g => by
  simp only [ev, ha L env g, Iv.R.bind, h, Option.map_some, Iv.R.of]
theorem et_p2 {f : Pr} {a b : CE} {k l k' : Kd} {p q : Pv} {d e r : D} (ha : ET T a sp ⟨k, p, d⟩) (hb : ET T b sp ⟨l, q, e⟩) (h : pr2 f k d l e = some (k', r)) : ET T (.p2 f a b) sp ⟨k', .fr, r⟩ := fun L env g => by
  simp only [ev, ha L env g, hb _ env g, Iv.R.bind, h, Option.map_some, Iv.R.of]
theorem et_ix {a b : CE} {x y r : Val} (ha : ET T a sp x) (hb : ET T b sp y) (h : ixV x y = some r) : ET T (.ix a b) sp r := fun L env g => by
  simp only [ev, ha L env g, hb _ env g, Iv.R.bind, h, Option.map_some, Iv.R.of]
theorem et_nt {a : CE} {k : Kd} {p : Pv} {c : Bool} (ha : ET T a sp ⟨k, p, .bool c⟩) : ET T (.nt a) sp ⟨.imm, .fr, .bool (!c)⟩ := fun L env g => by
  simp only [ev, ha L env g, Iv.R.bind, V0]
theorem et_and {a b : CE} {k : Kd} {p : Pv} {c c' : Bool} (ha : ET T a sp ⟨k, p, .bool c⟩) (hb : ET T b sp ⟨.imm, .fr, .bool c'⟩) : ET T (.andE a b) sp ⟨.imm, .fr, .bool (c && c')⟩ := fun L env g => by
  cases c <;> simp only [ev, ha L env g, hb L env g, Iv.R.bind, V0, Bool.true_and, Bool.false_and]
theorem et_or {a b : CE} {k : Kd} {p : Pv} {c c' : Bool} (ha : ET T a sp ⟨k, p, .bool c⟩) (hb : ET T b sp ⟨.imm, .fr, .bool c'⟩) : ET T (.orE a b) sp ⟨.imm, .fr, .bool (c || c')⟩ := fun L env g => by
  cases c <;> simp only [ev, ha L env g, hb L env g, Iv.R.bind, V0, Bool.true_or, Bool.false_or]
theorem et_ife {t a b : CE} {α : Type} (enc : α → D) {k l : Kd} {p q : Pv} {c : Bool} {x y : α} (ht : ET T t sp ⟨l, q, .bool c⟩) (ha : ET T a sp ⟨k, p, enc x⟩) (hb : ET T b sp ⟨k, p, enc y⟩) : ET T (.ife t a b) sp ⟨k, p, enc (if c = true then x else y)⟩ := fun L env g => by
  cases c <;> simp only [ev, ht L env g, ha L env g, hb L env g, Iv.R.bind, if_true, Bool.false_eq_true, if_false]
theorem et_chain {f h : Pr} {a b c : CE} {x y z : Val} {u v : Bool} {k k' : Kd} (ha : ET T a sp x) (hb : ET T b sp y) (hc : ET T c sp z) (h1 : pr2 f x.k x.d y.k y.d = some (k, .bool u)) (h2 : pr2 h y.k y.d z.k z.d = some (.imm, .bool v)) : ET T (.chain f h a b c) sp ⟨.imm, .fr, .bool (u && v)⟩ := fun L env g => by
  cases u <;> simp only [ev, ha L env g, hb _ env g, hc _ env g, Iv.R.bind, h1, h2, Option.map_some, Iv.R.of, V0, Bool.true_and, Bool.false_and]
theorem at_nil : AT T [] sp [] := fun io L env f => by simp only [evs]
theorem at_cons {a : CE} {as : List CE} {v : Val} {vs : List Val} (ha : ET T a sp v) (hs : AT T as sp vs) : AT T (a :: as) sp (v :: vs) := fun io L env f => by
  simp only [evs, ha L env f, Iv.R.bind, hs _ _ env f]
theorem et_tup {as : List CE} {vs : List Val} {k : Kd} {p : Pv} {d : D} (h : AT T as sp vs) (hf : fits vs.length = true) (hs : slots vs = []) (hm : vs.map share = vs) (hk : (if kAll vs then Kd.imm else Kd.deep) = k) (hp : pAll vs = p) (hd : PyData.tuple (vs.map (·.d)) = d) : ET T (.tup as) sp ⟨k, p, d⟩ := fun L env g => by
  subst hk hp hd
  simp only [ev, h [] L env g, Iv.R.bind, hf, if_true, esc, hs, List.all_nil, List.foldl_nil, hm, Iv.R.of]
theorem et_lst {as : List CE} {vs : List Val} {k : Kd} {p : Pv} {d : D} (h : AT T as sp vs) (hf : fits vs.length = true) (hs : slots vs = []) (hm : vs.map share = vs) (hk : (if kAll vs then Kd.flat else Kd.deep) = k) (hp : pAll vs = p) (hd : PyData.list (vs.map (·.d)) = d) : ET T (.lst as) sp ⟨k, p, d⟩ := fun L env g => by
  subst hk hp hd
  simp only [ev, h [] L env g, Iv.R.bind, hf, if_true, esc, hs, List.all_nil, List.foldl_nil, hm, Iv.R.of]

/-! partial and changing expressions -/
theorem ej_t {e : CE} {v : Val} {d : δ} (h : ET T e sp v) (hv : val d = v) (hs : sp' d = sp) : EJ T e L sp (some d) val sp' := fun env f b hb => by
  cases hb
  exact ⟨env, by rw [h L env f, hv], by rw [hs]; exact f⟩
/-- what may be None, but is not -/
theorem ej_some {α : Type} {e : CE} {k : Kd} {p : Pv} {enc : α → D} {x : Option α} (h : ET T e sp ⟨k, p, (match x with | some y => enc y | none => .none)⟩) : EJ T e L sp x (fun y => ⟨k, p, enc y⟩) (fun _ => sp) := fun env f b hb => by
  subst hb
  exact ⟨env, h L env f, f⟩
theorem aj_nil {Fin : List Val → Sp → Option δ → Prop} {io : List Bool} {pre : List Val} {m : Option δ} (h : Fin pre sp m) : AJ T Fin io [] L sp pre m := fun env f d hd => by
  subst hd
  exact ⟨[], env, sp, by simp only [evs], f, by simpa using h⟩
theorem aj_t {Fin : List Val → Sp → Option δ → Prop} {io : List Bool} {a : CE} {as : List CE} {pre : List Val} {m : Option δ} {v : Val} (ha : ET T a sp v) (h : AJ T Fin io.tail as (lkIo (io.headD false) v L) sp (pre ++ [v]) m) : AJ T Fin io (a :: as) L sp pre m := fun env f d hd => by
  obtain ⟨vs, env', spf, h1, h2, h3⟩ := h env f d hd
  refine ⟨v :: vs, env', spf, ?_, h2, by simpa using h3⟩
  simp only [evs, ha L env f, Iv.R.bind, h1]
theorem aj_j {Fin : List Val → Sp → Option δ → Prop} {io : List Bool} {a : CE} {as : List CE} {pre : List Val} {β : Type} {m1 : Option β} {m : β → Option δ} {v : β → Val} {sp1 : β → Sp} (ha : EJ T a L sp m1 v sp1) (h : ∀ b, AJ T Fin io.tail as (lkIo (io.headD false) (v b) L) (sp1 b) (pre ++ [v b]) (m b)) : AJ T Fin io (a :: as) L sp pre (m1.bind m) := fun env f d hd => by
  obtain ⟨b, hb, hd⟩ := Option.bind_eq_some_iff.mp hd
  obtain ⟨env1, e1, f1⟩ := ha env f b hb
  obtain ⟨vs, env', spf, h1, h2, h3⟩ := h b env1 f1 d hd
  refine ⟨v b :: vs, env', spf, ?_, h2, by simpa using h3⟩
  simp only [evs, e1, Iv.R.bind, h1]
/-- a leaf: the operands' values give the result, nothing else is changed -/
def FP (pr : List Val → Option Val) (val : δ → Val) (sp' : δ → Sp) (vs : List Val) (sp : Sp) (m : Option δ) : Prop := ∀ d, m = some d → pr vs = some (val d) ∧ sp' d = sp
def pv1 (f : Pr) : List Val → Option Val
  | [x] => (pr1 f x.k x.d).map fun r => ⟨r.1, .fr, r.2⟩
  | _ => none
def pv2 (f : Pr) : List Val → Option Val
  | [x, y] => (pr2 f x.k x.d y.k y.d).map fun r => ⟨r.1, .fr, r.2⟩
  | _ => none
def pvix : List Val → Option Val
  | [x, y] => ixV x y
  | _ => none
theorem fp_t {pr : List Val → Option Val} {vs : List Val} {d : δ} (h : pr vs = some (val d)) (hs : sp' d = sp) : FP pr val sp' vs sp (some d) := fun b hb => by cases hb; exact ⟨h, hs⟩
/-- a partial prim: y, and then the changed things -/
theorem fp_m {pr : List Val → Option Val} {vs : List Val} {γ : Type} {m : Option γ} {mk : γ → δ} (h : ∀ y, m = some y → pr vs = some (val (mk y))) (hs : ∀ y, sp' (mk y) = sp) : FP pr val sp' vs sp (m.map mk) := fun b hb => by
  obtain ⟨y, hy, rfl⟩ := Option.map_eq_some_iff.mp hb
  exact ⟨h y hy, hs y⟩
theorem fp_p {pr : List Val → Option Val} {vs : List Val} {m : Option δ} (h : ∀ y, m = some y → pr vs = some (val y)) (hs : ∀ y, sp' y = sp) : FP pr val sp' vs sp m := fun b hb => ⟨h b hb, hs b⟩
theorem ej_p1 {f : Pr} {a : CE} {m : Option δ} (h : AJ T (FP (pv1 f) val sp') [] [a] L sp [] m) : EJ T (.p1 f a) L sp m val sp' := fun env g b hb => by
  obtain ⟨vs, env', spf, h1, h2, h3⟩ := h env g b hb
  obtain ⟨h4, h5⟩ := h3 b rfl
  have e1 : evs T [] [a] L env = (ev T a L env).bind fun q => .ok ([q.1], q.2) := by
    simp only [evs]
    cases ev T a L env <;> rfl
  rw [e1] at h1
  cases e2 : ev T a L env with
  | ok q =>
    rw [e2] at h1
    simp only [Iv.R.bind, Iv.R.ok.injEq, Prod.mk.injEq] at h1
    obtain ⟨rfl, rfl⟩ := h1
    simp only [List.nil_append, pv1] at h4
    refine ⟨q.2, ?_, by rw [h5]; exact h2⟩
    simp only [ev, e2, Iv.R.bind]
    cases e3 : pr1 f q.1.k q.1.d with
    | none => rw [e3] at h4; cases h4
    | some r =>
      rw [e3] at h4
      simp only [Option.map_some, Option.some.injEq] at h4
      simp only [Option.map_some, Iv.R.of, h4]
  | ex n e => rw [e2] at h1; cases h1
  | no => rw [e2] at h1; cases h1
theorem evs_two {a b : CE} {env : Env} {vs : List Val} {env' : Env} (h : evs T [] [a, b] L env = .ok (vs, env')) : ∃ q p, ev T a L env = .ok q ∧ ev T b (lk q.1 L) q.2 = .ok p ∧ vs = [q.1, p.1] ∧ env' = p.2 := by
  simp only [evs] at h
  cases e2 : ev T a L env with
  | ok q =>
    rw [e2] at h
    simp only [Iv.R.bind, List.headD_nil, List.tail_nil] at h
    have el : lkIo false q.1 L = lk q.1 L := by unfold lkIo; rfl
    rw [el] at h
    cases e3 : ev T b (lk q.1 L) q.2 with
    | ok p =>
      rw [e3] at h
      simp only [Iv.R.bind, Iv.R.ok.injEq, Prod.mk.injEq] at h
      exact ⟨q, p, rfl, e3, h.1.symm, h.2.symm⟩
    | ex n e => rw [e3] at h; cases h
    | no => rw [e3] at h; cases h
  | ex n e => rw [e2] at h; cases h
  | no => rw [e2] at h; cases h
theorem ej_p2 {f : Pr} {a b : CE} {m : Option δ} (h : AJ T (FP (pv2 f) val sp') [] [a, b] L sp [] m) : EJ T (.p2 f a b) L sp m val sp' := fun env g d hd => by
  obtain ⟨vs, env', spf, h1, h2, h3⟩ := h env g d hd
  obtain ⟨h4, h5⟩ := h3 d rfl
  obtain ⟨q, p, e1, e2, rfl, rfl⟩ := evs_two h1
  simp only [List.nil_append, pv2] at h4
  refine ⟨p.2, ?_, by rw [h5]; exact h2⟩
  simp only [ev, e1, e2, Iv.R.bind]
  cases e3 : pr2 f q.1.k q.1.d p.1.k p.1.d with
  | none => rw [e3] at h4; cases h4
  | some r =>
    rw [e3] at h4
    simp only [Option.map_some, Option.some.injEq] at h4
    simp only [Option.map_some, Iv.R.of, h4]
theorem ej_ix {a b : CE} {m : Option δ} (h : AJ T (FP pvix val sp') [] [a, b] L sp [] m) : EJ T (.ix a b) L sp m val sp' := fun env g d hd => by
  obtain ⟨vs, env', spf, h1, h2, h3⟩ := h env g d hd
  obtain ⟨h4, h5⟩ := h3 d rfl
  obtain ⟨q, p, e1, e2, rfl, rfl⟩ := evs_two h1
  simp only [List.nil_append, pvix] at h4
  refine ⟨p.2, ?_, by rw [h5]; exact h2⟩
  simp only [ev, e1, e2, Iv.R.bind, h4, Option.map_some, Iv.R.of]
def FTup (L : List Nat) (tup : Bool) (val : δ → Val) (sp' : δ → Sp) (vs : List Val) (sp : Sp) (m : Option δ) : Prop := ∀ d, m = some d → fits vs.length = true ∧ ((slots vs).all fun i => decide (i ∉ L)) = true ∧
  val d = ⟨if kAll (vs.map share) then (if tup then .imm else .flat) else .deep, pAll (vs.map share), if tup then .tuple ((vs.map share).map (·.d)) else .list ((vs.map share).map (·.d))⟩ ∧ sp' d = (slots vs).foldl (fun e i => disS i e) sp
theorem ej_tup {as : List CE} {m : Option δ} (h : AJ T (FTup L true val sp') [] as L sp [] m) : EJ T (.tup as) L sp m val sp' := fun env g d hd => by
  obtain ⟨vs, env', spf, h1, h2, h3⟩ := h env g d hd
  obtain ⟨h4, h5, h6, h7⟩ := h3 d rfl
  simp only [List.nil_append] at h4 h5 h6 h7
  refine ⟨(slots vs).foldl (fun e i => disown i e) env', ?_, by rw [h7]; exact h2.diss _⟩
  simp only [ev, h1, Iv.R.bind, h4, if_true, esc, h5, Iv.R.of, h6]
theorem ej_lst {as : List CE} {m : Option δ} (h : AJ T (FTup L false val sp') [] as L sp [] m) : EJ T (.lst as) L sp m val sp' := fun env g d hd => by
  obtain ⟨vs, env', spf, h1, h2, h3⟩ := h env g d hd
  obtain ⟨h4, h5, h6, h7⟩ := h3 d rfl
  simp only [List.nil_append] at h4 h5 h6 h7
  refine ⟨(slots vs).foldl (fun e i => disown i e) env', ?_, by rw [h7]; exact h2.diss _⟩
  simp only [ev, h1, Iv.R.bind, h4, if_true, esc, h5, Iv.R.of, h6, Bool.false_eq_true, if_false]
theorem ftup_t {L : List Nat} {tup : Bool} {vs : List Val} {d : δ} (h1 : fits vs.length = true) (h2 : ((slots vs).all fun i => decide (i ∉ L)) = true) (h3 : val d = ⟨if kAll (vs.map share) then (if tup then .imm else .flat) else .deep, pAll (vs.map share), if tup then .tuple ((vs.map share).map (·.d)) else .list ((vs.map share).map (·.d))⟩)
    (h4 : sp' d = (slots vs).foldl (fun e i => disS i e) sp) : FTup L tup val sp' vs sp (some d) := fun b hb => by cases hb; exact ⟨h1, h2, h3, h4⟩
theorem ej_nt {a : CE} {β : Type} {m : Option β} {v : β → Val} {sp1 : β → Sp} {c : β → Bool} {mk : β → δ} (h : EJ T a L sp m v sp1) (hc : ∀ b, (v b).d = .bool (c b)) (hv : ∀ b, val (mk b) = ⟨.imm, .fr, .bool (!c b)⟩) (hs : ∀ b, sp' (mk b) = sp1 b) : EJ T (.nt a) L sp (m.map mk) val sp' := fun env g d hd => by
  obtain ⟨b, hb, rfl⟩ := Option.map_eq_some_iff.mp hd
  obtain ⟨env', e1, f1⟩ := h env g b hb
  refine ⟨env', ?_, by rw [hs]; exact f1⟩
  simp only [ev, e1, Iv.R.bind, hc b, V0, hv]
theorem ej_andT {a b : CE} {k : Kd} {p : Pv} {c : Bool} {m : Option δ} {f : δ} (ha : ET T a sp ⟨k, p, .bool c⟩) (hb : EJ T b L sp m val sp') (hv : val f = ⟨.imm, .fr, .bool false⟩) (hs : sp' f = sp) : EJ T (.andE a b) L sp (if c = true then m else some f) val sp' := fun env g d hd => by
  cases c with
  | true =>
    obtain ⟨env', e1, f1⟩ := hb env g d (by simpa using hd)
    exact ⟨env', by simp only [ev, ha L env g, Iv.R.bind, e1], f1⟩
  | false =>
    simp at hd
    subst hd
    exact ⟨env, by simp only [ev, ha L env g, Iv.R.bind, V0, hv], by rw [hs]; exact g⟩
theorem ej_andJ {a b : CE} {β : Type} {m1 : Option β} {v : β → Val} {sp1 : β → Sp} {c : β → Bool} {m : β → Option δ} {f : β → δ} (ha : EJ T a L sp m1 v sp1) (hc : ∀ q, (v q).d = .bool (c q)) (hb : ∀ q, EJ T b L (sp1 q) (m q) val sp') (hv : ∀ q, val (f q) = ⟨.imm, .fr, .bool false⟩) (hs : ∀ q, sp' (f q) = sp1 q) :
    EJ T (.andE a b) L sp (m1.bind fun q => if c q = true then m q else some (f q)) val sp' := fun env g d hd => by
  obtain ⟨q, hq, hd⟩ := Option.bind_eq_some_iff.mp hd
  obtain ⟨env1, e1, f1⟩ := ha env g q hq
  cases h : c q with
  | true =>
    rw [h] at hd
    obtain ⟨env', e2, f2⟩ := hb q env1 f1 d (by simpa using hd)
    exact ⟨env', by simp only [ev, e1, Iv.R.bind, hc q, h, e2], f2⟩
  | false =>
    rw [h] at hd
    simp at hd
    subst hd
    exact ⟨env1, by simp only [ev, e1, Iv.R.bind, hc q, h, V0, hv], by rw [hs]; exact f1⟩
theorem ej_orT {a b : CE} {k : Kd} {p : Pv} {c : Bool} {m : Option δ} {f : δ} (ha : ET T a sp ⟨k, p, .bool c⟩) (hb : EJ T b L sp m val sp') (hv : val f = ⟨.imm, .fr, .bool true⟩) (hs : sp' f = sp) : EJ T (.orE a b) L sp (if c = true then some f else m) val sp' := fun env g d hd => by
  cases c with
  | false =>
    obtain ⟨env', e1, f1⟩ := hb env g d (by simpa using hd)
    exact ⟨env', by simp only [ev, ha L env g, Iv.R.bind, e1], f1⟩
  | true =>
    simp at hd
    subst hd
    exact ⟨env, by simp only [ev, ha L env g, Iv.R.bind, V0, hv], by rw [hs]; exact g⟩
theorem ej_orJ {a b : CE} {β : Type} {m1 : Option β} {v : β → Val} {sp1 : β → Sp} {c : β → Bool} {m : β → Option δ} {f : β → δ} (ha : EJ T a L sp m1 v sp1) (hc : ∀ q, (v q).d = .bool (c q)) (hb : ∀ q, EJ T b L (sp1 q) (m q) val sp') (hv : ∀ q, val (f q) = ⟨.imm, .fr, .bool true⟩) (hs : ∀ q, sp' (f q) = sp1 q) :
    EJ T (.orE a b) L sp (m1.bind fun q => if c q = true then some (f q) else m q) val sp' := fun env g d hd => by
  obtain ⟨q, hq, hd⟩ := Option.bind_eq_some_iff.mp hd
  obtain ⟨env1, e1, f1⟩ := ha env g q hq
  cases h : c q with
  | false =>
    rw [h] at hd
    obtain ⟨env', e2, f2⟩ := hb q env1 f1 d (by simpa using hd)
    exact ⟨env', by simp only [ev, e1, Iv.R.bind, hc q, h, e2], f2⟩
  | true =>
    rw [h] at hd
    simp at hd
    subst hd
    exact ⟨env1, by simp only [ev, e1, Iv.R.bind, hc q, h, V0, hv], by rw [hs]; exact f1⟩
theorem ej_ifeT {t a b : CE} {k : Kd} {p : Pv} {c : Bool} {ma mb : Option δ} (ht : ET T t sp ⟨k, p, .bool c⟩) (ha : EJ T a L sp ma val sp') (hb : EJ T b L sp mb val sp') : EJ T (.ife t a b) L sp (if c = true then ma else mb) val sp' := fun env g d hd => by
  cases c with
  | true =>
    obtain ⟨env', e1, f1⟩ := ha env g d (by simpa using hd)
    exact ⟨env', by simp only [ev, ht L env g, Iv.R.bind, e1], f1⟩
  | false =>
    obtain ⟨env', e1, f1⟩ := hb env g d (by simpa using hd)
    exact ⟨env', by simp only [ev, ht L env g, Iv.R.bind, e1], f1⟩
theorem ej_ifeJ {t a b : CE} {β : Type} {m1 : Option β} {v : β → Val} {sp1 : β → Sp} {c : β → Bool} {ma mb : β → Option δ} (ht : EJ T t L sp m1 v sp1) (hc : ∀ q, (v q).d = .bool (c q)) (ha : ∀ q, EJ T a L (sp1 q) (ma q) val sp') (hb : ∀ q, EJ T b L (sp1 q) (mb q) val sp') :
    EJ T (.ife t a b) L sp (m1.bind fun q => if c q = true then ma q else mb q) val sp' := fun env g d hd => by
  obtain ⟨q, hq, hd⟩ := Option.bind_eq_some_iff.mp hd
  obtain ⟨env1, e1, f1⟩ := ht env g q hq
  cases h : c q with
  | true =>
    rw [h] at hd
    obtain ⟨env', e2, f2⟩ := ha q env1 f1 d (by simpa using hd)
    exact ⟨env', by simp only [ev, e1, Iv.R.bind, hc q, h, e2], f2⟩
  | false =>
    rw [h] at hd
    obtain ⟨env', e2, f2⟩ := hb q env1 f1 d (by simpa using hd)
    exact ⟨env', by simp only [ev, e1, Iv.R.bind, hc q, h, e2], f2⟩
/-- a chain: all three told first where the middle one is -/
theorem ej_chain {f h : Pr} {a b c : CE} {β : Type} {m1 : Option β} {x y : β → Val} {sp1 : β → Sp} {u : β → Bool} {k : Kd} {m2 : β → Option δ} {fl : β → δ}
    (h2 : AJ T (fun vs s m => ∀ q : β, m = some q → vs = [x q, y q] ∧ s = sp1 q) [] [a, b] L sp [] m1) (hu : ∀ q, pr2 f (x q).k (x q).d (y q).k (y q).d = some (k, .bool (u q)))
    (hc : ∀ q, AJ T (fun vs s m => ∀ d : δ, m = some d → ∃ z, vs = [z] ∧ (pr2 h (y q).k (y q).d z.k z.d).map (fun r => (⟨r.1, .fr, r.2⟩ : Val)) = some (val d) ∧ sp' d = s) [] [c] (lk (y q) L) (sp1 q) [] (m2 q)) (hv : ∀ q, val (fl q) = ⟨.imm, .fr, .bool false⟩) (hs : ∀ q, sp' (fl q) = sp1 q) :
    EJ T (.chain f h a b c) L sp (m1.bind fun q => if u q = true then m2 q else some (fl q)) val sp' := fun env g d hd => by
  obtain ⟨q, hq, hd⟩ := Option.bind_eq_some_iff.mp hd
  obtain ⟨vs, env', spf, h3, h4, h5⟩ := h2 env g q hq
  obtain ⟨h6, rfl⟩ := h5 q rfl
  obtain ⟨q1, p1, e1, e2, rfl, rfl⟩ := evs_two h3
  simp only [List.nil_append, List.cons.injEq, and_true] at h6
  obtain ⟨hx, hy⟩ := h6
  cases hu2 : u q with
  | false =>
    rw [hu2] at hd
    simp at hd
    subst hd
    refine ⟨p1.2, ?_, by rw [hs]; exact h4⟩
    have hu3 := hu q
    rw [← hx, ← hy, hu2] at hu3
    simp only [ev, e1, e2, Iv.R.bind, hu3, V0, hv]
  | true =>
    rw [hu2] at hd
    obtain ⟨vs, env2, spf, h7, h8, h9⟩ := hc q p1.2 h4 d (by simpa using hd)
    obtain ⟨z, hz, h10, rfl⟩ := h9 d rfl
    simp only [List.nil_append] at hz
    subst hz
    refine ⟨env2, ?_, h8⟩
    rw [← hy] at h7 h10
    simp only [evs] at h7
    cases e3 : ev T c (lk p1.1 L) p1.2 with
    | ok o =>
      rw [e3] at h7
      simp only [Iv.R.bind, Iv.R.ok.injEq, Prod.mk.injEq, List.cons.injEq, and_true] at h7
      obtain ⟨rfl, rfl⟩ := h7
      have hu3 := hu q
      rw [← hx, ← hy, hu2] at hu3
      simp only [ev, e1, e2, Iv.R.bind, hu3, e3, h10, Option.map_map]
      cases e4 : pr2 h p1.1.k p1.1.d o.1.k o.1.d with
      | none => rw [e4] at h10; cases h10
      | some r => rw [e4] at h10; simp only [Option.map_some, Option.some.injEq] at h10; simp only [Option.map_some, Iv.R.of, h10]
    | ex n e => rw [e3] at h7; cases h7
    | no => rw [e3] at h7; cases h7

/-! targets -/
theorem tg_nm {i : Nat} {k : Kd} {p : Pv} {d : D} {o : Bool} (hp : (decide (p = .fr) || decide (p = .sh)) = true) (ho : decide (p = .fr) = o) : TgJ (.nm i) ⟨k, p, d⟩ sp (sp.set i (some (some ⟨k, o, d⟩))) := fun L env f => by
  subst ho
  refine ⟨env.set i (some ⟨k, decide (p = .fr), d⟩), ?_, f.set i _⟩
  cases p <;> simp at hp <;> simp [asgT, store, esc, slots, share]
theorem tgs_nil : TgsJ [] [] sp sp := fun L env f => ⟨env, by simp only [asgTs], f⟩
theorem tgs_cons {t : Tg} {ts : List Tg} {x : Val} {xs : List Val} {sp1 sp2 : Sp} (h : TgJ t x sp sp1) (hs : TgsJ ts xs sp1 sp2) : TgsJ (t :: ts) (x :: xs) sp sp2 := fun L env f => by
  obtain ⟨e1, h1, f1⟩ := h L env f
  obtain ⟨e2, h2, f2⟩ := hs L e1 f1
  exact ⟨e2, by simp only [asgTs, h1, Option.bind_some, h2], f2⟩
theorem tg_tp {ts : List Tg} {k : Kd} {p : Pv} {ds : List D} {xs : List Val} {sp1 : Sp} (hp : (decide (p = .fr) || decide (p = .sh)) = true) (hx : (ds.map fun d => part ⟨k, .sh, .tuple ds⟩ d) = xs) (h : TgsJ ts xs sp sp1) : TgJ (.tp ts) ⟨k, p, .tuple ds⟩ sp sp1 := fun L env f => by
  obtain ⟨e1, h1, f1⟩ := h L env f
  refine ⟨e1, ?_, f1⟩
  cases p <;> simp at hp <;> simp [asgT, esc, slots, share, hx, h1]
end
end Iv

set_option maxRecDepth 100000
/-! MrB: judgements and rules for statements, blocks, loops, comprehensions, calls, defs. -/
namespace Iv
open PySem L2

/-! what is returned early, or how it goes on -/
inductive Ou (ρ σ : Type) | rt (r : ρ) | nx (s : σ)
def ouR {ρ σ : Type} (o : Option (Ou ρ σ)) (k : σ → Option ρ) : Option ρ := o.bind fun o => match o with | .rt r => some r | .nx s => k s
def ouS {ρ σ τ : Type} (o : Option (Ou ρ σ)) (k : σ → Option (Ou ρ τ)) : Option (Ou ρ τ) := o.bind fun o => match o with | .rt r => some (.rt r) | .nx s => k s
def forO {α ρ σ : Type} (f : σ → α → Option (Ou ρ σ)) : List α → σ → Option (Ou ρ σ)
  | [], s => some (.nx s)
  | x :: xs, s => ouS (f s x) (forO f xs)
def forM' {α σ : Type} (f : σ → α → Option σ) : List α → σ → Option σ
  | [], s => some s
  | x :: xs, s => (f s x).bind (forM' f xs)
def whlM {σ : Type} (c : σ → Option Bool) (f : σ → Option σ) : Nat → σ → Option σ
  | 0, _ => none
  | n + 1, s => (c s).bind fun q => if q = true then (f s).bind (whlM c f n) else some s
def whlO {ρ σ : Type} (c : σ → Option Bool) (f : σ → Option (Ou ρ σ)) : Nat → σ → Option (Ou ρ σ)
  | 0, _ => none
  | n + 1, s => (c s).bind fun q => if q = true then ouS (f s) (whlO c f n) else some (.nx s)
def compS {α σ γ : Type} (c : σ → α → Option (Bool × σ)) (g : σ → α → Option (γ × σ)) : List α → σ → Option (List γ × σ)
  | [], s => some ([], s)
  | x :: xs, s => (c s x).bind fun q => if q.1 = true then (g q.2 x).bind fun y => (compS c g xs y.2).map fun r => (y.1 :: r.1, r.2) else compS c g xs q.2
def fitM {β : Type} (n : Nat) (m : Option β) : Option β := if fits n = true then m else none
def compM {α γ : Type} (c : α → Option Bool) (g : α → Option γ) (xs : List α) : Option (List γ) := fitM xs.length ((compS (σ := Unit) (fun _ x => (c x).map fun b => (b, ())) (fun _ x => (g x).map fun y => (y, ())) xs ()).map (·.1))
def compT {α γ : Type} (c : α → Bool) (g : α → γ) (xs : List α) : Option (List γ) := fitM xs.length (some ((xs.filter c).map g))

def XT (T : Tab) (s : CS) (L : List Nat) (sp sp' : Sp) : Prop := ∀ env, Fit sp env → ∃ e, exec T s L env = .nx e ∧ Fit sp' e
def XJ {σ : Type} (T : Tab) (s : CS) (L : List Nat) (sp : Sp) (m : Option σ) (sp' : σ → Sp) : Prop := ∀ env, Fit sp env → ∀ b, m = some b → ∃ e, exec T s L env = .nx e ∧ Fit (sp' b) e
def BJ {σ : Type} (T : Tab) (ss : List CS) (L : List Nat) (sp : Sp) (m : Option σ) (sp' : σ → Sp) : Prop := ∀ env, Fit sp env → ∀ b, m = some b → ∃ e, execs T ss L env = .nx e ∧ Fit (sp' b) e
def RetOk (io : List Bool) (x v : Val) : Prop := x.k = v.k ∧ x.d = v.d ∧ retP io x = some v.p ∧ (x.k = .imm → x.p = .fr)
def RJ {ρ : Type} (T : Tab) (io : List Bool) (ss : List CS) (L : List Nat) (sp : Sp) (m : Option ρ) (rv : ρ → Val) (rs : ρ → Sp) : Prop :=
  ∀ env, Fit sp env → ∀ r, m = some r → ∃ e, Fit (rs r) e ∧ ((∃ x, execs T ss L env = .rt x e ∧ RetOk io x (rv r)) ∨ (execs T ss L env = .nx e ∧ rv r = V0 .none))
def SJ {ρ σ : Type} (T : Tab) (io : List Bool) (ss : List CS) (L : List Nat) (sp : Sp) (m : Option (Ou ρ σ)) (rv : ρ → Val) (rs : ρ → Sp) (sp' : σ → Sp) : Prop :=
  ∀ env, Fit sp env → ∀ o, m = some o → match o with
    | .nx s => ∃ e, (execs T ss L env = .nx e ∨ execs T ss L env = .ct e) ∧ Fit (sp' s) e
    | .rt r => ∃ x e, execs T ss L env = .rt x e ∧ RetOk io x (rv r) ∧ Fit (rs r) e
def CJ {δ : Type} (T : Tab) (f : Str) (ps : List Sl) (m : Option δ) (rv : δ → Val) (out : δ → Env) : Prop := ∀ b, m = some b → T.fn f ps = .ok (rv b, out b)

theorem execs_append {T : Tab} {L : List Nat} : ∀ (a b : List CS) (env : Env), execs T (a ++ b) L env = (match execs T a L env with | .nx e => execs T b L e | r => r)
  | [], b, env => by simp only [List.nil_append, execs]
  | s :: a, b, env => by
    simp only [List.cons_append, execs]
    cases exec T s L env with
    | nx e => exact execs_append a b e
    | _ => rfl

section
variable {T : Tab} {sp sp1 : Sp} {L L' : List Nat} {δ σ ρ τ : Type}

/-! statements -/
theorem xt_asg {t : Tg} {e : CE} {x : Val} (h : ET T e sp x) (ht : TgJ t x sp sp1) : XT T (.asg t e) L sp sp1 := fun env f => by
  obtain ⟨e1, h1, f1⟩ := ht L env f
  exact ⟨e1, by simp only [exec, h L env f, Iv.R.rs, h1, Iv.R.of], f1⟩
theorem xj_asg {t : Tg} {e : CE} {m : Option σ} {v : σ → Val} {sp1 sp2 : σ → Sp} (h : EJ T e L sp m v sp1) (ht : ∀ b, TgJ t (v b) (sp1 b) (sp2 b)) : XJ T (.asg t e) L sp m sp2 := fun env f b hb => by
  obtain ⟨e0, h0, f0⟩ := h env f b hb
  obtain ⟨e1, h1, f1⟩ := ht b L e0 f0
  exact ⟨e1, by simp only [exec, h0, Iv.R.rs, h1, Iv.R.of], f1⟩
/-- another name for a list of one's own: both share it -/
theorem xt_alias {i j : Nat} {e : CE} {k : Kd} {p : Pv} {d : D} (h : ET T e sp ⟨k, p, d⟩) (hp : (decide (p = .sl j) || decide (p = .pt j)) = true) (hL : decide (j ∈ L) = false) : XT T (.asg (.nm i) e) L sp ((disS j sp).set i (some (some ⟨k, false, d⟩))) := fun env f => by
  refine ⟨(disown j env).set i (some ⟨k, false, d⟩), ?_, (f.dis j).set i _⟩
  simp only [decide_eq_false_iff_not] at hL
  simp only [exec, h L env f, Iv.R.rs]
  cases p <;> simp at hp <;> subst hp <;> simp [asgT, store, esc, slots, share, hL, Iv.R.of]
theorem xt_expr {e : CE} {x : Val} (h : ET T e sp x) : XT T (.expr e) L sp sp := fun env f => ⟨env, by simp only [exec, h L env f, Iv.R.rs], f⟩
theorem xj_expr {e : CE} {m : Option σ} {v : σ → Val} {sp1 : σ → Sp} (h : EJ T e L sp m v sp1) : XJ T (.expr e) L sp m sp1 := fun env f b hb => by
  obtain ⟨e0, h0, f0⟩ := h env f b hb
  exact ⟨e0, by simp only [exec, h0, Iv.R.rs], f0⟩
theorem xt_pass : XT T .pass L sp sp := fun env f => ⟨env, by simp only [exec], f⟩
def FPar (L : List Nat) (i j : Nat) (sp' : σ → Sp) (vs : List Val) (sp : Sp) (m : Option σ) : Prop := ∀ b, m = some b → ∃ x y, vs = [x, y] ∧ ((slots [x, y]).all fun i => decide (i ∉ L)) = true ∧
  sp' b = (((slots [x, y]).foldl (fun e i => disS i e) sp).set i (some (some ⟨(share x).k, decide ((share x).p = .fr), (share x).d⟩))).set j (some (some ⟨(share y).k, decide ((share y).p = .fr), (share y).d⟩))
theorem xj_par {i j : Nat} {a b : CE} {m : Option σ} {sp' : σ → Sp} (h : AJ T (FPar L i j sp') [] [a, b] L sp [] m) : XJ T (.par i j a b) L sp m sp' := fun env f d hd => by
  obtain ⟨vs, env', spf, h1, h2, h3⟩ := h env f d hd
  obtain ⟨x, y, h4, h5, h6⟩ := h3 d rfl
  simp only [List.nil_append] at h4
  subst h4
  refine ⟨_, ?_, by rw [h6]; exact ((h2.diss _).set i _).set j _⟩
  simp only [exec, h1, Iv.R.rs, esc, h5, if_true, Iv.R.of, List.map_cons, List.map_nil]
theorem fpar_t {i j : Nat} {x y : Val} {b : σ} {sp' : σ → Sp} (h5 : ((slots [x, y]).all fun i => decide (i ∉ L)) = true)
    (h6 : sp' b = (((slots [x, y]).foldl (fun e i => disS i e) sp).set i (some (some ⟨(share x).k, decide ((share x).p = .fr), (share x).d⟩))).set j (some (some ⟨(share y).k, decide ((share y).p = .fr), (share y).d⟩))) : FPar L i j sp' [x, y] sp (some b) := fun c hc => by cases hc; exact ⟨x, y, rfl, h5, h6⟩
theorem xt_par {i j : Nat} {a b : CE} {x y : Val} {sp' : Sp} (h : AT T [a, b] sp [x, y]) (h5 : ((slots [x, y]).all fun i => decide (i ∉ L)) = true)
    (h6 : (((slots [x, y]).foldl (fun e i => disS i e) sp).set i (some (some ⟨(share x).k, decide ((share x).p = .fr), (share x).d⟩))).set j (some (some ⟨(share y).k, decide ((share y).p = .fr), (share y).d⟩)) = sp') : XT T (.par i j a b) L sp sp' := fun env f => by
  refine ⟨_, ?_, by rw [← h6]; exact ((f.diss _).set i _).set j _⟩
  simp only [exec, h [] L env f, Iv.R.rs, esc, h5, if_true, Iv.R.of, List.map_cons, List.map_nil]
/-- values that go into another thing, by what is known -/
def mvS (L : List Nat) : List Val → Sp → Option (List Val × Sp)
  | [], sp => some ([], sp)
  | x :: xs, sp => match x.p with
    | .fr => (mvS L xs sp).map fun q => (x :: q.1, q.2)
    | .sl i => if i ∈ L then none else match sp[i]? with
      | some (some (some s)) => if s.own then (mvS L xs (sp.set i (some none))).map fun q => (⟨x.k, .fr, x.d⟩ :: q.1, q.2) else none
      | _ => none
    | _ => none
theorem mvS_ok : ∀ {xs ys : List Val} {sp sp' : Sp} {env : Env}, mvS L xs sp = some (ys, sp') → Fit sp env → ∃ env', mv L xs env = some (ys, env') ∧ Fit sp' env'
  | [], ys, sp, sp', env, h, f => by
    simp only [mvS, Option.some.injEq, Prod.mk.injEq] at h
    obtain ⟨rfl, rfl⟩ := h
    exact ⟨env, rfl, f⟩
  | ⟨k, p, d⟩ :: xs, ys, sp, sp', env, h, f => by
    cases p with
    | fr =>
      simp only [mvS] at h
      obtain ⟨q, hq, e⟩ := Option.map_eq_some_iff.mp h
      cases e
      obtain ⟨env', h1, f1⟩ := mvS_ok (ys := q.1) (sp' := q.2) hq f
      exact ⟨env', by simp only [mv, h1, Option.map_some], f1⟩
    | sl i =>
      simp only [mvS] at h
      by_cases hi : i ∈ L
      · simp [hi] at h
      · simp only [hi, if_false] at h
        cases hs : sp[i]? with
        | none => rw [hs] at h; cases h
        | some a =>
          cases a with
          | none => rw [hs] at h; cases h
          | some b =>
            cases b with
            | none => rw [hs] at h; cases h
            | some s =>
              rw [hs] at h
              simp only at h
              by_cases ho : s.own = true
              · simp only [ho, if_true] at h
                obtain ⟨q, hq, e⟩ := Option.map_eq_some_iff.mp h
                cases e
                obtain ⟨env', h1, f1⟩ := mvS_ok (ys := q.1) (sp' := q.2) hq (f.set i none)
                exact ⟨env', by simp only [mv, hi, if_false, f.get hs, ho, if_true, h1, Option.map_some], f1⟩
              · simp only [ho] at h; cases h
    | pt i => simp [mvS] at h
    | sh => simp [mvS] at h
/-- the new thing at a place: what the store leaves -/
def PutOk (L : List Nat) (r : Nat) (kd : Kd) (x k : Val) (sp sp' : Sp) : Prop := ∃ y sp2 d d1 dn, mvS (r :: L) [x] sp = some ([y], sp2) ∧ sp2[r]? = some (some (some ⟨kd, true, d⟩)) ∧ putD k.d y.d d = some (d1, dn) ∧ sp2.set r (some (some ⟨if y.k = .imm then kd else .deep, true, d1⟩)) = sp'
theorem put_ok {r : Nat} {kd : Kd} {x k y : Val} {sp2 sp' : Sp} {d d1 dn : D} (h1 : mvS (r :: L) [x] sp = some ([y], sp2)) (h2 : sp2[r]? = some (some (some ⟨kd, true, d⟩))) (h3 : putD k.d y.d d = some (d1, dn)) (h4 : sp2.set r (some (some ⟨if y.k = .imm then kd else .deep, true, d1⟩)) = sp') : PutOk L r kd x k sp sp' := ⟨y, sp2, d, d1, dn, h1, h2, h3, h4⟩
theorem okP_any {r : Nat} {kd : Kd} {d : D} {env : Env} (f : Fit sp env) (h0 : sp[r]? = some (some (some ⟨kd, true, d⟩))) (hk : decide (kd = .imm) = false) : okP anyD r env [] = true := by
  simp only [okP, f.get h0, Bool.true_and]
  simp only [decide_eq_false_iff_not] at hk
  simp [hk, atPath, anyD]
theorem xj_set {r : Nat} {i e : CE} {kd : Kd} {d : D} {β γ : Type} {m1 : Option β} {x : β → Val} {sp1 : β → Sp} {m2 : β → Option γ} {k : β → γ → Val} {d1 : β → D} {m3 : β → γ → Option σ} {sp' : σ → Sp} (h0 : sp[r]? = some (some (some ⟨kd, true, d⟩))) (hk : decide (kd = .imm) = false) (hL : decide (r ∈ L) = false)
    (he : EJ T e L sp m1 x sp1) (h1 : ∀ b, (sp1 b)[r]? = some (some (some ⟨kd, true, d1 b⟩))) (hi : ∀ b, EJ T i (lk (x b) L) (sp1 b) (m2 b) (k b) (fun _ => sp1 b)) (h3 : ∀ b c s, m3 b c = some s → PutOk L r kd (x b) (k b c) (sp1 b) (sp' s)) :
    XJ T (.set r [] i e) L sp (m1.bind fun b => (m2 b).bind fun c => m3 b c) sp' := fun env f s hs => by
  obtain ⟨b, hb, hs⟩ := Option.bind_eq_some_iff.mp hs
  obtain ⟨c, hc, hs⟩ := Option.bind_eq_some_iff.mp hs
  obtain ⟨env1, e1, f1⟩ := he env f b hb
  obtain ⟨env2, e2, f2⟩ := hi b env1 f1 c hc
  obtain ⟨y, sp2, dd, d2, dn, h4, h5, h6, h7⟩ := h3 b c s hs
  obtain ⟨env3, e3, f3⟩ := mvS_ok h4 f2
  rw [← h7]
  refine ⟨_, ?_, f3.set r _⟩
  have k' : ¬ kd = .imm := by simpa using hk
  simp only [exec, okP_any f h0 hk, hL, Bool.not_true, Bool.or_self, Bool.false_eq_true, if_false, e1, Iv.R.rs, evs, kAll, List.all_nil, List.map_nil, okP_any f1 (h1 b) hk, Bool.and_self, if_true, List.isEmpty_nil, e2, e3, Iv.R.of]
  simp only [decide_eq_false_iff_not] at hL
  simp only [changed, hL, if_false, f3.get h5, Bool.true_and, k', decide_false, Bool.not_false, if_true, atPath, h6, Option.map_some, Iv.R.of, Iv.R.rs]
  by_cases hy : y.k = .imm <;> simp [hy, k', Iv.R.rs, Iv.R.of]
theorem xj_setT {r : Nat} {i e : CE} {kd : Kd} {d : D} {x k : Val} {m : Option σ} {sp' : σ → Sp} (h0 : sp[r]? = some (some (some ⟨kd, true, d⟩))) (hk : decide (kd = .imm) = false) (hL : decide (r ∈ L) = false)
    (he : ET T e sp x) (hi : ET T i sp k) (h3 : ∀ s, m = some s → PutOk L r kd x k sp (sp' s)) : XJ T (.set r [] i e) L sp m sp' := by
  have := xj_set (T := T) (L := L) (m1 := some ()) (m2 := fun _ => some ()) (m3 := fun _ _ => m) (sp' := sp') (sp1 := fun _ => sp) (x := fun _ => x) (k := fun _ _ => k) (d1 := fun _ => d) h0 hk hL (ej_t he rfl rfl) (fun _ => h0) (fun _ => ej_t hi rfl rfl) (fun _ _ s hs => h3 s hs)
  simpa using this

/-- a thing changed in place -/
def MutOk (L : List Nat) (m : Mt) (r : Nat) (ks : List D) (vs : List Val) (sp : Sp) (v : Val) (sp' : Sp) : Prop := ∃ ys sp2 kd d d1 ret, mvS (r :: L) vs sp = some (ys, sp2) ∧ sp2[r]? = some (some (some ⟨kd, true, d⟩)) ∧ decide (kd = .imm) = false ∧ atPath ks (mutD m (ys.map (·.d))) d = some (d1, ret) ∧
  (if sub1 kd ret = .imm then V0 ret else ⟨.deep, .fr, ret⟩) = v ∧ sp2.set r (some (some ⟨if kAll ys then kd else .deep, true, d1⟩)) = sp'
theorem mut_ok {m : Mt} {r : Nat} {ks : List D} {vs ys : List Val} {v : Val} {kd : Kd} {d d1 ret : D} {sp2 sp' : Sp} (h1 : mvS (r :: L) vs sp = some (ys, sp2)) (h2 : sp2[r]? = some (some (some ⟨kd, true, d⟩))) (h3 : decide (kd = .imm) = false) (h4 : atPath ks (mutD m (ys.map (·.d))) d = some (d1, ret))
    (h5 : (if sub1 kd ret = .imm then V0 ret else ⟨.deep, .fr, ret⟩) = v) (h6 : sp2.set r (some (some ⟨if kAll ys then kd else .deep, true, d1⟩)) = sp') : MutOk L m r ks vs sp v sp' := ⟨ys, sp2, kd, d, d1, ret, h1, h2, h3, h4, h5, h6⟩
def FMut (L : List Nat) (mt : Mt) (r : Nat) (ks : List D) (val : δ → Val) (sp' : δ → Sp) (vs : List Val) (sp : Sp) (m : Option δ) : Prop := ∀ b, m = some b → MutOk L mt r ks vs sp (val b) (sp' b)
theorem chg_ok {mt : Mt} {r : Nat} {ks : List D} {ys : List Val} {kd : Kd} {d d1 ret : D} {sp2 : Sp} {env : Env} (hL : r ∉ L) (f : Fit sp2 env) (h2 : sp2[r]? = some (some (some ⟨kd, true, d⟩))) (h3 : decide (kd = .imm) = false) (h4 : atPath ks (mutD mt (ys.map (·.d))) d = some (d1, ret)) :
    changed L r env (kAll ys) (atPath ks (mutD mt (ys.map (·.d)))) = some ((if sub1 kd ret = .imm then V0 ret else ⟨.deep, .fr, ret⟩), env.set r (some ⟨if kAll ys then kd else .deep, true, d1⟩)) := by
  have k' : ¬ kd = .imm := by simpa using h3
  simp only [changed, hL, if_false, f.get h2, Bool.true_and, k', decide_false, Bool.not_false, if_true, h4, Option.map_some]
  simp [k']
theorem ej_mut0 {mt : Mt} {r : Nat} {args : List CE} {kd : Kd} {d : D} {m : Option δ} {val : δ → Val} {sp' : δ → Sp} (h0 : sp[r]? = some (some (some ⟨kd, true, d⟩))) (hk : decide (kd = .imm) = false) (hl : isL d = true) (hL : decide (r ∈ L) = false)
    (h : AJ T (FMut L mt r [] val sp') [] args L sp [] m) : EJ T (.mut mt r [] args) L sp m val sp' := fun env f b hb => by
  obtain ⟨vs, env', spf, h1, h2, h3⟩ := h env f b hb
  obtain ⟨ys, sp2, kd', d', d1, ret, g1, g2, g3, g4, g5, g6⟩ := h3 b rfl
  obtain ⟨env3, e3, f3⟩ := mvS_ok g1 h2
  rw [← g5, ← g6]
  refine ⟨_, ?_, f3.set r _⟩
  have okl : okP isL r env [] = true := by
    simp only [decide_eq_false_iff_not] at hk
    simp only [okP, f.get h0, Bool.true_and]
    simp [hk, atPath, hl]
  simp only [ev, okP_any f h0 hk, hL, Bool.not_true, Bool.or_self, Bool.false_eq_true, if_false, evs, Iv.R.bind, kAll, List.all_nil, List.map_nil, okl, Bool.and_self, if_true, List.isEmpty_nil, h1]
  simp only [List.nil_append] at e3
  simp only [decide_eq_false_iff_not] at hL
  rw [e3]
  simp only [Iv.R.of, Iv.R.bind]
  have := chg_ok (L := L) hL f3 g2 g3 g4
  unfold kAll at this
  rw [this]
  rfl
theorem ej_mut1 {mt : Mt} {r : Nat} {kx : CE} {args : List CE} {kd : Kd} {d kd1 : D} {m : Option δ} {val : δ → Val} {sp' : δ → Sp} (h0 : sp[r]? = some (some (some ⟨kd, true, d⟩))) (hk : decide (kd = .imm) = false) (hL : decide (r ∈ L) = false) (hx : ET T kx sp ⟨.imm, .fr, kd1⟩)
    (hl : m ≠ none → ((atPath [kd1] (fun d => if isL d then some (d, ()) else none) d).isSome) = true)
    (h : AJ T (FMut L mt r [kd1] val sp') [] args (r :: L) sp [] m) : EJ T (.mut mt r [kx] args) L sp m val sp' := fun env f b hb => by
  obtain ⟨vs, env', spf, h1, h2, h3⟩ := h env f b hb
  obtain ⟨ys, sp2, kd', d', d1, ret, g1, g2, g3, g4, g5, g6⟩ := h3 b rfl
  obtain ⟨env3, e3, f3⟩ := mvS_ok g1 h2
  rw [← g5, ← g6]
  refine ⟨_, ?_, f3.set r _⟩
  have okl : okP isL r env [kd1] = true := by
    simp only [decide_eq_false_iff_not] at hk
    simp only [okP, f.get h0, Bool.true_and]
    have := hl (by rw [hb]; simp)
    simp [hk, this]
  have ex1 : evs T [] [kx] L env = .ok ([⟨.imm, .fr, kd1⟩], env) := by simp only [evs, hx L env f, Iv.R.bind]
  simp only [ev, okP_any f h0 hk, hL, Bool.not_true, Bool.or_self, Bool.false_eq_true, if_false, ex1, Iv.R.bind, kAll, List.all_cons, List.all_nil, decide_true, List.map_cons, List.map_nil, okl, Bool.and_self, if_true, List.isEmpty_cons, h1]
  simp only [List.nil_append] at e3
  simp only [decide_eq_false_iff_not] at hL
  rw [e3]
  simp only [Iv.R.of, Iv.R.bind]
  have := chg_ok (L := L) hL f3 g2 g3 g4
  unfold kAll at this
  rw [this]
  rfl

/-! calls -/
def prepSL : List Bool → List Val → Sp → Option (List Sl)
  | io, x :: xs, sp => match io.headD false with
    | true => match x.p with
      | .sl i => match sp[i]? with
        | some (some (some s)) => if s.own then (prepSL io.tail xs sp).map (s :: ·) else none
        | _ => none
      | .fr => (prepSL io.tail xs sp).map (⟨x.k, true, x.d⟩ :: ·)
      | _ => none
    | false => (prepSL io.tail xs sp).map (⟨x.k, decide (x.p = .fr), x.d⟩ :: ·)
  | _, [], _ => some []
def prepS (L : List Nat) (io : List Bool) (xs : List Val) (sp : Sp) : Option (List Sl) :=
  if decide (ioS io xs).Nodup && (ioS io xs).all (fun i => decide (i ∉ L) && decide (i ∉ slots (roS io xs))) then prepSL io xs sp else none
theorem prepSL_ok : ∀ {xs : List Val} {io : List Bool} {ps : List Sl} {env : Env}, prepSL io xs sp = some ps → Fit sp env → prepL io xs env = some ps
  | [], io, ps, env, h, f => by simpa [prepSL, prepL] using h
  | x :: xs, io, ps, env, h, f => by
    simp only [prepSL, prepL] at h ⊢
    cases hi : io.headD false with
    | false =>
      rw [hi] at h
      simp only at h ⊢
      obtain ⟨q, hq, rfl⟩ := Option.map_eq_some_iff.mp h
      rw [prepSL_ok hq f]; rfl
    | true =>
      rw [hi] at h
      simp only at h ⊢
      cases hp : x.p with
      | fr =>
        rw [hp] at h
        simp only at h ⊢
        obtain ⟨q, hq, rfl⟩ := Option.map_eq_some_iff.mp h
        rw [prepSL_ok hq f]; rfl
      | sl i =>
        rw [hp] at h
        simp only at h ⊢
        cases hs : sp[i]? with
        | none => rw [hs] at h; cases h
        | some a =>
          cases a with
          | none => rw [hs] at h; cases h
          | some b =>
            cases b with
            | none => rw [hs] at h; cases h
            | some s =>
              rw [hs] at h
              rw [f.get hs]
              simp only at h ⊢
              by_cases ho : s.own = true
              · simp only [ho, if_true] at h ⊢
                obtain ⟨q, hq, rfl⟩ := Option.map_eq_some_iff.mp h
                rw [prepSL_ok hq f]; rfl
              · simp only [ho] at h; cases h
      | pt i => rw [hp] at h; cases h
      | sh => rw [hp] at h; cases h
theorem prepS_ok {xs : List Val} {io : List Bool} {ps : List Sl} {env : Env} (h : prepS L io xs sp = some ps) (f : Fit sp env) : prep L io xs env = some ps := by
  unfold prepS at h
  unfold prep
  split at h
  · rw [if_pos (by assumption)]; exact prepSL_ok h f
  · cases h
def backS : List Bool → List Val → Env → Sp → Sp
  | io, x :: xs, o :: fin, sp => match io.headD false, x.p with
    | true, .sl i => backS io.tail xs fin (sp.set i (some o))
    | _, _ => backS io.tail xs fin sp
  | _, _, _, sp => sp
theorem backS_ok : ∀ {xs : List Val} {io : List Bool} {fin env : Env} {sp : Sp}, Fit sp env → Fit (backS io xs fin sp) (back io xs fin env)
  | [], io, fin, env, sp, f => by
    cases fin <;> exact f
  | x :: xs, io, [], env, sp, f => f
  | x :: xs, io, o :: fin, env, sp, f => by
    simp only [backS, back]
    cases hi : io.headD false <;> cases hp : x.p <;> first | exact backS_ok (f.set _ _) | exact backS_ok f
/-- a call of a def of one's own: what is asked of the operands -/
def CallOk (T : Tab) (L : List Nat) (io : List Bool) (f : Str) (vs : List Val) (sp : Sp) (v : Val) (sp' : Sp) : Prop := ∃ ps x fin, prepS L io vs sp = some ps ∧ T.fn f ps = .ok (x, fin) ∧
  ((x.p = .fr ∧ v = x ∧ sp' = backS io vs fin sp) ∨ (x.p ≠ .fr ∧ ((slots (roS io vs)).all fun i => decide (i ∉ L)) = true ∧ v = { x with p := .sh } ∧ sp' = (slots (roS io vs)).foldl (fun e i => disS i e) (backS io vs fin sp)))
def FCall (T : Tab) (L : List Nat) (io : List Bool) (f : Str) (val : δ → Val) (sp' : δ → Sp) (vs : List Val) (sp : Sp) (m : Option δ) : Prop := ∀ b, m = some b → CallOk T L io f vs sp (val b) (sp' b)
theorem ej_call {f : Str} {io : List Bool} {as : List CE} {m : Option δ} {val : δ → Val} {sp' : δ → Sp} (hio : T.io f = io) (h : AJ T (FCall T L io f val sp') io as L sp [] m) : EJ T (.call f as) L sp m val sp' := fun env g b hb => by
  obtain ⟨vs, env', spf, h1, h2, h3⟩ := h env g b hb
  obtain ⟨ps, x, fin, h4, h5, h6⟩ := h3 b rfl
  simp only [List.nil_append] at h4 h5 h6
  subst hio
  rcases h6 with ⟨hp, hv, hs⟩ | ⟨hp, hl, hv, hs⟩
  · refine ⟨back (T.io f) vs fin env', ?_, by rw [hs]; exact backS_ok h2⟩
    simp only [ev, h1, Iv.R.bind, prepS_ok h4 h2, Iv.R.of, h5, hp, if_true, hv]
  · refine ⟨(slots (roS (T.io f) vs)).foldl (fun e i => disown i e) (back (T.io f) vs fin env'), ?_, by rw [hs]; exact (backS_ok h2).diss _⟩
    simp only [ev, h1, Iv.R.bind, prepS_ok h4 h2, Iv.R.of, h5, if_neg hp, hv, esc, hl, if_true]
theorem fcall_p {f : Str} {io : List Bool} {vs : List Val} {ps : List Sl} {m : Option δ} {val : δ → Val} {sp' : δ → Sp} {out : δ → Env} (h4 : prepS L io vs sp = some ps) (hc : CJ T f ps m val out) (hp : ∀ b, (val b).p = .fr) (hs : ∀ b, sp' b = backS io vs (out b) sp) : FCall T L io f val sp' vs sp m := fun b hb =>
  ⟨ps, _, _, h4, hc b hb, .inl ⟨hp b, rfl, hs b⟩⟩
theorem fcall_m {f : Str} {io : List Bool} {vs : List Val} {ps : List Sl} {γ : Type} {m : Option γ} {rv : γ → Val} {mk : γ → δ} {val : δ → Val} {sp' : δ → Sp} {out : γ → Env} (h4 : prepS L io vs sp = some ps) (hc : CJ T f ps m rv out) (hp : ∀ b, (rv b).p = .fr) (hv : ∀ b, val (mk b) = rv b) (hs : ∀ b, sp' (mk b) = backS io vs (out b) sp) : FCall T L io f val sp' vs sp (m.map mk) := fun b hb => by
  obtain ⟨c, hc', rfl⟩ := Option.map_eq_some_iff.mp hb
  exact ⟨ps, _, _, h4, hc c hc', .inl ⟨hp c, hv c, hs c⟩⟩
/-- a call that hands back a shared thing -/
theorem fcall_s {f : Str} {io : List Bool} {vs : List Val} {ps : List Sl} {γ : Type} {m : Option γ} {rv : γ → Val} {mk : γ → δ} {val : δ → Val} {sp' : δ → Sp} {out : γ → Env} (h4 : prepS L io vs sp = some ps) (hc : CJ T f ps m rv out) (hp : ∀ b, (rv b).p = .sh) (hl : ((slots (roS io vs)).all fun i => decide (i ∉ L)) = true) (hv : ∀ b, val (mk b) = rv b) (hs : ∀ b, sp' (mk b) = (slots (roS io vs)).foldl (fun e i => disS i e) (backS io vs (out b) sp)) : FCall T L io f val sp' vs sp (m.map mk) := fun b hb => by
  obtain ⟨c, hc', rfl⟩ := Option.map_eq_some_iff.mp hb
  refine ⟨ps, _, _, h4, hc c hc', .inr ⟨by rw [hp c]; simp, hl, ?_, hs c⟩⟩
  rw [hv c]
  have := hp c
  cases h : rv c
  rw [h] at this
  simp only at this
  subst this
  rfl
end
end Iv

set_option maxRecDepth 100000
/-! MrC: loops, comprehensions, blocks, defs. -/
namespace Iv
open PySem L2
section
variable {T : Tab} {sp sp1 : Sp} {L L' : List Nat} {δ σ ρ τ α γ : Type}

/-! what is walked -/
theorem ij_t {ik : Ik} {it : List CE} {vs : List Val} {V : α → Val} {xs : List α} (hik : ∀ L vs env, escK ik L vs env = escIts L vs env) (h : AT T it sp vs) (he : (kAll vs || vs.all (fun x => decide (x.k ≠ .deep))) = true) (hi : itsOf ik vs = some (xs.map V)) (hl : lks vs L = L') : IJ T ik it L sp (some ()) V (fun _ => xs) L' (fun _ => sp) := fun env f b hb =>
  ⟨vs, env, vs, env, h [] L env f, by rw [hik]; unfold escIts; rw [if_pos he], hi, hl, f⟩
theorem ij_p {ik : Ik} {it : List CE} {vs : List Val} {V : α → Val} {m : Option (List α)} (hik : ∀ L vs env, escK ik L vs env = escIts L vs env) (h : AT T it sp vs) (he : (kAll vs || vs.all (fun x => decide (x.k ≠ .deep))) = true) (hi : ∀ xs, m = some xs → itsOf ik vs = some (xs.map V)) (hl : lks vs L = L') : IJ T ik it L sp m V (fun xs => xs) L' (fun _ => sp) := fun env f b hb =>
  ⟨vs, env, vs, env, h [] L env f, by rw [hik]; unfold escIts; rw [if_pos he], hi b hb, hl, f⟩
/-- a list with lists in it is shared from now on -/
theorem ij_esc {ik : Ik} {it : List CE} {vs : List Val} {V : α → Val} {m : Option (List α)} {sp' : Sp} (hik : ∀ L vs env, escK ik L vs env = escIts L vs env) (h : AT T it sp vs) (he : (kAll vs || vs.all (fun x => decide (x.k ≠ .deep))) = false) (hd : ((slots vs).all fun i => decide (i ∉ L)) = true) (hi : ∀ xs, m = some xs → itsOf ik (vs.map share) = some (xs.map V)) (hl : lks (vs.map share) L = L') (hs : (slots vs).foldl (fun e i => disS i e) sp = sp') :
    IJ T ik it L sp m V (fun xs => xs) L' (fun _ => sp') := fun env f b hb =>
  ⟨vs, env, vs.map share, (slots vs).foldl (fun e i => disown i e) env, h [] L env f, by rw [hik]; unfold escIts; rw [if_neg (by rw [he]; simp)]; unfold esc; rw [if_pos hd], hi b hb, hl, by rw [← hs]; exact f.diss _⟩
/-- what is worked out first -/
theorem ij_j {ik : Ik} {it : List CE} {V : α → Val} {m : Option δ} {xs : δ → List α} {sp' : δ → Sp} (hik : ∀ L vs env, escK ik L vs env = escIts L vs env) (h : AJ T (fun vs s m => ∀ b : δ, m = some b → (kAll vs || vs.all (fun x => decide (x.k ≠ .deep))) = true ∧ itsOf ik vs = some ((xs b).map V) ∧ lks vs L = L' ∧ sp' b = s) [] it L sp [] m) : IJ T ik it L sp m V xs L' sp' := fun env f b hb => by
  obtain ⟨vs, env', spf, h1, h2, h3⟩ := h env f b hb
  obtain ⟨h4, h5, h6, h7⟩ := h3 b rfl
  simp only [List.nil_append] at h4 h5 h6
  exact ⟨vs, env', vs, env', h1, by rw [hik]; unfold escIts; rw [if_pos h4], h5, h6, by rw [h7]; exact h2⟩
/-- worked out first, and shared from now on -/
theorem ij_je {ik : Ik} {it : List CE} {V : α → Val} {m : Option δ} {xs : δ → List α} {sp' : δ → Sp} (hik : ∀ L vs env, escK ik L vs env = escIts L vs env) (h : AJ T (fun vs s m => ∀ b : δ, m = some b → (kAll vs || vs.all (fun x => decide (x.k ≠ .deep))) = false ∧ ((slots vs).all fun i => decide (i ∉ L)) = true ∧ itsOf ik (vs.map share) = some ((xs b).map V) ∧ lks (vs.map share) L = L' ∧ sp' b = (slots vs).foldl (fun e i => disS i e) s) [] it L sp [] m) : IJ T ik it L sp m V xs L' sp' := fun env f b hb => by
  obtain ⟨vs, env', spf, h1, h2, h3⟩ := h env f b hb
  obtain ⟨h4, hd, h5, h6, h7⟩ := h3 b rfl
  simp only [List.nil_append] at h4 h5 h6 hd h7
  exact ⟨vs, env', vs.map share, (slots vs).foldl (fun e i => disown i e) env', h1, by rw [hik]; unfold escIts; rw [if_neg (by rw [h4]; simp)]; unfold esc; rw [if_pos hd], h5, h6, by rw [h7]; exact h2.diss _⟩

/-! comprehensions -/
theorem compL_ok {own : List Nat} {dp : Bool} {tg : Tg} {cond elt : CE} {V : α → Val} {spC : σ → Sp} {spT : σ → α → Sp} {mc : σ → α → Option (Bool × σ)} {me : σ → α → Option (γ × σ)} {ke : Kd} {enc : γ → D}
    (ht : ∀ s a, TgJ tg (V a) (spC s) (spT s a)) (hc : ∀ s a, EJ T cond L (spT s a) (mc s a) (fun q => ⟨.imm, .fr, .bool q.1⟩) (fun q => spT q.2 a)) (he : ∀ s a, EJ T elt L (spT s a) (me s a) (fun y => ⟨ke, .fr, enc y.1⟩) (fun y => spT y.2 a)) (hw : ∀ s a, Wk (wipeS own (spT s a)) (spC s)) (hk : dp = true ∨ ke = .imm) :
    ∀ (xs : List α) (s : σ) (acc : List Val) (env : Env) (r : List γ × σ), Fit (spC s) env → compS mc me xs s = some r → ∃ env', compL L own dp tg (fun e => ev T cond L e) (fun e => ev T elt L e) (xs.map V) acc env = .ok (acc ++ r.1.map (fun y => (⟨ke, .fr, enc y⟩ : Val)), env') ∧ Fit (spC r.2) env'
  | [], s, acc, env, r, f, h => by
    simp only [compS, Option.some.injEq] at h
    subst h
    exact ⟨env, by simp [compL], f⟩
  | x :: xs, s, acc, env, r, f, h => by
    simp only [compS] at h
    obtain ⟨q, hq, h⟩ := Option.bind_eq_some_iff.mp h
    obtain ⟨env1, e1, f1⟩ := ht s x L env f
    obtain ⟨env2, e2, f2⟩ := hc s x env1 f1 q hq
    cases hb : q.1 with
    | false =>
      rw [hb] at h
      simp only [Bool.false_eq_true, if_false] at h
      obtain ⟨env', h1, h2⟩ := compL_ok ht hc he hw hk xs q.2 acc _ r ((hw q.2 x).fit (f2.wipe own)) h
      refine ⟨env', ?_, h2⟩
      simp only [List.map_cons, compL, e1, Iv.R.of, Iv.R.bind, e2, hb]
      exact h1
    | true =>
      rw [hb] at h
      simp only [if_true] at h
      obtain ⟨y, hy, h⟩ := Option.bind_eq_some_iff.mp h
      obtain ⟨r', hr', rfl⟩ := Option.map_eq_some_iff.mp h
      obtain ⟨env3, e3, f3⟩ := he q.2 x env2 f2 y hy
      obtain ⟨env', h1, h2⟩ := compL_ok ht hc he hw hk xs y.2 (acc ++ [⟨ke, .fr, enc y.1⟩]) _ r' ((hw y.2 x).fit (f3.wipe own)) hr'
      refine ⟨env', ?_, h2⟩
      have hka : (dp || kAll [(⟨ke, .fr, enc y.1⟩ : Val)]) = true := by
        rcases hk with h | h
        · rw [h]; rfl
        · subst h; simp [kAll]
      simp only [List.map_cons, compL, e1, Iv.R.of, Iv.R.bind, e2, hb, e3, esc, slots, List.all_nil, if_true, List.map_nil, share, List.foldl_nil, hka]
      rw [h1]
      simp
theorem pAll_fr (ys : List γ) (ke : Kd) (enc : γ → D) : pAll (ys.map fun y => (⟨ke, .fr, enc y⟩ : Val)) = .fr := by
  unfold pAll
  rw [if_pos]
  simp
theorem ej_compS {own : List Nat} {dp : Bool} {tg : Tg} {ik : Ik} {it : List CE} {cond elt : CE} {V : α → Val} {m : Option δ} {xs : δ → List α} {sp1 : δ → Sp} {s0 : δ → σ} {spC : σ → Sp} {spT : σ → α → Sp} {mc : σ → α → Option (Bool × σ)} {me : σ → α → Option (γ × σ)} {ke : Kd} {enc : γ → D} {sp' : σ → Sp}
    (hI : IJ T ik it L sp m V xs L' sp1) (h0 : ∀ b, Wk (wipeS own (sp1 b)) (spC (s0 b))) (ht : ∀ s a, TgJ tg (V a) (spC s) (spT s a)) (hc : ∀ s a, EJ T cond L' (spT s a) (mc s a) (fun q => ⟨.imm, .fr, .bool q.1⟩) (fun q => spT q.2 a)) (he : ∀ s a, EJ T elt L' (spT s a) (me s a) (fun y => ⟨ke, .fr, enc y.1⟩) (fun y => spT y.2 a)) (hw : ∀ s a, Wk (wipeS own (spT s a)) (spC s)) (hk : (dp || decide (ke = .imm)) = true)
    (hs : ∀ b s, unownS own (sp1 b) (spC s) = sp' s) : EJ T (.comp dp own elt tg ik it cond) L sp (m.bind fun b => fitM (xs b).length (compS mc me (xs b) (s0 b))) (fun r => ⟨if dp then .deep else .flat, .fr, .list (r.1.map enc)⟩) (fun r => sp' r.2) := fun env f r hr => by
  obtain ⟨b, hb, hr⟩ := Option.bind_eq_some_iff.mp hr
  unfold fitM at hr
  split at hr
  case isFalse => cases hr
  rename_i hfit
  obtain ⟨vs, env1, ws, env2, h1, h2, h3, h4, h5⟩ := hI env f b hb
  subst h4
  have hk' : dp = true ∨ ke = .imm := by simpa using hk
  obtain ⟨env3, h6, h7⟩ := compL_ok ht hc he hw hk' (xs b) (s0 b) [] _ r ((h0 b).fit (h5.wipe own)) hr
  refine ⟨unown own env2 env3, ?_, by show Fit (sp' r.2) _; rw [← hs b]; exact h5.unown own h7⟩
  have hl : fits ((xs b).map V).length = true := by simpa using hfit
  simp only [ev, h1, Iv.R.bind, h2, Iv.R.of, h3, hl, Bool.not_true, Bool.false_eq_true, if_false]
  rw [h6]
  simp only [List.nil_append, pAll_fr, List.map_map]
  rfl
theorem ej_compM {own : List Nat} {dp : Bool} {tg : Tg} {ik : Ik} {it : List CE} {cond elt : CE} {V : α → Val} {m : Option δ} {xs : δ → List α} {sp1 : δ → Sp} {spC : Sp} {spT : α → Sp} {mc : α → Option Bool} {me : α → Option γ} {ke : Kd} {enc : γ → D} {sp' : Sp}
    (hI : IJ T ik it L sp m V xs L' sp1) (h0 : ∀ b, Wk (wipeS own (sp1 b)) spC) (ht : ∀ a, TgJ tg (V a) spC (spT a)) (hc : ∀ a, EJ T cond L' (spT a) (mc a) (fun q => ⟨.imm, .fr, .bool q⟩) (fun _ => spT a)) (he : ∀ a, EJ T elt L' (spT a) (me a) (fun y => ⟨ke, .fr, enc y⟩) (fun _ => spT a)) (hw : ∀ a, Wk (wipeS own (spT a)) spC) (hk : (dp || decide (ke = .imm)) = true)
    (hs : ∀ b, unownS own (sp1 b) spC = sp') : EJ T (.comp dp own elt tg ik it cond) L sp (m.bind fun b => compM mc me (xs b)) (fun r => ⟨if dp then .deep else .flat, .fr, .list (r.map enc)⟩) (fun _ => sp') := fun env f r hr => by
  obtain ⟨b, hb, hr⟩ := Option.bind_eq_some_iff.mp hr
  have := ej_compS (σ := Unit) (s0 := fun _ => ()) (spC := fun _ => spC) (spT := fun _ => spT) (mc := fun _ x => (mc x).map fun b => (b, ())) (me := fun _ x => (me x).map fun y => (y, ())) (sp' := fun _ => sp') hI h0 (fun _ => ht)
    (fun _ a env f q hq => by
      obtain ⟨c, hc', rfl⟩ := Option.map_eq_some_iff.mp hq
      exact hc a env f c hc')
    (fun _ a env f q hq => by
      obtain ⟨c, hc', rfl⟩ := Option.map_eq_some_iff.mp hq
      exact he a env f c hc') (fun _ => hw) hk (fun b _ => hs b) env f
  unfold compM fitM at hr
  split at hr
  case isFalse => cases hr
  rename_i hfit
  obtain ⟨q, hq, rfl⟩ := Option.map_eq_some_iff.mp hr
  exact this q (by rw [hb, Option.bind_some]; unfold fitM; rw [if_pos hfit]; exact hq)
theorem compS_total {c : α → Bool} {g : α → γ} : ∀ xs : List α, compS (σ := Unit) (fun _ x => (some (c x)).map fun b => (b, ())) (fun _ x => (some (g x)).map fun y => (y, ())) xs () = some ((xs.filter c).map g, ())
  | [] => rfl
  | x :: xs => by
    have ih := compS_total (c := c) (g := g) xs
    simp only [Option.map_some] at ih
    simp only [compS, Option.map_some, Option.bind_some, ih, List.filter_cons]
    cases h : c x <;> simp
theorem ej_compT {own : List Nat} {dp : Bool} {tg : Tg} {ik : Ik} {it : List CE} {cond elt : CE} {V : α → Val} {m : Option δ} {xs : δ → List α} {sp1 : δ → Sp} {spC : Sp} {spT : α → Sp} {c : α → Bool} {g : α → γ} {ke : Kd} {enc : γ → D} {sp' : Sp}
    (hI : IJ T ik it L sp m V xs L' sp1) (h0 : ∀ b, Wk (wipeS own (sp1 b)) spC) (ht : ∀ a, TgJ tg (V a) spC (spT a)) (hc : ∀ a, ET T cond (spT a) ⟨.imm, .fr, .bool (c a)⟩) (he : ∀ a, ET T elt (spT a) ⟨ke, .fr, enc (g a)⟩) (hw : ∀ a, Wk (wipeS own (spT a)) spC) (hk : (dp || decide (ke = .imm)) = true)
    (hs : ∀ b, unownS own (sp1 b) spC = sp') : EJ T (.comp dp own elt tg ik it cond) L sp (m.bind fun b => compT c g (xs b)) (fun r => ⟨if dp then .deep else .flat, .fr, .list (r.map enc)⟩) (fun _ => sp') := by
  have := ej_compM (T := T) (mc := fun a => some (c a)) (me := fun a => some (g a)) hI h0 ht (fun a => ej_t (hc a) rfl rfl) (fun a => ej_t (he a) rfl rfl) hw hk hs
  have e : ∀ xs : List α, compM (fun a => some (c a)) (fun a => some (g a)) xs = compT c g xs := fun xs => by
    unfold compM compT
    rw [compS_total]
    rfl
  simpa only [e] using this
theorem ej_compT0 {own : List Nat} {dp : Bool} {tg : Tg} {ik : Ik} {it : List CE} {cond elt : CE} {V : α → Val} {xs : List α} {sp1 spC : Sp} {spT : α → Sp} {c : α → Bool} {g : α → γ} {ke : Kd} {enc : γ → D} {sp' : Sp}
    (hI : IJ T ik it L sp (some ()) V (fun _ => xs) L' (fun _ => sp1)) (h0 : Wk (wipeS own sp1) spC) (ht : ∀ a, TgJ tg (V a) spC (spT a)) (hc : ∀ a, ET T cond (spT a) ⟨.imm, .fr, .bool (c a)⟩) (he : ∀ a, ET T elt (spT a) ⟨ke, .fr, enc (g a)⟩) (hw : ∀ a, Wk (wipeS own (spT a)) spC) (hk : (dp || decide (ke = .imm)) = true)
    (hs : unownS own sp1 spC = sp') : EJ T (.comp dp own elt tg ik it cond) L sp (compT c g xs) (fun r => ⟨if dp then .deep else .flat, .fr, .list (r.map enc)⟩) (fun _ => sp') := ej_compT (T := T) hI (fun _ => h0) ht hc he hw hk (fun _ => hs)
theorem ej_compM0 {own : List Nat} {dp : Bool} {tg : Tg} {ik : Ik} {it : List CE} {cond elt : CE} {V : α → Val} {xs : List α} {sp1 spC : Sp} {spT : α → Sp} {mc : α → Option Bool} {me : α → Option γ} {ke : Kd} {enc : γ → D} {sp' : Sp}
    (hI : IJ T ik it L sp (some ()) V (fun _ => xs) L' (fun _ => sp1)) (h0 : Wk (wipeS own sp1) spC) (ht : ∀ a, TgJ tg (V a) spC (spT a)) (hc : ∀ a, EJ T cond L' (spT a) (mc a) (fun q => ⟨.imm, .fr, .bool q⟩) (fun _ => spT a)) (he : ∀ a, EJ T elt L' (spT a) (me a) (fun y => ⟨ke, .fr, enc y⟩) (fun _ => spT a)) (hw : ∀ a, Wk (wipeS own (spT a)) spC) (hk : (dp || decide (ke = .imm)) = true)
    (hs : unownS own sp1 spC = sp') : EJ T (.comp dp own elt tg ik it cond) L sp (compM mc me xs) (fun r => ⟨if dp then .deep else .flat, .fr, .list (r.map enc)⟩) (fun _ => sp') := ej_compM (T := T) hI (fun _ => h0) ht hc he hw hk (fun _ => hs)
theorem ej_compS0 {own : List Nat} {dp : Bool} {tg : Tg} {ik : Ik} {it : List CE} {cond elt : CE} {V : α → Val} {xs : List α} {sp1 : Sp} {s0 : σ} {spC : σ → Sp} {spT : σ → α → Sp} {mc : σ → α → Option (Bool × σ)} {me : σ → α → Option (γ × σ)} {ke : Kd} {enc : γ → D} {sp' : σ → Sp}
    (hI : IJ T ik it L sp (some ()) V (fun _ => xs) L' (fun _ => sp1)) (h0 : Wk (wipeS own sp1) (spC s0)) (ht : ∀ s a, TgJ tg (V a) (spC s) (spT s a)) (hc : ∀ s a, EJ T cond L' (spT s a) (mc s a) (fun q => ⟨.imm, .fr, .bool q.1⟩) (fun q => spT q.2 a)) (he : ∀ s a, EJ T elt L' (spT s a) (me s a) (fun y => ⟨ke, .fr, enc y.1⟩) (fun y => spT y.2 a)) (hw : ∀ s a, Wk (wipeS own (spT s a)) (spC s)) (hk : (dp || decide (ke = .imm)) = true)
    (hs : ∀ s, unownS own sp1 (spC s) = sp' s) : EJ T (.comp dp own elt tg ik it cond) L sp (fitM xs.length (compS mc me xs s0)) (fun r => ⟨if dp then .deep else .flat, .fr, .list (r.1.map enc)⟩) (fun r => sp' r.2) := ej_compS (T := T) (s0 := fun _ => s0) hI (fun _ => h0) ht hc he hw hk (fun _ => hs)

/-! blocks -/
theorem bj_nil {s : σ} {sp' : σ → Sp} (h : Wk sp (sp' s)) : BJ T [] L sp (some s) sp' := fun env f b hb => by cases hb; exact ⟨env, by simp only [execs], h.fit f⟩
theorem bj_t {s : CS} {ss : List CS} {m : Option σ} {sp' : σ → Sp} (h : XT T s L sp sp1) (hs : BJ T ss L sp1 m sp') : BJ T (s :: ss) L sp m sp' := fun env f b hb => by
  obtain ⟨e1, h1, f1⟩ := h env f
  obtain ⟨e2, h2, f2⟩ := hs e1 f1 b hb
  exact ⟨e2, by simp only [execs, h1, h2], f2⟩
theorem bj_j {s : CS} {ss : List CS} {m1 : Option τ} {m : τ → Option σ} {sp2 : τ → Sp} {sp' : σ → Sp} (h : XJ T s L sp m1 sp2) (hs : ∀ c, BJ T ss L (sp2 c) (m c) sp') : BJ T (s :: ss) L sp (m1.bind m) sp' := fun env f b hb => by
  obtain ⟨c, hc, hb⟩ := Option.bind_eq_some_iff.mp hb
  obtain ⟨e1, h1, f1⟩ := h env f c hc
  obtain ⟨e2, h2, f2⟩ := hs c e1 f1 b hb
  exact ⟨e2, by simp only [execs, h1, h2], f2⟩
theorem xj_ite {c : CE} {a b : List CS} {k : Kd} {p : Pv} {t : Bool} {ma mb : Option σ} {sp' : σ → Sp} (h : ET T c sp ⟨k, p, .bool t⟩) (ha : BJ T a L sp ma sp') (hb : BJ T b L sp mb sp') : XJ T (.ite c a b) L sp (if t = true then ma else mb) sp' := fun env f s hs => by
  cases t with
  | true =>
    obtain ⟨e, h1, f1⟩ := ha env f s (by simpa using hs)
    exact ⟨e, by simp only [exec, h L env f, Iv.R.rs, h1], f1⟩
  | false =>
    obtain ⟨e, h1, f1⟩ := hb env f s (by simpa using hs)
    exact ⟨e, by simp only [exec, h L env f, Iv.R.rs, h1], f1⟩
theorem xj_iteJ {c : CE} {a b : List CS} {m1 : Option τ} {v : τ → Val} {sp1 : τ → Sp} {t : τ → Bool} {ma mb : τ → Option σ} {sp' : σ → Sp} (h : EJ T c L sp m1 v sp1) (hc : ∀ q, (v q).d = .bool (t q)) (ha : ∀ q, BJ T a L (sp1 q) (ma q) sp') (hb : ∀ q, BJ T b L (sp1 q) (mb q) sp') : XJ T (.ite c a b) L sp (m1.bind fun q => if t q = true then ma q else mb q) sp' := fun env f s hs => by
  obtain ⟨q, hq, hs⟩ := Option.bind_eq_some_iff.mp hs
  obtain ⟨e0, h0, f0⟩ := h env f q hq
  cases ht : t q with
  | true =>
    rw [ht] at hs
    obtain ⟨e, h1, f1⟩ := ha q e0 f0 s (by simpa using hs)
    exact ⟨e, by simp only [exec, h0, Iv.R.rs, hc q, ht, h1], f1⟩
  | false =>
    rw [ht] at hs
    obtain ⟨e, h1, f1⟩ := hb q e0 f0 s (by simpa using hs)
    exact ⟨e, by simp only [exec, h0, Iv.R.rs, hc q, ht, h1], f1⟩
theorem forL_ok {tg : Tg} {body : List CS} {V : α → Val} {spL : σ → Sp} {spT : σ → α → Sp} {mb : σ → α → Option σ} (ht : ∀ s a, TgJ tg (V a) (spL s) (spT s a)) (hb : ∀ s a, BJ T body L (spT s a) (mb s a) spL) :
    ∀ (xs : List α) (s s' : σ) (env : Env), Fit (spL s) env → forM' mb xs s = some s' → ∃ env', forL L tg (fun e => execs T body L e) (xs.map V) env = .nx env' ∧ Fit (spL s') env'
  | [], s, s', env, f, h => by
    simp only [forM', Option.some.injEq] at h
    subst h
    exact ⟨env, rfl, f⟩
  | x :: xs, s, s', env, f, h => by
    simp only [forM'] at h
    obtain ⟨s1, hs1, h⟩ := Option.bind_eq_some_iff.mp h
    obtain ⟨e1, h1, f1⟩ := ht s x L env f
    obtain ⟨e2, h2, f2⟩ := hb s x e1 f1 s1 hs1
    obtain ⟨e3, h3, f3⟩ := forL_ok ht hb xs s1 s' e2 f2 h
    exact ⟨e3, by simp only [List.map_cons, forL, h1, h2, h3], f3⟩
theorem xj_for {tg : Tg} {ik : Ik} {it : List CE} {body : List CS} {V : α → Val} {m : Option δ} {xs : δ → List α} {sp1 : δ → Sp} {s0 : δ → σ} {spL : σ → Sp} {spT : σ → α → Sp} {mb : σ → α → Option σ} (hI : IJ T ik it L sp m V xs L' sp1) (h0 : ∀ b, Wk (sp1 b) (spL (s0 b))) (ht : ∀ s a, TgJ tg (V a) (spL s) (spT s a)) (hb : ∀ s a, BJ T body L' (spT s a) (mb s a) spL) :
    XJ T (.forS tg ik it body) L sp (m.bind fun b => forM' mb (xs b) (s0 b)) spL := fun env f s hs => by
  obtain ⟨b, hb', hs⟩ := Option.bind_eq_some_iff.mp hs
  obtain ⟨vs, env1, ws, env2, h1, h2, h3, h4, h5⟩ := hI env f b hb'
  subst h4
  obtain ⟨e, h6, f6⟩ := forL_ok ht hb (xs b) (s0 b) s env2 ((h0 b).fit h5) hs
  exact ⟨e, by simp only [exec, h1, Iv.R.rs, h2, Iv.R.of, h3, h6], f6⟩
theorem xj_for0 {tg : Tg} {ik : Ik} {it : List CE} {body : List CS} {V : α → Val} {xs : List α} {sp1 : Sp} {s0 : σ} {spL : σ → Sp} {spT : σ → α → Sp} {mb : σ → α → Option σ} (hI : IJ T ik it L sp (some ()) V (fun _ => xs) L' (fun _ => sp1)) (h0 : Wk sp1 (spL s0)) (ht : ∀ s a, TgJ tg (V a) (spL s) (spT s a)) (hb : ∀ s a, BJ T body L' (spT s a) (mb s a) spL) :
    XJ T (.forS tg ik it body) L sp (forM' mb xs s0) spL := xj_for (s0 := fun _ => s0) hI (fun _ => h0) ht hb
theorem xj_whl {c : CE} {body : List CS} {s0 : σ} {spL : σ → Sp} {mc : σ → Option Bool} {mb : σ → Option σ} {fuel : Nat} (hfu : T.fuel = fuel) (h0 : Wk sp (spL s0)) (hc : ∀ s, EJ T c L (spL s) (mc s) (fun q => ⟨.imm, .fr, .bool q⟩) (fun _ => spL s)) (hb : ∀ s, BJ T body L (spL s) (mb s) spL) :
    XJ T (.whl c body) L sp (whlM mc mb fuel s0) spL := fun env f s hs => by
  have key : ∀ (n : Nat) (s0 : σ) (env : Env), Fit (spL s0) env → whlM mc mb n s0 = some s → ∃ e, whlL (fun e => ev T c L e) (fun e => execs T body L e) n env = .nx e ∧ Fit (spL s) e := by
    intro n
    induction n with
    | zero => intro s0 env f h; cases h
    | succ n ih =>
      intro s0 env f h
      simp only [whlM] at h
      obtain ⟨q, hq, h⟩ := Option.bind_eq_some_iff.mp h
      obtain ⟨e1, h1, f1⟩ := hc s0 env f q hq
      cases q with
      | false =>
        simp at h
        subst h
        exact ⟨e1, by simp only [whlL, h1], f1⟩
      | true =>
        simp only [if_true] at h
        obtain ⟨s1, hs1, h⟩ := Option.bind_eq_some_iff.mp h
        obtain ⟨e2, h2, f2⟩ := hb s0 e1 f1 s1 hs1
        obtain ⟨e3, h3, f3⟩ := ih s1 e2 f2 h
        exact ⟨e3, by simp only [whlL, h1, h2, h3], f3⟩
  subst hfu
  obtain ⟨e, h1, f1⟩ := key T.fuel s0 env (h0.fit f) hs
  exact ⟨e, by simp only [exec, h1], f1⟩
end

section
variable {T : Tab} {io : List Bool} {sp sp1 : Sp} {L L' : List Nat} {δ σ ρ τ α γ : Type} {rv : ρ → Val} {rs : ρ → Sp}
/-! blocks that return -/
theorem ret_fr {x : Val} (h : x.p = .fr) : RetOk io x x := ⟨rfl, rfl, by unfold retP; rw [h], fun _ => h⟩
theorem ret_sl {k : Kd} {i : Nat} {d : D} (h : io.getD i false = false) (hk : decide (k = .imm) = false) : RetOk io ⟨k, .sl i, d⟩ ⟨k, .fr, d⟩ := ⟨rfl, rfl, by unfold retP; simp only [h]; rfl, fun e => by simp only [decide_eq_false_iff_not] at hk; exact (hk e).elim⟩
theorem ret_pt {k : Kd} {i : Nat} {d : D} (h : io.getD i false = false) (hk : decide (k = .imm) = false) : RetOk io ⟨k, .pt i, d⟩ ⟨k, .sh, d⟩ := ⟨rfl, rfl, by unfold retP; simp only [h]; rfl, fun e => by simp only [decide_eq_false_iff_not] at hk; exact (hk e).elim⟩
theorem ret_sh {k : Kd} {d : D} (hk : decide (k = .imm) = false) : RetOk io ⟨k, .sh, d⟩ ⟨k, .sh, d⟩ := ⟨rfl, rfl, rfl, fun e => by simp only [decide_eq_false_iff_not] at hk; exact (hk e).elim⟩
theorem rj_end {r : ρ} (h : rv r = V0 .none) (hw : Wk sp (rs r)) : RJ T io [] L sp (some r) rv rs := fun env f b hb => by cases hb; exact ⟨env, hw.fit f, .inr ⟨by simp only [execs], h⟩⟩
theorem rj_ret {e : CE} {ss : List CS} {x : Val} {r : ρ} (h : ET T e sp x) (hr : RetOk io x (rv r)) (hw : Wk sp (rs r)) : RJ T io (.ret e :: ss) L sp (some r) rv rs := fun env f b hb => by
  cases hb
  exact ⟨env, hw.fit f, .inl ⟨x, by simp only [execs, exec, h L env f, Iv.R.rs], hr⟩⟩
theorem rj_retJ {e : CE} {ss : List CS} {m : Option τ} {v : τ → Val} {sp2 : τ → Sp} {mk : τ → ρ} (h : EJ T e L sp m v sp2) (hr : ∀ b, RetOk io (v b) (rv (mk b))) (hw : ∀ b, Wk (sp2 b) (rs (mk b))) : RJ T io (.ret e :: ss) L sp (m.map mk) rv rs := fun env f r hb => by
  obtain ⟨b, hb', rfl⟩ := Option.map_eq_some_iff.mp hb
  obtain ⟨e1, h1, f1⟩ := h env f b hb'
  exact ⟨e1, (hw b).fit f1, .inl ⟨v b, by simp only [execs, exec, h1, Iv.R.rs], hr b⟩⟩
theorem rj_retP {e : CE} {ss : List CS} {m : Option ρ} {v : ρ → Val} {sp2 : ρ → Sp} (h : EJ T e L sp m v sp2) (hr : ∀ b, RetOk io (v b) (rv b)) (hw : ∀ b, Wk (sp2 b) (rs b)) : RJ T io (.ret e :: ss) L sp m rv rs := fun env f b hb => by
  obtain ⟨e1, h1, f1⟩ := h env f b hb
  exact ⟨e1, (hw b).fit f1, .inl ⟨v b, by simp only [execs, exec, h1, Iv.R.rs], hr b⟩⟩
theorem rj_retN {ss : List CS} {r : ρ} (hr : rv r = V0 .none) (hw : Wk sp (rs r)) : RJ T io (.retN :: ss) L sp (some r) rv rs := fun env f b hb => by
  cases hb
  exact ⟨env, hw.fit f, .inl ⟨V0 .none, by simp only [execs, exec], by rw [hr]; exact ret_fr rfl⟩⟩
theorem rj_t {s : CS} {ss : List CS} {m : Option ρ} (h : XT T s L sp sp1) (hs : RJ T io ss L sp1 m rv rs) : RJ T io (s :: ss) L sp m rv rs := fun env f b hb => by
  obtain ⟨e1, h1, f1⟩ := h env f
  obtain ⟨e2, f2, h2⟩ := hs e1 f1 b hb
  exact ⟨e2, f2, by simpa only [execs, h1] using h2⟩
theorem rj_j {s : CS} {ss : List CS} {m1 : Option τ} {m : τ → Option ρ} {sp2 : τ → Sp} (h : XJ T s L sp m1 sp2) (hs : ∀ c, RJ T io ss L (sp2 c) (m c) rv rs) : RJ T io (s :: ss) L sp (m1.bind m) rv rs := fun env f b hb => by
  obtain ⟨c, hc, hb⟩ := Option.bind_eq_some_iff.mp hb
  obtain ⟨e1, h1, f1⟩ := h env f c hc
  obtain ⟨e2, f2, h2⟩ := hs c e1 f1 b hb
  exact ⟨e2, f2, by simpa only [execs, h1] using h2⟩
theorem execs_ite {c : CE} {a b ss : List CS} {env e0 : Env} {q : Val} {t : Bool} (h : ev T c L env = .ok (q, e0)) (hq : q.d = .bool t) : execs T (.ite c a b :: ss) L env = execs T ((if t = true then a else b) ++ ss) L e0 := by
  rw [execs_append]
  cases t
  · simp only [execs, exec, h, Iv.R.rs, hq, Bool.false_eq_true, if_false]
    try (cases execs T b L e0 <;> rfl)
  · simp only [execs, exec, h, Iv.R.rs, hq, if_true]
    try (cases execs T a L e0 <;> rfl)
theorem rj_ite {c : CE} {a b ss : List CS} {k : Kd} {p : Pv} {t : Bool} {ma mb : Option ρ} (h : ET T c sp ⟨k, p, .bool t⟩) (ha : RJ T io (a ++ ss) L sp ma rv rs) (hb : RJ T io (b ++ ss) L sp mb rv rs) : RJ T io (.ite c a b :: ss) L sp (if t = true then ma else mb) rv rs := fun env f r hr => by
  rw [execs_ite (h L env f) rfl]
  cases t with
  | true => exact ha env f r (by simpa using hr)
  | false => exact hb env f r (by simpa using hr)
theorem rj_iteJ {c : CE} {a b ss : List CS} {m1 : Option τ} {v : τ → Val} {sp1 : τ → Sp} {t : τ → Bool} {ma mb : τ → Option ρ} (h : EJ T c L sp m1 v sp1) (hc : ∀ q, (v q).d = .bool (t q)) (ha : ∀ q, RJ T io (a ++ ss) L (sp1 q) (ma q) rv rs) (hb : ∀ q, RJ T io (b ++ ss) L (sp1 q) (mb q) rv rs) :
    RJ T io (.ite c a b :: ss) L sp (m1.bind fun q => if t q = true then ma q else mb q) rv rs := fun env f r hr => by
  obtain ⟨q, hq, hr⟩ := Option.bind_eq_some_iff.mp hr
  obtain ⟨e0, h0, f0⟩ := h env f q hq
  rw [execs_ite h0 (hc q)]
  cases ht : t q with
  | true => rw [ht] at hr; exact ha q e0 f0 r (by simpa using hr)
  | false => rw [ht] at hr; exact hb q e0 f0 r (by simpa using hr)
theorem ouR_eq {o : Option (Ou ρ σ)} {k : σ → Option ρ} {r : ρ} (h : ouR o k = some r) : o = some (.rt r) ∨ ∃ s, o = some (.nx s) ∧ k s = some r := by
  unfold ouR at h
  obtain ⟨x, hx, h⟩ := Option.bind_eq_some_iff.mp h
  cases x with
  | rt q => simp at h; subst h; exact .inl hx
  | nx s => exact .inr ⟨s, hx, h⟩
theorem ouS_eq {o : Option (Ou ρ σ)} {k : σ → Option (Ou ρ τ)} {r : Ou ρ τ} (h : ouS o k = some r) : (∃ q, o = some (.rt q) ∧ r = .rt q) ∨ ∃ s, o = some (.nx s) ∧ k s = some r := by
  unfold ouS at h
  obtain ⟨x, hx, h⟩ := Option.bind_eq_some_iff.mp h
  cases x with
  | rt q => simp at h; exact .inl ⟨q, hx, h.symm⟩
  | nx s => exact .inr ⟨s, hx, h⟩
theorem forO_ok {tg : Tg} {body : List CS} {V : α → Val} {spL : σ → Sp} {spT : σ → α → Sp} {mb : σ → α → Option (Ou ρ σ)} (ht : ∀ s a, TgJ tg (V a) (spL s) (spT s a)) (hb : ∀ s a, SJ T io body L (spT s a) (mb s a) rv rs spL) :
    ∀ (xs : List α) (s : σ) (o : Ou ρ σ) (env : Env), Fit (spL s) env → forO mb xs s = some o → match o with
      | .nx s' => ∃ env', forL L tg (fun e => execs T body L e) (xs.map V) env = .nx env' ∧ Fit (spL s') env'
      | .rt r => ∃ x e, forL L tg (fun e => execs T body L e) (xs.map V) env = .rt x e ∧ RetOk io x (rv r) ∧ Fit (rs r) e
  | [], s, o, env, f, h => by
    simp only [forO, Option.some.injEq] at h
    subst h
    exact ⟨env, rfl, f⟩
  | x :: xs, s, o, env, f, h => by
    simp only [forO] at h
    obtain ⟨e1, h1, f1⟩ := ht s x L env f
    rcases ouS_eq h with ⟨r, hr, rfl⟩ | ⟨s1, hs1, h⟩
    · obtain ⟨v, e, h2, h3⟩ := hb s x e1 f1 _ hr
      exact ⟨v, e, by simp only [List.map_cons, forL, h1, h2], h3⟩
    · obtain ⟨e2, h2, f2⟩ := hb s x e1 f1 _ hs1
      have ih := forO_ok ht hb xs s1 o e2 f2 h
      have e : forL L tg (fun e => execs T body L e) ((x :: xs).map V) env = forL L tg (fun e => execs T body L e) (xs.map V) e2 := by
        rcases h2 with h2 | h2 <;> simp only [List.map_cons, forL, h1, h2]
      rw [e]
      exact ih
theorem rj_for {tg : Tg} {ik : Ik} {it : List CE} {body ss : List CS} {V : α → Val} {m : Option δ} {xs : δ → List α} {sp1 : δ → Sp} {s0 : δ → σ} {spL : σ → Sp} {spT : σ → α → Sp} {mb : σ → α → Option (Ou ρ σ)} {mr : σ → Option ρ} (hI : IJ T ik it L sp m V xs L' sp1) (h0 : ∀ b, Wk (sp1 b) (spL (s0 b))) (ht : ∀ s a, TgJ tg (V a) (spL s) (spT s a)) (hb : ∀ s a, SJ T io body L' (spT s a) (mb s a) rv rs spL)
    (hr : ∀ s, RJ T io ss L (spL s) (mr s) rv rs) : RJ T io (.forS tg ik it body :: ss) L sp (m.bind fun b => ouR (forO mb (xs b) (s0 b)) mr) rv rs := fun env f r hr' => by
  obtain ⟨b, hb', hr'⟩ := Option.bind_eq_some_iff.mp hr'
  obtain ⟨vs, env1, ws, env2, h1, h2, h3, h4, h5⟩ := hI env f b hb'
  subst h4
  rcases ouR_eq hr' with h | ⟨s, h, h'⟩
  · obtain ⟨x, e, h6, h7, h8⟩ := forO_ok ht hb (xs b) (s0 b) _ env2 ((h0 b).fit h5) h
    exact ⟨e, h8, .inl ⟨x, by simp only [execs, exec, h1, Iv.R.rs, h2, Iv.R.of, h3, h6], h7⟩⟩
  · obtain ⟨e, h6, h7⟩ := forO_ok ht hb (xs b) (s0 b) _ env2 ((h0 b).fit h5) h
    obtain ⟨e2, f2, h8⟩ := hr s e h7 r h'
    exact ⟨e2, f2, by simpa only [execs, exec, h1, Iv.R.rs, h2, Iv.R.of, h3, h6] using h8⟩
theorem rj_for0 {tg : Tg} {ik : Ik} {it : List CE} {body ss : List CS} {V : α → Val} {xs : List α} {sp1 : Sp} {s0 : σ} {spL : σ → Sp} {spT : σ → α → Sp} {mb : σ → α → Option (Ou ρ σ)} {mr : σ → Option ρ} (hI : IJ T ik it L sp (some ()) V (fun _ => xs) L' (fun _ => sp1)) (h0 : Wk sp1 (spL s0)) (ht : ∀ s a, TgJ tg (V a) (spL s) (spT s a)) (hb : ∀ s a, SJ T io body L' (spT s a) (mb s a) rv rs spL)
    (hr : ∀ s, RJ T io ss L (spL s) (mr s) rv rs) : RJ T io (.forS tg ik it body :: ss) L sp (ouR (forO mb xs s0) mr) rv rs := rj_for (s0 := fun _ => s0) hI (fun _ => h0) ht hb hr
variable {sp' : τ → Sp}
theorem sj_nil {s : τ} (h : Wk sp (sp' s)) : SJ T io [] L sp (some (.nx s)) rv rs sp' := fun env f o ho => by cases ho; exact ⟨env, .inl (by simp only [execs]), h.fit f⟩
theorem sj_cnt {s : τ} {ss : List CS} (h : Wk sp (sp' s)) : SJ T io (.cnt :: ss) L sp (some (.nx s)) rv rs sp' := fun env f o ho => by cases ho; exact ⟨env, .inr (by simp only [execs, exec]), h.fit f⟩
theorem sj_ret {e : CE} {ss : List CS} {x : Val} {r : ρ} (h : ET T e sp x) (hr : RetOk io x (rv r)) (hw : Wk sp (rs r)) : SJ T io (.ret e :: ss) L sp (some (.rt r)) rv rs sp' := fun env f b hb => by
  cases hb
  exact ⟨x, env, by simp only [execs, exec, h L env f, Iv.R.rs], hr, hw.fit f⟩
theorem sj_retJ {e : CE} {ss : List CS} {m : Option δ} {v : δ → Val} {sp2 : δ → Sp} {mk : δ → ρ} (h : EJ T e L sp m v sp2) (hr : ∀ b, RetOk io (v b) (rv (mk b))) (hw : ∀ b, Wk (sp2 b) (rs (mk b))) : SJ T io (.ret e :: ss) L sp (m.map fun b => .rt (mk b)) rv rs sp' := fun env f r hb => by
  obtain ⟨b, hb', rfl⟩ := Option.map_eq_some_iff.mp hb
  obtain ⟨e1, h1, f1⟩ := h env f b hb'
  exact ⟨v b, e1, by simp only [execs, exec, h1, Iv.R.rs], hr b, (hw b).fit f1⟩
theorem sj_retN {ss : List CS} {r : ρ} (hr : rv r = V0 .none) (hw : Wk sp (rs r)) : SJ T io (.retN :: ss) L sp (some (.rt r)) rv rs sp' := fun env f b hb => by
  cases hb
  exact ⟨V0 .none, env, by simp only [execs, exec], by rw [hr]; exact ret_fr rfl, hw.fit f⟩
theorem sj_t {s : CS} {ss : List CS} {m : Option (Ou ρ τ)} (h : XT T s L sp sp1) (hs : SJ T io ss L sp1 m rv rs sp') : SJ T io (s :: ss) L sp m rv rs sp' := fun env f b hb => by
  obtain ⟨e1, h1, f1⟩ := h env f
  have h2 := hs e1 f1 b hb
  simpa only [execs, h1] using h2
theorem sj_j {s : CS} {ss : List CS} {m1 : Option δ} {m : δ → Option (Ou ρ τ)} {sp2 : δ → Sp} (h : XJ T s L sp m1 sp2) (hs : ∀ c, SJ T io ss L (sp2 c) (m c) rv rs sp') : SJ T io (s :: ss) L sp (m1.bind m) rv rs sp' := fun env f b hb => by
  obtain ⟨c, hc, hb⟩ := Option.bind_eq_some_iff.mp hb
  obtain ⟨e1, h1, f1⟩ := h env f c hc
  have h2 := hs c e1 f1 b hb
  simpa only [execs, h1] using h2
theorem sj_ite {c : CE} {a b ss : List CS} {k : Kd} {p : Pv} {t : Bool} {ma mb : Option (Ou ρ τ)} (h : ET T c sp ⟨k, p, .bool t⟩) (ha : SJ T io (a ++ ss) L sp ma rv rs sp') (hb : SJ T io (b ++ ss) L sp mb rv rs sp') : SJ T io (.ite c a b :: ss) L sp (if t = true then ma else mb) rv rs sp' := fun env f r hr => by
  rw [execs_ite (h L env f) rfl]
  cases t with
  | true => exact ha env f r (by simpa using hr)
  | false => exact hb env f r (by simpa using hr)
theorem sj_iteJ {c : CE} {a b ss : List CS} {m1 : Option δ} {v : δ → Val} {sp1 : δ → Sp} {t : δ → Bool} {ma mb : δ → Option (Ou ρ τ)} (h : EJ T c L sp m1 v sp1) (hc : ∀ q, (v q).d = .bool (t q)) (ha : ∀ q, SJ T io (a ++ ss) L (sp1 q) (ma q) rv rs sp') (hb : ∀ q, SJ T io (b ++ ss) L (sp1 q) (mb q) rv rs sp') :
    SJ T io (.ite c a b :: ss) L sp (m1.bind fun q => if t q = true then ma q else mb q) rv rs sp' := fun env f r hr => by
  obtain ⟨q, hq, hr⟩ := Option.bind_eq_some_iff.mp hr
  obtain ⟨e0, h0, f0⟩ := h env f q hq
  rw [execs_ite h0 (hc q)]
  cases ht : t q with
  | true => rw [ht] at hr; exact ha q e0 f0 r (by simpa using hr)
  | false => rw [ht] at hr; exact hb q e0 f0 r (by simpa using hr)
theorem sj_for {tg : Tg} {ik : Ik} {it : List CE} {body ss : List CS} {V : α → Val} {m : Option δ} {xs : δ → List α} {sp1 : δ → Sp} {s0 : δ → σ} {spL : σ → Sp} {spT : σ → α → Sp} {mb : σ → α → Option (Ou ρ σ)} {mr : σ → Option (Ou ρ τ)} (hI : IJ T ik it L sp m V xs L' sp1) (h0 : ∀ b, Wk (sp1 b) (spL (s0 b))) (ht : ∀ s a, TgJ tg (V a) (spL s) (spT s a)) (hb : ∀ s a, SJ T io body L' (spT s a) (mb s a) rv rs spL)
    (hr : ∀ s, SJ T io ss L (spL s) (mr s) rv rs sp') : SJ T io (.forS tg ik it body :: ss) L sp (m.bind fun b => ouS (forO mb (xs b) (s0 b)) mr) rv rs sp' := fun env f r hr' => by
  obtain ⟨b, hb', hr'⟩ := Option.bind_eq_some_iff.mp hr'
  obtain ⟨vs, env1, ws, env2, h1, h2, h3, h4, h5⟩ := hI env f b hb'
  subst h4
  rcases ouS_eq hr' with ⟨q, h, rfl⟩ | ⟨s, h, h'⟩
  · obtain ⟨x, e, h6, h7, h8⟩ := forO_ok ht hb (xs b) (s0 b) _ env2 ((h0 b).fit h5) h
    exact ⟨x, e, by simp only [execs, exec, h1, Iv.R.rs, h2, Iv.R.of, h3, h6], h7, h8⟩
  · obtain ⟨e, h6, h7⟩ := forO_ok ht hb (xs b) (s0 b) _ env2 ((h0 b).fit h5) h
    have h8 := hr s e h7 r h'
    simpa only [execs, exec, h1, Iv.R.rs, h2, Iv.R.of, h3, h6] using h8
theorem sj_for0 {tg : Tg} {ik : Ik} {it : List CE} {body ss : List CS} {V : α → Val} {xs : List α} {sp1 : Sp} {s0 : σ} {spL : σ → Sp} {spT : σ → α → Sp} {mb : σ → α → Option (Ou ρ σ)} {mr : σ → Option (Ou ρ τ)} (hI : IJ T ik it L sp (some ()) V (fun _ => xs) L' (fun _ => sp1)) (h0 : Wk sp1 (spL s0)) (ht : ∀ s a, TgJ tg (V a) (spL s) (spT s a)) (hb : ∀ s a, SJ T io body L' (spT s a) (mb s a) rv rs spL)
    (hr : ∀ s, SJ T io ss L (spL s) (mr s) rv rs sp') : SJ T io (.forS tg ik it body :: ss) L sp (ouS (forO mb xs s0) mr) rv rs sp' := sj_for (s0 := fun _ => s0) hI (fun _ => h0) ht hb hr

/-! defs -/
def maskS : List Bool → Sp → Option Env
  | io, o :: sp => match io.headD false with
    | true => o.bind fun o => (maskS io.tail sp).map (o :: ·)
    | false => (maskS io.tail sp).map (none :: ·)
  | _, [] => some []
theorem maskS_ok : ∀ {sp : Sp} {io : List Bool} {out env : Env}, maskS io sp = some out → Fit sp env → maskE io env = out
  | [], io, out, [], h, f => by simp only [maskS, Option.some.injEq] at h; subst h; rfl
  | o :: sp, io, out, x :: env, h, f => by
    simp only [maskS] at h
    cases hi : io.headD false with
    | true =>
      rw [hi] at h
      obtain ⟨y, hy, h⟩ := Option.bind_eq_some_iff.mp h
      obtain ⟨z, hz, rfl⟩ := Option.map_eq_some_iff.mp h
      simp only [maskE, hi, if_true, maskS_ok hz f.2, f.1 y hy]
    | false =>
      rw [hi] at h
      obtain ⟨z, hz, rfl⟩ := Option.map_eq_some_iff.mp h
      simp only [maskE, hi, Bool.false_eq_true, if_false, maskS_ok hz f.2]
theorem Fit.take : ∀ {sp : Sp} {env : Env} (n : Nat), Fit sp env → Fit (sp.take n) (env.take n)
  | [], [], 0, f => f
  | [], [], n + 1, f => f
  | o :: sp, x :: env, 0, f => trivial
  | o :: sp, x :: env, n + 1, f => ⟨f.1, Fit.take n f.2⟩
def initS (np ns : Nat) (ps : List Sl) : Sp := ps.map (fun s => some (some s)) ++ List.replicate (ns - np) (some none)
theorem fit_init {np ns : Nat} : ∀ ps : List Sl, Fit (initS np ns ps) (ps.map some ++ List.replicate (ns - np) none)
  | [] => by
    unfold initS
    simp only [List.map_nil, List.nil_append]
    induction (ns - np) with
    | zero => trivial
    | succ n ih => exact ⟨fun x h => by cases h; rfl, ih⟩
  | p :: ps => ⟨fun x h => by cases h; rfl, fit_init ps⟩
theorem run_rj {d : Def} {ps : List Sl} {m : Option ρ} {out : ρ → Env} (h : RJ T d.io d.body [] (initS d.np d.ns ps) m rv rs) (hl : ps.length = d.np) (hm : ∀ r, maskS d.io ((rs r).take d.np) = some (out r)) (r : ρ) (hr : m = some r) : runD T d ps = .ok (rv r, out r) := by
  obtain ⟨e, f, h1⟩ := h _ (fit_init ps) r hr
  have hk := maskS_ok (hm r) (f.take d.np)
  unfold runD
  rw [if_pos hl]
  rcases h1 with ⟨x, h1, h2, h3, h4, _⟩ | ⟨h1, h2⟩
  · rw [h1]
    simp only [h4, Iv.R.of, Iv.R.bind, hk]
    congr 2
    cases h : rv r
    rw [h] at h2 h3
    simp only at h2 h3
    subst h2 h3
    rfl
  · rw [h1]
    simp only [hk, h2]
theorem fn_step {defs : Str → Option Def} {fuel k : Nat} {f : Str} {d : Def} {ps : List Sl} {m : Option ρ} {out : ρ → Env} (hd : defs f = some d) (hl : ps.length = d.np) (h : RJ (tab defs fuel k) d.io d.body [] (initS d.np d.ns ps) m rv rs) (hm : ∀ r, maskS d.io ((rs r).take d.np) = some (out r)) : CJ (tab defs fuel (k + 1)) f ps m rv out := fun r hr => by
  have e : (tab defs fuel (k + 1)).fn f ps = runD (tab defs fuel k) d ps := by
    show (match defs f with | some d => runD ⟨ioOf defs, fnK defs fuel k, fuel⟩ d ps | none => .no) = _
    rw [hd]; rfl
  rw [e]
  exact run_rj h hl hm r hr
theorem io_of {defs : Str → Option Def} {fuel k : Nat} {f : Str} {d : Def} {io : List Bool} (hd : defs f = some d) (h : d.io = io) : (tab defs fuel k).io f = io := by
  show ((defs f).map (·.io)).getD [] = io
  rw [hd]; exact h
/-- the law's rest -/
theorem law_rj {d : Def} {n : Nat} {sv : D} {m : Option Bool} {spr : Bool → Sp} (h : RJ T [] d.body [] (some none :: some (some ⟨.deep, true, sv⟩) :: List.replicate n (some none)) m (fun b => ⟨.imm, .fr, .bool b⟩) spr) (hm : m = some true) : ∃ e, execs T d.body [] (none :: some ⟨.deep, true, sv⟩ :: List.replicate n none) = .rt ⟨.imm, .fr, .bool true⟩ e := by
  have f : Fit (some none :: some (some ⟨.deep, true, sv⟩) :: List.replicate n (some none)) (none :: some ⟨.deep, true, sv⟩ :: List.replicate n none) := by
    refine ⟨fun x h => by cases h; rfl, fun x h => by cases h; rfl, ?_⟩
    clear h
    induction n with
    | zero => trivial
    | succ n ih => exact ⟨fun x h => by cases h; rfl, ih⟩
  obtain ⟨e, _, h1⟩ := h _ f true hm
  rcases h1 with ⟨x, h1, h2, h3, h4, h5⟩ | ⟨h1, h2⟩
  · refine ⟨e, ?_⟩
    rw [h1]
    cases x
    simp only at h2 h3 h5
    subst h2 h3
    have := h5 rfl
    subst this
    rfl
  · simp [V0] at h2
end
end Iv

set_option maxRecDepth 100000
/-! MrD: plain types as data (encoders), what the prims give on them. -/
namespace Iv
open PySem L2

abbrev eI : Int → D := fun i => .int i
abbrev eB : Bool → D := fun b => .bool b
abbrev eS : Str → D := fun s => .str s
abbrev eN : Unit → D := fun _ => .none
abbrev eA : D → D := fun d => d
section
variable {α β γ ε ζ : Type}
abbrev eT (f : α → D) : List α → D := fun xs => .tuple (xs.map f)
abbrev eL (f : α → D) : List α → D := fun xs => .list (xs.map f)
abbrev eO (f : α → D) : Option α → D := fun x => match x with | some y => f y | none => .none
abbrev eP1 (f : α → D) : α → D := fun p => .tuple [f p]
abbrev eP2 (f : α → D) (g : β → D) : α × β → D := fun p => .tuple [f p.1, g p.2]
abbrev eP3 (f : α → D) (g : β → D) (h : γ → D) : α × β × γ → D := fun p => .tuple [f p.1, g p.2.1, h p.2.2]
abbrev eP4 (f : α → D) (g : β → D) (h : γ → D) (i : ε → D) : α × β × γ × ε → D := fun p => .tuple [f p.1, g p.2.1, h p.2.2.1, i p.2.2.2]
abbrev eP0 : Unit → D := fun _ => .tuple []
abbrev eH2 (f : α → D) (g : β → D) : α × β → D := fun p => .list [f p.1, g p.2]
abbrev eP5 (f : α → D) (g : β → D) (h : γ → D) (i : ε → D) (j : ζ → D) : α × β × γ × ε × ζ → D := fun p => .tuple [f p.1, g p.2.1, h p.2.2.1, i p.2.2.2.1, j p.2.2.2.2]

/-! without lists -/
def Im (f : α → D) : Prop := ∀ a, imm (f a) = true
theorem imI : Im eI := fun _ => rfl
theorem imB : Im eB := fun _ => rfl
theorem imS : Im eS := fun _ => rfl
theorem imN : Im eN := fun _ => rfl
theorem immL_map {f : α → D} (h : Im f) : ∀ xs : List α, immL (xs.map f) = true
  | [] => rfl
  | x :: xs => by simp only [List.map_cons, immL, h x, immL_map h xs, Bool.and_self]
theorem imT {f : α → D} (h : Im f) : Im (eT f) := fun xs => by simp only [imm, immL_map h xs]
theorem imO {f : α → D} (h : Im f) : Im (eO f) := fun x => by cases x with | none => rfl | some y => exact h y
theorem imP1 {f : α → D} (h : Im f) : Im (eP1 f) := fun p => by simp only [imm, immL, h p, Bool.and_self]
theorem imP2 {f : α → D} {g : β → D} (hf : Im f) (hg : Im g) : Im (eP2 f g) := fun p => by simp only [imm, immL, hf p.1, hg p.2, Bool.and_self]
theorem imP3 {f : α → D} {g : β → D} {h : γ → D} (hf : Im f) (hg : Im g) (hh : Im h) : Im (eP3 f g h) := fun p => by simp only [imm, immL, hf p.1, hg p.2.1, hh p.2.2, Bool.and_self]
theorem imP4 {f : α → D} {g : β → D} {h : γ → D} {i : ε → D} (hf : Im f) (hg : Im g) (hh : Im h) (hi : Im i) : Im (eP4 f g h i) := fun p => by simp only [imm, immL, hf p.1, hg p.2.1, hh p.2.2.1, hi p.2.2.2, Bool.and_self]
theorem imP5 {f : α → D} {g : β → D} {h : γ → D} {i : ε → D} {j : ζ → D} (hf : Im f) (hg : Im g) (hh : Im h) (hi : Im i) (hj : Im j) : Im (eP5 f g h i j) := fun p => by simp only [imm, immL, hf p.1, hg p.2.1, hh p.2.2.1, hi p.2.2.2.1, hj p.2.2.2.2, Bool.and_self]

/-! what == may compare -/
def Lay (f : α → D) (n : Nat) : Prop := ∀ a, (f a).canLay0 = true ∧ (f a).depth ≤ n
theorem layI : Lay eI 0 := fun _ => ⟨rfl, Nat.le_refl _⟩
theorem layB : Lay eB 0 := fun _ => ⟨rfl, Nat.le_refl _⟩
theorem layN : Lay eN 0 := fun _ => ⟨rfl, Nat.le_refl _⟩
theorem layAll {f : α → D} {n : Nat} (h : Lay f n) : ∀ xs : List α, PyData.canLayAll0 (xs.map f) = true ∧ PyData.depthAll (xs.map f) ≤ n
  | [] => ⟨rfl, Nat.zero_le _⟩
  | x :: xs => by
    obtain ⟨h1, h2⟩ := h x
    obtain ⟨h3, h4⟩ := layAll h xs
    simp only [List.map_cons, PyData.canLayAll0, PyData.depthAll, h1, h3, Bool.and_self, true_and]
    omega
theorem layT {f : α → D} {n : Nat} (h : Lay f n) : Lay (eT f) (n + 1) := fun xs => by
  obtain ⟨h1, h2⟩ := layAll h xs
  simp only [PyData.canLay0, PyData.depth, h1, true_and]; omega
theorem layL {f : α → D} {n : Nat} (h : Lay f n) : Lay (eL f) (n + 1) := fun xs => by
  obtain ⟨h1, h2⟩ := layAll h xs
  simp only [PyData.canLay0, PyData.depth, h1, true_and]; omega
theorem layO {f : α → D} {n : Nat} (h : Lay f n) : Lay (eO f) n := fun x => by
  cases x with
  | none => exact ⟨rfl, Nat.zero_le _⟩
  | some y => exact h y
theorem layP1 {f : α → D} {n : Nat} (h : Lay f n) : Lay (eP1 f) (n + 1) := fun p => by
  obtain ⟨h1, h2⟩ := h p
  simp only [PyData.canLay0, PyData.canLayAll0, PyData.depth, PyData.depthAll, h1, Bool.and_self, true_and]; omega
theorem layP2 {f : α → D} {g : β → D} {n m : Nat} (hf : Lay f n) (hg : Lay g m) : Lay (eP2 f g) (n + m + 1) := fun p => by
  obtain ⟨h1, h2⟩ := hf p.1
  obtain ⟨h3, h4⟩ := hg p.2
  simp only [PyData.canLay0, PyData.canLayAll0, PyData.depth, PyData.depthAll, h1, h3, Bool.and_self, true_and]; omega
theorem layP3 {f : α → D} {g : β → D} {h : γ → D} {n m k : Nat} (hf : Lay f n) (hg : Lay g m) (hh : Lay h k) : Lay (eP3 f g h) (n + m + k + 1) := fun p => by
  obtain ⟨h1, h2⟩ := hf p.1
  obtain ⟨h3, h4⟩ := hg p.2.1
  obtain ⟨h5, h6⟩ := hh p.2.2
  simp only [PyData.canLay0, PyData.canLayAll0, PyData.depth, PyData.depthAll, h1, h3, h5, Bool.and_self, true_and]; omega
theorem layP4 {f : α → D} {g : β → D} {h : γ → D} {i : ε → D} {n m k l : Nat} (hf : Lay f n) (hg : Lay g m) (hh : Lay h k) (hi : Lay i l) : Lay (eP4 f g h i) (n + m + k + l + 1) := fun p => by
  obtain ⟨h1, h2⟩ := hf p.1
  obtain ⟨h3, h4⟩ := hg p.2.1
  obtain ⟨h5, h6⟩ := hh p.2.2.1
  obtain ⟨h7, h8⟩ := hi p.2.2.2
  simp only [PyData.canLay0, PyData.canLayAll0, PyData.depth, PyData.depthAll, h1, h3, h5, h7, Bool.and_self, true_and]; omega
theorem Lay.plain {f : α → D} {n : Nat} (h : Lay f n) (hn : decide (n ≤ 64) = true) (a : α) : plain (f a) = true := by
  obtain ⟨h1, h2⟩ := h a
  simp only [decide_eq_true_eq] at hn
  unfold Iv.plain PySem.SeqAt.shaped
  simp only [h1, Bool.true_and, decide_eq_true_eq]; omega

/-! == on data is = on what they tell -/
def Eqv [DecidableEq α] (f : α → D) : Prop := ∀ a b, PyData.eqv (f a) (f b) = decide (a = b)
theorem eqvI : Eqv eI := fun a b => by
  simp only [PyData.eqv]
  by_cases h : a = b <;> simp [h]
theorem eqvB : Eqv eB := fun a b => by
  simp only [PyData.eqv]
  by_cases h : a = b <;> simp [h]
theorem eqvS : Eqv eS := fun a b => by
  simp only [PyData.eqv]
  by_cases h : a = b <;> simp [h]
theorem eqvN : Eqv eN := fun a b => by simp [PyData.eqv]
theorem eqvAll_map [DecidableEq α] {f : α → D} (h : Eqv f) : ∀ xs ys : List α, PyData.eqvAll (xs.map f) (ys.map f) = decide (xs = ys)
  | [], [] => by simp [PyData.eqvAll]
  | [], y :: ys => by simp [PyData.eqvAll]
  | x :: xs, [] => by simp [PyData.eqvAll]
  | x :: xs, y :: ys => by
    simp only [List.map_cons, PyData.eqvAll, h x y, eqvAll_map h xs ys, List.cons.injEq]
    by_cases h1 : x = y <;> by_cases h2 : xs = ys <;> simp [h1, h2]
theorem eqvT [DecidableEq α] {f : α → D} (h : Eqv f) : Eqv (eT f) := fun xs ys => by simp only [PyData.eqv, eqvAll_map h]
theorem eqvL [DecidableEq α] {f : α → D} (h : Eqv f) : Eqv (eL f) := fun xs ys => by simp only [PyData.eqv, eqvAll_map h]
theorem eqvP1 [DecidableEq α] {f : α → D} (hf : Eqv f) : Eqv (eP1 f) := fun p q => by
  simp only [PyData.eqv, PyData.eqvAll, hf p q, Bool.and_true]
theorem eqvP2 [DecidableEq α] [DecidableEq β] {f : α → D} {g : β → D} (hf : Eqv f) (hg : Eqv g) : Eqv (eP2 f g) := fun p q => by
  obtain ⟨a, b⟩ := p
  obtain ⟨c, d⟩ := q
  simp only [PyData.eqv, PyData.eqvAll, hf a c, hg b d, Bool.and_true, Prod.mk.injEq]
  by_cases h1 : a = c <;> by_cases h2 : b = d <;> simp [h1, h2]
theorem eqvP3 [DecidableEq α] [DecidableEq β] [DecidableEq γ] {f : α → D} {g : β → D} {h : γ → D} (hf : Eqv f) (hg : Eqv g) (hh : Eqv h) : Eqv (eP3 f g h) := fun p q => by
  obtain ⟨a, b, c⟩ := p
  obtain ⟨a', b', c'⟩ := q
  simp only [PyData.eqv, PyData.eqvAll, hf a a', hg b b', hh c c', Bool.and_true, Prod.mk.injEq]
  by_cases h1 : a = a' <;> by_cases h2 : b = b' <;> by_cases h3 : c = c' <;> simp [h1, h2, h3]
theorem eqvP4 [DecidableEq α] [DecidableEq β] [DecidableEq γ] [DecidableEq ε] {f : α → D} {g : β → D} {h : γ → D} {i : ε → D} (hf : Eqv f) (hg : Eqv g) (hh : Eqv h) (hi : Eqv i) : Eqv (eP4 f g h i) := fun p q => by
  obtain ⟨a, b, c, d⟩ := p
  obtain ⟨a', b', c', d'⟩ := q
  simp only [PyData.eqv, PyData.eqvAll, hf a a', hg b b', hh c c', hi d d', Bool.and_true, Prod.mk.injEq]
  by_cases h1 : a = a' <;> by_cases h2 : b = b' <;> by_cases h3 : c = c' <;> by_cases h4 : d = d' <;> simp [h1, h2, h3, h4]
def NotN (f : α → D) : Prop := ∀ a, (∃ b, f a = .bool b) ∨ (∃ b, f a = .int b) ∨ (∃ b, f a = .str b) ∨ (∃ b, f a = .list b) ∨ ∃ b, f a = .tuple b
theorem nnI : NotN eI := fun a => .inr (.inl ⟨a, rfl⟩)
theorem nnB : NotN eB := fun a => .inl ⟨a, rfl⟩
theorem nnS : NotN eS := fun a => .inr (.inr (.inl ⟨a, rfl⟩))
theorem nnL {f : α → D} : NotN (eL f) := fun a => .inr (.inr (.inr (.inl ⟨_, rfl⟩)))
theorem nnT {f : α → D} : NotN (eT f) := fun a => .inr (.inr (.inr (.inr ⟨_, rfl⟩)))
theorem nnP {f : α → D} {g : α → List D} (h : ∀ a, f a = .tuple (g a)) : NotN f := fun a => .inr (.inr (.inr (.inr ⟨_, h a⟩)))
theorem eqvO [DecidableEq α] {f : α → D} (hf : Eqv f) (hn : NotN f) : Eqv (eO f) := fun x y => by
  have h1 : ∀ b, PyData.eqv .none (f b) = false := fun b => by
    rcases hn b with ⟨c, h⟩ | ⟨c, h⟩ | ⟨c, h⟩ | ⟨c, h⟩ | ⟨c, h⟩ <;> rw [h] <;> simp only [PyData.eqv]
  have h2 : ∀ b, PyData.eqv (f b) .none = false := fun b => by
    rcases hn b with ⟨c, h⟩ | ⟨c, h⟩ | ⟨c, h⟩ | ⟨c, h⟩ | ⟨c, h⟩ <;> rw [h] <;> simp only [PyData.eqv]
  cases x with
  | none =>
    cases y with
    | none => show PyData.eqv .none .none = _; simp [PyData.eqv]
    | some b => show PyData.eqv .none (f b) = _; rw [h1]; simp
  | some a =>
    cases y with
    | none => show PyData.eqv (f a) .none = _; rw [h2]; simp
    | some b => show PyData.eqv (f a) (f b) = _; rw [hf a b]; simp

/-! prims -/
variable {k l : Kd} {p q : Pv}
theorem q_neg {i : Int} : pr1 .neg k (.int i) = some (.imm, .int (-i)) := rfl
theorem q_abs {i : Int} : pr1 .abs k (.int i) = some (.imm, .int (if i < 0 then -i else i)) := rfl
theorem q_toIntI {i : Int} : pr1 .toInt k (.int i) = some (.imm, .int i) := rfl
theorem q_toIntB {b : Bool} : pr1 .toInt k (.bool b) = some (.imm, .int (if b = true then 1 else 0)) := rfl
theorem q_isNone {f : α → D} (hn : NotN f) {x : Option α} : pr1 .isNone k (eO f x) = some (.imm, .bool x.isNone) := by
  cases x with
  | none => rfl
  | some a => rcases hn a with ⟨c, h⟩ | ⟨c, h⟩ | ⟨c, h⟩ | ⟨c, h⟩ | ⟨c, h⟩ <;> simp [h, pr1, isNoneD, rB]
theorem q_notNone {f : α → D} (hn : NotN f) {x : Option α} : pr1 .notNone k (eO f x) = some (.imm, .bool x.isSome) := by
  cases x with
  | none => rfl
  | some a => rcases hn a with ⟨c, h⟩ | ⟨c, h⟩ | ⟨c, h⟩ | ⟨c, h⟩ | ⟨c, h⟩ <;> simp [h, pr1, isNoneD, rB]
theorem q_lenL {f : α → D} {xs : List α} : pr1 .len k (.list (xs.map f)) = some (.imm, .int xs.length) := by simp [pr1, rN]
theorem q_lenT {f : α → D} {xs : List α} : pr1 .len k (.tuple (xs.map f)) = some (.imm, .int xs.length) := by simp [pr1, rN]
theorem intsOf_eI : ∀ xs : List Int, intsOf (xs.map eI) = some xs
  | [] => rfl
  | x :: xs => by simp only [List.map_cons, intsOf, intsOf_eI xs, Option.map_some]
theorem q_sum {xs : List Int} : pr1 .sum k (.list (xs.map eI)) = some (.imm, .int xs.sum) := by simp only [pr1, intsOf_eI, Option.bind_some, rN]
def maxM (xs : List Int) : Option Int := if xs.isEmpty then none else some (xs.foldl max (xs.headD 0))
def minM (xs : List Int) : Option Int := if xs.isEmpty then none else some (xs.foldl min (xs.headD 0))
theorem q_maxOf {xs : List Int} (y : Int) (h : maxM xs = some y) : pr1 .maxOf k (.list (xs.map eI)) = some (.imm, .int y) := by
  unfold maxM at h
  simp only [pr1, intsOf_eI, Option.bind_some, rN]
  split at h <;> simp_all
theorem q_minOf {xs : List Int} (y : Int) (h : minM xs = some y) : pr1 .minOf k (.list (xs.map eI)) = some (.imm, .int y) := by
  unfold minM at h
  simp only [pr1, intsOf_eI, Option.bind_some, rN]
  split at h <;> simp_all
theorem fl_im {f : α → D} (h : Im f) {xs : List α} : fl k (.list (xs.map f)) = true := by
  cases k
  · rfl
  · rfl
  · exact immL_map h xs
theorem fl_imT {f : α → D} (h : Im f) {xs : List α} : fl k (.tuple (xs.map f)) = true := by
  cases k
  · rfl
  · rfl
  · exact imT h xs
theorem q_tupleL {f : α → D} (h : Im f) {xs : List α} : pr1 .tupleOf k (.list (xs.map f)) = some (.imm, .tuple (xs.map f)) := by simp only [pr1, fl_im h, if_true, rI]
theorem q_tupleT {f : α → D} (h : Im f) {xs : List α} : pr1 .tupleOf k (.tuple (xs.map f)) = some (.imm, .tuple (xs.map f)) := by simp only [pr1, fl_imT h, if_true, rI]
theorem q_listL {f : α → D} (h : Im f) {xs : List α} : pr1 .listOf k (.list (xs.map f)) = some (.flat, .list (xs.map f)) := by simp only [pr1, fl_im h, if_true]
theorem q_listT {f : α → D} (h : Im f) {xs : List α} : pr1 .listOf k (.tuple (xs.map f)) = some (.flat, .list (xs.map f)) := by simp only [pr1, fl_imT h, if_true]
/-- sorted, by the data's own order -/
def srt (f : α → D) (xs : List α) : List α := xs.mergeSort fun a b => PySem.W.dataLe false id (f a) (f b)
def So (f : α → D) : Prop := ∀ xs : List α, sortOk (xs.map f) = true
theorem sortD_map {f : α → D} (xs : List α) : sortD (xs.map f) = (srt f xs).map f := by
  unfold sortD srt
  exact (List.map_mergeSort (f := f) (s := PySem.W.dataLe false id) (fun a _ b _ => rfl)).symm
theorem q_sorted {f : α → D} (h : Im f) (hs : So f) {xs : List α} : pr1 .sorted k (.list (xs.map f)) = some (.flat, .list ((srt f xs).map f)) := by
  simp only [pr1, fl_im h, hs xs, Bool.and_self, if_true, sortD_map]
def srtM (f : α → D) (xs : List α) : Option (List α) := if sortOk (xs.map f) = true then some (srt f xs) else none
theorem q_sortedM {f : α → D} (h : Im f) {xs : List α} (ys : List α) (hy : srtM f xs = some ys) : pr1 .sorted k (.list (xs.map f)) = some (.flat, .list (ys.map f)) := by
  unfold srtM at hy
  split at hy
  · cases hy; simp only [pr1, fl_im h, Bool.true_and, if_true, sortD_map, *]
  · cases hy
theorem so_of {f : α → D} {n : Nat} (h1 : ∀ a b, PySem.W.alike (f a) (f b) = true) (h2 : (∀ a, isTupN (f a) = true) ∨ ∀ a, noTup (f a) = true) (h3 : ∀ a, (f a).depth ≤ n) (hn : n ≤ 64) : So f := fun xs => by
  have hd : PyData.depthAll (xs.map f) ≤ n := by
    induction xs with
    | nil => simp [PyData.depthAll]
    | cons x xs ih => simp only [List.map_cons, PyData.depthAll]; have := h3 x; omega
  unfold sortOk allAlikeB sortableB
  simp only [Bool.and_eq_true, decide_eq_true_eq, List.all_eq_true, Bool.or_eq_true]
  refine ⟨⟨fun d hd e he => ?_, ?_⟩, by omega⟩
  · obtain ⟨a, _, rfl⟩ := List.mem_map.mp hd
    obtain ⟨b, _, rfl⟩ := List.mem_map.mp he
    exact h1 a b
  · rcases h2 with h2 | h2
    · left; intro d hd; obtain ⟨a, _, rfl⟩ := List.mem_map.mp hd; exact h2 a
    · right; intro d hd; obtain ⟨a, _, rfl⟩ := List.mem_map.mp hd; exact h2 a
theorem soI : So eI := so_of (n := 0) (fun _ _ => by simp [PySem.W.alike]) (.inr fun _ => rfl) (fun _ => by simp [PyData.depth]) (by omega)
theorem soP2 : So (eP2 eI eI) := so_of (n := 2) (fun _ _ => by simp [PySem.W.alike, PySem.W.alikeAll]) (.inl fun _ => rfl) (fun _ => by simp [PyData.depth, PyData.depthAll]) (by omega)
theorem soP3 : So (eP3 eI eI eI) := so_of (n := 2) (fun _ _ => by simp [PySem.W.alike, PySem.W.alikeAll]) (.inl fun _ => rfl) (fun _ => by simp [PyData.depth, PyData.depthAll]) (by omega)
theorem soP4 : So (eP4 eI eI eI eI) := so_of (n := 2) (fun _ _ => by simp [PySem.W.alike, PySem.W.alikeAll]) (.inl fun _ => rfl) (fun _ => by simp [PyData.depth, PyData.depthAll]) (by omega)
/-- two numbers, the lesser one first -/
def so2 (p : Int × Int) : Int × Int := (min p.1 p.2, max p.1 p.2)
theorem q_so2 {x : Int × Int} : pr1 .sorted .flat (eH2 eI eI x) = some (.flat, eH2 eI eI (so2 x)) := by
  obtain ⟨a, b⟩ := x
  have h := q_sorted (k := .flat) imI soI (xs := [a, b])
  have e : srt eI [a, b] = [min a b, max a b] := by
    unfold srt
    have h2 : ∀ a b : Int, PySem.W.dataLe false id (eI a) (eI b) = decide (a ≤ b) := fun a b => by
      show (!(PyProof.Rows.lexLt PyProof.Rows.itemOrd [.inl b] [.inl a])) = _
      simp [PyProof.Rows.lexLt, PyProof.Rows.itemLt]
      by_cases h : a ≤ b
      · simp [h]
      · simp [h]; omega
    by_cases hab : a ≤ b
    · have e1 : min a b = a := by omega
      have e2 : max a b = b := by omega
      rw [e1, e2, List.mergeSort_of_pairwise]
      simp [h2, hab]
    · have e1 : min a b = b := by omega
      have e2 : max a b = a := by omega
      rw [e1, e2]
      have p : [a, b].mergeSort (fun a b => PySem.W.dataLe false id (eI a) (eI b)) = [b, a] := by
        simp only [h2]
        rw [List.mergeSort]
        simp [List.MergeSort.Internal.splitInTwo, List.merge, hab]
      exact p
  rw [e] at h
  exact h
def reprM (d : D) : Option Str := if shows d = true then some d.shown else none
theorem q_repr {d : D} (y : Str) (h : reprM d = some y) : pr1 .repr k d = some (.imm, .str y) := by
  unfold reprM at h
  split at h
  · cases h; simp only [pr1, rI, if_true, *]
  · cases h
def rangeI (a b : Int) : List Int := (List.range (b - a).toNat).map fun (i : Nat) => a + (i : Int)
theorem rangeD_I {a b : Int} : rangeD a b = (rangeI a b).map eI := by simp [rangeD, rangeI]
def rangeM (a b : Int) : Option (List Int) := if rgOk a b = true then some (rangeI a b) else none
theorem q_lrange {n : Int} (y : List Int) (h : rangeM 0 n = some y) : pr1 .lrange k (.int n) = some (.flat, .list (y.map eI)) := by
  unfold rangeM at h
  split at h
  · cases h; simp only [pr1, if_true, rangeD_I, *]
  · cases h
theorem q_trange {n : Int} (y : List Int) (h : rangeM 0 n = some y) : pr1 .trange k (.int n) = some (.imm, .tuple (y.map eI)) := by
  unfold rangeM at h
  split at h
  · cases h; simp only [pr1, if_true, rangeD_I, *]
  · cases h
theorem q_add {i j : Int} : pr2 .add k (.int i) l (.int j) = some (.imm, .int (i + j)) := rfl
theorem q_sub {i j : Int} : pr2 .sub k (.int i) l (.int j) = some (.imm, .int (i - j)) := rfl
def mulM (i j : Int) : Option Int := if mulOk i j = true then some (i * j) else none
theorem q_mul {i j : Int} (y : Int) (h : mulM i j = some y) : pr2 .mul k (.int i) l (.int j) = some (.imm, .int y) := by
  unfold mulM at h
  split at h
  · cases h; simp only [pr2, rN, if_true, *]
  · cases h
def smallI (j : Int) : Bool := decide (-(2 ^ 64) < j) && decide (j < 2 ^ 64)
theorem q_mulr {i j : Int} (h : smallI j = true) : pr2 .mul k (.int i) l (.int j) = some (.imm, .int (i * j)) := by
  have : mulOk i j = true := by unfold mulOk; unfold smallI at h; rw [h, Bool.or_true]
  simp only [pr2, rN, if_true, this]
theorem q_mull {i j : Int} (h : smallI i = true) : pr2 .mul k (.int i) l (.int j) = some (.imm, .int (i * j)) := by
  have : mulOk i j = true := by unfold mulOk; unfold smallI at h; rw [h, Bool.true_or]
  simp only [pr2, rN, if_true, this]
def divM (i j : Int) : Option Int := if (decide (0 < j) && decide (j < 1073741824)) = true then some (i / j) else none
def modM (i j : Int) : Option Int := if decide (0 < j) = true then some (i % j) else none
theorem q_fdiv {i j : Int} (y : Int) (h : divM i j = some y) : pr2 .fdiv k (.int i) l (.int j) = some (.imm, .int y) := by
  unfold divM at h
  split at h
  · cases h; simp only [pr2, rN, if_true, *]
  · cases h
theorem q_mod {i j : Int} (y : Int) (h : modM i j = some y) : pr2 .mod k (.int i) l (.int j) = some (.imm, .int y) := by
  unfold modM at h
  split at h
  · cases h; simp only [pr2, rN, if_true, *]
  · cases h
theorem q_fdivc {i j : Int} (h : (decide (0 < j) && decide (j < 1073741824)) = true) : pr2 .fdiv k (.int i) l (.int j) = some (.imm, .int (i / j)) := by simp only [pr2, rN, if_true, h]
theorem q_modc {i j : Int} (h : decide (0 < j) = true) : pr2 .mod k (.int i) l (.int j) = some (.imm, .int (i % j)) := by simp only [pr2, rN, if_true, h]
theorem q_lt {i j : Int} : pr2 .lt k (.int i) l (.int j) = some (.imm, .bool (decide (i < j))) := rfl
theorem q_le {i j : Int} : pr2 .le k (.int i) l (.int j) = some (.imm, .bool (decide (i ≤ j))) := rfl
theorem q_gt {i j : Int} : pr2 .gt k (.int i) l (.int j) = some (.imm, .bool (decide (j < i))) := rfl
theorem q_ge {i j : Int} : pr2 .ge k (.int i) l (.int j) = some (.imm, .bool (decide (j ≤ i))) := rfl
theorem q_max2 {i j : Int} : pr2 .max2 k (.int i) l (.int j) = some (.imm, .int (max i j)) := by
  simp only [pr2, rN]
  congr 3
  split <;> omega
theorem q_min2 {i j : Int} : pr2 .min2 k (.int i) l (.int j) = some (.imm, .int (min i j)) := by
  simp only [pr2, rN]
  congr 3
  split <;> omega
def addM (xs ys : List α) : Option (List α) := if fits (xs.length + ys.length) = true then some (xs ++ ys) else none
theorem q_addL {f : α → D} (h : Im f) {xs ys : List α} (zs : List α) (hz : addM xs ys = some zs) : pr2 .add k (.list (xs.map f)) l (.list (ys.map f)) = some (.flat, .list (zs.map f)) := by
  unfold addM at hz
  split at hz
  · cases hz
    simp only [pr2, fl_im h, Bool.true_and, List.length_map, if_true, List.map_append, *]
  · cases hz
def mulLM (xs : List α) (j : Int) : Option (List α) := if (decide (-(2 ^ 63) ≤ j) && decide (j < 2 ^ 63) && fits (xs.length * j.toNat)) = true then some (List.replicate j.toNat xs).flatten else none
theorem q_mulL {f : α → D} (h : Im f) {xs : List α} {j : Int} (zs : List α) (hz : mulLM xs j = some zs) : pr2 .mul k (.list (xs.map f)) l (.int j) = some (.flat, .list (zs.map f)) := by
  unfold mulLM at hz
  split at hz
  · rename_i hc
    cases hz
    simp only [Bool.and_eq_true] at hc
    obtain ⟨⟨h1, h2⟩, h3⟩ := hc
    simp only [pr2, fl_im h, Bool.true_and, List.length_map, h1, h2, h3, Bool.and_self, if_true, List.map_flatten, List.map_replicate]
  · cases hz
theorem q_lrange2 {a b : Int} (y : List Int) (h : rangeM a b = some y) : pr2 .lrange k (.int a) l (.int b) = some (.flat, .list (y.map eI)) := by
  unfold rangeM at h
  split at h
  · cases h; simp only [pr2, if_true, rangeD_I, *]
  · cases h
theorem q_trange2 {a b : Int} (y : List Int) (h : rangeM a b = some y) : pr2 .trange k (.int a) l (.int b) = some (.imm, .tuple (y.map eI)) := by
  unfold rangeM at h
  split at h
  · cases h; simp only [pr2, if_true, rangeD_I, *]
  · cases h
def eqB [DecidableEq α] (a b : α) : Bool := decide (a = b)
def inB [DecidableEq α] (a : α) (xs : List α) : Bool := decide (a ∈ xs)
@[simp] theorem eqB_iff [DecidableEq α] {a b : α} : eqB a b = true ↔ a = b := by simp [eqB]
@[simp] theorem inB_iff [DecidableEq α] {a : α} {xs : List α} : inB a xs = true ↔ a ∈ xs := by simp [inB]
theorem q_eq [DecidableEq α] {f : α → D} {n : Nat} (hl : Lay f n) (hn : decide (n ≤ 64) = true) (he : Eqv f) {a b : α} : pr2 .eq k (f a) l (f b) = some (.imm, .bool (eqB a b)) := by
  have h1 := hl.plain hn a
  have h2 := hl.plain hn b
  have h3 := he a b
  have key : ∀ d e : D, pr2 .eq k d l e = if plain d && plain e then rB (PyData.eqv d e) else none := fun d e => by
    cases d <;> cases e <;> simp only [pr2]
  rw [key, h1, h2, h3]; rfl
theorem q_ne [DecidableEq α] {f : α → D} {n : Nat} (hl : Lay f n) (hn : decide (n ≤ 64) = true) (he : Eqv f) {a b : α} : pr2 .ne k (f a) l (f b) = some (.imm, .bool (!eqB a b)) := by
  have h1 := hl.plain hn a
  have h2 := hl.plain hn b
  have h3 := he a b
  have key : ∀ d e : D, pr2 .ne k d l e = if plain d && plain e then rB (!PyData.eqv d e) else none := fun d e => by
    cases d <;> cases e <;> simp only [pr2]
  rw [key, h1, h2, h3]; rfl
def eqS (s t : Str) : Option Bool := if (plain (.str s) && plain (.str t)) = true then some (eqB s t) else none
theorem q_eqS {s t : Str} (y : Bool) (h : eqS s t = some y) : pr2 .eq k (.str s) l (.str t) = some (.imm, .bool y) := by
  unfold eqS at h
  split at h
  · rename_i hc
    cases h
    simp only [pr2, hc, if_true, rB]
    rw [show PyData.eqv (.str s) (.str t) = decide (s = t) from eqvS s t]; rfl
  · cases h
def neS (s t : Str) : Option Bool := if (plain (.str s) && plain (.str t)) = true then some (!eqB s t) else none
theorem q_neS {s t : Str} (y : Bool) (h : neS s t = some y) : pr2 .ne k (.str s) l (.str t) = some (.imm, .bool y) := by
  unfold neS at h
  split at h
  · rename_i hc
    cases h
    simp only [pr2, hc, if_true, rB]
    rw [show PyData.eqv (.str s) (.str t) = decide (s = t) from eqvS s t]; rfl
  · cases h
theorem any_map [DecidableEq α] {f : α → D} (he : Eqv f) (a : α) : ∀ xs : List α, ((xs.map f).any fun z => PyData.eqv z (f a)) = decide (a ∈ xs)
  | [] => by simp
  | x :: xs => by
    simp only [List.map_cons, List.any_cons, any_map he a xs, he x a, List.mem_cons]
    by_cases h : a = x
    · subst h; simp
    · have : ¬ x = a := fun e => h e.symm
      simp [h, this]
theorem q_inL [DecidableEq α] {f : α → D} {n : Nat} (hl : Lay f n) (hn : decide (n ≤ 60) = true) (he : Eqv f) {a : α} {xs : List α} : pr2 .isin k (f a) l (.list (xs.map f)) = some (.imm, .bool (inB a xs)) := by
  simp only [decide_eq_true_eq] at hn
  have h1 := hl.plain (by simp; omega) a
  have h2 := (layL hl).plain (by simp; omega) xs
  simp only [pr2, h1, h2, Bool.and_self, if_true, any_map he, rB, inB]
theorem q_inT [DecidableEq α] {f : α → D} {n : Nat} (hl : Lay f n) (hn : decide (n ≤ 60) = true) (he : Eqv f) {a : α} {xs : List α} : pr2 .isin k (f a) l (.tuple (xs.map f)) = some (.imm, .bool (inB a xs)) := by
  simp only [decide_eq_true_eq] at hn
  have h1 := hl.plain (by simp; omega) a
  have h2 := (layT hl).plain (by simp; omega) xs
  simp only [pr2, h1, h2, Bool.and_self, if_true, any_map he, rB, inB]
theorem q_notinL [DecidableEq α] {f : α → D} {n : Nat} (hl : Lay f n) (hn : decide (n ≤ 60) = true) (he : Eqv f) {a : α} {xs : List α} : pr2 .notin k (f a) l (.list (xs.map f)) = some (.imm, .bool (!inB a xs)) := by
  simp only [decide_eq_true_eq] at hn
  have h1 := hl.plain (by simp; omega) a
  have h2 := (layL hl).plain (by simp; omega) xs
  simp only [pr2, h1, h2, Bool.and_self, if_true, any_map he, rB, inB]
theorem q_notinT [DecidableEq α] {f : α → D} {n : Nat} (hl : Lay f n) (hn : decide (n ≤ 60) = true) (he : Eqv f) {a : α} {xs : List α} : pr2 .notin k (f a) l (.tuple (xs.map f)) = some (.imm, .bool (!inB a xs)) := by
  simp only [decide_eq_true_eq] at hn
  have h1 := hl.plain (by simp; omega) a
  have h2 := (layT hl).plain (by simp; omega) xs
  simp only [pr2, h1, h2, Bool.and_self, if_true, any_map he, rB, inB]
theorem atI_map {f : α → D} {xs : List α} {i : Int} : atI (xs.map f) i = (atI xs i).map f := by
  unfold atI
  rw [List.length_map]
  cases ixN xs.length i with
  | none => rfl
  | some j => simp only [Option.bind_some, List.getElem?_map]
theorem part_im {x : Val} {d : D} (h : imm d = true) : part x d = ⟨.imm, .fr, d⟩ := by
  unfold part
  rw [if_pos]
  · rfl
  · unfold sub1; cases x.k <;> simp [h]
theorem q_ixL {f : α → D} (h : Im f) {xs : List α} {i : Int} (y : α) (hy : atI xs i = some y) : pvix [⟨k, p, .list (xs.map f)⟩, ⟨l, q, .int i⟩] = some ⟨.imm, .fr, f y⟩ := by
  simp only [pvix, ixV, atI_map, hy, Option.map_some, part_im (h y)]
theorem q_ixT {f : α → D} (h : Im f) {xs : List α} {i : Int} (y : α) (hy : atI xs i = some y) : pvix [⟨k, p, .tuple (xs.map f)⟩, ⟨l, q, .int i⟩] = some ⟨.imm, .fr, f y⟩ := by
  simp only [pvix, ixV, atI_map, hy, Option.map_some, part_im (h y)]
def ptP : Pv → Pv
  | .sl i => .pt i
  | p => p
theorem part_L {p : Pv} {f : α → D} {ys : List α} : part ⟨.deep, p, d⟩ (.list (ys.map f)) = ⟨.deep, ptP p, .list (ys.map f)⟩ := by
  unfold part
  rw [if_neg]
  · cases p <;> rfl
  · simp [sub1, imm]
theorem pts_nil {x : Val} : ([] : List D).map (part x) = [] := rfl
theorem pts_cons {x v : Val} {d : D} {ds : List D} {vs : List Val} (h : part x d = v) (hs : ds.map (part x) = vs) : (d :: ds).map (part x) = v :: vs := by rw [List.map_cons, h, hs]
theorem q_ixLL {f : α → D} {xs : List (List α)} {i : Int} (y : List α) (hy : atI xs i = some y) : pvix [⟨.deep, p, .list (xs.map (eL f))⟩, ⟨l, q, .int i⟩] = some ⟨.deep, ptP p, eL f y⟩ := by
  simp only [pvix, ixV, atI_map, hy, Option.map_some]
  rw [part_L]
/-- a place of a written tuple -/
theorem ix_tup {k : Kd} {p : Pv} {ds : List D} {i : Int} {d : D} (h : atI ds i = some d) (hi : imm d = true) : ixV ⟨k, p, .tuple ds⟩ ⟨l, q, .int i⟩ = some ⟨.imm, .fr, d⟩ := by
  simp only [ixV, h, Option.map_some, part_im hi]

/-! what is walked -/
theorem parts_im {f : α → D} (h : Im f) {x : Val} {xs : List α} : (xs.map f).map (part x) = xs.map fun a => (⟨.imm, .fr, f a⟩ : Val) := by
  rw [List.map_map]
  apply List.map_congr_left
  intro a _
  exact part_im (h a)
theorem w_L {f : α → D} (h : Im f) {xs : List α} : itsOf .val [⟨k, p, .list (xs.map f)⟩] = some (xs.map fun a => (⟨.imm, .fr, f a⟩ : Val)) := by simp only [itsOf, parts_im h]
theorem w_T {f : α → D} (h : Im f) {xs : List α} : itsOf .val [⟨k, p, .tuple (xs.map f)⟩] = some (xs.map fun a => (⟨.imm, .fr, f a⟩ : Val)) := by simp only [itsOf, parts_im h]
theorem w_LF {f : α → D} (h : Im f) {xs : List α} : itsOf .valF [⟨k, p, .list (xs.map f)⟩] = some (xs.map fun a => (⟨.imm, .fr, f a⟩ : Val)) := by simp only [itsOf, parts_im h]
theorem w_LL {f : α → D} {xs : List (List α)} : itsOf .val [⟨.deep, p, .list (xs.map (eL f))⟩] = some (xs.map fun a => (⟨.deep, .sh, eL f a⟩ : Val)) := by
  simp only [itsOf, List.map_map]
  rfl
theorem w_rng1 {n : Int} (xs : List Int) (h : rangeM 0 n = some xs) : itsOf .rng1 [⟨k, p, .int n⟩] = some (xs.map fun a => (⟨.imm, .fr, eI a⟩ : Val)) := by
  unfold rangeM at h
  split at h
  · cases h; simp only [itsOf, if_true, rangeD_I, List.map_map, *]; first | done | rfl
  · cases h
theorem w_rng2 {a b : Int} (xs : List Int) (h : rangeM a b = some xs) : itsOf .rng2 [⟨k, p, .int a⟩, ⟨l, q, .int b⟩] = some (xs.map fun a => (⟨.imm, .fr, eI a⟩ : Val)) := by
  unfold rangeM at h
  split at h
  · cases h; simp only [itsOf, if_true, rangeD_I, List.map_map, *]; first | done | rfl
  · cases h
def enumI (xs : List α) : List (Int × α) := xs.zipIdx.map fun p => ((p.2 : Int), p.1)
theorem zipIdx_map' {f : α → D} : ∀ (xs : List α) (n : Nat), (xs.map f).zipIdx n = (xs.zipIdx n).map fun p => (f p.1, p.2)
  | [], _ => rfl
  | x :: xs, n => by simp only [List.map_cons, List.zipIdx_cons, zipIdx_map' xs (n + 1)]
theorem w_enumL {f : α → D} (h : Im f) {xs : List α} : itsOf .enum [⟨k, p, .list (xs.map f)⟩] = some ((enumI xs).map fun a => (⟨.imm, .fr, eP2 eI f a⟩ : Val)) := by
  simp only [itsOf, fl_im h, if_true, enumI, zipIdx_map', List.map_map]
  first | done | rfl

/-! lists changed in place -/
def pushM (xs : List α) (x : α) : Option (List α) := if fits (xs.length + 1) = true then some (xs ++ [x]) else none
theorem m_push {f : α → D} {xs : List α} {x : α} (ys : List α) (h : pushM xs x = some ys) : atPath [] (mutD .append [f x]) (.list (xs.map f)) = some (.list (ys.map f), .none) := by
  unfold pushM at h
  split at h
  · cases h; simp only [atPath, mutD, List.length_map, if_true, List.map_append, List.map_cons, List.map_nil, *]
  · cases h
def popM (xs : List α) : Option (α × List α) := (xs[xs.length - 1]?).map fun y => (y, xs.dropLast)
theorem m_pop {f : α → D} {xs : List α} (y : α × List α) (h : popM xs = some y) : atPath [] (mutD .pop []) (.list (xs.map f)) = some (.list (y.2.map f), f y.1) := by
  unfold popM at h
  obtain ⟨z, hz, rfl⟩ := Option.map_eq_some_iff.mp h
  simp only [atPath, mutD, List.length_map, List.getElem?_map, hz, Option.map_some, List.map_dropLast]
def popAtM (xs : List α) (i : Int) : Option (α × List α) := if (decide (-(2 ^ 63) ≤ i) && decide (i < 2 ^ 63)) = true then (seqIndex? i xs.length).bind fun k => (xs[k]?).map fun y => (y, xs.eraseIdx k) else none
theorem map_eraseIdx' {f : α → D} : ∀ (xs : List α) (k : Nat), (xs.eraseIdx k).map f = (xs.map f).eraseIdx k
  | [], _ => rfl
  | x :: xs, 0 => rfl
  | x :: xs, k + 1 => by simp only [List.eraseIdx_cons_succ, List.map_cons, map_eraseIdx' xs k]
theorem m_popAt {f : α → D} {xs : List α} {i : Int} (y : α × List α) (h : popAtM xs i = some y) : atPath [] (mutD .popAt [.int i]) (.list (xs.map f)) = some (.list (y.2.map f), f y.1) := by
  unfold popAtM at h
  split at h
  · rename_i hc
    obtain ⟨j, hj, h⟩ := Option.bind_eq_some_iff.mp h
    obtain ⟨z, hz, rfl⟩ := Option.map_eq_some_iff.mp h
    simp only [atPath, mutD, hc, if_true, List.length_map, hj, Option.bind_some, List.getElem?_map, hz, Option.map_some, map_eraseIdx']
  · cases h
/-- xs[i].append(x) -/
def pushAtM (xs : List (List α)) (i : Int) (x : α) : Option (List (List α)) := (ixN xs.length i).bind fun j => (xs[j]?).bind fun ys => if fits (ys.length + 1) = true then some (xs.set j (ys ++ [x])) else none
theorem m_pushAt {f : α → D} {xs : List (List α)} {i : Int} {x : α} (ys : List (List α)) (h : pushAtM xs i x = some ys) : atPath [.int i] (mutD .append [f x]) (.list (xs.map (eL f))) = some (.list (ys.map (eL f)), .none) := by
  unfold pushAtM at h
  obtain ⟨j, hj, h⟩ := Option.bind_eq_some_iff.mp h
  obtain ⟨z, hz, h⟩ := Option.bind_eq_some_iff.mp h
  split at h
  · rename_i hc
    cases h
    have e : eL f (z ++ [x]) = .list (z.map f ++ [f x]) := by simp
    simp only [atPath, mutD, List.length_map, hj, Option.bind_some, List.getElem?_map, hz, Option.map_some, hc, if_true, List.map_set, e]
  · cases h
theorem m_pushAt_ok {f : α → D} {xs : List (List α)} {i : Int} {x : α} (h : pushAtM xs i x ≠ none) : ((atPath [.int i] (fun d => if isL d then some (d, ()) else none) (.list (xs.map (eL f)))).isSome) = true := by
  obtain ⟨ys, h⟩ := Option.ne_none_iff_exists'.mp h
  unfold pushAtM at h
  obtain ⟨j, hj, h⟩ := Option.bind_eq_some_iff.mp h
  obtain ⟨z, hz, h⟩ := Option.bind_eq_some_iff.mp h
  simp [atPath, hj, hz, isL]
/-- xs[i] = x -/
def putM (xs : List α) (i : Int) (x : α) : Option (List α) := (ixN xs.length i).map fun j => xs.set j x
theorem m_put {f : α → D} {xs : List α} {i : Int} {x : α} (ys : List α) (h : putM xs i x = some ys) : putD (.int i) (f x) (.list (xs.map f)) = some (.list (ys.map f), .none) := by
  unfold putM at h
  obtain ⟨j, hj, rfl⟩ := Option.map_eq_some_iff.mp h
  simp only [putD, List.length_map, hj, Option.map_some, List.map_set]
end
end Iv

set_option maxRecDepth 100000
/-! MrP: the drawing of numbers. -/
namespace Iv.Pk
open PySem L2 Iv
def srcOf (cells : List Int) (left mixed turn : Int) : PyData := .dict [(.str "cells", .list (cells.map PyData.int)), (.str "left", .int left), (.str "mixed", .int mixed), (.str "turn", .int turn)]
section
variable {c : List Int} {l m t : Int} {k : Kd} {p q : Pv}
theorem s1 : PyData.eqv (.str "cells") (.str "left") = false := by decide
theorem s2 : PyData.eqv (.str "mixed") (.str "left") = false := by decide
theorem s3 : PyData.eqv (.str "cells") (.str "mixed") = false := by decide
theorem s4 : PyData.eqv (.str "left") (.str "mixed") = false := by decide
theorem s5 : PyData.eqv (.str "cells") (.str "turn") = false := by decide
theorem s6 : PyData.eqv (.str "left") (.str "turn") = false := by decide
theorem s7 : PyData.eqv (.str "mixed") (.str "turn") = false := by decide
theorem s0 {a : Str} : PyData.eqv (.str a) (.str a) = true := by simp [PyData.eqv]
theorem s8 : PyData.eqv (.str "turn") (.str "left") = false := by decide
theorem s9 : PyData.eqv (.str "turn") (.str "mixed") = false := by decide
theorem s10 : PyData.eqv (.str "left") (.str "cells") = false := by decide
theorem s11 : PyData.eqv (.str "mixed") (.str "cells") = false := by decide
theorem s12 : PyData.eqv (.str "turn") (.str "cells") = false := by decide
theorem ix_left : ixV ⟨.deep, p, srcOf c l m t⟩ ⟨k, q, .str "left"⟩ = some (V0 (.int l)) := by simp [ixV, srcOf, s1, s0, part, sub1, imm]
theorem ix_mixed : ixV ⟨.deep, p, srcOf c l m t⟩ ⟨k, q, .str "mixed"⟩ = some (V0 (.int m)) := by simp [ixV, srcOf, s3, s4, s0, part, sub1, imm]
theorem ix_turn : ixV ⟨.deep, p, srcOf c l m t⟩ ⟨k, q, .str "turn"⟩ = some (V0 (.int t)) := by simp [ixV, srcOf, s5, s6, s7, s0, part, sub1, imm]
theorem ix_cells {i : Nat} : ixV ⟨.deep, .sl i, srcOf c l m t⟩ ⟨k, q, .str "cells"⟩ = some ⟨.deep, .pt i, .list (c.map PyData.int)⟩ := by simp [ixV, srcOf, s0, part, sub1, imm]
theorem put_left {x : Int} : putD (.str "left") (.int x) (srcOf c l m t) = some (srcOf c x m t, .none) := by simp [putD, srcOf, s1, s2, s8, s0, List.findIdx?_cons]
theorem put_mixed {x : Int} : putD (.str "mixed") (.int x) (srcOf c l m t) = some (srcOf c l x t, .none) := by simp [putD, srcOf, s3, s4, s9, s0, List.findIdx?_cons]
theorem put_turn {x : Int} : putD (.str "turn") (.int x) (srcOf c l m t) = some (srcOf c l m x, .none) := by simp [putD, srcOf, s5, s6, s7, s0, List.findIdx?_cons]
theorem at_pop {x : Int} : atPath [.str "cells"] (mutD .pop []) (srcOf (c ++ [x]) l m t) = some (srcOf c l m t, .int x) := by simp [atPath, mutD, srcOf, s0, List.findIdx?_cons]
theorem at_isL : atPath [.str "cells"] (fun d => if isL d = true then some (d, ()) else none) (srcOf c l m t) = some (srcOf c l m t, ()) := by simp [atPath, isL, srcOf, s0, List.findIdx?_cons]
end
abbrev E4 (c : List Int) (l m t many : Int) (a b : Option Sl) : Env := [some ⟨.deep, true, srcOf c l m t⟩, some ⟨.imm, true, .int many⟩, a, b]
abbrev condC : CE := (.andE (.p2 .gt (.var 1) (.con (.int 1))) (.andE (.p2 .lt (.ix (.var 0) (.con (.str (Str.ofString "left")))) (.con (.int 2))) (.p2 .gt (.p1 .len (.ix (.var 0) (.con (.str (Str.ofString "cells"))))) (.con (.int 0)))))
abbrev bodyC : List CS := [.set 0 [] (.con (.str (Str.ofString "left"))) (.mut .pop 0 [.con (.str (Str.ofString "cells"))] [])]
section
variable {T : Tab} {c : List Int} {l m t many : Int} {a b : Option Sl}
theorem ld0 : load 0 (E4 c l m t many a b) = .ok (⟨.deep, .sl 0, srcOf c l m t⟩, E4 c l m t many a b) := by simp [load, E4]
theorem ld1 : load 1 (E4 c l m t many a b) = .ok (⟨.imm, .fr, .int many⟩, E4 c l m t many a b) := by simp [load, E4]
theorem pick_cond : ev T condC [] (E4 c l m t many a b) = .ok (V0 (.bool (decide (1 < many) && (decide (l < 2) && decide (0 < c.length)))), E4 c l m t many a b) := by
  have h : (Int.ofNat c.length > 0) = (0 < c.length) := by simp
  simp only [ev, ld1, ld0, Iv.R.bind, V0, pr2, pr1, rB, rN, Option.map_some, Iv.R.of, ix_left, ix_cells, lk]
  by_cases h1 : 1 < many <;> by_cases h2 : l < 2 <;> simp [h1, h2, V0]
theorem pick_body {x : Int} : execs T bodyC [] (E4 (c ++ [x]) l m t many a b) = .nx (E4 c x m t many a b) := by
  simp only [execs, exec, ev, evs, Iv.R.rs, Iv.R.bind, Iv.R.of, okP, anyD, atPath, List.map_nil, List.map_cons, at_isL, at_pop, put_left, mv, changed, kAll, V0]
  simp [at_isL, at_pop, put_left, changed, mv, okP, sub1, imm, V0, lk]
end
section
variable {T : Tab} {m t many : Int} {a b : Option Sl}
theorem pick_while : ∀ (n : Nat) (c : List Int) (l : Int), c.length < n → ∃ c' l', c'.length ≤ c.length ∧ whlL (fun e => ev T condC [] e) (fun e => execs T bodyC [] e) n (E4 c l m t many a b) = .nx (E4 c' l' m t many a b)
  | 0, _, _, h => by simp at h
  | n + 1, c, l, h => by
    unfold whlL
    rw [pick_cond]
    cases hB : (decide (1 < many) && (decide (l < 2) && decide (0 < c.length))) with
    | false => exact ⟨c, l, Nat.le_refl _, by simp only [V0]⟩
    | true =>
      simp only [Bool.and_eq_true, decide_eq_true_eq] at hB
      have hne : c ≠ [] := by intro e; simp [e] at hB
      obtain ⟨x, d, rfl⟩ : ∃ x d, c = d ++ [x] := ⟨c.getLast hne, c.dropLast, (List.dropLast_concat_getLast hne).symm⟩
      simp only [List.length_append, List.length_singleton] at h ⊢
      obtain ⟨c', l', h1, h2⟩ := pick_while n d x (by omega)
      refine ⟨c', l', by omega, ?_⟩
      simp only [V0]
      rw [pick_body]
      exact h2
abbrev pickC : Def := ⟨2, 4, [true, false], [.whl (.andE (.p2 .gt (.var 1) (.con (.int 1))) (.andE (.p2 .lt (.ix (.var 0) (.con (.str (Str.ofString "left")))) (.con (.int 2))) (.p2 .gt (.p1 .len (.ix (.var 0) (.con (.str (Str.ofString "cells"))))) (.con (.int 0))))) [.set 0 [] (.con (.str (Str.ofString "left"))) (.mut .pop 0 [.con (.str (Str.ofString "cells"))] [])], .asg (.nm 2) (.ix (.var 0) (.con (.str (Str.ofString "left")))), .ite (.orE (.p2 .lt (.var 1) (.con (.int 2))) (.p2 .gt (.var 2) (.con (.int 1)))) [.set 0 [] (.con (.str (Str.ofString "left"))) (.p2 .fdiv (.var 2) (.p2 .max2 (.con (.int 1)) (.var 1))), .ret (.p2 .mod (.p1 .toInt (.var 2)) (.p2 .max2 (.con (.int 1)) (.var 1)))] [], .set 0 [] (.con (.str (Str.ofString "turn"))) (.p2 .add (.ix (.var 0) (.con (.str (Str.ofString "turn")))) (.con (.int 1))), .asg (.nm 3) (.p2 .mod (.p1 .toInt (.p2 .add (.ix (.var 0) (.con (.str (Str.ofString "mixed")))) (.p2 .mul (.ix (.var 0) (.con (.str (Str.ofString "turn")))) (.con (.int 104729))))) (.con (.int 998244353))), .asg (.nm 3) (.p2 .mod (.p1 .toInt (.p2 .add (.p2 .mul (.var 3) (.var 3)) (.p2 .mul (.ix (.var 0) (.con (.str (Str.ofString "turn")))) (.con (.int 17))))) (.con (.int 2147483647))), .set 0 [] (.con (.str (Str.ofString "mixed"))) (.var 3), .ret (.p2 .mod (.p1 .toInt (.p2 .fdiv (.var 3) (.con (.int 16)))) (.var 1))]⟩
theorem max2_pos (many : Int) : (0 : Int) < (if many > 1 then many else 1) := by split <;> omega
abbrev tailC : List CS := pickC.body.tail
theorem ldv2 {c : List Int} {l x : Int} : load 2 (E4 c l m t many (some ⟨.imm, true, .int x⟩) b) = .ok (⟨.imm, .fr, .int x⟩, E4 c l m t many (some ⟨.imm, true, .int x⟩) b) := by simp [load, E4]
theorem ldv3 {c : List Int} {l x : Int} : load 3 (E4 c l m t many a (some ⟨.imm, true, .int x⟩)) = .ok (⟨.imm, .fr, .int x⟩, E4 c l m t many a (some ⟨.imm, true, .int x⟩)) := by simp [load, E4]
theorem st2 {c : List Int} {l x : Int} : store [] 2 ⟨.imm, .fr, .int x⟩ (E4 c l m t many a b) = some (E4 c l m t many (some ⟨.imm, true, .int x⟩) b) := by simp [store, esc, slots, share, E4]
theorem st3 {c : List Int} {l x : Int} : store [] 3 ⟨.imm, .fr, .int x⟩ (E4 c l m t many a b) = some (E4 c l m t many a (some ⟨.imm, true, .int x⟩)) := by simp [store, esc, slots, share, E4]
theorem ev_var {i : Nat} {L : List Nat} {e : Env} : ev T (.var i) L e = load i e := by simp only [ev]
theorem runD_rt {d : Def} {ps : List Sl} {x : Val} {e : Env} {q : Pv} (hl : ps.length = d.np) (h : execs T d.body [] (ps.map some ++ List.replicate (d.ns - d.np) none) = .rt x e) (hp : retP d.io x = some q) : runD T d ps = .ok ({ x with p := q }, maskE d.io (e.take d.np)) := by
  unfold runD
  rw [if_pos hl, h]
  simp only [hp, Iv.R.of, Iv.R.bind]
theorem runD_nx {d : Def} {ps : List Sl} {e : Env} (hl : ps.length = d.np) (h : execs T d.body [] (ps.map some ++ List.replicate (d.ns - d.np) none) = .nx e) : runD T d ps = .ok (V0 .none, maskE d.io (e.take d.np)) := by
  unfold runD
  rw [if_pos hl, h]
theorem q_lt {k k' : Kd} {i j : Int} : pr2 .lt k (.int i) k' (.int j) = some (.imm, .bool (decide (i < j))) := rfl
theorem q_gt {k k' : Kd} {i j : Int} : pr2 .gt k (.int i) k' (.int j) = some (.imm, .bool (decide (j < i))) := rfl
theorem q_add {k k' : Kd} {i j : Int} : pr2 .add k (.int i) k' (.int j) = some (.imm, .int (i + j)) := rfl
theorem q_max {k k' : Kd} {i j : Int} : pr2 .max2 k (.int i) k' (.int j) = some (.imm, .int (if j > i then j else i)) := rfl
theorem q_toInt {k : Kd} {i : Int} : pr1 .toInt k (.int i) = some (.imm, .int i) := rfl
theorem q_div {k k' : Kd} {i j : Int} (h : 0 < j) (h2 : j < 1073741824) : pr2 .fdiv k (.int i) k' (.int j) = some (.imm, .int (i / j)) := by simp [pr2, rN, h, h2]
theorem q_mod {k k' : Kd} {i j : Int} (h : 0 < j) : pr2 .mod k (.int i) k' (.int j) = some (.imm, .int (i % j)) := by simp [pr2, rN, h]
theorem q_mul {k k' : Kd} {i j : Int} (h : mulOk i j = true) : pr2 .mul k (.int i) k' (.int j) = some (.imm, .int (i * j)) := by simp [pr2, rN, h]
/-- source[key] = a number -/
theorem set_num {c c' : List Int} {l l' m' t' x : Int} {key : Str} {e : CE} (hv : ∀ L, ev T e L (E4 c l m t many a b) = .ok (⟨.imm, .fr, .int x⟩, E4 c l m t many a b)) (hp : putD (.str key) (.int x) (srcOf c l m t) = some (srcOf c' l' m' t', .none)) :
    exec T (.set 0 [] (.con (.str key)) e) [] (E4 c l m t many a b) = .nx (E4 c' l' m' t' many a b) := by
  simp only [exec, hv, Iv.R.rs, evs, lk]
  simp [okP, anyD, atPath, kAll, ev, Iv.R.rs, Iv.R.of, mv, changed, hp, V0, E4, sub1, imm]
theorem execs_nx {s : CS} {ss : List CS} {L : List Nat} {e e' : Env} (h : exec T s L e = .nx e') : execs T (s :: ss) L e = execs T ss L e' := by simp only [execs, h]
theorem execs_rt {s : CS} {ss : List CS} {L : List Nat} {e e' : Env} {x : Val} (h : exec T s L e = .rt x e') : execs T (s :: ss) L e = .rt x e' := by simp only [execs, h]
theorem pick_tail1 {c : List Int} {l : Int} (hm : many < 1073741824) (hb : many < 2 ∨ 1 < l) : execs T tailC [] (E4 c l m t many none none) =
    .rt ⟨.imm, .fr, .int (l % (if many > 1 then many else 1))⟩ (E4 c (l / (if many > 1 then many else 1)) m t many (some ⟨.imm, true, .int l⟩) none) := by
  have hmp := max2_pos many
  have hmx : (if many > 1 then many else 1) < (1073741824 : Int) := by split <;> omega
  have s1 : exec T (.asg (.nm 2) (.ix (.var 0) (.con (.str (Str.ofString "left"))))) [] (E4 c l m t many none none) = .nx (E4 c l m t many (some ⟨.imm, true, .int l⟩) none) := by
    simp only [exec, ev, Iv.R.rs, Iv.R.bind, Iv.R.of, ld0, lk, V0, ix_left, Option.map_some, asgT, st2]
  have hmax : ∀ L c', ev T (.p2 .max2 (.con (.int 1)) (.var 1)) L (E4 c' l m t many (some ⟨.imm, true, .int l⟩) none) = .ok (⟨.imm, .fr, .int (if many > 1 then many else 1)⟩, E4 c' l m t many (some ⟨.imm, true, .int l⟩) none) := fun L c' => by
    simp only [ev, Iv.R.bind, ld1, V0, q_max, Option.map_some, Iv.R.of]
  have s2 : exec T (.set 0 [] (.con (.str (Str.ofString "left"))) (.p2 .fdiv (.var 2) (.p2 .max2 (.con (.int 1)) (.var 1)))) [] (E4 c l m t many (some ⟨.imm, true, .int l⟩) none) = .nx (E4 c (l / (if many > 1 then many else 1)) m t many (some ⟨.imm, true, .int l⟩) none) :=
    set_num (fun L => by
      rw [ev, ev_var, ldv2]
      simp only [Iv.R.bind]
      rw [hmax]
      simp only [q_div hmp hmx, Option.map_some, Iv.R.of]) put_left
  have s3 : exec T (.ret (.p2 .mod (.p1 .toInt (.var 2)) (.p2 .max2 (.con (.int 1)) (.var 1)))) [] (E4 c (l / (if many > 1 then many else 1)) m t many (some ⟨.imm, true, .int l⟩) none) = .rt ⟨.imm, .fr, .int (l % (if many > 1 then many else 1))⟩ (E4 c (l / (if many > 1 then many else 1)) m t many (some ⟨.imm, true, .int l⟩) none) := by
    simp only [exec, ev, Iv.R.rs, Iv.R.bind, Iv.R.of, ldv2, ld1, q_toInt, q_max, V0, Option.map_some, q_mod hmp]
  have hor : ev T (.orE (.p2 .lt (.var 1) (.con (.int 2))) (.p2 .gt (.var 2) (.con (.int 1)))) [] (E4 c l m t many (some ⟨.imm, true, .int l⟩) none) = .ok (V0 (.bool true), E4 c l m t many (some ⟨.imm, true, .int l⟩) none) := by
    simp only [ev, Iv.R.bind, ld1, ldv2, V0, q_lt, q_gt, Option.map_some, Iv.R.of]
    by_cases h1 : many < 2
    · simp only [h1, decide_true, V0]
    · have h2 : 1 < l := by rcases hb with h | h; exact (h1 h).elim; exact h
      simp only [h1, decide_false, h2, decide_true]
  show execs T (_ :: _ :: _) [] _ = _
  rw [execs_nx s1]
  refine execs_rt ?_
  rw [exec, hor]
  simp only [Iv.R.rs, V0]
  rw [execs_nx s2, execs_rt s3]

theorem pick_tail2 {c : List Int} {l : Int} (hb : ¬ (many < 2 ∨ 1 < l)) : ∃ i m', (0 ≤ i ∧ i < many) ∧ ∃ e2 e3, execs T tailC [] (E4 c l m t many none none) = .rt ⟨.imm, .fr, .int i⟩ (E4 c l m' (t + 1) many e2 e3) := by
  have hm2 : ¬ many < 2 := fun h => hb (.inl h)
  have hl2 : ¬ 1 < l := fun h => hb (.inr h)
  have hmp : 0 < many := by omega
  have s1 : exec T (.asg (.nm 2) (.ix (.var 0) (.con (.str (Str.ofString "left"))))) [] (E4 c l m t many none none) = .nx (E4 c l m t many (some ⟨.imm, true, .int l⟩) none) := by
    simp only [exec, ev, Iv.R.rs, Iv.R.bind, Iv.R.of, ld0, lk, V0, ix_left, Option.map_some, asgT, st2]
  have hor : ev T (.orE (.p2 .lt (.var 1) (.con (.int 2))) (.p2 .gt (.var 2) (.con (.int 1)))) [] (E4 c l m t many (some ⟨.imm, true, .int l⟩) none) = .ok (V0 (.bool false), E4 c l m t many (some ⟨.imm, true, .int l⟩) none) := by
    simp only [ev, Iv.R.bind, ld1, ldv2, V0, q_lt, q_gt, Option.map_some, Iv.R.of, hm2, hl2, decide_false]
  have s3 : exec T (.set 0 [] (.con (.str (Str.ofString "turn"))) (.p2 .add (.ix (.var 0) (.con (.str (Str.ofString "turn")))) (.con (.int 1)))) [] (E4 c l m t many (some ⟨.imm, true, .int l⟩) none) = .nx (E4 c l m (t + 1) many (some ⟨.imm, true, .int l⟩) none) :=
    set_num (fun L => by simp only [ev, Iv.R.bind, Iv.R.of, ld0, lk, V0, ix_turn, q_add, Option.map_some]) put_turn
  have k1 : mulOk (t + 1) 104729 = true := by simp [mulOk]
  have k2 : mulOk (t + 1) 17 = true := by simp [mulOk]
  generalize hx : (m + (t + 1) * 104729) % 998244353 = x
  have hx2 : 0 ≤ x ∧ x < 998244353 := by rw [← hx]; exact ⟨Int.emod_nonneg _ (by decide), Int.emod_lt_of_pos _ (by decide)⟩
  have k3 : mulOk x x = true := by
    simp only [mulOk, Bool.or_eq_true, Bool.and_eq_true, decide_eq_true_eq]
    left; constructor <;> omega
  generalize hy : (x * x + (t + 1) * 17) % 2147483647 = y
  have s4 : exec T (.asg (.nm 3) (.p2 .mod (.p1 .toInt (.p2 .add (.ix (.var 0) (.con (.str (Str.ofString "mixed")))) (.p2 .mul (.ix (.var 0) (.con (.str (Str.ofString "turn")))) (.con (.int 104729))))) (.con (.int 998244353)))) [] (E4 c l m (t + 1) many (some ⟨.imm, true, .int l⟩) none) =
      .nx (E4 c l m (t + 1) many (some ⟨.imm, true, .int l⟩) (some ⟨.imm, true, .int x⟩)) := by
    simp only [exec, ev, Iv.R.rs, Iv.R.bind, Iv.R.of, ld0, lk, V0, ix_mixed, ix_turn, q_mul k1, q_add, q_toInt, q_mod (show (0 : Int) < 998244353 by decide), Option.map_some, asgT, hx, st3]
  have s5 : exec T (.asg (.nm 3) (.p2 .mod (.p1 .toInt (.p2 .add (.p2 .mul (.var 3) (.var 3)) (.p2 .mul (.ix (.var 0) (.con (.str (Str.ofString "turn")))) (.con (.int 17))))) (.con (.int 2147483647)))) [] (E4 c l m (t + 1) many (some ⟨.imm, true, .int l⟩) (some ⟨.imm, true, .int x⟩)) =
      .nx (E4 c l m (t + 1) many (some ⟨.imm, true, .int l⟩) (some ⟨.imm, true, .int y⟩)) := by
    simp only [exec, ev, Iv.R.rs, Iv.R.bind, Iv.R.of, ld0, ldv3, lk, V0, ix_turn, q_mul k2, q_mul k3, q_add, q_toInt, q_mod (show (0 : Int) < 2147483647 by decide), Option.map_some, asgT, hy, st3]
  have s6 : exec T (.set 0 [] (.con (.str (Str.ofString "mixed"))) (.var 3)) [] (E4 c l m (t + 1) many (some ⟨.imm, true, .int l⟩) (some ⟨.imm, true, .int y⟩)) = .nx (E4 c l y (t + 1) many (some ⟨.imm, true, .int l⟩) (some ⟨.imm, true, .int y⟩)) :=
    set_num (fun L => by rw [ev_var, ldv3]) put_mixed
  have s7 : exec T (.ret (.p2 .mod (.p1 .toInt (.p2 .fdiv (.var 3) (.con (.int 16)))) (.var 1))) [] (E4 c l y (t + 1) many (some ⟨.imm, true, .int l⟩) (some ⟨.imm, true, .int y⟩)) = .rt ⟨.imm, .fr, .int (y / 16 % many)⟩ (E4 c l y (t + 1) many (some ⟨.imm, true, .int l⟩) (some ⟨.imm, true, .int y⟩)) := by
    simp only [exec, ev, Iv.R.rs, Iv.R.bind, Iv.R.of, ldv3, ld1, lk, V0, q_toInt, q_div (show (0 : Int) < 16 by decide) (show (16 : Int) < 1073741824 by decide), q_mod hmp, Option.map_some]
  refine ⟨y / 16 % many, y, ⟨Int.emod_nonneg _ (by omega), Int.emod_lt_of_pos _ hmp⟩, some ⟨.imm, true, .int l⟩, some ⟨.imm, true, .int y⟩, ?_⟩
  show execs T (_ :: _ :: _) [] _ = _
  rw [execs_nx s1]
  have s2 : exec T (.ite (.orE (.p2 .lt (.var 1) (.con (.int 2))) (.p2 .gt (.var 2) (.con (.int 1)))) [.set 0 [] (.con (.str (Str.ofString "left"))) (.p2 .fdiv (.var 2) (.p2 .max2 (.con (.int 1)) (.var 1))), .ret (.p2 .mod (.p1 .toInt (.var 2)) (.p2 .max2 (.con (.int 1)) (.var 1)))] []) [] (E4 c l m t many (some ⟨.imm, true, .int l⟩) none) = .nx (E4 c l m t many (some ⟨.imm, true, .int l⟩) none) := by
    rw [exec, hor]
    simp only [Iv.R.rs, V0, execs]
  rw [execs_nx s2, execs_nx s3, execs_nx s4, execs_nx s5, execs_nx s6, execs_rt s7]
/-- a number is drawn: the source stays a source -/
theorem pick_ok {c : List Int} {l : Int} (hf : c.length < T.fuel) (hm : many < 1073741824) : ∃ i c' l' m' t', c'.length ≤ c.length ∧ (0 ≤ i ∧ i < (if many > 1 then many else 1)) ∧
    runD T pickC [⟨.deep, true, srcOf c l m t⟩, ⟨.imm, true, .int many⟩] = .ok (⟨.imm, .fr, .int i⟩, [some ⟨.deep, true, srcOf c' l' m' t'⟩, none]) := by
  obtain ⟨c1, l1, hc, hw⟩ := pick_while (T := T) (m := m) (t := t) (many := many) (a := none) (b := none) T.fuel c l hf
  have hmp := max2_pos many
  have e0 : execs T pickC.body [] (E4 c l m t many none none) = execs T tailC [] (E4 c1 l1 m t many none none) := by
    show execs T (.whl condC bodyC :: tailC) [] _ = _
    refine execs_nx ?_
    rw [exec]; exact hw
  have fin : ∀ {i : Int} {c' : List Int} {l' m' t' : Int} {e2 e3 : Option Sl}, execs T tailC [] (E4 c1 l1 m t many none none) = .rt ⟨.imm, .fr, .int i⟩ (E4 c' l' m' t' many e2 e3) →
      runD T pickC [⟨.deep, true, srcOf c l m t⟩, ⟨.imm, true, .int many⟩] = .ok (⟨.imm, .fr, .int i⟩, [some ⟨.deep, true, srcOf c' l' m' t'⟩, none]) := fun {i c' l' m' t' e2 e3} h => by
    have e : execs T pickC.body [] ([(⟨.deep, true, srcOf c l m t⟩ : Sl), ⟨.imm, true, .int many⟩].map some ++ List.replicate (4 - 2) none) = .rt ⟨.imm, .fr, .int i⟩ (E4 c' l' m' t' many e2 e3) := by
      rw [← h, ← e0]; rfl
    exact runD_rt rfl e rfl
  by_cases hb : many < 2 ∨ 1 < l1
  · exact ⟨_, _, _, _, _, hc, ⟨Int.emod_nonneg _ (by omega), Int.emod_lt_of_pos _ hmp⟩, fin (pick_tail1 hm hb)⟩
  · obtain ⟨i, m', hi, e2, e3, h⟩ := pick_tail2 (T := T) (m := m) (t := t) (c := c1) hb
    refine ⟨i, _, _, _, _, hc, ⟨hi.1, ?_⟩, fin h⟩
    have : many > 1 := by omega
    rw [if_pos this]; exact hi.2
end
end Iv.Pk

namespace Iv
open PySem L2
abbrev FUEL : Nat := 10000
def pickT : Tab := ⟨fun _ => [], fun _ _ => .no, FUEL⟩
/-- _law_pick: a number and the source behind it -/
def pickM (s : D) (n : Int) : Option (Int × D) := match runD pickT Pk.pickC [⟨.deep, true, s⟩, ⟨.imm, true, .int n⟩] with
  | .ok (⟨.imm, .fr, .int i⟩, [some ⟨.deep, true, d⟩, none]) => some (i, d)
  | _ => none
theorem pick_T {T : Tab} (h : T.fuel = FUEL) (ps : List Sl) : runD T Pk.pickC ps = runD pickT Pk.pickC ps := by
  have h2 : pickT.fuel = FUEL := rfl
  simp only [runD, Pk.pickC, execs, exec, ev, evs, h, h2]
theorem r_pick {defs : Str → Option Def} {k : Nat} (hd : defs "_law_pick" = some Pk.pickC) (hk : 1 ≤ k) (s : D) (n : Int) : CJ (tab defs FUEL k) "_law_pick" [⟨.deep, true, s⟩, ⟨.imm, true, .int n⟩] (pickM s n) (fun b => ⟨.imm, .fr, .int b.1⟩) (fun b => [some ⟨.deep, true, b.2⟩, none]) := fun b hb => by
  obtain ⟨k, rfl⟩ : ∃ j, k = j + 1 := ⟨k - 1, by omega⟩
  have e : (tab defs FUEL (k + 1)).fn "_law_pick" [⟨.deep, true, s⟩, ⟨.imm, true, .int n⟩] = runD (tab defs FUEL k) Pk.pickC [⟨.deep, true, s⟩, ⟨.imm, true, .int n⟩] := by
    show (match defs "_law_pick" with | some d => runD ⟨ioOf defs, fnK defs FUEL k, FUEL⟩ d [⟨.deep, true, s⟩, ⟨.imm, true, .int n⟩] | none => .no) = _
    rw [hd]; rfl
  rw [e, pick_T rfl]
  unfold pickM at hb
  split at hb
  · rename_i h
    cases hb
    exact h
  · cases hb
def IsSrc (s : D) : Prop := ∃ c l m t, s = Pk.srcOf c l m t ∧ c.length ≤ 63
theorem pick_ok {s : D} {n : Int} (h : IsSrc s) (hn : n < 1073741824) : ∃ i s', pickM s n = some (i, s') ∧ 0 ≤ i ∧ i < max n 1 ∧ IsSrc s' := by
  obtain ⟨c, l, m, t, rfl, hc⟩ := h
  obtain ⟨i, c', l', m', t', h1, ⟨h2, h3⟩, h4⟩ := Pk.pick_ok (T := pickT) (c := c) (l := l) (m := m) (t := t) (many := n) (by show c.length < 10000; omega) hn
  refine ⟨i, _, by unfold pickM; rw [h4], h2, ?_, c', l', m', t', rfl, by omega⟩
  split at h3 <;> omega
end Iv

set_option maxRecDepth 100000
/-! MrE: short rules for printed proofs. -/
namespace Iv
open PySem L2
section
variable {T : Tab} {sp : Sp} {L L' : List Nat} {δ γ α σ : Type} {val : δ → Val} {sp' : δ → Sp}
theorem fp1_t {f : Pr} {x : Val} {k : Kd} {r : D} {d : δ} (h : pr1 f x.k x.d = some (k, r)) (hv : val d = ⟨k, .fr, r⟩) (hs : sp' d = sp) : FP (pv1 f) val sp' [x] sp (some d) := fp_t (by simp only [pv1, h, Option.map_some, hv]) hs
theorem fp1_p {f : Pr} {x : Val} {k : Kd} {enc : δ → D} {m : Option δ} (h : ∀ y, m = some y → pr1 f x.k x.d = some (k, enc y)) (hv : ∀ y, val y = ⟨k, .fr, enc y⟩) (hs : ∀ y, sp' y = sp) : FP (pv1 f) val sp' [x] sp m := fp_p (fun y hy => by simp only [pv1, h y hy, Option.map_some, hv]) hs
theorem fp1_m {f : Pr} {x : Val} {k : Kd} {enc : γ → D} {m : Option γ} {mk : γ → δ} (h : ∀ y, m = some y → pr1 f x.k x.d = some (k, enc y)) (hv : ∀ y, val (mk y) = ⟨k, .fr, enc y⟩) (hs : ∀ y, sp' (mk y) = sp) : FP (pv1 f) val sp' [x] sp (m.map mk) := fp_m (fun y hy => by simp only [pv1, h y hy, Option.map_some, hv]) hs
theorem fp2_t {f : Pr} {x y : Val} {k : Kd} {r : D} {d : δ} (h : pr2 f x.k x.d y.k y.d = some (k, r)) (hv : val d = ⟨k, .fr, r⟩) (hs : sp' d = sp) : FP (pv2 f) val sp' [x, y] sp (some d) := fp_t (by simp only [pv2, h, Option.map_some, hv]) hs
theorem fp2_p {f : Pr} {x z : Val} {k : Kd} {enc : δ → D} {m : Option δ} (h : ∀ y, m = some y → pr2 f x.k x.d z.k z.d = some (k, enc y)) (hv : ∀ y, val y = ⟨k, .fr, enc y⟩) (hs : ∀ y, sp' y = sp) : FP (pv2 f) val sp' [x, z] sp m := fp_p (fun y hy => by simp only [pv2, h y hy, Option.map_some, hv]) hs
theorem fp2_m {f : Pr} {x z : Val} {k : Kd} {enc : γ → D} {m : Option γ} {mk : γ → δ} (h : ∀ y, m = some y → pr2 f x.k x.d z.k z.d = some (k, enc y)) (hv : ∀ y, val (mk y) = ⟨k, .fr, enc y⟩) (hs : ∀ y, sp' (mk y) = sp) : FP (pv2 f) val sp' [x, z] sp (m.map mk) := fp_m (fun y hy => by simp only [pv2, h y hy, Option.map_some, hv]) hs
theorem fix_t {x y r : Val} {d : δ} (h : ixV x y = some r) (hv : val d = r) (hs : sp' d = sp) : FP pvix val sp' [x, y] sp (some d) := fp_t (by simp only [pvix, h, hv]) hs
theorem fix_p {x z : Val} {w : δ → Val} {m : Option δ} (h : ∀ y, m = some y → pvix [x, z] = some (w y)) (hv : ∀ y, val y = w y) (hs : ∀ y, sp' y = sp) : FP pvix val sp' [x, z] sp m := fp_p (fun y hy => by rw [h y hy, hv]) hs
theorem fix_m {x z : Val} {w : γ → Val} {m : Option γ} {mk : γ → δ} (h : ∀ y, m = some y → pvix [x, z] = some (w y)) (hv : ∀ y, val (mk y) = w y) (hs : ∀ y, sp' (mk y) = sp) : FP pvix val sp' [x, z] sp (m.map mk) := fp_m (fun y hy => by rw [h y hy, hv]) hs
theorem ej_map {e : CE} {m : Option γ} {v : γ → Val} {sp1 : γ → Sp} {mk : γ → δ} (h : EJ T e L sp m v sp1) (hv : ∀ b, val (mk b) = v b) (hs : ∀ b, sp' (mk b) = sp1 b) : EJ T e L sp (m.map mk) val sp' := fun env f b hb => by
  obtain ⟨c, hc, rfl⟩ := Option.map_eq_some_iff.mp hb
  obtain ⟨env', h1, f1⟩ := h env f c hc
  exact ⟨env', by rw [h1, hv], by rw [hs]; exact f1⟩
theorem fmut_p {mt : Mt} {r : Nat} {ks : List D} {vs : List Val} {m : Option δ} (h : ∀ y, m = some y → MutOk L mt r ks vs sp (val y) (sp' y)) : FMut L mt r ks val sp' vs sp m := h
theorem fmut_m {mt : Mt} {r : Nat} {ks : List D} {vs : List Val} {m : Option γ} {mk : γ → δ} (h : ∀ y, m = some y → MutOk L mt r ks vs sp (val (mk y)) (sp' (mk y))) : FMut L mt r ks val sp' vs sp (m.map mk) := fun b hb => by
  obtain ⟨c, hc, rfl⟩ := Option.map_eq_some_iff.mp hb
  exact h c hc
theorem put_m {r : Nat} {kd : Kd} {x k : Val} {m : Option γ} {mk : γ → σ} {sps : σ → Sp} (h : ∀ y, m = some y → PutOk L r kd x k sp (sps (mk y))) : ∀ s, m.map mk = some s → PutOk L r kd x k sp (sps s) := fun b hb => by
  obtain ⟨c, hc, rfl⟩ := Option.map_eq_some_iff.mp hb
  exact h c hc
theorem v_im {kd : Kd} {ret : D} (h : imm ret = true) : (if sub1 kd ret = .imm then V0 ret else ⟨.deep, .fr, ret⟩) = (⟨.imm, .fr, ret⟩ : Val) := by
  have : sub1 kd ret = .imm := by cases kd <;> simp [sub1, h]
  rw [if_pos this]; rfl
/-! a last step whose result is handed on as it is -/
theorem bind_id {α : Type} (m : Option α) : (m.bind fun b => some b) = m := by cases m <;> rfl
theorem aj_jid {Fin : List Val → Sp → Option δ → Prop} {io : List Bool} {a : CE} {as : List CE} {pre : List Val} {m1 : Option δ} {v : δ → Val} {sp1 : δ → Sp} (ha : EJ T a L sp m1 v sp1) (h : ∀ b, AJ T Fin io.tail as (lkIo (io.headD false) (v b) L) (sp1 b) (pre ++ [v b]) (some b)) : AJ T Fin io (a :: as) L sp pre m1 := by
  have := aj_j ha h
  rwa [bind_id] at this
theorem bj_jid {s : CS} {ss : List CS} {m1 : Option δ} {sp2 : δ → Sp} {sp' : δ → Sp} (h : XJ T s L sp m1 sp2) (hs : ∀ c, BJ T ss L (sp2 c) (some c) sp') : BJ T (s :: ss) L sp m1 sp' := by
  have := bj_j h hs
  rwa [bind_id] at this
theorem rj_jid {io : List Bool} {rv : δ → Val} {rs : δ → Sp} {s : CS} {ss : List CS} {m1 : Option δ} {sp2 : δ → Sp} (h : XJ T s L sp m1 sp2) (hs : ∀ c, RJ T io ss L (sp2 c) (some c) rv rs) : RJ T io (s :: ss) L sp m1 rv rs := by
  have := rj_j h hs
  rwa [bind_id] at this
/-! leaves of what is walked -/
def FIt (ik : Ik) (L : List Nat) (V : α → Val) (xs : δ → List α) (L' : List Nat) (sp' : δ → Sp) (vs : List Val) (s : Sp) (m : Option δ) : Prop := ∀ b : δ, m = some b → (kAll vs || vs.all (fun x => decide (x.k ≠ .deep))) = true ∧ itsOf ik vs = some ((xs b).map V) ∧ lks vs L = L' ∧ sp' b = s
theorem ijl_t {ik : Ik} {V : α → Val} {xs : δ → List α} {vs : List Val} {b : δ} (h1 : (kAll vs || vs.all (fun x => decide (x.k ≠ .deep))) = true) (hl : lks vs L = L') (h2 : itsOf ik vs = some ((xs b).map V)) (hs : sp' b = sp) (_ : True) : ∀ c : δ, some b = some c → (kAll vs || vs.all (fun x => decide (x.k ≠ .deep))) = true ∧ itsOf ik vs = some ((xs c).map V) ∧ lks vs L = L' ∧ sp' c = sp := fun c hc => by
  cases hc; exact ⟨h1, h2, hl, hs⟩
theorem ijl_p {ik : Ik} {V : α → Val} {vs : List Val} {m : Option (List α)} {sps : List α → Sp} (h2 : ∀ xs, m = some xs → itsOf ik vs = some (xs.map V)) (h1 : (kAll vs || vs.all (fun x => decide (x.k ≠ .deep))) = true) (hl : lks vs L = L') (hs : ∀ b, sps b = sp) : ∀ c, m = some c → (kAll vs || vs.all (fun x => decide (x.k ≠ .deep))) = true ∧ itsOf ik vs = some (c.map V) ∧ lks vs L = L' ∧ sps c = sp := fun c hc => ⟨h1, h2 c hc, hl, hs c⟩
theorem ijl_m {ik : Ik} {V : α → Val} {vs : List Val} {m : Option (List α)} {mk : List α → δ} {xs : δ → List α} (h2 : ∀ xs, m = some xs → itsOf ik vs = some (xs.map V)) (h1 : (kAll vs || vs.all (fun x => decide (x.k ≠ .deep))) = true) (hl : lks vs L = L') (hx : ∀ b, xs (mk b) = b) (hs : ∀ b, sp' (mk b) = sp) : ∀ c, m.map mk = some c → (kAll vs || vs.all (fun x => decide (x.k ≠ .deep))) = true ∧ itsOf ik vs = some ((xs c).map V) ∧ lks vs L = L' ∧ sp' c = sp := fun c hc => by
  obtain ⟨b, hb, rfl⟩ := Option.map_eq_some_iff.mp hc
  exact ⟨h1, by rw [hx]; exact h2 b hb, hl, hs b⟩
theorem ijl_e {ik : Ik} {V : α → Val} {xs : δ → List α} {vs : List Val} {b : δ} (h1 : (kAll vs || vs.all (fun x => decide (x.k ≠ .deep))) = false) (hd : ((slots vs).all fun i => decide (i ∉ L)) = true) (hl : lks (vs.map share) L = L') (h2 : itsOf ik (vs.map share) = some ((xs b).map V)) (hs : sp' b = (slots vs).foldl (fun e i => disS i e) sp) (_ : True) : ∀ c : δ, some b = some c → (kAll vs || vs.all (fun x => decide (x.k ≠ .deep))) = false ∧ ((slots vs).all fun i => decide (i ∉ L)) = true ∧ itsOf ik (vs.map share) = some ((xs c).map V) ∧ lks (vs.map share) L = L' ∧ sp' c = (slots vs).foldl (fun e i => disS i e) sp := fun c hc => by
  cases hc; exact ⟨h1, hd, h2, hl, hs⟩
/-- a told list with lists in it, shared from now on -/
theorem ij_e {ik : Ik} {it : List CE} {vs : List Val} {V : α → Val} {xs : List α} {sp1 : Sp} (hik : ∀ L vs env, escK ik L vs env = escIts L vs env) (h : AT T it sp vs) (he : (kAll vs || vs.all (fun x => decide (x.k ≠ .deep))) = false) (hd : ((slots vs).all fun i => decide (i ∉ L)) = true) (hi : itsOf ik (vs.map share) = some (xs.map V)) (hl : lks (vs.map share) L = L') (hs : (slots vs).foldl (fun e i => disS i e) sp = sp1) :
    IJ T ik it L sp (some ()) V (fun _ => xs) L' (fun _ => sp1) := fun env f b hb =>
  ⟨vs, env, vs.map share, (slots vs).foldl (fun e i => disown i e) env, h [] L env f, by rw [hik]; unfold escIts; rw [if_neg (by rw [he]; simp)]; unfold esc; rw [if_pos hd], hi, hl, by rw [← hs]; exact f.diss _⟩
/-- a list out of another one, without lists in it -/
theorem ij_f {it : List CE} {p : Pv} {d : D} {V : α → Val} {xs : List α} (h : AT T it sp [⟨.deep, p, d⟩]) (hf : flatD d = true) (hi : itsOf .valF [⟨.flat, p, d⟩] = some (xs.map V)) (hl : lks [⟨.flat, p, d⟩] L = L') : IJ T .valF it L sp (some ()) V (fun _ => xs) L' (fun _ => sp) := fun env f b hb =>
  ⟨[⟨.deep, p, d⟩], env, [⟨.flat, p, d⟩], env, h [] L env f, by unfold escK; rw [if_pos (by simpa [fl] using hf)]; rfl, hi, hl, f⟩
theorem ij_jf {it : List CE} {V : α → Val} {m : Option δ} {xs : δ → List α} (h : AJ T (fun vs s m => ∀ b : δ, m = some b → ∃ p d, vs = [⟨.deep, p, d⟩] ∧ flatD d = true ∧ itsOf .valF [⟨.flat, p, d⟩] = some ((xs b).map V) ∧ lks [⟨.flat, p, d⟩] L = L' ∧ sp' b = s) [] it L sp [] m) : IJ T .valF it L sp m V xs L' sp' := fun env f b hb => by
  obtain ⟨vs, env', spf, h1, h2, h3⟩ := h env f b hb
  obtain ⟨p, d, h4, h5, h6, h7, h8⟩ := h3 b rfl
  simp only [List.nil_append] at h4
  subst h4
  exact ⟨[⟨.deep, p, d⟩], env', [⟨.flat, p, d⟩], env', h1, by unfold escK; rw [if_pos (by simpa [fl] using h5)]; rfl, h6, h7, by rw [h8]; exact h2⟩
theorem ijl_f {V : α → Val} {xs : δ → List α} {p : Pv} {d : D} {b : δ} (hf : flatD d = true) (hl : lks [⟨.flat, p, d⟩] L = L') (h2 : itsOf .valF [⟨.flat, p, d⟩] = some ((xs b).map V)) (hs : sp' b = sp) (_ : True) : ∀ c : δ, some b = some c → ∃ p' d', [⟨.deep, p, d⟩] = [(⟨.deep, p', d'⟩ : Val)] ∧ flatD d' = true ∧ itsOf .valF [⟨.flat, p', d'⟩] = some ((xs c).map V) ∧ lks [⟨.flat, p', d'⟩] L = L' ∧ sp' c = sp := fun c hc => by
  cases hc; exact ⟨p, d, rfl, hf, h2, hl, hs⟩
theorem flat_L {f : α → D} (h : Im f) {xs : List α} : flatD (.list (xs.map f)) = true := immL_map h xs
end
end Iv

set_option maxRecDepth 100000
/-! MrF: mirrors of keys, slices, tuples put together, index, augmented assignment, zip. -/
namespace Iv
open PySem L2
section
variable {α β γ : Type} {k l : Kd} {p q : Pv}
/-! prims -/
theorem q_addT {f : α → D} (h : Im f) {xs ys : List α} (zs : List α) (hz : addM xs ys = some zs) : pr2 .addT k (.tuple (xs.map f)) l (.tuple (ys.map f)) = some (.imm, .tuple (zs.map f)) := by
  unfold addM at hz
  split at hz
  · rename_i hf
    cases hz
    simp only [pr2, fl_imT h, List.length_map, hf, Bool.and_self, if_true, List.map_append, rI]
  · cases hz
def mulTM (xs : List α) (j : Int) : Option (List α) := if (decide (1 ≤ j) && decide (j ≤ 1000) && decide (1 ≤ xs.length) && decide (xs.length ≤ 1000)) = true then some (List.replicate j.toNat xs).flatten else none
theorem map_rep {f : α → D} (xs : List α) : ∀ n : Nat, (List.replicate n (xs.map f)).flatten = (List.replicate n xs).flatten.map f
  | 0 => rfl
  | n + 1 => by simp only [List.replicate_succ, List.flatten_cons, List.map_append, map_rep xs n]
theorem q_mulT {f : α → D} (h : Im f) {xs : List α} {j : Int} (zs : List α) (hz : mulTM xs j = some zs) : pr2 .mulT k (.tuple (xs.map f)) l (.int j) = some (.imm, .tuple (zs.map f)) := by
  unfold mulTM at hz
  split at hz
  · rename_i hf
    cases hz
    simp only [Bool.and_eq_true] at hf
    simp only [pr2, fl_imT h, List.length_map, hf.1.1.1, hf.1.1.2, hf.1.2, hf.2, Bool.and_self, if_true, rI, map_rep]
  · cases hz
theorem q_mulT1 {f : α → D} (h : Im f) {x : α} {j : Int} (zs : List α) (hz : mulTM [x] j = some zs) : pr2 .mulT k (.tuple [f x]) l (.int j) = some (.imm, .tuple (zs.map f)) := q_mulT (xs := [x]) h zs hz
def toM (xs : List α) (j : Int) : Option (List α) := if fits xs.length = true then some (toI xs j) else none
def fromM (xs : List α) (j : Int) : Option (List α) := if fits xs.length = true then some (fromI xs j) else none
theorem toI_map {f : α → D} (xs : List α) (j : Int) : toI (xs.map f) j = (toI xs j).map f := by unfold toI; rw [List.length_map, List.map_take]
theorem fromI_map {f : α → D} (xs : List α) (j : Int) : fromI (xs.map f) j = (fromI xs j).map f := by unfold fromI; rw [List.length_map, List.map_drop]
theorem q_toL {f : α → D} (h : Im f) {xs : List α} {j : Int} (ys : List α) (hy : toM xs j = some ys) : pr2 .slTo k (.list (xs.map f)) l (.int j) = some (.flat, .list (ys.map f)) := by
  unfold toM at hy
  split at hy
  · rename_i hf; cases hy; simp only [pr2, fl_im h, List.length_map, hf, Bool.and_self, if_true, toI_map]
  · cases hy
theorem q_toT {f : α → D} (h : Im f) {xs : List α} {j : Int} (ys : List α) (hy : toM xs j = some ys) : pr2 .slTo k (.tuple (xs.map f)) l (.int j) = some (.imm, .tuple (ys.map f)) := by
  unfold toM at hy
  split at hy
  · rename_i hf; cases hy; simp only [pr2, fl_imT h, List.length_map, hf, Bool.and_self, if_true, toI_map, rI]
  · cases hy
theorem q_fromL {f : α → D} (h : Im f) {xs : List α} {j : Int} (ys : List α) (hy : fromM xs j = some ys) : pr2 .slFrom k (.list (xs.map f)) l (.int j) = some (.flat, .list (ys.map f)) := by
  unfold fromM at hy
  split at hy
  · rename_i hf; cases hy; simp only [pr2, fl_im h, List.length_map, hf, Bool.and_self, if_true, fromI_map]
  · cases hy
theorem q_fromT {f : α → D} (h : Im f) {xs : List α} {j : Int} (ys : List α) (hy : fromM xs j = some ys) : pr2 .slFrom k (.tuple (xs.map f)) l (.int j) = some (.imm, .tuple (ys.map f)) := by
  unfold fromM at hy
  split at hy
  · rename_i hf; cases hy; simp only [pr2, fl_imT h, List.length_map, hf, Bool.and_self, if_true, fromI_map, rI]
  · cases hy
theorem q_addI {a b : Int} : pr2 .addI k (.int a) l (.int b) = some (.imm, .int (a + b)) := rfl
theorem q_subI {a b : Int} : pr2 .subI k (.int a) l (.int b) = some (.imm, .int (a - b)) := rfl
theorem q_rev {f : α → D} (h : Im f) {xs : List α} : pr1 .rev k (.list (xs.map f)) = some (.flat, .list (xs.reverse.map f)) := by simp only [pr1, fl_im h, if_true, List.map_reverse]
theorem q_sumT {xs : List Int} : pr1 .sumT k (.tuple (xs.map eI)) = some (.imm, .int xs.sum) := by simp only [pr1, intsOf_eI, Option.bind_some, rN]
theorem q_maxT {xs : List Int} (y : Int) (h : maxM xs = some y) : pr1 .maxT k (.tuple (xs.map eI)) = some (.imm, .int y) := by
  unfold maxM at h
  simp only [pr1, intsOf_eI, Option.bind_some, rN]
  split at h <;> simp_all
theorem q_minT {xs : List Int} (y : Int) (h : minM xs = some y) : pr1 .minT k (.tuple (xs.map eI)) = some (.imm, .int y) := by
  unfold minM at h
  simp only [pr1, intsOf_eI, Option.bind_some, rN]
  split at h <;> simp_all
theorem q_sortT {f : α → D} (h : Im f) (hs : So f) {xs : List α} : pr1 .sortT k (.tuple (xs.map f)) = some (.flat, .list ((srt f xs).map f)) := by
  simp only [pr1, fl_imT h, hs xs, Bool.and_self, if_true, sortD_map]
theorem q_sortTM {f : α → D} (h : Im f) {xs : List α} (ys : List α) (hy : srtM f xs = some ys) : pr1 .sortT k (.tuple (xs.map f)) = some (.flat, .list (ys.map f)) := by
  unfold srtM at hy
  split at hy
  · cases hy; simp only [pr1, fl_imT h, Bool.true_and, if_true, sortD_map, *]
  · cases hy
/-- sorted the other way about -/
def srtR (f : α → D) (xs : List α) : List α := xs.mergeSort fun a b => PySem.W.dataLe true id (f a) (f b)
theorem sortDR_map {f : α → D} (xs : List α) : sortDR (xs.map f) = (srtR f xs).map f := by
  unfold sortDR srtR
  exact (List.map_mergeSort (f := f) (s := PySem.W.dataLe true id) (fun a _ b _ => rfl)).symm
theorem q_sortR {f : α → D} (h : Im f) (hs : So f) {xs : List α} : pr1 .sortR k (.list (xs.map f)) = some (.flat, .list ((srtR f xs).map f)) := by
  simp only [pr1, fl_im h, hs xs, Bool.and_self, if_true, sortDR_map]
theorem q_sortTR {f : α → D} (h : Im f) (hs : So f) {xs : List α} : pr1 .sortTR k (.tuple (xs.map f)) = some (.flat, .list ((srtR f xs).map f)) := by
  simp only [pr1, fl_imT h, hs xs, Bool.and_self, if_true, sortDR_map]
/-- the first place -/
def idxM [DecidableEq α] (xs : List α) (a : α) : Option Int := (xs.findIdx? fun z => decide (z = a)).map fun (i : Nat) => (i : Int)
def pvidx : List Val → Option Val
  | [x, y] => if isL x.d then (pr2 .idxL x.k x.d y.k y.d).map fun r => ⟨r.1, .fr, r.2⟩ else none
  | _ => none
theorem findIdx_map {f : α → D} {a : α} [DecidableEq α] (he : Eqv f) : ∀ xs : List α, (xs.map f).findIdx? (fun z => PyData.eqv z (f a)) = xs.findIdx? fun z => decide (z = a)
  | [] => rfl
  | x :: xs => by
    rw [List.map_cons, List.findIdx?_cons, List.findIdx?_cons, he x a, findIdx_map he xs]
theorem q_idx [DecidableEq α] {f : α → D} (h : Im f) {n : Nat} (hl : Lay f n) (hn : decide (n ≤ 60) = true) (he : Eqv f) {a : α} {xs : List α} (y : Int) (hy : idxM xs a = some y) : pvidx [⟨k, p, .list (xs.map f)⟩, ⟨l, q, f a⟩] = some ⟨.imm, .fr, .int y⟩ := by
  simp only [decide_eq_true_eq] at hn
  have h1 := hl.plain (by simp; omega) a
  have h2 := (layL hl).plain (by simp; omega) xs
  have key : ∀ e : D, pr2 .idxL k (.list (xs.map f)) l e = if fl k (.list (xs.map f)) && plain (.list (xs.map f)) && plain e then (idxI (xs.map f) e).bind fun i => rN i else none := fun e => by cases e <;> simp only [pr2]
  simp only [pvidx, isL, if_true, key, fl_im h, h1, h2, Bool.and_self, idxI, findIdx_map he]
  unfold idxM at hy
  rw [hy]
  rfl
end
section
variable {T : Tab} {sp : Sp} {L L' : List Nat} {δ γ α β σ : Type} {val : δ → Val} {sp' : δ → Sp}
theorem ej_idx {a b : CE} {m : Option δ} (h : AJ T (FP pvidx val sp') [] [a, b] L sp [] m) : EJ T (.idx a b) L sp m val sp' := fun env g d hd => by
  obtain ⟨vs, env', spf, h1, h2, h3⟩ := h env g d hd
  obtain ⟨h4, h5⟩ := h3 d rfl
  obtain ⟨q, p, e1, e2, rfl, rfl⟩ := evs_two h1
  simp only [List.nil_append, pvidx] at h4
  refine ⟨p.2, ?_, by rw [h5]; exact h2⟩
  simp only [ev, e1, e2, Iv.R.bind]
  split at h4
  · rename_i hl
    rw [if_pos hl]
    cases e3 : pr2 .idxL q.1.k q.1.d p.1.k p.1.d with
    | none => rw [e3] at h4; cases h4
    | some r =>
      rw [e3] at h4
      simp only [Option.map_some, Option.some.injEq] at h4
      simp only [Option.map_some, Iv.R.of, h4]
  · cases h4
theorem fidx_p {x z : Val} {w : δ → Val} {m : Option δ} (h : ∀ y, m = some y → pvidx [x, z] = some (w y)) (hv : ∀ y, val y = w y) (hs : ∀ y, sp' y = sp) : FP pvidx val sp' [x, z] sp m := fp_p (fun y hy => by rw [h y hy, hv]) hs
theorem fidx_m {x z : Val} {w : γ → Val} {m : Option γ} {mk : γ → δ} (h : ∀ y, m = some y → pvidx [x, z] = some (w y)) (hv : ∀ y, val (mk y) = w y) (hs : ∀ y, sp' (mk y) = sp) : FP pvidx val sp' [x, z] sp (m.map mk) := fp_m (fun y hy => by rw [h y hy, hv]) hs
/-! keys -/
def KJ {β : Type} (kc : KX) (sp : Sp) (m : Option β) (f : β → D) : Prop := ∀ env, Fit sp env → ∀ b, m = some b → kx env kc = some (f b)
def Nh (f : α → D) : Prop := ∀ a, (f a).hasDict = false
mutual
theorem imm_nh : ∀ d : D, imm d = true → d.hasDict = false
  | .none, _ => rfl
  | .bool _, _ => rfl
  | .int _, _ => rfl
  | .str _, _ => rfl
  | .tuple xs, h => by
    simp only [imm] at h
    simp only [PyData.hasDict, immL_nh xs h]
  | .list _, h => by simp [imm] at h
  | .dict _, h => by simp [imm] at h
theorem immL_nh : ∀ ds : List D, immL ds = true → PyData.hasDictAll ds = false
  | [], _ => rfl
  | d :: ds, h => by
    simp only [immL, Bool.and_eq_true] at h
    simp only [PyData.hasDictAll, imm_nh d h.1, immL_nh ds h.2, Bool.or_self]
end
theorem nh_im {f : α → D} (h : Im f) : Nh f := fun a => imm_nh _ (h a)
theorem nh_L {f : α → D} (h : Im f) : Nh (eL f) := fun xs => by
  show PyData.hasDict (.list (xs.map f)) = false
  simp only [PyData.hasDict, immL_nh _ (immL_map h xs)]
theorem nh_LL {f : α → D} (h : Im f) : Nh (eL (eL f)) := fun xs => by
  show PyData.hasDict (.list (xs.map (eL f))) = false
  simp only [PyData.hasDict]
  induction xs with
  | nil => rfl
  | cons x xs ih =>
    have := nh_L h x
    simp only [List.map_cons, PyData.hasDictAll, this, ih, Bool.or_self]
theorem kj_cap {i : Nat} {k : Kd} {o : Bool} {f : α → D} {x : α} (h : sp[i]? = some (some (some ⟨k, o, f x⟩))) (n : Nh f) : KJ (.cap i) sp (some x) f := fun env g b hb => by
  cases hb
  simp only [kx, g.get h, n x, Bool.false_eq_true, if_false]
theorem kj_int {n : Int} : KJ (.int n) sp (some n) eI := fun env g b hb => by cases hb; rfl
theorem kj_neg {a : KX} {m : Option Int} (h : KJ a sp m eI) : KJ (.neg a) sp (m.bind fun x => some (-x)) eI := fun env g b hb => by
  obtain ⟨x, hx, e⟩ := Option.bind_eq_some_iff.mp hb
  cases e
  simp only [kx, h env g x hx, Option.bind_some, kx1]
theorem kj_sub {a b : KX} {m n : Option Int} (h : KJ a sp m eI) (h' : KJ b sp n eI) : KJ (.sub a b) sp (m.bind fun x => n.bind fun y => some (x - y)) eI := fun env g b hb => by
  obtain ⟨x, hx, hb⟩ := Option.bind_eq_some_iff.mp hb
  obtain ⟨y, hy, e⟩ := Option.bind_eq_some_iff.mp hb
  cases e
  simp only [kx, h env g x hx, h' env g y hy, Option.bind_some, kx2]
/-- the item at a place, of at most 2^24 -/
def atF (xs : List α) (i : Int) : Option α := if fits xs.length = true then atI xs i else none
theorem kj_ixL {a b : KX} {f : α → D} {m : Option (List α)} {n : Option Int} (h : KJ a sp m (eL f)) (h' : KJ b sp n eI) : KJ (.ix a b) sp (m.bind fun x => n.bind fun y => atF x y) f := fun env g b hb => by
  obtain ⟨x, hx, hb⟩ := Option.bind_eq_some_iff.mp hb
  obtain ⟨y, hy, e⟩ := Option.bind_eq_some_iff.mp hb
  unfold atF at e
  split at e
  · rename_i hf
    simp only [kx, h env g x hx, h' env g y hy, Option.bind_some, kxI, List.length_map, hf, if_true, atI_map, e, Option.map_some]
  · cases e
theorem kj_ixT {a b : KX} {f : α → D} {m : Option (List α)} {n : Option Int} (h : KJ a sp m (eT f)) (h' : KJ b sp n eI) : KJ (.ix a b) sp (m.bind fun x => n.bind fun y => atF x y) f := fun env g b hb => by
  obtain ⟨x, hx, hb⟩ := Option.bind_eq_some_iff.mp hb
  obtain ⟨y, hy, e⟩ := Option.bind_eq_some_iff.mp hb
  unfold atF at e
  split at e
  · rename_i hf
    simp only [kx, h env g x hx, h' env g y hy, Option.bind_some, kxI, List.length_map, hf, if_true, atI_map, e, Option.map_some]
  · cases e
theorem kj_tup2 {a b : KX} {f : α → D} {f' : β → D} {m : Option α} {n : Option β} (h : KJ a sp m f) (h' : KJ b sp n f') : KJ (.tup [a, b]) sp (m.bind fun x => n.bind fun y => some (x, y)) (eP2 f f') := fun env g b hb => by
  obtain ⟨x, hx, hb⟩ := Option.bind_eq_some_iff.mp hb
  obtain ⟨y, hy, e⟩ := Option.bind_eq_some_iff.mp hb
  cases e
  simp only [kx, kxs, h env g x hx, h' env g y hy, Option.bind_some]
  rfl
theorem kj_tup3 {a b c : KX} {f : α → D} {f' : β → D} {f'' : γ → D} {m : Option α} {n : Option β} {o : Option γ} (h : KJ a sp m f) (h' : KJ b sp n f') (h'' : KJ c sp o f'') : KJ (.tup [a, b, c]) sp (m.bind fun x => n.bind fun y => o.bind fun z => some (x, y, z)) (eP3 f f' f'') := fun env g b hb => by
  obtain ⟨x, hx, hb⟩ := Option.bind_eq_some_iff.mp hb
  obtain ⟨y, hy, hb⟩ := Option.bind_eq_some_iff.mp hb
  obtain ⟨z, hz, e⟩ := Option.bind_eq_some_iff.mp hb
  cases e
  simp only [kx, kxs, h env g x hx, h' env g y hy, h'' env g z hz, Option.bind_some]
  rfl
def keysM (g : α → Option β) : List α → Option (List β)
  | [] => some []
  | x :: xs => (g x).bind fun k => (keysM g xs).map (k :: ·)
/-- items in the order of their keys -/
def byKey (f : β → D) (xs : List α) (ks : List β) : List α := ((xs.zip ks).mergeSort fun a b => PySem.W.dataLe false id (f a.2) (f b.2)).map (·.1)
def srtK (f : β → D) (g : α → Option β) (xs : List α) : Option (List α) := (keysM g xs).map (byKey f xs)
def srtKM (f : β → D) (g : α → Option β) (xs : List α) : Option (List α) := (keysM g xs).bind fun ks => if sortOk (ks.map f) = true then some (byKey f xs ks) else none
theorem keysK_of {env : Env} {i : Nat} {kc : KX} {e : α → D} {f : β → D} {g : α → Option β} (hg : Fit sp env) (hk : ∀ x, KJ kc (sp.set i (some (some ⟨.imm, true, e x⟩))) (g x) f) (hi : Im e) (hf : Im f) : ∀ {xs : List α} {ks : List β}, keysM g xs = some ks → keysK env i kc (xs.map e) = some (ks.map f)
  | [], ks, h => by
    simp only [keysM, Option.some.injEq] at h
    subst h; rfl
  | x :: xs, ks, h => by
    obtain ⟨k, h1, h2⟩ := Option.bind_eq_some_iff.mp h
    obtain ⟨ks', h3, rfl⟩ := Option.map_eq_some_iff.mp h2
    simp only [List.map_cons, keysK, nh_im hi x, Bool.false_eq_true, if_false, hk x _ (hg.set i _) k h1, Option.bind_some, hf k, if_true, keysK_of hg hk hi hf h3, Option.map_some]
theorem sortBy_map {e : α → D} {f : β → D} (xs : List α) (ks : List β) : sortBy (xs.map e) (ks.map f) = (byKey f xs ks).map e := by
  unfold sortBy byKey
  rw [List.zip_map, ← List.map_mergeSort (r := fun a b => PySem.W.dataLe false id (f a.2) (f b.2)) (fun a _ b _ => rfl), List.map_map, List.map_map]
  rfl
theorem ej_sortK {rg : Bool} {i : Nat} {kc : KX} {a : CE} {e : α → D} {f : β → D} {m1 : Option γ} {v : γ → Val} {src : γ → Option (List α)} {g : γ → α → Option β} (ha : EJ T a L sp m1 v (fun _ => sp)) (hs : ∀ b xs, src b = some xs → srcK rg (v b) = some (xs.map e))
    (hk : ∀ b x, KJ kc (sp.set i (some (some ⟨.imm, true, e x⟩))) (g b x) f) (hi : Im e) (hf : Im f) (so : So f) : EJ T (.sortK rg i kc a) L sp (m1.bind fun b => (src b).bind fun xs => srtK f (g b) xs) (fun ys => ⟨.flat, .fr, eL e ys⟩) (fun _ => sp) := fun env h d hd => by
  obtain ⟨b, hb, hd⟩ := Option.bind_eq_some_iff.mp hd
  obtain ⟨xs, hx, hd⟩ := Option.bind_eq_some_iff.mp hd
  obtain ⟨ks, h1, rfl⟩ := Option.map_eq_some_iff.mp hd
  obtain ⟨env', e1, f1⟩ := ha env h b hb
  refine ⟨env', ?_, f1⟩
  simp only [ev, e1, Iv.R.bind, hs b xs hx, keysK_of f1 (hk b) hi hf h1, so ks, if_true, sortBy_map]
theorem ej_sortKM {rg : Bool} {i : Nat} {kc : KX} {a : CE} {e : α → D} {f : β → D} {m1 : Option γ} {v : γ → Val} {src : γ → Option (List α)} {g : γ → α → Option β} (ha : EJ T a L sp m1 v (fun _ => sp)) (hs : ∀ b xs, src b = some xs → srcK rg (v b) = some (xs.map e))
    (hk : ∀ b x, KJ kc (sp.set i (some (some ⟨.imm, true, e x⟩))) (g b x) f) (hi : Im e) (hf : Im f) : EJ T (.sortK rg i kc a) L sp (m1.bind fun b => (src b).bind fun xs => srtKM f (g b) xs) (fun ys => ⟨.flat, .fr, eL e ys⟩) (fun _ => sp) := fun env h d hd => by
  obtain ⟨b, hb, hd⟩ := Option.bind_eq_some_iff.mp hd
  obtain ⟨xs, hx, hd⟩ := Option.bind_eq_some_iff.mp hd
  obtain ⟨ks, h1, h2⟩ := Option.bind_eq_some_iff.mp hd
  split at h2
  · rename_i so
    cases h2
    obtain ⟨env', e1, f1⟩ := ha env h b hb
    refine ⟨env', ?_, f1⟩
    simp only [ev, e1, Iv.R.bind, hs b xs hx, keysK_of f1 (hk b) hi hf h1, so, if_true, sortBy_map]
  · cases h2
theorem sk_L {k : Kd} {p : Pv} {e : α → D} (h : Im e) {xs : List α} (ys : List α) (hy : some xs = some ys) : srcK false ⟨k, p, .list (xs.map e)⟩ = some (ys.map e) := by
  cases hy
  simp only [srcK, fl_im h, if_true]
theorem sk_T {k : Kd} {p : Pv} {e : α → D} (h : Im e) {xs : List α} (ys : List α) (hy : some xs = some ys) : srcK false ⟨k, p, .tuple (xs.map e)⟩ = some (ys.map e) := by
  cases hy
  simp only [srcK, fl_imT h, if_true]
theorem sk_R {k : Kd} {p : Pv} {n : Int} (ys : List Int) (hy : rangeM 0 n = some ys) : srcK true ⟨k, p, .int n⟩ = some (ys.map eI) := by
  unfold rangeM at hy
  split at hy
  · cases hy; simp only [srcK, if_true, rangeD_I, *]
  · cases hy
/-- the same of a source that is told at once -/
theorem ej_sortKR0 {i : Nat} {kc : KX} {a : CE} {f : β → D} {kv : Kd} {pv : Pv} {n : Int} {g : Int → Option β} (ha : ET T a sp ⟨kv, pv, .int n⟩) (hk : ∀ x, KJ kc (sp.set i (some (some ⟨.imm, true, eI x⟩))) (g x) f) (hf : Im f) (so : So f) :
    EJ T (.sortK true i kc a) L sp ((rangeM 0 n).bind fun xs => srtK f g xs) (fun ys => ⟨.flat, .fr, eL eI ys⟩) (fun _ => sp) :=
  ej_sortK (T := T) (m1 := some ()) (v := fun _ => ⟨kv, pv, .int n⟩) (src := fun _ => rangeM 0 n) (g := fun _ => g) (ej_t (val := fun _ => ⟨kv, pv, .int n⟩) (sp' := fun _ => sp) ha rfl rfl) (fun _ => sk_R) (fun _ => hk) imI hf so
theorem ej_sortKMR0 {i : Nat} {kc : KX} {a : CE} {f : β → D} {kv : Kd} {pv : Pv} {n : Int} {g : Int → Option β} (ha : ET T a sp ⟨kv, pv, .int n⟩) (hk : ∀ x, KJ kc (sp.set i (some (some ⟨.imm, true, eI x⟩))) (g x) f) (hf : Im f) :
    EJ T (.sortK true i kc a) L sp ((rangeM 0 n).bind fun xs => srtKM f g xs) (fun ys => ⟨.flat, .fr, eL eI ys⟩) (fun _ => sp) :=
  ej_sortKM (T := T) (m1 := some ()) (v := fun _ => ⟨kv, pv, .int n⟩) (src := fun _ => rangeM 0 n) (g := fun _ => g) (ej_t (val := fun _ => ⟨kv, pv, .int n⟩) (sp' := fun _ => sp) ha rfl rfl) (fun _ => sk_R) (fun _ => hk) imI hf
theorem ej_sortKS0 {i : Nat} {kc : KX} {a : CE} {v : Val} {e : α → D} {f : β → D} {xs : List α} {g : α → Option β} (ha : ET T a sp v) (hs : srcK false v = some (xs.map e)) (hk : ∀ x, KJ kc (sp.set i (some (some ⟨.imm, true, e x⟩))) (g x) f) (hi : Im e) (hf : Im f) (so : So f) :
    EJ T (.sortK false i kc a) L sp (srtK f g xs) (fun ys => ⟨.flat, .fr, eL e ys⟩) (fun _ => sp) :=
  ej_sortK (T := T) (m1 := some ()) (v := fun _ => v) (src := fun _ => some xs) (g := fun _ => g) (ej_t (val := fun _ => v) (sp' := fun _ => sp) ha rfl rfl) (fun _ ys hy => by cases hy; exact hs) (fun _ => hk) hi hf so
theorem ej_sortKMS0 {i : Nat} {kc : KX} {a : CE} {v : Val} {e : α → D} {f : β → D} {xs : List α} {g : α → Option β} (ha : ET T a sp v) (hs : srcK false v = some (xs.map e)) (hk : ∀ x, KJ kc (sp.set i (some (some ⟨.imm, true, e x⟩))) (g x) f) (hi : Im e) (hf : Im f) :
    EJ T (.sortK false i kc a) L sp (srtKM f g xs) (fun ys => ⟨.flat, .fr, eL e ys⟩) (fun _ => sp) :=
  ej_sortKM (T := T) (m1 := some ()) (v := fun _ => v) (src := fun _ => some xs) (g := fun _ => g) (ej_t (val := fun _ => v) (sp' := fun _ => sp) ha rfl rfl) (fun _ ys hy => by cases hy; exact hs) (fun _ => hk) hi hf
theorem ej_sortKS {i : Nat} {kc : KX} {a : CE} {m1 : Option γ} {v : γ → Val} {e : α → D} {f : β → D} {xs : γ → List α} {g : γ → α → Option β} (ha : EJ T a L sp m1 v (fun _ => sp)) (hs : ∀ b, srcK false (v b) = some ((xs b).map e)) (hk : ∀ b x, KJ kc (sp.set i (some (some ⟨.imm, true, e x⟩))) (g b x) f) (hi : Im e) (hf : Im f) (so : So f) :
    EJ T (.sortK false i kc a) L sp (m1.bind fun b => srtK f (g b) (xs b)) (fun ys => ⟨.flat, .fr, eL e ys⟩) (fun _ => sp) :=
  ej_sortK (T := T) (v := v) (src := fun b => some (xs b)) (g := g) ha (fun b ys hy => by cases hy; exact hs b) hk hi hf so
theorem ej_sortKMS {i : Nat} {kc : KX} {a : CE} {m1 : Option γ} {v : γ → Val} {e : α → D} {f : β → D} {xs : γ → List α} {g : γ → α → Option β} (ha : EJ T a L sp m1 v (fun _ => sp)) (hs : ∀ b, srcK false (v b) = some ((xs b).map e)) (hk : ∀ b x, KJ kc (sp.set i (some (some ⟨.imm, true, e x⟩))) (g b x) f) (hi : Im e) (hf : Im f) :
    EJ T (.sortK false i kc a) L sp (m1.bind fun b => srtKM f (g b) (xs b)) (fun ys => ⟨.flat, .fr, eL e ys⟩) (fun _ => sp) :=
  ej_sortKM (T := T) (v := v) (src := fun b => some (xs b)) (g := g) ha (fun b ys hy => by cases hy; exact hs b) hk hi hf
/-! x[i] op= e -/
theorem getN_of {r : Nat} {kd : Kd} {env : Env} {xs : List Int} {i old : Int} (f : Fit sp env) (h : sp[r]? = some (some (some ⟨kd, true, eL eI xs⟩))) (ho : atI xs i = some old) : getN r (.int i) env = some old := by
  simp only [getN, f.get h, atI_map, ho, Option.map_some]
theorem xj_augS {r : Nat} {i e : CE} {kd kd' : Kd} {f : Pr} {op : Int → Int → Int} {d0 : D} {m1 : Option β} {x : β → Int} {sp1 : β → Sp} {ki : Kd} {pi : Pv} {m2 : β → Option γ} {y : β → γ → Int} {ky : Kd} {py : Pv} {sp2 : β → γ → Sp} {xs : β → List Int} {m3 : β → γ → Option σ} {sps : σ → Sp}
    (hop : ∀ a b, pr2 f .imm (.int a) ky (.int b) = some (.imm, .int (op a b))) (h0 : sp[r]? = some (some (some ⟨kd, true, d0⟩))) (hl : isL d0 = true) (hk : decide (kd = .imm) = false) (hL : decide (r ∈ L) = false)
    (hi : EJ T i (r :: L) sp m1 (fun b => ⟨ki, pi, .int (x b)⟩) sp1) (h1 : ∀ b, (sp1 b)[r]? = some (some (some ⟨kd, true, eL eI (xs b)⟩)))
    (he : ∀ b, EJ T e (r :: L) (sp1 b) (m2 b) (fun c => ⟨ky, py, .int (y b c)⟩) (sp2 b)) (h2 : ∀ b c, (sp2 b c)[r]? = some (some (some ⟨kd, true, eL eI (xs b)⟩)))
    (h3 : ∀ b c s, m3 b c = some s → ∃ old ys, atI (xs b) (x b) = some old ∧ putM (xs b) (x b) (op old (y b c)) = some ys ∧ (sp2 b c).set r (some (some ⟨kd, true, eL eI ys⟩)) = sps s) :
    XJ T (.augS r f i e) L sp (m1.bind fun b => (m2 b).bind fun c => m3 b c) sps := fun env g s hs => by
  obtain ⟨b, hb, hs⟩ := Option.bind_eq_some_iff.mp hs
  obtain ⟨c, hc, hs⟩ := Option.bind_eq_some_iff.mp hs
  obtain ⟨env1, e1, f1⟩ := hi env g b hb
  obtain ⟨env2, e2, f2⟩ := he b env1 f1 c hc
  obtain ⟨old, ys, z1, z2, z3⟩ := h3 b c s hs
  rw [← z3]
  refine ⟨_, ?_, f2.set r _⟩
  have k' : ¬ kd = .imm := by simpa using hk
  have okl : okP isL r env [] = true := by
    simp only [okP, g.get h0, Bool.true_and]
    simp [k', atPath, hl]
  simp only [decide_eq_false_iff_not] at hL
  simp only [exec, hL, decide_false, okl, Bool.not_true, Bool.or_self, Bool.false_eq_true, if_false, e1, Iv.R.rs, getN_of f1 (h1 b) z1, e2, hop]
  have := m_put (f := eI) ys z2
  simp only [changed, hL, if_false, f2.get (h2 b c), Bool.true_and, k', decide_false, Bool.not_false, if_true, atPath, this, Option.map_some, Iv.R.of, Iv.R.rs]
  simp [k', Iv.R.rs, Iv.R.of]
def augM (op : Int → Int → Int) (xs : List Int) (i v : Int) : Option (List Int) := (atI xs i).bind fun old => putM xs i (op old v)
theorem aug_h {op : Int → Int → Int} {xs : List Int} {i v : Int} {r : Nat} {kd : Kd} {ys : List Int} {s1 : Sp} {sps : List Int → Sp} (h : augM op xs i v = some ys) (hs : s1.set r (some (some ⟨kd, true, eL eI ys⟩)) = sps ys) : ∃ old zs, atI xs i = some old ∧ putM xs i (op old v) = some zs ∧ s1.set r (some (some ⟨kd, true, eL eI zs⟩)) = sps ys := by
  obtain ⟨old, h1, h2⟩ := Option.bind_eq_some_iff.mp h
  exact ⟨old, ys, h1, h2, hs⟩
theorem aug_hm {op : Int → Int → Int} {xs : List Int} {i v : Int} {r : Nat} {kd : Kd} {mk : List Int → σ} {s : σ} {s1 : Sp} {sps : σ → Sp} (h : (augM op xs i v).map mk = some s) (hs : ∀ ys, s1.set r (some (some ⟨kd, true, eL eI ys⟩)) = sps (mk ys)) : ∃ old zs, atI xs i = some old ∧ putM xs i (op old v) = some zs ∧ s1.set r (some (some ⟨kd, true, eL eI zs⟩)) = sps s := by
  obtain ⟨ys, h0, rfl⟩ := Option.map_eq_some_iff.mp h
  exact aug_h (sps := fun ys => sps (mk ys)) h0 (hs ys)
/-! zip -/
theorem ij_zip {a b : CE} {x y : Val} {V : γ → Val} {zs : List γ} (h : AT T [a, b] sp [x, y]) (hx : fl x.k x.d = true) (hy : fl y.k y.d = true) (hi : itsOf .zip [x, y] = some (zs.map V)) (hl : lks [x, y] L = L') : IJ T .zip [a, b] L sp (some ()) V (fun _ => zs) L' (fun _ => sp) := fun env f b hb =>
  ⟨[x, y], env, [x, y], env, h [] L env f, by simp only [escK, List.all_cons, List.all_nil, hx, hy, Bool.and_self, if_true], hi, hl, f⟩
theorem ij_zipJ {a b : CE} {V : γ → Val} {m : Option δ} {zs : δ → List γ} (h : AJ T (fun vs s m => ∀ d : δ, m = some d → ∃ x y, vs = [x, y] ∧ fl x.k x.d = true ∧ fl y.k y.d = true ∧ itsOf .zip [x, y] = some ((zs d).map V) ∧ lks [x, y] L = L' ∧ sp' d = s) [] [a, b] L sp [] m) : IJ T .zip [a, b] L sp m V zs L' sp' := fun env f d hd => by
  obtain ⟨vs, env', spf, h1, h2, h3⟩ := h env f d hd
  obtain ⟨x, y, h4, hx, hy, h5, h6, h7⟩ := h3 d rfl
  simp only [List.nil_append] at h4
  subst h4
  exact ⟨[x, y], env', [x, y], env', h1, by simp only [escK, List.all_cons, List.all_nil, hx, hy, Bool.and_self, if_true], h5, h6, by rw [h7]; exact h2⟩
theorem ijl_z {V : γ → Val} {x y : Val} {zs : δ → List γ} {d : δ} (hx : fl x.k x.d = true) (hy : fl y.k y.d = true) (h2 : itsOf .zip [x, y] = some ((zs d).map V)) (hl : lks [x, y] L = L') (hs : sp' d = sp) : ∀ c : δ, some d = some c → ∃ x' y', [x, y] = [x', y'] ∧ fl x'.k x'.d = true ∧ fl y'.k y'.d = true ∧ itsOf .zip [x', y'] = some ((zs c).map V) ∧ lks [x', y'] L = L' ∧ sp' c = sp := fun c hc => by
  cases hc; exact ⟨x, y, rfl, hx, hy, h2, hl, hs⟩
theorem zip_map2 {f : α → D} {g : β → D} : ∀ (xs : List α) (ys : List β), ((xs.map f).zip (ys.map g)).map (fun p => V0 (.tuple [p.1, p.2])) = (xs.zip ys).map fun a => (⟨.imm, .fr, eP2 f g a⟩ : Val)
  | [], _ => by simp
  | _ :: _, [] => by simp
  | x :: xs, y :: ys => by
    simp only [List.map_cons, List.zip_cons_cons, zip_map2 xs ys]
    rfl
theorem seqD_L {f : α → D} {xs : List α} : seqD (.list (xs.map f)) = some (xs.map f) := rfl
theorem seqD_T {f : α → D} {xs : List α} : seqD (.tuple (xs.map f)) = some (xs.map f) := rfl
theorem w_zip {k l : Kd} {p q : Pv} {d e : D} {f : α → D} {g : β → D} {xs : List α} {ys : List β} (h1 : seqD d = some (xs.map f)) (h2 : seqD e = some (ys.map g)) : itsOf .zip [⟨k, p, d⟩, ⟨l, q, e⟩] = some ((xs.zip ys).map fun a => (⟨.imm, .fr, eP2 f g a⟩ : Val)) := by
  simp only [itsOf, h1, h2, zip_map2]
theorem w_enumT {k : Kd} {p : Pv} {f : α → D} (h : Im f) {xs : List α} : itsOf .enumT [⟨k, p, .tuple (xs.map f)⟩] = some ((enumI xs).map fun a => (⟨.imm, .fr, eP2 eI f a⟩ : Val)) := by
  simp only [itsOf, fl_imT h, if_true, enumI, zipIdx_map', List.map_map]
  first | done | rfl
end
end Iv

set_option maxRecDepth 100000
/-! MrM: tools for proofs about the mirrors. -/
namespace Iv
open PySem L2

/-- it ends, and what it gives is so -/
def Ok {α : Type} (m : Option α) (P : α → Prop) : Prop := ∃ x, m = some x ∧ P x
section
variable {α β γ σ ρ τ : Type} {P : α → Prop} {Q : β → Prop}
theorem ok_some {x : α} (h : P x) : Ok (some x) P := ⟨x, rfl, h⟩
theorem ok_eq {m : Option α} {x : α} (e : m = some x) (h : P x) : Ok m P := ⟨x, e, h⟩
theorem ok_bind {m : Option α} {f : α → Option β} (h : Ok m P) (k : ∀ x, P x → Ok (f x) Q) : Ok (m.bind f) Q := by
  obtain ⟨x, rfl, hx⟩ := h
  exact k x hx
/-- a step whose result is known -/
theorem ok_bE {m : Option α} {f : α → Option β} {x : α} (e : m = some x) (h : Ok (f x) Q) : Ok (m.bind f) Q := by rw [e]; exact h
theorem ok_map {m : Option α} {f : α → β} (h : Ok m P) (k : ∀ x, P x → Q (f x)) : Ok (m.map f) Q := by
  obtain ⟨x, rfl, hx⟩ := h
  exact ⟨f x, rfl, k x hx⟩
theorem ok_ite {c : Bool} {a b : Option α} (ha : c = true → Ok a P) (hb : c = false → Ok b P) : Ok (if c = true then a else b) P := by
  cases c with
  | true => exact ha rfl
  | false => exact hb rfl
theorem ok_mono {P' : α → Prop} {m : Option α} (h : Ok m P) (k : ∀ x, P x → P' x) : Ok m P' := by
  obtain ⟨x, e, hx⟩ := h
  exact ⟨x, e, k x hx⟩
theorem ok_and {P' : α → Prop} {m : Option α} (h : Ok m P) (h' : Ok m P') : Ok m fun x => P x ∧ P' x := by
  obtain ⟨x, e, hx⟩ := h
  obtain ⟨y, e', hy⟩ := h'
  rw [e] at e'
  cases e'
  exact ⟨x, e, hx, hy⟩
theorem ok_elim {m : Option α} {x : α} (h : Ok m fun y => y = x) : m = some x := by
  obtain ⟨y, e, rfl⟩ := h
  exact e
/-! loops -/
theorem ok_for {f : σ → α → Option σ} (I : List α → σ → Prop) : ∀ {xs pre : List α} {s : σ}, I pre s → (∀ a b x s, pre ++ xs = a ++ x :: b → I a s → Ok (f s x) (I (a ++ [x]))) → Ok (forM' f xs s) (I (pre ++ xs))
  | [], pre, s, h, k => ⟨s, rfl, by simpa using h⟩
  | x :: xs, pre, s, h, k => by
    obtain ⟨s1, e1, h1⟩ := k pre xs x s rfl h
    have ih := ok_for I (xs := xs) (pre := pre ++ [x]) (s := s1) h1 fun a b y t e => k a b y t (by rw [← e]; simp)
    obtain ⟨s2, e2, h2⟩ := ih
    exact ⟨s2, by simp only [forM', e1, Option.bind_some, e2], by simpa using h2⟩
theorem ok_forI {f : σ → α → Option σ} (I : σ → Prop) {xs : List α} {s : σ} (h : I s) (k : ∀ x ∈ xs, ∀ s, I s → Ok (f s x) I) : Ok (forM' f xs s) I := by
  have := ok_for (f := f) (fun _ => I) (xs := xs) (pre := []) h fun a b x s e hs => k x (by rw [List.nil_append] at e; rw [e]; simp) s hs
  exact this
theorem forM'_fold {f : σ → α → Option σ} {g : σ → α → σ} {xs : List α} {s : σ} (h : ∀ s, ∀ x ∈ xs, f s x = some (g s x)) : forM' f xs s = some (xs.foldl g s) := by
  induction xs generalizing s with
  | nil => rfl
  | cons x xs ih =>
    simp only [forM', h s x List.mem_cons_self, Option.bind_some, List.foldl_cons]
    exact ih fun s y hy => h s y (List.mem_cons_of_mem _ hy)
/-- a loop that never returns -/
def NX (m : Option (Ou ρ σ)) (I : σ → Prop) : Prop := ∃ s, m = some (.nx s) ∧ I s
theorem nx_some {s : σ} {I : σ → Prop} (h : I s) : NX (some (Ou.nx s) : Option (Ou ρ σ)) I := ⟨s, rfl, h⟩
theorem nx_bind {m : Option α} {f : α → Option (Ou ρ σ)} {I : σ → Prop} (h : Ok m P) (k : ∀ x, P x → NX (f x) I) : NX (m.bind f) I := by
  obtain ⟨x, rfl, hx⟩ := h
  exact k x hx
theorem nx_bE {m : Option α} {f : α → Option (Ou ρ σ)} {I : σ → Prop} {x : α} (e : m = some x) (h : NX (f x) I) : NX (m.bind f) I := by rw [e]; exact h
theorem nx_ite {c : Bool} {a b : Option (Ou ρ σ)} {I : σ → Prop} (ha : c = true → NX a I) (hb : c = false → NX b I) : NX (if c = true then a else b) I := by
  cases c with
  | true => exact ha rfl
  | false => exact hb rfl
theorem nx_for {f : σ → α → Option (Ou ρ σ)} (I : List α → σ → Prop) : ∀ {xs pre : List α} {s : σ}, I pre s → (∀ a b x s, pre ++ xs = a ++ x :: b → I a s → NX (f s x) (I (a ++ [x]))) → NX (forO f xs s) (I (pre ++ xs))
  | [], pre, s, h, k => ⟨s, rfl, by simpa using h⟩
  | x :: xs, pre, s, h, k => by
    obtain ⟨s1, e1, h1⟩ := k pre xs x s rfl h
    obtain ⟨s2, e2, h2⟩ := nx_for I (xs := xs) (pre := pre ++ [x]) (s := s1) h1 fun a b y t e => k a b y t (by rw [← e]; simp)
    exact ⟨s2, by simp only [forO, ouS, e1, Option.bind_some, e2], by simpa using h2⟩
theorem nx_forI {f : σ → α → Option (Ou ρ σ)} (I : σ → Prop) {xs : List α} {s : σ} (h : I s) (k : ∀ x ∈ xs, ∀ s, I s → NX (f s x) I) : NX (forO f xs s) I := by
  have := nx_for (f := f) (fun _ => I) (xs := xs) (pre := []) h fun a b x s e hs => k x (by rw [List.nil_append] at e; rw [e]; simp) s hs
  exact this
theorem ok_ouR {m : Option (Ou α σ)} {k : σ → Option α} {I : σ → Prop} (h : NX m I) (hk : ∀ s, I s → Ok (k s) P) : Ok (ouR m k) P := by
  obtain ⟨s, rfl, hs⟩ := h
  exact hk s hs
theorem nx_ouS {m : Option (Ou ρ σ)} {k : σ → Option (Ou ρ τ)} {I : σ → Prop} {I' : τ → Prop} (h : NX m I) (hk : ∀ s, I s → NX (k s) I') : NX (ouS m k) I' := by
  obtain ⟨s, rfl, hs⟩ := h
  exact hk s hs
def ouO {ρ σ : Type} (o : Option ρ) (s : σ) : Ou ρ σ := match o with | some r => .rt r | none => .nx s
@[simp] theorem ouO_some {ρ σ : Type} {r : ρ} {s : σ} : ouO (some r) s = .rt r := rfl
@[simp] theorem ouO_none {ρ σ : Type} {s : σ} : ouO (none : Option ρ) s = .nx s := rfl
/-- a loop that returns at the first item that has something to return -/
theorem forO_find {f : σ → α → Option (Ou ρ σ)} {g : α → Option ρ} {s : σ} : ∀ {xs : List α}, (∀ x ∈ xs, f s x = some (ouO (g x) s)) → forO f xs s = some (ouO (xs.findSome? g) s)
  | [], _ => rfl
  | x :: xs, h => by
    simp only [forO, ouS, h x List.mem_cons_self, Option.bind_some, List.findSome?_cons]
    cases g x with
    | some r => rfl
    | none => exact forO_find fun y hy => h y (List.mem_cons_of_mem _ hy)
theorem ouR_ouO {o : Option ρ} {s : σ} {k : σ → Option ρ} : ouR (some (ouO o s)) k = (match o with | some r => some r | none => k s) := by cases o <;> rfl
theorem ouS_id {m : Option (Ou ρ Unit)} : ouS m (fun _ => some (.nx ())) = m := by
  cases m with
  | none => rfl
  | some o => cases o <;> rfl
/-! comprehensions -/
theorem fits_of {n : Nat} (h : n ≤ 16777216) : fits n = true := by simp [fits, h]
theorem fitM_of {n : Nat} {m : Option β} (h : n ≤ 16777216) : fitM n m = m := by unfold fitM; rw [if_pos (fits_of h)]
theorem compT_of {c : α → Bool} {g : α → β} {xs : List α} (h : xs.length ≤ 16777216) : compT c g xs = some ((xs.filter c).map g) := by unfold compT; rw [fitM_of h]
theorem compT_all {g : α → β} {xs : List α} (h : xs.length ≤ 16777216) : compT (fun _ => true) g xs = some (xs.map g) := by
  rw [compT_of h, List.filter_eq_self.mpr (fun _ _ => rfl)]
theorem compS_pure {mc : α → Option Bool} {me : α → Option β} {c : α → Bool} {g : α → β} : ∀ {xs : List α}, (∀ x ∈ xs, mc x = some (c x)) → (∀ x ∈ xs, c x = true → me x = some (g x)) →
    compS (σ := Unit) (fun _ x => (mc x).map fun b => (b, ())) (fun _ x => (me x).map fun y => (y, ())) xs () = some ((xs.filter c).map g, ())
  | [], _, _ => rfl
  | x :: xs, h1, h2 => by
    have ih := compS_pure (xs := xs) (fun y hy => h1 y (List.mem_cons_of_mem _ hy)) (fun y hy => h2 y (List.mem_cons_of_mem _ hy))
    simp only [compS, h1 x List.mem_cons_self, Option.map_some, Option.bind_some, List.filter_cons]
    cases hc : c x with
    | true => simp only [if_true, h2 x List.mem_cons_self hc, Option.map_some, Option.bind_some, ih, List.map_cons]
    | false => simpa using ih
theorem compM_of {mc : α → Option Bool} {me : α → Option β} {c : α → Bool} {g : α → β} {xs : List α} (h : xs.length ≤ 16777216) (h1 : ∀ x ∈ xs, mc x = some (c x)) (h2 : ∀ x ∈ xs, c x = true → me x = some (g x)) : compM mc me xs = some ((xs.filter c).map g) := by
  unfold compM
  rw [fitM_of h, compS_pure h1 h2]; rfl
theorem compM_all {me : α → Option β} {g : α → β} {xs : List α} (h : xs.length ≤ 16777216) (h2 : ∀ x ∈ xs, me x = some (g x)) : compM (fun _ => some true) me xs = some (xs.map g) := by
  rw [compM_of (c := fun _ => true) h (fun _ _ => rfl) (fun x hx _ => h2 x hx), List.filter_eq_self.mpr (fun _ _ => rfl)]
/-- a comprehension whose turns change something: what holds of each item -/
theorem ok_compS {mc : σ → α → Option (Bool × σ)} {me : σ → α → Option (β × σ)} (I : σ → Prop) {R : α → β → Prop} : ∀ {xs : List α} {s : σ}, I s → (∀ x ∈ xs, ∀ s, I s → Ok (mc s x) fun q => I q.2) → (∀ x ∈ xs, ∀ s, I s → Ok (me s x) fun q => I q.2 ∧ R x q.1) →
    Ok (compS mc me xs s) fun r => I r.2 ∧ ∃ zs : List (α × β), r.1 = zs.map (·.2) ∧ (zs.map (·.1)).Sublist xs ∧ ∀ z ∈ zs, R z.1 z.2
  | [], s, h, _, _ => ⟨([], s), rfl, h, [], rfl, List.Sublist.refl _, fun z hz => nomatch hz⟩
  | x :: xs, s, h, k1, k2 => by
    obtain ⟨q, e1, h1⟩ := k1 x List.mem_cons_self s h
    cases hq : q.1 with
    | false =>
      obtain ⟨r, e2, h2, zs, z1, z2, z3⟩ := ok_compS I (xs := xs) (s := q.2) h1 (fun y hy => k1 y (List.mem_cons_of_mem _ hy)) (fun y hy => k2 y (List.mem_cons_of_mem _ hy))
      refine ⟨r, ?_, h2, zs, z1, z2.trans (List.sublist_cons_self _ _), z3⟩
      simp only [compS, e1, Option.bind_some, hq, Bool.false_eq_true, if_false]
      exact e2
    | true =>
      obtain ⟨y, e3, h3, hR⟩ := k2 x List.mem_cons_self q.2 h1
      obtain ⟨r, e2, h2, zs, z1, z2, z3⟩ := ok_compS I (xs := xs) (s := y.2) h3 (fun y hy => k1 y (List.mem_cons_of_mem _ hy)) (fun y hy => k2 y (List.mem_cons_of_mem _ hy))
      refine ⟨(y.1 :: r.1, r.2), ?_, h2, (x, y.1) :: zs, by simp [z1], by simpa using z2.cons_cons x, fun z hz => ?_⟩
      · simp only [compS, e1, Option.bind_some, hq, if_true, e3, e2, Option.map_some]
      · rcases List.mem_cons.mp hz with rfl | hz
        · exact hR
        · exact z3 z hz
/-- every item stays -/
theorem ok_compS_all {me : σ → α → Option (β × σ)} {mc : σ → α → Option (Bool × σ)} (hmc : ∀ s x, mc s x = some (true, s)) (I : List β → σ → Prop) : ∀ {xs pre : List α} {s : σ} {acc : List β}, acc.length = pre.length → I acc s → (∀ a b x s acc, pre ++ xs = a ++ x :: b → acc.length = a.length → I acc s → Ok (me s x) fun q => I (acc ++ [q.1]) q.2) →
    Ok (compS mc me xs s) fun r => I (acc ++ r.1) r.2 ∧ r.1.length = xs.length
  | [], pre, s, acc, hl, h, _ => ⟨([], s), rfl, by simpa using h, rfl⟩
  | x :: xs, pre, s, acc, hl, h, k => by
    obtain ⟨y, e1, h1⟩ := k pre xs x s acc rfl hl h
    obtain ⟨r, e2, h2, h3⟩ := ok_compS_all hmc I (xs := xs) (pre := pre ++ [x]) (s := y.2) (acc := acc ++ [y.1]) (by simp [hl]) h1 fun a b z t acc e => k a b z t acc (by rw [← e]; simp)
    refine ⟨(y.1 :: r.1, r.2), ?_, by simpa using h2, by simp [h3]⟩
    simp only [compS, hmc, Option.bind_some, if_true, e1, e2, Option.map_some]
theorem ok_compS_all0 {me : σ → α → Option (β × σ)} {mc : σ → α → Option (Bool × σ)} (hmc : ∀ s x, mc s x = some (true, s)) (I : List β → σ → Prop) {xs : List α} {s : σ} (h : I [] s) (k : ∀ a b x s acc, xs = a ++ x :: b → acc.length = a.length → I acc s → Ok (me s x) fun q => I (acc ++ [q.1]) q.2) :
    Ok (compS mc me xs s) fun r => I r.1 r.2 ∧ r.1.length = xs.length := ok_compS_all hmc I (pre := []) (acc := []) rfl h k
/-! lists by place -/
theorem atI_of {xs : List α} {i : Int} (h0 : 0 ≤ i) (h1 : i < xs.length) : atI xs i = some (xs[i.toNat]'(by omega)) := by
  unfold atI ixN
  rw [if_pos h0, if_pos h1]
  simp only [Option.bind_some]
  rw [List.getElem?_eq_getElem]
theorem atI_getD [Inhabited α] {xs : List α} {i : Int} (h0 : 0 ≤ i) (h1 : i < xs.length) : atI xs i = some (xs[i.toNat]?.getD default) := by
  rw [atI_of h0 h1, List.getElem?_eq_getElem (by omega)]; rfl
theorem atI_mem {xs : List α} {i : Int} {x : α} (h : atI xs i = some x) : x ∈ xs := by
  unfold atI at h
  obtain ⟨j, _, h⟩ := Option.bind_eq_some_iff.mp h
  exact List.mem_of_getElem? h
theorem addM_of {xs ys : List α} (h : xs.length + ys.length ≤ 16777216) : addM xs ys = some (xs ++ ys) := by unfold addM; rw [if_pos (fits_of h)]
theorem pushM_of {xs : List α} {x : α} (h : xs.length + 1 ≤ 16777216) : pushM xs x = some (xs ++ [x]) := by unfold pushM; rw [if_pos (fits_of h)]
theorem mulLM_of {xs : List α} {j : Int} (h0 : 0 ≤ j) (h1 : j ≤ 1) (h : xs.length ≤ 16777216) : mulLM xs j = some (if j = 0 then [] else xs) := by
  have hj : j = 0 ∨ j = 1 := by omega
  unfold mulLM
  rcases hj with rfl | rfl
  · simp [fits]
  · simp [fits, h]
theorem ixN_of {n : Nat} {i : Int} (h0 : 0 ≤ i) (h1 : i < n) : ixN n i = some i.toNat := by
  unfold ixN
  rw [if_pos h0, if_pos h1]
theorem putM_of {xs : List α} {i : Int} {x : α} (h0 : 0 ≤ i) (h1 : i < xs.length) : putM xs i x = some (xs.set i.toNat x) := by
  unfold putM
  rw [ixN_of h0 h1]; rfl
theorem pushAtM_of {xs : List (List α)} {i : Int} {x : α} (h0 : 0 ≤ i) (h1 : i < xs.length) (h : ∀ ys ∈ xs, ys.length + 1 ≤ 16777216) : pushAtM xs i x = some (xs.modify i.toNat (· ++ [x])) := by
  unfold pushAtM
  have hi : i.toNat < xs.length := by omega
  rw [ixN_of h0 h1]
  simp only [Option.bind_some, List.getElem?_eq_getElem hi]
  rw [if_pos (fits_of (h _ (List.getElem_mem hi)))]
  congr 1
  apply List.ext_getElem?
  intro j
  rw [List.getElem?_set, List.getElem?_modify]
  by_cases hj : i.toNat = j
  · subst hj
    simp [hi, List.getElem?_eq_getElem hi]
  · simp [hj]
theorem popAtM_of {xs : List α} {i : Int} (h0 : 0 ≤ i) (h1 : i < xs.length) (h2 : xs.length < 2 ^ 60) : popAtM xs i = some (xs[i.toNat]'(by omega), xs.eraseIdx i.toNat) := by
  have hs : seqIndex? i xs.length = some i.toNat := by
    unfold seqIndex?
    simp
    omega
  have h3 : ((2 : Int) ^ 63) = 9223372036854775808 := by decide
  have h4 : ((2 : Nat) ^ 60) = 1152921504606846976 := by decide
  unfold popAtM
  rw [if_pos (by simp only [h3, Bool.and_eq_true, decide_eq_true_eq]; omega), hs]
  simp only [Option.bind_some]
  rw [List.getElem?_eq_getElem (by omega)]
  rfl
end
/-! ranges -/
theorem rangeM_of {a b : Int} (h1 : -1000000 ≤ a) (h2 : a ≤ 1000000) (h3 : -1000000 ≤ b) (h4 : b ≤ 1000000) : rangeM a b = some (rangeI a b) := by
  unfold rangeM rgOk fits
  have : ((2 : Int) ^ 62) = 4611686018427387904 := by decide
  rw [if_pos]
  simp only [this, Bool.and_eq_true, decide_eq_true_eq]
  omega
theorem mem_rangeI {a b x : Int} : x ∈ rangeI a b ↔ a ≤ x ∧ x < b := by
  unfold rangeI
  simp only [List.mem_map, List.mem_range]
  constructor
  · rintro ⟨i, hi, rfl⟩; omega
  · rintro ⟨h1, h2⟩; exact ⟨(x - a).toNat, by omega, by omega⟩
theorem length_rangeI {a b : Int} : (rangeI a b).length = (b - a).toNat := by simp [rangeI]
theorem nodup_rangeI {a b : Int} : (rangeI a b).Nodup := by
  unfold rangeI
  exact List.Pairwise.map _ (fun x y (h : x ≠ y) e => h (by omega)) List.nodup_range
theorem getElem?_rangeI {a b : Int} {i : Nat} (h : (i : Int) < b - a) : (rangeI a b)[i]? = some (a + i) := by
  unfold rangeI
  rw [List.getElem?_map, List.getElem?_range (by omega)]; rfl
theorem rangeI_split {a b c : Int} (h1 : a ≤ b) (h2 : b ≤ c) : rangeI a c = rangeI a b ++ rangeI b c := by
  apply List.ext_getElem?
  intro i
  by_cases h : (i : Int) < b - a
  · rw [List.getElem?_append_left (by rw [length_rangeI]; omega), getElem?_rangeI h, getElem?_rangeI (by omega)]
  · rw [List.getElem?_append_right (by rw [length_rangeI]; omega), length_rangeI]
    by_cases h3 : (i : Int) < c - a
    · rw [getElem?_rangeI h3, getElem?_rangeI (by omega)]
      congr 1; omega
    · rw [List.getElem?_eq_none (by rw [length_rangeI]; omega), List.getElem?_eq_none (by rw [length_rangeI]; omega)]
/-! sorted -/
theorem srt_perm {α : Type} {f : α → D} (xs : List α) : (srt f xs).Perm xs := List.mergeSort_perm _ _
theorem mem_srt {α : Type} {f : α → D} {xs : List α} {x : α} : x ∈ srt f xs ↔ x ∈ xs := (srt_perm xs).mem_iff
theorem length_srt {α : Type} {f : α → D} {xs : List α} : (srt f xs).length = xs.length := (srt_perm xs).length_eq
theorem le_eI (a b : Int) : PySem.W.dataLe false id (eI a) (eI b) = decide (a ≤ b) := by
  show (!(PyProof.Rows.lexLt PyProof.Rows.itemOrd [.inl b] [.inl a])) = _
  simp [PyProof.Rows.lexLt, PyProof.Rows.itemLt]
  by_cases h : a ≤ b
  · simp [h]
  · simp [h]; omega
theorem srtI_sorted (xs : List Int) : (srt eI xs).Pairwise (· ≤ ·) := by
  unfold srt
  simp only [le_eI]
  have := List.pairwise_mergeSort (le := fun a b : Int => decide (a ≤ b)) (fun a b c h1 h2 => by simp at *; omega) (fun a b => by simp; omega) xs
  exact this.imp (fun h => by simpa using h)
/-! repr -/
def okS (s : Str) : Prop := ∀ c ∈ s.cps.toList, c < 0x110000
theorem okS_iff {s : Str} : okS s ↔ PyData.strOk s = true := by
  unfold okS PyData.strOk
  rw [Array.all_eq_true_iff_forall_mem]
  simp
theorem okS_of (s : String) : okS (Str.ofString s) := by
  intro c hc
  unfold Str.ofString at hc
  rw [cpsOfBytes_string] at hc
  simp only [List.mem_map] at hc
  obtain ⟨ch, _, rfl⟩ := hc
  have h := ch.valid
  simp only [UInt32.isValidChar, Nat.isValidChar] at h
  show ch.val.toNat < _
  omega
theorem okS_append {s t : Str} (h1 : okS s) (h2 : okS t) : okS (s ++ t) := by
  intro c hc
  have : (s ++ t).cps.toList = s.cps.toList ++ t.cps.toList := by
    show (s.cps ++ t.cps).toList = _
    simp
  rw [this] at hc
  rcases List.mem_append.mp hc with h | h
  · exact h1 c h
  · exact h2 c h
theorem okS_join {sep : Str} (h : okS sep) : ∀ {ts : List Str}, (∀ t ∈ ts, okS t) → okS (Str.join sep ts)
  | [], _ => by show okS Str.empty; intro c hc; simp [Str.empty] at hc
  | [x], k => k x List.mem_cons_self
  | x :: y :: r, k => by
    show okS (x ++ sep ++ Str.join sep (y :: r))
    exact okS_append (okS_append (k x List.mem_cons_self) h) (okS_join h fun t ht => k t (List.mem_cons_of_mem _ ht))
theorem okS_textFrom : ∀ (ts : List Str) (k : Nat) (acc : Str), okS acc → (∀ t ∈ ts, okS t) → okS (textFrom k acc ts)
  | [], k, acc, h, _ => h
  | t :: ts, k, acc, h, hk => by
    show okS (textFrom (k + 1) (acc ++ (if k > 0 then ", " else "" : String) ++ t) ts)
    exact okS_textFrom ts _ _ (okS_append (okS_append h (okS_of _)) (hk t List.mem_cons_self)) fun u hu => hk u (List.mem_cons_of_mem _ hu)
/-- data that repr may show: no texts, small numbers -/
structure Nc (d : D) (w h : Nat) : Prop where
  lay : d.canLay0 = true
  dep : d.depth ≤ h
  wei : d.weight ≤ w
  sho : d.intsShort 13 = true
  shw : d.showable = true
  txt : okS d.shown
theorem Nc.mono {d : D} {w h w' h' : Nat} (n : Nc d w h) (hw : w ≤ w') (hh : h ≤ h') : Nc d w' h' := ⟨n.lay, Nat.le_trans n.dep hh, Nat.le_trans n.wei hw, n.sho, n.shw, n.txt⟩
theorem nc_none : Nc .none 0 0 := ⟨rfl, Nat.le_refl _, Nat.le_refl _, rfl, rfl, okS_of _⟩
theorem nc_bool (b : Bool) : Nc (.bool b) 0 0 := ⟨rfl, Nat.le_refl _, Nat.le_refl _, rfl, rfl, by cases b <;> exact okS_of _⟩
theorem nc_int {i : Int} (h : i.natAbs < 10 ^ 12) : Nc (.int i) 41 0 := by
  have hl : i.natAbs.log2 < 40 := by
    by_cases hz : i.natAbs = 0
    · rw [hz]; decide
    · rw [Nat.log2_lt hz]
      have : (10 : Nat) ^ 12 < 2 ^ 40 := by decide
      omega
  refine ⟨rfl, Nat.le_refl _, ?_, ?_, ?_, okS_of _⟩
  · simp only [PyData.weight]
    split <;> omega
  · simp only [PyData.intsShort, decide_eq_true_eq]
    exact PyData.shown_int_le h
  · simp only [PyData.showable, decide_eq_true_eq]; omega
theorem nc_small {i : Int} (h1 : -1000000 ≤ i) (h2 : i ≤ 1000000) : Nc (.int i) 41 0 := nc_int (by
  have : (10 : Nat) ^ 12 = 1000000000000 := by decide
  omega)
theorem nc_all {xs : List D} {w h : Nat} (k : ∀ d ∈ xs, Nc d w h) : PyData.canLayAll0 xs = true ∧ PyData.depthAll xs ≤ h ∧ PyData.weightAll xs ≤ (w + 1) * xs.length ∧ PyData.intsShortAll 13 xs = true ∧ PyData.showableAll xs = true ∧ ∀ t ∈ PyData.shownAll xs, okS t := by
  induction xs with
  | nil => exact ⟨rfl, Nat.zero_le _, by simp [PyData.weightAll], rfl, rfl, fun t ht => nomatch ht⟩
  | cons d xs ih =>
    obtain ⟨h1, h2, h3, h4, h5, h6⟩ := ih fun e he => k e (List.mem_cons_of_mem _ he)
    have n := k d List.mem_cons_self
    refine ⟨by simp only [PyData.canLayAll0, n.lay, h1, Bool.and_self], ?_, ?_, by simp only [PyData.intsShortAll, n.sho, h4, Bool.and_self], by simp only [PyData.showableAll, n.shw, h5, Bool.and_self], fun t ht => ?_⟩
    · simp only [PyData.depthAll]; have := n.dep; omega
    · simp only [PyData.weightAll, List.length_cons]
      have := n.wei
      rw [Nat.mul_add, Nat.mul_one]; omega
    · simp only [PyData.shownAll, List.mem_cons] at ht
      rcases ht with rfl | ht
      · exact n.txt
      · exact h6 t ht
theorem nc_list {xs : List D} {w h : Nat} (k : ∀ d ∈ xs, Nc d w h) : Nc (.list xs) ((w + 1) * xs.length) (h + 1) := by
  obtain ⟨h1, h2, h3, h4, h5, h6⟩ := nc_all k
  refine ⟨by simpa only [PyData.canLay0] using h1, by simp only [PyData.depth]; omega, by simpa only [PyData.weight] using h3, by simpa only [PyData.intsShort] using h4, by simpa only [PyData.showable] using h5, ?_⟩
  simp only [PyData.shown, listText]
  exact okS_append (okS_textFrom _ _ _ (okS_of _) h6) (okS_of _)
theorem nc_tuple {xs : List D} {w h : Nat} (k : ∀ d ∈ xs, Nc d w h) : Nc (.tuple xs) ((w + 1) * xs.length) (h + 1) := by
  obtain ⟨h1, h2, h3, h4, h5, h6⟩ := nc_all k
  refine ⟨by simpa only [PyData.canLay0] using h1, by simp only [PyData.depth]; omega, by simpa only [PyData.weight] using h3, by simpa only [PyData.intsShort] using h4, by simpa only [PyData.showable] using h5, ?_⟩
  simp only [PyData.shown, tupleText]
  refine okS_append (okS_append (okS_of _) (okS_join (okS_of _) h6)) ?_
  exact okS_of _
theorem nc_map {α : Type} {f : α → D} {xs : List α} {w h : Nat} (k : ∀ a ∈ xs, Nc (f a) w h) : ∀ d ∈ xs.map f, Nc d w h := by
  intro d hd
  obtain ⟨a, ha, rfl⟩ := List.mem_map.mp hd
  exact k a ha
theorem Nc.repr {d : D} {w h : Nat} (n : Nc d w h) (hw : w ≤ 1048576) (hh : h ≤ 64) : reprM d = some d.shown ∧ plain (.str d.shown) = true := by
  have e : (2 : Nat) ^ 20 = 1048576 := by decide
  have hd : d.hasDict = false := PyData.hasDict_of_canLay d n.lay
  have hs : d.shown.length ≤ sizeLine := PyData.shown_fits (B := 13) (by decide) (by decide) (PyData.leavesShort_of_canLay0 13 d n.lay n.sho) (by have := n.wei; omega)
  constructor
  · unfold reprM shows
    have := n.dep
    rw [if_pos]
    simp only [n.shw, hs, hd, Bool.not_false, Bool.and_true, Bool.true_and, decide_true]
    simp; omega
  · unfold plain PySem.SeqAt.shaped
    simp [PyData.canLay0, PyData.depth, okS_iff.mp n.txt]
theorem neS_self {s : Str} (h : plain (.str s) = true) : neS s s = some false := by simp [neS, h, eqB]
theorem eqS_self {s : Str} (h : plain (.str s) = true) : eqS s s = some true := by simp [eqS, h, eqB]
/-- repr(x) != repr(y) for equal x, y -/
theorem ok_neR {α : Type} {d e : D} {w h : Nat} {P : Bool → Prop} (n : Nc d w h) (hw : w ≤ 1048576) (hh : h ≤ 64) (he : d = e) (hP : P false) : Ok ((reprM d).bind fun s => (reprM e).bind fun t => neS s t) P := by
  subst he
  obtain ⟨h1, h2⟩ := n.repr hw hh
  rw [h1]
  simp only [Option.bind_some, neS_self h2]
  exact ok_some hP
theorem ok_eqR {d e : D} {w h : Nat} {P : Bool → Prop} (n : Nc d w h) (hw : w ≤ 1048576) (hh : h ≤ 64) (he : d = e) (hP : P true) : Ok ((reprM d).bind fun s => (reprM e).bind fun t => eqS s t) P := by
  subst he
  obtain ⟨h1, h2⟩ := n.repr hw hh
  rw [h1]
  simp only [Option.bind_some, eqS_self h2]
  exact ok_some hP
theorem ok_neR2 {m : Option Str} {e : D} {P : Bool → Prop} (h : Ok m fun s => reprM e = some s ∧ plain (.str s) = true) (hP : P false) : Ok (m.bind fun s => (reprM e).bind fun t => neS s t) P := by
  obtain ⟨s, rfl, h1, h2⟩ := h
  rw [h1]
  simp only [Option.bind_some, neS_self h2]
  exact ok_some hP
theorem ok_eqR2 {m : Option Str} {e : D} {P : Bool → Prop} (h : Ok m fun s => reprM e = some s ∧ plain (.str s) = true) (hP : P true) : Ok (m.bind fun s => (reprM e).bind fun t => eqS s t) P := by
  obtain ⟨s, rfl, h1, h2⟩ := h
  rw [h1]
  simp only [Option.bind_some, eqS_self h2]
  exact ok_some hP
theorem ok_repr {d e : D} {w h : Nat} (n : Nc d w h) (hw : w ≤ 1048576) (hh : h ≤ 64) (he : d = e) : Ok (reprM d) fun s => reprM e = some s ∧ plain (.str s) = true := by
  subst he
  obtain ⟨h1, h2⟩ := n.repr hw hh
  exact ⟨_, h1, h1, h2⟩
theorem nc_pair {d e : D} {w h : Nat} (hd : Nc d w h) (he : Nc e w h) : Nc (.tuple [d, e]) ((w + 1) * 2) (h + 1) := nc_tuple (xs := [d, e]) fun x hx => by
  simp only [List.mem_cons, List.not_mem_nil, or_false] at hx
  rcases hx with rfl | rfl <;> assumption
theorem nc_lpair {d e : D} {w h : Nat} (hd : Nc d w h) (he : Nc e w h) : Nc (.list [d, e]) ((w + 1) * 2) (h + 1) := nc_list (xs := [d, e]) fun x hx => by
  simp only [List.mem_cons, List.not_mem_nil, or_false] at hx
  rcases hx with rfl | rfl <;> assumption
/-- one of the items -/
theorem ok_at {α : Type} {xs : List α} {i : Int} {P : α → Prop} (h0 : 0 ≤ i) (h1 : i < xs.length) (h : ∀ x ∈ xs, P x) : Ok (atI xs i) P := ⟨_, atI_of h0 h1, h _ (List.getElem_mem _)⟩
/-! drawing -/
theorem ok_pick {s : D} {n : Int} (h : IsSrc s) (hn : n ≤ 1000000000) : Ok (pickM s n) fun b => 0 ≤ b.1 ∧ b.1 < max n 1 ∧ IsSrc b.2 := by
  obtain ⟨i, s', h1, h2, h3, h4⟩ := pick_ok h (show n < 1073741824 by omega)
  exact ⟨(i, s'), h1, h2, h3, h4⟩
end Iv

set_option maxRecDepth 100000
/-! MrN: more tools for proofs about the mirrors. -/
namespace Iv
open PySem L2
theorem mul_small {i j : Int} (h : smallI i = true) : mulM i j = some (i * j) := by
  unfold mulM
  rw [if_pos]
  unfold mulOk; unfold smallI at h
  rw [h, Bool.true_or]
theorem smallI_of {i : Int} (h0 : -1000000 ≤ i) (h1 : i ≤ 1000000) : smallI i = true := by
  have e : (2 : Int) ^ 64 = 18446744073709551616 := by decide
  unfold smallI
  rw [e]
  simp only [Bool.and_eq_true, decide_eq_true_eq]; omega
theorem keysM_all {α β : Type} {g : α → Option β} {k : α → β} : ∀ {xs : List α}, (∀ x ∈ xs, g x = some (k x)) → keysM g xs = some (xs.map k)
  | [], _ => rfl
  | x :: xs, h => by
    simp only [keysM, h x List.mem_cons_self, Option.bind_some, keysM_all fun y hy => h y (List.mem_cons_of_mem _ hy), Option.map_some, List.map_cons]
theorem srtK_of {α β : Type} {f : β → D} {g : α → Option β} {k : α → β} {xs : List α} (h : ∀ x ∈ xs, g x = some (k x)) : srtK f g xs = some (byKey f xs (xs.map k)) := by
  unfold srtK
  rw [keysM_all h]; rfl
theorem toM_of {α : Type} {xs : List α} {j : Int} (h : xs.length ≤ 16777216) (h0 : 0 ≤ j) : toM xs j = some (xs.take j.toNat) := by
  unfold toM toI cutI
  rw [if_pos (fits_of h), if_pos h0]
  congr 1
  by_cases hj : j.toNat ≤ xs.length
  · rw [Nat.min_eq_left hj]
  · rw [Nat.min_eq_right (by omega), List.take_length, List.take_of_length_le (by omega)]
theorem fromM_of {α : Type} {xs : List α} {j : Int} (h : xs.length ≤ 16777216) (h0 : 0 ≤ j) : fromM xs j = some (xs.drop j.toNat) := by
  unfold fromM fromI cutI
  rw [if_pos (fits_of h), if_pos h0]
  congr 1
  by_cases hj : j.toNat ≤ xs.length
  · rw [Nat.min_eq_left hj]
  · rw [Nat.min_eq_right (by omega), List.drop_length, List.drop_eq_nil_of_le (by omega)]
theorem foldl_max {xs : List Int} : ∀ {a : Int}, a ≤ xs.foldl max a ∧ (∀ x ∈ xs, x ≤ xs.foldl max a) ∧ (xs.foldl max a = a ∨ xs.foldl max a ∈ xs) := by
  induction xs with
  | nil => intro a; exact ⟨Int.le_refl _, (fun x hx => nomatch hx), .inl rfl⟩
  | cons y xs ih =>
    intro a
    obtain ⟨h1, h2, h3⟩ := ih (a := max a y)
    rw [List.foldl_cons]
    refine ⟨by omega, fun x hx => ?_, ?_⟩
    · rcases List.mem_cons.mp hx with rfl | hx
      · omega
      · exact h2 x hx
    · rcases h3 with h3 | h3
      · by_cases h : a ≤ y
        · right; rw [h3]; have : max a y = y := by omega
          rw [this]; exact List.mem_cons_self
        · left; rw [h3]; omega
      · exact .inr (List.mem_cons_of_mem _ h3)
theorem foldl_min {xs : List Int} : ∀ {a : Int}, xs.foldl min a ≤ a ∧ (∀ x ∈ xs, xs.foldl min a ≤ x) ∧ (xs.foldl min a = a ∨ xs.foldl min a ∈ xs) := by
  induction xs with
  | nil => intro a; exact ⟨Int.le_refl _, (fun x hx => nomatch hx), .inl rfl⟩
  | cons y xs ih =>
    intro a
    obtain ⟨h1, h2, h3⟩ := ih (a := min a y)
    rw [List.foldl_cons]
    refine ⟨by omega, fun x hx => ?_, ?_⟩
    · rcases List.mem_cons.mp hx with rfl | hx
      · omega
      · exact h2 x hx
    · rcases h3 with h3 | h3
      · by_cases h : a ≤ y
        · left; rw [h3]; omega
        · right; rw [h3]; have : min a y = y := by omega
          rw [this]; exact List.mem_cons_self
      · exact .inr (List.mem_cons_of_mem _ h3)
/-- the greatest number -/
theorem maxM_spec {xs : List Int} (h : xs ≠ []) : ∃ m, maxM xs = some m ∧ m ∈ xs ∧ ∀ x ∈ xs, x ≤ m := by
  cases xs with
  | nil => exact (h rfl).elim
  | cons y xs =>
    obtain ⟨h1, h2, h3⟩ := foldl_max (xs := y :: xs) (a := y)
    refine ⟨_, rfl, ?_, fun x hx => h2 x hx⟩
    rcases h3 with h3 | h3
    · show List.foldl max y (y :: xs) ∈ _
      rw [h3]; exact List.mem_cons_self
    · exact h3
theorem minM_spec {xs : List Int} (h : xs ≠ []) : ∃ m, minM xs = some m ∧ m ∈ xs ∧ ∀ x ∈ xs, m ≤ x := by
  cases xs with
  | nil => exact (h rfl).elim
  | cons y xs =>
    obtain ⟨h1, h2, h3⟩ := foldl_min (xs := y :: xs) (a := y)
    refine ⟨_, rfl, ?_, fun x hx => h2 x hx⟩
    rcases h3 with h3 | h3
    · show List.foldl min y (y :: xs) ∈ _
      rw [h3]; exact List.mem_cons_self
    · exact h3
theorem maxM_of {xs : List Int} {m : Int} (hm : m ∈ xs) (h : ∀ x ∈ xs, x ≤ m) : maxM xs = some m := by
  obtain ⟨k, e, h1, h2⟩ := maxM_spec (xs := xs) (fun e => by subst e; cases hm)
  have := h k h1
  have := h2 m hm
  rw [e]; congr 1; omega
theorem minM_of {xs : List Int} {m : Int} (hm : m ∈ xs) (h : ∀ x ∈ xs, m ≤ x) : minM xs = some m := by
  obtain ⟨k, e, h1, h2⟩ := minM_spec (xs := xs) (fun e => by subst e; cases hm)
  have := h k h1
  have := h2 m hm
  rw [e]; congr 1; omega
/-- the first place -/
theorem idxM_of {α : Type} [DecidableEq α] {xs : List α} {a : α} {i : Nat} (h : xs[i]? = some a) (hl : ∀ j, j < i → xs[j]? ≠ some a) : idxM xs a = some (i : Int) := by
  have hi := (List.getElem?_eq_some_iff.mp h).1
  have : xs.findIdx? (fun z => decide (z = a)) = some i := by
    rw [List.findIdx?_eq_some_iff_getElem]
    refine ⟨hi, ?_, fun j hj => ?_⟩
    · rw [List.getElem?_eq_getElem hi] at h
      cases h; simp
    · have h2 := hl j hj
      have hj' : j < xs.length := by omega
      rw [List.getElem?_eq_getElem hj'] at h2
      simpa using fun e => h2 (by rw [e])
  unfold idxM
  rw [this]; rfl
theorem idxM_mem {α : Type} [DecidableEq α] {xs : List α} {a : α} (h : a ∈ xs) : ∃ i : Nat, idxM xs a = some (i : Int) ∧ xs[i]? = some a ∧ ∀ j, j < i → xs[j]? ≠ some a := by
  cases e : xs.findIdx? (fun z => decide (z = a)) with
  | none =>
    rw [List.findIdx?_eq_none_iff] at e
    have := e a h
    simp at this
  | some i =>
    obtain ⟨hi, h1, h2⟩ := List.findIdx?_eq_some_iff_getElem.mp e
    have hx : xs[i]? = some a := by rw [List.getElem?_eq_getElem hi]; simpa using h1
    have hl : ∀ j, j < i → xs[j]? ≠ some a := fun j hj => by
      have h3 := h2 j hj
      rw [List.getElem?_eq_getElem (by omega)]
      simpa using h3
    exact ⟨i, idxM_of hx hl, hx, hl⟩
/-- numbers as data that repr shows -/
theorem nc_ints {xs : List Int} {n : Nat} (h : ∀ x ∈ xs, -1000000 ≤ x ∧ x ≤ 1000000) (hn : xs.length ≤ n) : Nc (eT eI xs) (42 * n) 1 :=
  (nc_tuple (nc_map fun a ha => nc_small (h a ha).1 (h a ha).2)).mono (by rw [List.length_map]; exact Nat.mul_le_mul_left _ hn) (Nat.le_refl _)
theorem nc_intsL {xs : List Int} {n : Nat} (h : ∀ x ∈ xs, -1000000 ≤ x ∧ x ≤ 1000000) (hn : xs.length ≤ n) : Nc (eL eI xs) (42 * n) 1 :=
  (nc_list (nc_map fun a ha => nc_small (h a ha).1 (h a ha).2)).mono (by rw [List.length_map]; exact Nat.mul_le_mul_left _ hn) (Nat.le_refl _)
/-! sorting as the kernel can work it out -/
def insB {α : Type} (le : α → α → Bool) (a : α) : List α → List α
  | [] => [a]
  | b :: r => if le a b = true then a :: b :: r else b :: insB le a r
theorem insB_of {α : Type} {le : α → α → Bool} {a : α} : ∀ {l₁ l₂ : List α}, (∀ b ∈ l₁, (!le a b) = true) → (∀ b, l₂.head? = some b → le a b = true) → insB le a (l₁ ++ l₂) = l₁ ++ a :: l₂
  | [], [], _, _ => rfl
  | [], b :: r, _, h => by simp [insB, h b rfl]
  | c :: l₁, l₂, h1, h2 => by
    have hc := h1 c List.mem_cons_self
    simp only [Bool.not_eq_true'] at hc
    simp only [List.cons_append, insB, hc, Bool.false_eq_true, if_false]
    rw [insB_of (fun b hb => h1 b (List.mem_cons_of_mem _ hb)) h2]
theorem mergeSort_ins {α : Type} {le : α → α → Bool} (ht : ∀ a b c, le a b = true → le b c = true → le a c = true) (ho : ∀ a b, (le a b || le b a) = true) : ∀ l : List α, l.mergeSort le = l.foldr (insB le) []
  | [] => by simp
  | a :: l => by
    obtain ⟨l₁, l₂, h1, h2, h3⟩ := List.mergeSort_cons ht ho a l
    have hp := List.pairwise_mergeSort ht ho (a :: l)
    rw [h1] at hp ⊢
    rw [List.foldr_cons, ← mergeSort_ins ht ho l, h2]
    refine (insB_of h3 fun b hb => ?_).symm
    obtain ⟨_, h4, _⟩ := List.pairwise_append.mp hp
    exact (List.pairwise_cons.mp h4).1 b (List.mem_of_mem_head? (by rw [hb]; rfl))
theorem srtI_ins (xs : List Int) : srt eI xs = xs.foldr (insB fun a b => decide (a ≤ b)) [] := by
  unfold srt
  simp only [le_eI]
  exact mergeSort_ins (fun a b c h1 h2 => by simp at *; omega) (fun a b => by simp; omega) xs
end Iv

namespace Iv
set_option maxHeartbeats 4000000
open PySem L2
theorem e_lot_excess : defs "lot_excess" = some c_lot_excess := d_lot_excess
theorem e_greatest_lot : defs "greatest_lot" = some c_greatest_lot := d_greatest_lot
theorem e_worst_lot : defs "worst_lot" = some c_worst_lot := d_worst_lot
theorem e_greatest_excess : defs "greatest_excess" = some c_greatest_excess := d_greatest_excess
theorem e__law_pick : defs "_law_pick" = some c__law_pick := d__law_pick
theorem e__law_of : defs "_law_of" = some c__law_of := d__law_of
theorem e__law_degrees : defs "_law_degrees" = some c__law_degrees := d__law_degrees
theorem e__law_all_pairs : defs "_law_all_pairs" = some c__law_all_pairs := d__law_all_pairs
theorem e__law_web : defs "_law_web" = some c__law_web := d__law_web
theorem e__law_row : defs "_law_row" = some c__law_row := d__law_row
theorem e__law_excess : defs "_law_excess" = some c__law_excess := d__law_excess
theorem e__law_told_lot : defs "_law_told_lot" = some c__law_told_lot := d__law_told_lot
theorem e__law_lots : defs "_law_lots" = some c__law_lots := d__law_lots
theorem rr_pick {k : Nat} (hk : 1 ≤ k) (s : D) (n : Int) : CJ (tab defs FUEL k) "_law_pick" [⟨.deep, true, s⟩, ⟨.imm, true, .int n⟩] (pickM s n) (fun b => ⟨.imm, .fr, .int b.1⟩) (fun b => [some ⟨.deep, true, b.2⟩, none]) := r_pick e__law_pick hk s n
def m__law_of (source_ : D) (some_ : (List Int)) : Option (Int × D) :=
  (Option.bind (pickM source_ ((List.length some_ : Nat) : Int)) fun b1 => (Option.map (fun (y : Int) => (y, b1.2)) (atI some_ b1.1)))

theorem r__law_of {k : Nat} (hk : 2 ≤ k) (source_ : D) (some_ : (List Int)) : CJ (tab defs FUEL k) "_law_of" [⟨.deep, true, eA source_⟩, ⟨.flat, true, (eL eI) some_⟩] (m__law_of source_ some_) (fun b => ⟨.imm, .fr, eI b.1⟩) (fun b => [some ⟨.deep, true, eA b.2⟩, none]) := by
  obtain ⟨k, rfl⟩ : ∃ j, k = j + 1 := ⟨k - 1, by omega⟩
  unfold m__law_of
  exact fn_step (rs := fun b => [some (some ⟨.deep, true, eA b.2⟩), none]) e__law_of rfl (rj_retP (ej_ix (val := (fun (b : Int × D) => ⟨.imm, .fr, eI b.1⟩)) (sp' := (fun (b : Int × D) => [some (some ⟨.deep, true, eA b.2⟩), some (some ⟨.flat, true, (eL eI) some_⟩)])) (aj_t (show ET _ _ _ ⟨.flat, (.sl 1), (eL eI) some_⟩ from (et_varO rfl rfl)) (aj_j (ej_call (val := (fun (b : Int × D) => ⟨.imm, .fr, eI b.1⟩)) (sp' := (fun (b : Int × D) => [some (some ⟨.deep, true, eA b.2⟩), some (some ⟨.flat, true, (eL eI) some_⟩)])) (io_of e__law_pick rfl) (aj_t (show ET _ _ _ ⟨.deep, (.sl 0), eA source_⟩ from (et_varO rfl rfl)) (aj_t (show ET _ _ _ ⟨.imm, .fr, eI ((List.length some_ : Nat) : Int)⟩ from (et_p1 (show ET _ _ _ ⟨.flat, (.sl 1), (eL eI) some_⟩ from (et_varO rfl rfl)) q_lenL)) (aj_nil (fcall_p rfl (rr_pick (by omega) source_ ((List.length some_ : Nat) : Int)) (fun _ => rfl) (fun _ => rfl)))))) (fun b1 => (aj_nil (fix_m (mk := fun (y : Int) => (y, b1.2)) (q_ixL imI) (fun _ => rfl) (fun _ => rfl))))))) (fun _ => (ret_fr rfl)) (fun _ => (.eq (.any .nil)))) (fun _ => rfl)

def m__law_all_pairs (n_ : Int) : Option ((List (Int × Int))) :=
  (Option.bind (rangeM 0 n_) fun b2 => forM' (fun (s3 : (List (Int × Int))) (a1 : Int) => (Option.bind (Option.bind (rangeM (a1 + 1) n_) fun b5 => compT (fun (a4 : Int) => true) (fun (a4 : Int) => (a1, a4)) b5) fun b7 => (addM s3 b7))) b2 [])

theorem r__law_all_pairs {k : Nat} (hk : 1 ≤ k) (n_ : Int) : CJ (tab defs FUEL k) "_law_all_pairs" [⟨.imm, true, eI n_⟩] (m__law_all_pairs n_) (fun b => ⟨.flat, .fr, (eL (eP2 eI eI)) b⟩) (fun b => [none]) := by
  obtain ⟨k, rfl⟩ : ∃ j, k = j + 1 := ⟨k - 1, by omega⟩
  unfold m__law_all_pairs
  exact fn_step (rs := fun b => [none, none, none, none]) e__law_all_pairs rfl (rj_t (xt_asg (show ET _ _ _ ⟨.flat, .fr, (eL (eP2 eI eI)) []⟩ from (et_lst at_nil rfl rfl rfl rfl rfl rfl)) (tg_nm rfl rfl)) (rj_jid (xj_for (V := fun a1 => ⟨.imm, .fr, eI a1⟩) (spL := fun (s3 : (List (Int × Int))) => [some (some ⟨.imm, true, eI n_⟩), some (some ⟨.flat, true, (eL (eP2 eI eI)) s3⟩), none, some none]) (spT := fun (s3 : (List (Int × Int))) (a1 : Int) => [some (some ⟨.imm, true, eI n_⟩), some (some ⟨.flat, true, (eL (eP2 eI eI)) s3⟩), some (some ⟨.imm, true, eI a1⟩), some none]) (mb := fun (s3 : (List (Int × Int))) (a1 : Int) => (Option.bind (Option.bind (rangeM (a1 + 1) n_) fun b5 => compT (fun (a4 : Int) => true) (fun (a4 : Int) => (a1, a4)) b5) fun b7 => (addM s3 b7))) (s0 := fun (b2 : (List Int)) => []) (ij_p (V := fun a => ⟨.imm, .fr, eI a⟩) (fun _ _ _ => rfl) (at_cons (show ET _ _ _ ⟨.imm, .fr, eI n_⟩ from (et_var rfl)) at_nil) rfl w_rng1 rfl) (fun b2 => (.eq (.eq (.any (.eq .nil))))) (fun s3 a1 => (tg_nm rfl rfl)) (fun s3 a1 => (bj_jid (xj_asg (sp2 := fun (found8 : (List (Int × Int))) => [some (some ⟨.imm, true, eI n_⟩), some (some ⟨.flat, true, (eL (eP2 eI eI)) found8⟩), some (some ⟨.imm, true, eI a1⟩), some none]) (ej_p2 (val := (fun (b : (List (Int × Int))) => ⟨.flat, .fr, (eL (eP2 eI eI)) b⟩)) (sp' := (fun (b : (List (Int × Int))) => [some (some ⟨.imm, true, eI n_⟩), some (some ⟨.flat, true, (eL (eP2 eI eI)) s3⟩), some (some ⟨.imm, true, eI a1⟩), some none])) (aj_t (show ET _ _ _ ⟨.flat, (.sl 1), (eL (eP2 eI eI)) s3⟩ from (et_varO rfl rfl)) (aj_j (ej_compT (own := [3]) (dp := false) (V := fun (a4 : Int) => ⟨.imm, .fr, eI a4⟩) (enc := (eP2 eI eI)) (ke := .imm) (sp1 := fun (b5 : (List Int)) => [some (some ⟨.imm, true, eI n_⟩), some (some ⟨.flat, true, (eL (eP2 eI eI)) s3⟩), some (some ⟨.imm, true, eI a1⟩), some none]) (spC := [some (some ⟨.imm, true, eI n_⟩), some (some ⟨.flat, true, (eL (eP2 eI eI)) s3⟩), some (some ⟨.imm, true, eI a1⟩), some none]) (spT := fun (a4 : Int) => [some (some ⟨.imm, true, eI n_⟩), some (some ⟨.flat, true, (eL (eP2 eI eI)) s3⟩), some (some ⟨.imm, true, eI a1⟩), some (some ⟨.imm, true, eI a4⟩)]) (c := fun (a4 : Int) => true) (g := fun (a4 : Int) => (a1, a4)) (sp' := [some (some ⟨.imm, true, eI n_⟩), some (some ⟨.flat, true, (eL (eP2 eI eI)) s3⟩), some (some ⟨.imm, true, eI a1⟩), some none]) (ij_p (V := fun a => ⟨.imm, .fr, eI a⟩) (fun _ _ _ => rfl) (at_cons (show ET _ _ _ ⟨.imm, .fr, eI (a1 + 1)⟩ from (et_p2 (show ET _ _ _ ⟨.imm, .fr, eI a1⟩ from (et_var rfl)) (show ET _ _ _ ⟨.imm, .fr, eI 1⟩ from et_con) q_add)) (at_cons (show ET _ _ _ ⟨.imm, .fr, eI n_⟩ from (et_var rfl)) at_nil)) rfl w_rng2 rfl) (fun b5 => (.eq (.eq (.eq (.eq .nil))))) (fun (a4 : Int) => (tg_nm rfl rfl)) (fun (a4 : Int) => (show ET _ _ _ ⟨.imm, .fr, eB true⟩ from et_con)) (fun (a4 : Int) => (show ET _ _ _ ⟨.imm, .fr, (eP2 eI eI) (a1, a4)⟩ from (et_tup (at_cons (show ET _ _ _ ⟨.imm, .fr, eI a1⟩ from (et_var rfl)) (at_cons (show ET _ _ _ ⟨.imm, .fr, eI a4⟩ from (et_var rfl)) at_nil)) rfl rfl rfl rfl rfl rfl))) (fun (a4 : Int) => (.eq (.eq (.eq (.eq .nil))))) rfl (fun _ => rfl)) (fun b7 => (aj_nil (fp2_p (q_addL (imP2 imI imI)) (fun _ => rfl) (fun _ => rfl))))))) (fun found8 => (tg_nm rfl rfl))) (fun found8 => (bj_nil (.eq (.eq (.any (.eq .nil))))))))) (fun s3 => (rj_ret (show ET _ _ _ ⟨.flat, (.sl 1), (eL (eP2 eI eI)) s3⟩ from (et_varO rfl rfl)) (ret_sl rfl rfl) (.any (.any (.eq (.any .nil)))))))) (fun _ => rfl)

def m__law_web (source_ : D) (n_ : Int) : Option ((Int × (List (Int × Int))) × D) :=
  (Option.bind (m__law_of source_ [1, 2, 2, 3]) fun share1 => (Option.bind (Option.bind (m__law_all_pairs n_) fun b4 => fitM (List.length b4) (compS (fun (s5 : (D)) (a3 : (Int × Int)) => (Option.bind (pickM s5 4) fun b6 => (some ((decide (b6.1 < share1.1)), b6.2)))) (fun (s5 : (D)) (a3 : (Int × Int)) => (some (a3, s5))) b4 share1.2)) fun b8 => (some ((n_, b8.1), b8.2))))

theorem r__law_web {k : Nat} (hk : 3 ≤ k) (source_ : D) (n_ : Int) : CJ (tab defs FUEL k) "_law_web" [⟨.deep, true, eA source_⟩, ⟨.imm, true, eI n_⟩] (m__law_web source_ n_) (fun b => ⟨.imm, .fr, (eP2 eI (eT (eP2 eI eI))) b.1⟩) (fun b => [some ⟨.deep, true, eA b.2⟩, none]) := by
  obtain ⟨k, rfl⟩ : ∃ j, k = j + 1 := ⟨k - 1, by omega⟩
  unfold m__law_web
  exact fn_step (rs := fun b => [some (some ⟨.deep, true, eA b.2⟩), none, none, none]) e__law_web rfl (rj_j (xj_asg (sp2 := fun (share1 : Int × D) => [some (some ⟨.deep, true, eA share1.2⟩), some (some ⟨.imm, true, eI n_⟩), some (some ⟨.imm, true, eI share1.1⟩), some none]) (ej_call (val := (fun (b : Int × D) => ⟨.imm, .fr, eI b.1⟩)) (sp' := (fun (b : Int × D) => [some (some ⟨.deep, true, eA b.2⟩), some (some ⟨.imm, true, eI n_⟩), some none, some none])) (io_of e__law_of rfl) (aj_t (show ET _ _ _ ⟨.deep, (.sl 0), eA source_⟩ from (et_varO rfl rfl)) (aj_t (show ET _ _ _ ⟨.flat, .fr, (eL eI) [1, 2, 2, 3]⟩ from (et_lst (at_cons (show ET _ _ _ ⟨.imm, .fr, eI 1⟩ from et_con) (at_cons (show ET _ _ _ ⟨.imm, .fr, eI 2⟩ from et_con) (at_cons (show ET _ _ _ ⟨.imm, .fr, eI 2⟩ from et_con) (at_cons (show ET _ _ _ ⟨.imm, .fr, eI 3⟩ from et_con) at_nil)))) rfl rfl rfl rfl rfl rfl)) (aj_nil (fcall_p rfl (r__law_of (by omega) source_ [1, 2, 2, 3]) (fun _ => rfl) (fun _ => rfl)))))) (fun share1 => (tg_nm rfl rfl))) (fun share1 => (rj_retP (ej_tup (val := (fun (b : (Int × (List (Int × Int))) × D) => ⟨.imm, .fr, (eP2 eI (eT (eP2 eI eI))) b.1⟩)) (sp' := (fun (b : (Int × (List (Int × Int))) × D) => [some (some ⟨.deep, true, eA b.2⟩), some (some ⟨.imm, true, eI n_⟩), some (some ⟨.imm, true, eI share1.1⟩), some none])) (aj_t (show ET _ _ _ ⟨.imm, .fr, eI n_⟩ from (et_var rfl)) (aj_j (ej_p1 (val := (fun (b : (List (Int × Int)) × D) => ⟨.imm, .fr, (eT (eP2 eI eI)) b.1⟩)) (sp' := (fun (b : (List (Int × Int)) × D) => [some (some ⟨.deep, true, eA b.2⟩), some (some ⟨.imm, true, eI n_⟩), some (some ⟨.imm, true, eI share1.1⟩), some none])) (aj_jid (ej_compS (own := [3]) (dp := false) (V := fun (a3 : (Int × Int)) => ⟨.imm, .fr, (eP2 eI eI) a3⟩) (enc := (eP2 eI eI)) (ke := .imm) (sp1 := fun (b4 : (List (Int × Int))) => [some (some ⟨.deep, true, eA share1.2⟩), some (some ⟨.imm, true, eI n_⟩), some (some ⟨.imm, true, eI share1.1⟩), some none]) (spC := fun (s5 : (D)) => [some (some ⟨.deep, true, eA s5⟩), some (some ⟨.imm, true, eI n_⟩), some (some ⟨.imm, true, eI share1.1⟩), some none]) (spT := fun (s5 : (D)) (a3 : (Int × Int)) => [some (some ⟨.deep, true, eA s5⟩), some (some ⟨.imm, true, eI n_⟩), some (some ⟨.imm, true, eI share1.1⟩), some (some ⟨.imm, true, (eP2 eI eI) a3⟩)]) (mc := fun (s5 : (D)) (a3 : (Int × Int)) => (Option.bind (pickM s5 4) fun b6 => (some ((decide (b6.1 < share1.1)), b6.2)))) (me := fun (s5 : (D)) (a3 : (Int × Int)) => (some (a3, s5))) (sp' := fun (s5 : (D)) => [some (some ⟨.deep, true, eA s5⟩), some (some ⟨.imm, true, eI n_⟩), some (some ⟨.imm, true, eI share1.1⟩), some none]) (s0 := fun (b4 : (List (Int × Int))) => share1.2) (ij_j (V := fun (a : (Int × Int)) => ⟨.imm, .fr, (eP2 eI eI) a⟩) (xs := fun (b : (List (Int × Int))) => b) (sp' := (fun (b : (List (Int × Int))) => [some (some ⟨.deep, true, eA share1.2⟩), some (some ⟨.imm, true, eI n_⟩), some (some ⟨.imm, true, eI share1.1⟩), some none])) (fun _ _ _ => rfl) (aj_jid (ej_call (val := (fun (b : (List (Int × Int))) => ⟨.flat, .fr, (eL (eP2 eI eI)) b⟩)) (sp' := (fun (b : (List (Int × Int))) => [some (some ⟨.deep, true, eA share1.2⟩), some (some ⟨.imm, true, eI n_⟩), some (some ⟨.imm, true, eI share1.1⟩), some none])) (io_of e__law_all_pairs rfl) (aj_t (show ET _ _ _ ⟨.imm, .fr, eI n_⟩ from (et_var rfl)) (aj_nil (fcall_p rfl (r__law_all_pairs (by omega) n_) (fun _ => rfl) (fun _ => rfl))))) (fun b2 => (aj_nil (ijl_t rfl rfl (w_L (imP2 imI imI)) rfl trivial))))) (fun b4 => (.eq (.eq (.eq (.eq .nil))))) (fun (s5 : (D)) (a3 : (Int × Int)) => (tg_nm rfl rfl)) (fun (s5 : (D)) (a3 : (Int × Int)) => (ej_p2 (val := (fun (b : Bool × D) => ⟨.imm, .fr, eB b.1⟩)) (sp' := (fun (b : Bool × D) => [some (some ⟨.deep, true, eA b.2⟩), some (some ⟨.imm, true, eI n_⟩), some (some ⟨.imm, true, eI share1.1⟩), some (some ⟨.imm, true, (eP2 eI eI) a3⟩)])) (aj_j (ej_call (val := (fun (b : Int × D) => ⟨.imm, .fr, eI b.1⟩)) (sp' := (fun (b : Int × D) => [some (some ⟨.deep, true, eA b.2⟩), some (some ⟨.imm, true, eI n_⟩), some (some ⟨.imm, true, eI share1.1⟩), some (some ⟨.imm, true, (eP2 eI eI) a3⟩)])) (io_of e__law_pick rfl) (aj_t (show ET _ _ _ ⟨.deep, (.sl 0), eA s5⟩ from (et_varO rfl rfl)) (aj_t (show ET _ _ _ ⟨.imm, .fr, eI 4⟩ from et_con) (aj_nil (fcall_p rfl (rr_pick (by omega) s5 4) (fun _ => rfl) (fun _ => rfl)))))) (fun b6 => (aj_t (show ET _ _ _ ⟨.imm, .fr, eI share1.1⟩ from (et_var rfl)) (aj_nil (fp2_t q_lt rfl rfl))))))) (fun (s5 : (D)) (a3 : (Int × Int)) => (ej_t (val := fun (q : (Int × Int) × (D)) => ⟨.imm, .fr, (eP2 eI eI) q.1⟩) (sp' := fun (q : (Int × Int) × (D)) => [some (some ⟨.deep, true, eA q.2⟩), some (some ⟨.imm, true, eI n_⟩), some (some ⟨.imm, true, eI share1.1⟩), some (some ⟨.imm, true, (eP2 eI eI) a3⟩)]) (show ET _ _ _ ⟨.imm, .fr, (eP2 eI eI) a3⟩ from (et_var rfl)) rfl rfl)) (fun (s5 : (D)) (a3 : (Int × Int)) => (.eq (.eq (.eq (.eq .nil))))) rfl (fun _ _ => rfl)) (fun b7 => (aj_nil (fp1_t (q_tupleL (imP2 imI imI)) rfl rfl))))) (fun b8 => (aj_nil (ftup_t rfl rfl rfl rfl)))))) (fun _ => (ret_fr rfl)) (fun _ => (.eq (.any (.any (.any .nil)))))))) (fun _ => rfl)

def m__law_degrees (web_ : (Int × (List (Int × Int)))) : Option ((List Int)) :=
  (Option.bind (rangeM 0 web_.1) fun b2 => compM (fun (a1 : Int) => (some true)) (fun (a1 : Int) => (Option.bind (compT (fun (a4 : (Int × Int)) => (inB a1 [a4.1, a4.2])) (fun (a4 : (Int × Int)) => (1 : Int)) web_.2) fun b6 => (some ((List.length b6 : Nat) : Int)))) b2)

theorem r__law_degrees {k : Nat} (hk : 1 ≤ k) (web_ : (Int × (List (Int × Int)))) : CJ (tab defs FUEL k) "_law_degrees" [⟨.imm, true, (eP2 eI (eT (eP2 eI eI))) web_⟩] (m__law_degrees web_) (fun b => ⟨.imm, .fr, (eT eI) b⟩) (fun b => [none]) := by
  obtain ⟨k, rfl⟩ : ∃ j, k = j + 1 := ⟨k - 1, by omega⟩
  unfold m__law_degrees
  exact fn_step (rs := fun b => [none, none, none]) e__law_degrees rfl (rj_retP (ej_p1 (val := (fun (b : (List Int)) => ⟨.imm, .fr, (eT eI) b⟩)) (sp' := (fun (b : (List Int)) => [some (some ⟨.imm, true, (eP2 eI (eT (eP2 eI eI))) web_⟩), some none, some none])) (aj_jid (ej_compM (own := [1]) (dp := false) (V := fun (a1 : Int) => ⟨.imm, .fr, eI a1⟩) (enc := eI) (ke := .imm) (sp1 := fun (b2 : (List Int)) => [some (some ⟨.imm, true, (eP2 eI (eT (eP2 eI eI))) web_⟩), some none, some none]) (spC := [some (some ⟨.imm, true, (eP2 eI (eT (eP2 eI eI))) web_⟩), some none, some none]) (spT := fun (a1 : Int) => [some (some ⟨.imm, true, (eP2 eI (eT (eP2 eI eI))) web_⟩), some (some ⟨.imm, true, eI a1⟩), some none]) (mc := fun (a1 : Int) => (some true)) (me := fun (a1 : Int) => (Option.bind (compT (fun (a4 : (Int × Int)) => (inB a1 [a4.1, a4.2])) (fun (a4 : (Int × Int)) => (1 : Int)) web_.2) fun b6 => (some ((List.length b6 : Nat) : Int)))) (sp' := [some (some ⟨.imm, true, (eP2 eI (eT (eP2 eI eI))) web_⟩), some none, some none]) (ij_p (V := fun a => ⟨.imm, .fr, eI a⟩) (fun _ _ _ => rfl) (at_cons (show ET _ _ _ ⟨.imm, .fr, eI web_.1⟩ from (et_ix (show ET _ _ _ ⟨.imm, .fr, (eP2 eI (eT (eP2 eI eI))) web_⟩ from (et_var rfl)) (show ET _ _ _ ⟨.imm, .fr, eI 0⟩ from et_con) (ix_tup rfl (imI _)))) at_nil) rfl w_rng1 rfl) (fun b2 => (.eq (.eq (.eq .nil)))) (fun (a1 : Int) => (tg_nm rfl rfl)) (fun (a1 : Int) => (ej_t (val := fun (b : Bool) => ⟨.imm, .fr, eB b⟩) (sp' := fun _ => [some (some ⟨.imm, true, (eP2 eI (eT (eP2 eI eI))) web_⟩), some (some ⟨.imm, true, eI a1⟩), some none]) (show ET _ _ _ ⟨.imm, .fr, eB true⟩ from et_con) rfl rfl)) (fun (a1 : Int) => (ej_p1 (val := (fun (b : Int) => ⟨.imm, .fr, eI b⟩)) (sp' := (fun (b : Int) => [some (some ⟨.imm, true, (eP2 eI (eT (eP2 eI eI))) web_⟩), some (some ⟨.imm, true, eI a1⟩), some none])) (aj_j (ej_compT0 (own := [2]) (dp := false) (V := fun (a4 : (Int × Int)) => ⟨.imm, .fr, (eP2 eI eI) a4⟩) (enc := eI) (ke := .imm) (sp1 := [some (some ⟨.imm, true, (eP2 eI (eT (eP2 eI eI))) web_⟩), some (some ⟨.imm, true, eI a1⟩), some none]) (spC := [some (some ⟨.imm, true, (eP2 eI (eT (eP2 eI eI))) web_⟩), some (some ⟨.imm, true, eI a1⟩), some none]) (spT := fun (a4 : (Int × Int)) => [some (some ⟨.imm, true, (eP2 eI (eT (eP2 eI eI))) web_⟩), some (some ⟨.imm, true, eI a1⟩), some (some ⟨.imm, true, (eP2 eI eI) a4⟩)]) (c := fun (a4 : (Int × Int)) => (inB a1 [a4.1, a4.2])) (g := fun (a4 : (Int × Int)) => (1 : Int)) (sp' := [some (some ⟨.imm, true, (eP2 eI (eT (eP2 eI eI))) web_⟩), some (some ⟨.imm, true, eI a1⟩), some none]) (ij_t (V := fun (a : (Int × Int)) => ⟨.imm, .fr, (eP2 eI eI) a⟩) (fun _ _ _ => rfl) (at_cons (show ET _ _ _ ⟨.imm, .fr, (eT (eP2 eI eI)) web_.2⟩ from (et_ix (show ET _ _ _ ⟨.imm, .fr, (eP2 eI (eT (eP2 eI eI))) web_⟩ from (et_var rfl)) (show ET _ _ _ ⟨.imm, .fr, eI 1⟩ from et_con) (ix_tup rfl ((imT (imP2 imI imI)) _)))) at_nil) rfl (w_T (imP2 imI imI)) rfl) (.eq (.eq (.eq .nil))) (fun (a4 : (Int × Int)) => (tg_nm rfl rfl)) (fun (a4 : (Int × Int)) => (show ET _ _ _ ⟨.imm, .fr, eB (inB a1 [a4.1, a4.2])⟩ from (et_p2 (show ET _ _ _ ⟨.imm, .fr, eI a1⟩ from (et_var rfl)) (show ET _ _ _ ⟨.imm, .fr, (eP2 eI eI) a4⟩ from (et_var rfl)) (q_inT (f := eI) (xs := [a4.1, a4.2]) layI rfl eqvI)))) (fun (a4 : (Int × Int)) => (show ET _ _ _ ⟨.imm, .fr, eI (1 : Int)⟩ from et_con)) (fun (a4 : (Int × Int)) => (.eq (.eq (.eq .nil)))) rfl rfl) (fun b6 => (aj_nil (fp1_t q_lenL rfl rfl)))))) (fun (a1 : Int) => (.eq (.eq (.eq .nil)))) rfl (fun _ => rfl)) (fun b7 => (aj_nil (fp1_t (q_tupleL imI) rfl rfl))))) (fun _ => (ret_fr rfl)) (fun _ => (.any (.any (.any .nil))))) (fun _ => rfl)

def m__law_row (source_ : D) (n_ : Int) : Option ((List Int) × D) :=
  (Option.bind (Option.bind (pickM source_ 6) fun b1 => (Option.bind (Option.bind (m__law_web b1.2 n_) fun b2 => (Option.map (fun (y : (List Int)) => (y, b2.2)) (m__law_degrees b2.1))) fun b4 => (some (b4.2, b1.1, b4.1)))) fun b5 => (if (decide (b5.2.1 < 2)) = true then (some (b5.2.2, b5.1)) else (if (decide (b5.2.1 < 4)) = true then (Option.bind (Option.bind (Option.bind (Option.bind (pickM b5.1 3) fun b6 => (some ((1 + b6.1), b6.2))) fun b7 => (Option.map (fun (y : List Int) => (y, b7.2)) (rangeM 0 b7.1))) fun b9 => forM' (fun (s10 : D × (List Int)) (a8 : Int) => (Option.bind (pickM s10.1 n_) fun k11 => (Option.bind (Option.bind (Option.bind (atI s10.2 k11.1) fun b13 => (Option.bind (m__law_of k11.2 [1, 1, (-1), 2]) fun b14 => (some ((b13 + b14.1), b14.2)))) fun b15 => (some ((max 0 b15.1), b15.2))) fun q16 => Option.bind (some ()) fun z17 => (Option.map (fun (y : (List Int)) => (q16.2, y)) (putM s10.2 k11.1 q16.1))))) b9.1 (b9.2, b5.2.2)) fun s10 => (some (s10.2, s10.1))) else (Option.bind (if (eqB b5.2.1 4) = true then (some ((n_ + 1), b5.1)) else (m__law_of b5.1 [2, 3, 99])) fun most18 => (Option.bind (rangeM 0 n_) fun b20 => fitM (List.length b20) (compS (fun (s21 : (D)) (a19 : Int) => (some (true, s21))) (fun (s21 : (D)) (a19 : Int) => (pickM s21 (most18.1 + 1))) b20 most18.2))))))

theorem r__law_row {k : Nat} (hk : 4 ≤ k) (source_ : D) (n_ : Int) : CJ (tab defs FUEL k) "_law_row" [⟨.deep, true, eA source_⟩, ⟨.imm, true, eI n_⟩] (m__law_row source_ n_) (fun b => ⟨.imm, .fr, (eT eI) b.1⟩) (fun b => [some ⟨.deep, true, eA b.2⟩, none]) := by
  obtain ⟨k, rfl⟩ : ∃ j, k = j + 1 := ⟨k - 1, by omega⟩
  unfold m__law_row
  exact fn_step (rs := fun b => [some (some ⟨.deep, true, eA b.2⟩), none, none, none, none, none, none]) e__law_row rfl (rj_j (xj_par (sp' := (fun (b : D × Int × (List Int)) => [some (some ⟨.deep, true, eA b.1⟩), some (some ⟨.imm, true, eI n_⟩), some (some ⟨.imm, true, eI b.2.1⟩), some (some ⟨.flat, true, (eL eI) b.2.2⟩), some none, some none, some none])) (aj_j (ej_call (val := (fun (b : Int × D) => ⟨.imm, .fr, eI b.1⟩)) (sp' := (fun (b : Int × D) => [some (some ⟨.deep, true, eA b.2⟩), some (some ⟨.imm, true, eI n_⟩), some none, some none, some none, some none, some none])) (io_of e__law_pick rfl) (aj_t (show ET _ _ _ ⟨.deep, (.sl 0), eA source_⟩ from (et_varO rfl rfl)) (aj_t (show ET _ _ _ ⟨.imm, .fr, eI 6⟩ from et_con) (aj_nil (fcall_p rfl (rr_pick (by omega) source_ 6) (fun _ => rfl) (fun _ => rfl)))))) (fun b1 => (aj_j (ej_p1 (val := (fun (b : (List Int) × D) => ⟨.flat, .fr, (eL eI) b.1⟩)) (sp' := (fun (b : (List Int) × D) => [some (some ⟨.deep, true, eA b.2⟩), some (some ⟨.imm, true, eI n_⟩), some none, some none, some none, some none, some none])) (aj_jid (ej_call (val := (fun (b : (List Int) × D) => ⟨.imm, .fr, (eT eI) b.1⟩)) (sp' := (fun (b : (List Int) × D) => [some (some ⟨.deep, true, eA b.2⟩), some (some ⟨.imm, true, eI n_⟩), some none, some none, some none, some none, some none])) (io_of e__law_degrees rfl) (aj_j (ej_call (val := (fun (b : (Int × (List (Int × Int))) × D) => ⟨.imm, .fr, (eP2 eI (eT (eP2 eI eI))) b.1⟩)) (sp' := (fun (b : (Int × (List (Int × Int))) × D) => [some (some ⟨.deep, true, eA b.2⟩), some (some ⟨.imm, true, eI n_⟩), some none, some none, some none, some none, some none])) (io_of e__law_web rfl) (aj_t (show ET _ _ _ ⟨.deep, (.sl 0), eA b1.2⟩ from (et_varO rfl rfl)) (aj_t (show ET _ _ _ ⟨.imm, .fr, eI n_⟩ from (et_var rfl)) (aj_nil (fcall_p rfl (r__law_web (by omega) b1.2 n_) (fun _ => rfl) (fun _ => rfl)))))) (fun b2 => (aj_nil (fcall_m (mk := fun (y : (List Int)) => (y, b2.2)) rfl (r__law_degrees (by omega) b2.1) (fun _ => rfl) (fun _ => rfl) (fun _ => rfl)))))) (fun b3 => (aj_nil (fp1_t (q_listT imI) rfl rfl))))) (fun b4 => (aj_nil (fpar_t rfl rfl))))))) (fun b5 => (rj_ite (show ET _ _ _ ⟨.imm, .fr, eB (decide (b5.2.1 < 2))⟩ from (et_p2 (show ET _ _ _ ⟨.imm, .fr, eI b5.2.1⟩ from (et_var rfl)) (show ET _ _ _ ⟨.imm, .fr, eI 2⟩ from et_con) q_lt)) (rj_ret (show ET _ _ _ ⟨.imm, .fr, (eT eI) b5.2.2⟩ from (et_p1 (show ET _ _ _ ⟨.flat, (.sl 3), (eL eI) b5.2.2⟩ from (et_varO rfl rfl)) (q_tupleL imI))) (ret_fr rfl) (.eq (.any (.any (.any (.any (.any (.any .nil)))))))) (rj_ite (show ET _ _ _ ⟨.imm, .fr, eB (decide (b5.2.1 < 4))⟩ from (et_p2 (show ET _ _ _ ⟨.imm, .fr, eI b5.2.1⟩ from (et_var rfl)) (show ET _ _ _ ⟨.imm, .fr, eI 4⟩ from et_con) q_lt)) (rj_j (xj_for (V := fun a8 => ⟨.imm, .fr, eI a8⟩) (spL := fun (s10 : D × (List Int)) => [some (some ⟨.deep, true, eA s10.1⟩), some (some ⟨.imm, true, eI n_⟩), some (some ⟨.imm, true, eI b5.2.1⟩), some (some ⟨.flat, true, (eL eI) s10.2⟩), none, none, some none]) (spT := fun (s10 : D × (List Int)) (a8 : Int) => [some (some ⟨.deep, true, eA s10.1⟩), some (some ⟨.imm, true, eI n_⟩), some (some ⟨.imm, true, eI b5.2.1⟩), some (some ⟨.flat, true, (eL eI) s10.2⟩), some (some ⟨.imm, true, eI a8⟩), none, some none]) (mb := fun (s10 : D × (List Int)) (a8 : Int) => (Option.bind (pickM s10.1 n_) fun k11 => (Option.bind (Option.bind (Option.bind (atI s10.2 k11.1) fun b13 => (Option.bind (m__law_of k11.2 [1, 1, (-1), 2]) fun b14 => (some ((b13 + b14.1), b14.2)))) fun b15 => (some ((max 0 b15.1), b15.2))) fun q16 => Option.bind (some ()) fun z17 => (Option.map (fun (y : (List Int)) => (q16.2, y)) (putM s10.2 k11.1 q16.1))))) (s0 := fun (b9 : (List Int) × D) => (b9.2, b5.2.2)) (ij_j (V := fun a => ⟨.imm, .fr, eI a⟩) (xs := fun (b : (List Int) × D) => b.1) (L' := _) (sp' := (fun (b : (List Int) × D) => [some (some ⟨.deep, true, eA b.2⟩), some (some ⟨.imm, true, eI n_⟩), some (some ⟨.imm, true, eI b5.2.1⟩), some (some ⟨.flat, true, (eL eI) b5.2.2⟩), some none, some none, some none])) (fun _ _ _ => rfl) (aj_j (ej_p2 (val := (fun (b : Int × D) => ⟨.imm, .fr, eI b.1⟩)) (sp' := (fun (b : Int × D) => [some (some ⟨.deep, true, eA b.2⟩), some (some ⟨.imm, true, eI n_⟩), some (some ⟨.imm, true, eI b5.2.1⟩), some (some ⟨.flat, true, (eL eI) b5.2.2⟩), some none, some none, some none])) (aj_t (show ET _ _ _ ⟨.imm, .fr, eI 1⟩ from et_con) (aj_j (ej_call (val := (fun (b : Int × D) => ⟨.imm, .fr, eI b.1⟩)) (sp' := (fun (b : Int × D) => [some (some ⟨.deep, true, eA b.2⟩), some (some ⟨.imm, true, eI n_⟩), some (some ⟨.imm, true, eI b5.2.1⟩), some (some ⟨.flat, true, (eL eI) b5.2.2⟩), some none, some none, some none])) (io_of e__law_pick rfl) (aj_t (show ET _ _ _ ⟨.deep, (.sl 0), eA b5.1⟩ from (et_varO rfl rfl)) (aj_t (show ET _ _ _ ⟨.imm, .fr, eI 3⟩ from et_con) (aj_nil (fcall_p rfl (rr_pick (by omega) b5.1 3) (fun _ => rfl) (fun _ => rfl)))))) (fun b6 => (aj_nil (fp2_t q_add rfl rfl)))))) (fun b7 => (aj_nil (ijl_m (mk := fun (y : List Int) => (y, b7.2)) w_rng1 rfl rfl (fun _ => rfl) (fun _ => rfl)))))) (fun b9 => (.eq (.eq (.eq (.eq (.any (.any (.eq .nil)))))))) (fun s10 a8 => (tg_nm rfl rfl)) (fun s10 a8 => (bj_j (xj_asg (sp2 := fun (k11 : Int × D) => [some (some ⟨.deep, true, eA k11.2⟩), some (some ⟨.imm, true, eI n_⟩), some (some ⟨.imm, true, eI b5.2.1⟩), some (some ⟨.flat, true, (eL eI) s10.2⟩), some (some ⟨.imm, true, eI a8⟩), some (some ⟨.imm, true, eI k11.1⟩), some none]) (ej_call (val := (fun (b : Int × D) => ⟨.imm, .fr, eI b.1⟩)) (sp' := (fun (b : Int × D) => [some (some ⟨.deep, true, eA b.2⟩), some (some ⟨.imm, true, eI n_⟩), some (some ⟨.imm, true, eI b5.2.1⟩), some (some ⟨.flat, true, (eL eI) s10.2⟩), some (some ⟨.imm, true, eI a8⟩), none, some none])) (io_of e__law_pick rfl) (aj_t (show ET _ _ _ ⟨.deep, (.sl 0), eA s10.1⟩ from (et_varO rfl rfl)) (aj_t (show ET _ _ _ ⟨.imm, .fr, eI n_⟩ from (et_var rfl)) (aj_nil (fcall_p rfl (rr_pick (by omega) s10.1 n_) (fun _ => rfl) (fun _ => rfl)))))) (fun k11 => (tg_nm rfl rfl))) (fun k11 => (bj_jid (xj_set (d1 := fun q16 => (eL eI) s10.2) (sp' := (fun (b : D × (List Int)) => [some (some ⟨.deep, true, eA b.1⟩), some (some ⟨.imm, true, eI n_⟩), some (some ⟨.imm, true, eI b5.2.1⟩), some (some ⟨.flat, true, (eL eI) b.2⟩), some (some ⟨.imm, true, eI a8⟩), some (some ⟨.imm, true, eI k11.1⟩), some none])) rfl rfl rfl (ej_p2 (val := (fun (b : Int × D) => ⟨.imm, .fr, eI b.1⟩)) (sp' := (fun (b : Int × D) => [some (some ⟨.deep, true, eA b.2⟩), some (some ⟨.imm, true, eI n_⟩), some (some ⟨.imm, true, eI b5.2.1⟩), some (some ⟨.flat, true, (eL eI) s10.2⟩), some (some ⟨.imm, true, eI a8⟩), some (some ⟨.imm, true, eI k11.1⟩), some none])) (aj_t (show ET _ _ _ ⟨.imm, .fr, eI 0⟩ from et_con) (aj_j (ej_p2 (val := (fun (b : Int × D) => ⟨.imm, .fr, eI b.1⟩)) (sp' := (fun (b : Int × D) => [some (some ⟨.deep, true, eA b.2⟩), some (some ⟨.imm, true, eI n_⟩), some (some ⟨.imm, true, eI b5.2.1⟩), some (some ⟨.flat, true, (eL eI) s10.2⟩), some (some ⟨.imm, true, eI a8⟩), some (some ⟨.imm, true, eI k11.1⟩), some none])) (aj_j (ej_ix (val := (fun (b : Int) => ⟨.imm, .fr, eI b⟩)) (sp' := (fun (b : Int) => [some (some ⟨.deep, true, eA k11.2⟩), some (some ⟨.imm, true, eI n_⟩), some (some ⟨.imm, true, eI b5.2.1⟩), some (some ⟨.flat, true, (eL eI) s10.2⟩), some (some ⟨.imm, true, eI a8⟩), some (some ⟨.imm, true, eI k11.1⟩), some none])) (aj_t (show ET _ _ _ ⟨.flat, (.sl 3), (eL eI) s10.2⟩ from (et_varO rfl rfl)) (aj_t (show ET _ _ _ ⟨.imm, .fr, eI k11.1⟩ from (et_var rfl)) (aj_nil (fix_p (q_ixL imI) (fun _ => rfl) (fun _ => rfl)))))) (fun b13 => (aj_j (ej_call (val := (fun (b : Int × D) => ⟨.imm, .fr, eI b.1⟩)) (sp' := (fun (b : Int × D) => [some (some ⟨.deep, true, eA b.2⟩), some (some ⟨.imm, true, eI n_⟩), some (some ⟨.imm, true, eI b5.2.1⟩), some (some ⟨.flat, true, (eL eI) s10.2⟩), some (some ⟨.imm, true, eI a8⟩), some (some ⟨.imm, true, eI k11.1⟩), some none])) (io_of e__law_of rfl) (aj_t (show ET _ _ _ ⟨.deep, (.sl 0), eA k11.2⟩ from (et_varO rfl rfl)) (aj_t (show ET _ _ _ ⟨.flat, .fr, (eL eI) [1, 1, (-1), 2]⟩ from (et_lst (at_cons (show ET _ _ _ ⟨.imm, .fr, eI 1⟩ from et_con) (at_cons (show ET _ _ _ ⟨.imm, .fr, eI 1⟩ from et_con) (at_cons (show ET _ _ _ ⟨.imm, .fr, eI (-1)⟩ from (et_p1 (show ET _ _ _ ⟨.imm, .fr, eI 1⟩ from et_con) q_neg)) (at_cons (show ET _ _ _ ⟨.imm, .fr, eI 2⟩ from et_con) at_nil)))) rfl rfl rfl rfl rfl rfl)) (aj_nil (fcall_p rfl (r__law_of (by omega) k11.2 [1, 1, (-1), 2]) (fun _ => rfl) (fun _ => rfl)))))) (fun b14 => (aj_nil (fp2_t q_add rfl rfl))))))) (fun b15 => (aj_nil (fp2_t q_max2 rfl rfl)))))) (fun _ => rfl) (fun q16 => (ej_t (val := fun _ => ⟨.imm, .fr, eI k11.1⟩) (sp' := fun _ => [some (some ⟨.deep, true, eA q16.2⟩), some (some ⟨.imm, true, eI n_⟩), some (some ⟨.imm, true, eI b5.2.1⟩), some (some ⟨.flat, true, (eL eI) s10.2⟩), some (some ⟨.imm, true, eI a8⟩), some (some ⟨.imm, true, eI k11.1⟩), some none]) (show ET _ _ _ ⟨.imm, .fr, eI k11.1⟩ from (et_var rfl)) rfl rfl)) (fun q16 z17 => (put_m (mk := fun (y : (List Int)) => (q16.2, y)) (fun y h => put_ok rfl rfl (m_put (f := eI) y h) rfl)))) (fun row12 => (bj_nil (.eq (.eq (.eq (.eq (.any (.any (.eq .nil)))))))))))))) (fun s10 => (rj_ret (show ET _ _ _ ⟨.imm, .fr, (eT eI) s10.2⟩ from (et_p1 (show ET _ _ _ ⟨.flat, (.sl 3), (eL eI) s10.2⟩ from (et_varO rfl rfl)) (q_tupleL imI))) (ret_fr rfl) (.eq (.any (.any (.any (.eq (.eq (.any .nil)))))))))) (rj_j (xj_asg (sp2 := fun (most18 : Int × D) => [some (some ⟨.deep, true, eA most18.2⟩), some (some ⟨.imm, true, eI n_⟩), some (some ⟨.imm, true, eI b5.2.1⟩), some (some ⟨.flat, true, (eL eI) b5.2.2⟩), some none, some none, some (some ⟨.imm, true, eI most18.1⟩)]) (ej_ifeT (val := (fun (b : Int × D) => ⟨.imm, .fr, eI b.1⟩)) (sp' := (fun (b : Int × D) => [some (some ⟨.deep, true, eA b.2⟩), some (some ⟨.imm, true, eI n_⟩), some (some ⟨.imm, true, eI b5.2.1⟩), some (some ⟨.flat, true, (eL eI) b5.2.2⟩), some none, some none, some none])) (show ET _ _ _ ⟨.imm, .fr, eB (eqB b5.2.1 4)⟩ from (et_p2 (show ET _ _ _ ⟨.imm, .fr, eI b5.2.1⟩ from (et_var rfl)) (show ET _ _ _ ⟨.imm, .fr, eI 4⟩ from et_con) (q_eq (f := eI) layI rfl eqvI))) (ej_t (val := (fun (b : Int × D) => ⟨.imm, .fr, eI b.1⟩)) (sp' := (fun (b : Int × D) => [some (some ⟨.deep, true, eA b.2⟩), some (some ⟨.imm, true, eI n_⟩), some (some ⟨.imm, true, eI b5.2.1⟩), some (some ⟨.flat, true, (eL eI) b5.2.2⟩), some none, some none, some none])) (show ET _ _ _ ⟨.imm, .fr, eI (n_ + 1)⟩ from (et_p2 (show ET _ _ _ ⟨.imm, .fr, eI n_⟩ from (et_var rfl)) (show ET _ _ _ ⟨.imm, .fr, eI 1⟩ from et_con) q_add)) rfl rfl) (ej_call (val := (fun (b : Int × D) => ⟨.imm, .fr, eI b.1⟩)) (sp' := (fun (b : Int × D) => [some (some ⟨.deep, true, eA b.2⟩), some (some ⟨.imm, true, eI n_⟩), some (some ⟨.imm, true, eI b5.2.1⟩), some (some ⟨.flat, true, (eL eI) b5.2.2⟩), some none, some none, some none])) (io_of e__law_of rfl) (aj_t (show ET _ _ _ ⟨.deep, (.sl 0), eA b5.1⟩ from (et_varO rfl rfl)) (aj_t (show ET _ _ _ ⟨.flat, .fr, (eL eI) [2, 3, 99]⟩ from (et_lst (at_cons (show ET _ _ _ ⟨.imm, .fr, eI 2⟩ from et_con) (at_cons (show ET _ _ _ ⟨.imm, .fr, eI 3⟩ from et_con) (at_cons (show ET _ _ _ ⟨.imm, .fr, eI 99⟩ from et_con) at_nil))) rfl rfl rfl rfl rfl rfl)) (aj_nil (fcall_p rfl (r__law_of (by omega) b5.1 [2, 3, 99]) (fun _ => rfl) (fun _ => rfl))))))) (fun most18 => (tg_nm rfl rfl))) (fun most18 => (rj_retP (ej_p1 (val := (fun (b : (List Int) × D) => ⟨.imm, .fr, (eT eI) b.1⟩)) (sp' := (fun (b : (List Int) × D) => [some (some ⟨.deep, true, eA b.2⟩), some (some ⟨.imm, true, eI n_⟩), some (some ⟨.imm, true, eI b5.2.1⟩), some (some ⟨.flat, true, (eL eI) b5.2.2⟩), some none, some none, some (some ⟨.imm, true, eI most18.1⟩)])) (aj_jid (ej_compS (own := [5]) (dp := false) (V := fun (a19 : Int) => ⟨.imm, .fr, eI a19⟩) (enc := eI) (ke := .imm) (sp1 := fun (b20 : (List Int)) => [some (some ⟨.deep, true, eA most18.2⟩), some (some ⟨.imm, true, eI n_⟩), some (some ⟨.imm, true, eI b5.2.1⟩), some (some ⟨.flat, true, (eL eI) b5.2.2⟩), some none, some none, some (some ⟨.imm, true, eI most18.1⟩)]) (spC := fun (s21 : (D)) => [some (some ⟨.deep, true, eA s21⟩), some (some ⟨.imm, true, eI n_⟩), some (some ⟨.imm, true, eI b5.2.1⟩), some (some ⟨.flat, true, (eL eI) b5.2.2⟩), some none, some none, some (some ⟨.imm, true, eI most18.1⟩)]) (spT := fun (s21 : (D)) (a19 : Int) => [some (some ⟨.deep, true, eA s21⟩), some (some ⟨.imm, true, eI n_⟩), some (some ⟨.imm, true, eI b5.2.1⟩), some (some ⟨.flat, true, (eL eI) b5.2.2⟩), some none, some (some ⟨.imm, true, eI a19⟩), some (some ⟨.imm, true, eI most18.1⟩)]) (mc := fun (s21 : (D)) (a19 : Int) => (some (true, s21))) (me := fun (s21 : (D)) (a19 : Int) => (pickM s21 (most18.1 + 1))) (sp' := fun (s21 : (D)) => [some (some ⟨.deep, true, eA s21⟩), some (some ⟨.imm, true, eI n_⟩), some (some ⟨.imm, true, eI b5.2.1⟩), some (some ⟨.flat, true, (eL eI) b5.2.2⟩), some none, some none, some (some ⟨.imm, true, eI most18.1⟩)]) (s0 := fun (b20 : (List Int)) => most18.2) (ij_p (V := fun a => ⟨.imm, .fr, eI a⟩) (fun _ _ _ => rfl) (at_cons (show ET _ _ _ ⟨.imm, .fr, eI n_⟩ from (et_var rfl)) at_nil) rfl w_rng1 rfl) (fun b20 => (.eq (.eq (.eq (.eq (.eq (.eq (.eq .nil)))))))) (fun (s21 : (D)) (a19 : Int) => (tg_nm rfl rfl)) (fun (s21 : (D)) (a19 : Int) => (ej_t (val := fun (q : Bool × (D)) => ⟨.imm, .fr, eB q.1⟩) (sp' := fun (q : Bool × (D)) => [some (some ⟨.deep, true, eA q.2⟩), some (some ⟨.imm, true, eI n_⟩), some (some ⟨.imm, true, eI b5.2.1⟩), some (some ⟨.flat, true, (eL eI) b5.2.2⟩), some none, some (some ⟨.imm, true, eI a19⟩), some (some ⟨.imm, true, eI most18.1⟩)]) (show ET _ _ _ ⟨.imm, .fr, eB true⟩ from et_con) rfl rfl)) (fun (s21 : (D)) (a19 : Int) => (ej_call (val := (fun (b : Int × D) => ⟨.imm, .fr, eI b.1⟩)) (sp' := (fun (b : Int × D) => [some (some ⟨.deep, true, eA b.2⟩), some (some ⟨.imm, true, eI n_⟩), some (some ⟨.imm, true, eI b5.2.1⟩), some (some ⟨.flat, true, (eL eI) b5.2.2⟩), some none, some (some ⟨.imm, true, eI a19⟩), some (some ⟨.imm, true, eI most18.1⟩)])) (io_of e__law_pick rfl) (aj_t (show ET _ _ _ ⟨.deep, (.sl 0), eA s21⟩ from (et_varO rfl rfl)) (aj_t (show ET _ _ _ ⟨.imm, .fr, eI (most18.1 + 1)⟩ from (et_p2 (show ET _ _ _ ⟨.imm, .fr, eI most18.1⟩ from (et_var rfl)) (show ET _ _ _ ⟨.imm, .fr, eI 1⟩ from et_con) q_add)) (aj_nil (fcall_p rfl (rr_pick (by omega) s21 (most18.1 + 1)) (fun _ => rfl) (fun _ => rfl))))))) (fun (s21 : (D)) (a19 : Int) => (.eq (.eq (.eq (.eq (.eq (.eq (.eq .nil)))))))) rfl (fun _ _ => rfl)) (fun b22 => (aj_nil (fp1_t (q_tupleL imI) rfl rfl))))) (fun _ => (ret_fr rfl)) (fun _ => (.eq (.any (.any (.any (.any (.any (.any .nil))))))))))))))) (fun _ => rfl)

def m__law_told_lot (row_ : (List Int)) (t_ : Int) : Option ((List Int)) :=
  (Option.bind (Option.bind (Option.bind (compT (fun (a4 : (Int × Int)) => true) (fun (a4 : (Int × Int)) => ((0 - a4.2), a4.1)) (enumI row_)) fun b6 => (some (srt (eP2 eI eI) b6))) fun b9 => compT (fun (a8 : (Int × Int)) => true) (fun (a8 : (Int × Int)) => a8.2) b9) fun order11 => (Option.bind (toM order11 t_) fun b12 => (some (srt eI b12))))

theorem r__law_told_lot {k : Nat} (hk : 1 ≤ k) (row_ : (List Int)) (t_ : Int) : CJ (tab defs FUEL k) "_law_told_lot" [⟨.imm, true, (eT eI) row_⟩, ⟨.imm, true, eI t_⟩] (m__law_told_lot row_ t_) (fun b => ⟨.imm, .fr, (eT eI) b⟩) (fun b => [none, none]) := by
  obtain ⟨k, rfl⟩ : ∃ j, k = j + 1 := ⟨k - 1, by omega⟩
  unfold m__law_told_lot
  exact fn_step (rs := fun b => [none, none, none, none, none, none]) e__law_told_lot rfl (rj_j (xj_asg (sp2 := fun (order11 : (List Int)) => [some (some ⟨.imm, true, (eT eI) row_⟩), some (some ⟨.imm, true, eI t_⟩), some (some ⟨.flat, true, (eL eI) order11⟩), some none, some none, some none]) (ej_compT (own := [5, 3]) (dp := false) (V := fun (a8 : (Int × Int)) => ⟨.imm, .fr, (eP2 eI eI) a8⟩) (enc := eI) (ke := .imm) (sp1 := fun (b9 : (List (Int × Int))) => [some (some ⟨.imm, true, (eT eI) row_⟩), some (some ⟨.imm, true, eI t_⟩), some none, some none, some none, some none]) (spC := [some (some ⟨.imm, true, (eT eI) row_⟩), some (some ⟨.imm, true, eI t_⟩), some none, some none, some none, some none]) (spT := fun (a8 : (Int × Int)) => [some (some ⟨.imm, true, (eT eI) row_⟩), some (some ⟨.imm, true, eI t_⟩), some none, some (some ⟨.imm, true, eI a8.2⟩), some none, some (some ⟨.imm, true, eI a8.1⟩)]) (c := fun (a8 : (Int × Int)) => true) (g := fun (a8 : (Int × Int)) => a8.2) (sp' := [some (some ⟨.imm, true, (eT eI) row_⟩), some (some ⟨.imm, true, eI t_⟩), some none, some none, some none, some none]) (ij_j (V := fun (a : (Int × Int)) => ⟨.imm, .fr, (eP2 eI eI) a⟩) (xs := fun (b : (List (Int × Int))) => b) (sp' := (fun (b : (List (Int × Int))) => [some (some ⟨.imm, true, (eT eI) row_⟩), some (some ⟨.imm, true, eI t_⟩), some none, some none, some none, some none])) (fun _ _ _ => rfl) (aj_jid (ej_p1 (val := (fun (b : (List (Int × Int))) => ⟨.flat, .fr, (eL (eP2 eI eI)) b⟩)) (sp' := (fun (b : (List (Int × Int))) => [some (some ⟨.imm, true, (eT eI) row_⟩), some (some ⟨.imm, true, eI t_⟩), some none, some none, some none, some none])) (aj_j (ej_compT0 (own := [3, 4]) (dp := false) (V := fun (a4 : (Int × Int)) => ⟨.imm, .fr, (eP2 eI eI) a4⟩) (enc := (eP2 eI eI)) (ke := .imm) (sp1 := [some (some ⟨.imm, true, (eT eI) row_⟩), some (some ⟨.imm, true, eI t_⟩), some none, some none, some none, some none]) (spC := [some (some ⟨.imm, true, (eT eI) row_⟩), some (some ⟨.imm, true, eI t_⟩), some none, some none, some none, some none]) (spT := fun (a4 : (Int × Int)) => [some (some ⟨.imm, true, (eT eI) row_⟩), some (some ⟨.imm, true, eI t_⟩), some none, some (some ⟨.imm, true, eI a4.1⟩), some (some ⟨.imm, true, eI a4.2⟩), some none]) (c := fun (a4 : (Int × Int)) => true) (g := fun (a4 : (Int × Int)) => ((0 - a4.2), a4.1)) (sp' := [some (some ⟨.imm, true, (eT eI) row_⟩), some (some ⟨.imm, true, eI t_⟩), some none, some none, some none, some none]) (ij_t (V := fun (a : (Int × Int)) => ⟨.imm, .fr, (eP2 eI eI) a⟩) (fun _ _ _ => rfl) (at_cons (show ET _ _ _ ⟨.imm, .fr, (eT eI) row_⟩ from (et_var rfl)) at_nil) rfl (w_enumT imI) rfl) (.eq (.eq (.eq (.eq (.eq (.eq .nil)))))) (fun (a4 : (Int × Int)) => (tg_tp rfl rfl (tgs_cons (tg_nm rfl rfl) (tgs_cons (tg_nm rfl rfl) tgs_nil)))) (fun (a4 : (Int × Int)) => (show ET _ _ _ ⟨.imm, .fr, eB true⟩ from et_con)) (fun (a4 : (Int × Int)) => (show ET _ _ _ ⟨.imm, .fr, (eP2 eI eI) ((0 - a4.2), a4.1)⟩ from (et_tup (at_cons (show ET _ _ _ ⟨.imm, .fr, eI (0 - a4.2)⟩ from (et_p2 (show ET _ _ _ ⟨.imm, .fr, eI 0⟩ from et_con) (show ET _ _ _ ⟨.imm, .fr, eI a4.2⟩ from (et_var rfl)) q_sub)) (at_cons (show ET _ _ _ ⟨.imm, .fr, eI a4.1⟩ from (et_var rfl)) at_nil)) rfl rfl rfl rfl rfl rfl))) (fun (a4 : (Int × Int)) => (.eq (.eq (.eq (.eq (.eq (.eq .nil))))))) rfl rfl) (fun b6 => (aj_nil (fp1_t (q_sorted (imP2 imI imI) soP2) rfl rfl))))) (fun b7 => (aj_nil (ijl_t rfl rfl (w_L (imP2 imI imI)) rfl trivial))))) (fun b9 => (.eq (.eq (.eq (.eq (.eq (.eq .nil))))))) (fun (a8 : (Int × Int)) => (tg_tp rfl rfl (tgs_cons (tg_nm rfl rfl) (tgs_cons (tg_nm rfl rfl) tgs_nil)))) (fun (a8 : (Int × Int)) => (show ET _ _ _ ⟨.imm, .fr, eB true⟩ from et_con)) (fun (a8 : (Int × Int)) => (show ET _ _ _ ⟨.imm, .fr, eI a8.2⟩ from (et_var rfl))) (fun (a8 : (Int × Int)) => (.eq (.eq (.eq (.eq (.eq (.eq .nil))))))) rfl (fun _ => rfl)) (fun order11 => (tg_nm rfl rfl))) (fun order11 => (rj_retP (ej_p1 (val := (fun (b : (List Int)) => ⟨.imm, .fr, (eT eI) b⟩)) (sp' := (fun (b : (List Int)) => [some (some ⟨.imm, true, (eT eI) row_⟩), some (some ⟨.imm, true, eI t_⟩), some (some ⟨.flat, true, (eL eI) order11⟩), some none, some none, some none])) (aj_jid (ej_p1 (val := (fun (b : (List Int)) => ⟨.flat, .fr, (eL eI) b⟩)) (sp' := (fun (b : (List Int)) => [some (some ⟨.imm, true, (eT eI) row_⟩), some (some ⟨.imm, true, eI t_⟩), some (some ⟨.flat, true, (eL eI) order11⟩), some none, some none, some none])) (aj_j (ej_p2 (val := (fun (b : (List Int)) => ⟨.flat, .fr, (eL eI) b⟩)) (sp' := (fun (b : (List Int)) => [some (some ⟨.imm, true, (eT eI) row_⟩), some (some ⟨.imm, true, eI t_⟩), some (some ⟨.flat, true, (eL eI) order11⟩), some none, some none, some none])) (aj_t (show ET _ _ _ ⟨.flat, (.sl 2), (eL eI) order11⟩ from (et_varO rfl rfl)) (aj_t (show ET _ _ _ ⟨.imm, .fr, eI t_⟩ from (et_var rfl)) (aj_nil (fp2_p (q_toL (f := eI) (xs := order11) imI) (fun _ => rfl) (fun _ => rfl)))))) (fun b12 => (aj_nil (fp1_t (q_sorted imI soI) rfl rfl))))) (fun b13 => (aj_nil (fp1_t (q_tupleL imI) rfl rfl))))) (fun _ => (ret_fr rfl)) (fun _ => (.any (.any (.any (.any (.any (.any .nil)))))))))) (fun _ => rfl)

def m_greatest_lot (row_ : (List Int)) (t_ : Int) : Option ((List Int)) :=
  (Option.bind (Option.bind (Option.bind (rangeM 0 ((List.length row_ : Nat) : Int)) fun xs => srtK (eP2 eI eI) (fun (z1 : Int) => (Option.bind (Option.bind (atF row_ z1) fun k71 => some (-k71)) fun k70a => (some (k70a, z1)))) xs) fun b2 => (toM b2 t_)) fun b3 => (some (srt eI b3)))

theorem r_greatest_lot {k : Nat} (hk : 1 ≤ k) (row_ : (List Int)) (t_ : Int) : CJ (tab defs FUEL k) "greatest_lot" [⟨.imm, true, (eT eI) row_⟩, ⟨.imm, true, eI t_⟩] (m_greatest_lot row_ t_) (fun b => ⟨.imm, .fr, (eT eI) b⟩) (fun b => [none, none]) := by
  obtain ⟨k, rfl⟩ : ∃ j, k = j + 1 := ⟨k - 1, by omega⟩
  unfold m_greatest_lot
  exact fn_step (rs := fun b => [none, none, none]) e_greatest_lot rfl (rj_retP (ej_p1 (val := (fun (b : (List Int)) => ⟨.imm, .fr, (eT eI) b⟩)) (sp' := (fun (b : (List Int)) => [some (some ⟨.imm, true, (eT eI) row_⟩), some (some ⟨.imm, true, eI t_⟩), some none])) (aj_jid (ej_p1 (val := (fun (b : (List Int)) => ⟨.flat, .fr, (eL eI) b⟩)) (sp' := (fun (b : (List Int)) => [some (some ⟨.imm, true, (eT eI) row_⟩), some (some ⟨.imm, true, eI t_⟩), some none])) (aj_j (ej_p2 (val := (fun (b : (List Int)) => ⟨.flat, .fr, (eL eI) b⟩)) (sp' := (fun (b : (List Int)) => [some (some ⟨.imm, true, (eT eI) row_⟩), some (some ⟨.imm, true, eI t_⟩), some none])) (aj_j (ej_sortKR0 (f := (eP2 eI eI)) (g := (fun (z1 : Int) => (Option.bind (Option.bind (atF row_ z1) fun k71 => some (-k71)) fun k70a => (some (k70a, z1))))) (show ET _ _ _ ⟨.imm, .fr, eI ((List.length row_ : Nat) : Int)⟩ from (et_p1 (show ET _ _ _ ⟨.imm, .fr, (eT eI) row_⟩ from (et_var rfl)) q_lenT)) (fun z1 => (kj_tup2 (kj_neg (kj_ixT (f := eI) (kj_cap (f := (eT eI)) (x := row_) rfl (nh_im (imT imI))) (kj_cap (f := eI) (x := z1) rfl (nh_im imI)))) (kj_cap (f := eI) (x := z1) rfl (nh_im imI)))) (imP2 imI imI) soP2) (fun b2 => (aj_t (show ET _ _ _ ⟨.imm, .fr, eI t_⟩ from (et_var rfl)) (aj_nil (fp2_p (q_toL (f := eI) (xs := b2) imI) (fun _ => rfl) (fun _ => rfl))))))) (fun b3 => (aj_nil (fp1_t (q_sorted imI soI) rfl rfl))))) (fun b4 => (aj_nil (fp1_t (q_tupleL imI) rfl rfl))))) (fun _ => (ret_fr rfl)) (fun _ => (.any (.any (.any .nil))))) (fun _ => rfl)

def m__law_excess (row_ : (List Int)) (lot_ : (List Int)) : Option (Int) :=
  (Option.bind (Option.bind (Option.bind (compM (fun (a1 : Int) => (some true)) (fun (a1 : Int) => (atI row_ a1)) lot_) fun b3 => (some (List.sum b3))) fun b4 => (Option.bind (mulM ((List.length lot_ : Nat) : Int) (((List.length lot_ : Nat) : Int) - 1)) fun b5 => (some (b4 - b5)))) fun b6 => (Option.bind (Option.bind (Option.bind (rangeM 0 ((List.length row_ : Nat) : Int)) fun b8 => compM (fun (a7 : Int) => (some (!inB a7 lot_))) (fun (a7 : Int) => (Option.bind (atI row_ a7) fun b10 => (some (min ((List.length lot_ : Nat) : Int) b10)))) b8) fun b11 => (some (List.sum b11))) fun b12 => (some (b6 - b12))))

theorem r__law_excess {k : Nat} (hk : 1 ≤ k) (row_ : (List Int)) (lot_ : (List Int)) : CJ (tab defs FUEL k) "_law_excess" [⟨.imm, true, (eT eI) row_⟩, ⟨.imm, true, (eT eI) lot_⟩] (m__law_excess row_ lot_) (fun b => ⟨.imm, .fr, eI b⟩) (fun b => [none, none]) := by
  obtain ⟨k, rfl⟩ : ∃ j, k = j + 1 := ⟨k - 1, by omega⟩
  unfold m__law_excess
  exact fn_step (rs := fun b => [none, none, none, none]) e__law_excess rfl (rj_t (xt_asg (show ET _ _ _ ⟨.imm, .fr, eI ((List.length lot_ : Nat) : Int)⟩ from (et_p1 (show ET _ _ _ ⟨.imm, .fr, (eT eI) lot_⟩ from (et_var rfl)) q_lenT)) (tg_nm rfl rfl)) (rj_retP (ej_p2 (val := (fun (b : Int) => ⟨.imm, .fr, eI b⟩)) (sp' := (fun (b : Int) => [some (some ⟨.imm, true, (eT eI) row_⟩), some (some ⟨.imm, true, (eT eI) lot_⟩), some (some ⟨.imm, true, eI ((List.length lot_ : Nat) : Int)⟩), some none])) (aj_j (ej_p2 (val := (fun (b : Int) => ⟨.imm, .fr, eI b⟩)) (sp' := (fun (b : Int) => [some (some ⟨.imm, true, (eT eI) row_⟩), some (some ⟨.imm, true, (eT eI) lot_⟩), some (some ⟨.imm, true, eI ((List.length lot_ : Nat) : Int)⟩), some none])) (aj_j (ej_p1 (val := (fun (b : Int) => ⟨.imm, .fr, eI b⟩)) (sp' := (fun (b : Int) => [some (some ⟨.imm, true, (eT eI) row_⟩), some (some ⟨.imm, true, (eT eI) lot_⟩), some (some ⟨.imm, true, eI ((List.length lot_ : Nat) : Int)⟩), some none])) (aj_j (ej_compM0 (own := [3]) (dp := false) (V := fun (a1 : Int) => ⟨.imm, .fr, eI a1⟩) (enc := eI) (ke := .imm) (sp1 := [some (some ⟨.imm, true, (eT eI) row_⟩), some (some ⟨.imm, true, (eT eI) lot_⟩), some (some ⟨.imm, true, eI ((List.length lot_ : Nat) : Int)⟩), some none]) (spC := [some (some ⟨.imm, true, (eT eI) row_⟩), some (some ⟨.imm, true, (eT eI) lot_⟩), some (some ⟨.imm, true, eI ((List.length lot_ : Nat) : Int)⟩), some none]) (spT := fun (a1 : Int) => [some (some ⟨.imm, true, (eT eI) row_⟩), some (some ⟨.imm, true, (eT eI) lot_⟩), some (some ⟨.imm, true, eI ((List.length lot_ : Nat) : Int)⟩), some (some ⟨.imm, true, eI a1⟩)]) (mc := fun (a1 : Int) => (some true)) (me := fun (a1 : Int) => (atI row_ a1)) (sp' := [some (some ⟨.imm, true, (eT eI) row_⟩), some (some ⟨.imm, true, (eT eI) lot_⟩), some (some ⟨.imm, true, eI ((List.length lot_ : Nat) : Int)⟩), some none]) (ij_t (V := fun (a : Int) => ⟨.imm, .fr, eI a⟩) (fun _ _ _ => rfl) (at_cons (show ET _ _ _ ⟨.imm, .fr, (eT eI) lot_⟩ from (et_var rfl)) at_nil) rfl (w_T imI) rfl) (.eq (.eq (.eq (.eq .nil)))) (fun (a1 : Int) => (tg_nm rfl rfl)) (fun (a1 : Int) => (ej_t (val := fun (b : Bool) => ⟨.imm, .fr, eB b⟩) (sp' := fun _ => [some (some ⟨.imm, true, (eT eI) row_⟩), some (some ⟨.imm, true, (eT eI) lot_⟩), some (some ⟨.imm, true, eI ((List.length lot_ : Nat) : Int)⟩), some (some ⟨.imm, true, eI a1⟩)]) (show ET _ _ _ ⟨.imm, .fr, eB true⟩ from et_con) rfl rfl)) (fun (a1 : Int) => (ej_ix (val := (fun (b : Int) => ⟨.imm, .fr, eI b⟩)) (sp' := (fun (b : Int) => [some (some ⟨.imm, true, (eT eI) row_⟩), some (some ⟨.imm, true, (eT eI) lot_⟩), some (some ⟨.imm, true, eI ((List.length lot_ : Nat) : Int)⟩), some (some ⟨.imm, true, eI a1⟩)])) (aj_t (show ET _ _ _ ⟨.imm, .fr, (eT eI) row_⟩ from (et_var rfl)) (aj_t (show ET _ _ _ ⟨.imm, .fr, eI a1⟩ from (et_var rfl)) (aj_nil (fix_p (q_ixT imI) (fun _ => rfl) (fun _ => rfl))))))) (fun (a1 : Int) => (.eq (.eq (.eq (.eq .nil))))) rfl rfl) (fun b3 => (aj_nil (fp1_t q_sum rfl rfl))))) (fun b4 => (aj_j (ej_p2 (val := (fun (b : Int) => ⟨.imm, .fr, eI b⟩)) (sp' := (fun (b : Int) => [some (some ⟨.imm, true, (eT eI) row_⟩), some (some ⟨.imm, true, (eT eI) lot_⟩), some (some ⟨.imm, true, eI ((List.length lot_ : Nat) : Int)⟩), some none])) (aj_t (show ET _ _ _ ⟨.imm, .fr, eI ((List.length lot_ : Nat) : Int)⟩ from (et_var rfl)) (aj_t (show ET _ _ _ ⟨.imm, .fr, eI (((List.length lot_ : Nat) : Int) - 1)⟩ from (et_p2 (show ET _ _ _ ⟨.imm, .fr, eI ((List.length lot_ : Nat) : Int)⟩ from (et_var rfl)) (show ET _ _ _ ⟨.imm, .fr, eI 1⟩ from et_con) q_sub)) (aj_nil (fp2_p q_mul (fun _ => rfl) (fun _ => rfl)))))) (fun b5 => (aj_nil (fp2_t q_sub rfl rfl))))))) (fun b6 => (aj_j (ej_p1 (val := (fun (b : Int) => ⟨.imm, .fr, eI b⟩)) (sp' := (fun (b : Int) => [some (some ⟨.imm, true, (eT eI) row_⟩), some (some ⟨.imm, true, (eT eI) lot_⟩), some (some ⟨.imm, true, eI ((List.length lot_ : Nat) : Int)⟩), some none])) (aj_j (ej_compM (own := [3]) (dp := false) (V := fun (a7 : Int) => ⟨.imm, .fr, eI a7⟩) (enc := eI) (ke := .imm) (sp1 := fun (b8 : (List Int)) => [some (some ⟨.imm, true, (eT eI) row_⟩), some (some ⟨.imm, true, (eT eI) lot_⟩), some (some ⟨.imm, true, eI ((List.length lot_ : Nat) : Int)⟩), some none]) (spC := [some (some ⟨.imm, true, (eT eI) row_⟩), some (some ⟨.imm, true, (eT eI) lot_⟩), some (some ⟨.imm, true, eI ((List.length lot_ : Nat) : Int)⟩), some none]) (spT := fun (a7 : Int) => [some (some ⟨.imm, true, (eT eI) row_⟩), some (some ⟨.imm, true, (eT eI) lot_⟩), some (some ⟨.imm, true, eI ((List.length lot_ : Nat) : Int)⟩), some (some ⟨.imm, true, eI a7⟩)]) (mc := fun (a7 : Int) => (some (!inB a7 lot_))) (me := fun (a7 : Int) => (Option.bind (atI row_ a7) fun b10 => (some (min ((List.length lot_ : Nat) : Int) b10)))) (sp' := [some (some ⟨.imm, true, (eT eI) row_⟩), some (some ⟨.imm, true, (eT eI) lot_⟩), some (some ⟨.imm, true, eI ((List.length lot_ : Nat) : Int)⟩), some none]) (ij_p (V := fun a => ⟨.imm, .fr, eI a⟩) (fun _ _ _ => rfl) (at_cons (show ET _ _ _ ⟨.imm, .fr, eI ((List.length row_ : Nat) : Int)⟩ from (et_p1 (show ET _ _ _ ⟨.imm, .fr, (eT eI) row_⟩ from (et_var rfl)) q_lenT)) at_nil) rfl w_rng1 rfl) (fun b8 => (.eq (.eq (.eq (.eq .nil))))) (fun (a7 : Int) => (tg_nm rfl rfl)) (fun (a7 : Int) => (ej_t (val := fun (b : Bool) => ⟨.imm, .fr, eB b⟩) (sp' := fun _ => [some (some ⟨.imm, true, (eT eI) row_⟩), some (some ⟨.imm, true, (eT eI) lot_⟩), some (some ⟨.imm, true, eI ((List.length lot_ : Nat) : Int)⟩), some (some ⟨.imm, true, eI a7⟩)]) (show ET _ _ _ ⟨.imm, .fr, eB (!inB a7 lot_)⟩ from (et_p2 (show ET _ _ _ ⟨.imm, .fr, eI a7⟩ from (et_var rfl)) (show ET _ _ _ ⟨.imm, .fr, (eT eI) lot_⟩ from (et_var rfl)) (q_notinT (f := eI) layI rfl eqvI))) rfl rfl)) (fun (a7 : Int) => (ej_p2 (val := (fun (b : Int) => ⟨.imm, .fr, eI b⟩)) (sp' := (fun (b : Int) => [some (some ⟨.imm, true, (eT eI) row_⟩), some (some ⟨.imm, true, (eT eI) lot_⟩), some (some ⟨.imm, true, eI ((List.length lot_ : Nat) : Int)⟩), some (some ⟨.imm, true, eI a7⟩)])) (aj_t (show ET _ _ _ ⟨.imm, .fr, eI ((List.length lot_ : Nat) : Int)⟩ from (et_var rfl)) (aj_j (ej_ix (val := (fun (b : Int) => ⟨.imm, .fr, eI b⟩)) (sp' := (fun (b : Int) => [some (some ⟨.imm, true, (eT eI) row_⟩), some (some ⟨.imm, true, (eT eI) lot_⟩), some (some ⟨.imm, true, eI ((List.length lot_ : Nat) : Int)⟩), some (some ⟨.imm, true, eI a7⟩)])) (aj_t (show ET _ _ _ ⟨.imm, .fr, (eT eI) row_⟩ from (et_var rfl)) (aj_t (show ET _ _ _ ⟨.imm, .fr, eI a7⟩ from (et_var rfl)) (aj_nil (fix_p (q_ixT imI) (fun _ => rfl) (fun _ => rfl)))))) (fun b10 => (aj_nil (fp2_t q_min2 rfl rfl))))))) (fun (a7 : Int) => (.eq (.eq (.eq (.eq .nil))))) rfl (fun _ => rfl)) (fun b11 => (aj_nil (fp1_t q_sum rfl rfl))))) (fun b12 => (aj_nil (fp2_t q_sub rfl rfl))))))) (fun _ => (ret_fr rfl)) (fun _ => (.any (.any (.any (.any .nil))))))) (fun _ => rfl)

def m_lot_excess (row_ : (List Int)) (lot_ : (List Int)) : Option (Int) :=
  (Option.bind (Option.bind (compT (fun (a1 : (Int × Int)) => (!inB a1.1 lot_)) (fun (a1 : (Int × Int)) => (min ((List.length lot_ : Nat) : Int) a1.2)) (enumI row_)) fun b3 => (some (List.sum b3))) fun others4 => (Option.bind (Option.bind (Option.bind (compM (fun (a5 : Int) => (some true)) (fun (a5 : Int) => (atI row_ a5)) lot_) fun b7 => (some (List.sum b7))) fun b8 => (Option.bind (mulM ((List.length lot_ : Nat) : Int) (((List.length lot_ : Nat) : Int) - 1)) fun b9 => (some (b8 - b9)))) fun b10 => (some (b10 - others4))))

theorem r_lot_excess {k : Nat} (hk : 1 ≤ k) (row_ : (List Int)) (lot_ : (List Int)) : CJ (tab defs FUEL k) "lot_excess" [⟨.imm, true, (eT eI) row_⟩, ⟨.imm, true, (eT eI) lot_⟩] (m_lot_excess row_ lot_) (fun b => ⟨.imm, .fr, eI b⟩) (fun b => [none, none]) := by
  obtain ⟨k, rfl⟩ : ∃ j, k = j + 1 := ⟨k - 1, by omega⟩
  unfold m_lot_excess
  exact fn_step (rs := fun b => [none, none, none, none, none, none]) e_lot_excess rfl (rj_t (xt_asg (show ET _ _ _ ⟨.imm, .fr, eI ((List.length lot_ : Nat) : Int)⟩ from (et_p1 (show ET _ _ _ ⟨.imm, .fr, (eT eI) lot_⟩ from (et_var rfl)) q_lenT)) (tg_nm rfl rfl)) (rj_j (xj_asg (sp2 := fun (others4 : Int) => [some (some ⟨.imm, true, (eT eI) row_⟩), some (some ⟨.imm, true, (eT eI) lot_⟩), some (some ⟨.imm, true, eI ((List.length lot_ : Nat) : Int)⟩), some (some ⟨.imm, true, eI others4⟩), some none, some none]) (ej_p1 (val := (fun (b : Int) => ⟨.imm, .fr, eI b⟩)) (sp' := (fun (b : Int) => [some (some ⟨.imm, true, (eT eI) row_⟩), some (some ⟨.imm, true, (eT eI) lot_⟩), some (some ⟨.imm, true, eI ((List.length lot_ : Nat) : Int)⟩), some none, some none, some none])) (aj_j (ej_compT0 (own := [4, 5]) (dp := false) (V := fun (a1 : (Int × Int)) => ⟨.imm, .fr, (eP2 eI eI) a1⟩) (enc := eI) (ke := .imm) (sp1 := [some (some ⟨.imm, true, (eT eI) row_⟩), some (some ⟨.imm, true, (eT eI) lot_⟩), some (some ⟨.imm, true, eI ((List.length lot_ : Nat) : Int)⟩), some none, some none, some none]) (spC := [some (some ⟨.imm, true, (eT eI) row_⟩), some (some ⟨.imm, true, (eT eI) lot_⟩), some (some ⟨.imm, true, eI ((List.length lot_ : Nat) : Int)⟩), some none, some none, some none]) (spT := fun (a1 : (Int × Int)) => [some (some ⟨.imm, true, (eT eI) row_⟩), some (some ⟨.imm, true, (eT eI) lot_⟩), some (some ⟨.imm, true, eI ((List.length lot_ : Nat) : Int)⟩), some none, some (some ⟨.imm, true, eI a1.1⟩), some (some ⟨.imm, true, eI a1.2⟩)]) (c := fun (a1 : (Int × Int)) => (!inB a1.1 lot_)) (g := fun (a1 : (Int × Int)) => (min ((List.length lot_ : Nat) : Int) a1.2)) (sp' := [some (some ⟨.imm, true, (eT eI) row_⟩), some (some ⟨.imm, true, (eT eI) lot_⟩), some (some ⟨.imm, true, eI ((List.length lot_ : Nat) : Int)⟩), some none, some none, some none]) (ij_t (V := fun (a : (Int × Int)) => ⟨.imm, .fr, (eP2 eI eI) a⟩) (fun _ _ _ => rfl) (at_cons (show ET _ _ _ ⟨.imm, .fr, (eT eI) row_⟩ from (et_var rfl)) at_nil) rfl (w_enumT imI) rfl) (.eq (.eq (.eq (.eq (.eq (.eq .nil)))))) (fun (a1 : (Int × Int)) => (tg_tp rfl rfl (tgs_cons (tg_nm rfl rfl) (tgs_cons (tg_nm rfl rfl) tgs_nil)))) (fun (a1 : (Int × Int)) => (show ET _ _ _ ⟨.imm, .fr, eB (!inB a1.1 lot_)⟩ from (et_p2 (show ET _ _ _ ⟨.imm, .fr, eI a1.1⟩ from (et_var rfl)) (show ET _ _ _ ⟨.imm, .fr, (eT eI) lot_⟩ from (et_var rfl)) (q_notinT (f := eI) layI rfl eqvI)))) (fun (a1 : (Int × Int)) => (show ET _ _ _ ⟨.imm, .fr, eI (min ((List.length lot_ : Nat) : Int) a1.2)⟩ from (et_p2 (show ET _ _ _ ⟨.imm, .fr, eI ((List.length lot_ : Nat) : Int)⟩ from (et_var rfl)) (show ET _ _ _ ⟨.imm, .fr, eI a1.2⟩ from (et_var rfl)) q_min2))) (fun (a1 : (Int × Int)) => (.eq (.eq (.eq (.eq (.eq (.eq .nil))))))) rfl rfl) (fun b3 => (aj_nil (fp1_t q_sum rfl rfl))))) (fun others4 => (tg_nm rfl rfl))) (fun others4 => (rj_retP (ej_p2 (val := (fun (b : Int) => ⟨.imm, .fr, eI b⟩)) (sp' := (fun (b : Int) => [some (some ⟨.imm, true, (eT eI) row_⟩), some (some ⟨.imm, true, (eT eI) lot_⟩), some (some ⟨.imm, true, eI ((List.length lot_ : Nat) : Int)⟩), some (some ⟨.imm, true, eI others4⟩), some none, some none])) (aj_j (ej_p2 (val := (fun (b : Int) => ⟨.imm, .fr, eI b⟩)) (sp' := (fun (b : Int) => [some (some ⟨.imm, true, (eT eI) row_⟩), some (some ⟨.imm, true, (eT eI) lot_⟩), some (some ⟨.imm, true, eI ((List.length lot_ : Nat) : Int)⟩), some (some ⟨.imm, true, eI others4⟩), some none, some none])) (aj_j (ej_p1 (val := (fun (b : Int) => ⟨.imm, .fr, eI b⟩)) (sp' := (fun (b : Int) => [some (some ⟨.imm, true, (eT eI) row_⟩), some (some ⟨.imm, true, (eT eI) lot_⟩), some (some ⟨.imm, true, eI ((List.length lot_ : Nat) : Int)⟩), some (some ⟨.imm, true, eI others4⟩), some none, some none])) (aj_j (ej_compM0 (own := [4]) (dp := false) (V := fun (a5 : Int) => ⟨.imm, .fr, eI a5⟩) (enc := eI) (ke := .imm) (sp1 := [some (some ⟨.imm, true, (eT eI) row_⟩), some (some ⟨.imm, true, (eT eI) lot_⟩), some (some ⟨.imm, true, eI ((List.length lot_ : Nat) : Int)⟩), some (some ⟨.imm, true, eI others4⟩), some none, some none]) (spC := [some (some ⟨.imm, true, (eT eI) row_⟩), some (some ⟨.imm, true, (eT eI) lot_⟩), some (some ⟨.imm, true, eI ((List.length lot_ : Nat) : Int)⟩), some (some ⟨.imm, true, eI others4⟩), some none, some none]) (spT := fun (a5 : Int) => [some (some ⟨.imm, true, (eT eI) row_⟩), some (some ⟨.imm, true, (eT eI) lot_⟩), some (some ⟨.imm, true, eI ((List.length lot_ : Nat) : Int)⟩), some (some ⟨.imm, true, eI others4⟩), some (some ⟨.imm, true, eI a5⟩), some none]) (mc := fun (a5 : Int) => (some true)) (me := fun (a5 : Int) => (atI row_ a5)) (sp' := [some (some ⟨.imm, true, (eT eI) row_⟩), some (some ⟨.imm, true, (eT eI) lot_⟩), some (some ⟨.imm, true, eI ((List.length lot_ : Nat) : Int)⟩), some (some ⟨.imm, true, eI others4⟩), some none, some none]) (ij_t (V := fun (a : Int) => ⟨.imm, .fr, eI a⟩) (fun _ _ _ => rfl) (at_cons (show ET _ _ _ ⟨.imm, .fr, (eT eI) lot_⟩ from (et_var rfl)) at_nil) rfl (w_T imI) rfl) (.eq (.eq (.eq (.eq (.eq (.eq .nil)))))) (fun (a5 : Int) => (tg_nm rfl rfl)) (fun (a5 : Int) => (ej_t (val := fun (b : Bool) => ⟨.imm, .fr, eB b⟩) (sp' := fun _ => [some (some ⟨.imm, true, (eT eI) row_⟩), some (some ⟨.imm, true, (eT eI) lot_⟩), some (some ⟨.imm, true, eI ((List.length lot_ : Nat) : Int)⟩), some (some ⟨.imm, true, eI others4⟩), some (some ⟨.imm, true, eI a5⟩), some none]) (show ET _ _ _ ⟨.imm, .fr, eB true⟩ from et_con) rfl rfl)) (fun (a5 : Int) => (ej_ix (val := (fun (b : Int) => ⟨.imm, .fr, eI b⟩)) (sp' := (fun (b : Int) => [some (some ⟨.imm, true, (eT eI) row_⟩), some (some ⟨.imm, true, (eT eI) lot_⟩), some (some ⟨.imm, true, eI ((List.length lot_ : Nat) : Int)⟩), some (some ⟨.imm, true, eI others4⟩), some (some ⟨.imm, true, eI a5⟩), some none])) (aj_t (show ET _ _ _ ⟨.imm, .fr, (eT eI) row_⟩ from (et_var rfl)) (aj_t (show ET _ _ _ ⟨.imm, .fr, eI a5⟩ from (et_var rfl)) (aj_nil (fix_p (q_ixT imI) (fun _ => rfl) (fun _ => rfl))))))) (fun (a5 : Int) => (.eq (.eq (.eq (.eq (.eq (.eq .nil))))))) rfl rfl) (fun b7 => (aj_nil (fp1_t q_sum rfl rfl))))) (fun b8 => (aj_j (ej_p2 (val := (fun (b : Int) => ⟨.imm, .fr, eI b⟩)) (sp' := (fun (b : Int) => [some (some ⟨.imm, true, (eT eI) row_⟩), some (some ⟨.imm, true, (eT eI) lot_⟩), some (some ⟨.imm, true, eI ((List.length lot_ : Nat) : Int)⟩), some (some ⟨.imm, true, eI others4⟩), some none, some none])) (aj_t (show ET _ _ _ ⟨.imm, .fr, eI ((List.length lot_ : Nat) : Int)⟩ from (et_var rfl)) (aj_t (show ET _ _ _ ⟨.imm, .fr, eI (((List.length lot_ : Nat) : Int) - 1)⟩ from (et_p2 (show ET _ _ _ ⟨.imm, .fr, eI ((List.length lot_ : Nat) : Int)⟩ from (et_var rfl)) (show ET _ _ _ ⟨.imm, .fr, eI 1⟩ from et_con) q_sub)) (aj_nil (fp2_p q_mul (fun _ => rfl) (fun _ => rfl)))))) (fun b9 => (aj_nil (fp2_t q_sub rfl rfl))))))) (fun b10 => (aj_t (show ET _ _ _ ⟨.imm, .fr, eI others4⟩ from (et_var rfl)) (aj_nil (fp2_t q_sub rfl rfl)))))) (fun _ => (ret_fr rfl)) (fun _ => (.any (.any (.any (.any (.any (.any .nil))))))))))) (fun _ => rfl)

def m_worst_lot (row_ : (List Int)) : Option ((List Int)) :=
  (Option.bind (rangeM 1 (((List.length row_ : Nat) : Int) + 1)) fun b2 => forM' (fun (s3 : (List Int)) (a1 : Int) => (Option.bind (m_greatest_lot row_ a1) fun lot4 => (Option.bind (Option.bind (m_lot_excess row_ lot4) fun b5 => (Option.bind (m_lot_excess row_ s3) fun b6 => (some (decide (b6 < b5))))) fun q7 => if q7 = true then (some lot4) else (some s3)))) b2 [])

theorem r_worst_lot {k : Nat} (hk : 2 ≤ k) (row_ : (List Int)) : CJ (tab defs FUEL k) "worst_lot" [⟨.imm, true, (eT eI) row_⟩] (m_worst_lot row_) (fun b => ⟨.imm, .fr, (eT eI) b⟩) (fun b => [none]) := by
  obtain ⟨k, rfl⟩ : ∃ j, k = j + 1 := ⟨k - 1, by omega⟩
  unfold m_worst_lot
  exact fn_step (rs := fun b => [none, none, none, none]) e_worst_lot rfl (rj_t (xt_asg (show ET _ _ _ ⟨.imm, .fr, (eT eI) []⟩ from (et_tup at_nil rfl rfl rfl rfl rfl rfl)) (tg_nm rfl rfl)) (rj_jid (xj_for (V := fun a1 => ⟨.imm, .fr, eI a1⟩) (spL := fun (s3 : (List Int)) => [some (some ⟨.imm, true, (eT eI) row_⟩), some (some ⟨.imm, true, (eT eI) s3⟩), none, none]) (spT := fun (s3 : (List Int)) (a1 : Int) => [some (some ⟨.imm, true, (eT eI) row_⟩), some (some ⟨.imm, true, (eT eI) s3⟩), some (some ⟨.imm, true, eI a1⟩), none]) (mb := fun (s3 : (List Int)) (a1 : Int) => (Option.bind (m_greatest_lot row_ a1) fun lot4 => (Option.bind (Option.bind (m_lot_excess row_ lot4) fun b5 => (Option.bind (m_lot_excess row_ s3) fun b6 => (some (decide (b6 < b5))))) fun q7 => if q7 = true then (some lot4) else (some s3)))) (s0 := fun (b2 : (List Int)) => []) (ij_p (V := fun a => ⟨.imm, .fr, eI a⟩) (fun _ _ _ => rfl) (at_cons (show ET _ _ _ ⟨.imm, .fr, eI 1⟩ from et_con) (at_cons (show ET _ _ _ ⟨.imm, .fr, eI (((List.length row_ : Nat) : Int) + 1)⟩ from (et_p2 (show ET _ _ _ ⟨.imm, .fr, eI ((List.length row_ : Nat) : Int)⟩ from (et_p1 (show ET _ _ _ ⟨.imm, .fr, (eT eI) row_⟩ from (et_var rfl)) q_lenT)) (show ET _ _ _ ⟨.imm, .fr, eI 1⟩ from et_con) q_add)) at_nil)) rfl w_rng2 rfl) (fun b2 => (.eq (.eq (.any (.any .nil))))) (fun s3 a1 => (tg_nm rfl rfl)) (fun s3 a1 => (bj_j (xj_asg (sp2 := fun (lot4 : (List Int)) => [some (some ⟨.imm, true, (eT eI) row_⟩), some (some ⟨.imm, true, (eT eI) s3⟩), some (some ⟨.imm, true, eI a1⟩), some (some ⟨.imm, true, (eT eI) lot4⟩)]) (ej_call (val := (fun (b : (List Int)) => ⟨.imm, .fr, (eT eI) b⟩)) (sp' := (fun (b : (List Int)) => [some (some ⟨.imm, true, (eT eI) row_⟩), some (some ⟨.imm, true, (eT eI) s3⟩), some (some ⟨.imm, true, eI a1⟩), none])) (io_of e_greatest_lot rfl) (aj_t (show ET _ _ _ ⟨.imm, .fr, (eT eI) row_⟩ from (et_var rfl)) (aj_t (show ET _ _ _ ⟨.imm, .fr, eI a1⟩ from (et_var rfl)) (aj_nil (fcall_p rfl (r_greatest_lot (by omega) row_ a1) (fun _ => rfl) (fun _ => rfl)))))) (fun lot4 => (tg_nm rfl rfl))) (fun lot4 => (bj_jid (xj_asg (sp2 := fun (found8 : (List Int)) => [some (some ⟨.imm, true, (eT eI) row_⟩), some (some ⟨.imm, true, (eT eI) found8⟩), some (some ⟨.imm, true, eI a1⟩), some (some ⟨.imm, true, (eT eI) lot4⟩)]) (ej_ifeJ (val := (fun (b : (List Int)) => ⟨.imm, .fr, (eT eI) b⟩)) (sp' := (fun (b : (List Int)) => [some (some ⟨.imm, true, (eT eI) row_⟩), some (some ⟨.imm, true, (eT eI) s3⟩), some (some ⟨.imm, true, eI a1⟩), some (some ⟨.imm, true, (eT eI) lot4⟩)])) (c := fun (q7 : Bool) => q7) (ej_p2 (val := (fun (b : Bool) => ⟨.imm, .fr, eB b⟩)) (sp' := (fun (b : Bool) => [some (some ⟨.imm, true, (eT eI) row_⟩), some (some ⟨.imm, true, (eT eI) s3⟩), some (some ⟨.imm, true, eI a1⟩), some (some ⟨.imm, true, (eT eI) lot4⟩)])) (aj_j (ej_call (val := (fun (b : Int) => ⟨.imm, .fr, eI b⟩)) (sp' := (fun (b : Int) => [some (some ⟨.imm, true, (eT eI) row_⟩), some (some ⟨.imm, true, (eT eI) s3⟩), some (some ⟨.imm, true, eI a1⟩), some (some ⟨.imm, true, (eT eI) lot4⟩)])) (io_of e_lot_excess rfl) (aj_t (show ET _ _ _ ⟨.imm, .fr, (eT eI) row_⟩ from (et_var rfl)) (aj_t (show ET _ _ _ ⟨.imm, .fr, (eT eI) lot4⟩ from (et_var rfl)) (aj_nil (fcall_p rfl (r_lot_excess (by omega) row_ lot4) (fun _ => rfl) (fun _ => rfl)))))) (fun b5 => (aj_j (ej_call (val := (fun (b : Int) => ⟨.imm, .fr, eI b⟩)) (sp' := (fun (b : Int) => [some (some ⟨.imm, true, (eT eI) row_⟩), some (some ⟨.imm, true, (eT eI) s3⟩), some (some ⟨.imm, true, eI a1⟩), some (some ⟨.imm, true, (eT eI) lot4⟩)])) (io_of e_lot_excess rfl) (aj_t (show ET _ _ _ ⟨.imm, .fr, (eT eI) row_⟩ from (et_var rfl)) (aj_t (show ET _ _ _ ⟨.imm, .fr, (eT eI) s3⟩ from (et_var rfl)) (aj_nil (fcall_p rfl (r_lot_excess (by omega) row_ s3) (fun _ => rfl) (fun _ => rfl)))))) (fun b6 => (aj_nil (fp2_t q_gt rfl rfl))))))) (fun _ => rfl) (fun q7 => (ej_t (val := (fun (b : (List Int)) => ⟨.imm, .fr, (eT eI) b⟩)) (sp' := (fun (b : (List Int)) => [some (some ⟨.imm, true, (eT eI) row_⟩), some (some ⟨.imm, true, (eT eI) s3⟩), some (some ⟨.imm, true, eI a1⟩), some (some ⟨.imm, true, (eT eI) lot4⟩)])) (show ET _ _ _ ⟨.imm, .fr, (eT eI) lot4⟩ from (et_var rfl)) rfl rfl)) (fun q7 => (ej_t (val := (fun (b : (List Int)) => ⟨.imm, .fr, (eT eI) b⟩)) (sp' := (fun (b : (List Int)) => [some (some ⟨.imm, true, (eT eI) row_⟩), some (some ⟨.imm, true, (eT eI) s3⟩), some (some ⟨.imm, true, eI a1⟩), some (some ⟨.imm, true, (eT eI) lot4⟩)])) (show ET _ _ _ ⟨.imm, .fr, (eT eI) s3⟩ from (et_var rfl)) rfl rfl))) (fun found8 => (tg_nm rfl rfl))) (fun found8 => (bj_nil (.eq (.eq (.any (.any .nil))))))))))) (fun s3 => (rj_ret (show ET _ _ _ ⟨.imm, .fr, (eT eI) s3⟩ from (et_var rfl)) (ret_fr rfl) (.any (.any (.eq (.eq .nil)))))))) (fun _ => rfl)

def m_greatest_excess (row_ : (List Int)) : Option (Int) :=
  (Option.bind (m_worst_lot row_) fun b1 => (m_lot_excess row_ b1))

theorem r_greatest_excess {k : Nat} (hk : 3 ≤ k) (row_ : (List Int)) : CJ (tab defs FUEL k) "greatest_excess" [⟨.imm, true, (eT eI) row_⟩] (m_greatest_excess row_) (fun b => ⟨.imm, .fr, eI b⟩) (fun b => [none]) := by
  obtain ⟨k, rfl⟩ : ∃ j, k = j + 1 := ⟨k - 1, by omega⟩
  unfold m_greatest_excess
  exact fn_step (rs := fun b => [none]) e_greatest_excess rfl (rj_retP (ej_call (val := (fun (b : Int) => ⟨.imm, .fr, eI b⟩)) (sp' := (fun (b : Int) => [some (some ⟨.imm, true, (eT eI) row_⟩)])) (io_of e_lot_excess rfl) (aj_t (show ET _ _ _ ⟨.imm, .fr, (eT eI) row_⟩ from (et_var rfl)) (aj_j (ej_call (val := (fun (b : (List Int)) => ⟨.imm, .fr, (eT eI) b⟩)) (sp' := (fun (b : (List Int)) => [some (some ⟨.imm, true, (eT eI) row_⟩)])) (io_of e_worst_lot rfl) (aj_t (show ET _ _ _ ⟨.imm, .fr, (eT eI) row_⟩ from (et_var rfl)) (aj_nil (fcall_p rfl (r_worst_lot (by omega) row_) (fun _ => rfl) (fun _ => rfl))))) (fun b1 => (aj_nil (fcall_p rfl (r_lot_excess (by omega) row_ b1) (fun _ => rfl) (fun _ => rfl))))))) (fun _ => (ret_fr rfl)) (fun _ => (.any .nil))) (fun _ => rfl)

def m__law_lots (n_ : Int) : Option ((List (List Int))) :=
  (Option.bind (rangeM 0 n_) fun b2 => forM' (fun (s3 : (List (List Int))) (a1 : Int) => (Option.bind (compM (fun (a4 : (List Int)) => (some true)) (fun (a4 : (List Int)) => (addM a4 [a1])) s3) fun b6 => (addM s3 b6))) b2 ([[]]))

theorem r__law_lots {k : Nat} (hk : 1 ≤ k) (n_ : Int) : CJ (tab defs FUEL k) "_law_lots" [⟨.imm, true, eI n_⟩] (m__law_lots n_) (fun b => ⟨.flat, .fr, (eL (eT eI)) b⟩) (fun b => [none]) := by
  obtain ⟨k, rfl⟩ : ∃ j, k = j + 1 := ⟨k - 1, by omega⟩
  unfold m__law_lots
  exact fn_step (rs := fun b => [none, none, none, none]) e__law_lots rfl (rj_t (xt_asg (show ET _ _ _ ⟨.flat, .fr, (eL (eT eI)) ([[]])⟩ from (et_lst (at_cons (show ET _ _ _ ⟨.imm, .fr, (eT eI) []⟩ from (et_tup at_nil rfl rfl rfl rfl rfl rfl)) at_nil) rfl rfl rfl rfl rfl rfl)) (tg_nm rfl rfl)) (rj_jid (xj_for (V := fun a1 => ⟨.imm, .fr, eI a1⟩) (spL := fun (s3 : (List (List Int))) => [some (some ⟨.imm, true, eI n_⟩), some (some ⟨.flat, true, (eL (eT eI)) s3⟩), none, some none]) (spT := fun (s3 : (List (List Int))) (a1 : Int) => [some (some ⟨.imm, true, eI n_⟩), some (some ⟨.flat, true, (eL (eT eI)) s3⟩), some (some ⟨.imm, true, eI a1⟩), some none]) (mb := fun (s3 : (List (List Int))) (a1 : Int) => (Option.bind (compM (fun (a4 : (List Int)) => (some true)) (fun (a4 : (List Int)) => (addM a4 [a1])) s3) fun b6 => (addM s3 b6))) (s0 := fun (b2 : (List Int)) => [[]]) (ij_p (V := fun a => ⟨.imm, .fr, eI a⟩) (fun _ _ _ => rfl) (at_cons (show ET _ _ _ ⟨.imm, .fr, eI n_⟩ from (et_var rfl)) at_nil) rfl w_rng1 rfl) (fun b2 => (.eq (.eq (.any (.eq .nil))))) (fun s3 a1 => (tg_nm rfl rfl)) (fun s3 a1 => (bj_jid (xj_asg (sp2 := fun (found7 : (List (List Int))) => [some (some ⟨.imm, true, eI n_⟩), some (some ⟨.flat, true, (eL (eT eI)) found7⟩), some (some ⟨.imm, true, eI a1⟩), some none]) (ej_p2 (val := (fun (b : (List (List Int))) => ⟨.flat, .fr, (eL (eT eI)) b⟩)) (sp' := (fun (b : (List (List Int))) => [some (some ⟨.imm, true, eI n_⟩), some (some ⟨.flat, true, (eL (eT eI)) s3⟩), some (some ⟨.imm, true, eI a1⟩), some none])) (aj_t (show ET _ _ _ ⟨.flat, (.sl 1), (eL (eT eI)) s3⟩ from (et_varO rfl rfl)) (aj_j (ej_compM0 (own := [3]) (dp := false) (V := fun (a4 : (List Int)) => ⟨.imm, .fr, (eT eI) a4⟩) (enc := (eT eI)) (ke := .imm) (sp1 := [some (some ⟨.imm, true, eI n_⟩), some (some ⟨.flat, true, (eL (eT eI)) s3⟩), some (some ⟨.imm, true, eI a1⟩), some none]) (spC := [some (some ⟨.imm, true, eI n_⟩), some (some ⟨.flat, true, (eL (eT eI)) s3⟩), some (some ⟨.imm, true, eI a1⟩), some none]) (spT := fun (a4 : (List Int)) => [some (some ⟨.imm, true, eI n_⟩), some (some ⟨.flat, true, (eL (eT eI)) s3⟩), some (some ⟨.imm, true, eI a1⟩), some (some ⟨.imm, true, (eT eI) a4⟩)]) (mc := fun (a4 : (List Int)) => (some true)) (me := fun (a4 : (List Int)) => (addM a4 [a1])) (sp' := [some (some ⟨.imm, true, eI n_⟩), some (some ⟨.flat, true, (eL (eT eI)) s3⟩), some (some ⟨.imm, true, eI a1⟩), some none]) (ij_t (V := fun (a : (List Int)) => ⟨.imm, .fr, (eT eI) a⟩) (fun _ _ _ => rfl) (at_cons (show ET _ _ _ ⟨.flat, (.sl 1), (eL (eT eI)) s3⟩ from (et_varO rfl rfl)) at_nil) rfl (w_L (imT imI)) rfl) (.eq (.eq (.eq (.eq .nil)))) (fun (a4 : (List Int)) => (tg_nm rfl rfl)) (fun (a4 : (List Int)) => (ej_t (val := fun (b : Bool) => ⟨.imm, .fr, eB b⟩) (sp' := fun _ => [some (some ⟨.imm, true, eI n_⟩), some (some ⟨.flat, true, (eL (eT eI)) s3⟩), some (some ⟨.imm, true, eI a1⟩), some (some ⟨.imm, true, (eT eI) a4⟩)]) (show ET _ _ _ ⟨.imm, .fr, eB true⟩ from et_con) rfl rfl)) (fun (a4 : (List Int)) => (ej_p2 (val := (fun (b : (List Int)) => ⟨.imm, .fr, (eT eI) b⟩)) (sp' := (fun (b : (List Int)) => [some (some ⟨.imm, true, eI n_⟩), some (some ⟨.flat, true, (eL (eT eI)) s3⟩), some (some ⟨.imm, true, eI a1⟩), some (some ⟨.imm, true, (eT eI) a4⟩)])) (aj_t (show ET _ _ _ ⟨.imm, .fr, (eT eI) a4⟩ from (et_var rfl)) (aj_t (show ET _ _ _ ⟨.imm, .fr, (eP1 eI) a1⟩ from (et_tup (at_cons (show ET _ _ _ ⟨.imm, .fr, eI a1⟩ from (et_var rfl)) at_nil) rfl rfl rfl rfl rfl rfl)) (aj_nil (fp2_p (q_addT (f := eI) (xs := a4) (ys := [a1]) imI) (fun _ => rfl) (fun _ => rfl))))))) (fun (a4 : (List Int)) => (.eq (.eq (.eq (.eq .nil))))) rfl rfl) (fun b6 => (aj_nil (fp2_p (q_addL (imT imI)) (fun _ => rfl) (fun _ => rfl))))))) (fun found7 => (tg_nm rfl rfl))) (fun found7 => (bj_nil (.eq (.eq (.any (.eq .nil))))))))) (fun s3 => (rj_ret (show ET _ _ _ ⟨.flat, (.sl 1), (eL (eT eI)) s3⟩ from (et_varO rfl rfl)) (ret_sl rfl rfl) (.any (.any (.eq (.any .nil)))))))) (fun _ => rfl)

def m_law (s_ : D) : Option Bool :=
  (Option.bind (rangeM 0 5) fun b2 => ouR (forO (fun (s3 : D) (a1 : Int) => (Option.bind (Option.bind (Option.bind (atI [4, 8, 12, 7, 12] a1) fun b4 => (pickM s3 b4)) fun b5 => (some ((1 + b5.1), b5.2))) fun n6 => (Option.bind (m__law_row n6.2 n6.1) fun row7 => (Option.bind (Option.bind (reprM ((eT eI) row7.1)) fun b8 => (Option.bind (Option.bind (rangeM 0 (n6.1 + 1)) fun b10 => compM (fun (a9 : Int) => (some true)) (fun (a9 : Int) => (m__law_told_lot row7.1 a9)) b10) fun b12 => (some (b8, b12)))) fun b13 => (Option.bind (Option.bind (Option.bind (Option.bind (rangeM 0 (n6.1 + 1)) fun b15 => compM (fun (a14 : Int) => (some true)) (fun (a14 : Int) => (m_greatest_lot row7.1 a14)) b15) fun b17 => (reprM ((eL (eT eI)) b17))) fun b18 => (Option.bind (reprM ((eL (eT eI)) b13.2)) fun b19 => (neS b18 b19))) fun q20 => if q20 = true then (some (Ou.rt false)) else (Option.bind (compM (fun (a21 : (List Int)) => (some true)) (fun (a21 : (List Int)) => (m__law_excess row7.1 a21)) b13.2) fun excesses23 => (Option.bind (Option.bind (maxM excesses23) fun b24 => (Option.bind (Option.bind (Option.bind (maxM excesses23) fun b25 => (idxM excesses23 b25)) fun b26 => (atI b13.2 b26)) fun b27 => (some [(eI b24), ((eT eI) b27)]))) fun due28 => (Option.bind (Option.bind (Option.bind (Option.bind (m_greatest_excess row7.1) fun b29 => (Option.bind (m_worst_lot row7.1) fun b30 => (some [(eI b29), ((eT eI) b30)]))) fun b31 => (reprM ((eL eA) b31))) fun b32 => (Option.bind (reprM ((eL eA) due28)) fun b33 => (neS b32 b33))) fun q34 => if q34 = true then (some (Ou.rt false)) else (Option.bind (Option.bind (rangeM 0 4) fun b36 => fitM (List.length b36) (compS (fun (s37 : (D)) (a35 : Int) => (some (true, s37))) (fun (s37 : (D)) (a35 : Int) => (Option.bind (rangeM 0 n6.1) fun b44 => fitM (List.length b44) (compS (fun (s45 : (D)) (a43 : Int) => (Option.bind (pickM s45 2) fun b46 => (some ((eqB b46.1 0), b46.2)))) (fun (s45 : (D)) (a43 : Int) => (some (a43, s45))) b44 s37))) b36 row7.2)) fun some48 => (Option.bind (Option.bind (Option.bind (Option.bind (addM some48.1 b13.2) fun b51 => compM (fun (a50 : (List Int)) => (some true)) (fun (a50 : (List Int)) => (m_lot_excess row7.1 a50)) b51) fun b53 => (reprM ((eL eI) b53))) fun b54 => (Option.bind (Option.bind (Option.bind (addM some48.1 b13.2) fun b57 => compM (fun (a56 : (List Int)) => (some true)) (fun (a56 : (List Int)) => (m__law_excess row7.1 a56)) b57) fun b59 => (reprM ((eL eI) b59))) fun b60 => (neS b54 b60))) fun q61 => if q61 = true then (some (Ou.rt false)) else (Option.bind (if (decide (n6.1 < 8)) = true then (Option.bind (Option.bind (m__law_lots n6.1) fun b64 => compM (fun (a63 : (List Int)) => (Option.bind (m__law_excess row7.1 a63) fun b66 => (Option.bind (atI excesses23 ((List.length a63 : Nat) : Int)) fun b67 => (some (decide (b67 < b66)))))) (fun (a63 : (List Int)) => (some (1 : Int))) b64) fun b68 => (some (!eqB b68 []))) else some false) fun q69 => if q69 = true then (some (Ou.rt false)) else (Option.bind (Option.bind (reprM ((eT eI) row7.1)) fun b70 => (neS b70 b13.1)) fun q71 => if q71 = true then (some (Ou.rt false)) else (some (Ou.nx some48.2)))))))))))))) b2 s_) fun s3 => (Option.bind (Option.bind (m_lot_excess [3, 3, 1, 1] [0, 1]) fun b72 => (Option.bind (m_greatest_lot [1, 2, 2] 1) fun b73 => (Option.bind (m_worst_lot [3, 3, 3]) fun b74 => (Option.bind (m_greatest_excess [0]) fun b75 => (some [(eI b72), ((eT eI) b73), ((eT eI) b74), (eI b75)]))))) fun told76 => (Option.bind (reprM ((eL eA) told76)) fun b77 => (Option.bind (reprM ((eL eA) [(eI 2), ((eP1 eI) 1), ((eP3 eI eI eI) (0, 1, 2)), (eI 0)])) fun b78 => (eqS b77 b78)))))

theorem r_law {k : Nat} (hk : 5 ≤ k) (s_ : D) : RJ (tab defs FUEL k) [] c_law.body [] [some none, some (some ⟨.deep, true, eA s_⟩), some none, some none, some none, some none, some none, some none, some none, some none, some none, some none, some none, some none, some none] (m_law s_) (fun b => ⟨.imm, .fr, eB b⟩) (fun b => [none, none, none, none, none, none, none, none, none, none, none, none, none, none, none]) := by
  unfold m_law
  exact (rj_for (V := fun a1 => ⟨.imm, .fr, eI a1⟩) (spL := fun (s3 : D) => [some none, some (some ⟨.deep, true, eA s3⟩), none, none, none, none, none, none, none, none, some none, some none, some none, some none, some none]) (spT := fun (s3 : D) (a1 : Int) => [some none, some (some ⟨.deep, true, eA s3⟩), some (some ⟨.imm, true, eI a1⟩), none, none, none, none, none, none, none, some none, some none, some none, some none, some none]) (mb := fun (s3 : D) (a1 : Int) => (Option.bind (Option.bind (Option.bind (atI [4, 8, 12, 7, 12] a1) fun b4 => (pickM s3 b4)) fun b5 => (some ((1 + b5.1), b5.2))) fun n6 => (Option.bind (m__law_row n6.2 n6.1) fun row7 => (Option.bind (Option.bind (reprM ((eT eI) row7.1)) fun b8 => (Option.bind (Option.bind (rangeM 0 (n6.1 + 1)) fun b10 => compM (fun (a9 : Int) => (some true)) (fun (a9 : Int) => (m__law_told_lot row7.1 a9)) b10) fun b12 => (some (b8, b12)))) fun b13 => (Option.bind (Option.bind (Option.bind (Option.bind (rangeM 0 (n6.1 + 1)) fun b15 => compM (fun (a14 : Int) => (some true)) (fun (a14 : Int) => (m_greatest_lot row7.1 a14)) b15) fun b17 => (reprM ((eL (eT eI)) b17))) fun b18 => (Option.bind (reprM ((eL (eT eI)) b13.2)) fun b19 => (neS b18 b19))) fun q20 => if q20 = true then (some (Ou.rt false)) else (Option.bind (compM (fun (a21 : (List Int)) => (some true)) (fun (a21 : (List Int)) => (m__law_excess row7.1 a21)) b13.2) fun excesses23 => (Option.bind (Option.bind (maxM excesses23) fun b24 => (Option.bind (Option.bind (Option.bind (maxM excesses23) fun b25 => (idxM excesses23 b25)) fun b26 => (atI b13.2 b26)) fun b27 => (some [(eI b24), ((eT eI) b27)]))) fun due28 => (Option.bind (Option.bind (Option.bind (Option.bind (m_greatest_excess row7.1) fun b29 => (Option.bind (m_worst_lot row7.1) fun b30 => (some [(eI b29), ((eT eI) b30)]))) fun b31 => (reprM ((eL eA) b31))) fun b32 => (Option.bind (reprM ((eL eA) due28)) fun b33 => (neS b32 b33))) fun q34 => if q34 = true then (some (Ou.rt false)) else (Option.bind (Option.bind (rangeM 0 4) fun b36 => fitM (List.length b36) (compS (fun (s37 : (D)) (a35 : Int) => (some (true, s37))) (fun (s37 : (D)) (a35 : Int) => (Option.bind (rangeM 0 n6.1) fun b44 => fitM (List.length b44) (compS (fun (s45 : (D)) (a43 : Int) => (Option.bind (pickM s45 2) fun b46 => (some ((eqB b46.1 0), b46.2)))) (fun (s45 : (D)) (a43 : Int) => (some (a43, s45))) b44 s37))) b36 row7.2)) fun some48 => (Option.bind (Option.bind (Option.bind (Option.bind (addM some48.1 b13.2) fun b51 => compM (fun (a50 : (List Int)) => (some true)) (fun (a50 : (List Int)) => (m_lot_excess row7.1 a50)) b51) fun b53 => (reprM ((eL eI) b53))) fun b54 => (Option.bind (Option.bind (Option.bind (addM some48.1 b13.2) fun b57 => compM (fun (a56 : (List Int)) => (some true)) (fun (a56 : (List Int)) => (m__law_excess row7.1 a56)) b57) fun b59 => (reprM ((eL eI) b59))) fun b60 => (neS b54 b60))) fun q61 => if q61 = true then (some (Ou.rt false)) else (Option.bind (if (decide (n6.1 < 8)) = true then (Option.bind (Option.bind (m__law_lots n6.1) fun b64 => compM (fun (a63 : (List Int)) => (Option.bind (m__law_excess row7.1 a63) fun b66 => (Option.bind (atI excesses23 ((List.length a63 : Nat) : Int)) fun b67 => (some (decide (b67 < b66)))))) (fun (a63 : (List Int)) => (some (1 : Int))) b64) fun b68 => (some (!eqB b68 []))) else some false) fun q69 => if q69 = true then (some (Ou.rt false)) else (Option.bind (Option.bind (reprM ((eT eI) row7.1)) fun b70 => (neS b70 b13.1)) fun q71 => if q71 = true then (some (Ou.rt false)) else (some (Ou.nx some48.2)))))))))))))) (s0 := fun (b2 : (List Int)) => s_) (ij_p (V := fun a => ⟨.imm, .fr, eI a⟩) (fun _ _ _ => rfl) (at_cons (show ET _ _ _ ⟨.imm, .fr, eI 5⟩ from et_con) at_nil) rfl w_rng1 rfl) (fun b2 => (.eq (.eq (.any (.any (.any (.any (.any (.any (.any (.any (.eq (.eq (.eq (.eq (.eq .nil)))))))))))))))) (fun s3 a1 => (tg_nm rfl rfl)) (fun s3 a1 => (sj_j (xj_asg (sp2 := fun (n6 : Int × D) => [some none, some (some ⟨.deep, true, eA n6.2⟩), some (some ⟨.imm, true, eI a1⟩), some (some ⟨.imm, true, eI n6.1⟩), none, none, none, none, none, none, some none, some none, some none, some none, some none]) (ej_p2 (val := (fun (b : Int × D) => ⟨.imm, .fr, eI b.1⟩)) (sp' := (fun (b : Int × D) => [some none, some (some ⟨.deep, true, eA b.2⟩), some (some ⟨.imm, true, eI a1⟩), none, none, none, none, none, none, none, some none, some none, some none, some none, some none])) (aj_t (show ET _ _ _ ⟨.imm, .fr, eI 1⟩ from et_con) (aj_j (ej_call (val := (fun (b : Int × D) => ⟨.imm, .fr, eI b.1⟩)) (sp' := (fun (b : Int × D) => [some none, some (some ⟨.deep, true, eA b.2⟩), some (some ⟨.imm, true, eI a1⟩), none, none, none, none, none, none, none, some none, some none, some none, some none, some none])) (io_of e__law_pick rfl) (aj_t (show ET _ _ _ ⟨.deep, (.sl 1), eA s3⟩ from (et_varO rfl rfl)) (aj_j (ej_ix (val := (fun (b : Int) => ⟨.imm, .fr, eI b⟩)) (sp' := (fun (b : Int) => [some none, some (some ⟨.deep, true, eA s3⟩), some (some ⟨.imm, true, eI a1⟩), none, none, none, none, none, none, none, some none, some none, some none, some none, some none])) (aj_t (show ET _ _ _ ⟨.flat, .fr, (eL eI) [4, 8, 12, 7, 12]⟩ from (et_lst (at_cons (show ET _ _ _ ⟨.imm, .fr, eI 4⟩ from et_con) (at_cons (show ET _ _ _ ⟨.imm, .fr, eI 8⟩ from et_con) (at_cons (show ET _ _ _ ⟨.imm, .fr, eI 12⟩ from et_con) (at_cons (show ET _ _ _ ⟨.imm, .fr, eI 7⟩ from et_con) (at_cons (show ET _ _ _ ⟨.imm, .fr, eI 12⟩ from et_con) at_nil))))) rfl rfl rfl rfl rfl rfl)) (aj_t (show ET _ _ _ ⟨.imm, .fr, eI a1⟩ from (et_var rfl)) (aj_nil (fix_p (q_ixL imI) (fun _ => rfl) (fun _ => rfl)))))) (fun b4 => (aj_nil (fcall_p rfl (rr_pick (by omega) s3 b4) (fun _ => rfl) (fun _ => rfl))))))) (fun b5 => (aj_nil (fp2_t q_add rfl rfl)))))) (fun n6 => (tg_nm rfl rfl))) (fun n6 => (sj_j (xj_asg (sp2 := fun (row7 : (List Int) × D) => [some none, some (some ⟨.deep, true, eA row7.2⟩), some (some ⟨.imm, true, eI a1⟩), some (some ⟨.imm, true, eI n6.1⟩), some (some ⟨.imm, true, (eT eI) row7.1⟩), none, none, none, none, none, some none, some none, some none, some none, some none]) (ej_call (val := (fun (b : (List Int) × D) => ⟨.imm, .fr, (eT eI) b.1⟩)) (sp' := (fun (b : (List Int) × D) => [some none, some (some ⟨.deep, true, eA b.2⟩), some (some ⟨.imm, true, eI a1⟩), some (some ⟨.imm, true, eI n6.1⟩), none, none, none, none, none, none, some none, some none, some none, some none, some none])) (io_of e__law_row rfl) (aj_t (show ET _ _ _ ⟨.deep, (.sl 1), eA n6.2⟩ from (et_varO rfl rfl)) (aj_t (show ET _ _ _ ⟨.imm, .fr, eI n6.1⟩ from (et_var rfl)) (aj_nil (fcall_p rfl (r__law_row (by omega) n6.2 n6.1) (fun _ => rfl) (fun _ => rfl)))))) (fun row7 => (tg_nm rfl rfl))) (fun row7 => (sj_j (xj_par (sp' := (fun (b : Str × (List (List Int))) => [some none, some (some ⟨.deep, true, eA row7.2⟩), some (some ⟨.imm, true, eI a1⟩), some (some ⟨.imm, true, eI n6.1⟩), some (some ⟨.imm, true, (eT eI) row7.1⟩), some (some ⟨.imm, true, eS b.1⟩), some (some ⟨.flat, true, (eL (eT eI)) b.2⟩), none, none, none, some none, some none, some none, some none, some none])) (aj_j (ej_p1 (val := (fun (b : Str) => ⟨.imm, .fr, eS b⟩)) (sp' := (fun (b : Str) => [some none, some (some ⟨.deep, true, eA row7.2⟩), some (some ⟨.imm, true, eI a1⟩), some (some ⟨.imm, true, eI n6.1⟩), some (some ⟨.imm, true, (eT eI) row7.1⟩), none, none, none, none, none, some none, some none, some none, some none, some none])) (aj_t (show ET _ _ _ ⟨.imm, .fr, (eT eI) row7.1⟩ from (et_var rfl)) (aj_nil (fp1_p q_repr (fun _ => rfl) (fun _ => rfl))))) (fun b8 => (aj_j (ej_compM (own := [11]) (dp := false) (V := fun (a9 : Int) => ⟨.imm, .fr, eI a9⟩) (enc := (eT eI)) (ke := .imm) (sp1 := fun (b10 : (List Int)) => [some none, some (some ⟨.deep, true, eA row7.2⟩), some (some ⟨.imm, true, eI a1⟩), some (some ⟨.imm, true, eI n6.1⟩), some (some ⟨.imm, true, (eT eI) row7.1⟩), none, none, none, none, none, some none, some none, some none, some none, some none]) (spC := [some none, some (some ⟨.deep, true, eA row7.2⟩), some (some ⟨.imm, true, eI a1⟩), some (some ⟨.imm, true, eI n6.1⟩), some (some ⟨.imm, true, (eT eI) row7.1⟩), none, none, none, none, none, some none, some none, some none, some none, some none]) (spT := fun (a9 : Int) => [some none, some (some ⟨.deep, true, eA row7.2⟩), some (some ⟨.imm, true, eI a1⟩), some (some ⟨.imm, true, eI n6.1⟩), some (some ⟨.imm, true, (eT eI) row7.1⟩), none, none, none, none, none, some none, some (some ⟨.imm, true, eI a9⟩), some none, some none, some none]) (mc := fun (a9 : Int) => (some true)) (me := fun (a9 : Int) => (m__law_told_lot row7.1 a9)) (sp' := [some none, some (some ⟨.deep, true, eA row7.2⟩), some (some ⟨.imm, true, eI a1⟩), some (some ⟨.imm, true, eI n6.1⟩), some (some ⟨.imm, true, (eT eI) row7.1⟩), none, none, none, none, none, some none, some none, some none, some none, some none]) (ij_p (V := fun a => ⟨.imm, .fr, eI a⟩) (fun _ _ _ => rfl) (at_cons (show ET _ _ _ ⟨.imm, .fr, eI (n6.1 + 1)⟩ from (et_p2 (show ET _ _ _ ⟨.imm, .fr, eI n6.1⟩ from (et_var rfl)) (show ET _ _ _ ⟨.imm, .fr, eI 1⟩ from et_con) q_add)) at_nil) rfl w_rng1 rfl) (fun b10 => (.eq (.eq (.eq (.eq (.eq (.eq (.eq (.eq (.eq (.eq (.eq (.eq (.eq (.eq (.eq .nil)))))))))))))))) (fun (a9 : Int) => (tg_nm rfl rfl)) (fun (a9 : Int) => (ej_t (val := fun (b : Bool) => ⟨.imm, .fr, eB b⟩) (sp' := fun _ => [some none, some (some ⟨.deep, true, eA row7.2⟩), some (some ⟨.imm, true, eI a1⟩), some (some ⟨.imm, true, eI n6.1⟩), some (some ⟨.imm, true, (eT eI) row7.1⟩), none, none, none, none, none, some none, some (some ⟨.imm, true, eI a9⟩), some none, some none, some none]) (show ET _ _ _ ⟨.imm, .fr, eB true⟩ from et_con) rfl rfl)) (fun (a9 : Int) => (ej_call (val := (fun (b : (List Int)) => ⟨.imm, .fr, (eT eI) b⟩)) (sp' := (fun (b : (List Int)) => [some none, some (some ⟨.deep, true, eA row7.2⟩), some (some ⟨.imm, true, eI a1⟩), some (some ⟨.imm, true, eI n6.1⟩), some (some ⟨.imm, true, (eT eI) row7.1⟩), none, none, none, none, none, some none, some (some ⟨.imm, true, eI a9⟩), some none, some none, some none])) (io_of e__law_told_lot rfl) (aj_t (show ET _ _ _ ⟨.imm, .fr, (eT eI) row7.1⟩ from (et_var rfl)) (aj_t (show ET _ _ _ ⟨.imm, .fr, eI a9⟩ from (et_var rfl)) (aj_nil (fcall_p rfl (r__law_told_lot (by omega) row7.1 a9) (fun _ => rfl) (fun _ => rfl))))))) (fun (a9 : Int) => (.eq (.eq (.eq (.eq (.eq (.eq (.eq (.eq (.eq (.eq (.eq (.eq (.eq (.eq (.eq .nil)))))))))))))))) rfl (fun _ => rfl)) (fun b12 => (aj_nil (fpar_t rfl rfl))))))) (fun b13 => (sj_iteJ (t := fun (q20 : Bool) => q20) (ej_p2 (val := (fun (b : Bool) => ⟨.imm, .fr, eB b⟩)) (sp' := (fun (b : Bool) => [some none, some (some ⟨.deep, true, eA row7.2⟩), some (some ⟨.imm, true, eI a1⟩), some (some ⟨.imm, true, eI n6.1⟩), some (some ⟨.imm, true, (eT eI) row7.1⟩), some (some ⟨.imm, true, eS b13.1⟩), some (some ⟨.flat, true, (eL (eT eI)) b13.2⟩), none, none, none, some none, some none, some none, some none, some none])) (aj_j (ej_p1 (val := (fun (b : Str) => ⟨.imm, .fr, eS b⟩)) (sp' := (fun (b : Str) => [some none, some (some ⟨.deep, true, eA row7.2⟩), some (some ⟨.imm, true, eI a1⟩), some (some ⟨.imm, true, eI n6.1⟩), some (some ⟨.imm, true, (eT eI) row7.1⟩), some (some ⟨.imm, true, eS b13.1⟩), some (some ⟨.flat, true, (eL (eT eI)) b13.2⟩), none, none, none, some none, some none, some none, some none, some none])) (aj_j (ej_compM (own := [11]) (dp := false) (V := fun (a14 : Int) => ⟨.imm, .fr, eI a14⟩) (enc := (eT eI)) (ke := .imm) (sp1 := fun (b15 : (List Int)) => [some none, some (some ⟨.deep, true, eA row7.2⟩), some (some ⟨.imm, true, eI a1⟩), some (some ⟨.imm, true, eI n6.1⟩), some (some ⟨.imm, true, (eT eI) row7.1⟩), some (some ⟨.imm, true, eS b13.1⟩), some (some ⟨.flat, true, (eL (eT eI)) b13.2⟩), none, none, none, some none, some none, some none, some none, some none]) (spC := [some none, some (some ⟨.deep, true, eA row7.2⟩), some (some ⟨.imm, true, eI a1⟩), some (some ⟨.imm, true, eI n6.1⟩), some (some ⟨.imm, true, (eT eI) row7.1⟩), some (some ⟨.imm, true, eS b13.1⟩), some (some ⟨.flat, true, (eL (eT eI)) b13.2⟩), none, none, none, some none, some none, some none, some none, some none]) (spT := fun (a14 : Int) => [some none, some (some ⟨.deep, true, eA row7.2⟩), some (some ⟨.imm, true, eI a1⟩), some (some ⟨.imm, true, eI n6.1⟩), some (some ⟨.imm, true, (eT eI) row7.1⟩), some (some ⟨.imm, true, eS b13.1⟩), some (some ⟨.flat, true, (eL (eT eI)) b13.2⟩), none, none, none, some none, some (some ⟨.imm, true, eI a14⟩), some none, some none, some none]) (mc := fun (a14 : Int) => (some true)) (me := fun (a14 : Int) => (m_greatest_lot row7.1 a14)) (sp' := [some none, some (some ⟨.deep, true, eA row7.2⟩), some (some ⟨.imm, true, eI a1⟩), some (some ⟨.imm, true, eI n6.1⟩), some (some ⟨.imm, true, (eT eI) row7.1⟩), some (some ⟨.imm, true, eS b13.1⟩), some (some ⟨.flat, true, (eL (eT eI)) b13.2⟩), none, none, none, some none, some none, some none, some none, some none]) (ij_p (V := fun a => ⟨.imm, .fr, eI a⟩) (fun _ _ _ => rfl) (at_cons (show ET _ _ _ ⟨.imm, .fr, eI (n6.1 + 1)⟩ from (et_p2 (show ET _ _ _ ⟨.imm, .fr, eI n6.1⟩ from (et_var rfl)) (show ET _ _ _ ⟨.imm, .fr, eI 1⟩ from et_con) q_add)) at_nil) rfl w_rng1 rfl) (fun b15 => (.eq (.eq (.eq (.eq (.eq (.eq (.eq (.eq (.eq (.eq (.eq (.eq (.eq (.eq (.eq .nil)))))))))))))))) (fun (a14 : Int) => (tg_nm rfl rfl)) (fun (a14 : Int) => (ej_t (val := fun (b : Bool) => ⟨.imm, .fr, eB b⟩) (sp' := fun _ => [some none, some (some ⟨.deep, true, eA row7.2⟩), some (some ⟨.imm, true, eI a1⟩), some (some ⟨.imm, true, eI n6.1⟩), some (some ⟨.imm, true, (eT eI) row7.1⟩), some (some ⟨.imm, true, eS b13.1⟩), some (some ⟨.flat, true, (eL (eT eI)) b13.2⟩), none, none, none, some none, some (some ⟨.imm, true, eI a14⟩), some none, some none, some none]) (show ET _ _ _ ⟨.imm, .fr, eB true⟩ from et_con) rfl rfl)) (fun (a14 : Int) => (ej_call (val := (fun (b : (List Int)) => ⟨.imm, .fr, (eT eI) b⟩)) (sp' := (fun (b : (List Int)) => [some none, some (some ⟨.deep, true, eA row7.2⟩), some (some ⟨.imm, true, eI a1⟩), some (some ⟨.imm, true, eI n6.1⟩), some (some ⟨.imm, true, (eT eI) row7.1⟩), some (some ⟨.imm, true, eS b13.1⟩), some (some ⟨.flat, true, (eL (eT eI)) b13.2⟩), none, none, none, some none, some (some ⟨.imm, true, eI a14⟩), some none, some none, some none])) (io_of e_greatest_lot rfl) (aj_t (show ET _ _ _ ⟨.imm, .fr, (eT eI) row7.1⟩ from (et_var rfl)) (aj_t (show ET _ _ _ ⟨.imm, .fr, eI a14⟩ from (et_var rfl)) (aj_nil (fcall_p rfl (r_greatest_lot (by omega) row7.1 a14) (fun _ => rfl) (fun _ => rfl))))))) (fun (a14 : Int) => (.eq (.eq (.eq (.eq (.eq (.eq (.eq (.eq (.eq (.eq (.eq (.eq (.eq (.eq (.eq .nil)))))))))))))))) rfl (fun _ => rfl)) (fun b17 => (aj_nil (fp1_p q_repr (fun _ => rfl) (fun _ => rfl)))))) (fun b18 => (aj_j (ej_p1 (val := (fun (b : Str) => ⟨.imm, .fr, eS b⟩)) (sp' := (fun (b : Str) => [some none, some (some ⟨.deep, true, eA row7.2⟩), some (some ⟨.imm, true, eI a1⟩), some (some ⟨.imm, true, eI n6.1⟩), some (some ⟨.imm, true, (eT eI) row7.1⟩), some (some ⟨.imm, true, eS b13.1⟩), some (some ⟨.flat, true, (eL (eT eI)) b13.2⟩), none, none, none, some none, some none, some none, some none, some none])) (aj_t (show ET _ _ _ ⟨.flat, (.sl 6), (eL (eT eI)) b13.2⟩ from (et_varO rfl rfl)) (aj_nil (fp1_p q_repr (fun _ => rfl) (fun _ => rfl))))) (fun b19 => (aj_nil (fp2_p q_neS (fun _ => rfl) (fun _ => rfl)))))))) (fun _ => rfl) (fun q20 => (sj_ret (show ET _ _ _ ⟨.imm, .fr, eB false⟩ from et_con) (ret_fr rfl) (.any (.any (.any (.any (.any (.any (.any (.eq (.eq (.eq (.any (.any (.any (.any (.any .nil))))))))))))))))) (fun q20 => (sj_j (xj_asg (sp2 := fun (excesses23 : (List Int)) => [some none, some (some ⟨.deep, true, eA row7.2⟩), some (some ⟨.imm, true, eI a1⟩), some (some ⟨.imm, true, eI n6.1⟩), some (some ⟨.imm, true, (eT eI) row7.1⟩), some (some ⟨.imm, true, eS b13.1⟩), some (some ⟨.flat, true, (eL (eT eI)) b13.2⟩), some (some ⟨.flat, true, (eL eI) excesses23⟩), none, none, some none, some none, some none, some none, some none]) (ej_compM0 (own := [12]) (dp := false) (V := fun (a21 : (List Int)) => ⟨.imm, .fr, (eT eI) a21⟩) (enc := eI) (ke := .imm) (sp1 := [some none, some (some ⟨.deep, true, eA row7.2⟩), some (some ⟨.imm, true, eI a1⟩), some (some ⟨.imm, true, eI n6.1⟩), some (some ⟨.imm, true, (eT eI) row7.1⟩), some (some ⟨.imm, true, eS b13.1⟩), some (some ⟨.flat, true, (eL (eT eI)) b13.2⟩), none, none, none, some none, some none, some none, some none, some none]) (spC := [some none, some (some ⟨.deep, true, eA row7.2⟩), some (some ⟨.imm, true, eI a1⟩), some (some ⟨.imm, true, eI n6.1⟩), some (some ⟨.imm, true, (eT eI) row7.1⟩), some (some ⟨.imm, true, eS b13.1⟩), some (some ⟨.flat, true, (eL (eT eI)) b13.2⟩), none, none, none, some none, some none, some none, some none, some none]) (spT := fun (a21 : (List Int)) => [some none, some (some ⟨.deep, true, eA row7.2⟩), some (some ⟨.imm, true, eI a1⟩), some (some ⟨.imm, true, eI n6.1⟩), some (some ⟨.imm, true, (eT eI) row7.1⟩), some (some ⟨.imm, true, eS b13.1⟩), some (some ⟨.flat, true, (eL (eT eI)) b13.2⟩), none, none, none, some none, some none, some (some ⟨.imm, true, (eT eI) a21⟩), some none, some none]) (mc := fun (a21 : (List Int)) => (some true)) (me := fun (a21 : (List Int)) => (m__law_excess row7.1 a21)) (sp' := [some none, some (some ⟨.deep, true, eA row7.2⟩), some (some ⟨.imm, true, eI a1⟩), some (some ⟨.imm, true, eI n6.1⟩), some (some ⟨.imm, true, (eT eI) row7.1⟩), some (some ⟨.imm, true, eS b13.1⟩), some (some ⟨.flat, true, (eL (eT eI)) b13.2⟩), none, none, none, some none, some none, some none, some none, some none]) (ij_t (V := fun (a : (List Int)) => ⟨.imm, .fr, (eT eI) a⟩) (fun _ _ _ => rfl) (at_cons (show ET _ _ _ ⟨.flat, (.sl 6), (eL (eT eI)) b13.2⟩ from (et_varO rfl rfl)) at_nil) rfl (w_L (imT imI)) rfl) (.eq (.eq (.eq (.eq (.eq (.eq (.eq (.eq (.eq (.eq (.eq (.eq (.eq (.eq (.eq .nil))))))))))))))) (fun (a21 : (List Int)) => (tg_nm rfl rfl)) (fun (a21 : (List Int)) => (ej_t (val := fun (b : Bool) => ⟨.imm, .fr, eB b⟩) (sp' := fun _ => [some none, some (some ⟨.deep, true, eA row7.2⟩), some (some ⟨.imm, true, eI a1⟩), some (some ⟨.imm, true, eI n6.1⟩), some (some ⟨.imm, true, (eT eI) row7.1⟩), some (some ⟨.imm, true, eS b13.1⟩), some (some ⟨.flat, true, (eL (eT eI)) b13.2⟩), none, none, none, some none, some none, some (some ⟨.imm, true, (eT eI) a21⟩), some none, some none]) (show ET _ _ _ ⟨.imm, .fr, eB true⟩ from et_con) rfl rfl)) (fun (a21 : (List Int)) => (ej_call (val := (fun (b : Int) => ⟨.imm, .fr, eI b⟩)) (sp' := (fun (b : Int) => [some none, some (some ⟨.deep, true, eA row7.2⟩), some (some ⟨.imm, true, eI a1⟩), some (some ⟨.imm, true, eI n6.1⟩), some (some ⟨.imm, true, (eT eI) row7.1⟩), some (some ⟨.imm, true, eS b13.1⟩), some (some ⟨.flat, true, (eL (eT eI)) b13.2⟩), none, none, none, some none, some none, some (some ⟨.imm, true, (eT eI) a21⟩), some none, some none])) (io_of e__law_excess rfl) (aj_t (show ET _ _ _ ⟨.imm, .fr, (eT eI) row7.1⟩ from (et_var rfl)) (aj_t (show ET _ _ _ ⟨.imm, .fr, (eT eI) a21⟩ from (et_var rfl)) (aj_nil (fcall_p rfl (r__law_excess (by omega) row7.1 a21) (fun _ => rfl) (fun _ => rfl))))))) (fun (a21 : (List Int)) => (.eq (.eq (.eq (.eq (.eq (.eq (.eq (.eq (.eq (.eq (.eq (.eq (.eq (.eq (.eq .nil)))))))))))))))) rfl rfl) (fun excesses23 => (tg_nm rfl rfl))) (fun excesses23 => (sj_j (xj_asg (sp2 := fun (due28 : (List D)) => [some none, some (some ⟨.deep, true, eA row7.2⟩), some (some ⟨.imm, true, eI a1⟩), some (some ⟨.imm, true, eI n6.1⟩), some (some ⟨.imm, true, (eT eI) row7.1⟩), some (some ⟨.imm, true, eS b13.1⟩), some (some ⟨.flat, true, (eL (eT eI)) b13.2⟩), some (some ⟨.flat, true, (eL eI) excesses23⟩), some (some ⟨.flat, true, (eL eA) due28⟩), none, some none, some none, some none, some none, some none]) (ej_lst (val := (fun (b : (List D)) => ⟨.flat, .fr, (eL eA) b⟩)) (sp' := (fun (b : (List D)) => [some none, some (some ⟨.deep, true, eA row7.2⟩), some (some ⟨.imm, true, eI a1⟩), some (some ⟨.imm, true, eI n6.1⟩), some (some ⟨.imm, true, (eT eI) row7.1⟩), some (some ⟨.imm, true, eS b13.1⟩), some (some ⟨.flat, true, (eL (eT eI)) b13.2⟩), some (some ⟨.flat, true, (eL eI) excesses23⟩), none, none, some none, some none, some none, some none, some none])) (aj_j (ej_p1 (val := (fun (b : Int) => ⟨.imm, .fr, eI b⟩)) (sp' := (fun (b : Int) => [some none, some (some ⟨.deep, true, eA row7.2⟩), some (some ⟨.imm, true, eI a1⟩), some (some ⟨.imm, true, eI n6.1⟩), some (some ⟨.imm, true, (eT eI) row7.1⟩), some (some ⟨.imm, true, eS b13.1⟩), some (some ⟨.flat, true, (eL (eT eI)) b13.2⟩), some (some ⟨.flat, true, (eL eI) excesses23⟩), none, none, some none, some none, some none, some none, some none])) (aj_t (show ET _ _ _ ⟨.flat, (.sl 7), (eL eI) excesses23⟩ from (et_varO rfl rfl)) (aj_nil (fp1_p q_maxOf (fun _ => rfl) (fun _ => rfl))))) (fun b24 => (aj_j (ej_ix (val := (fun (b : (List Int)) => ⟨.imm, .fr, (eT eI) b⟩)) (sp' := (fun (b : (List Int)) => [some none, some (some ⟨.deep, true, eA row7.2⟩), some (some ⟨.imm, true, eI a1⟩), some (some ⟨.imm, true, eI n6.1⟩), some (some ⟨.imm, true, (eT eI) row7.1⟩), some (some ⟨.imm, true, eS b13.1⟩), some (some ⟨.flat, true, (eL (eT eI)) b13.2⟩), some (some ⟨.flat, true, (eL eI) excesses23⟩), none, none, some none, some none, some none, some none, some none])) (aj_t (show ET _ _ _ ⟨.flat, (.sl 6), (eL (eT eI)) b13.2⟩ from (et_varO rfl rfl)) (aj_j (ej_idx (val := (fun (b : Int) => ⟨.imm, .fr, eI b⟩)) (sp' := (fun (b : Int) => [some none, some (some ⟨.deep, true, eA row7.2⟩), some (some ⟨.imm, true, eI a1⟩), some (some ⟨.imm, true, eI n6.1⟩), some (some ⟨.imm, true, (eT eI) row7.1⟩), some (some ⟨.imm, true, eS b13.1⟩), some (some ⟨.flat, true, (eL (eT eI)) b13.2⟩), some (some ⟨.flat, true, (eL eI) excesses23⟩), none, none, some none, some none, some none, some none, some none])) (aj_t (show ET _ _ _ ⟨.flat, (.sl 7), (eL eI) excesses23⟩ from (et_varO rfl rfl)) (aj_j (ej_p1 (val := (fun (b : Int) => ⟨.imm, .fr, eI b⟩)) (sp' := (fun (b : Int) => [some none, some (some ⟨.deep, true, eA row7.2⟩), some (some ⟨.imm, true, eI a1⟩), some (some ⟨.imm, true, eI n6.1⟩), some (some ⟨.imm, true, (eT eI) row7.1⟩), some (some ⟨.imm, true, eS b13.1⟩), some (some ⟨.flat, true, (eL (eT eI)) b13.2⟩), some (some ⟨.flat, true, (eL eI) excesses23⟩), none, none, some none, some none, some none, some none, some none])) (aj_t (show ET _ _ _ ⟨.flat, (.sl 7), (eL eI) excesses23⟩ from (et_varO rfl rfl)) (aj_nil (fp1_p q_maxOf (fun _ => rfl) (fun _ => rfl))))) (fun b25 => (aj_nil (fidx_p (q_idx (f := eI) (xs := excesses23) (a := b25) imI layI rfl eqvI) (fun _ => rfl) (fun _ => rfl))))))) (fun b26 => (aj_nil (fix_p (q_ixL (imT imI)) (fun _ => rfl) (fun _ => rfl))))))) (fun b27 => (aj_nil (ftup_t rfl rfl rfl rfl))))))) (fun due28 => (tg_nm rfl rfl))) (fun due28 => (sj_iteJ (t := fun (q34 : Bool) => q34) (ej_p2 (val := (fun (b : Bool) => ⟨.imm, .fr, eB b⟩)) (sp' := (fun (b : Bool) => [some none, some (some ⟨.deep, true, eA row7.2⟩), some (some ⟨.imm, true, eI a1⟩), some (some ⟨.imm, true, eI n6.1⟩), some (some ⟨.imm, true, (eT eI) row7.1⟩), some (some ⟨.imm, true, eS b13.1⟩), some (some ⟨.flat, true, (eL (eT eI)) b13.2⟩), some (some ⟨.flat, true, (eL eI) excesses23⟩), some (some ⟨.flat, true, (eL eA) due28⟩), none, some none, some none, some none, some none, some none])) (aj_j (ej_p1 (val := (fun (b : Str) => ⟨.imm, .fr, eS b⟩)) (sp' := (fun (b : Str) => [some none, some (some ⟨.deep, true, eA row7.2⟩), some (some ⟨.imm, true, eI a1⟩), some (some ⟨.imm, true, eI n6.1⟩), some (some ⟨.imm, true, (eT eI) row7.1⟩), some (some ⟨.imm, true, eS b13.1⟩), some (some ⟨.flat, true, (eL (eT eI)) b13.2⟩), some (some ⟨.flat, true, (eL eI) excesses23⟩), some (some ⟨.flat, true, (eL eA) due28⟩), none, some none, some none, some none, some none, some none])) (aj_j (ej_lst (val := (fun (b : (List D)) => ⟨.flat, .fr, (eL eA) b⟩)) (sp' := (fun (b : (List D)) => [some none, some (some ⟨.deep, true, eA row7.2⟩), some (some ⟨.imm, true, eI a1⟩), some (some ⟨.imm, true, eI n6.1⟩), some (some ⟨.imm, true, (eT eI) row7.1⟩), some (some ⟨.imm, true, eS b13.1⟩), some (some ⟨.flat, true, (eL (eT eI)) b13.2⟩), some (some ⟨.flat, true, (eL eI) excesses23⟩), some (some ⟨.flat, true, (eL eA) due28⟩), none, some none, some none, some none, some none, some none])) (aj_j (ej_call (val := (fun (b : Int) => ⟨.imm, .fr, eI b⟩)) (sp' := (fun (b : Int) => [some none, some (some ⟨.deep, true, eA row7.2⟩), some (some ⟨.imm, true, eI a1⟩), some (some ⟨.imm, true, eI n6.1⟩), some (some ⟨.imm, true, (eT eI) row7.1⟩), some (some ⟨.imm, true, eS b13.1⟩), some (some ⟨.flat, true, (eL (eT eI)) b13.2⟩), some (some ⟨.flat, true, (eL eI) excesses23⟩), some (some ⟨.flat, true, (eL eA) due28⟩), none, some none, some none, some none, some none, some none])) (io_of e_greatest_excess rfl) (aj_t (show ET _ _ _ ⟨.imm, .fr, (eT eI) row7.1⟩ from (et_var rfl)) (aj_nil (fcall_p rfl (r_greatest_excess (by omega) row7.1) (fun _ => rfl) (fun _ => rfl))))) (fun b29 => (aj_j (ej_call (val := (fun (b : (List Int)) => ⟨.imm, .fr, (eT eI) b⟩)) (sp' := (fun (b : (List Int)) => [some none, some (some ⟨.deep, true, eA row7.2⟩), some (some ⟨.imm, true, eI a1⟩), some (some ⟨.imm, true, eI n6.1⟩), some (some ⟨.imm, true, (eT eI) row7.1⟩), some (some ⟨.imm, true, eS b13.1⟩), some (some ⟨.flat, true, (eL (eT eI)) b13.2⟩), some (some ⟨.flat, true, (eL eI) excesses23⟩), some (some ⟨.flat, true, (eL eA) due28⟩), none, some none, some none, some none, some none, some none])) (io_of e_worst_lot rfl) (aj_t (show ET _ _ _ ⟨.imm, .fr, (eT eI) row7.1⟩ from (et_var rfl)) (aj_nil (fcall_p rfl (r_worst_lot (by omega) row7.1) (fun _ => rfl) (fun _ => rfl))))) (fun b30 => (aj_nil (ftup_t rfl rfl rfl rfl))))))) (fun b31 => (aj_nil (fp1_p q_repr (fun _ => rfl) (fun _ => rfl)))))) (fun b32 => (aj_j (ej_p1 (val := (fun (b : Str) => ⟨.imm, .fr, eS b⟩)) (sp' := (fun (b : Str) => [some none, some (some ⟨.deep, true, eA row7.2⟩), some (some ⟨.imm, true, eI a1⟩), some (some ⟨.imm, true, eI n6.1⟩), some (some ⟨.imm, true, (eT eI) row7.1⟩), some (some ⟨.imm, true, eS b13.1⟩), some (some ⟨.flat, true, (eL (eT eI)) b13.2⟩), some (some ⟨.flat, true, (eL eI) excesses23⟩), some (some ⟨.flat, true, (eL eA) due28⟩), none, some none, some none, some none, some none, some none])) (aj_t (show ET _ _ _ ⟨.flat, (.sl 8), (eL eA) due28⟩ from (et_varO rfl rfl)) (aj_nil (fp1_p q_repr (fun _ => rfl) (fun _ => rfl))))) (fun b33 => (aj_nil (fp2_p q_neS (fun _ => rfl) (fun _ => rfl)))))))) (fun _ => rfl) (fun q34 => (sj_ret (show ET _ _ _ ⟨.imm, .fr, eB false⟩ from et_con) (ret_fr rfl) (.any (.any (.any (.any (.any (.any (.any (.any (.any (.eq (.any (.any (.any (.any (.any .nil))))))))))))))))) (fun q34 => (sj_j (xj_asg (sp2 := fun (some48 : (List (List Int)) × D) => [some none, some (some ⟨.deep, true, eA some48.2⟩), some (some ⟨.imm, true, eI a1⟩), some (some ⟨.imm, true, eI n6.1⟩), some (some ⟨.imm, true, (eT eI) row7.1⟩), some (some ⟨.imm, true, eS b13.1⟩), some (some ⟨.flat, true, (eL (eT eI)) b13.2⟩), some (some ⟨.flat, true, (eL eI) excesses23⟩), some (some ⟨.flat, true, (eL eA) due28⟩), some (some ⟨.flat, true, (eL (eT eI)) some48.1⟩), some none, some none, some none, some none, some none]) (ej_compS (own := [13]) (dp := false) (V := fun (a35 : Int) => ⟨.imm, .fr, eI a35⟩) (enc := (eT eI)) (ke := .imm) (sp1 := fun (b36 : (List Int)) => [some none, some (some ⟨.deep, true, eA row7.2⟩), some (some ⟨.imm, true, eI a1⟩), some (some ⟨.imm, true, eI n6.1⟩), some (some ⟨.imm, true, (eT eI) row7.1⟩), some (some ⟨.imm, true, eS b13.1⟩), some (some ⟨.flat, true, (eL (eT eI)) b13.2⟩), some (some ⟨.flat, true, (eL eI) excesses23⟩), some (some ⟨.flat, true, (eL eA) due28⟩), none, some none, some none, some none, some none, some none]) (spC := fun (s37 : (D)) => [some none, some (some ⟨.deep, true, eA s37⟩), some (some ⟨.imm, true, eI a1⟩), some (some ⟨.imm, true, eI n6.1⟩), some (some ⟨.imm, true, (eT eI) row7.1⟩), some (some ⟨.imm, true, eS b13.1⟩), some (some ⟨.flat, true, (eL (eT eI)) b13.2⟩), some (some ⟨.flat, true, (eL eI) excesses23⟩), some (some ⟨.flat, true, (eL eA) due28⟩), none, some none, some none, some none, some none, some none]) (spT := fun (s37 : (D)) (a35 : Int) => [some none, some (some ⟨.deep, true, eA s37⟩), some (some ⟨.imm, true, eI a1⟩), some (some ⟨.imm, true, eI n6.1⟩), some (some ⟨.imm, true, (eT eI) row7.1⟩), some (some ⟨.imm, true, eS b13.1⟩), some (some ⟨.flat, true, (eL (eT eI)) b13.2⟩), some (some ⟨.flat, true, (eL eI) excesses23⟩), some (some ⟨.flat, true, (eL eA) due28⟩), none, some none, some none, some none, some (some ⟨.imm, true, eI a35⟩), some none]) (mc := fun (s37 : (D)) (a35 : Int) => (some (true, s37))) (me := fun (s37 : (D)) (a35 : Int) => (Option.bind (rangeM 0 n6.1) fun b44 => fitM (List.length b44) (compS (fun (s45 : (D)) (a43 : Int) => (Option.bind (pickM s45 2) fun b46 => (some ((eqB b46.1 0), b46.2)))) (fun (s45 : (D)) (a43 : Int) => (some (a43, s45))) b44 s37))) (sp' := fun (s37 : (D)) => [some none, some (some ⟨.deep, true, eA s37⟩), some (some ⟨.imm, true, eI a1⟩), some (some ⟨.imm, true, eI n6.1⟩), some (some ⟨.imm, true, (eT eI) row7.1⟩), some (some ⟨.imm, true, eS b13.1⟩), some (some ⟨.flat, true, (eL (eT eI)) b13.2⟩), some (some ⟨.flat, true, (eL eI) excesses23⟩), some (some ⟨.flat, true, (eL eA) due28⟩), none, some none, some none, some none, some none, some none]) (s0 := fun (b36 : (List Int)) => row7.2) (ij_p (V := fun a => ⟨.imm, .fr, eI a⟩) (fun _ _ _ => rfl) (at_cons (show ET _ _ _ ⟨.imm, .fr, eI 4⟩ from et_con) at_nil) rfl w_rng1 rfl) (fun b36 => (.eq (.eq (.eq (.eq (.eq (.eq (.eq (.eq (.eq (.eq (.eq (.eq (.eq (.eq (.eq .nil)))))))))))))))) (fun (s37 : (D)) (a35 : Int) => (tg_nm rfl rfl)) (fun (s37 : (D)) (a35 : Int) => (ej_t (val := fun (q : Bool × (D)) => ⟨.imm, .fr, eB q.1⟩) (sp' := fun (q : Bool × (D)) => [some none, some (some ⟨.deep, true, eA q.2⟩), some (some ⟨.imm, true, eI a1⟩), some (some ⟨.imm, true, eI n6.1⟩), some (some ⟨.imm, true, (eT eI) row7.1⟩), some (some ⟨.imm, true, eS b13.1⟩), some (some ⟨.flat, true, (eL (eT eI)) b13.2⟩), some (some ⟨.flat, true, (eL eI) excesses23⟩), some (some ⟨.flat, true, (eL eA) due28⟩), none, some none, some none, some none, some (some ⟨.imm, true, eI a35⟩), some none]) (show ET _ _ _ ⟨.imm, .fr, eB true⟩ from et_con) rfl rfl)) (fun (s37 : (D)) (a35 : Int) => (ej_p1 (val := (fun (b : (List Int) × D) => ⟨.imm, .fr, (eT eI) b.1⟩)) (sp' := (fun (b : (List Int) × D) => [some none, some (some ⟨.deep, true, eA b.2⟩), some (some ⟨.imm, true, eI a1⟩), some (some ⟨.imm, true, eI n6.1⟩), some (some ⟨.imm, true, (eT eI) row7.1⟩), some (some ⟨.imm, true, eS b13.1⟩), some (some ⟨.flat, true, (eL (eT eI)) b13.2⟩), some (some ⟨.flat, true, (eL eI) excesses23⟩), some (some ⟨.flat, true, (eL eA) due28⟩), none, some none, some none, some none, some (some ⟨.imm, true, eI a35⟩), some none])) (aj_jid (ej_compS (own := [14]) (dp := false) (V := fun (a43 : Int) => ⟨.imm, .fr, eI a43⟩) (enc := eI) (ke := .imm) (sp1 := fun (b44 : (List Int)) => [some none, some (some ⟨.deep, true, eA s37⟩), some (some ⟨.imm, true, eI a1⟩), some (some ⟨.imm, true, eI n6.1⟩), some (some ⟨.imm, true, (eT eI) row7.1⟩), some (some ⟨.imm, true, eS b13.1⟩), some (some ⟨.flat, true, (eL (eT eI)) b13.2⟩), some (some ⟨.flat, true, (eL eI) excesses23⟩), some (some ⟨.flat, true, (eL eA) due28⟩), none, some none, some none, some none, some (some ⟨.imm, true, eI a35⟩), some none]) (spC := fun (s45 : (D)) => [some none, some (some ⟨.deep, true, eA s45⟩), some (some ⟨.imm, true, eI a1⟩), some (some ⟨.imm, true, eI n6.1⟩), some (some ⟨.imm, true, (eT eI) row7.1⟩), some (some ⟨.imm, true, eS b13.1⟩), some (some ⟨.flat, true, (eL (eT eI)) b13.2⟩), some (some ⟨.flat, true, (eL eI) excesses23⟩), some (some ⟨.flat, true, (eL eA) due28⟩), none, some none, some none, some none, some (some ⟨.imm, true, eI a35⟩), some none]) (spT := fun (s45 : (D)) (a43 : Int) => [some none, some (some ⟨.deep, true, eA s45⟩), some (some ⟨.imm, true, eI a1⟩), some (some ⟨.imm, true, eI n6.1⟩), some (some ⟨.imm, true, (eT eI) row7.1⟩), some (some ⟨.imm, true, eS b13.1⟩), some (some ⟨.flat, true, (eL (eT eI)) b13.2⟩), some (some ⟨.flat, true, (eL eI) excesses23⟩), some (some ⟨.flat, true, (eL eA) due28⟩), none, some none, some none, some none, some (some ⟨.imm, true, eI a35⟩), some (some ⟨.imm, true, eI a43⟩)]) (mc := fun (s45 : (D)) (a43 : Int) => (Option.bind (pickM s45 2) fun b46 => (some ((eqB b46.1 0), b46.2)))) (me := fun (s45 : (D)) (a43 : Int) => (some (a43, s45))) (sp' := fun (s45 : (D)) => [some none, some (some ⟨.deep, true, eA s45⟩), some (some ⟨.imm, true, eI a1⟩), some (some ⟨.imm, true, eI n6.1⟩), some (some ⟨.imm, true, (eT eI) row7.1⟩), some (some ⟨.imm, true, eS b13.1⟩), some (some ⟨.flat, true, (eL (eT eI)) b13.2⟩), some (some ⟨.flat, true, (eL eI) excesses23⟩), some (some ⟨.flat, true, (eL eA) due28⟩), none, some none, some none, some none, some (some ⟨.imm, true, eI a35⟩), some none]) (s0 := fun (b44 : (List Int)) => s37) (ij_p (V := fun a => ⟨.imm, .fr, eI a⟩) (fun _ _ _ => rfl) (at_cons (show ET _ _ _ ⟨.imm, .fr, eI n6.1⟩ from (et_var rfl)) at_nil) rfl w_rng1 rfl) (fun b44 => (.eq (.eq (.eq (.eq (.eq (.eq (.eq (.eq (.eq (.eq (.eq (.eq (.eq (.eq (.eq .nil)))))))))))))))) (fun (s45 : (D)) (a43 : Int) => (tg_nm rfl rfl)) (fun (s45 : (D)) (a43 : Int) => (ej_p2 (val := (fun (b : Bool × D) => ⟨.imm, .fr, eB b.1⟩)) (sp' := (fun (b : Bool × D) => [some none, some (some ⟨.deep, true, eA b.2⟩), some (some ⟨.imm, true, eI a1⟩), some (some ⟨.imm, true, eI n6.1⟩), some (some ⟨.imm, true, (eT eI) row7.1⟩), some (some ⟨.imm, true, eS b13.1⟩), some (some ⟨.flat, true, (eL (eT eI)) b13.2⟩), some (some ⟨.flat, true, (eL eI) excesses23⟩), some (some ⟨.flat, true, (eL eA) due28⟩), none, some none, some none, some none, some (some ⟨.imm, true, eI a35⟩), some (some ⟨.imm, true, eI a43⟩)])) (aj_j (ej_call (val := (fun (b : Int × D) => ⟨.imm, .fr, eI b.1⟩)) (sp' := (fun (b : Int × D) => [some none, some (some ⟨.deep, true, eA b.2⟩), some (some ⟨.imm, true, eI a1⟩), some (some ⟨.imm, true, eI n6.1⟩), some (some ⟨.imm, true, (eT eI) row7.1⟩), some (some ⟨.imm, true, eS b13.1⟩), some (some ⟨.flat, true, (eL (eT eI)) b13.2⟩), some (some ⟨.flat, true, (eL eI) excesses23⟩), some (some ⟨.flat, true, (eL eA) due28⟩), none, some none, some none, some none, some (some ⟨.imm, true, eI a35⟩), some (some ⟨.imm, true, eI a43⟩)])) (io_of e__law_pick rfl) (aj_t (show ET _ _ _ ⟨.deep, (.sl 1), eA s45⟩ from (et_varO rfl rfl)) (aj_t (show ET _ _ _ ⟨.imm, .fr, eI 2⟩ from et_con) (aj_nil (fcall_p rfl (rr_pick (by omega) s45 2) (fun _ => rfl) (fun _ => rfl)))))) (fun b46 => (aj_t (show ET _ _ _ ⟨.imm, .fr, eI 0⟩ from et_con) (aj_nil (fp2_t (q_eq (f := eI) layI rfl eqvI) rfl rfl))))))) (fun (s45 : (D)) (a43 : Int) => (ej_t (val := fun (q : Int × (D)) => ⟨.imm, .fr, eI q.1⟩) (sp' := fun (q : Int × (D)) => [some none, some (some ⟨.deep, true, eA q.2⟩), some (some ⟨.imm, true, eI a1⟩), some (some ⟨.imm, true, eI n6.1⟩), some (some ⟨.imm, true, (eT eI) row7.1⟩), some (some ⟨.imm, true, eS b13.1⟩), some (some ⟨.flat, true, (eL (eT eI)) b13.2⟩), some (some ⟨.flat, true, (eL eI) excesses23⟩), some (some ⟨.flat, true, (eL eA) due28⟩), none, some none, some none, some none, some (some ⟨.imm, true, eI a35⟩), some (some ⟨.imm, true, eI a43⟩)]) (show ET _ _ _ ⟨.imm, .fr, eI a43⟩ from (et_var rfl)) rfl rfl)) (fun (s45 : (D)) (a43 : Int) => (.eq (.eq (.eq (.eq (.eq (.eq (.eq (.eq (.eq (.eq (.eq (.eq (.eq (.eq (.eq .nil)))))))))))))))) rfl (fun _ _ => rfl)) (fun b47 => (aj_nil (fp1_t (q_tupleL imI) rfl rfl)))))) (fun (s37 : (D)) (a35 : Int) => (.eq (.eq (.eq (.eq (.eq (.eq (.eq (.eq (.eq (.eq (.eq (.eq (.eq (.eq (.eq .nil)))))))))))))))) rfl (fun _ _ => rfl)) (fun some48 => (tg_nm rfl rfl))) (fun some48 => (sj_iteJ (t := fun (q61 : Bool) => q61) (ej_p2 (val := (fun (b : Bool) => ⟨.imm, .fr, eB b⟩)) (sp' := (fun (b : Bool) => [some none, some (some ⟨.deep, true, eA some48.2⟩), some (some ⟨.imm, true, eI a1⟩), some (some ⟨.imm, true, eI n6.1⟩), some (some ⟨.imm, true, (eT eI) row7.1⟩), some (some ⟨.imm, true, eS b13.1⟩), some (some ⟨.flat, true, (eL (eT eI)) b13.2⟩), some (some ⟨.flat, true, (eL eI) excesses23⟩), some (some ⟨.flat, true, (eL eA) due28⟩), some (some ⟨.flat, true, (eL (eT eI)) some48.1⟩), some none, some none, some none, some none, some none])) (aj_j (ej_p1 (val := (fun (b : Str) => ⟨.imm, .fr, eS b⟩)) (sp' := (fun (b : Str) => [some none, some (some ⟨.deep, true, eA some48.2⟩), some (some ⟨.imm, true, eI a1⟩), some (some ⟨.imm, true, eI n6.1⟩), some (some ⟨.imm, true, (eT eI) row7.1⟩), some (some ⟨.imm, true, eS b13.1⟩), some (some ⟨.flat, true, (eL (eT eI)) b13.2⟩), some (some ⟨.flat, true, (eL eI) excesses23⟩), some (some ⟨.flat, true, (eL eA) due28⟩), some (some ⟨.flat, true, (eL (eT eI)) some48.1⟩), some none, some none, some none, some none, some none])) (aj_j (ej_compM (own := [12]) (dp := false) (V := fun (a50 : (List Int)) => ⟨.imm, .fr, (eT eI) a50⟩) (enc := eI) (ke := .imm) (sp1 := fun (b51 : (List (List Int))) => [some none, some (some ⟨.deep, true, eA some48.2⟩), some (some ⟨.imm, true, eI a1⟩), some (some ⟨.imm, true, eI n6.1⟩), some (some ⟨.imm, true, (eT eI) row7.1⟩), some (some ⟨.imm, true, eS b13.1⟩), some (some ⟨.flat, true, (eL (eT eI)) b13.2⟩), some (some ⟨.flat, true, (eL eI) excesses23⟩), some (some ⟨.flat, true, (eL eA) due28⟩), some (some ⟨.flat, true, (eL (eT eI)) some48.1⟩), some none, some none, some none, some none, some none]) (spC := [some none, some (some ⟨.deep, true, eA some48.2⟩), some (some ⟨.imm, true, eI a1⟩), some (some ⟨.imm, true, eI n6.1⟩), some (some ⟨.imm, true, (eT eI) row7.1⟩), some (some ⟨.imm, true, eS b13.1⟩), some (some ⟨.flat, true, (eL (eT eI)) b13.2⟩), some (some ⟨.flat, true, (eL eI) excesses23⟩), some (some ⟨.flat, true, (eL eA) due28⟩), some (some ⟨.flat, true, (eL (eT eI)) some48.1⟩), some none, some none, some none, some none, some none]) (spT := fun (a50 : (List Int)) => [some none, some (some ⟨.deep, true, eA some48.2⟩), some (some ⟨.imm, true, eI a1⟩), some (some ⟨.imm, true, eI n6.1⟩), some (some ⟨.imm, true, (eT eI) row7.1⟩), some (some ⟨.imm, true, eS b13.1⟩), some (some ⟨.flat, true, (eL (eT eI)) b13.2⟩), some (some ⟨.flat, true, (eL eI) excesses23⟩), some (some ⟨.flat, true, (eL eA) due28⟩), some (some ⟨.flat, true, (eL (eT eI)) some48.1⟩), some none, some none, some (some ⟨.imm, true, (eT eI) a50⟩), some none, some none]) (mc := fun (a50 : (List Int)) => (some true)) (me := fun (a50 : (List Int)) => (m_lot_excess row7.1 a50)) (sp' := [some none, some (some ⟨.deep, true, eA some48.2⟩), some (some ⟨.imm, true, eI a1⟩), some (some ⟨.imm, true, eI n6.1⟩), some (some ⟨.imm, true, (eT eI) row7.1⟩), some (some ⟨.imm, true, eS b13.1⟩), some (some ⟨.flat, true, (eL (eT eI)) b13.2⟩), some (some ⟨.flat, true, (eL eI) excesses23⟩), some (some ⟨.flat, true, (eL eA) due28⟩), some (some ⟨.flat, true, (eL (eT eI)) some48.1⟩), some none, some none, some none, some none, some none]) (ij_j (V := fun (a : (List Int)) => ⟨.imm, .fr, (eT eI) a⟩) (xs := fun (b : (List (List Int))) => b) (sp' := (fun (b : (List (List Int))) => [some none, some (some ⟨.deep, true, eA some48.2⟩), some (some ⟨.imm, true, eI a1⟩), some (some ⟨.imm, true, eI n6.1⟩), some (some ⟨.imm, true, (eT eI) row7.1⟩), some (some ⟨.imm, true, eS b13.1⟩), some (some ⟨.flat, true, (eL (eT eI)) b13.2⟩), some (some ⟨.flat, true, (eL eI) excesses23⟩), some (some ⟨.flat, true, (eL eA) due28⟩), some (some ⟨.flat, true, (eL (eT eI)) some48.1⟩), some none, some none, some none, some none, some none])) (fun _ _ _ => rfl) (aj_jid (ej_p2 (val := (fun (b : (List (List Int))) => ⟨.flat, .fr, (eL (eT eI)) b⟩)) (sp' := (fun (b : (List (List Int))) => [some none, some (some ⟨.deep, true, eA some48.2⟩), some (some ⟨.imm, true, eI a1⟩), some (some ⟨.imm, true, eI n6.1⟩), some (some ⟨.imm, true, (eT eI) row7.1⟩), some (some ⟨.imm, true, eS b13.1⟩), some (some ⟨.flat, true, (eL (eT eI)) b13.2⟩), some (some ⟨.flat, true, (eL eI) excesses23⟩), some (some ⟨.flat, true, (eL eA) due28⟩), some (some ⟨.flat, true, (eL (eT eI)) some48.1⟩), some none, some none, some none, some none, some none])) (aj_t (show ET _ _ _ ⟨.flat, (.sl 9), (eL (eT eI)) some48.1⟩ from (et_varO rfl rfl)) (aj_t (show ET _ _ _ ⟨.flat, (.sl 6), (eL (eT eI)) b13.2⟩ from (et_varO rfl rfl)) (aj_nil (fp2_p (q_addL (imT imI)) (fun _ => rfl) (fun _ => rfl)))))) (fun b49 => (aj_nil (ijl_t rfl rfl (w_L (imT imI)) rfl trivial))))) (fun b51 => (.eq (.eq (.eq (.eq (.eq (.eq (.eq (.eq (.eq (.eq (.eq (.eq (.eq (.eq (.eq .nil)))))))))))))))) (fun (a50 : (List Int)) => (tg_nm rfl rfl)) (fun (a50 : (List Int)) => (ej_t (val := fun (b : Bool) => ⟨.imm, .fr, eB b⟩) (sp' := fun _ => [some none, some (some ⟨.deep, true, eA some48.2⟩), some (some ⟨.imm, true, eI a1⟩), some (some ⟨.imm, true, eI n6.1⟩), some (some ⟨.imm, true, (eT eI) row7.1⟩), some (some ⟨.imm, true, eS b13.1⟩), some (some ⟨.flat, true, (eL (eT eI)) b13.2⟩), some (some ⟨.flat, true, (eL eI) excesses23⟩), some (some ⟨.flat, true, (eL eA) due28⟩), some (some ⟨.flat, true, (eL (eT eI)) some48.1⟩), some none, some none, some (some ⟨.imm, true, (eT eI) a50⟩), some none, some none]) (show ET _ _ _ ⟨.imm, .fr, eB true⟩ from et_con) rfl rfl)) (fun (a50 : (List Int)) => (ej_call (val := (fun (b : Int) => ⟨.imm, .fr, eI b⟩)) (sp' := (fun (b : Int) => [some none, some (some ⟨.deep, true, eA some48.2⟩), some (some ⟨.imm, true, eI a1⟩), some (some ⟨.imm, true, eI n6.1⟩), some (some ⟨.imm, true, (eT eI) row7.1⟩), some (some ⟨.imm, true, eS b13.1⟩), some (some ⟨.flat, true, (eL (eT eI)) b13.2⟩), some (some ⟨.flat, true, (eL eI) excesses23⟩), some (some ⟨.flat, true, (eL eA) due28⟩), some (some ⟨.flat, true, (eL (eT eI)) some48.1⟩), some none, some none, some (some ⟨.imm, true, (eT eI) a50⟩), some none, some none])) (io_of e_lot_excess rfl) (aj_t (show ET _ _ _ ⟨.imm, .fr, (eT eI) row7.1⟩ from (et_var rfl)) (aj_t (show ET _ _ _ ⟨.imm, .fr, (eT eI) a50⟩ from (et_var rfl)) (aj_nil (fcall_p rfl (r_lot_excess (by omega) row7.1 a50) (fun _ => rfl) (fun _ => rfl))))))) (fun (a50 : (List Int)) => (.eq (.eq (.eq (.eq (.eq (.eq (.eq (.eq (.eq (.eq (.eq (.eq (.eq (.eq (.eq .nil)))))))))))))))) rfl (fun _ => rfl)) (fun b53 => (aj_nil (fp1_p q_repr (fun _ => rfl) (fun _ => rfl)))))) (fun b54 => (aj_j (ej_p1 (val := (fun (b : Str) => ⟨.imm, .fr, eS b⟩)) (sp' := (fun (b : Str) => [some none, some (some ⟨.deep, true, eA some48.2⟩), some (some ⟨.imm, true, eI a1⟩), some (some ⟨.imm, true, eI n6.1⟩), some (some ⟨.imm, true, (eT eI) row7.1⟩), some (some ⟨.imm, true, eS b13.1⟩), some (some ⟨.flat, true, (eL (eT eI)) b13.2⟩), some (some ⟨.flat, true, (eL eI) excesses23⟩), some (some ⟨.flat, true, (eL eA) due28⟩), some (some ⟨.flat, true, (eL (eT eI)) some48.1⟩), some none, some none, some none, some none, some none])) (aj_j (ej_compM (own := [12]) (dp := false) (V := fun (a56 : (List Int)) => ⟨.imm, .fr, (eT eI) a56⟩) (enc := eI) (ke := .imm) (sp1 := fun (b57 : (List (List Int))) => [some none, some (some ⟨.deep, true, eA some48.2⟩), some (some ⟨.imm, true, eI a1⟩), some (some ⟨.imm, true, eI n6.1⟩), some (some ⟨.imm, true, (eT eI) row7.1⟩), some (some ⟨.imm, true, eS b13.1⟩), some (some ⟨.flat, true, (eL (eT eI)) b13.2⟩), some (some ⟨.flat, true, (eL eI) excesses23⟩), some (some ⟨.flat, true, (eL eA) due28⟩), some (some ⟨.flat, true, (eL (eT eI)) some48.1⟩), some none, some none, some none, some none, some none]) (spC := [some none, some (some ⟨.deep, true, eA some48.2⟩), some (some ⟨.imm, true, eI a1⟩), some (some ⟨.imm, true, eI n6.1⟩), some (some ⟨.imm, true, (eT eI) row7.1⟩), some (some ⟨.imm, true, eS b13.1⟩), some (some ⟨.flat, true, (eL (eT eI)) b13.2⟩), some (some ⟨.flat, true, (eL eI) excesses23⟩), some (some ⟨.flat, true, (eL eA) due28⟩), some (some ⟨.flat, true, (eL (eT eI)) some48.1⟩), some none, some none, some none, some none, some none]) (spT := fun (a56 : (List Int)) => [some none, some (some ⟨.deep, true, eA some48.2⟩), some (some ⟨.imm, true, eI a1⟩), some (some ⟨.imm, true, eI n6.1⟩), some (some ⟨.imm, true, (eT eI) row7.1⟩), some (some ⟨.imm, true, eS b13.1⟩), some (some ⟨.flat, true, (eL (eT eI)) b13.2⟩), some (some ⟨.flat, true, (eL eI) excesses23⟩), some (some ⟨.flat, true, (eL eA) due28⟩), some (some ⟨.flat, true, (eL (eT eI)) some48.1⟩), some none, some none, some (some ⟨.imm, true, (eT eI) a56⟩), some none, some none]) (mc := fun (a56 : (List Int)) => (some true)) (me := fun (a56 : (List Int)) => (m__law_excess row7.1 a56)) (sp' := [some none, some (some ⟨.deep, true, eA some48.2⟩), some (some ⟨.imm, true, eI a1⟩), some (some ⟨.imm, true, eI n6.1⟩), some (some ⟨.imm, true, (eT eI) row7.1⟩), some (some ⟨.imm, true, eS b13.1⟩), some (some ⟨.flat, true, (eL (eT eI)) b13.2⟩), some (some ⟨.flat, true, (eL eI) excesses23⟩), some (some ⟨.flat, true, (eL eA) due28⟩), some (some ⟨.flat, true, (eL (eT eI)) some48.1⟩), some none, some none, some none, some none, some none]) (ij_j (V := fun (a : (List Int)) => ⟨.imm, .fr, (eT eI) a⟩) (xs := fun (b : (List (List Int))) => b) (sp' := (fun (b : (List (List Int))) => [some none, some (some ⟨.deep, true, eA some48.2⟩), some (some ⟨.imm, true, eI a1⟩), some (some ⟨.imm, true, eI n6.1⟩), some (some ⟨.imm, true, (eT eI) row7.1⟩), some (some ⟨.imm, true, eS b13.1⟩), some (some ⟨.flat, true, (eL (eT eI)) b13.2⟩), some (some ⟨.flat, true, (eL eI) excesses23⟩), some (some ⟨.flat, true, (eL eA) due28⟩), some (some ⟨.flat, true, (eL (eT eI)) some48.1⟩), some none, some none, some none, some none, some none])) (fun _ _ _ => rfl) (aj_jid (ej_p2 (val := (fun (b : (List (List Int))) => ⟨.flat, .fr, (eL (eT eI)) b⟩)) (sp' := (fun (b : (List (List Int))) => [some none, some (some ⟨.deep, true, eA some48.2⟩), some (some ⟨.imm, true, eI a1⟩), some (some ⟨.imm, true, eI n6.1⟩), some (some ⟨.imm, true, (eT eI) row7.1⟩), some (some ⟨.imm, true, eS b13.1⟩), some (some ⟨.flat, true, (eL (eT eI)) b13.2⟩), some (some ⟨.flat, true, (eL eI) excesses23⟩), some (some ⟨.flat, true, (eL eA) due28⟩), some (some ⟨.flat, true, (eL (eT eI)) some48.1⟩), some none, some none, some none, some none, some none])) (aj_t (show ET _ _ _ ⟨.flat, (.sl 9), (eL (eT eI)) some48.1⟩ from (et_varO rfl rfl)) (aj_t (show ET _ _ _ ⟨.flat, (.sl 6), (eL (eT eI)) b13.2⟩ from (et_varO rfl rfl)) (aj_nil (fp2_p (q_addL (imT imI)) (fun _ => rfl) (fun _ => rfl)))))) (fun b55 => (aj_nil (ijl_t rfl rfl (w_L (imT imI)) rfl trivial))))) (fun b57 => (.eq (.eq (.eq (.eq (.eq (.eq (.eq (.eq (.eq (.eq (.eq (.eq (.eq (.eq (.eq .nil)))))))))))))))) (fun (a56 : (List Int)) => (tg_nm rfl rfl)) (fun (a56 : (List Int)) => (ej_t (val := fun (b : Bool) => ⟨.imm, .fr, eB b⟩) (sp' := fun _ => [some none, some (some ⟨.deep, true, eA some48.2⟩), some (some ⟨.imm, true, eI a1⟩), some (some ⟨.imm, true, eI n6.1⟩), some (some ⟨.imm, true, (eT eI) row7.1⟩), some (some ⟨.imm, true, eS b13.1⟩), some (some ⟨.flat, true, (eL (eT eI)) b13.2⟩), some (some ⟨.flat, true, (eL eI) excesses23⟩), some (some ⟨.flat, true, (eL eA) due28⟩), some (some ⟨.flat, true, (eL (eT eI)) some48.1⟩), some none, some none, some (some ⟨.imm, true, (eT eI) a56⟩), some none, some none]) (show ET _ _ _ ⟨.imm, .fr, eB true⟩ from et_con) rfl rfl)) (fun (a56 : (List Int)) => (ej_call (val := (fun (b : Int) => ⟨.imm, .fr, eI b⟩)) (sp' := (fun (b : Int) => [some none, some (some ⟨.deep, true, eA some48.2⟩), some (some ⟨.imm, true, eI a1⟩), some (some ⟨.imm, true, eI n6.1⟩), some (some ⟨.imm, true, (eT eI) row7.1⟩), some (some ⟨.imm, true, eS b13.1⟩), some (some ⟨.flat, true, (eL (eT eI)) b13.2⟩), some (some ⟨.flat, true, (eL eI) excesses23⟩), some (some ⟨.flat, true, (eL eA) due28⟩), some (some ⟨.flat, true, (eL (eT eI)) some48.1⟩), some none, some none, some (some ⟨.imm, true, (eT eI) a56⟩), some none, some none])) (io_of e__law_excess rfl) (aj_t (show ET _ _ _ ⟨.imm, .fr, (eT eI) row7.1⟩ from (et_var rfl)) (aj_t (show ET _ _ _ ⟨.imm, .fr, (eT eI) a56⟩ from (et_var rfl)) (aj_nil (fcall_p rfl (r__law_excess (by omega) row7.1 a56) (fun _ => rfl) (fun _ => rfl))))))) (fun (a56 : (List Int)) => (.eq (.eq (.eq (.eq (.eq (.eq (.eq (.eq (.eq (.eq (.eq (.eq (.eq (.eq (.eq .nil)))))))))))))))) rfl (fun _ => rfl)) (fun b59 => (aj_nil (fp1_p q_repr (fun _ => rfl) (fun _ => rfl)))))) (fun b60 => (aj_nil (fp2_p q_neS (fun _ => rfl) (fun _ => rfl)))))))) (fun _ => rfl) (fun q61 => (sj_ret (show ET _ _ _ ⟨.imm, .fr, eB false⟩ from et_con) (ret_fr rfl) (.any (.any (.any (.any (.any (.any (.any (.any (.any (.any (.any (.any (.any (.any (.any .nil))))))))))))))))) (fun q61 => (sj_iteJ (t := fun (q69 : Bool) => q69) (ej_andT (val := (fun (b : Bool) => ⟨.imm, .fr, eB b⟩)) (sp' := (fun (b : Bool) => [some none, some (some ⟨.deep, true, eA some48.2⟩), some (some ⟨.imm, true, eI a1⟩), some (some ⟨.imm, true, eI n6.1⟩), some (some ⟨.imm, true, (eT eI) row7.1⟩), some (some ⟨.imm, true, eS b13.1⟩), some (some ⟨.flat, true, (eL (eT eI)) b13.2⟩), some (some ⟨.flat, true, (eL eI) excesses23⟩), some (some ⟨.flat, true, (eL eA) due28⟩), some (some ⟨.flat, true, (eL (eT eI)) some48.1⟩), some none, some none, some none, some none, some none])) (f := false) (show ET _ _ _ ⟨.imm, .fr, eB (decide (n6.1 < 8))⟩ from (et_p2 (show ET _ _ _ ⟨.imm, .fr, eI n6.1⟩ from (et_var rfl)) (show ET _ _ _ ⟨.imm, .fr, eI 8⟩ from et_con) q_lt)) (ej_p2 (val := (fun (b : Bool) => ⟨.imm, .fr, eB b⟩)) (sp' := (fun (b : Bool) => [some none, some (some ⟨.deep, true, eA some48.2⟩), some (some ⟨.imm, true, eI a1⟩), some (some ⟨.imm, true, eI n6.1⟩), some (some ⟨.imm, true, (eT eI) row7.1⟩), some (some ⟨.imm, true, eS b13.1⟩), some (some ⟨.flat, true, (eL (eT eI)) b13.2⟩), some (some ⟨.flat, true, (eL eI) excesses23⟩), some (some ⟨.flat, true, (eL eA) due28⟩), some (some ⟨.flat, true, (eL (eT eI)) some48.1⟩), some none, some none, some none, some none, some none])) (aj_j (ej_compM (own := [12]) (dp := false) (V := fun (a63 : (List Int)) => ⟨.imm, .fr, (eT eI) a63⟩) (enc := eI) (ke := .imm) (sp1 := fun (b64 : (List (List Int))) => [some none, some (some ⟨.deep, true, eA some48.2⟩), some (some ⟨.imm, true, eI a1⟩), some (some ⟨.imm, true, eI n6.1⟩), some (some ⟨.imm, true, (eT eI) row7.1⟩), some (some ⟨.imm, true, eS b13.1⟩), some (some ⟨.flat, true, (eL (eT eI)) b13.2⟩), some (some ⟨.flat, true, (eL eI) excesses23⟩), some (some ⟨.flat, true, (eL eA) due28⟩), some (some ⟨.flat, true, (eL (eT eI)) some48.1⟩), some none, some none, some none, some none, some none]) (spC := [some none, some (some ⟨.deep, true, eA some48.2⟩), some (some ⟨.imm, true, eI a1⟩), some (some ⟨.imm, true, eI n6.1⟩), some (some ⟨.imm, true, (eT eI) row7.1⟩), some (some ⟨.imm, true, eS b13.1⟩), some (some ⟨.flat, true, (eL (eT eI)) b13.2⟩), some (some ⟨.flat, true, (eL eI) excesses23⟩), some (some ⟨.flat, true, (eL eA) due28⟩), some (some ⟨.flat, true, (eL (eT eI)) some48.1⟩), some none, some none, some none, some none, some none]) (spT := fun (a63 : (List Int)) => [some none, some (some ⟨.deep, true, eA some48.2⟩), some (some ⟨.imm, true, eI a1⟩), some (some ⟨.imm, true, eI n6.1⟩), some (some ⟨.imm, true, (eT eI) row7.1⟩), some (some ⟨.imm, true, eS b13.1⟩), some (some ⟨.flat, true, (eL (eT eI)) b13.2⟩), some (some ⟨.flat, true, (eL eI) excesses23⟩), some (some ⟨.flat, true, (eL eA) due28⟩), some (some ⟨.flat, true, (eL (eT eI)) some48.1⟩), some none, some none, some (some ⟨.imm, true, (eT eI) a63⟩), some none, some none]) (mc := fun (a63 : (List Int)) => (Option.bind (m__law_excess row7.1 a63) fun b66 => (Option.bind (atI excesses23 ((List.length a63 : Nat) : Int)) fun b67 => (some (decide (b67 < b66)))))) (me := fun (a63 : (List Int)) => (some (1 : Int))) (sp' := [some none, some (some ⟨.deep, true, eA some48.2⟩), some (some ⟨.imm, true, eI a1⟩), some (some ⟨.imm, true, eI n6.1⟩), some (some ⟨.imm, true, (eT eI) row7.1⟩), some (some ⟨.imm, true, eS b13.1⟩), some (some ⟨.flat, true, (eL (eT eI)) b13.2⟩), some (some ⟨.flat, true, (eL eI) excesses23⟩), some (some ⟨.flat, true, (eL eA) due28⟩), some (some ⟨.flat, true, (eL (eT eI)) some48.1⟩), some none, some none, some none, some none, some none]) (ij_j (V := fun (a : (List Int)) => ⟨.imm, .fr, (eT eI) a⟩) (xs := fun (b : (List (List Int))) => b) (sp' := (fun (b : (List (List Int))) => [some none, some (some ⟨.deep, true, eA some48.2⟩), some (some ⟨.imm, true, eI a1⟩), some (some ⟨.imm, true, eI n6.1⟩), some (some ⟨.imm, true, (eT eI) row7.1⟩), some (some ⟨.imm, true, eS b13.1⟩), some (some ⟨.flat, true, (eL (eT eI)) b13.2⟩), some (some ⟨.flat, true, (eL eI) excesses23⟩), some (some ⟨.flat, true, (eL eA) due28⟩), some (some ⟨.flat, true, (eL (eT eI)) some48.1⟩), some none, some none, some none, some none, some none])) (fun _ _ _ => rfl) (aj_jid (ej_call (val := (fun (b : (List (List Int))) => ⟨.flat, .fr, (eL (eT eI)) b⟩)) (sp' := (fun (b : (List (List Int))) => [some none, some (some ⟨.deep, true, eA some48.2⟩), some (some ⟨.imm, true, eI a1⟩), some (some ⟨.imm, true, eI n6.1⟩), some (some ⟨.imm, true, (eT eI) row7.1⟩), some (some ⟨.imm, true, eS b13.1⟩), some (some ⟨.flat, true, (eL (eT eI)) b13.2⟩), some (some ⟨.flat, true, (eL eI) excesses23⟩), some (some ⟨.flat, true, (eL eA) due28⟩), some (some ⟨.flat, true, (eL (eT eI)) some48.1⟩), some none, some none, some none, some none, some none])) (io_of e__law_lots rfl) (aj_t (show ET _ _ _ ⟨.imm, .fr, eI n6.1⟩ from (et_var rfl)) (aj_nil (fcall_p rfl (r__law_lots (by omega) n6.1) (fun _ => rfl) (fun _ => rfl))))) (fun b62 => (aj_nil (ijl_t rfl rfl (w_L (imT imI)) rfl trivial))))) (fun b64 => (.eq (.eq (.eq (.eq (.eq (.eq (.eq (.eq (.eq (.eq (.eq (.eq (.eq (.eq (.eq .nil)))))))))))))))) (fun (a63 : (List Int)) => (tg_nm rfl rfl)) (fun (a63 : (List Int)) => (ej_p2 (val := (fun (b : Bool) => ⟨.imm, .fr, eB b⟩)) (sp' := (fun (b : Bool) => [some none, some (some ⟨.deep, true, eA some48.2⟩), some (some ⟨.imm, true, eI a1⟩), some (some ⟨.imm, true, eI n6.1⟩), some (some ⟨.imm, true, (eT eI) row7.1⟩), some (some ⟨.imm, true, eS b13.1⟩), some (some ⟨.flat, true, (eL (eT eI)) b13.2⟩), some (some ⟨.flat, true, (eL eI) excesses23⟩), some (some ⟨.flat, true, (eL eA) due28⟩), some (some ⟨.flat, true, (eL (eT eI)) some48.1⟩), some none, some none, some (some ⟨.imm, true, (eT eI) a63⟩), some none, some none])) (aj_j (ej_call (val := (fun (b : Int) => ⟨.imm, .fr, eI b⟩)) (sp' := (fun (b : Int) => [some none, some (some ⟨.deep, true, eA some48.2⟩), some (some ⟨.imm, true, eI a1⟩), some (some ⟨.imm, true, eI n6.1⟩), some (some ⟨.imm, true, (eT eI) row7.1⟩), some (some ⟨.imm, true, eS b13.1⟩), some (some ⟨.flat, true, (eL (eT eI)) b13.2⟩), some (some ⟨.flat, true, (eL eI) excesses23⟩), some (some ⟨.flat, true, (eL eA) due28⟩), some (some ⟨.flat, true, (eL (eT eI)) some48.1⟩), some none, some none, some (some ⟨.imm, true, (eT eI) a63⟩), some none, some none])) (io_of e__law_excess rfl) (aj_t (show ET _ _ _ ⟨.imm, .fr, (eT eI) row7.1⟩ from (et_var rfl)) (aj_t (show ET _ _ _ ⟨.imm, .fr, (eT eI) a63⟩ from (et_var rfl)) (aj_nil (fcall_p rfl (r__law_excess (by omega) row7.1 a63) (fun _ => rfl) (fun _ => rfl)))))) (fun b66 => (aj_j (ej_ix (val := (fun (b : Int) => ⟨.imm, .fr, eI b⟩)) (sp' := (fun (b : Int) => [some none, some (some ⟨.deep, true, eA some48.2⟩), some (some ⟨.imm, true, eI a1⟩), some (some ⟨.imm, true, eI n6.1⟩), some (some ⟨.imm, true, (eT eI) row7.1⟩), some (some ⟨.imm, true, eS b13.1⟩), some (some ⟨.flat, true, (eL (eT eI)) b13.2⟩), some (some ⟨.flat, true, (eL eI) excesses23⟩), some (some ⟨.flat, true, (eL eA) due28⟩), some (some ⟨.flat, true, (eL (eT eI)) some48.1⟩), some none, some none, some (some ⟨.imm, true, (eT eI) a63⟩), some none, some none])) (aj_t (show ET _ _ _ ⟨.flat, (.sl 7), (eL eI) excesses23⟩ from (et_varO rfl rfl)) (aj_t (show ET _ _ _ ⟨.imm, .fr, eI ((List.length a63 : Nat) : Int)⟩ from (et_p1 (show ET _ _ _ ⟨.imm, .fr, (eT eI) a63⟩ from (et_var rfl)) q_lenT)) (aj_nil (fix_p (q_ixL imI) (fun _ => rfl) (fun _ => rfl)))))) (fun b67 => (aj_nil (fp2_t q_gt rfl rfl)))))))) (fun (a63 : (List Int)) => (ej_t (val := fun (b : Int) => ⟨.imm, .fr, eI b⟩) (sp' := fun _ => [some none, some (some ⟨.deep, true, eA some48.2⟩), some (some ⟨.imm, true, eI a1⟩), some (some ⟨.imm, true, eI n6.1⟩), some (some ⟨.imm, true, (eT eI) row7.1⟩), some (some ⟨.imm, true, eS b13.1⟩), some (some ⟨.flat, true, (eL (eT eI)) b13.2⟩), some (some ⟨.flat, true, (eL eI) excesses23⟩), some (some ⟨.flat, true, (eL eA) due28⟩), some (some ⟨.flat, true, (eL (eT eI)) some48.1⟩), some none, some none, some (some ⟨.imm, true, (eT eI) a63⟩), some none, some none]) (show ET _ _ _ ⟨.imm, .fr, eI (1 : Int)⟩ from et_con) rfl rfl)) (fun (a63 : (List Int)) => (.eq (.eq (.eq (.eq (.eq (.eq (.eq (.eq (.eq (.eq (.eq (.eq (.eq (.eq (.eq .nil)))))))))))))))) rfl (fun _ => rfl)) (fun b68 => (aj_t (show ET _ _ _ ⟨.flat, .fr, (eL eI) []⟩ from (et_lst at_nil rfl rfl rfl rfl rfl rfl)) (aj_nil (fp2_t (q_ne (f := (eL eI)) (layL layI) rfl (eqvL eqvI)) rfl rfl)))))) rfl rfl) (fun _ => rfl) (fun q69 => (sj_ret (show ET _ _ _ ⟨.imm, .fr, eB false⟩ from et_con) (ret_fr rfl) (.any (.any (.any (.any (.any (.any (.any (.any (.any (.any (.any (.any (.any (.any (.any .nil))))))))))))))))) (fun q69 => (sj_iteJ (t := fun (q71 : Bool) => q71) (ej_p2 (val := (fun (b : Bool) => ⟨.imm, .fr, eB b⟩)) (sp' := (fun (b : Bool) => [some none, some (some ⟨.deep, true, eA some48.2⟩), some (some ⟨.imm, true, eI a1⟩), some (some ⟨.imm, true, eI n6.1⟩), some (some ⟨.imm, true, (eT eI) row7.1⟩), some (some ⟨.imm, true, eS b13.1⟩), some (some ⟨.flat, true, (eL (eT eI)) b13.2⟩), some (some ⟨.flat, true, (eL eI) excesses23⟩), some (some ⟨.flat, true, (eL eA) due28⟩), some (some ⟨.flat, true, (eL (eT eI)) some48.1⟩), some none, some none, some none, some none, some none])) (aj_j (ej_p1 (val := (fun (b : Str) => ⟨.imm, .fr, eS b⟩)) (sp' := (fun (b : Str) => [some none, some (some ⟨.deep, true, eA some48.2⟩), some (some ⟨.imm, true, eI a1⟩), some (some ⟨.imm, true, eI n6.1⟩), some (some ⟨.imm, true, (eT eI) row7.1⟩), some (some ⟨.imm, true, eS b13.1⟩), some (some ⟨.flat, true, (eL (eT eI)) b13.2⟩), some (some ⟨.flat, true, (eL eI) excesses23⟩), some (some ⟨.flat, true, (eL eA) due28⟩), some (some ⟨.flat, true, (eL (eT eI)) some48.1⟩), some none, some none, some none, some none, some none])) (aj_t (show ET _ _ _ ⟨.imm, .fr, (eT eI) row7.1⟩ from (et_var rfl)) (aj_nil (fp1_p q_repr (fun _ => rfl) (fun _ => rfl))))) (fun b70 => (aj_t (show ET _ _ _ ⟨.imm, .fr, eS b13.1⟩ from (et_var rfl)) (aj_nil (fp2_p q_neS (fun _ => rfl) (fun _ => rfl))))))) (fun _ => rfl) (fun q71 => (sj_ret (show ET _ _ _ ⟨.imm, .fr, eB false⟩ from et_con) (ret_fr rfl) (.any (.any (.any (.any (.any (.any (.any (.any (.any (.any (.any (.any (.any (.any (.any .nil))))))))))))))))) (fun q71 => (sj_nil (.eq (.eq (.any (.any (.any (.any (.any (.any (.any (.any (.eq (.eq (.eq (.eq (.eq .nil))))))))))))))))))))))))))))))))))))))) (fun s3 => (rj_j (xj_asg (sp2 := fun (told76 : (List D)) => [some none, some (some ⟨.deep, true, eA s3⟩), none, none, none, none, none, none, none, none, some (some ⟨.flat, true, (eL eA) told76⟩), some none, some none, some none, some none]) (ej_lst (val := (fun (b : (List D)) => ⟨.flat, .fr, (eL eA) b⟩)) (sp' := (fun (b : (List D)) => [some none, some (some ⟨.deep, true, eA s3⟩), none, none, none, none, none, none, none, none, some none, some none, some none, some none, some none])) (aj_j (ej_call (val := (fun (b : Int) => ⟨.imm, .fr, eI b⟩)) (sp' := (fun (b : Int) => [some none, some (some ⟨.deep, true, eA s3⟩), none, none, none, none, none, none, none, none, some none, some none, some none, some none, some none])) (io_of e_lot_excess rfl) (aj_t (show ET _ _ _ ⟨.imm, .fr, (eP4 eI eI eI eI) (3, 3, 1, 1)⟩ from (et_tup (at_cons (show ET _ _ _ ⟨.imm, .fr, eI 3⟩ from et_con) (at_cons (show ET _ _ _ ⟨.imm, .fr, eI 3⟩ from et_con) (at_cons (show ET _ _ _ ⟨.imm, .fr, eI 1⟩ from et_con) (at_cons (show ET _ _ _ ⟨.imm, .fr, eI 1⟩ from et_con) at_nil)))) rfl rfl rfl rfl rfl rfl)) (aj_t (show ET _ _ _ ⟨.imm, .fr, (eP2 eI eI) (0, 1)⟩ from (et_tup (at_cons (show ET _ _ _ ⟨.imm, .fr, eI 0⟩ from et_con) (at_cons (show ET _ _ _ ⟨.imm, .fr, eI 1⟩ from et_con) at_nil)) rfl rfl rfl rfl rfl rfl)) (aj_nil (fcall_p rfl (r_lot_excess (by omega) [3, 3, 1, 1] [0, 1]) (fun _ => rfl) (fun _ => rfl)))))) (fun b72 => (aj_j (ej_call (val := (fun (b : (List Int)) => ⟨.imm, .fr, (eT eI) b⟩)) (sp' := (fun (b : (List Int)) => [some none, some (some ⟨.deep, true, eA s3⟩), none, none, none, none, none, none, none, none, some none, some none, some none, some none, some none])) (io_of e_greatest_lot rfl) (aj_t (show ET _ _ _ ⟨.imm, .fr, (eP3 eI eI eI) (1, 2, 2)⟩ from (et_tup (at_cons (show ET _ _ _ ⟨.imm, .fr, eI 1⟩ from et_con) (at_cons (show ET _ _ _ ⟨.imm, .fr, eI 2⟩ from et_con) (at_cons (show ET _ _ _ ⟨.imm, .fr, eI 2⟩ from et_con) at_nil))) rfl rfl rfl rfl rfl rfl)) (aj_t (show ET _ _ _ ⟨.imm, .fr, eI 1⟩ from et_con) (aj_nil (fcall_p rfl (r_greatest_lot (by omega) [1, 2, 2] 1) (fun _ => rfl) (fun _ => rfl)))))) (fun b73 => (aj_j (ej_call (val := (fun (b : (List Int)) => ⟨.imm, .fr, (eT eI) b⟩)) (sp' := (fun (b : (List Int)) => [some none, some (some ⟨.deep, true, eA s3⟩), none, none, none, none, none, none, none, none, some none, some none, some none, some none, some none])) (io_of e_worst_lot rfl) (aj_t (show ET _ _ _ ⟨.imm, .fr, (eP3 eI eI eI) (3, 3, 3)⟩ from (et_tup (at_cons (show ET _ _ _ ⟨.imm, .fr, eI 3⟩ from et_con) (at_cons (show ET _ _ _ ⟨.imm, .fr, eI 3⟩ from et_con) (at_cons (show ET _ _ _ ⟨.imm, .fr, eI 3⟩ from et_con) at_nil))) rfl rfl rfl rfl rfl rfl)) (aj_nil (fcall_p rfl (r_worst_lot (by omega) [3, 3, 3]) (fun _ => rfl) (fun _ => rfl))))) (fun b74 => (aj_j (ej_call (val := (fun (b : Int) => ⟨.imm, .fr, eI b⟩)) (sp' := (fun (b : Int) => [some none, some (some ⟨.deep, true, eA s3⟩), none, none, none, none, none, none, none, none, some none, some none, some none, some none, some none])) (io_of e_greatest_excess rfl) (aj_t (show ET _ _ _ ⟨.imm, .fr, (eP1 eI) 0⟩ from (et_tup (at_cons (show ET _ _ _ ⟨.imm, .fr, eI 0⟩ from et_con) at_nil) rfl rfl rfl rfl rfl rfl)) (aj_nil (fcall_p rfl (r_greatest_excess (by omega) [0]) (fun _ => rfl) (fun _ => rfl))))) (fun b75 => (aj_nil (ftup_t rfl rfl rfl rfl))))))))))) (fun told76 => (tg_nm rfl rfl))) (fun told76 => (rj_retP (ej_p2 (val := (fun (b : Bool) => ⟨.imm, .fr, eB b⟩)) (sp' := (fun (b : Bool) => [some none, some (some ⟨.deep, true, eA s3⟩), none, none, none, none, none, none, none, none, some (some ⟨.flat, true, (eL eA) told76⟩), some none, some none, some none, some none])) (aj_j (ej_p1 (val := (fun (b : Str) => ⟨.imm, .fr, eS b⟩)) (sp' := (fun (b : Str) => [some none, some (some ⟨.deep, true, eA s3⟩), none, none, none, none, none, none, none, none, some (some ⟨.flat, true, (eL eA) told76⟩), some none, some none, some none, some none])) (aj_t (show ET _ _ _ ⟨.flat, (.sl 10), (eL eA) told76⟩ from (et_varO rfl rfl)) (aj_nil (fp1_p q_repr (fun _ => rfl) (fun _ => rfl))))) (fun b77 => (aj_j (ej_p1 (val := (fun (b : Str) => ⟨.imm, .fr, eS b⟩)) (sp' := (fun (b : Str) => [some none, some (some ⟨.deep, true, eA s3⟩), none, none, none, none, none, none, none, none, some (some ⟨.flat, true, (eL eA) told76⟩), some none, some none, some none, some none])) (aj_t (show ET _ _ _ ⟨.flat, .fr, (eL eA) [(eI 2), ((eP1 eI) 1), ((eP3 eI eI eI) (0, 1, 2)), (eI 0)]⟩ from (et_lst (at_cons (show ET _ _ _ ⟨.imm, .fr, eI 2⟩ from et_con) (at_cons (show ET _ _ _ ⟨.imm, .fr, (eP1 eI) 1⟩ from (et_tup (at_cons (show ET _ _ _ ⟨.imm, .fr, eI 1⟩ from et_con) at_nil) rfl rfl rfl rfl rfl rfl)) (at_cons (show ET _ _ _ ⟨.imm, .fr, (eP3 eI eI eI) (0, 1, 2)⟩ from (et_tup (at_cons (show ET _ _ _ ⟨.imm, .fr, eI 0⟩ from et_con) (at_cons (show ET _ _ _ ⟨.imm, .fr, eI 1⟩ from et_con) (at_cons (show ET _ _ _ ⟨.imm, .fr, eI 2⟩ from et_con) at_nil))) rfl rfl rfl rfl rfl rfl)) (at_cons (show ET _ _ _ ⟨.imm, .fr, eI 0⟩ from et_con) at_nil)))) rfl rfl rfl rfl rfl rfl)) (aj_nil (fp1_p q_repr (fun _ => rfl) (fun _ => rfl))))) (fun b78 => (aj_nil (fp2_p q_eqS (fun _ => rfl) (fun _ => rfl)))))))) (fun _ => (ret_fr rfl)) (fun _ => (.any (.any (.eq (.eq (.eq (.eq (.eq (.eq (.eq (.eq (.any (.any (.any (.any (.any .nil)))))))))))))))))))))


end Iv
set_option maxRecDepth 100000
set_option maxHeartbeats 1000000
/-! LotA: sums of lists, excesses of lots, the greatest lots: plain Lean. -/
namespace Iv
open PySem L2
/-! sums -/
theorem sum_perm {xs ys : List Int} (h : xs.Perm ys) : xs.sum = ys.sum := by
  induction h with
  | nil => rfl
  | cons x _ ih => simp only [List.sum_cons, ih]
  | swap x y l => simp only [List.sum_cons]; omega
  | trans _ _ h1 h2 => exact h1.trans h2
theorem sum_append (xs ys : List Int) : (xs ++ ys).sum = xs.sum + ys.sum := by
  induction xs with
  | nil => simp
  | cons x xs ih => simp only [List.cons_append, List.sum_cons, ih]; omega
theorem sum_le {α : Type} {f g : α → Int} {xs : List α} (h : ∀ x ∈ xs, f x ≤ g x) : (xs.map f).sum ≤ (xs.map g).sum := by
  induction xs with
  | nil => simp
  | cons x xs ih =>
    simp only [List.map_cons, List.sum_cons]
    have := h x List.mem_cons_self
    have := ih fun y hy => h y (List.mem_cons_of_mem _ hy)
    omega
theorem sum_congr {α : Type} {f g : α → Int} {xs : List α} (h : ∀ x ∈ xs, f x = g x) : (xs.map f).sum = (xs.map g).sum := by
  rw [List.map_congr_left h]
theorem sum_add {α : Type} (f g : α → Int) (xs : List α) : (xs.map fun x => f x + g x).sum = (xs.map f).sum + (xs.map g).sum := by
  induction xs with
  | nil => simp
  | cons x xs ih => simp only [List.map_cons, List.sum_cons, ih]; omega
theorem sum_split {α : Type} (p : α → Bool) (f : α → Int) (xs : List α) : (xs.map f).sum = ((xs.filter p).map f).sum + ((xs.filter fun x => !p x).map f).sum := by
  induction xs with
  | nil => simp
  | cons x xs ih =>
    cases h : p x <;> simp only [List.filter_cons, h, List.map_cons, List.sum_cons, ih, if_true, Bool.not_true, Bool.not_false, Bool.false_eq_true, if_false] <;> omega
theorem sum_const {α : Type} (c : Int) (xs : List α) : (xs.map fun _ => c).sum = c * xs.length := by
  induction xs with
  | nil => simp
  | cons x xs ih => simp only [List.map_cons, List.sum_cons, ih, List.length_cons]; push_cast; rw [Int.mul_add]; omega
/-- what is taken in a falling sequence: its beginning has the greatest sum -/
theorem sub_take {α : Type} {f : α → Int} : ∀ {L xs : List α}, L.Sublist xs → xs.Pairwise (fun a b => f b ≤ f a) → (L.map f).sum ≤ ((xs.take L.length).map f).sum
  | _, _, .slnil, _ => by simp
  | L, x :: xs, .cons _ s, h => by
    obtain ⟨h1, h2⟩ := List.pairwise_cons.mp h
    have ih := sub_take s h2
    cases L with
    | nil => simp
    | cons y L =>
      have hl := s.length_le
      simp only [List.length_cons] at hl ih ⊢
      rw [List.take_succ_cons, List.map_cons, List.sum_cons]
      have e : xs.take (L.length + 1) = xs.take L.length ++ [xs[L.length]] := by
        rw [List.take_succ, List.getElem?_eq_getElem (by omega)]; rfl
      rw [e, List.map_append, sum_append] at ih
      have := h1 xs[L.length] (List.getElem_mem _)
      simp only [List.map_cons, List.map_nil, List.sum_cons, List.sum_nil] at ih ⊢
      omega
  | x :: L, _ :: xs, .cons_cons _ s, h => by
    obtain ⟨h1, h2⟩ := List.pairwise_cons.mp h
    have ih := sub_take s h2
    simp only [List.length_cons, List.take_succ_cons, List.map_cons, List.sum_cons]
    omega
/-- a lot: unlike things of a list; in the list's own sequence it is a part of it -/
theorem lot_perm {α : Type} [DecidableEq α] {L xs : List α} (hn : L.Nodup) (hx : xs.Nodup) (hs : ∀ a ∈ L, a ∈ xs) : (xs.filter fun a => decide (a ∈ L)).Perm L := by
  rw [List.perm_ext_iff_of_nodup (hx.filter _) hn]
  intro a
  simp only [List.mem_filter, decide_eq_true_eq]
  exact ⟨fun h => h.2, fun h => ⟨hs a h, h⟩⟩
/-! rows and lots -/
def nu (row : List Int) (c : Int) : Int := row[c.toNat]?.getD 0
def rng (row : List Int) : List Int := rangeI 0 row.length
theorem mem_rng {row : List Int} {c : Int} : c ∈ rng row ↔ 0 ≤ c ∧ c < row.length := mem_rangeI
theorem nodup_rng {row : List Int} : (rng row).Nodup := nodup_rangeI
theorem length_rng {row : List Int} : (rng row).length = row.length := by unfold rng; rw [length_rangeI]; omega
structure IsLot (row : List Int) (lot : List Int) : Prop where
  nd : lot.Nodup
  rg : ∀ c ∈ lot, 0 ≤ c ∧ c < row.length
theorem IsLot.le {row lot : List Int} (h : IsLot row lot) : lot.length ≤ row.length := by
  have p := lot_perm h.nd nodup_rng fun a ha => mem_rng.mpr (h.rg a ha)
  rw [← p.length_eq, ← length_rng (row := row)]
  exact List.length_filter_le _ _
/-- the excess of a lot -/
def exc (row lot : List Int) : Int := (lot.map (nu row)).sum - (lot.length : Int) * ((lot.length : Int) - 1) - (((rng row).filter fun c => !inB c lot).map fun c => min (lot.length : Int) (nu row c)).sum
theorem exc_perm {row lot lot' : List Int} (h : lot.Perm lot') : exc row lot = exc row lot' := by
  unfold exc
  have e : ∀ c, inB c lot = inB c lot' := fun c => by unfold inB; congr 1; exact propext h.mem_iff
  rw [sum_perm (h.map _), h.length_eq]
  simp only [e]
/-- the excess as a sum over the lot alone -/
theorem exc_eq {row lot : List Int} (h : IsLot row lot) : exc row lot = (lot.map fun c => nu row c + min (lot.length : Int) (nu row c)).sum - (lot.length : Int) * ((lot.length : Int) - 1) - ((rng row).map fun c => min (lot.length : Int) (nu row c)).sum := by
  have p := lot_perm h.nd nodup_rng fun a ha => mem_rng.mpr (h.rg a ha)
  have s := sum_split (fun c => inB c lot) (fun c => min (lot.length : Int) (nu row c)) (rng row)
  have e := sum_perm (p.map fun c => min (lot.length : Int) (nu row c))
  have a := sum_add (nu row) (fun c => min (lot.length : Int) (nu row c)) lot
  have e2 : ((rng row).filter fun c => inB c lot) = (rng row).filter fun a => decide (a ∈ lot) := rfl
  rw [e2, e] at s
  unfold exc
  omega
/-- crossings, those with more roads ahead -/
def ordr (row : List Int) : List Int := byKey (eP2 eI eI) (rng row) ((rng row).map fun c => (-nu row c, c))
def leP (p q : Int × Int) : Prop := p.1 < q.1 ∨ (p.1 = q.1 ∧ p.2 ≤ q.2)
instance (p q : Int × Int) : Decidable (leP p q) := inferInstanceAs (Decidable (_ ∨ _))
theorem le_eP2 (p q : Int × Int) : PySem.W.dataLe false id (eP2 eI eI p) (eP2 eI eI q) = decide (leP p q) := by
  obtain ⟨a, b⟩ := p
  obtain ⟨c, d⟩ := q
  show (!(PyProof.Rows.lexLt PyProof.Rows.itemOrd [.inl c, .inl d] [.inl a, .inl b])) = _
  simp [PyProof.Rows.lexLt, PyProof.Rows.itemLt, leP]
  rcases Int.lt_trichotomy a c with h | h | h
  · have h2 : ¬ c < a := by omega
    have h3 : ¬ c = a := by omega
    simp [h, h2, h3]
  · subst h
    by_cases h : d < b
    · have : ¬ b ≤ d := by omega
      simp [h, this]
    · have : b ≤ d := by omega
      simp [h, this]
  · have h2 : ¬ a < c := by omega
    have h3 : ¬ a = c := by omega
    simp [h, h2, h3]
theorem leP_trans {p q r : Int × Int} (h1 : leP p q) (h2 : leP q r) : leP p r := by unfold leP at *; omega
theorem leP_total (p q : Int × Int) : leP p q ∨ leP q p := by unfold leP; omega
/-- sorted by the pairs of a function -/
def byP (φ : Int → Int × Int) (xs : List Int) : List Int := xs.mergeSort fun a b => decide (leP (φ a) (φ b))
theorem byKey_map (φ : Int → Int × Int) (xs : List Int) : byKey (eP2 eI eI) xs (xs.map φ) = byP φ xs := by
  unfold byKey byP
  have e : xs.zip (xs.map φ) = xs.map fun c => (c, φ c) := by
    induction xs with
    | nil => rfl
    | cons x xs ih => simp only [List.map_cons, List.zip_cons_cons, ih]
  rw [e, ← List.map_mergeSort (f := fun c => (c, φ c)) (r := fun a b => decide (leP (φ a) (φ b))) (fun a _ b _ => (le_eP2 _ _).symm), List.map_map]
  exact List.map_id _
theorem srt_map {φ : Int → Int × Int} {xs : List Int} : srt (eP2 eI eI) (xs.map φ) = (byP φ xs).map φ := by
  unfold srt byP
  rw [← List.map_mergeSort (f := φ) (r := fun a b => decide (leP (φ a) (φ b))) (fun a _ b _ => (le_eP2 _ _).symm)]
theorem byP_perm (φ : Int → Int × Int) (xs : List Int) : (byP φ xs).Perm xs := List.mergeSort_perm _ _
theorem byP_sorted (φ : Int → Int × Int) (xs : List Int) : (byP φ xs).Pairwise fun a b => leP (φ a) (φ b) := by
  have := List.pairwise_mergeSort (le := fun a b => decide (leP (φ a) (φ b))) (fun a b c h1 h2 => by simp only [decide_eq_true_eq] at *; exact leP_trans h1 h2) (fun a b => by simpa using leP_total (φ a) (φ b)) xs
  exact this.imp (fun h => by simpa using h)
abbrev fall (row : List Int) (c : Int) : Int × Int := (-nu row c, c)
theorem ordr_eq (row : List Int) : ordr row = byP (fall row) (rng row) := byKey_map _ _
theorem ordr_perm (row : List Int) : (ordr row).Perm (rng row) := by rw [ordr_eq]; exact byP_perm _ _
theorem ordr_fall (row : List Int) : (ordr row).Pairwise fun a b => nu row b ≤ nu row a := by
  rw [ordr_eq]
  exact (byP_sorted _ _).imp fun h => by unfold leP at h; simp only at h; omega
theorem ordr_length (row : List Int) : (ordr row).length = row.length := by rw [(ordr_perm row).length_eq, length_rng]
/-- the told lot -/
def gl (row : List Int) (t : Nat) : List Int := srt eI ((ordr row).take t)
theorem gl_perm (row : List Int) (t : Nat) : (gl row t).Perm ((ordr row).take t) := srt_perm _
theorem gl_length {row : List Int} {t : Nat} (h : t ≤ row.length) : (gl row t).length = t := by
  rw [(gl_perm row t).length_eq, List.length_take, ordr_length]; omega
theorem gl_lot (row : List Int) (t : Nat) : IsLot row (gl row t) := by
  constructor
  · exact (gl_perm row t).nodup_iff.mpr (((ordr_perm row).nodup_iff.mpr nodup_rng).sublist (List.take_sublist _ _))
  · intro c hc
    exact mem_rng.mp ((ordr_perm row).mem_iff.mp (List.mem_of_mem_take ((gl_perm row t).mem_iff.mp hc)))
theorem byP_ins (φ : Int → Int × Int) (xs : List Int) : byP φ xs = xs.foldr (insB fun a b => decide (leP (φ a) (φ b))) [] :=
  mergeSort_ins (fun a b c h1 h2 => by simp only [decide_eq_true_eq] at *; exact leP_trans h1 h2) (fun a b => by simpa using leP_total (φ a) (φ b)) xs
theorem gl_ins (row : List Int) (t : Nat) : gl row t = (((rng row).foldr (insB fun a b => decide (leP (fall row a) (fall row b))) []).take t).foldr (insB fun a b => decide (a ≤ b)) [] := by
  unfold gl
  rw [srtI_ins, ordr_eq, byP_ins]
/-- no lot has a greater excess than the told one of its size -/
theorem exc_le {row lot : List Int} (h : IsLot row lot) : exc row lot ≤ exc row (gl row lot.length) := by
  have hl := gl_length h.le
  rw [exc_eq h, exc_eq (gl_lot row lot.length), hl]
  let f : Int → Int := fun c => nu row c + min (lot.length : Int) (nu row c)
  have p := lot_perm h.nd ((ordr_perm row).nodup_iff.mpr nodup_rng) fun a ha => (ordr_perm row).mem_iff.mpr (mem_rng.mpr (h.rg a ha))
  have s := sub_take (f := f) (List.filter_sublist (p := fun a => decide (a ∈ lot)) (l := ordr row)) ((ordr_fall row).imp fun {a b} h => by show _ + _ ≤ _ + _; omega)
  rw [p.length_eq, sum_perm (p.map f), ← sum_perm ((gl_perm row lot.length).map f)] at s
  have s' : (lot.map fun c => nu row c + min (lot.length : Int) (nu row c)).sum ≤ ((gl row lot.length).map fun c => nu row c + min (lot.length : Int) (nu row c)).sum := s
  omega
end Iv

set_option maxRecDepth 100000
set_option maxHeartbeats 1000000
/-! LotM: what the program's excesses compute. -/
namespace Iv
open PySem L2
theorem zipIdx_rng (row : List Int) : enumI row = (rng row).map fun c => (c, nu row c) := by
  apply List.ext_getElem?
  intro i
  unfold enumI rng
  by_cases h : i < row.length
  · rw [List.getElem?_map, List.getElem?_map, getElem?_rangeI (by omega), List.getElem?_zipIdx]
    simp [List.getElem?_eq_getElem h, nu]
  · rw [List.getElem?_map, List.getElem?_map, List.getElem?_zipIdx, List.getElem?_eq_none (by omega), List.getElem?_eq_none (by rw [length_rangeI]; omega)]
    rfl
theorem enumI_length (row : List Int) : (enumI row).length = row.length := by rw [zipIdx_rng, List.length_map, length_rng]
theorem at_nu {row : List Int} {c : Int} (h0 : 0 ≤ c) (h1 : c < row.length) : atI row c = some (nu row c) := atI_getD h0 h1
theorem w_lot_excess {row lot : List Int} (hr : row.length ≤ 1000) (h : IsLot row lot) : m_lot_excess row lot = some (exc row lot) := by
  have hl := h.le
  unfold m_lot_excess
  refine ok_elim (ok_bE (ok_elim (ok_bE (compT_of (by rw [enumI_length]; omega)) (ok_some rfl))) (ok_bE (ok_elim (ok_bE (ok_elim (ok_bE (compM_all (g := nu row) (by omega) fun c hc => ?_) (ok_some rfl))) (ok_bE (mul_small (smallI_of (by omega) (by omega))) (ok_some rfl)))) (ok_some ?_)))
  · exact at_nu (h.rg c hc).1 (h.rg c hc).2
  · rw [zipIdx_rng, List.filter_map, List.map_map]
    rfl
theorem w__law_excess {row lot : List Int} (hr : row.length ≤ 1000) (h : IsLot row lot) : m__law_excess row lot = some (exc row lot) := by
  have hl := h.le
  unfold m__law_excess
  refine ok_elim (ok_bE (ok_elim (ok_bE (ok_elim (ok_bE (compM_all (g := nu row) (by omega) fun c hc => ?_) (ok_some rfl))) (ok_bE (mul_small (smallI_of (by omega) (by omega))) (ok_some rfl)))) (ok_bE (ok_elim (ok_bE (ok_elim (ok_bE (rangeM_of (by omega) (by omega) (by omega) (by omega)) (ok_eq (compM_of (c := fun c => !inB c lot) (g := fun c => min (lot.length : Int) (nu row c)) (by rw [length_rangeI]; omega) (fun _ _ => rfl) fun c hc _ => ?_) rfl))) (ok_some rfl))) (ok_some ?_)))
  · exact at_nu (h.rg c hc).1 (h.rg c hc).2
  · obtain ⟨h0, h1⟩ := mem_rangeI.mp hc
    rw [at_nu h0 h1]; rfl
  · rfl
theorem atF_nu {row : List Int} {c : Int} (hr : row.length ≤ 1000) (h0 : 0 ≤ c) (h1 : c < row.length) : atF row c = some (nu row c) := by
  unfold atF
  rw [if_pos (fits_of (by omega)), at_nu h0 h1]
theorem w_greatest_lot {row : List Int} {t : Int} (hr : row.length ≤ 1000) (ht : 0 ≤ t) : m_greatest_lot row t = some (gl row t.toNat) := by
  unfold m_greatest_lot
  refine ok_elim (ok_bE (ok_elim (ok_bE (ok_elim (ok_bE (rangeM_of (by omega) (by omega) (by omega) (by omega)) (ok_eq (srtK_of (k := fun c => (-nu row c, c)) fun c hc => ?_) rfl))) (ok_eq (toM_of (by show (ordr row).length ≤ _; rw [ordr_length]; omega) ht) rfl))) (ok_some rfl))
  obtain ⟨h0, h1⟩ := mem_rangeI.mp hc
  rw [atF_nu hr h0 h1]; rfl
theorem w__law_told_lot {row : List Int} {t : Int} (hr : row.length ≤ 1000) (ht : 0 ≤ t) : m__law_told_lot row t = some (gl row t.toNat) := by
  unfold m__law_told_lot
  have e : (enumI row).map (fun a => (0 - a.2, a.1)) = (rng row).map (fall row) := by
    rw [zipIdx_rng, List.map_map]
    exact List.map_congr_left fun c _ => by show (0 - nu row c, c) = (-nu row c, c); rw [Int.zero_sub]
  refine ok_elim (ok_bE (ok_elim (ok_bE (ok_elim (ok_bE (compT_all (by rw [enumI_length]; omega)) (ok_some rfl))) (ok_eq (compT_all ?_) rfl))) (ok_bE (toM_of ?_ ht) (ok_some ?_)))
  · rw [length_srt, List.length_map, enumI_length]; omega
  · rw [List.length_map, length_srt, List.length_map, enumI_length]; omega
  · rw [e, srt_map, List.map_map]
    have : ((fun a => a.2) ∘ fall row) = id := rfl
    rw [this, List.map_id]
    unfold gl
    rw [ordr_eq]
/-- the told lot with the greatest excess, the least number that has it -/
def worst (row : List Int) : List Int := (List.range row.length).foldl (fun s t => if exc row s < exc row (gl row (t + 1)) then gl row (t + 1) else s) []
theorem nil_lot (row : List Int) : IsLot row [] := ⟨List.nodup_nil, fun c hc => nomatch hc⟩
theorem worst_spec (row : List Int) (m : Nat) : let w := (List.range m).foldl (fun s t => if exc row s < exc row (gl row (t + 1)) then gl row (t + 1) else s) []
    ∃ k, k ≤ m ∧ w = gl row k ∧ (∀ t, t ≤ m → exc row (gl row t) ≤ exc row w) ∧ ∀ t, t < k → exc row (gl row t) < exc row w := by
  induction m with
  | zero => exact ⟨0, Nat.le_refl _, by simp [gl, srt], fun t ht => by
      have : t = 0 := by omega
      subst this
      simp [gl, srt], fun t ht => by omega⟩
  | succ m ih =>
    obtain ⟨k, h1, h2, h3, h4⟩ := ih
    simp only [List.range_succ, List.foldl_append, List.foldl_cons, List.foldl_nil]
    generalize (List.range m).foldl (fun s t => if exc row s < exc row (gl row (t + 1)) then gl row (t + 1) else s) [] = w at *
    by_cases hc : exc row w < exc row (gl row (m + 1))
    · rw [if_pos hc]
      refine ⟨m + 1, Nat.le_refl _, rfl, fun t ht => ?_, fun t ht => ?_⟩
      · by_cases e : t = m + 1
        · rw [e]; exact Int.le_refl _
        · have := h3 t (by omega); omega
      · have := h3 t (by omega); omega
    · rw [if_neg hc]
      refine ⟨k, by omega, h2, fun t ht => ?_, h4⟩
      by_cases e : t = m + 1
      · rw [e]; omega
      · exact h3 t (by omega)
theorem worst_lot (row : List Int) : IsLot row (worst row) := by
  obtain ⟨k, _, h, _⟩ := worst_spec row row.length
  unfold worst
  rw [h]; exact gl_lot row k
/-- no lot has a greater excess -/
theorem worst_max {row lot : List Int} (h : IsLot row lot) : exc row lot ≤ exc row (worst row) := by
  obtain ⟨k, _, _, h3, _⟩ := worst_spec row row.length
  exact Int.le_trans (exc_le h) (h3 _ h.le)
theorem w_worst_lot {row : List Int} (hr : row.length ≤ 1000) : m_worst_lot row = some (worst row) := by
  unfold m_worst_lot
  refine ok_elim (ok_bE (rangeM_of (by omega) (by omega) (by omega) (by omega)) ?_)
  have key := ok_for (f := (fun (s3 : (List Int)) (a1 : Int) => (Option.bind (m_greatest_lot row a1) fun lot4 => (Option.bind (Option.bind (m_lot_excess row lot4) fun b5 => (Option.bind (m_lot_excess row s3) fun b6 => (some (decide (b6 < b5))))) fun q7 => if q7 = true then (some lot4) else (some s3)))))
    (fun pre s => s = (List.range pre.length).foldl (fun s t => if exc row s < exc row (gl row (t + 1)) then gl row (t + 1) else s) []) (xs := rangeI 1 ((row.length : Int) + 1)) (pre := []) (s := []) rfl ?_
  · rw [List.nil_append, length_rangeI] at key
    refine ok_mono key fun s hs => ?_
    rw [hs]
    unfold worst
    congr 2
    omega
  · intro a b x s e hs
    rw [List.nil_append] at e
    have hx : x = (a.length : Int) + 1 := by
      have h1 : (rangeI 1 ((row.length : Int) + 1))[a.length]? = some x := by rw [e]; simp
      have h2 : a.length < (rangeI 1 ((row.length : Int) + 1)).length := by rw [e]; simp
      rw [length_rangeI] at h2
      rw [getElem?_rangeI (by omega)] at h1
      cases h1; omega
    have hL : IsLot row s := by
      obtain ⟨k, _, h2, _⟩ := worst_spec row a.length
      rw [hs, h2]; exact gl_lot row k
    rw [List.length_append, List.length_singleton, List.range_succ, List.foldl_append, ← hs]
    refine ok_bE (w_greatest_lot hr (by omega)) ?_
    have ht : x.toNat = a.length + 1 := by omega
    rw [ht]
    refine ok_bE (ok_elim (ok_bE (w_lot_excess hr (gl_lot row _)) (ok_bE (w_lot_excess hr hL) (ok_some rfl)))) ?_
    simp only [List.foldl_cons, List.foldl_nil, decide_eq_true_eq]
    by_cases hc : exc row s < exc row (gl row (a.length + 1))
    · rw [if_pos hc, if_pos hc]; exact ok_some rfl
    · rw [if_neg hc, if_neg hc]; exact ok_some rfl
def gexc (row : List Int) : Int := exc row (worst row)
theorem w_greatest_excess {row : List Int} (hr : row.length ≤ 1000) : m_greatest_excess row = some (gexc row) := by
  unfold m_greatest_excess
  rw [w_worst_lot hr]
  exact w_lot_excess hr (worst_lot row)
theorem worst_of {row w : List Int} (h : (List.range row.length).foldl (fun s t =>
    let g := (((rng row).foldr (insB fun a b => decide (leP (fall row a) (fall row b))) []).take (t + 1)).foldr (insB fun a b => decide (a ≤ b)) []
    if exc row s < exc row g then g else s) [] = w) : worst row = w := by
  unfold worst
  simp only [gl_ins]
  exact h
end Iv

set_option maxRecDepth 100000
set_option maxHeartbeats 1000000
/-! LotR: the rows that the laws draw. -/
namespace Iv
open PySem L2
theorem w_of {s : D} {xs : List Int} (h : IsSrc s) (h0 : 1 ≤ xs.length) (h1 : xs.length ≤ 1000) : Ok (m__law_of s xs) fun b => b.1 ∈ xs ∧ IsSrc b.2 := by
  unfold m__law_of
  refine ok_bind (ok_pick h (by omega)) fun b hb => ?_
  obtain ⟨x, hx, hm⟩ := ok_at (xs := xs) (P := fun x => x ∈ xs) hb.1 (by omega) fun x hx => hx
  rw [hx]
  exact ok_some ⟨hm, hb.2.2⟩
/-- all pairs below n -/
theorem w_all_pairs {n : Int} (h1 : 0 ≤ n) (h2 : n ≤ 12) : Ok (m__law_all_pairs n) fun ps => (∀ p ∈ ps, 0 ≤ p.1 ∧ p.1 < p.2 ∧ p.2 < n) ∧ ps.length ≤ 144 := by
  unfold m__law_all_pairs
  refine ok_bE (rangeM_of (by omega) (by omega) (by omega) (by omega)) ?_
  refine ok_mono (ok_for (fun (pre : List Int) (s : List (Int × Int)) => (∀ p ∈ s, 0 ≤ p.1 ∧ p.1 < p.2 ∧ p.2 < n) ∧ s.length ≤ 12 * pre.length) (pre := []) (s := []) ⟨(fun p hp => nomatch hp), by simp⟩ ?_) ?_
  · intro a b x s e hs
    rw [List.nil_append] at e
    have hx : x ∈ rangeI 0 n := by rw [e]; simp
    obtain ⟨x0, x1⟩ := mem_rangeI.mp hx
    have hla : a.length ≤ 12 := by
      have : (rangeI 0 n).length = a.length + (b.length + 1) := by rw [e]; simp
      rw [length_rangeI] at this; omega
    refine ok_bind (P := fun ps => (∀ p ∈ ps, 0 ≤ p.1 ∧ p.1 < p.2 ∧ p.2 < n) ∧ ps.length ≤ 12) (ok_bE (rangeM_of (by omega) (by omega) (by omega) (by omega)) (ok_eq (compT_all (by rw [length_rangeI]; omega)) ⟨fun p hp => ?_, by rw [List.length_map, length_rangeI]; omega⟩)) fun ps hps => ?_
    · obtain ⟨b, hb, rfl⟩ := List.mem_map.mp hp
      obtain ⟨h3, h4⟩ := mem_rangeI.mp hb
      exact ⟨x0, by simp only; omega, h4⟩
    · refine ok_eq (addM_of (by omega)) ⟨fun p hp => ?_, ?_⟩
      · rcases List.mem_append.mp hp with hp | hp
        · exact hs.1 p hp
        · exact hps.1 p hp
      · have := hs.2
        have := hps.2
        simp only [List.length_append, List.length_singleton]; omega
  · intro s hs
    refine ⟨hs.1, ?_⟩
    have := hs.2
    rw [List.nil_append, length_rangeI] at this
    omega
structure IsWb (n : Int) (w : Int × List (Int × Int)) : Prop where
  nn : w.1 = n
  rd : ∀ r ∈ w.2, 0 ≤ r.1 ∧ r.1 < r.2 ∧ r.2 < n
  len : w.2.length ≤ 144
theorem w_web {s : D} {n : Int} (h : IsSrc s) (h1 : 0 ≤ n) (h2 : n ≤ 12) : Ok (m__law_web s n) fun b => IsWb n b.1 ∧ IsSrc b.2 := by
  unfold m__law_web
  refine ok_bind (w_of h (by simp) (by simp)) fun share hsh => ok_bind (ok_bind (w_all_pairs h1 h2) fun ps hps => ?_) fun q hq => ok_some hq
  rw [fitM_of (by omega)]
  refine ok_mono (ok_compS IsSrc (R := fun a b => b = a) hsh.2 (fun x _ s hs => ok_bind (ok_pick hs (by omega)) fun b hb => ok_some hb.2.2) fun x _ s hs => ok_some ⟨hs, rfl⟩) ?_
  rintro ⟨r, s'⟩ ⟨h3, zs, h4, h5, h6⟩
  simp only at h3 h4
  have e : r = zs.map (·.1) := by rw [h4]; exact List.map_congr_left fun z hz => h6 z hz
  rw [← e] at h5
  exact ⟨⟨rfl, fun p hp => hps.1 p (h5.subset hp), by have := h5.length_le; simp only; omega⟩, h3⟩
def degs (w : Int × List (Int × Int)) : List Int := (rangeI 0 w.1).map fun c => ((((w.2.filter fun r => inB c [r.1, r.2]).length : Nat)) : Int)
theorem w_degrees {w : Int × List (Int × Int)} (h1 : 0 ≤ w.1) (h2 : w.1 ≤ 1000) (h3 : w.2.length ≤ 16777216) : m__law_degrees w = some (degs w) := by
  unfold m__law_degrees
  refine ok_elim (ok_bE (rangeM_of (by omega) (by omega) (by omega) (by omega)) (ok_eq (compM_all (g := fun c => ((((w.2.filter fun r => inB c [r.1, r.2]).length : Nat)) : Int)) (by rw [length_rangeI]; omega) fun c hc => ?_) rfl))
  exact ok_elim (ok_bE (compT_of h3) (ok_some (by rw [List.length_map])))
/-- a row of n numbers -/
structure IsRow (n : Int) (row : List Int) : Prop where
  len : (row.length : Int) = n
  rg : ∀ x ∈ row, 0 ≤ x ∧ x ≤ 1000
theorem degs_row {n : Int} {w : Int × List (Int × Int)} (h : IsWb n w) (h0 : 0 ≤ n) : IsRow n (degs w) := by
  refine ⟨by unfold degs; rw [List.length_map, length_rangeI, h.nn]; omega, fun x hx => ?_⟩
  obtain ⟨c, _, rfl⟩ := List.mem_map.mp hx
  have := List.length_filter_le (fun r : Int × Int => inB c [r.1, r.2]) w.2
  have := h.len
  omega
theorem w_row {s : D} {n : Int} (h : IsSrc s) (h1 : 1 ≤ n) (h2 : n ≤ 12) : Ok (m__law_row s n) fun b => IsRow n b.1 ∧ IsSrc b.2 := by
  unfold m__law_row
  refine ok_bind (P := fun q : D × Int × List Int => IsSrc q.1 ∧ IsRow n q.2.2 ∧ ∀ x ∈ q.2.2, x ≤ 144) (ok_bind (ok_pick h (by omega)) fun b1 hb1 => ok_bind (ok_bind (w_web hb1.2.2 (by omega) h2) fun w hw => ?_) fun q hq => ok_some hq) fun q hq => ?_
  · have hn := hw.1.nn
    rw [w_degrees (by omega) (by omega) (by have := hw.1.len; omega)]
    refine ok_some ⟨hw.2, degs_row hw.1 (by omega), fun x hx => ?_⟩
    obtain ⟨c, _, rfl⟩ := List.mem_map.mp hx
    have := List.length_filter_le (fun r : Int × Int => inB c [r.1, r.2]) w.1.2
    have := hw.1.len
    omega
  · obtain ⟨q1, q2, q3⟩ := hq
    refine ok_ite (fun _ => ok_some ⟨q2, q1⟩) fun _ => ok_ite (fun _ => ?_) fun _ => ?_
    · refine ok_bind (P := fun s : D × List Int => IsSrc s.1 ∧ IsRow n s.2) ?_ fun s hs => ok_some ⟨hs.2, hs.1⟩
      refine ok_bind (P := fun b : List Int × D => b.1.length ≤ 3 ∧ IsSrc b.2) (ok_bind (P := fun b : Int × D => 1 ≤ b.1 ∧ b.1 ≤ 3 ∧ IsSrc b.2) (ok_bind (ok_pick q1 (by omega)) fun b hb => ok_some ⟨by simp only; omega, by simp only; omega, hb.2.2⟩) fun b hb => ?_) fun b hb => ?_
      · rw [rangeM_of (by omega) (by omega) (by omega) (by omega)]
        exact ok_some ⟨by simp only [length_rangeI]; omega, hb.2.2⟩
      · refine ok_mono (ok_for (fun (pre : List Int) (s : D × List Int) => IsSrc s.1 ∧ (s.2.length : Int) = n ∧ ∀ x ∈ s.2, 0 ≤ x ∧ x ≤ 144 + 2 * pre.length) (pre := []) ⟨hb.2, q2.len, fun x hx => ⟨(q2.rg x hx).1, by have := q3 x hx; simp only [List.length_nil]; omega⟩⟩ ?_) ?_
        · rintro a b' x ⟨s1, s2⟩ e ⟨g1, g2, g3⟩
          simp only at g1 g2 g3
          refine ok_bind (ok_pick g1 (by omega)) fun k hk => ok_bind (P := fun q : Int × D => 0 ≤ q.1 ∧ q.1 ≤ 144 + 2 * (a.length + 1) ∧ IsSrc q.2) (ok_bind (P := fun q : Int × D => q.1 ≤ 144 + 2 * (a.length + 1) ∧ IsSrc q.2) (ok_bind (ok_at hk.1 (by simp only; omega) g3) fun v hv => ok_bind (w_of hk.2.2 (by simp) (by simp)) fun b14 hb14 => ok_some ⟨?_, hb14.2⟩) fun b15 hb15 => ok_some ⟨by simp only; omega, by simp only; omega, hb15.2⟩) fun q hq => ok_bE (x := ()) rfl ?_
          · have := hb14.1
            simp only [List.mem_cons, List.not_mem_nil, or_false] at this
            simp only; omega
          · simp only
            rw [putM_of hk.1 (by omega)]
            refine ok_some ⟨hq.2.2, by simpa using g2, fun x hx => ?_⟩
            rcases List.mem_or_eq_of_mem_set hx with hx | hx
            · have := g3 x hx
              simp only [List.length_append, List.length_singleton]; omega
            · subst hx
              simp only [List.length_append, List.length_singleton]
              exact ⟨hq.1, by have := hq.2.1; omega⟩
        · rintro ⟨s1, s2⟩ ⟨g1, g2, g3⟩
          refine ⟨g1, g2, fun x hx => ⟨(g3 x hx).1, ?_⟩⟩
          have := (g3 x hx).2
          rw [List.nil_append] at this
          omega
    · refine ok_bind (P := fun b : Int × D => b.1 ≤ 99 ∧ IsSrc b.2) (ok_ite (fun _ => ok_some ⟨by simp only; omega, q1⟩) fun _ => ok_mono (w_of q1 (by simp) (by simp)) fun b hb => ⟨?_, hb.2⟩) fun most hm => ok_bE (rangeM_of (by omega) (by omega) (by omega) (by omega)) ?_
      · have := hb.1
        simp only [List.mem_cons, List.not_mem_nil, or_false] at this
        omega
      · rw [fitM_of (by rw [length_rangeI]; omega)]
        refine ok_mono (ok_compS_all0 (fun s x => rfl) (fun (acc : List Int) s => IsSrc s ∧ ∀ x ∈ acc, 0 ≤ x ∧ x ≤ 1000) (xs := rangeI 0 n) ⟨hm.2, fun x hx => nomatch hx⟩ ?_) ?_
        · rintro a b x s acc e hl ⟨g1, g2⟩
          refine ok_mono (ok_pick g1 (by omega)) fun q hq => ⟨hq.2.2, fun x hx => ?_⟩
          rcases List.mem_append.mp hx with hx | hx
          · exact g2 x hx
          · rw [List.mem_singleton] at hx
            subst hx
            exact ⟨hq.1, by omega⟩
        · rintro ⟨r, s'⟩ ⟨⟨g1, g2⟩, g3⟩
          simp only at g1 g2 g3
          exact ⟨⟨by rw [g3, length_rangeI]; omega, g2⟩, g1⟩
end Iv

set_option maxRecDepth 100000
set_option maxHeartbeats 2000000
namespace Iv
open PySem L2
theorem nu_rg {n : Int} {row : List Int} (h : IsRow n row) (c : Int) : 0 ≤ nu row c ∧ nu row c ≤ 1000 := by
  unfold nu
  cases e : row[c.toNat]? with
  | none => simp
  | some x => simpa using h.rg x (List.mem_of_getElem? e)
theorem sum_rg {xs : List Int} {m : Int} (h : ∀ x ∈ xs, 0 ≤ x ∧ x ≤ m) : 0 ≤ xs.sum ∧ xs.sum ≤ m * xs.length := by
  induction xs with
  | nil => simp
  | cons x xs ih =>
    have h1 := h x List.mem_cons_self
    have h2 := ih fun y hy => h y (List.mem_cons_of_mem _ hy)
    rw [List.sum_cons, List.length_cons]
    push_cast
    rw [Int.mul_add]
    omega
theorem exc_rg {n : Int} {row lot : List Int} (h : IsRow n row) (hn : n ≤ 12) (hl : IsLot row lot) : -1000000 ≤ exc row lot ∧ exc row lot ≤ 1000000 := by
  have h1 := hl.le
  have h2 := h.len
  have hL : lot.length ≤ 12 := by omega
  have s1 := sum_rg (xs := lot.map (nu row)) (m := 1000) fun x hx => by obtain ⟨c, _, rfl⟩ := List.mem_map.mp hx; exact nu_rg h c
  have s2 := sum_rg (xs := ((rng row).filter fun c => !inB c lot).map fun c => min (lot.length : Int) (nu row c)) (m := 12) fun x hx => by
    obtain ⟨c, _, rfl⟩ := List.mem_map.mp hx
    have := nu_rg h c
    omega
  have s3 : ((rng row).filter fun c => !inB c lot).length ≤ 12 := by
    have := List.length_filter_le (fun c => !inB c lot) (rng row)
    rw [length_rng] at this
    omega
  rw [List.length_map] at s1 s2
  have s4 : (0 : Int) ≤ (lot.length : Int) * ((lot.length : Int) - 1) + lot.length ∧ (lot.length : Int) * ((lot.length : Int) - 1) ≤ 144 := by
    generalize lot.length = l at *
    have : l = 0 ∨ l = 1 ∨ l = 2 ∨ l = 3 ∨ l = 4 ∨ l = 5 ∨ l = 6 ∨ l = 7 ∨ l = 8 ∨ l = 9 ∨ l = 10 ∨ l = 11 ∨ l = 12 := by omega
    rcases this with h | h | h | h | h | h | h | h | h | h | h | h | h <;> subst h <;> decide
  unfold exc
  omega
/-- lots drawn from n crossings -/
theorem lot_sub {row lot : List Int} (h : lot.Sublist (rng row)) : IsLot row lot := ⟨nodup_rng.sublist h, fun c hc => mem_rng.mp (h.subset hc)⟩
theorem w_lots {n : Int} (h0 : 0 ≤ n) (h1 : n ≤ 8) : Ok (m__law_lots n) fun ls => (∀ l ∈ ls, l.Sublist (rangeI 0 n)) ∧ ls.length ≤ 256 := by
  unfold m__law_lots
  refine ok_bE (rangeM_of (by omega) (by omega) (by omega) (by omega)) ?_
  refine ok_mono (ok_for (fun (pre : List Int) (s : List (List Int)) => (∀ l ∈ s, l.Sublist pre) ∧ s.length = 2 ^ pre.length) (pre := []) (s := [[]]) ⟨fun l hl => by simpa using hl, rfl⟩ ?_) ?_
  · intro a b x s e hs
    rw [List.nil_append] at e
    have hla : a.length < 8 := by
      have : (rangeI 0 n).length = a.length + (b.length + 1) := by rw [e]; simp
      rw [length_rangeI] at this; omega
    have hp : (2 : Nat) ^ a.length ≤ 2 ^ 8 := Nat.pow_le_pow_right (by decide) (by omega)
    have e8 : (2 : Nat) ^ 8 = 256 := by decide
    refine ok_bE (compM_all (g := fun l => l ++ [x]) (by omega) fun l hl => addM_of ?_) (ok_eq (addM_of ?_) ⟨fun l hl => ?_, ?_⟩)
    · have := (hs.1 l hl).length_le
      simp; omega
    · rw [List.length_map]; omega
    · rcases List.mem_append.mp hl with hl | hl
      · exact (hs.1 l hl).trans (List.sublist_append_left _ _)
      · obtain ⟨l', hl', rfl⟩ := List.mem_map.mp hl
        exact (hs.1 l' hl').append (List.Sublist.refl _)
    · rw [List.length_append, List.length_map, hs.2, List.length_append, List.length_singleton, Nat.pow_succ]; omega
  · intro s hs
    refine ⟨hs.1, ?_⟩
    rw [hs.2, List.nil_append, length_rangeI]
    have hp : (2 : Nat) ^ (n - 0).toNat ≤ 2 ^ 8 := Nat.pow_le_pow_right (by decide) (by omega)
    exact hp
def lots (row : List Int) (n : Int) : List (List Int) := (rangeI 0 (n + 1)).map fun t => gl row t.toNat
theorem lots_at {row : List Int} {n : Int} {t : Nat} (h : (t : Int) ≤ n) : (lots row n)[t]? = some (gl row t) := by
  unfold lots
  rw [List.getElem?_map, getElem?_rangeI (by omega)]
  simp
theorem lots_length {row : List Int} {n : Int} (h : 0 ≤ n) : ((lots row n).length : Int) = n + 1 := by
  unfold lots
  rw [List.length_map, length_rangeI]; omega
theorem mem_lots' {row : List Int} {n : Int} {l : List Int} (h : l ∈ lots row n) : ∃ t : Nat, (t : Int) ≤ n ∧ l = gl row t := by
  obtain ⟨t, ht, rfl⟩ := List.mem_map.mp h
  obtain ⟨h1, h2⟩ := mem_rangeI.mp ht
  exact ⟨t.toNat, by omega, rfl⟩
theorem worst_at {n : Int} {row : List Int} (h : IsRow n row) : ∃ k : Nat, (k : Int) ≤ n ∧ worst row = gl row k ∧ (∀ t : Nat, (t : Int) ≤ n → exc row (gl row t) ≤ gexc row) ∧ ∀ t : Nat, t < k → exc row (gl row t) < gexc row := by
  obtain ⟨k, h1, h2, h3, h4⟩ := worst_spec row row.length
  have := h.len
  exact ⟨k, by omega, h2, fun t ht => h3 t (by omega), h4⟩
theorem nc_lot {n : Int} {row lot : List Int} (h : IsRow n row) (hn : n ≤ 12) (hl : IsLot row lot) : Nc (eT eI lot) 504 1 := by
  have h2 := h.len
  exact (nc_ints (n := 12) (fun x hx => by have := hl.rg x hx; omega) (by have := hl.le; omega)).mono (by omega) (Nat.le_refl _)
theorem w_law {s : D} (hs : IsSrc s) : m_law s = some true := by
  unfold m_law
  refine ok_elim (ok_bE (rangeM_of (by omega) (by omega) (by omega) (by omega)) (ok_ouR (nx_forI IsSrc hs ?_) fun s _ => ?_))
  · intro lap hlap s hs
    obtain ⟨l0, l1⟩ := mem_rangeI.mp hlap
    refine nx_bind (P := fun q : Int × D => 1 ≤ q.1 ∧ q.1 ≤ 12 ∧ IsSrc q.2) (ok_bind (P := fun q : Int × D => 0 ≤ q.1 ∧ q.1 ≤ 11 ∧ IsSrc q.2) (ok_bind (P := fun x : Int => 4 ≤ x ∧ x ≤ 12) (ok_at l0 (by simp; omega) fun x hx => ?_) fun x hx => ok_mono (ok_pick hs (by omega)) fun q hq => ⟨hq.1, by omega, hq.2.2⟩) fun q hq => ok_some ⟨by simp only; omega, by simp only; omega, hq.2.2⟩) fun nq hnq => ?_
    · simp only [List.mem_cons, List.not_mem_nil, or_false] at hx
      omega
    obtain ⟨n, s1⟩ := nq
    obtain ⟨n1, n2, hs1⟩ := hnq
    simp only at n1 n2 hs1 ⊢
    refine nx_bind (w_row hs1 n1 n2) fun rq hrq => ?_
    obtain ⟨row, s2⟩ := rq
    obtain ⟨hrow, hs2⟩ := hrq
    simp only at hrow hs2 ⊢
    have hlen := hrow.len
    have hr : row.length ≤ 1000 := by omega
    have hrl : row.length ≤ 12 := by omega
    have ncr : Nc (eT eI row) (42 * 12) 1 := nc_ints (fun x hx => by have := hrow.rg x hx; omega) hrl
    have hrep := ncr.repr (by omega) (by omega)
    have hll := lots_length (row := row) (n := n) (by omega)
    have hlot : ∀ l ∈ lots row n, IsLot row l := fun l hl => by
      obtain ⟨t, _, rfl⟩ := mem_lots' hl
      exact gl_lot row t
    have nclots : Nc (eL (eT eI) (lots row n)) ((504 + 1) * 13) 2 := (nc_list (nc_map fun l hl => nc_lot hrow n2 (hlot l hl))).mono (by rw [List.length_map]; exact Nat.mul_le_mul_left _ (by omega)) (by omega)
    have hge : m_greatest_excess row = some (gexc row) := w_greatest_excess hr
    have hexs : ∀ ls : List (List Int), ls.length ≤ 1000 → (∀ l ∈ ls, IsLot row l) → compM (fun (a21 : (List Int)) => (some true)) (fun (a21 : (List Int)) => (m__law_excess row a21)) ls = some (ls.map (exc row)) := fun ls h1 h2 => compM_all (by omega) fun l hl => w__law_excess hr (h2 l hl)
    refine nx_bE (x := ((eT eI row).shown, lots row n)) (ok_elim (ok_bE hrep.1 (ok_bE (ok_elim (ok_bE (rangeM_of (by omega) (by omega) (by omega) (by omega)) (ok_eq (compM_all (g := fun t : Int => gl row t.toNat) (by rw [length_rangeI]; omega) fun t ht => w__law_told_lot hr (mem_rangeI.mp ht).1) rfl))) (ok_some rfl)))) ?_
    dsimp only
    refine nx_bind (P := fun b => b = false) (ok_neR2 (ok_bE (ok_elim (ok_bE (rangeM_of (by omega) (by omega) (by omega) (by omega)) (ok_eq (compM_all (g := fun t : Int => gl row t.toNat) (by rw [length_rangeI]; omega) fun t ht => w_greatest_lot hr (mem_rangeI.mp ht).1) rfl))) (ok_repr nclots (by omega) (by omega) rfl)) rfl) fun b hb => ?_
    subst hb
    refine nx_ite (fun h => nomatch h) fun _ => ?_
    refine nx_bE (hexs _ (by omega) hlot) ?_
    obtain ⟨k, k1, k2, k3, k4⟩ := worst_at hrow
    have hk : exc row (gl row k) = gexc row := by rw [← k2]; rfl
    have hmax : maxM ((lots row n).map (exc row)) = some (gexc row) := by
      refine maxM_of (List.mem_map.mpr ⟨gl row k, List.mem_of_getElem? (lots_at k1), hk⟩) fun x hx => ?_
      obtain ⟨l, hl, rfl⟩ := List.mem_map.mp hx
      obtain ⟨t, ht, rfl⟩ := mem_lots' hl
      exact k3 t ht
    have hidx : idxM ((lots row n).map (exc row)) (gexc row) = some (k : Int) := by
      refine idxM_of (by rw [List.getElem?_map, lots_at k1, ← hk]; rfl) fun j hj => ?_
      rw [List.getElem?_map, lots_at (by omega)]
      have := k4 j hj
      simp; omega
    refine nx_bE (x := [eI (gexc row), eT eI (gl row k)]) (ok_elim (ok_bE hmax (ok_bE (x := gl row k) (ok_elim (ok_bE (ok_elim (ok_bE hmax (ok_eq hidx rfl))) ?_)) (ok_some rfl)))) ?_
    · refine ok_eq (atI_of (by omega) (by omega)) ?_
      have := lots_at (row := row) k1
      rw [List.getElem?_eq_getElem (by omega)] at this
      simpa using this
    have ncdue : Nc (eL eA [eI (gexc row), eT eI (gl row k)]) ((504 + 1) * 2) 2 := nc_lpair ((nc_small (exc_rg hrow n2 (worst_lot row)).1 (exc_rg hrow n2 (worst_lot row)).2).mono (by omega) (by omega)) (nc_lot hrow n2 (gl_lot row k))
    refine nx_bind (P := fun b => b = false) (ok_neR2 (ok_bE (ok_elim (ok_bE hge (ok_bE (k2 ▸ w_worst_lot hr) (ok_some rfl)))) (ok_repr ncdue (by omega) (by omega) rfl)) rfl) fun b hb => ?_
    subst hb
    refine nx_ite (fun h => nomatch h) fun _ => ?_
    -- drawn lots
    refine nx_bind (P := fun q : List (List Int) × D => IsSrc q.2 ∧ (∀ l ∈ q.1, IsLot row l) ∧ q.1.length = 4) (ok_bE (rangeM_of (by omega) (by omega) (by omega) (by omega)) ?_) fun sq hsq => ?_
    · rw [fitM_of (by rw [length_rangeI]; omega)]
      refine ok_mono (ok_compS_all0 (fun s x => rfl) (fun (acc : List (List Int)) s => IsSrc s ∧ ∀ l ∈ acc, IsLot row l) (xs := rangeI 0 4) ⟨hs2, fun l hl => nomatch hl⟩ ?_) ?_
      · rintro a b x s acc e hl ⟨g1, g2⟩
        refine ok_bE (rangeM_of (by omega) (by omega) (by omega) (by omega)) ?_
        rw [fitM_of (by rw [length_rangeI]; omega)]
        refine ok_mono (ok_compS IsSrc (R := fun a b => b = a) g1 (fun x _ s hs => ok_bind (ok_pick hs (by omega)) fun b hb => ok_some hb.2.2) fun x _ s hs => ok_some ⟨hs, rfl⟩) ?_
        rintro ⟨r, s'⟩ ⟨h3, zs, h4, h5, h6⟩
        simp only at h3 h4
        have e : r = zs.map (·.1) := by rw [h4]; exact List.map_congr_left fun z hz => h6 z hz
        rw [← e] at h5
        refine ⟨h3, fun l hl => ?_⟩
        rcases List.mem_append.mp hl with hl | hl
        · exact g2 l hl
        · rw [List.mem_singleton] at hl
          subst hl
          exact lot_sub (by unfold rng; rw [hlen]; exact h5)
      · rintro ⟨r, s'⟩ ⟨⟨g1, g2⟩, g3⟩
        exact ⟨g1, g2, by simpa [length_rangeI] using g3⟩
    obtain ⟨some_, s3⟩ := sq
    obtain ⟨hs3, hsome, h4⟩ := hsq
    simp only at hs3 hsome h4 ⊢
    have hall : ∀ l ∈ some_ ++ lots row n, IsLot row l := fun l hl => (List.mem_append.mp hl).elim (hsome l) (hlot l)
    have hal : (some_ ++ lots row n).length ≤ 17 := by rw [List.length_append]; omega
    have ncx : Nc (eL eI ((some_ ++ lots row n).map (exc row))) (42 * 17) 1 := nc_intsL (fun x hx => by
      obtain ⟨l, hl, rfl⟩ := List.mem_map.mp hx
      exact exc_rg hrow n2 (hall l hl)) (by rw [List.length_map]; exact hal)
    refine nx_bind (P := fun b => b = false) (ok_bind (P := fun s => s = (eL eI ((some_ ++ lots row n).map (exc row))).shown) (ok_bE (ok_elim (ok_bE (addM_of (by omega)) (ok_eq (compM_all (by omega) fun l hl => w_lot_excess hr (hall l hl)) rfl))) (ok_eq (ncx.repr (by omega) (by omega)).1 rfl)) fun s hs => ok_bind (P := fun s => s = (eL eI ((some_ ++ lots row n).map (exc row))).shown) (ok_bE (ok_elim (ok_bE (addM_of (by omega)) (ok_eq (hexs _ (by omega) hall) rfl))) (ok_eq (ncx.repr (by omega) (by omega)).1 rfl)) fun t ht => ?_) fun b hb => ?_
    · subst hs ht
      exact ok_eq (neS_self (ncx.repr (by omega) (by omega)).2) rfl
    subst hb
    refine nx_ite (fun h => nomatch h) fun _ => ?_
    refine nx_bind (P := fun b => b = false) (ok_ite (fun h8 => ?_) fun _ => ok_some rfl) fun b hb => ?_
    · simp only [decide_eq_true_eq] at h8
      refine ok_bind (P := fun ls => ls = []) (ok_bind (w_lots (n := n) (by omega) (by omega)) fun ls hls => ?_) fun ls hls => ok_some (by subst hls; simp [eqB])
      have hls' : ∀ l ∈ ls, IsLot row l := fun l hl => lot_sub (by unfold rng; rw [hlen]; exact hls.1 l hl)
      refine ok_eq (compM_of (c := fun l => decide (exc row (gl row l.length) < exc row l)) (g := fun _ => (1 : Int)) (by have := hls.2; omega) (fun l hl => ?_) fun _ _ _ => rfl) ?_
      · have h5 := (hls' l hl).le
        refine ok_elim (ok_bE (w__law_excess hr (hls' l hl)) (ok_bE (x := exc row (gl row l.length)) ?_ (ok_some rfl)))
        rw [atI_getD (by omega) (by rw [List.length_map]; omega), List.getElem?_map, Int.toNat_natCast, lots_at (by omega)]
        rfl
      · rw [List.filter_eq_nil_iff.mpr fun l hl => by have := exc_le (hls' l hl); simp; omega]
        rfl
    subst hb
    refine nx_ite (fun h => nomatch h) fun _ => ?_
    refine nx_bind (P := fun b => b = false) (ok_bE hrep.1 (ok_eq (neS_self hrep.2) rfl)) fun b hb => ?_
    subst hb
    exact nx_ite (fun h => nomatch h) fun _ => nx_some hs3
  · refine ok_bE (x := [eI 2, eT eI [1], eT eI [0, 1, 2], eI 0]) (ok_elim (ok_bE (x := 2) ?_ (ok_bE (x := [1]) ?_ (ok_bE (x := [0, 1, 2]) ?_ (ok_bE (x := 0) ?_ (ok_some rfl)))))) ?_
    · decide +kernel
    · rw [w_greatest_lot (by decide) (by decide), gl_ins]; decide +kernel
    · rw [w_worst_lot (by decide), worst_of (w := [0, 1, 2]) (by decide +kernel)]
    · rw [w_greatest_excess (by decide)]; unfold gexc; rw [worst_of (w := []) (by decide +kernel)]; decide +kernel
    · have nc : Nc (eL eA [eI 2, eT eI [1], eT eI [0, 1, 2], eI 0]) ((42 * 3 + 1) * 4) 2 := nc_list fun d hd => by
        replace hd : d = eI 2 ∨ d = eT eI [1] ∨ d = eT eI [0, 1, 2] ∨ d = eI 0 := by simpa using hd
        rcases hd with rfl | rfl | rfl | rfl
        · exact (nc_small (by omega) (by omega)).mono (by omega) (by omega)
        · exact nc_ints (n := 3) (fun x hx => by simp only [List.mem_cons, List.not_mem_nil, or_false] at hx; omega) (by decide)
        · exact nc_ints (n := 3) (fun x hx => by simp only [List.mem_cons, List.not_mem_nil, or_false] at hx; omega) (by decide)
        · exact (nc_small (by omega) (by omega)).mono (by omega) (by omega)
      exact ok_eqR nc (by omega) (by omega) rfl rfl
end Iv

namespace Iv
open PySem L2
theorem isSrc_srcD {ns : List Int} (h : ns.length ≤ 63) : IsSrc (srcD ns) := ⟨_, _, _, _, rfl, by simpa using h⟩
theorem hrun : ∀ ns : List Int, ns.length ≤ 63 → ∃ e, execs (tab defs FUEL 13) c_law.body [] (lawEnv (N_law.length - 2) ns) = .rt ⟨.imm, .fr, .bool true⟩ e := fun ns h =>
  law_rj (d := c_law) (r_law (k := 13) (by omega) (srcD ns)) (w_law (isSrc_srcD h))
end Iv

open PySem PySem.W PyProof.Rows in
set_option maxRecDepth 100000 in
set_option maxHeartbeats 0 in
theorem PySem.Challenge.cw_factorwebs_k09_excesses_of_lots_holds : PySem.Challenge.rw_factorwebs_k09_excesses_of_lots.Holds := by
  w_on; o_law; k_head; (case hw => w_witness2)
  k_fill
  refine Iv.walk_ofG (l := PySem.Challenge.rw_factorwebs_k09_excesses_of_lots) (n := 63) (k := 14) (x := "script") rfl (by decide) rfl ⟨rfl, by decide, by decide⟩ (fun w h Y => by first | exact PySem.W.kIn_of Y | exact PySem.W.km_in_of Y) ?F
  case F =>
    intro w mg fa h KX G hmg HT
    refine' Iv.all_mk KX G hmg HT ?r_greatest_lot ?t_greatest_lot ?h_greatest_lot ?u_greatest_lot  ?a0 ?l0 ?c0 ?k0 ?a1 ?l1 ?c1 ?k1 ?a2 ?l2 ?c2 ?k2 ?a3 ?l3 ?c3 ?k3 ?a4 ?l4 ?c4 ?k4 ?a5 ?l5 ?c5 ?k5 ?a6 ?l6 ?c6 ?k6 ?a7 ?l7 ?c7 ?k7 ?a8 ?l8 ?c8 ?k8 ?a9 ?l9 ?c9 ?k9 ?a10 ?l10 ?c10 ?k10 ?a11 ?l11 ?c11 ?k11 ?a12 ?l12 ?c12 ?k12 ?a13 ?l13 ?c13 ?k13 ?a14 ?l14 ?c14 ?k14 ?z_abs ?z_enumerate ?z_int ?z_len ?z_list ?z_max ?z_min ?z_range ?z_repr ?z_sorted ?z_sum ?z_tuple (k := 12) (fuel := 10000) Iv.hrun
    (case r_greatest_lot => exact rfl)
    (case a0 => k_is)
    (case l0 => k_is)
    (case c0 => k_is)
    (case k0 => k_is)
    (case a1 => k_is)
    (case l1 => k_is)
    (case c1 => k_is)
    (case k1 => k_is)
    (case a2 => k_is)
    (case l2 => k_is)
    (case c2 => k_is)
    (case k2 => k_is)
    (case a3 => k_is)
    (case l3 => k_is)
    (case c3 => k_is)
    (case k3 => k_is)
    (case a4 => k_is)
    (case l4 => k_is)
    (case c4 => k_is)
    (case k4 => k_is)
    (case a5 => k_is)
    (case l5 => k_is)
    (case c5 => k_is)
    (case k5 => k_is)
    (case a6 => k_is)
    (case l6 => k_is)
    (case c6 => k_is)
    (case k6 => k_is)
    (case a7 => k_is)
    (case l7 => k_is)
    (case c7 => k_is)
    (case k7 => k_is)
    (case a8 => k_is)
    (case l8 => k_is)
    (case c8 => k_is)
    (case k8 => k_is)
    (case a9 => k_is)
    (case l9 => k_is)
    (case c9 => k_is)
    (case k9 => k_is)
    (case a10 => k_is)
    (case l10 => k_is)
    (case c10 => k_is)
    (case k10 => k_is)
    (case a11 => k_is)
    (case l11 => k_is)
    (case c11 => k_is)
    (case k11 => k_is)
    (case a12 => k_is)
    (case l12 => k_is)
    (case c12 => k_is)
    (case k12 => k_is)
    (case a13 => k_is)
    (case l13 => k_is)
    (case c13 => k_is)
    (case k13 => k_is)
    (case a14 => k_is)
    (case l14 => k_is)
    (case c14 => k_is)
    (case k14 => k_is)
    (case z_abs => k_is)
    (case z_enumerate => k_is)
    (case z_int => k_is)
    (case z_len => k_is)
    (case z_list => k_is)
    (case z_max => k_is)
    (case z_min => k_is)
    (case z_range => k_is)
    (case z_repr => k_is)
    (case z_sorted => k_is)
    (case z_sum => k_is)
    (case z_tuple => k_is)
    (case t_greatest_lot => k_is)
    (case h_greatest_lot => exact rfl)
    (case u_greatest_lot => kernel_rfl)
