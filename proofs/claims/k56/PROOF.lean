import PyProof.Rows.All
import Wide.All
import OpenK.AllK
import Wide.FinOn
import PySem.Challenge.RW_stacksamples_k56_texts_of_samples
import HandS.ForMost
import HandS.TupAny
import HandS.TupMul
import HandS.IsInst
import HandS.StrMore
import HandS.Conv
import HandS.Wide
import HandS.Evl
import PyProof.EqLayable
import PyProof.ReprReads
import HandS.ExcCtx
import HandS.ExcOwn
import HandS.HotCalls
import HandS.ExcField
import KE.KExcIs
import HandS.ExcInit
import HandS.RaiseFrom
import HandS.EndBits
import HandS.Words
set_option Elab.async false
set_option linter.all false
set_option maxRecDepth 100000
set_option maxHeartbeats 2000000
/-! DlA: plain data over the abstract heap: what stands for what, the slots, the state's relation. -/
namespace Dl
open PySem PySem.Spec PyProof.Rows L2
open Evl (Ex)


inductive D where
  | non
  | bl (b : Bool)
  | int (i : Int)
  | str (s : Str)
  | lst (xs : List D)
  | tup (xs : List D)
  | dic (ks : List Key) (xs : List D)
  | scr (ns : List Int)

/-- the written part, the classes by number, the exception that is handled -/
structure KH where
  K : PySem.W.Frag
  T : Nat → Value
  ho : Option (Addr × Obj)
def hoOf (X : Cx) : Option (Addr × Obj) := if X.calm = true then none else X.pn.head?
def kh (X : Cx) (T : Nat → Value) : KH := ⟨X.K, T, hoOf X⟩
mutual
inductive Rep (K : KH) (F : Hp) : V → D → Prop
  | non : Rep K F .non .non
  | bl (b : Bool) : Rep K F (.bl b) (.bl b)
  | int (i : Int) : Rep K F (.int i) (.int i)
  | str (s : Str) : Rep K F (.str s) (.str s)
  | lst {a : Addr} {xs : List V} {ds : List D} : F a = some (.lst xs) → Reps K F xs ds → Rep K F (.ref a) (.lst ds)
  | tup {a : Addr} {xs : List V} {ds : List D} : SqT K.K F a xs → Reps K F xs ds → Rep K F (.ref a) (.tup ds)
  | dic {a : Addr} {kvs : List (Key × V)} {ks : List Key} {ds : List D} : F a = some (.dK kvs) → kvs.map (·.1) = ks → Reps K F (kvs.map (·.2)) ds → Rep K F (.ref a) (.dic ks ds)
  | scr {a : Addr} {ns : List Int} : SqL K.K F a (ns.map V.int) → Rep K F (.ref a) (.scr ns)
inductive Reps (K : KH) (F : Hp) : List V → List D → Prop
  | nil : Reps K F [] []
  | cons {v : V} {vs : List V} {d : D} {ds : List D} : Rep K F v d → Reps K F vs ds → Reps K F (v :: vs) (d :: ds)
end

section
variable {K : KH} {F F' H : Hp}
mutual
theorem Rep.mono (e : Ex F F') : ∀ {v : V} {d : D}, Rep K F v d → Rep K F' v d
  | _, _, .non => .non
  | _, _, .bl b => .bl b
  | _, _, .int i => .int i
  | _, _, .str s => .str s
  | _, _, .lst h r => .lst (e _ _ h) (Reps.mono e r)
  | _, _, .tup h r => .tup (Evl.ex_t e h) (Reps.mono e r)
  | _, _, .dic h hk r => .dic (e _ _ h) hk (Reps.mono e r)
  | _, _, .scr h => .scr (Evl.ex_l e h)
theorem Reps.mono (e : Ex F F') : ∀ {vs : List V} {ds : List D}, Reps K F vs ds → Reps K F' vs ds
  | _, _, .nil => .nil
  | _, _, .cons h r => .cons (Rep.mono e h) (Reps.mono e r)
end
theorem Reps.length : ∀ {vs : List V} {ds : List D}, Reps K F vs ds → vs.length = ds.length
  | _, _, .nil => rfl
  | _, _, .cons _ r => congrArg (· + 1) (Reps.length r)
theorem Reps.get : ∀ {vs : List V} {ds : List D} {i : Nat} {v : V}, Reps K F vs ds → vs[i]? = some v → ∃ d, ds[i]? = some d ∧ Rep K F v d
  | _, _, _, _, .nil, e => by simp at e
  | _, _, 0, _, .cons h _, e => by simp at e; subst e; exact ⟨_, rfl, h⟩
  | _, _, i + 1, v, .cons _ r, e => by
    obtain ⟨d, h1, h2⟩ := Reps.get (i := i) (v := v) r (by simpa using e)
    exact ⟨d, by simpa using h1, h2⟩
theorem Reps.getD : ∀ {vs : List V} {ds : List D} {i : Nat} {d : D}, Reps K F vs ds → ds[i]? = some d → ∃ v, vs[i]? = some v ∧ Rep K F v d
  | _, _, _, _, .nil, e => by simp at e
  | _, _, 0, _, .cons h _, e => by simp at e; subst e; exact ⟨_, rfl, h⟩
  | _, _, i + 1, v, .cons _ r, e => by
    obtain ⟨d, h1, h2⟩ := Reps.getD (i := i) (d := v) r (by simpa using e)
    exact ⟨d, by simpa using h1, h2⟩
theorem Reps.append : ∀ {vs ws : List V} {ds es : List D}, Reps K F vs ds → Reps K F ws es → Reps K F (vs ++ ws) (ds ++ es)
  | _, _, _, _, .nil, q => q
  | _, _, _, _, .cons h r, q => .cons h (Reps.append r q)
theorem Reps.take : ∀ {vs : List V} {ds : List D} (n : Nat), Reps K F vs ds → Reps K F (vs.take n) (ds.take n)
  | _, _, 0, _ => by simp; exact .nil
  | _, _, n + 1, .nil => .nil
  | _, _, n + 1, .cons h r => .cons h (Reps.take n r)
theorem Reps.drop : ∀ {vs : List V} {ds : List D} (n : Nat), Reps K F vs ds → Reps K F (vs.drop n) (ds.drop n)
  | _, _, 0, r => r
  | _, _, n + 1, .nil => .nil
  | _, _, n + 1, .cons _ r => Reps.drop n r
theorem Reps.set {v : V} {d : D} (h : Rep K F v d) : ∀ {vs : List V} {ds : List D} (i : Nat), Reps K F vs ds → Reps K F (vs.set i v) (ds.set i d)
  | _, _, _, .nil => .nil
  | _, _, 0, .cons _ r => .cons h r
  | _, _, i + 1, .cons q r => .cons q (Reps.set h i r)
theorem Reps.rep : ∀ {vs : List V} {ds : List D} (n : Nat), Reps K F vs ds → Reps K F (List.replicate n vs).flatten (List.replicate n ds).flatten
  | _, _, 0, _ => .nil
  | _, _, n + 1, r => by
    rw [List.replicate_succ, List.replicate_succ, List.flatten_cons, List.flatten_cons]
    exact r.append (Reps.rep n r)
theorem Reps.strs : ∀ (ss : List Str), Reps K F (ss.map V.str) (ss.map D.str)
  | [] => .nil
  | s :: ss => .cons (.str s) (Reps.strs ss)
theorem Reps.ofStrs : ∀ {ss : List Str} {vs : List V}, Reps K F vs (ss.map D.str) → vs = ss.map V.str
  | [], _, h => by cases h; rfl
  | s :: ss, _, h => by
    cases h with
    | cons h1 h2 =>
      cases h1
      rw [Reps.ofStrs h2]
      rfl
end

/-! ### the slots of a def's names -/
structure Exn where
  c : Nat
  fs : List (Str × D)
inductive Slot where
  /-- not bound, or not to be read any more -/
  | un
  /-- what never changes -/
  | val (d : D)
  /-- a list that this name alone holds; io: a parameter's, given back at the end -/
  | own (io : Bool) (ds : List D)
  /-- the exception that is handled -/
  | exn (x : Exn)
inductive RV where
  | val (d : D)
  | new (ds : List D)
abbrev Envs := List Slot
/-- an evaluation: none where it is not covered -/
def M (α : Type) := Envs → Option (Except Exn α × Envs)
namespace M
def ret {α : Type} (a : α) : M α := fun env => some (.ok a, env)
def fail {α : Type} : M α := fun _ => none
def thr {α : Type} (x : Exn) : M α := fun env => some (.error x, env)
def bind {α β : Type} (m : M α) (f : α → M β) : M β := fun env =>
  match m env with
  | none => none
  | some (.ok a, env') => f a env'
  | some (.error x, env') => some (.error x, env')
def ofOpt {α : Type} (o : Option α) : M α := match o with
  | some a => ret a
  | none => fail
def get : M Envs := fun env => some (.ok env, env)
def put (env : Envs) : M Unit := fun _ => some (.ok (), env)
end M
def Wp {α : Type} (m : M α) (env : Envs) (q : α → Envs → Prop) (e : Exn → Envs → Prop) : Prop :=
  match m env with
  | none => False
  | some (.ok a, env') => q a env'
  | some (.error x, env') => e x env'
theorem Wp.ret {α : Type} {a : α} {env : Envs} {q : α → Envs → Prop} {e : Exn → Envs → Prop} : Wp (M.ret a) env q e ↔ q a env := Iff.rfl
theorem Wp.bind {α β : Type} {m : M α} {f : α → M β} {env : Envs} {q : β → Envs → Prop} {e : Exn → Envs → Prop} : Wp (m.bind f) env q e ↔ Wp m env (fun a env' => Wp (f a) env' q e) e := by
  unfold Wp M.bind
  cases h : m env with
  | none => simp
  | some r =>
    obtain ⟨r, env'⟩ := r
    cases r with
    | error x => simp
    | ok a => simp
theorem Wp.mono {α : Type} {m : M α} {env : Envs} {q q' : α → Envs → Prop} {e e' : Exn → Envs → Prop} (h : Wp m env q e) (hq : ∀ a env', q a env' → q' a env') (he : ∀ x env', e x env' → e' x env') : Wp m env q' e' := by
  unfold Wp at h ⊢
  cases hm : m env with
  | none => rw [hm] at h; exact h.elim
  | some r =>
    obtain ⟨r, env'⟩ := r
    rw [hm] at h
    cases r with
    | error x => exact he _ _ h
    | ok a => exact hq _ _ h
theorem Wp.ofOpt {α : Type} {o : Option α} {env : Envs} {q : α → Envs → Prop} {e : Exn → Envs → Prop} : Wp (M.ofOpt o) env q e ↔ ∃ a, o = some a ∧ q a env := by
  cases o with
  | none => exact ⟨fun h => h.elim, fun ⟨_, h, _⟩ => nomatch h⟩
  | some a => exact ⟨fun h => ⟨a, rfl, h⟩, fun ⟨b, h, q⟩ => by cases h; exact q⟩
theorem Wp.getE {env : Envs} {q : Envs → Envs → Prop} {e : Exn → Envs → Prop} : Wp M.get env q e ↔ q env env := Iff.rfl
theorem Wp.put {env env' : Envs} {q : Unit → Envs → Prop} {e : Exn → Envs → Prop} : Wp (M.put env') env q e ↔ q () env' := Iff.rfl
theorem Wp.thr {α : Type} {x : Exn} {env : Envs} {q : α → Envs → Prop} {e : Exn → Envs → Prop} : Wp (M.thr x) env q e ↔ e x env := Iff.rfl
theorem Wp.run {α : Type} {m : M α} {env : Envs} {q : α → Envs → Prop} {e : Exn → Envs → Prop} (h : Wp m env q e) : (∃ a env', m env = some (.ok a, env') ∧ q a env') ∨ ∃ x env', m env = some (.error x, env') ∧ e x env' := by
  unfold Wp at h
  cases hm : m env with
  | none => rw [hm] at h; exact h.elim
  | some r =>
    obtain ⟨r, env'⟩ := r
    rw [hm] at h
    cases r with
    | error x => exact .inr ⟨x, env', rfl, h⟩
    | ok a => exact .inl ⟨a, env', rfl, h⟩

/-! ### the state stands for the slots -/
def SlotOk (K : KH) (B F H : Hp) (pa : Nat → Addr) (i : Nat) (x : Option (Option V)) : Slot → Prop
  | .un => True
  | .val d => ∃ v, x = some (some v) ∧ Rep K F v d
  | .own io ds => ∃ p vs, x = some (some (V.ref p)) ∧ H p = some (.lst vs) ∧ F p = none ∧ B p = none ∧ Reps K F vs ds ∧ (io = true → p = pa i)
  | .exn e => ∃ a oe, K.ho = some (a, oe) ∧ x = some (some (.ref a)) ∧ oe.cls = K.T e.c ∧ ((e.fs = [] ∧ oe.dict = none) ∨ ∃ dd fs, oe.dict = some dd ∧ F dd = some (.xd fs) ∧ fs.map (·.1) = e.fs.map (·.1) ∧ Reps K F (fs.map (·.2)) (e.fs.map (·.2)))
theorem exn_mono {K : KH} {B B' F F' H H' : Hp} {pa pa' : Nat → Addr} {i i' : Nat} {x : Option (Option V)} {e : Exn} (h : SlotOk K B F H pa i x (.exn e)) (ex : Ex F F') : SlotOk K B' F' H' pa' i' x (.exn e) := by
  obtain ⟨a, oe, h1, h2, h3, h4⟩ := h
  refine ⟨a, oe, h1, h2, h3, ?_⟩
  rcases h4 with h4 | ⟨dd, fs, h5, h6, h7, h8⟩
  · exact .inl h4
  · exact .inr ⟨dd, fs, h5, ex _ _ h6, h7, h8.mono ex⟩
def IsOwn (s : Option Slot) : Prop := ∃ io ds, s = some (.own io ds)
/-- B: what must stay as it is and is not data; F: the data, which never changes; pa: where the parameters' own lists stand -/
structure Rel (K : KH) (B F : Hp) (pa : Nat → Addr) (env : Envs) (σ : L2.St) (H : Hp) : Prop where
  len : σ.length = env.length
  fh : Ex F H
  bh : ∀ (a : Addr) (o : HO), B a = some o → H a = some o ∧ F a = none
  sl : ∀ (i : Nat) (s : Slot), env[i]? = some s → SlotOk K B F H pa i σ[i]? s
  sep : ∀ (i j : Nat) (p : Addr), IsOwn env[i]? → IsOwn env[j]? → σ[i]? = some (some (V.ref p)) → σ[j]? = some (some (V.ref p)) → i = j

section
variable {K : KH} {B B' F F' H H' : Hp} {pa : Nat → Addr} {env : Envs} {σ : L2.St} {p : Addr} {o o' : HO} {i : Nat}
theorem ex_both {F H : Hp} {p : Addr} {o : HO} (e : Ex F H) : Ex (upd F p o) (upd H p o) := fun a u h => by
  by_cases ha : a = p
  · subst ha; rw [upd_same] at h ⊢; exact h
  · rw [upd_ne ha] at h ⊢; exact e a u h
theorem f_none (e : Ex F H) (h : H p = none) : F p = none := Evl.fresh_back e h
theorem Rel.b_none (r : Rel K B F pa env σ H) (h : H p = none) : B p = none := by
  cases q : B p with
  | none => rfl
  | some u => rw [(r.bh p u q).1] at h; cases h
/-- a new object of the data -/
theorem Rel.lay (r : Rel K B F pa env σ H) (h : H p = none) : Rel K B (upd F p o) pa env σ (upd H p o) := by
  have e : Ex F (upd F p o) := Ex.new (f_none r.fh h)
  refine ⟨r.len, ex_both r.fh, fun a u q => ?_, fun i s hs => ?_, r.sep⟩
  · obtain ⟨h1, h2⟩ := r.bh a u q
    have ne := ne_of_none h1 h
    rw [upd_ne ne, upd_ne ne]
    exact ⟨h1, h2⟩
  · have q := r.sl i s hs
    cases s with
    | un => trivial
    | val d => obtain ⟨v, h1, h2⟩ := q; exact ⟨v, h1, h2.mono e⟩
    | exn e2 => exact exn_mono q e
    | own io ds =>
      obtain ⟨p0, vs, h1, h2, h3, h4, h5, h6⟩ := q
      have ne := ne_of_none h2 h
      exact ⟨p0, vs, h1, by rw [upd_ne ne]; exact h2, by rw [upd_ne ne]; exact h3, h4, h5.mono e, h6⟩
/-- a new object that is kept aside -/
theorem Rel.fresh (r : Rel K B F pa env σ H) (h : H p = none) : Rel K (upd B p o) F pa env σ (upd H p o) := by
  have hF := f_none r.fh h
  refine ⟨r.len, fun a u q => ?_, fun a u q => ?_, fun i s hs => ?_, r.sep⟩
  · rw [upd_ne (ne_of_none q hF)]
    exact r.fh a u q
  · by_cases ha : a = p
    · subst ha
      rw [upd_same] at q ⊢
      exact ⟨q, hF⟩
    · rw [upd_ne ha] at q ⊢
      exact r.bh a u q
  · have q := r.sl i s hs
    cases s with
    | un => trivial
    | val d => exact q
    | exn e => exact exn_mono q (Ex.refl F)
    | own io ds =>
      obtain ⟨p0, vs, h1, h2, h3, h4, h5, h6⟩ := q
      have ne := ne_of_none h2 h
      exact ⟨p0, vs, h1, by rw [upd_ne ne]; exact h2, h3, by rw [upd_ne ne]; exact h4, h5, h6⟩
/-- less is kept aside -/
theorem Rel.less (r : Rel K B' F pa env σ H) (e : Ex B B') : Rel K B F pa env σ H :=
  ⟨r.len, r.fh, fun a u q => r.bh a u (e a u q), fun i s hs => by
    have q := r.sl i s hs
    cases s with
    | un => trivial
    | val d => exact q
    | exn e => exact exn_mono q (Ex.refl F)
    | own io ds =>
      obtain ⟨p0, vs, h1, h2, h3, h4, h5, h6⟩ := q
      exact ⟨p0, vs, h1, h2, h3, Evl.fresh_back e h4, h5, h6⟩, r.sep⟩
theorem Rel.drop (r : Rel K (upd B p o) F pa env σ H) (h : B p = none) : Rel K B F pa env σ H := r.less (Ex.new h)
/-- what was kept aside becomes data -/
theorem Rel.thaw (r : Rel K (upd B p o) F pa env σ H) (h : B p = none) : Rel K B (upd F p o) pa env σ H := by
  obtain ⟨hH, hF⟩ := r.bh p o upd_same
  have e : Ex F (upd F p o) := Ex.new hF
  refine ⟨r.len, fun a u q => ?_, fun a u q => ?_, fun i s hs => ?_, r.sep⟩
  · by_cases ha : a = p
    · subst ha
      rw [upd_same] at q
      cases q
      exact hH
    · rw [upd_ne ha] at q
      exact r.fh a u q
  · have ne : a ≠ p := ne_of_none q h
    rw [upd_ne ne]
    exact r.bh a u (by rw [upd_ne ne]; exact q)
  · have q := r.sl i s hs
    cases s with
    | un => trivial
    | val d => obtain ⟨v, h1, h2⟩ := q; exact ⟨v, h1, h2.mono e⟩
    | exn e2 => exact exn_mono q e
    | own io ds =>
      obtain ⟨p0, vs, h1, h2, h3, h4, h5, h6⟩ := q
      have ne : p0 ≠ p := fun z => by
        rw [z, upd_same] at h4
        cases h4
      exact ⟨p0, vs, h1, h2, by rw [upd_ne ne]; exact h3, by rw [upd_ne ne] at h4; exact h4, h5.mono e, h6⟩
/-- what is kept aside changes -/
theorem Rel.setB (r : Rel K (upd B p o) F pa env σ H) : Rel K (upd B p o') F pa env σ (upd H p o') := by
  obtain ⟨hH, hF⟩ := r.bh p o upd_same
  refine ⟨r.len, fun a u q => ?_, fun a u q => ?_, fun i s hs => ?_, r.sep⟩
  · rw [upd_ne (ne_of_none q hF)]
    exact r.fh a u q
  · by_cases ha : a = p
    · subst ha
      rw [upd_same] at q ⊢
      exact ⟨q, hF⟩
    · rw [upd_ne ha] at q ⊢
      exact r.bh a u (by rw [upd_ne ha]; exact q)
  · have q := r.sl i s hs
    cases s with
    | un => trivial
    | val d => exact q
    | exn e => exact exn_mono q (Ex.refl F)
    | own io ds =>
      obtain ⟨p0, vs, h1, h2, h3, h4, h5, h6⟩ := q
      have ne : p0 ≠ p := fun z => by
        rw [z, upd_same] at h4
        cases h4
      exact ⟨p0, vs, h1, by rw [upd_ne ne]; exact h2, h3, by rw [upd_ne ne] at h4 ⊢; exact h4, h5, h6⟩
/-- a name is stored: data -/
theorem Rel.setVal {v : V} {d : D} (r : Rel K B F pa env σ H) (h : Rep K F v d) : Rel K B F pa (env.set i (.val d)) (σ.set i (some v)) H := by
  refine ⟨by rw [List.length_set, List.length_set]; exact r.len, r.fh, r.bh, fun j s hs => ?_, fun j k p0 h1 h2 h3 h4 => ?_⟩
  · by_cases hj : i = j
    · subst hj
      have hl : i < env.length := by
        have z := (List.getElem?_eq_some_iff.mp hs).1
        rw [List.length_set] at z
        exact z
      rw [List.getElem?_set_self hl] at hs
      cases hs
      rw [List.getElem?_set_self (by rw [r.len]; exact hl)]
      exact ⟨v, rfl, h⟩
    · rw [List.getElem?_set_ne hj] at hs ⊢
      exact r.sl j s hs
  · have nj : ∀ {j : Nat}, IsOwn (env.set i (.val d))[j]? → i ≠ j := fun {j} ⟨io, ds, e⟩ z => by
      subst z
      have hl : i < env.length := by
        have z := (List.getElem?_eq_some_iff.mp e).1
        rw [List.length_set] at z
        exact z
      rw [List.getElem?_set_self hl] at e
      cases e
    have n1 := nj h1
    have n2 := nj h2
    rw [List.getElem?_set_ne n1] at h1 h3
    rw [List.getElem?_set_ne n2] at h2 h4
    exact r.sep j k p0 h1 h2 h3 h4
theorem Rel.setUn {v : V} (r : Rel K B F pa env σ H) : Rel K B F pa (env.set i .un) (σ.set i (some v)) H := by
  refine ⟨by rw [List.length_set, List.length_set]; exact r.len, r.fh, r.bh, fun j s hs => ?_, fun j k p0 h1 h2 h3 h4 => ?_⟩
  · by_cases hj : i = j
    · subst hj
      have hl : i < env.length := by
        have z := (List.getElem?_eq_some_iff.mp hs).1
        rw [List.length_set] at z
        exact z
      rw [List.getElem?_set_self hl] at hs
      cases hs
      trivial
    · rw [List.getElem?_set_ne hj] at hs ⊢
      exact r.sl j s hs
  · have nj : ∀ {j : Nat}, IsOwn (env.set i .un)[j]? → i ≠ j := fun {j} ⟨io, ds, e⟩ z => by
      subst z
      have hl : i < env.length := by
        have z := (List.getElem?_eq_some_iff.mp e).1
        rw [List.length_set] at z
        exact z
      rw [List.getElem?_set_self hl] at e
      cases e
    have n1 := nj h1
    have n2 := nj h2
    rw [List.getElem?_set_ne n1] at h1 h3
    rw [List.getElem?_set_ne n2] at h2 h4
    exact r.sep j k p0 h1 h2 h3 h4
/-- a name is stored: a new list -/
theorem Rel.setOwn {vs : List V} {ds : List D} (r : Rel K (upd B p (.lst vs)) F pa env σ H) (hB : B p = none) (h : Reps K F vs ds) : Rel K B F pa (env.set i (.own false ds)) (σ.set i (some (V.ref p))) H := by
  obtain ⟨hH, hF⟩ := r.bh p _ upd_same
  have own_ne : ∀ {j : Nat} {p0 : Addr}, IsOwn env[j]? → σ[j]? = some (some (V.ref p0)) → p0 ≠ p := fun {j p0} ⟨io, ds, e⟩ e2 z => by
    obtain ⟨p1, vs, h1, h2, h3, h4, h5, h6⟩ := r.sl j _ e
    rw [e2] at h1
    cases h1
    rw [z, upd_same] at h4
    cases h4
  refine ⟨by rw [List.length_set, List.length_set]; exact r.len, r.fh, (r.drop hB).bh, fun j s hs => ?_, fun j k p0 h1 h2 h3 h4 => ?_⟩
  · by_cases hj : i = j
    · subst hj
      have hl : i < env.length := by
        have z := (List.getElem?_eq_some_iff.mp hs).1
        rw [List.length_set] at z
        exact z
      rw [List.getElem?_set_self hl] at hs
      cases hs
      rw [List.getElem?_set_self (by rw [r.len]; exact hl)]
      exact ⟨p, vs, rfl, hH, hF, hB, h, fun z => nomatch z⟩
    · rw [List.getElem?_set_ne hj] at hs ⊢
      exact (r.drop hB).sl j s hs
  · by_cases hj : i = j
    · by_cases hk : i = k
      · exact hj.symm.trans hk
      · subst hj
        rw [List.getElem?_set_ne hk] at h2 h4
        have hl : i < σ.length := by
          have z := (List.getElem?_eq_some_iff.mp h3).1
          rw [List.length_set] at z
          exact z
        rw [List.getElem?_set_self hl] at h3
        cases h3
        exact absurd rfl (own_ne h2 h4)
    · rw [List.getElem?_set_ne hj] at h1 h3
      by_cases hk : i = k
      · subst hk
        have hl : i < σ.length := by
          have z := (List.getElem?_eq_some_iff.mp h4).1
          rw [List.length_set] at z
          exact z
        rw [List.getElem?_set_self hl] at h4
        cases h4
        exact absurd rfl (own_ne h1 h3)
      · rw [List.getElem?_set_ne hk] at h2 h4
        exact r.sep j k p0 h1 h2 h3 h4
/-- the list that a name holds alone -/
theorem Rel.owned {io : Bool} {ds : List D} (r : Rel K B F pa env σ H) (h : env[i]? = some (.own io ds)) : ∃ p vs, σ[i]? = some (some (V.ref p)) ∧ H p = some (.lst vs) ∧ F p = none ∧ B p = none ∧ Reps K F vs ds ∧ (io = true → p = pa i) := r.sl i _ h
theorem Rel.val {d : D} (r : Rel K B F pa env σ H) (h : env[i]? = some (.val d)) : ∃ v, σ[i]? = some (some v) ∧ Rep K F v d := r.sl i _ h
theorem own_only (r : Rel K B F pa env σ H) {io : Bool} {ds : List D} (h : env[i]? = some (.own io ds)) (hp : σ[i]? = some (some (V.ref p))) {j : Nat} {p0 : Addr} (hj : IsOwn env[j]?) (hq : σ[j]? = some (some (V.ref p0))) (n : i ≠ j) : p0 ≠ p := fun z => by
  subst z
  exact n (r.sep i j p0 ⟨io, ds, h⟩ hj hp hq)
/-- it becomes data -/
theorem Rel.freeze {ds : List D} {vs : List V} (r : Rel K B F pa env σ H) {io : Bool} (h : env[i]? = some (.own io ds)) (hp : σ[i]? = some (some (V.ref p))) (hH : H p = some (.lst vs)) (hF : F p = none) (hB : B p = none) (hr : Reps K F vs ds) :
    Rel K B (upd F p (.lst vs)) pa (env.set i (.val (.lst ds))) σ H := by
  have e : Ex F (upd F p (.lst vs)) := Ex.new hF
  have hl : i < env.length := (List.getElem?_eq_some_iff.mp h).1
  have isO : ∀ {j : Nat}, IsOwn (env.set i (.val (.lst ds)))[j]? → i ≠ j ∧ IsOwn env[j]? := fun {j} ⟨io', ds', q⟩ => by
    by_cases hj : i = j
    · subst hj
      rw [List.getElem?_set_self hl] at q
      cases q
    · rw [List.getElem?_set_ne hj] at q
      exact ⟨hj, io', ds', q⟩
  refine ⟨by rw [List.length_set]; exact r.len, fun a u q => ?_, fun a u q => ?_, fun j s hs => ?_, fun j k p0 h1 h2 h3 h4 => r.sep j k p0 (isO h1).2 (isO h2).2 h3 h4⟩
  · by_cases ha : a = p
    · subst ha
      rw [upd_same] at q
      cases q
      exact hH
    · rw [upd_ne ha] at q
      exact r.fh a u q
  · have ne : a ≠ p := ne_of_none q hB
    rw [upd_ne ne]
    exact r.bh a u q
  · by_cases hj : i = j
    · subst hj
      rw [List.getElem?_set_self hl] at hs
      cases hs
      exact ⟨_, hp, .lst upd_same (hr.mono e)⟩
    · rw [List.getElem?_set_ne hj] at hs
      have q := r.sl j s hs
      cases s with
      | un => trivial
      | val d => obtain ⟨v, h1, h2⟩ := q; exact ⟨v, h1, h2.mono e⟩
      | exn e2 => exact exn_mono q e
      | own io' ds' =>
        obtain ⟨p0, vs', h1, h2, h3, h4, h5, h6⟩ := q
        have ne : p0 ≠ p := own_only r h hp ⟨io', ds', hs⟩ h1 hj
        exact ⟨p0, vs', h1, h2, by rw [upd_ne ne]; exact h3, h4, h5.mono e, h6⟩
/-- it changes -/
theorem Rel.change {ds ds' : List D} {vs vs' : List V} (r : Rel K B F pa env σ H) {io : Bool} (h : env[i]? = some (.own io ds)) (hp : σ[i]? = some (some (V.ref p))) (hH : H p = some (.lst vs)) (hF : F p = none) (hB : B p = none) (hr : Reps K F vs' ds') (hio : io = true → p = pa i) :
    Rel K B F pa (env.set i (.own io ds')) σ (upd H p (.lst vs')) := by
  have hl : i < env.length := (List.getElem?_eq_some_iff.mp h).1
  have isO : ∀ {j : Nat}, IsOwn (env.set i (.own io ds'))[j]? → IsOwn env[j]? := fun {j} ⟨io', ds', q⟩ => by
    by_cases hj : i = j
    · subst hj
      exact ⟨io, ds, h⟩
    · rw [List.getElem?_set_ne hj] at q
      exact ⟨io', ds', q⟩
  refine ⟨by rw [List.length_set]; exact r.len, fun a u q => ?_, fun a u q => ?_, fun j s hs => ?_, fun j k p0 h1 h2 h3 h4 => r.sep j k p0 (isO h1) (isO h2) h3 h4⟩
  · rw [upd_ne (ne_of_none q hF)]
    exact r.fh a u q
  · rw [upd_ne (ne_of_none q hB)]
    exact r.bh a u q
  · by_cases hj : i = j
    · subst hj
      rw [List.getElem?_set_self hl] at hs
      cases hs
      exact ⟨p, vs', hp, upd_same, hF, hB, hr, hio⟩
    · rw [List.getElem?_set_ne hj] at hs
      have q := r.sl j s hs
      cases s with
      | un => trivial
      | val d => exact q
      | exn e => exact exn_mono q (Ex.refl F)
      | own io' ds' =>
        obtain ⟨p0, vs', h1, h2, h3, h4, h5, h6⟩ := q
        have ne : p0 ≠ p := own_only r h hp ⟨io', ds', hs⟩ h1 hj
        exact ⟨p0, vs', h1, by rw [upd_ne ne]; exact h2, h3, h4, h5, h6⟩
end

/-! ### results -/
def RvOk (K : KH) (B F : Hp) (pa : Nat → Addr) (env : Envs) (σ : L2.St) (H : Hp) : RV → V → Prop
  | .val d, v => Rel K B F pa env σ H ∧ Rep K F v d
  | .new ds, v => ∃ p vs, v = .ref p ∧ B p = none ∧ Rel K (upd B p (.lst vs)) F pa env σ H ∧ Reps K F vs ds
/-- an exception: T: the classes -/
def ExOk (K : KH) (B F : Hp) (pa : Nat → Addr) (env : Envs) (σ : L2.St) (H : Hp) (x : Exn) (cls : Value) (d : Option Addr) : Prop :=
  cls = K.T x.c ∧ ((x.fs = [] ∧ d = none ∧ Rel K B F pa env σ H) ∨
    ∃ dd fs, d = some dd ∧ B dd = none ∧ Rel K (upd B dd (.xd fs)) F pa env σ H ∧ fs.map (·.1) = x.fs.map (·.1) ∧ Reps K F (fs.map (·.2)) (x.fs.map (·.2)))
def RV.d : RV → D
  | .val d => d
  | .new ds => .lst ds
theorem RvOk.data {K : KH} {B F : Hp} {pa : Nat → Addr} {env : Envs} {σ : L2.St} {H : Hp} {r : RV} {v : V} (h : RvOk K B F pa env σ H r v) : ∃ F', Ex F F' ∧ Rel K B F' pa env σ H ∧ Rep K F' v r.d := by
  cases r with
  | val d => exact ⟨F, Ex.refl F, h⟩
  | new ds =>
    obtain ⟨p, vs, rfl, hB, r, q⟩ := h
    have e := Ex.new (o := .lst vs) (r.bh p _ upd_same).2
    exact ⟨_, e, r.thaw hB, .lst upd_same (q.mono e)⟩
end Dl

set_option maxHeartbeats 2000000
/-! DlB: a small language of expressions and statements over plain data, and what it computes. -/
namespace Dl
open PySem PySem.Spec PyProof.Rows L2
open Evl (Ex)

/-! ### operations on data -/
mutual
def D.py : D → PyData
  | .non => .none
  | .bl b => .bool b
  | .int i => .int i
  | .str s => .str s
  | .lst xs => .list (D.pys xs)
  | .tup xs => .tuple (D.pys xs)
  | .dic _ _ => .none
  | .scr ns => .list (ns.map PyData.int)
def D.pys : List D → List PyData
  | [] => []
  | d :: ds => D.py d :: D.pys ds
end
mutual
/-- no dict within -/
def D.nod : D → Bool
  | .dic _ _ => false
  | .lst xs => D.nods xs
  | .tup xs => D.nods xs
  | _ => true
def D.nods : List D → Bool
  | [] => true
  | d :: ds => D.nod d && D.nods ds
end
def D.okd (d : D) : Bool := d.nod && SeqAt.shaped d.py
def LIM : Nat := 16000000

inductive Op2 where
  | add | sub | mul | fdiv | mod | pow | eq | ne | lt | le | gt | ge | isin | notin | idx

def eqD : D → D → Option Bool
  | .str a, .str b => some (decide (a = b))
  | .int a, .int b => some (decide (a = b))
  | .bl a, .bl b => some (decide (a = b))
  | .non, .non => some true
  | .non, .int _ => some false
  | .non, .bl _ => some false
  | .non, .str _ => some false
  | .int _, .non => some false
  | .bl _, .non => some false
  | .str _, .non => some false
  | .int _, .str _ => some false
  | .str _, .int _ => some false
  | .bl _, .str _ => some false
  | .str _, .bl _ => some false
  | x, y => if x.okd && y.okd then some (PyData.eqv x.py y.py) else none
/-- the items of a text: its signs -/
def signs (s : Str) : List D := s.cps.toList.map fun c => D.str ⟨#[c]⟩
def flatD : D → Bool
  | .non => true
  | .bl _ => true
  | .int _ => true
  | .str _ => true
  | _ => false
def flV : D → V
  | .non => .non
  | .bl b => .bl b
  | .int i => .int i
  | .str s => .str s
  | _ => .non
def wide (i : Int) : Bool := decide (i.natAbs < 2 ^ 2000)
def repS (x : Str) (n : Nat) : Str := ⟨((List.replicate n x.cps.toList).flatten).toArray⟩
def opAdd : D → D → Option RV
  | .int a, .int b => some (.val (.int (a + b)))
  | .str a, .str b => if a.length + b.length ≤ LIM then some (.val (.str (a ++ b))) else none
  | .lst a, .lst b => if a.length + b.length ≤ LIM then some (.new (a ++ b)) else none
  | .tup a, .tup b => if a.length + b.length ≤ LIM then some (.val (.tup (a ++ b))) else none
  | _, _ => none
def opMul : D → D → Option RV
  | .int a, .int b => if wide a && wide b then some (.val (.int (a * b))) else none
  | .str a, .int n => if 0 ≤ n ∧ n ≤ 1000 ∧ a.length ≤ 1000 then some (.val (.str (repS a n.toNat))) else none
  | .lst a, .int n => if 0 ≤ n ∧ n ≤ 1000 ∧ a.length ≤ 1000 then some (.new (List.replicate n.toNat a).flatten) else none
  | .tup a, .int n => if 2 ≤ n ∧ n ≤ 1000 ∧ a.length ≤ 1000 ∧ a.length ≠ 0 then some (.val (.tup (List.replicate n.toNat a).flatten)) else none
  | _, _ => none
def opIdx : D → D → Option RV
  | .lst a, .int i => (atI a i).map .val
  | .tup a, .int i => (atI a i).map .val
  | .scr a, .int i => (atI a i).map fun n => .val (.int n)
  | .str s, .int i => if s.length ≤ LIM then (atI s.cps.toList i).map fun c => .val (.str ⟨#[c]⟩) else none
  | _, _ => none
/-- a sign in a text -/
def opIn (neg : Bool) : D → D → Option RV
  | .str a, .str z => match a.cps.toList with
    | [c] => some (.val (.bl (if neg then !decide (c ∈ z.cps.toList) else decide (c ∈ z.cps.toList))))
    | _ => none
  | _, _ => none
def opI (f : Int → Int → Option RV) : D → D → Option RV
  | .int a, .int b => f a b
  | _, _ => none
def op2 : Op2 → D → D → Option RV
  | .add => opAdd
  | .sub => opI fun a b => some (.val (.int (a - b)))
  | .mul => opMul
  | .fdiv => opI fun a b => if decide (0 < b) && wide b then some (.val (.int (a / b))) else none
  | .mod => opI fun a b => if decide (0 < b) then some (.val (.int (a % b))) else none
  | .pow => opI fun a b => if wide a && (decide (0 ≤ b) && decide (b ≤ 1000)) then some (.val (.int (a ^ b.toNat))) else none
  | .eq => fun x y => (eqD x y).map fun b => .val (.bl b)
  | .ne => fun x y => (eqD x y).map fun b => .val (.bl (!b))
  | .lt => opI fun a b => some (.val (.bl (decide (a < b))))
  | .le => opI fun a b => some (.val (.bl (decide (a ≤ b))))
  | .gt => opI fun a b => some (.val (.bl (decide (b < a))))
  | .ge => opI fun a b => some (.val (.bl (decide (b ≤ a))))
  | .isin => opIn false
  | .notin => opIn true
  | .idx => opIdx
inductive Ty where
  | tInt | tStr | tBool | tList | tTuple | tDict
def Ty.name : Ty → String
  | .tInt => "int"
  | .tStr => "str"
  | .tBool => "bool"
  | .tList => "list"
  | .tTuple => "tuple"
  | .tDict => "dict"
def tyIs : D → Ty → Bool
  | .int _, .tInt => true
  | .bl _, .tInt => true
  | .bl _, .tBool => true
  | .str _, .tStr => true
  | .lst _, .tList => true
  | .scr _, .tList => true
  | .tup _, .tTuple => true
  | .dic _ _, .tDict => true
  | _, _ => false
inductive Bi where
  | len | max2 | min2 | tuple | list | repr | all | any | toInt
def boolsOf : List D → Option (List Bool)
  | [] => some []
  | .bl b :: r => (boolsOf r).map (b :: ·)
  | _ :: _ => none
def strsOf : List D → Option (List Str)
  | [] => some []
  | .str s :: r => (strsOf r).map (s :: ·)
  | _ :: _ => none
def biLen : List D → Option RV
  | [.lst a] => some (.val (.int a.length))
  | [.tup a] => some (.val (.int a.length))
  | [.scr a] => some (.val (.int a.length))
  | [.str s] => if s.length ≤ LIM then some (.val (.int s.length)) else none
  | _ => none
def biII (f : Int → Int → Int) : List D → Option RV
  | [.int i, .int j] => some (.val (.int (f i j)))
  | _ => none
def biTuple : List D → Option RV
  | [.lst a] => some (.val (.tup a))
  | [.tup a] => some (.val (.tup a))
  | _ => none
def biList : List D → Option RV
  | [.lst a] => some (.new a)
  | [.tup a] => some (.new a)
  | _ => none
def biRepr : List D → Option RV
  | [d] => if d.nod && d.py.showable && decide (d.py.depth ≤ 60) && decide (d.py.shown.length ≤ LIM) then some (.val (.str d.py.shown)) else none
  | _ => none
def biBools (f : List Bool → Bool) : List D → Option RV
  | [.lst a] => (boolsOf a).map fun bs => .val (.bl (f bs))
  | _ => none
def biInt : List D → Option RV
  | [.int i] => some (.val (.int i))
  | [.bl b] => some (.val (.int (if b then 1 else 0)))
  | _ => none
def bi : Bi → List D → Option RV
  | .len => biLen
  | .max2 => biII fun i j => if j > i then j else i
  | .min2 => biII fun i j => if j < i then j else i
  | .tuple => biTuple
  | .list => biList
  | .repr => biRepr
  | .all => biBools fun bs => bs.all id
  | .any => biBools fun bs => bs.any id
  | .toInt => biInt
inductive Me where
  | join | split | strip
def joinO (a : Str) (xs : List D) : Option RV := (strsOf xs).bind fun ys => if (ys.map (·.length)).sum + ys.length * a.length ≤ LIM then some (.val (.str (Txt.join a ys))) else none
def meJoin : D → List D → Option RV
  | .str a, [.lst xs] => joinO a xs
  | .str a, [.tup xs] => joinO a xs
  | _, _ => none
def meSplit : D → List D → Option RV
  | .str a, [.str b] => if (b.length == 0) = false ∧ a.length + 2 ≤ LIM then some (.new ((Txt.split a b).map D.str)) else none
  | _, _ => none
def meStrip : D → List D → Option RV
  | .str a, [.str b] => if a.length ≤ LIM then some (.val (.str (Txt.stripChars a b))) else none
  | _, _ => none
def meth : Me → D → List D → Option RV
  | .join => meJoin
  | .split => meSplit
  | .strip => meStrip
def cutD (xs : List D) (lo hi : Option Int) : List D := (xs.drop (HT.sIx xs.length 0 lo)).take (HT.sIx xs.length xs.length hi - HT.sIx xs.length 0 lo)
def cutO : D → Option Int → Option Int → Option RV
  | .lst a, lo, hi => some (.new (cutD a lo hi))
  | .tup a, lo, hi => some (.val (.tup (cutD a lo hi)))
  | .str s, lo, hi => if s.length ≤ LIM then some (.val (.str (cutS s lo hi))) else none
  | _, _, _ => none
def truth : D → Option Bool
  | .bl b => some b
  | .non => some false
  | .lst a => some (!a.isEmpty)
  | .tup a => some (!a.isEmpty)
  | .dic ks _ => some (!ks.isEmpty)
  | .int i => some (i != 0)
  | .str s => if s.length ≤ LIM then some ((s.length : Int) != 0) else none
  | .scr ns => some (!ns.isEmpty)

/-! ### the language -/
inductive ItK where
  | seq | range1 | range2 | enum | only
inductive ITg where
  | nm (i : Nat)
  | tp (is : List Nat)
mutual
inductive IX where
  | var (i : Nat)
  | con (d : D)
  | neg (a : IX)
  | op (o : Op2) (a b : IX)
  | chain (o1 o2 : Op2) (a b c : IX)
  | and (a b : IX)
  | or (a b : IX)
  | not (a : IX)
  | ite (c : IT) (a b : IX)
  | bi (f : Bi) (as : List IX)
  | meth (m : Me) (o : IX) (as : List IX)
  | call (f : Str) (as : List IX)
  | hcall (f : Str) (as : List IX)
  | efld (i : Nat) (f : Str)
  | eisi (i : Nat) (cs : List Nat)
  | isi (a : IX) (t : Ty)
  | slice (a : IX) (lo hi : Option IX)
  | lst (as : List IX)
  | tup (as : List IX)
  | dic (ks : List Key) (as : List IX)
  | comp (tg : ITg) (k : ItK) (its : List IX) (c : Option IT) (e : IX) (vs : List Nat)
inductive IT where
  | tru (a : IX)
  | and (a b : IT)
  | or (a b : IT)
  | not (a : IT)
end
inductive Opd where
  | val (d : D)
  | slot (i : Nat)
def slotM (i : Nat) : M Opd := fun env => match env[i]? with
  | some (.val _) => some (.ok (.slot i), env)
  | some (.own _ _) => some (.ok (.slot i), env)
  | some (.exn _) => some (.ok (.slot i), env)
  | _ => none
def opd : IX → M RV → M Opd
  | .var i, _ => slotM i
  | _, m => m.bind fun r => M.ret (.val r.d)
def res (env : Envs) : Opd → Option D
  | .val d => some d
  | .slot i => match env[i]? with
    | some (.val d) => some d
    | some (.own _ ds) => some (.lst ds)
    | _ => none
def resM (o : Opd) : M D := fun env => match res env o with
  | some d => some (.ok d, env)
  | none => none
def resAll (env : Envs) : List Opd → Option (List D)
  | [] => some []
  | o :: os => (res env o).bind fun d => (resAll env os).map (d :: ·)
def resAllM (os : List Opd) : M (List D) := fun env => match resAll env os with
  | some d => some (.ok d, env)
  | none => none
/-- a name as a value: its list, if it holds one alone, becomes data -/
def rdVar (i : Nat) : M RV := fun env => match env[i]? with
  | some (.val d) => some (.ok (.val d), env)
  | some (.own false ds) => some (.ok (.val (.lst ds)), env.set i (.val (.lst ds)))
  | _ => none
def dataM (m : M RV) : M D := m.bind fun r => M.ret r.d
def isOwnB : Option Slot → Bool
  | some (.own _ _) => true
  | _ => false
/-! calls -/
/-- a slot as an argument: its list, if it holds one alone, becomes data -/
def asArg : Slot → Option Slot
  | .val d => some (.val d)
  | .own io ds => if io = true then none else some (.val (.lst ds))
  | .exn x => some (.exn x)
  | .un => none
def lent : Slot → Option (Bool × List D)
  | .own io ds => some (io, ds)
  | _ => none
def bindA : List Bool → List Opd → Envs → Option (List Slot × List (Option (Nat × Bool)) × Envs)
  | [], [], env => some ([], [], env)
  | false :: ms, .val d :: os, env => (bindA ms os env).map fun r => (.val d :: r.1, none :: r.2.1, r.2.2)
  | false :: ms, .slot i :: os, env => (env[i]?.bind asArg).bind fun a => (bindA ms os (env.set i a)).map fun r => (a :: r.1, none :: r.2.1, r.2.2)
  | true :: ms, .slot i :: os, env => (env[i]?.bind lent).bind fun l => (bindA ms os (env.set i .un)).map fun r => (.own true l.2 :: r.1, some (i, l.1) :: r.2.1, r.2.2)
  | _, _, _ => none
def back : List (Option (Nat × Bool)) → List Slot → Envs → Envs
  | some (i, io) :: org, .own true ds :: outs, env => back org outs (env.set i (.own io ds))
  | _ :: org, _ :: outs, env => back org outs env
  | _, _, env => env
structure FnI where
  modes : List Bool
  sem : M RV
/-- the text's defs; those that are called where an exception is handled; which class is one of which -/
structure Gx where
  fn : Str → Option FnI
  hot : Str → Option FnI
  sub : Nat → Nat → Option Bool
  fld : Nat → Str → Bool
def subAny (f : Nat → Option Bool) : List Nat → Option Bool
  | [] => some false
  | c :: cs => match f c with
    | some true => some true
    | some false => subAny f cs
    | none => none
def noExn (env : Envs) : Envs := env.map fun s => match s with
  | .exn _ => .un
  | s => s
def exnAt (env : Envs) (i : Nat) : Option Exn := match env[i]? with
  | some (.exn x) => some x
  | _ => none
def efldM (G : Gx) (i : Nat) (f : Str) : M RV := fun env => (exnAt env i).bind fun x => if G.fld x.c f = true then (x.fs.lookup f).map fun d => (.ok (.val d), env) else none
def eisiM (G : Gx) (i : Nat) (cs : List Nat) : M RV := fun env => (exnAt env i).bind fun x => (subAny (G.sub x.c) cs).map fun b => (.ok (.val (.bl b)), env)
def callM (f : FnI) (os : List Opd) : M RV := fun env =>
  match bindA f.modes os env with
  | none => none
  | some (as, org, env2) => match f.sem as with
    | none => none
    | some (r, outs) => some (r, back org outs env2)
/-! comprehensions, loops -/
def wipeE (env : Envs) : List Nat → Envs
  | [] => env
  | v :: vs => (wipeE env vs).set v .un
def restore (env1 env2 : Envs) : List Nat → Envs
  | [] => env2
  | v :: vs => (restore env1 env2 vs).set v (env1[v]?.getD .un)
def setAll : List Nat → List D → Envs → Option Envs
  | [], [], env => some env
  | j :: js, d :: ds, env => setAll js ds (env.set j (.val d))
  | _, _, _ => none
def setTg : ITg → D → M Unit
  | .nm j, d => fun env => some (.ok (), env.set j (.val d))
  | .tp js, .tup ds => fun env => (setAll js ds env).map fun env' => (.ok (), env')
  | _, _ => M.fail
def enumD : Nat → List D → List D
  | _, [] => []
  | n, d :: ds => .tup [.int (n : Int), d] :: enumD (n + 1) ds
def rangeD (lo hi : Int) : List D := (List.range (hi - lo).toNat).map fun (i : Nat) => D.int (lo + (i : Int))
def items : ItK → List D → Option (List D)
  | .seq, [.lst a] => some a
  | .seq, [.tup a] => some a
  | .seq, [.scr a] => some (a.map D.int)
  | .seq, [.str s] => some (signs s)
  | .range1, [.int n] => if n < 1000000 ∧ -1000000 < n then some (rangeD 0 n) else none
  | .range2, [.int a, .int b] => if -1000000 < a ∧ a < 1000000 ∧ -1000000 < b ∧ b < 1000000 then some (rangeD a b) else none
  | .enum, [.lst a] => some (enumD 0 a)
  | .only, [.lst a] => some a
  | _, _ => none
/-- the turns of a comprehension; an exception within is not covered -/
def turns (vs : List Nat) (f : D → M (Option D)) : List D → Envs → Option (List D × Envs)
  | [], env => some ([], env)
  | d :: ds, env => match f d env with
    | some (.ok o, env1) => match turns vs f ds (wipeE env1 vs) with
      | some (r, env2) => some ((match o with
        | some x => x :: r
        | none => r), env2)
      | none => none
    | _ => none
def compM (vs : List Nat) (f : D → M (Option D)) (its : List D) : M RV := fun env =>
  if vs.any (fun v => isOwnB env[v]?) || decide (its.length > 1000000) then none
  else match turns vs f its (wipeE env vs) with
    | some (r, env2) => some (.ok (.new r), restore env env2 vs)
    | none => none
mutual
def ev (G : Gx) : IX → M RV
  | .var i => rdVar i
  | .con d => M.ret (.val d)
  | .neg a => (opd a (ev G a)).bind fun oa => (resM oa).bind fun x => match x with
    | .int i => M.ret (.val (.int (-i)))
    | _ => M.fail
  | .op o a b => (opd a (ev G a)).bind fun oa => (opd b (ev G b)).bind fun ob => (resM oa).bind fun x => (resM ob).bind fun y => M.ofOpt (op2 o x y)
  | .chain o1 o2 a b c => (dataM (ev G a)).bind fun x => (dataM (ev G b)).bind fun y => (M.ofOpt (op2 o1 x y)).bind fun r => match r with
    | .val (.bl true) => (dataM (ev G c)).bind fun z => M.ofOpt (op2 o2 y z)
    | .val (.bl false) => M.ret (.val (.bl false))
    | _ => M.fail
  | .and a b => (ev G a).bind fun r => match r with
    | .val (.bl true) => ev G b
    | .val (.bl false) => M.ret (.val (.bl false))
    | _ => M.fail
  | .or a b => (ev G a).bind fun r => match r with
    | .val (.bl true) => M.ret (.val (.bl true))
    | .val (.bl false) => ev G b
    | _ => M.fail
  | .not a => (ev G a).bind fun r => match r with
    | .val (.bl k) => M.ret (.val (.bl (!k)))
    | _ => M.fail
  | .ite c a b => (evT G c).bind fun k => if k then ev G a else ev G b
  | .bi f as => (evA G as).bind fun os => (resAllM os).bind fun ds => M.ofOpt (bi f ds)
  | .meth m o as => (dataM (ev G o)).bind fun d => match d with
    | .str t => (evA G as).bind fun os => (resAllM os).bind fun ds => M.ofOpt (meth m (.str t) ds)
    | _ => M.fail
  | .call f as => (evA G as).bind fun os => match G.fn f with
    | some i => callM i os
    | none => M.fail
  | .hcall f as => (evA G as).bind fun os => match G.hot f with
    | some i => callM i os
    | none => M.fail
  | .efld i f => efldM G i f
  | .eisi i cs => eisiM G i cs
  | .isi a t => (opd a (ev G a)).bind fun oa => (resM oa).bind fun x => M.ret (.val (.bl (tyIs x t)))
  | .slice a lo hi => (opd a (ev G a)).bind fun oa => (evP G lo).bind fun l => (evP G hi).bind fun u => (resM oa).bind fun x => M.ofOpt (cutO x l u)
  | .lst as => (evD G as).bind fun ds => M.ret (.new ds)
  | .tup as => (evD G as).bind fun ds => M.ret (.val (.tup ds))
  | .dic ks as => (evD G as).bind fun ds => M.ret (.val (.dic ks ds))
  | .comp tg k its c e vs => (evD G its).bind fun ds => (M.ofOpt (items k ds)).bind fun l =>
      compM vs (fun d => (setTg tg d).bind fun _ => (evC G c).bind fun k => if k then (dataM (ev G e)).bind fun x => M.ret (some x) else M.ret none) l
def evT (G : Gx) : IT → M Bool
  | .tru a => (opd a (ev G a)).bind fun oa => (resM oa).bind fun x => M.ofOpt (truth x)
  | .and a b => (evT G a).bind fun k => if k then evT G b else M.ret false
  | .or a b => (evT G a).bind fun k => if k then M.ret true else evT G b
  | .not a => (evT G a).bind fun k => M.ret (!k)
def evC (G : Gx) : Option IT → M Bool
  | none => M.ret true
  | some c => evT G c
/-- a slice's part -/
def evP (G : Gx) : Option IX → M (Option Int)
  | none => M.ret none
  | some x => (dataM (ev G x)).bind fun d => match d with
    | .int i => M.ret (some i)
    | _ => M.fail
/-- arguments -/
def evA (G : Gx) : List IX → M (List Opd)
  | [] => M.ret []
  | x :: xs => (opd x (ev G x)).bind fun o => (evA G xs).bind fun os => M.ret (o :: os)
/-- items of a display -/
def evD (G : Gx) : List IX → M (List D)
  | [] => M.ret []
  | x :: xs => (dataM (ev G x)).bind fun d => (evD G xs).bind fun ds => M.ret (d :: ds)
end

inductive Flow' where
  | next | brk | cont
  | ret (r : RV)
inductive IS where
  | pass
  | asg (i : Nat) (x : IX)
  | par (i j : Nat) (a b : IX)
  | unp (is : List Nat) (x : IX)
  | app (i : Nat) (x : IX)
  | seti (i : Nat) (k x : IX)
  | expr (x : IX)
  | ret (x : IX)
  | retN
  | ifs (c : IT) (a b : List IS)
  | fors (tg : ITg) (k : ItK) (its : List IX) (body : List IS)
  | brk
  | cont
  | raise (c : Nat) (ns : List Str) (as : List IX)
  | tryE (body : List IS) (i c : Nat) (suite : List IS)
/-- what is returned: a name's own list goes with it -/
def evR : IX → M RV → M RV
  | .var i, _ => fun env => match env[i]? with
    | some (.val d) => some (.ok (.val d), env)
    | some (.own false ds) => some (.ok (.new ds), env.set i .un)
    | _ => none
  | _, m => m
def RV.slot : RV → Slot
  | .val d => .val d
  | .new ds => .own false ds
def asgM (i : Nat) (r : RV) : M Unit := fun env => some (.ok (), env.set i r.slot)
def ownM (i : Nat) : M Unit := fun env => match env[i]? with
  | some (.own _ _) => some (.ok (), env)
  | _ => none
def appM (i : Nat) (d : D) : M Unit := fun env => match env[i]? with
  | some (.own io ds) => if ds.length < LIM then some (.ok (), env.set i (.own io (ds ++ [d]))) else none
  | _ => none
def setiM (i : Nat) (k d : D) : M Unit := fun env => match env[i]?, k with
  | some (.own io ds), .int n => match ixN ds.length n with
    | some j => some (.ok (), env.set i (.own io (ds.set j d)))
    | none => none
  | _, _ => none
/-- a loop over items -/
def loopM (f : D → M Flow') : List D → M Flow'
  | [] => M.ret .next
  | d :: ds => (f d).bind fun fl => match fl with
    | .next => loopM f ds
    | .cont => loopM f ds
    | .brk => M.ret .next
    | .ret r => M.ret (.ret r)
mutual
def ex (G : Gx) : IS → M Flow'
  | .pass => M.ret .next
  | .asg i x => (ev G x).bind fun r => (asgM i r).bind fun _ => M.ret .next
  | .par i j a b => (evD G [a, b]).bind fun ds => (setTg (.tp [i, j]) (.tup ds)).bind fun _ => M.ret .next
  | .unp is x => (dataM (ev G x)).bind fun d => (setTg (.tp is) d).bind fun _ => M.ret .next
  | .app i x => (ownM i).bind fun _ => (dataM (ev G x)).bind fun d => (appM i d).bind fun _ => M.ret .next
  | .seti i k x => (dataM (ev G x)).bind fun d => (ownM i).bind fun _ => (dataM (ev G k)).bind fun n => (setiM i n d).bind fun _ => M.ret .next
  | .expr x => (ev G x).bind fun _ => M.ret .next
  | .ret x => (evR x (ev G x)).bind fun r => M.ret (.ret r)
  | .retN => M.ret (.ret (.val .non))
  | .ifs c a b => (evT G c).bind fun k => if k then exs G a else exs G b
  | .fors tg k its body => (evD G its).bind fun ds => (M.ofOpt (items k ds)).bind fun l => loopM (fun d => (setTg tg d).bind fun _ => exs G body) l
  | .brk => M.ret .brk
  | .cont => M.ret .cont
  | .raise c ns as => (evD G as).bind fun ds => M.thr ⟨c, (ns.zip ds).reverse⟩
  | .tryE body i c suite => fun env => match exs G body env with
    | some (.error x, env') => match G.sub x.c c with
      | some true => match exs G suite (env'.set i (.exn x)) with
        | some (.ok fl, env2) => some (.ok fl, noExn (env2.set i .un))
        | _ => none
      | some false => some (.error x, env')
      | none => none
    | r => r
def exs (G : Gx) : List IS → M Flow'
  | [] => M.ret .next
  | s :: ss => (ex G s).bind fun fl => match fl with
    | .next => exs G ss
    | f => M.ret f
end
end Dl

set_option maxHeartbeats 2000000
/-! DlC: the operations keep to their data. -/
namespace Dl
open PySem PySem.Spec PyProof.Rows L2
open Evl (Ex)

theorem lim_le {n : Nat} (h : n ≤ LIM) : n ≤ sizeLine := Nat.le_trans h (by rw [sizeLine_eq]; decide)
theorem lim_lt {n : Nat} (h : n ≤ LIM) : n < sizeLine := Nat.lt_of_le_of_lt h (by rw [sizeLine_eq]; decide)

/-- data, or a list that a name holds alone -/
def RepS (K : KH) (F H : Hp) (v : V) (d : D) : Prop := Rep K F v d ∨ ∃ p vs ds, v = .ref p ∧ H p = some (.lst vs) ∧ d = .lst ds ∧ Reps K F vs ds
section
variable {K : KH} {F H : Hp} {v : V} {d : D}
theorem RepS.lst {ds : List D} (e : Ex F H) (h : RepS K F H v (.lst ds)) : ∃ p vs, v = .ref p ∧ H p = some (.lst vs) ∧ Reps K F vs ds := by
  rcases h with h | ⟨p, vs, ds', rfl, hp, hd, r⟩
  · cases h with
    | lst h r => exact ⟨_, _, rfl, e _ _ h, r⟩
  · cases hd
    exact ⟨p, vs, rfl, hp, r⟩
theorem RepS.int {i : Int} (h : RepS K F H v (.int i)) : v = .int i := by
  rcases h with h | ⟨_, _, _, _, _, hd, _⟩
  · cases h; rfl
  · cases hd
theorem RepS.bl {b : Bool} (h : RepS K F H v (.bl b)) : v = .bl b := by
  rcases h with h | ⟨_, _, _, _, _, hd, _⟩
  · cases h; rfl
  · cases hd
theorem RepS.str {s : Str} (h : RepS K F H v (.str s)) : v = .str s := by
  rcases h with h | ⟨_, _, _, _, _, hd, _⟩
  · cases h; rfl
  · cases hd
theorem RepS.non (h : RepS K F H v .non) : v = .non := by
  rcases h with h | ⟨_, _, _, _, _, hd, _⟩
  · cases h; rfl
  · cases hd
theorem RepS.tup {ds : List D} (e : Ex F H) (h : RepS K F H v (.tup ds)) : ∃ p vs, v = .ref p ∧ SqT K.K F p vs ∧ SqT K.K H p vs ∧ Reps K F vs ds := by
  rcases h with h | ⟨_, _, _, _, _, hd, _⟩
  · cases h with
    | tup h r => exact ⟨_, _, rfl, h, Evl.ex_t e h, r⟩
  · cases hd
theorem RepS.scr {ns : List Int} (e : Ex F H) (h : RepS K F H v (.scr ns)) : ∃ p, v = .ref p ∧ SqL K.K H p (ns.map V.int) := by
  rcases h with h | ⟨_, _, _, _, _, hd, _⟩
  · cases h with
    | scr h => exact ⟨_, rfl, Evl.ex_l e h⟩
  · cases hd
theorem RepS.dic {ks : List Key} {ds : List D} (e : Ex F H) (h : RepS K F H v (.dic ks ds)) : ∃ p kvs, v = .ref p ∧ H p = some (.dK kvs) ∧ kvs.map (·.1) = ks ∧ Reps K F (kvs.map (·.2)) ds := by
  rcases h with h | ⟨_, _, _, _, _, hd, _⟩
  · cases h with
    | dic h hk r => exact ⟨_, _, rfl, e _ _ h, hk, r⟩
  · cases hd
theorem dpInts : ∀ ns : List Int, DpAll K.K H (ns.map V.int) (ns.map PyData.int)
  | [] => .nil
  | n :: ns => .cons (.int n) (dpInts ns)
mutual
theorem Rep.dp : ∀ {v : V} {d : D}, Rep K H v d → d.nod = true → Dp K.K H v d.py
  | _, _, .non, _ => by unfold D.py; exact .non
  | _, _, .bl b, _ => by unfold D.py; exact .bl b
  | _, _, .int i, _ => by unfold D.py; exact .int i
  | _, _, .str s, _ => by unfold D.py; exact .str s
  | _, _, .lst h r, q => by
    unfold D.py
    exact .lst (.of h) (Reps.dp r (by unfold D.nod at q; exact q))
  | _, _, .tup h r, q => by
    unfold D.py
    exact .tup h (Reps.dp r (by unfold D.nod at q; exact q))
  | _, _, .dic _ _ _, q => by unfold D.nod at q; cases q
  | _, _, .scr (ns := ns) h, _ => by
    unfold D.py
    exact .lst h (dpInts ns)
theorem Reps.dp : ∀ {vs : List V} {ds : List D}, Reps K H vs ds → D.nods ds = true → DpAll K.K H vs (D.pys ds)
  | _, _, .nil, _ => by unfold D.pys; exact .nil
  | _, _, .cons h r, q => by
    unfold D.nods at q
    rw [Bool.and_eq_true] at q
    unfold D.pys
    exact .cons (Rep.dp h q.1) (Reps.dp r q.2)
end
theorem RepS.full (e : Ex F H) (h : RepS K F H v d) : Rep K H v d := by
  rcases h with h | ⟨p, vs, ds, rfl, hp, rfl, r⟩
  · exact h.mono e
  · exact .lst hp (r.mono e)
end

/-! ### two operands -/
/-- the reading of an operation on data -/
def rD (K : KH) (f : D → D → Option RV) : R2 := fun x y H Q => ∃ (B F : Hp) (pa : Nat → Addr) (env : Envs) (σ : L2.St) (dx dy : D) (rv : RV), Rel K B F pa env σ H ∧ RepS K F H x dx ∧ RepS K F H y dy ∧ f dx dy = some rv ∧
  ∀ v H' F', Ex F F' → RvOk K B F' pa env σ H' rv v → Q v H'
section
variable {K : KH} {B F H : Hp} {pa : Nat → Addr} {env : Envs} {σ : L2.St} {Q : VK}
/-- a scalar result -/
theorem done {d : D} {v : V} {rv : RV} (r : Rel K B F pa env σ H) (q : ∀ v H' F', Ex F F' → RvOk K B F' pa env σ H' rv v → Q v H') (e : rv = .val d) (h : Rep K F v d) : Q v H := by
  subst e
  exact q v H F (Ex.refl F) ⟨r, h⟩
theorem newL {ds : List D} {vs : List V} {rv : RV} {p : Addr} (r : Rel K B F pa env σ H) (q : ∀ v H' F', Ex F F' → RvOk K B F' pa env σ H' rv v → Q v H') (e : rv = .new ds) (hp : H p = none) (h : Reps K F vs ds) : Q (.ref p) (upd H p (.lst vs)) := by
  subst e
  exact q _ _ F (Ex.refl F) ⟨p, vs, rfl, r.b_none hp, r.fresh hp, h⟩
theorem newT {ds : List D} {vs : List V} {rv : RV} {p : Addr} (r : Rel K B F pa env σ H) (q : ∀ v H' F', Ex F F' → RvOk K B F' pa env σ H' rv v → Q v H') (e : rv = .val (.tup ds)) (hp : H p = none) (h : Reps K F vs ds) : Q (.ref p) (upd H p (.tup vs)) := by
  subst e
  have e1 : Ex F (upd F p (.tup vs)) := Ex.new (f_none r.fh hp)
  exact q _ _ (upd F p (.tup vs)) e1 ⟨r.lay hp, .tup (.of upd_same) (h.mono e1)⟩
end
section
variable {X : Cx}
theorem o_add : OpR X (binaryOp .Add) (rD (kh X T) (op2 .add)) := by
  intro pins s σ0 H x y v u Q I rx ry h
  obtain ⟨B, F, pa, env, σ, dx, dy, rv, r, hx, hy, hf, q⟩ := h
  replace hf : opAdd dx dy = some rv := hf
  unfold opAdd at hf
  split at hf
  case h_1 a b =>
    cases hx.int; cases hy.int; cases hf
    exact op_add pins s σ0 H _ _ v u Q I rx ry ⟨_, _, rfl, rfl, done r q rfl (.int _)⟩
  case h_2 a b =>
    obtain ⟨hz, hf⟩ := Option.ite_none_right_eq_some.mp hf
    cases hx.str; cases hy.str; cases hf
    exact op_add_str pins s σ0 H _ _ v u Q I rx ry ⟨_, _, rfl, rfl, lim_le hz, done r q rfl (.str _)⟩
  case h_3 a b =>
    obtain ⟨hz, hf⟩ := Option.ite_none_right_eq_some.mp hf
    cases hf
    obtain ⟨p1, vs1, rfl, h1, r1⟩ := hx.lst r.fh
    obtain ⟨p2, vs2, rfl, h2, r2⟩ := hy.lst r.fh
    exact op_cat pins s σ0 H _ _ v u Q I rx ry ⟨_, _, _, _, rfl, rfl, h1, h2, by rw [r1.length, r2.length]; exact lim_le hz, fun p hp => newL r q rfl hp (r1.append r2)⟩
  case h_4 a b =>
    obtain ⟨hz, hf⟩ := Option.ite_none_right_eq_some.mp hf
    cases hf
    obtain ⟨p1, vs1, rfl, h1, h1', r1⟩ := hx.tup r.fh
    obtain ⟨p2, vs2, rfl, h2, h2', r2⟩ := hy.tup r.fh
    refine op_catA pins s σ0 H _ _ v u Q I rx ry ⟨_, _, _, _, rfl, rfl, h1', h2', by rw [r1.length, r2.length]; exact lim_le hz, fun z => ?_, fun _ z => ?_, fun _ _ p hp => newT r q rfl hp (r1.append r2)⟩
    · subst z
      cases r1
      exact done r q rfl (.tup h2 r2)
    · subst z
      cases r2
      exact done r q (by rw [List.append_nil]) (.tup h1 r1)
  case h_5 => cases hf
theorem repS_fold (x : Str) : ∀ (n : Nat) (acc : Array Nat), (List.replicate n x.cps).foldl (· ++ ·) acc = acc ++ ((List.replicate n x.cps.toList).flatten).toArray
  | 0, acc => by simp
  | n + 1, acc => by
    rw [List.replicate_succ, List.foldl_cons, repS_fold x n, List.replicate_succ, List.flatten_cons]
    apply Array.toList_inj.mp
    simp
theorem o_mul : OpR X (binaryOp .Mult) (rD (kh X T) (op2 .mul)) := by
  intro pins s σ0 H x y v u Q I rx ry h
  obtain ⟨B, F, pa, env, σ, dx, dy, rv, r, hx, hy, hf, q⟩ := h
  replace hf : opMul dx dy = some rv := hf
  unfold opMul at hf
  split at hf
  case h_1 a b =>
    obtain ⟨hz, hf⟩ := Option.ite_none_right_eq_some.mp hf
    cases hx.int; cases hy.int; cases hf
    rw [Bool.and_eq_true] at hz
    exact op_mulW pins s σ0 H _ _ v u Q I rx ry ⟨_, _, rfl, rfl, wide_mul (of_decide_eq_true hz.1) (of_decide_eq_true hz.2) (by decide) (by decide) (by decide), done r q rfl (.int _)⟩
  case h_2 a n =>
    obtain ⟨⟨hz1, hz2, hz3⟩, hf⟩ := Option.ite_none_right_eq_some.mp hf
    cases hx.str; cases hy.int; cases hf
    obtain ⟨t, rfl⟩ := rx
    obtain ⟨t', rfl⟩ := ry
    have hm : a.length * n.toNat ≤ 1000000 := Nat.le_trans (Nat.mul_le_mul hz3 (by omega : n.toNat ≤ 1000)) (by decide)
    refine PySem.P.mul_str (by rw [decide_eq_false (by omega), decide_eq_false (by omega)]; rfl) (fun h1 _ => ?_) (fun _ _ => ?_) ?_
    · have h2 : (9223372036854775 : Int) ≤ (2 ^ 63 - 1) / n := by
        rw [Int.le_ediv_iff_mul_le (by omega)]
        omega
      omega
    · show decide (a.length * n.toNat > sizeLine) = false
      rw [sizeLine_eq]
      exact decide_eq_false (by omega)
    · have fin : Q (.str (repS a n.toNat)) H := done r q rfl (.str _)
      split
      · rename_i h1
        have e : n = 0 := by omega
        subst e
        exact ⟨by decide, V.str _, H, I.tok _, ⟨_, rfl⟩, fin⟩
      · split
        · rename_i h1 h2
          rw [Bool.or_eq_true] at h2
          have e : repS a n.toNat = a := by
            rcases h2 with h2 | h2
            · have e : n = 1 := by simpa using h2
              subst e
              show (⟨((List.replicate 1 a.cps.toList).flatten).toArray⟩ : Str) = a
              simp
            · have e : a.cps = #[] := by
                have z : a.cps.size = 0 := by
                  have z' : (a.cps.size == 0) = true := h2
                  exact eq_of_beq z'
                exact Array.eq_empty_of_size_eq_zero z
              obtain ⟨c⟩ := a
              cases (show c = #[] from e)
              show (⟨((List.replicate n.toNat []).flatten).toArray⟩ : Str) = ⟨#[]⟩
              simp
          rw [e] at fin
          exact ⟨V.str _, H, I, ⟨_, rfl⟩, fin⟩
        · have e : (⟨(List.replicate n.toNat a.cps).foldl (· ++ ·) #[]⟩ : Str) = repS a n.toNat := by
            rw [repS_fold]
            show (⟨_⟩ : Str) = ⟨_⟩
            simp
          rw [e]
          refine ⟨?_, V.str _, H, I.tok _, ⟨_, rfl⟩, fin⟩
          show (((List.replicate n.toNat a.cps.toList).flatten).toArray).size ≤ sizeLine
          rw [List.size_toArray, List.length_flatten, List.map_replicate, List.sum_replicate_nat, sizeLine_eq]
          have z : a.cps.toList.length = a.length := rfl
          rw [z, Nat.mul_comm]
          omega
  case h_3 a n =>
    obtain ⟨⟨hz1, hz2, hz3⟩, hf⟩ := Option.ite_none_right_eq_some.mp hf
    cases hy.int; cases hf
    obtain ⟨p1, vs1, rfl, h1, r1⟩ := hx.lst r.fh
    have hm : vs1.length * n.toNat ≤ 1000000 := Nat.le_trans (Nat.mul_le_mul (by rw [r1.length]; exact hz3) (by omega : n.toNat ≤ 1000)) (by decide)
    exact op_rep pins s σ0 H _ _ v u Q I rx ry ⟨_, _, _, rfl, rfl, h1, by omega, by omega, Nat.le_trans hm (by rw [sizeLine_eq]; decide), fun p hp => newL r q rfl hp (r1.rep _)⟩
  case h_4 a n =>
    obtain ⟨⟨hz1, hz2, hz3, hz4⟩, hf⟩ := Option.ite_none_right_eq_some.mp hf
    cases hy.int; cases hf
    obtain ⟨p1, vs1, rfl, h1, h1', r1⟩ := hx.tup r.fh
    exact op_repT pins s σ0 H _ _ v u Q I rx ry ⟨_, _, _, rfl, rfl, h1', fun z => hz4 (by rw [← r1.length, z]; rfl), hz1, hz2, by rw [r1.length]; exact hz3, fun p hp => newT r q rfl hp (r1.rep _)⟩
  case h_5 => cases hf
/-- two ints, by a rule of the layer -/
theorem o_int {f : Value → Value → Sem Value} {g : Int → Int → Option RV} {rr : R2} (h0 : OpR X f rr)
    (h1 : ∀ (a b : Int) (rv : RV) (H : Hp) (Q : VK), g a b = some rv → (∀ v : V, (∀ K F, Rep K F v rv.d) → Q v H) → rr (.int a) (.int b) H Q) (h2 : ∀ a b rv, g a b = some rv → rv = .val rv.d) : OpR X f (rD (kh X T) (opI g)) := by
  intro pins s σ0 H x y v u Q I rx ry h
  obtain ⟨B, F, pa, env, σ, dx, dy, rv, r, hx, hy, hf, q⟩ := h
  unfold opI at hf
  split at hf
  · cases hx.int; cases hy.int
    exact h0 pins s σ0 H _ _ v u Q I rx ry (h1 _ _ _ _ _ hf fun w e => done r q (h2 _ _ _ hf) (e _ _))
  · cases hf
theorem o_sub : OpR X (binaryOp .Sub) (rD (kh X T) (op2 .sub)) := o_int op_sub (fun a b rv H Q e q => by cases e; exact ⟨_, _, rfl, rfl, q _ fun _ _ => .int _⟩) (fun a b rv e => by cases e; rfl)
theorem o_fdiv : OpR X (binaryOp .FloorDiv) (rD (kh X T) (op2 .fdiv)) := o_int op_fdivW (fun a b rv H Q e q => by
    obtain ⟨hz, hf⟩ := Option.ite_none_right_eq_some.mp e
    cases hf
    rw [Bool.and_eq_true] at hz
    have h2 := of_decide_eq_true hz.2
    exact ⟨_, _, rfl, rfl, ⟨of_decide_eq_true hz.1, Nat.lt_of_lt_of_le (PySem.Flt.log2_lt_of (by decide) h2) (by decide)⟩, q _ fun _ _ => .int _⟩) (fun a b rv e => by
    obtain ⟨hz, hf⟩ := Option.ite_none_right_eq_some.mp e
    cases hf; rfl)
theorem o_mod : OpR X (binaryOp .Mod) (rD (kh X T) (op2 .mod)) := o_int op_mod (fun a b rv H Q e q => by
    obtain ⟨hz, hf⟩ := Option.ite_none_right_eq_some.mp e
    cases hf
    exact ⟨_, _, rfl, rfl, of_decide_eq_true hz, q _ fun _ _ => .int _⟩) (fun a b rv e => by
    obtain ⟨hz, hf⟩ := Option.ite_none_right_eq_some.mp e
    cases hf; rfl)
theorem op_powW : OpR X (binaryOp .Pow) (rI (fun i j => wide i = true ∧ 0 ≤ j ∧ j ≤ 1000) fun i j => .int (i ^ j.toNat)) := L2.opI fun i j _ _ _ _ _ hc q => by
  obtain ⟨h1, h2, h3⟩ := hc
  refine pow_int h2 ?_ q
  have h4 : Builtin.Int.intBits i ≤ 2000 := by
    unfold Builtin.Int.intBits
    split
    · omega
    · have := PySem.Flt.log2_lt_of (k := 2000) (by decide) (of_decide_eq_true h1)
      omega
  have h5 : (Builtin.Int.intBits i : Int) * j ≤ 2000 * 1000 := Int.mul_le_mul (by omega) h3 h2 (by decide)
  exact Int.le_trans h5 (by decide)
theorem o_pow : OpR X (binaryOp .Pow) (rD (kh X T) (op2 .pow)) := o_int op_powW (fun a b rv H Q e q => by
    obtain ⟨hz, hf⟩ := Option.ite_none_right_eq_some.mp e
    cases hf
    rw [Bool.and_eq_true, Bool.and_eq_true] at hz
    exact ⟨_, _, rfl, rfl, ⟨hz.1, of_decide_eq_true hz.2.1, of_decide_eq_true hz.2.2⟩, q _ fun _ _ => .int _⟩) (fun a b rv e => by
    obtain ⟨hz, hf⟩ := Option.ite_none_right_eq_some.mp e
    cases hf; rfl)
theorem o_lt : OpR X (compareOp .Lt) (rD (kh X T) (op2 .lt)) := o_int op_lt (fun a b rv H Q e q => by cases e; exact ⟨_, _, rfl, rfl, q _ fun _ _ => .bl _⟩) (fun a b rv e => by cases e; rfl)
theorem o_le : OpR X (compareOp .LtE) (rD (kh X T) (op2 .le)) := o_int op_le (fun a b rv H Q e q => by cases e; exact ⟨_, _, rfl, rfl, q _ fun _ _ => .bl _⟩) (fun a b rv e => by cases e; rfl)
theorem o_gt : OpR X (compareOp .Gt) (rD (kh X T) (op2 .gt)) := o_int op_gt (fun a b rv H Q e q => by cases e; exact ⟨_, _, rfl, rfl, q _ fun _ _ => .bl _⟩) (fun a b rv e => by cases e; rfl)
theorem o_ge : OpR X (compareOp .GtE) (rD (kh X T) (op2 .ge)) := o_int op_ge (fun a b rv H Q e q => by cases e; exact ⟨_, _, rfl, rfl, q _ fun _ _ => .bl _⟩) (fun a b rv e => by cases e; rfl)
/-- == of data -/
theorem eq_gen {f : Value → Value → Sem Value} {g : Bool → Bool} (h1 : OpR X f (fun x y H Q => scal x y = true ∧ Q (.bl (g (decide (x = y)))) H))
    (h2 : OpR X f (fun x y H Q => ∃ d e, Dp X.K H x d ∧ Dp X.K H y e ∧ SeqAt.shaped d = true ∧ SeqAt.shaped e = true ∧ Q (.bl (g (PyData.eqv d e))) H)) :
    OpR X f (rD (kh X T) (fun x y => (eqD x y).map fun b => .val (.bl (g b)))) := by
  intro pins s σ0 H x y v u Q I rx ry h
  obtain ⟨B, F, pa, env, σ, dx, dy, rv, r, hx, hy, hf, q⟩ := h
  obtain ⟨b, hb, e⟩ := Option.map_eq_some_iff.mp hf
  have fin : Q (.bl (g b)) H := done r q e.symm (.bl _)
  have sc : scal x y = true → decide (x = y) = b → wpAny (model X.prog X.w) X.A (f v u) (EP X pins σ0 Q) X.xe s := fun z1 z2 => h1 pins s σ0 H x y v u Q I rx ry ⟨z1, by rw [z2]; exact fin⟩
  unfold eqD at hb
  split at hb
  case h_1 a c => cases hx.str; cases hy.str; cases hb; exact sc rfl (by simp)
  case h_2 a c => cases hx.int; cases hy.int; cases hb; exact sc rfl (by simp)
  case h_3 a c => cases hx.bl; cases hy.bl; cases hb; exact sc rfl (by simp)
  case h_4 => cases hx.non; cases hy.non; cases hb; exact sc rfl (by simp)
  case h_5 => cases hx.non; cases hy.int; cases hb; exact sc rfl (by simp)
  case h_6 => cases hx.non; cases hy.bl; cases hb; exact sc rfl (by simp)
  case h_7 => cases hx.non; cases hy.str; cases hb; exact sc rfl (by simp)
  case h_8 => cases hx.int; cases hy.non; cases hb; exact sc rfl (by simp)
  case h_9 => cases hx.bl; cases hy.non; cases hb; exact sc rfl (by simp)
  case h_10 => cases hx.str; cases hy.non; cases hb; exact sc rfl (by simp)
  case h_11 => cases hx.int; cases hy.str; cases hb; exact sc rfl (by simp)
  case h_12 => cases hx.str; cases hy.int; cases hb; exact sc rfl (by simp)
  case h_13 => cases hx.bl; cases hy.str; cases hb; exact sc rfl (by simp)
  case h_14 => cases hx.str; cases hy.bl; cases hb; exact sc rfl (by simp)
  case h_15 =>
    obtain ⟨hz, hf⟩ := Option.ite_none_right_eq_some.mp hb
    cases hf
    rw [Bool.and_eq_true] at hz
    obtain ⟨z1, z2⟩ := hz
    unfold D.okd at z1 z2
    rw [Bool.and_eq_true] at z1 z2
    exact h2 pins s σ0 H x y v u Q I rx ry ⟨_, _, (hx.full r.fh).dp z1.1, (hy.full r.fh).dp z2.1, z1.2, z2.2, fin⟩
theorem o_eq (hu : X.A.units + 64 < cLine) : OpR X (compareOp .Eq) (rD (kh X T) (op2 .eq)) := eq_gen (g := fun b => b) op_eq (op_eqD hu)
theorem o_ne (hu : X.A.units + 64 < cLine) : OpR X (compareOp .NotEq) (rD (kh X T) (op2 .ne)) := eq_gen (g := fun b => !b) op_ne (op_neD hu)
theorem in_gen {f : Value → Value → Sem Value} {neg : Bool} (h1 : OpR X f (fun x y H Q => ∃ (c : Nat) (z : Str), x = .str ⟨#[c]⟩ ∧ y = .str z ∧ Q (.bl (if neg then !decide (c ∈ z.cps.toList) else decide (c ∈ z.cps.toList))) H)) : OpR X f (rD (kh X T) (opIn neg)) := by
  intro pins s σ0 H x y v u Q I rx ry h
  obtain ⟨B, F, pa, env, σ, dx, dy, rv, r, hx, hy, hf, q⟩ := h
  unfold opIn at hf
  split at hf
  · rename_i a z
    split at hf
    · rename_i c hc
      cases hf
      cases hx.str; cases hy.str
      obtain ⟨ca⟩ := a
      have e : ca = #[c] := Array.toList_inj.mp hc
      subst e
      exact h1 pins s σ0 H _ _ v u Q I rx ry ⟨c, z, rfl, rfl, done r q rfl (.bl _)⟩
    · cases hf
  · cases hf
theorem o_in : OpR X (compareOp .In) (rD (kh X T) (op2 .isin)) := in_gen (neg := false) op_in_sign
theorem o_notin : OpR X (compareOp .NotIn) (rD (kh X T) (op2 .notin)) := in_gen (neg := true) op_notIn_sign
theorem atI_rep {K : KH} {F : Hp} {vs : List V} {ds : List D} {i : Int} {d : D} (r : Reps K F vs ds) (h : atI ds i = some d) : ∃ v, atI vs i = some v ∧ Rep K F v d := by
  unfold atI at h ⊢
  rw [r.length]
  cases e : ixN ds.length i with
  | none => rw [e] at h; cases h
  | some j =>
    rw [e] at h
    exact r.getD h
theorem i_idx : IxR X (rD (kh X T) (op2 .idx)) := by
  intro val sl pins s σ0 H x y v u Q I rx ry h hs
  obtain ⟨B, F, pa, env, σ, dx, dy, rv, r, hx, hy, hf, q⟩ := h
  replace hf : opIdx dx dy = some rv := hf
  unfold opIdx at hf
  split at hf
  case h_1 a i =>
    obtain ⟨d, hd, e⟩ := Option.map_eq_some_iff.mp hf
    cases hy.int
    obtain ⟨p1, vs1, rfl, h1, r1⟩ := hx.lst r.fh
    obtain ⟨w, hw, rw'⟩ := atI_rep r1 hd
    exact ix_list val sl pins s σ0 H _ _ v u Q I rx ry ⟨_, _, _, _, rfl, rfl, .of h1, hw, done r q e.symm rw'⟩ hs
  case h_2 a i =>
    obtain ⟨d, hd, e⟩ := Option.map_eq_some_iff.mp hf
    cases hy.int
    obtain ⟨p1, vs1, rfl, h1, h1', r1⟩ := hx.tup r.fh
    obtain ⟨w, hw, rw'⟩ := atI_rep r1 hd
    exact ix_tup val sl pins s σ0 H _ _ v u Q I rx ry ⟨_, _, _, _, rfl, rfl, h1', hw, done r q e.symm rw'⟩ hs
  case h_3 a i =>
    obtain ⟨n, hn, e⟩ := Option.map_eq_some_iff.mp hf
    cases hy.int
    obtain ⟨p1, rfl, h1⟩ := hx.scr r.fh
    have hw : atI (a.map V.int) i = some (.int n) := by
      unfold atI at hn ⊢
      rw [List.length_map]
      cases e : ixN a.length i with
      | none => rw [e] at hn; cases hn
      | some j =>
        rw [e] at hn
        show (a.map V.int)[j]? = _
        rw [List.getElem?_map, show a[j]? = some n from hn]
        rfl
    exact ix_list val sl pins s σ0 H _ _ v u Q I rx ry ⟨_, _, _, _, rfl, rfl, h1, hw, done r q e.symm (.int _)⟩ hs
  case h_4 a i =>
    obtain ⟨hz, hf⟩ := Option.ite_none_right_eq_some.mp hf
    obtain ⟨c, hc, e⟩ := Option.map_eq_some_iff.mp hf
    cases hy.int; cases hx.str
    exact ix_str val sl pins s σ0 H _ _ v u Q I rx ry ⟨_, _, _, rfl, rfl, lim_le hz, hc, done r q e.symm (.str _)⟩ hs
  case h_5 => cases hf
/-! ### slices -/
def rSl (K : KH) (f : D → Option Int → Option Int → Option RV) : V → Option Int → Option Int → Hp → VK → Prop := fun x lo hi H Q => ∃ (B F : Hp) (pa : Nat → Addr) (env : Envs) (σ : L2.St) (dx : D) (rv : RV), Rel K B F pa env σ H ∧ RepS K F H x dx ∧ f dx lo hi = some rv ∧
  ∀ v H' F', Ex F F' → RvOk K B F' pa env σ H' rv v → Q v H'
theorem reps_cut {K : KH} {F : Hp} {vs : List V} {ds : List D} {lo hi : Option Int} (r : Reps K F vs ds) : Reps K F (cutV vs lo hi) (cutD ds lo hi) := by
  unfold cutV cutD
  rw [r.length]
  exact (r.drop _).take _
theorem s_cut : SlR X (rSl (kh X T) cutO) := by
  intro pins s σ0 H x v vl vu lo hi sl Q I rx hs pl pu h
  obtain ⟨B, F, pa, env, σ, dx, rv, r, hx, hf, q⟩ := h
  unfold cutO at hf
  split at hf
  · cases hf
    obtain ⟨p1, vs1, rfl, h1, r1⟩ := hx.lst r.fh
    exact sl_list pins s σ0 H _ v vl vu lo hi sl Q I rx hs pl pu ⟨_, _, rfl, .of h1, fun p hp => newL r q rfl hp (reps_cut r1)⟩
  · cases hf
    obtain ⟨p1, vs1, rfl, h1, h1', r1⟩ := hx.tup r.fh
    rename_i ds
    refine sl_tupA pins s σ0 H _ v vl vu lo hi sl Q I rx hs pl pu ⟨_, _, rfl, h1', fun ⟨z1, z2⟩ => ?_, fun _ p hp => newT r q rfl hp (reps_cut r1)⟩
    have e : cutD ds lo hi = ds := by
      unfold cutD
      rw [← r1.length, z1, z2, List.drop_zero, Nat.sub_zero, r1.length, List.take_length]
    exact done r q (by rw [e]) (.tup h1 r1)
  · obtain ⟨hz, hf⟩ := Option.ite_none_right_eq_some.mp hf
    cases hf
    cases hx.str
    exact sl_str pins s σ0 H _ v vl vu lo hi sl Q I rx hs pl pu ⟨_, rfl, lim_le hz, done r q rfl (.str _)⟩
  · cases hf

/-! ### built-ins -/
inductive RepSs (K : KH) (F H : Hp) : List V → List D → Prop
  | nil : RepSs K F H [] []
  | cons {v : V} {vs : List V} {d : D} {ds : List D} : RepS K F H v d → RepSs K F H vs ds → RepSs K F H (v :: vs) (d :: ds)
theorem RepSs.one {K : KH} {F H : Hp} {vs : List V} {d : D} (h : RepSs K F H vs [d]) : ∃ v, vs = [v] ∧ RepS K F H v d := by
  cases h with
  | cons h1 h2 => cases h2; exact ⟨_, rfl, h1⟩
theorem RepSs.two {K : KH} {F H : Hp} {vs : List V} {d e : D} (h : RepSs K F H vs [d, e]) : ∃ v w, vs = [v, w] ∧ RepS K F H v d ∧ RepS K F H w e := by
  cases h with
  | cons h1 h2 =>
    obtain ⟨w, rfl, h3⟩ := h2.one
    exact ⟨_, _, rfl, h1, h3⟩
def rDs (K : KH) (f : List D → Option RV) : List V → Hp → VK → Prop := fun xs H Q => ∃ (B F : Hp) (pa : Nat → Addr) (env : Envs) (σ : L2.St) (ds : List D) (rv : RV), Rel K B F pa env σ H ∧ RepSs K F H xs ds ∧ f ds = some rv ∧
  ∀ v H' F', Ex F F' → RvOk K B F' pa env σ H' rv v → Q v H'
theorem b_len : CallR X (.builtin "len") (rDs (kh X T) (bi .len)) := by
  intro pins s σ0 H xs us Q I rx h
  obtain ⟨B, F, pa, env, σ, ds, rv, r, hx, hf, q⟩ := h
  replace hf : biLen ds = some rv := hf
  unfold biLen at hf
  split at hf
  · cases hf
    obtain ⟨v, rfl, h1⟩ := hx.one
    obtain ⟨p1, vs1, rfl, h2, r1⟩ := h1.lst r.fh
    exact call_len_seq pins s σ0 H _ us Q I rx ⟨_, _, rfl, .inl (.of h2), by rw [r1.length]; exact done r q rfl (.int _)⟩
  · cases hf
    obtain ⟨v, rfl, h1⟩ := hx.one
    obtain ⟨p1, vs1, rfl, h2, h2', r1⟩ := h1.tup r.fh
    exact call_len_seq pins s σ0 H _ us Q I rx ⟨_, _, rfl, .inr h2', by rw [r1.length]; exact done r q rfl (.int _)⟩
  · cases hf
    obtain ⟨v, rfl, h1⟩ := hx.one
    obtain ⟨p1, rfl, h2⟩ := h1.scr r.fh
    exact call_len_seq pins s σ0 H _ us Q I rx ⟨_, _, rfl, .inl h2, by rw [List.length_map]; exact done r q rfl (.int _)⟩
  · obtain ⟨hz, hf⟩ := Option.ite_none_right_eq_some.mp hf
    cases hf
    obtain ⟨v, rfl, h1⟩ := hx.one
    cases h1.str
    exact call_len_str pins s σ0 H _ us Q I rx ⟨_, rfl, lim_le hz, done r q rfl (.int _)⟩
  · cases hf
theorem b_two {f : Value} {g : Int → Int → Int} (h1 : CallR X f (fun xs H Q => ∃ i j, xs = [.int i, .int j] ∧ Q (.int (g i j)) H)) : CallR X f (rDs (kh X T) (biII g)) := by
  intro pins s σ0 H xs us Q I rx h
  obtain ⟨B, F, pa, env, σ, ds, rv, r, hx, hf, q⟩ := h
  unfold biII at hf
  split at hf
  · cases hf
    obtain ⟨v, w, rfl, h2, h3⟩ := hx.two
    cases h2.int; cases h3.int
    exact h1 pins s σ0 H _ us Q I rx ⟨_, _, rfl, done r q rfl (.int _)⟩
  · cases hf
theorem b_int : CallR X (.type "int") (rDs (kh X T) (bi .toInt)) := by
  intro pins s σ0 H xs us Q I rx h
  obtain ⟨B, F, pa, env, σ, ds, rv, r, hx, hf, q⟩ := h
  replace hf : biInt ds = some rv := hf
  unfold biInt at hf
  split at hf
  · cases hf
    obtain ⟨v, rfl, h2⟩ := hx.one
    cases h2.int
    exact call_int1 pins s σ0 H _ us Q I rx (.inl ⟨_, rfl, done r q rfl (.int _)⟩)
  · cases hf
    obtain ⟨v, rfl, h2⟩ := hx.one
    cases h2.bl
    exact call_int1 pins s σ0 H _ us Q I rx (.inr ⟨_, rfl, done r q rfl (.int _)⟩)
  · cases hf
theorem b_max (hc : X.calm = true) : CallR X (.builtin "max") (rDs (kh X T) (bi .max2)) := b_two (call_max2 hc)
theorem b_min (hc : X.calm = true) : CallR X (.builtin "min") (rDs (kh X T) (bi .min2)) := b_two (call_min2 hc)
theorem b_tuple : CallR X (.type "tuple") (rDs (kh X T) (bi .tuple)) := by
  intro pins s σ0 H xs us Q I rx h
  obtain ⟨B, F, pa, env, σ, ds, rv, r, hx, hf, q⟩ := h
  replace hf : biTuple ds = some rv := hf
  unfold biTuple at hf
  split at hf
  · cases hf
    obtain ⟨v, rfl, h1⟩ := hx.one
    obtain ⟨p1, vs1, rfl, h2, r1⟩ := h1.lst r.fh
    exact call_tuple_of pins s σ0 H _ us Q I rx ⟨_, _, rfl, .inl ⟨.of h2, fun p hp => newT r q rfl hp r1⟩⟩
  · cases hf
    obtain ⟨v, rfl, h1⟩ := hx.one
    obtain ⟨p1, vs1, rfl, h2, h2', r1⟩ := h1.tup r.fh
    exact call_tuple_of pins s σ0 H _ us Q I rx ⟨_, _, rfl, .inr ⟨h2', done r q rfl (.tup h2 r1)⟩⟩
  · cases hf
theorem b_list : CallR X (.type "list") (rDs (kh X T) (bi .list)) := by
  intro pins s σ0 H xs us Q I rx h
  obtain ⟨B, F, pa, env, σ, ds, rv, r, hx, hf, q⟩ := h
  replace hf : biList ds = some rv := hf
  unfold biList at hf
  split at hf
  · cases hf
    obtain ⟨v, rfl, h1⟩ := hx.one
    obtain ⟨p1, vs1, rfl, h2, r1⟩ := h1.lst r.fh
    exact call_list_of pins s σ0 H _ us Q I rx ⟨_, _, rfl, .inl (.of h2), fun p hp => newL r q rfl hp r1⟩
  · cases hf
    obtain ⟨v, rfl, h1⟩ := hx.one
    obtain ⟨p1, vs1, rfl, h2, h2', r1⟩ := h1.tup r.fh
    exact call_list_of pins s σ0 H _ us Q I rx ⟨_, _, rfl, .inr h2', fun p hp => newL r q rfl hp r1⟩
  · cases hf
theorem bools_rep {K : KH} {F : Hp} : ∀ {ds : List D} {bs : List Bool} {vs : List V}, boolsOf ds = some bs → Reps K F vs ds → vs = bs.map V.bl
  | [], bs, vs, h, r => by
    cases h
    cases r
    rfl
  | d :: ds, bs, vs, h, r => by
    cases d with
    | bl b =>
      unfold boolsOf at h
      obtain ⟨bs', h1, rfl⟩ := Option.map_eq_some_iff.mp h
      cases r with
      | cons r1 r2 =>
        cases r1
        rw [bools_rep h1 r2]
        rfl
    | _ => unfold boolsOf at h; cases h
theorem b_bools {f : Value} {g : List Bool → Bool} (h1 : CallR X f (fun vs H Q => ∃ (a : Addr) (bs : List Bool), vs = [V.ref a] ∧ SqL X.K H a (bs.map V.bl) ∧ Q (.bl (g bs)) H)) : CallR X f (rDs (kh X T) (biBools g)) := by
  intro pins s σ0 H xs us Q I rx h
  obtain ⟨B, F, pa, env, σ, ds, rv, r, hx, hf, q⟩ := h
  unfold biBools at hf
  split at hf
  · obtain ⟨bs, hb, rfl⟩ := Option.map_eq_some_iff.mp hf
    obtain ⟨v, rfl, h2⟩ := hx.one
    obtain ⟨p1, vs1, rfl, h3, r1⟩ := h2.lst r.fh
    have e := bools_rep hb r1
    subst e
    exact h1 pins s σ0 H _ us Q I rx ⟨_, _, rfl, .of h3, done r q rfl (.bl _)⟩
  · cases hf
theorem b_all (hc : X.calm = true) : CallR X (.builtin "all") (rDs (kh X T) (bi .all)) := b_bools (cr_all hc)
theorem b_any (hc : X.calm = true) : CallR X (.builtin "any") (rDs (kh X T) (bi .any)) := b_bools (cr_any hc)
/-! repr: nothing else is being shown -/
mutual
theorem py_nodict : ∀ d : D, d.nod = true → d.py.hasDict = false
  | .non, _ => by simp only [D.py, PyData.hasDict]
  | .bl _, _ => by simp only [D.py, PyData.hasDict]
  | .int _, _ => by simp only [D.py, PyData.hasDict]
  | .str _, _ => by simp only [D.py, PyData.hasDict]
  | .lst xs, h => by simp only [D.py, PyData.hasDict]; exact pys_nodict xs (by simpa only [D.nod] using h)
  | .tup xs, h => by simp only [D.py, PyData.hasDict]; exact pys_nodict xs (by simpa only [D.nod] using h)
  | .dic _ _, h => by simp only [D.nod] at h; cases h
  | .scr ns, _ => by
    simp only [D.py, PyData.hasDict]
    exact ints_nodict ns
theorem pys_nodict : ∀ ds : List D, D.nods ds = true → PyData.hasDictAll (D.pys ds) = false
  | [], _ => by simp only [D.pys, PyData.hasDictAll]
  | d :: ds, h => by
    simp only [D.nods, Bool.and_eq_true] at h
    simp only [D.pys, PyData.hasDictAll]
    rw [py_nodict d h.1, pys_nodict ds h.2]
    rfl
theorem ints_nodict : ∀ ns : List Int, PyData.hasDictAll (ns.map PyData.int) = false
  | [] => by simp only [List.map_nil, PyData.hasDictAll]
  | n :: ns => by
    simp only [List.map_cons, PyData.hasDictAll, PyData.hasDict]
    rw [ints_nodict ns]
    rfl
end
theorem b_repr (hg : X.A.guards = some []) (hu : X.A.units + 64 < cLine) : CallR X (.builtin "repr") (rDs (kh X T) (bi .repr)) := by
  intro pins s σ0 H xs us Q I rx h
  obtain ⟨B, F, pa, env, σ, ds, rv, r, hx, hf, q⟩ := h
  replace hf : biRepr ds = some rv := hf
  unfold biRepr at hf
  split at hf
  · rename_i d
    obtain ⟨hz, hf⟩ := Option.ite_none_right_eq_some.mp hf
    cases hf
    simp only [Bool.and_eq_true, decide_eq_true_eq] at hz
    obtain ⟨⟨⟨z1, z2⟩, z3⟩, z4⟩ := hz
    obtain ⟨v, rfl, h1⟩ := hx.one
    obtain ⟨u, rfl, ru⟩ := vals1 rx
    obtain ⟨as, rd⟩ := Dp.reads I d.py v u ((h1.full r.fh).dp z1) ru
    have fin : ∀ {h' : Heap} {k tk : Tok}, (∀ b o, s.heap.get? b = some o → h'.get? b = some o) → EP X pins σ0 Q (.str d.py.shown k) { s with heap := h', toks := tk } := fun {h' k tk} hk =>
      ⟨.str d.py.shown, H, I.kept hk, ⟨_, rfl⟩, done r q rfl (.str _)⟩
    have far : ∀ a : Addr, u = .ref a → wpAny (model X.prog X.w) X.A (call (.builtin "repr") [u]) (EP X pins σ0 Q) X.xe s := fun a e => by
      subst e
      refine repr_of_reads' rd z2 (fun z => ?_) hg (by omega) (fun _ _ e => e) (fun h' k tk hk => fin hk) (lim_le z4)
      rw [py_nodict d z1] at z
      cases z
    have h2 := h1.full r.fh
    cases d with
    | non =>
      cases h2
      obtain rfl : u = .none := ru
      refine PySem.P.repr_of_none ?_
      simp only [D.py, PyData.shown] at fin
      exact fin fun _ _ e => e
    | bl b =>
      cases h2
      obtain rfl : u = .bool b := ru
      refine PySem.P.repr_of_bool ?_
      simp only [D.py, PyData.shown] at fin
      exact fin fun _ _ e => e
    | int i =>
      cases h2
      obtain ⟨t, rfl⟩ := ru
      refine PySem.P.repr_of_int (by simpa only [D.py, PyData.showable, decide_eq_true_eq] using z2) ?_
      simp only [D.py, PyData.shown] at fin
      exact fin fun _ _ e => e
    | str x =>
      cases h2
      obtain ⟨t, rfl⟩ := ru
      refine PySem.P.repr_of_str ?_ (by have := lim_le z4; simpa only [D.py, PyData.shown] using this)
      simp only [D.py, PyData.shown] at fin
      exact fin fun _ _ e => e
    | lst xs =>
      cases h2
      exact far _ ru
    | tup xs =>
      cases h2
      exact far _ ru
    | scr ns =>
      cases h2
      exact far _ ru
    | dic ks xs => simp only [D.nod] at z1; cases z1
  · cases hf

/-! ### methods of texts -/
def rMe (K : KH) (f : D → List D → Option RV) : V → List V → Hp → VK → Prop := fun x xs H Q => ∃ (B F : Hp) (pa : Nat → Addr) (env : Envs) (σ : L2.St) (d : D) (ds : List D) (rv : RV), Rel K B F pa env σ H ∧ RepS K F H x d ∧ RepSs K F H xs ds ∧ f d ds = some rv ∧
  ∀ v H' F', Ex F F' → RvOk K B F' pa env σ H' rv v → Q v H'
theorem strsOf_map : ∀ {ds : List D} {ss : List Str}, strsOf ds = some ss → ds = ss.map D.str
  | [], ss, h => by cases h; rfl
  | d :: ds, ss, h => by
    cases d with
    | str x =>
      unfold strsOf at h
      obtain ⟨ss', h1, rfl⟩ := Option.map_eq_some_iff.mp h
      rw [strsOf_map h1]
      rfl
    | _ => unfold strsOf at h; cases h
theorem m_join : MtR X "str.join" (rMe (kh X T) (meth .join)) := by
  intro pins s σ0 H x xs v us Q I rx rs h
  obtain ⟨B, F, pa, env, σ, d, ds, rv, r, hx, hs, hf, q⟩ := h
  replace hf : meJoin d ds = some rv := hf
  have go : ∀ a ys, (∃ p vs, xs = [.ref p] ∧ (SqL X.K H p vs ∨ SqT X.K H p vs) ∧ Reps (kh X T) F vs ys) → d = .str a → joinO a ys = some rv → wpAny (model X.prog X.w) X.A (call (.builtin "str.join") (v :: us)) (EP X pins σ0 Q) X.xe s := fun a ys ⟨p, vs, e, hp, r1⟩ ed hj => by
    subst e
    subst ed
    obtain ⟨ss, h1, h2⟩ := Option.bind_eq_some_iff.mp hj
    obtain ⟨hz, hf⟩ := Option.ite_none_right_eq_some.mp h2
    cases hf
    have e := strsOf_map h1
    subst e
    have e := Reps.ofStrs r1
    subst e
    cases hx.str
    exact mt_join pins s σ0 H _ _ v us Q I rx rs ⟨a, p, ss, rfl, rfl, hp, Nat.le_trans hz (by decide), done r q rfl (.str _)⟩
  unfold meJoin at hf
  split at hf
  · obtain ⟨w, rfl, h1⟩ := hs.one
    obtain ⟨p1, vs1, rfl, h3, r1⟩ := h1.lst r.fh
    exact go _ _ ⟨_, _, rfl, .inl (.of h3), r1⟩ rfl hf
  · obtain ⟨w, rfl, h1⟩ := hs.one
    obtain ⟨p1, vs1, rfl, h3, h3', r1⟩ := h1.tup r.fh
    exact go _ _ ⟨_, _, rfl, .inr h3', r1⟩ rfl hf
  · cases hf
theorem m_split : MtR X "str.split" (rMe (kh X T) (meth .split)) := by
  intro pins s σ0 H x xs v us Q I rx rs h
  obtain ⟨B, F, pa, env, σ, d, ds, rv, r, hx, hs, hf, q⟩ := h
  replace hf : meSplit d ds = some rv := hf
  unfold meSplit at hf
  split at hf
  · obtain ⟨⟨z1, z2⟩, hf⟩ := Option.ite_none_right_eq_some.mp hf
    cases hf
    obtain ⟨w, rfl, h1⟩ := hs.one
    cases hx.str; cases h1.str
    exact mt_split pins s σ0 H _ _ v us Q I rx rs ⟨_, _, rfl, rfl, z1, lim_le z2, fun p hp => newL r q rfl hp (Reps.strs _)⟩
  · cases hf
theorem m_strip : MtR X "str.strip" (rMe (kh X T) (meth .strip)) := by
  intro pins s σ0 H x xs v us Q I rx rs h
  obtain ⟨B, F, pa, env, σ, d, ds, rv, r, hx, hs, hf, q⟩ := h
  replace hf : meStrip d ds = some rv := hf
  unfold meStrip at hf
  split at hf
  · obtain ⟨z1, hf⟩ := Option.ite_none_right_eq_some.mp hf
    cases hf
    obtain ⟨w, rfl, h1⟩ := hs.one
    cases hx.str; cases h1.str
    exact mt_stripChars pins s σ0 H _ _ v us Q I rx rs ⟨_, _, rfl, rfl, lim_le z1, done r q rfl (.str _)⟩
  · cases hf

/-! ### isinstance of a built-in type, truth -/
def tyN : D → String
  | .non => "NoneType"
  | .bl _ => "bool"
  | .int _ => "int"
  | .str _ => "str"
  | .lst _ => "list"
  | .tup _ => "tuple"
  | .dic _ _ => "dict"
  | .scr _ => "list"
theorem sqL_ty {K : KH} {a : Addr} {xs : List V} (h : SqL K.K H a xs) : TyX K.K H (.ref a) (.type "list") := by
  rcases h with (h | ⟨o, h⟩) | ⟨o, its, n, hk, hc, _⟩
  · exact .base (.lst h)
  · exact .base (.frz h)
  · exact .kList hk hc
theorem sqT_ty {K : KH} {a : Addr} {xs : List V} (h : SqT K.K H a xs) : TyX K.K H (.ref a) (.type "tuple") := by
  rcases h with (h | ⟨o, h⟩) | ⟨o, its, n, hk, hc, _⟩
  · exact .base (.tup h)
  · exact .fTuple h
  · exact .kTuple hk hc
theorem rep_ty {K : KH} {v : V} {d : D} (h : Rep K H v d) : TyX K.K H v (.type (tyN d)) := by
  cases h with
  | non => exact .base .non
  | bl b => exact .base (.bl b)
  | int i => exact .base (.int i)
  | str s => exact .base (.str s)
  | lst h _ => exact .base (.lst h)
  | tup h _ => exact sqT_ty h
  | dic h _ _ => exact .base (.dK h)
  | scr h => exact sqL_ty h
theorem kb_non (t : Ty) : kitB "NoneType" t.name = some (tyIs .non t) := by cases t <;> decide +kernel
theorem kb_bl (t : Ty) : kitB "bool" t.name = some (tyIs (.bl true) t) := by cases t <;> decide +kernel
theorem kb_int (t : Ty) : kitB "int" t.name = some (tyIs (.int 0) t) := by cases t <;> decide +kernel
theorem kb_str (t : Ty) : kitB "str" t.name = some (tyIs (.str ⟨#[]⟩) t) := by cases t <;> decide +kernel
theorem kb_lst (t : Ty) : kitB "list" t.name = some (tyIs (.lst []) t) := by cases t <;> decide +kernel
theorem kb_tup (t : Ty) : kitB "tuple" t.name = some (tyIs (.tup []) t) := by cases t <;> decide +kernel
theorem kb_dic (t : Ty) : kitB "dict" t.name = some (tyIs (.dic [] []) t) := by cases t <;> decide +kernel
theorem ty_kit (d : D) (t : Ty) : kitB (tyN d) t.name = some (tyIs d t) := by
  cases d with
  | non => exact kb_non t
  | bl b => have h := kb_bl t; cases t <;> exact h
  | int i => have h := kb_int t; cases t <;> exact h
  | str i => have h := kb_str t; cases t <;> exact h
  | lst i => have h := kb_lst t; cases t <;> exact h
  | tup i => have h := kb_tup t; cases t <;> exact h
  | dic i j => have h := kb_dic t; cases t <;> exact h
  | scr i => have h := kb_lst t; cases t <;> exact h
theorem emp_len {α β : Type} {xs : List α} {ys : List β} (h : xs.length = ys.length) : xs.isEmpty = ys.isEmpty := by
  cases xs <;> cases ys <;> simp_all
theorem tru_rep {K : KH} {F H : Hp} {v : V} {d : D} {b : Bool} (e : Ex F H) (h : RepS K F H v d) (hb : truth d = some b) : TruV K.K v H b := by
  unfold truth at hb
  split at hb
  · cases hb; cases h.bl; rfl
  · cases hb; cases h.non; rfl
  · cases hb
    obtain ⟨p, vs, rfl, h1, r⟩ := h.lst e
    exact .inl ⟨vs, .of h1, by rw [emp_len r.length]⟩
  · cases hb
    obtain ⟨p, vs, rfl, h1, h2, r⟩ := h.tup e
    exact .inr (.inl ⟨vs, h2, by rw [emp_len r.length]⟩)
  · cases hb
    obtain ⟨p, kvs, rfl, h1, h2, r⟩ := h.dic e
    exact .inr (.inr ⟨kvs, h1, by rw [← h2]; cases kvs <;> rfl⟩)
  · cases hb; cases h.int; rfl
  · obtain ⟨z1, hf⟩ := Option.ite_none_right_eq_some.mp hb
    cases hf; cases h.str
    exact ⟨lim_le z1, rfl⟩
  · cases hb
    obtain ⟨p, rfl, h1⟩ := h.scr e
    exact .inl ⟨_, h1, by rw [emp_len (List.length_map V.int)]⟩
end
end Dl

set_option maxHeartbeats 2000000
/-! DlD: readings by evaluation; expressions. -/
namespace Dl
open PySem PySem.Spec PyProof.Rows L2
open Evl (Ex)

/-! ### readings -/
abbrev Post (α : Type) := Hp → Hp → (Nat → Addr) → Envs → L2.St → Hp → α → V → Prop
def PD (K : KH) : Post D := fun B F pa env σ H d v => Rel K B F pa env σ H ∧ Rep K F v d
def OpOk (K : KH) (F : Hp) (σ : L2.St) (v : V) : Opd → Prop
  | .val d => Rep K F v d
  | .slot i => σ[i]? = some (some v)
def PO (K : KH) : Post Opd := fun B F pa env σ H o v => Rel K B F pa env σ H ∧ OpOk K F σ v o
abbrev XW (K : KH) (W : L2.WX) (B F : Hp) (pa : Nat → Addr) (σ : L2.St) (x : Exn) (env' : Envs) : Prop := ∀ cls d H' F', Ex F F' → ExOk K B F' pa env' σ H' x cls d → W cls d σ H'
def Rg {α : Type} (K : KH) (W : L2.WX) (P : Post α) (m : M α) : TE := fun σ H Q => ∃ (B F : Hp) (pa : Nat → Addr) (env : Envs), Rel K B F pa env σ H ∧
  Wp m env (fun a env' => ∀ v H' F', Ex F F' → P B F' pa env' σ H' a v → Q v H') (XW K W B F pa σ)
def RgT (K : KH) (W : L2.WX) (m : M Bool) : TT := fun σ H Q => ∃ (B F : Hp) (pa : Nat → Addr) (env : Envs), Rel K B F pa env σ H ∧
  Wp m env (fun a env' => ∀ H' F', Ex F F' → Rel K B F' pa env' σ H' → Q a H') (XW K W B F pa σ)
inductive OpOks (K : KH) (F : Hp) (σ : L2.St) : List V → List Opd → Prop
  | nil : OpOks K F σ [] []
  | cons {v : V} {vs : List V} {o : Opd} {os : List Opd} : OpOk K F σ v o → OpOks K F σ vs os → OpOks K F σ (v :: vs) (o :: os)
def RgA (K : KH) (W : L2.WX) (m : M (List Opd)) : TA := fun σ H Q => ∃ (B F : Hp) (pa : Nat → Addr) (env : Envs), Rel K B F pa env σ H ∧
  Wp m env (fun os env' => ∀ vs H' F', Ex F F' → Rel K B F' pa env' σ H' → OpOks K F' σ vs os → Q vs H') (XW K W B F pa σ)
def RgD (K : KH) (W : L2.WX) (m : M (List D)) : TA := fun σ H Q => ∃ (B F : Hp) (pa : Nat → Addr) (env : Envs), Rel K B F pa env σ H ∧
  Wp m env (fun ds env' => ∀ vs H' F', Ex F F' → Rel K B F' pa env' σ H' → Reps K F' vs ds → Q vs H') (XW K W B F pa σ)
def RgP (K : KH) (W : L2.WX) (m : M (Option Int)) : TO := fun σ H Q => ∃ (B F : Hp) (pa : Nat → Addr) (env : Envs), Rel K B F pa env σ H ∧
  Wp m env (fun o env' => ∀ H' F', Ex F F' → Rel K B F' pa env' σ H' → Q o H') (XW K W B F pa σ)
theorem XW.mono {K : KH} {W : L2.WX} {B F F1 : Hp} {pa : Nat → Addr} {σ : L2.St} {x : Exn} {env' : Envs} (e : Ex F F1) (h : XW K W B F pa σ x env') : XW K W B F1 pa σ x env' :=
  fun cls d H' F' e' q => h cls d H' F' (e.trans e') q

theorem pe_w {X : Cx} {e : Expr} {t t' : TE} (h : PE X e t) (w : ∀ σ H Q, t' σ H Q → t σ H Q) : PE X e t' := ⟨fun pins s σ H Q I q => h.run pins s σ H Q I (w σ H Q q)⟩
theorem pt_w {X : Cx} {e : Expr} {t t' : TT} (h : PT X e t) (w : ∀ σ H Q, t' σ H Q → t σ H Q) : PT X e t' := ⟨fun pins s σ H Q I q => h.run pins s σ H Q I (w σ H Q q)⟩
theorem pw_w {X : Cx} {e : Expr} {t t' : TT} (h : PW X e t) (w : ∀ σ H Q, t' σ H Q → t σ H Q) : PW X e t' := ⟨fun wh pins s σ H Q I q => h.run wh pins s σ H Q I (w σ H Q q)⟩
theorem pa_w {X : Cx} {e : List Expr} {t t' : TA} (h : PA X e t) (w : ∀ σ H Q, t' σ H Q → t σ H Q) : PA X e t' := ⟨fun p pins s σ H Q I q => h.run p pins s σ H Q I (w σ H Q q)⟩

section
variable {K : KH} {T : Nat → Value} {W : L2.WX} {B F F' H : Hp} {pa : Nat → Addr} {env : Envs} {σ : L2.St} {v : V} {o : Opd}
theorem OpOk.mono (e : Ex F F') (h : OpOk K F σ v o) : OpOk K F' σ v o := by
  cases o with
  | val d => exact Rep.mono e h
  | slot i => exact h
theorem OpOks.mono (e : Ex F F') : ∀ {vs : List V} {os : List Opd}, OpOks K F σ vs os → OpOks K F' σ vs os
  | _, _, .nil => .nil
  | _, _, .cons h r => .cons (h.mono e) (OpOks.mono e r)
theorem res_ok {d : D} (r : Rel K B F pa env σ H) (h : OpOk K F σ v o) (e : res env o = some d) : RepS K F H v d := by
  cases o with
  | val d' => cases e; exact .inl h
  | slot i =>
    have h : σ[i]? = some (some v) := h
    unfold res at e
    simp only at e
    split at e
    · rename_i d' hd
      cases e
      obtain ⟨w, h1, h2⟩ := r.val hd
      rw [h] at h1
      cases h1
      exact .inl h2
    · rename_i io ds hd
      cases e
      obtain ⟨p, vs, h1, h2, h3, h4, h5, h6⟩ := r.owned hd
      rw [h] at h1
      cases h1
      exact .inr ⟨p, vs, ds, rfl, h2, rfl, h5⟩
    · cases e
theorem resAll_ok (r : Rel K B F pa env σ H) : ∀ {vs : List V} {os : List Opd} {ds : List D}, OpOks K F σ vs os → resAll env os = some ds → RepSs K F H vs ds
  | _, _, ds, .nil, e => by cases e; exact .nil
  | _, _, ds, .cons h t, e => by
    unfold resAll at e
    obtain ⟨d, h1, h2⟩ := Option.bind_eq_some_iff.mp e
    obtain ⟨ds', h3, rfl⟩ := Option.map_eq_some_iff.mp h2
    exact .cons (res_ok r h h1) (resAll_ok r t h3)
theorem Wp.resM {env : Envs} {o : Opd} {q : D → Envs → Prop} {e : Exn → Envs → Prop} (h : Wp (Dl.resM o) env q e) : ∃ d, res env o = some d ∧ q d env := by
  unfold Wp Dl.resM at h
  cases hd : res env o with
  | none => rw [hd] at h; exact h.elim
  | some d => rw [hd] at h; exact ⟨d, rfl, h⟩
theorem Wp.resAllM {env : Envs} {os : List Opd} {q : List D → Envs → Prop} {e : Exn → Envs → Prop} (h : Wp (Dl.resAllM os) env q e) : ∃ d, resAll env os = some d ∧ q d env := by
  unfold Wp Dl.resAllM at h
  cases hd : resAll env os with
  | none => rw [hd] at h; exact h.elim
  | some d => rw [hd] at h; exact ⟨d, rfl, h⟩
end

section
variable {X : Cx} {T : Nat → Value} {W : L2.WX} {G : Gx} {a b c : Expr} {xa xb xc : IX} {pos : Pos}
/-- an expression and its word -/
structure Snd (X : Cx) (T : Nat → Value) (W : L2.WX) (G : Gx) (a : Expr) (x : IX) : Prop where
  pe : PE X a (Rg (kh X T) W (RvOk (kh X T)) (ev G x))
  var : ∀ i, x = .var i → PE X a (tVar i)
theorem Snd.data (h : Snd X T W G a xa) : PE X a (Rg (kh X T) W (PD (kh X T)) (dataM (ev G xa))) := by
  refine pe_w h.pe fun σ H Q ⟨B, F, pa, env, r, hw⟩ => ⟨B, F, pa, env, r, ?_⟩
  unfold dataM at hw
  rw [Wp.bind] at hw
  refine hw.mono (fun rv env' q v H' F' e p => ?_) fun _ _ q => q
  obtain ⟨F2, e2, r2, p2⟩ := RvOk.data p
  exact q v H' F2 (e.trans e2) ⟨r2, p2⟩
theorem Snd.opd (h : Snd X T W G a xa) : PE X a (Rg (kh X T) W (PO (kh X T)) (opd xa (ev G xa))) := by
  have dat : ∀ σ H Q, Rg (kh X T) W (PO (kh X T)) ((ev G xa).bind fun r => M.ret (.val r.d)) σ H Q → Rg (kh X T) W (RvOk (kh X T)) (ev G xa) σ H Q := fun σ H Q ⟨B, F, pa, env, r, hw⟩ => by
    refine ⟨B, F, pa, env, r, ?_⟩
    rw [Wp.bind] at hw
    refine hw.mono (fun rv env' q v H' F' e p => ?_) fun _ _ q => q
    obtain ⟨F2, e2, r2, p2⟩ := RvOk.data p
    exact q v H' F2 (e.trans e2) ⟨r2, p2⟩
  cases xa with
  | var i =>
    refine pe_w (h.var i rfl) fun σ H Q ⟨B, F, pa, env, r, hw⟩ => ?_
    have go : ∀ w, σ[i]? = some (some w) → slotM i env = some (.ok (.slot i), env) → tVar i σ H Q := fun w h1 h2 => by
      replace hw : Wp (slotM i) env _ _ := hw
      unfold Wp at hw
      rw [h2] at hw
      exact ⟨w, h1, hw w H F (Ex.refl F) ⟨r, h1⟩⟩
    cases he : env[i]? with
    | none =>
      replace hw : Wp (slotM i) env _ _ := hw
      unfold Wp slotM at hw
      rw [he] at hw
      exact hw.elim
    | some s =>
      cases s with
      | un =>
        replace hw : Wp (slotM i) env _ _ := hw
        unfold Wp slotM at hw
        rw [he] at hw
        exact hw.elim
      | val d =>
        obtain ⟨w, h1, h2⟩ := r.val he
        exact go w h1 (by unfold slotM; rw [he])
      | own io ds =>
        obtain ⟨p, vs, h1, _⟩ := r.owned he
        exact go _ h1 (by unfold slotM; rw [he])
      | exn x =>
        obtain ⟨a, oe, _, h1, _⟩ := r.sl i _ he
        exact go _ h1 (by unfold slotM; rw [he])
  | _ => exact pe_w h.pe dat
theorem snd_of {e : Expr} {x : IX} (h : PE X e (Rg (kh X T) W (RvOk (kh X T)) (ev G x))) (n : ∀ i, x ≠ .var i) : Snd X T W G e x := ⟨h, fun i z => absurd z (n i)⟩
theorem snd_var {i : Nat} {e : Expr} (h : PE X e (tVar i)) : Snd X T W G e (.var i) := by
  refine ⟨pe_w h fun σ H Q ⟨B, F, pa, env, r, hw⟩ => ?_, fun j z => by cases z; exact h⟩
  unfold ev Wp rdVar at hw
  cases he : env[i]? with
  | none => rw [he] at hw; exact hw.elim
  | some s =>
    rw [he] at hw
    cases s with
    | un => exact hw.elim
    | exn x => exact hw.elim
    | val d =>
      obtain ⟨w, h1, h2⟩ := r.val he
      exact ⟨w, h1, hw w H F (Ex.refl F) ⟨r, h2⟩⟩
    | own io ds =>
      cases io with
      | true => exact hw.elim
      | false =>
        obtain ⟨p, vs, h1, h2, h3, h4, h5, _⟩ := r.owned he
        have e := Ex.new (o := .lst vs) h3
        exact ⟨_, h1, hw _ H _ e ⟨r.freeze he h1 h2 h3 h4 h5, .lst upd_same (h5.mono e)⟩⟩
theorem snd_con {d : D} {v : V} {e : Expr} (h : PE X e (tC v)) (hr : ∀ F, Rep (kh X T) F v d) : Snd X T W G e (.con d) := snd_of (pe_w h fun σ H Q ⟨B, F, pa, env, r, hw⟩ => by
  unfold ev at hw
  exact hw v H F (Ex.refl F) ⟨r, hr F⟩) fun _ z => nomatch z
/-- an operation on two operands -/
theorem two {o : Op2} (ha : Snd X T W G a xa) (hb : Snd X T W G b xb) {σ : L2.St} {H : Hp} {Q : VK} (h : Rg (kh X T) W (RvOk (kh X T)) (ev G (.op o xa xb)) σ H Q) :
    tOp (rD (kh X T) (op2 o)) (Rg (kh X T) W (PO (kh X T)) (opd xa (ev G xa))) (Rg (kh X T) W (PO (kh X T)) (opd xb (ev G xb))) σ H Q := by
  obtain ⟨B, F, pa, env, r, hw⟩ := h
  unfold ev at hw
  rw [Wp.bind] at hw
  refine ⟨B, F, pa, env, r, hw.mono (fun oa env1 hw1 x H1 F1 e1 ⟨r1, p1⟩ => ?_) fun _ _ q => q⟩
  rw [Wp.bind] at hw1
  refine ⟨B, F1, pa, env1, r1, hw1.mono (fun ob env2 hw2 y H2 F2 e2 ⟨r2, p2⟩ => ?_) fun _ _ q => XW.mono e1 q⟩
  rw [Wp.bind] at hw2
  obtain ⟨dx, hx, hw3⟩ := Wp.resM hw2
  rw [Wp.bind] at hw3
  obtain ⟨dy, hy, hw4⟩ := Wp.resM hw3
  obtain ⟨rv, hf, q⟩ := Wp.ofOpt.mp hw4
  exact ⟨B, F2, pa, env2, σ, dx, dy, rv, r2, res_ok r2 (p1.mono e2) hx, res_ok r2 p2 hy, hf, fun v H' F' e' p => q v H' F' ((e1.trans e2).trans e') p⟩
theorem snd_op {o : Op2} {op : Operator} (ho : OpR X (binaryOp op) (rD (kh X T) (op2 o))) (ha : Snd X T W G a xa) (hb : Snd X T W G b xb) : Snd X T W G (.BinOp a op b pos) (.op o xa xb) :=
  snd_of (pe_w (pe_op ho ha.opd hb.opd) fun _ _ _ h => two ha hb h) fun _ z => nomatch z
theorem snd_cmp {o : Op2} {op : CmpOp} (ho : OpR X (compareOp op) (rD (kh X T) (op2 o))) (ha : Snd X T W G a xa) (hb : Snd X T W G b xb) (hm : behindInMarks op b = false) : Snd X T W G (.Compare a [op] [b] pos) (.op o xa xb) :=
  snd_of (pe_w (pe_cmpR ho ha.opd hb.opd hm) fun _ _ _ h => two ha hb h) fun _ z => nomatch z
theorem snd_idx (ha : Snd X T W G a xa) (hb : Snd X T W G b xb) (hs : PlainIx b) : Snd X T W G (.Subscript a b pos) (.op .idx xa xb) :=
  snd_of (pe_w (pe_ix i_idx ha.opd hb.opd hs) fun _ _ _ h => two ha hb h) fun _ z => nomatch z
theorem snd_neg (ha : Snd X T W G a xa) : Snd X T W G (.UnaryOp .USub a pos) (.neg xa) :=
  snd_of (pe_w (pe_un un_neg ha.opd) fun σ H Q ⟨B, F, pa, env, r, hw⟩ => by
    unfold ev at hw
    rw [Wp.bind] at hw
    refine ⟨B, F, pa, env, r, hw.mono (fun oa env1 hw1 x H1 F1 e1 ⟨r1, p1⟩ => ?_) fun _ _ q => q⟩
    rw [Wp.bind] at hw1
    obtain ⟨dx, hx, hw3⟩ := Wp.resM hw1
    have hr := res_ok r1 p1 hx
    cases dx with
    | int i =>
      cases hr.int
      exact ⟨i, rfl, hw3 _ H1 F1 e1 ⟨r1, .int _⟩⟩
    | _ => exact hw3.elim) fun _ z => nomatch z

theorem chain_rd {o1 o2 : Op2} {σ : L2.St} {H : Hp} {Q : VK} (h : Rg (kh X T) W (RvOk (kh X T)) (ev G (.chain o1 o2 xa xb xc)) σ H Q) :
    tChain (rD (kh X T) (op2 o1)) (rD (kh X T) (op2 o2)) (Rg (kh X T) W (PD (kh X T)) (dataM (ev G xa))) (Rg (kh X T) W (PD (kh X T)) (dataM (ev G xb))) (Rg (kh X T) W (PD (kh X T)) (dataM (ev G xc))) σ H Q := by
    obtain ⟨B, F, pa, env, r, hw⟩ := h
    unfold ev at hw
    rw [Wp.bind] at hw
    refine ⟨B, F, pa, env, r, hw.mono (fun x env1 hw1 v1 H1 F1 e1 ⟨r1, p1⟩ => ?_) fun _ _ q => q⟩
    rw [Wp.bind] at hw1
    refine ⟨B, F1, pa, env1, r1, hw1.mono (fun y env2 hw2 v2 H2 F2 e2 ⟨r2, p2⟩ => ?_) fun _ _ q => XW.mono e1 q⟩
    rw [Wp.bind] at hw2
    obtain ⟨rv, hf, hw3⟩ := Wp.ofOpt.mp hw2
    refine ⟨B, F2, pa, env2, σ, x, y, rv, r2, .inl (p1.mono e2), .inl p2, hf, fun z H3 F3 e3 p3 => ?_⟩
    cases rv with
    | new ds => exact hw3.elim
    | val d =>
      cases d with
      | bl k =>
        obtain ⟨r3, p3⟩ := p3
        cases p3
        refine ⟨k, rfl, ?_⟩
        cases k with
        | false => exact hw3 _ H3 F3 ((e1.trans e2).trans e3) ⟨r3, .bl _⟩
        | true =>
          rw [if_pos rfl]
          replace hw3 : Wp ((dataM (ev G xc)).bind fun z => M.ofOpt (op2 o2 y z)) env2 _ _ := hw3
          rw [Wp.bind] at hw3
          refine ⟨B, F3, pa, env2, r3, hw3.mono (fun w env4 hw4 v4 H4 F4 e4 ⟨r4, p4⟩ => ?_) fun _ _ q => XW.mono ((e1.trans e2).trans e3) q⟩
          obtain ⟨rv', hf', q⟩ := Wp.ofOpt.mp hw4
          exact ⟨B, F4, pa, env4, σ, y, w, rv', r4, .inl ((p2.mono e3).mono e4), .inl p4, hf', fun v H' F' e' p => q v H' F' ((((e1.trans e2).trans e3).trans e4).trans e') p⟩
      | _ => exact hw3.elim
theorem snd_chain {o1 o2 : Op2} {p1 p2 : CmpOp} (h1 : OpR X (compareOp p1) (rD (kh X T) (op2 o1))) (h2 : OpR X (compareOp p2) (rD (kh X T) (op2 o2))) (ha : Snd X T W G a xa) (hb : Snd X T W G b xb) (hc : Snd X T W G c xc) (hm : lastMarks [p1, p2] [b, c] = false) :
    Snd X T W G (.Compare a [p1, p2] [b, c] pos) (.chain o1 o2 xa xb xc) :=
  snd_of (pe_w (pe_chain h1 h2 ha.data hb.data hc.data hm) fun σ H Q h => chain_rd h) fun _ z => nomatch z
theorem snd_and {rest : List Expr} (ha : Snd X T W G a xa) (hb : Snd X T W G (.BoolOp .And (b :: rest) pos) xb) : Snd X T W G (.BoolOp .And (a :: b :: rest) pos) (.and xa xb) :=
  snd_of (pe_w (pe_and ha.pe hb.pe) fun σ H Q ⟨B, F, pa, env, r, hw⟩ => by
    unfold ev at hw
    rw [Wp.bind] at hw
    refine ⟨B, F, pa, env, r, hw.mono (fun rv env1 hw1 v1 H1 F1 e1 p1 => ?_) fun _ _ q => q⟩
    cases rv with
    | new ds => exact hw1.elim
    | val d =>
      cases d with
      | bl k =>
        obtain ⟨r1, p1⟩ := p1
        cases p1
        refine ⟨k, rfl, ?_⟩
        cases k with
        | false => exact hw1 _ H1 F1 e1 ⟨r1, .bl _⟩
        | true =>
          rw [if_pos rfl]
          exact ⟨B, F1, pa, env1, r1, Wp.mono hw1 (fun rv env2 q v H' F' e' p => q v H' F' (e1.trans e') p) fun _ _ q => XW.mono e1 q⟩
      | _ => exact hw1.elim) fun _ z => nomatch z
theorem snd_or {rest : List Expr} (ha : Snd X T W G a xa) (hb : Snd X T W G (.BoolOp .Or (b :: rest) pos) xb) : Snd X T W G (.BoolOp .Or (a :: b :: rest) pos) (.or xa xb) :=
  snd_of (pe_w (pe_or ha.pe hb.pe) fun σ H Q ⟨B, F, pa, env, r, hw⟩ => by
    unfold ev at hw
    rw [Wp.bind] at hw
    refine ⟨B, F, pa, env, r, hw.mono (fun rv env1 hw1 v1 H1 F1 e1 p1 => ?_) fun _ _ q => q⟩
    cases rv with
    | new ds => exact hw1.elim
    | val d =>
      cases d with
      | bl k =>
        obtain ⟨r1, p1⟩ := p1
        cases p1
        refine ⟨k, rfl, ?_⟩
        cases k with
        | true => exact hw1 _ H1 F1 e1 ⟨r1, .bl _⟩
        | false =>
          rw [if_neg (by decide)]
          exact ⟨B, F1, pa, env1, r1, Wp.mono hw1 (fun rv env2 q v H' F' e' p => q v H' F' (e1.trans e') p) fun _ _ q => XW.mono e1 q⟩
      | _ => exact hw1.elim) fun _ z => nomatch z
theorem snd_one {op : BoolOp} (ha : Snd X T W G a xa) : Snd X T W G (.BoolOp op [a] pos) xa := ⟨pe_one ha.pe, fun i e => pe_one (ha.var i e)⟩
theorem snd_not (ha : Snd X T W G a xa) : Snd X T W G (.UnaryOp .Not a pos) (.not xa) :=
  snd_of (pe_w (pe_not ha.pe) fun σ H Q ⟨B, F, pa, env, r, hw⟩ => by
    unfold ev at hw
    rw [Wp.bind] at hw
    refine ⟨B, F, pa, env, r, hw.mono (fun rv env1 hw1 v1 H1 F1 e1 p1 => ?_) fun _ _ q => q⟩
    cases rv with
    | new ds => exact hw1.elim
    | val d =>
      cases d with
      | bl k =>
        obtain ⟨r1, p1⟩ := p1
        cases p1
        exact ⟨k, rfl, hw1 _ H1 F1 e1 ⟨r1, .bl _⟩⟩
      | _ => exact hw1.elim) fun _ z => nomatch z
/-! tests -/
def SndT (X : Cx) (T : Nat → Value) (W : L2.WX) (G : Gx) (a : Expr) (x : IT) : Prop := PT X a (RgT (kh X T) W (evT G x))
variable {ta tb tc : IT}
/-- and, or: whatever the whole is -/
def SndW (X : Cx) (T : Nat → Value) (W : L2.WX) (G : Gx) (a : Expr) (x : IT) : Prop := PW X a (RgT (kh X T) W (evT G x))
theorem st_tru (ha : Snd X T W G a xa) (he : ∀ whole, isTrue a X.env whole = (do let v ← whole; standAt a.pos; holding [v] (truthy v))) : SndT X T W G a (.tru xa) :=
  pt_w (pt_truth ha.opd he) fun σ H Q ⟨B, F, pa, env, r, hw⟩ => by
    unfold evT at hw
    rw [Wp.bind] at hw
    refine ⟨B, F, pa, env, r, hw.mono (fun oa env1 hw1 x H1 F1 e1 ⟨r1, p1⟩ => ?_) fun _ _ q => q⟩
    rw [Wp.bind] at hw1
    obtain ⟨dx, hx, hw3⟩ := Wp.resM hw1
    obtain ⟨k, hf, q⟩ := Wp.ofOpt.mp hw3
    exact ⟨k, tru_rep r1.fh (res_ok r1 p1 hx) hf, q H1 F1 e1 r1⟩
/-- a comparison -/
theorem st_cmp {o : Op2} {op : CmpOp} (ho : OpR X (compareOp op) (rD (kh X T) (op2 o))) (ha : Snd X T W G a xa) (hb : Snd X T W G b xb) (hm : behindInMarks op b = false) (hbl : ∀ x y rv, op2 o x y = some rv → ∃ k, rv = .val (.bl k)) :
    SndT X T W G (.Compare a [op] [b] pos) (.tru (.op o xa xb)) :=
  pt_w (pt_cmpR ho ha.opd hb.opd hm) fun σ H Q ⟨B, F, pa, env, r, hw⟩ => by
    unfold evT opd at hw
    rw [Wp.bind, Wp.bind] at hw
    refine two (Q := fun x H' => ∃ k, x = .bl k ∧ Q k H') ha hb ⟨B, F, pa, env, r, ?_⟩
    have key : Wp (ev G (.op o xa xb)) env (fun rv env1 => (∃ k, rv = .val (.bl k)) ∧ Wp (M.ret (Opd.val rv.d)) env1 (fun oa env2 => Wp ((resM oa).bind fun x => M.ofOpt (truth x)) env2 (fun k env' => ∀ H' F', Ex F F' → Rel (kh X T) B F' pa env' σ H' → Q k H') (XW (kh X T) W B F pa σ)) (XW (kh X T) W B F pa σ)) (XW (kh X T) W B F pa σ) := by
      unfold ev at hw ⊢
      rw [Wp.bind] at hw ⊢
      refine hw.mono (fun oa env1 h1 => ?_) fun _ _ q => q
      rw [Wp.bind] at h1 ⊢
      refine h1.mono (fun ob env2 h2 => ?_) fun _ _ q => q
      rw [Wp.bind] at h2 ⊢
      refine h2.mono (fun x env3 h3 => ?_) fun _ _ q => q
      rw [Wp.bind] at h3 ⊢
      refine h3.mono (fun y env4 h4 => ?_) fun _ _ q => q
      obtain ⟨rv, hf, h5⟩ := Wp.ofOpt.mp h4
      exact Wp.ofOpt.mpr ⟨rv, hf, hbl _ _ _ hf, h5⟩
    refine key.mono (fun rv env1 ⟨⟨k, e⟩, h1⟩ v H' F' e' p => ?_) fun _ _ q => q
    subst e
    obtain ⟨r', p'⟩ := p
    cases p'
    rw [Wp.ret, Wp.bind] at h1
    obtain ⟨dx, hx, h2⟩ := Wp.resM h1
    cases hx
    obtain ⟨k', hk, h3⟩ := Wp.ofOpt.mp h2
    cases hk
    exact ⟨k, rfl, h3 H' F' e' r'⟩
theorem st_not (ha : SndT X T W G a ta) : SndT X T W G (.UnaryOp .Not a pos) (.not ta) :=
  pt_w (pt_not ha) fun σ H Q ⟨B, F, pa, env, r, hw⟩ => by
    unfold evT at hw
    rw [Wp.bind] at hw
    exact ⟨B, F, pa, env, r, hw.mono (fun k env1 hw1 => hw1) fun _ _ q => q⟩
theorem sw_and1 (ha : SndT X T W G a ta) : SndW X T W G (.BoolOp .And [a] pos) ta := pw_and1 ha
theorem sw_or1 (ha : SndT X T W G a ta) : SndW X T W G (.BoolOp .Or [a] pos) ta := pw_or1 ha
theorem sw_and {rest : List Expr} (ha : SndT X T W G a ta) (hb : SndW X T W G (.BoolOp .And (b :: rest) pos) tb) : SndW X T W G (.BoolOp .And (a :: b :: rest) pos) (.and ta tb) :=
  pw_w (pw_and ha hb) fun σ H Q ⟨B, F, pa, env, r, hw⟩ => by
    unfold evT at hw
    rw [Wp.bind] at hw
    refine ⟨B, F, pa, env, r, hw.mono (fun k env1 hw1 H1 F1 e1 r1 => ?_) fun _ _ q => q⟩
    cases k with
    | false => exact hw1 H1 F1 e1 r1
    | true =>
      rw [if_pos rfl]
      exact ⟨B, F1, pa, env1, r1, Wp.mono hw1 (fun rv env2 q H' F' e' p => q H' F' (e1.trans e') p) fun _ _ q => XW.mono e1 q⟩
theorem sw_or {rest : List Expr} (ha : SndT X T W G a ta) (hb : SndW X T W G (.BoolOp .Or (b :: rest) pos) tb) : SndW X T W G (.BoolOp .Or (a :: b :: rest) pos) (.or ta tb) :=
  pw_w (pw_or ha hb) fun σ H Q ⟨B, F, pa, env, r, hw⟩ => by
    unfold evT at hw
    rw [Wp.bind] at hw
    refine ⟨B, F, pa, env, r, hw.mono (fun k env1 hw1 H1 F1 e1 r1 => ?_) fun _ _ q => q⟩
    cases k with
    | true => exact hw1 H1 F1 e1 r1
    | false =>
      rw [if_neg (by decide)]
      exact ⟨B, F1, pa, env1, r1, Wp.mono hw1 (fun rv env2 q H' F' e' p => q H' F' (e1.trans e') p) fun _ _ q => XW.mono e1 q⟩
theorem snd_ite (hc : SndT X T W G c tc) (ha : Snd X T W G a xa) (hb : Snd X T W G b xb) : Snd X T W G (.IfExp c a b pos) (.ite tc xa xb) :=
  snd_of (pe_w (pe_ifExp hc ha.pe hb.pe) fun σ H Q ⟨B, F, pa, env, r, hw⟩ => by
    unfold ev at hw
    rw [Wp.bind] at hw
    refine ⟨B, F, pa, env, r, hw.mono (fun k env1 hw1 H1 F1 e1 r1 => ?_) fun _ _ q => q⟩
    have tail : ∀ m : M RV, Wp m env1 (fun a env' => ∀ v H' F', Ex F F' → RvOk (kh X T) B F' pa env' σ H' a v → Q v H') (XW (kh X T) W B F pa σ) → Rg (kh X T) W (RvOk (kh X T)) m σ H1 Q := fun m h =>
      ⟨B, F1, pa, env1, r1, Wp.mono h (fun rv env2 q v H' F' e' p => q v H' F' (e1.trans e') p) fun _ _ q => XW.mono e1 q⟩
    cases k with
    | true => exact tail _ hw1
    | false => exact tail _ hw1) fun _ z => nomatch z
end
end Dl

set_option maxHeartbeats 2000000
/-! DlE: arguments, built-ins, methods, displays. -/
namespace Dl
open PySem PySem.Spec PyProof.Rows L2
open Evl (Ex)

section
variable {X : Cx} {T : Nat → Value} {W : L2.WX} {G : Gx} {a b c : Expr} {xa xb xc : IX} {pos : Pos} {as : List Expr} {xs : List IX}
def SndA (X : Cx) (T : Nat → Value) (W : L2.WX) (G : Gx) (as : List Expr) (xs : List IX) : Prop := PA X as (RgA (kh X T) W (evA G xs))
def SndD (X : Cx) (T : Nat → Value) (W : L2.WX) (G : Gx) (as : List Expr) (xs : List IX) : Prop := PA X as (RgD (kh X T) W (evD G xs))
def SndP (X : Cx) (T : Nat → Value) (W : L2.WX) (G : Gx) (a : Option Expr) (x : Option IX) : Prop := PO' X a (RgP (kh X T) W (evP G x))
  where PO' (X : Cx) (a : Option Expr) (t : TO) : Prop := L2.PO X a t
theorem sa_nil : SndA X T W G [] [] := pa_w pa_nil fun σ H Q ⟨B, F, pa, env, r, hw⟩ => by
  unfold evA at hw
  exact hw [] H F (Ex.refl F) r .nil
theorem sa_cons (ha : Snd X T W G a xa) (hr : SndA X T W G as xs) (hs : starEach (a :: as) X.env = (false, eval a X.env) :: starEach as X.env) : SndA X T W G (a :: as) (xa :: xs) :=
  pa_w (pa_cons ha.opd hr hs) fun σ H Q ⟨B, F, pa, env, r, hw⟩ => by
    unfold evA at hw
    rw [Wp.bind] at hw
    refine ⟨B, F, pa, env, r, hw.mono (fun oa env1 hw1 x H1 F1 e1 ⟨r1, p1⟩ => ?_) fun _ _ q => q⟩
    rw [Wp.bind] at hw1
    refine ⟨B, F1, pa, env1, r1, hw1.mono (fun os env2 hw2 vs H2 F2 e2 r2 p2 => ?_) fun _ _ q => XW.mono e1 q⟩
    exact hw2 (x :: vs) H2 F2 (e1.trans e2) r2 (.cons (p1.mono e2) p2)
theorem sd_nil : SndD X T W G [] [] := pa_w pa_nil fun σ H Q ⟨B, F, pa, env, r, hw⟩ => by
  unfold evD at hw
  exact hw [] H F (Ex.refl F) r .nil
theorem sd_cons (ha : Snd X T W G a xa) (hr : SndD X T W G as xs) (hs : starEach (a :: as) X.env = (false, eval a X.env) :: starEach as X.env) : SndD X T W G (a :: as) (xa :: xs) :=
  pa_w (pa_cons ha.data hr hs) fun σ H Q ⟨B, F, pa, env, r, hw⟩ => by
    unfold evD at hw
    rw [Wp.bind] at hw
    refine ⟨B, F, pa, env, r, hw.mono (fun oa env1 hw1 x H1 F1 e1 ⟨r1, p1⟩ => ?_) fun _ _ q => q⟩
    rw [Wp.bind] at hw1
    refine ⟨B, F1, pa, env1, r1, hw1.mono (fun os env2 hw2 vs H2 F2 e2 r2 p2 => ?_) fun _ _ q => XW.mono e1 q⟩
    exact hw2 (x :: vs) H2 F2 (e1.trans e2) r2 (.cons (p1.mono e2) p2)
theorem evD_len : ∀ {xs : List IX} {env : Envs} {q : List D → Envs → Prop} {e : Exn → Envs → Prop}, Wp (evD G xs) env q e → Wp (evD G xs) env (fun ds env' => ds.length = xs.length ∧ q ds env') e
  | [], env, q, e, h => by
    unfold evD at h ⊢
    exact ⟨rfl, h⟩
  | x :: xs, env, q, e, h => by
    unfold evD at h ⊢
    rw [Wp.bind] at h ⊢
    refine h.mono (fun d env1 h1 => ?_) fun _ _ q => q
    rw [Wp.bind] at h1 ⊢
    refine (evD_len h1).mono (fun ds env2 h2 => ?_) fun _ _ q => q
    obtain ⟨hl, h2⟩ := h2
    refine ⟨?_, h2⟩
    rw [List.length_cons, List.length_cons, hl]
theorem snd_tup {k : Nat} (h : SndD X T W G as xs) (hl : xs.length ≤ LIM) : Snd X T W G (.Tuple as k pos) (.tup xs) :=
  snd_of (pe_w (pe_tup h) fun σ H Q ⟨B, F, pa, env, r, hw⟩ => by
    unfold ev at hw
    rw [Wp.bind] at hw
    refine ⟨B, F, pa, env, r, (evD_len hw).mono (fun ds env1 ⟨hn, hw1⟩ vs H1 F1 e1 r1 p1 => ?_) fun _ _ q => q⟩
    refine ⟨by rw [p1.length, hn]; exact lim_le hl, fun p hp => ?_⟩
    exact newT r1 (fun v H' F' e' q => hw1 v H' F' (e1.trans e') q) rfl hp p1) fun _ z => nomatch z
theorem snd_lst (h : SndD X T W G as xs) (hl : xs.length ≤ LIM) : Snd X T W G (.List as pos) (.lst xs) :=
  snd_of (pe_w (pe_lst h) fun σ H Q ⟨B, F, pa, env, r, hw⟩ => by
    unfold ev at hw
    rw [Wp.bind] at hw
    refine ⟨B, F, pa, env, r, (evD_len hw).mono (fun ds env1 ⟨hn, hw1⟩ vs H1 F1 e1 r1 p1 => ?_) fun _ _ q => q⟩
    refine ⟨by rw [p1.length, hn]; exact lim_le hl, fun p hp => ?_⟩
    exact newL r1 (fun v H' F' e' q => hw1 v H' F' (e1.trans e') q) rfl hp p1) fun _ z => nomatch z
/-- arguments, then an operation on them -/
theorem args_then {f : List D → Option RV} (xs : List IX) {σ : L2.St} {H : Hp} {Q : VK} (h : Rg (kh X T) W (RvOk (kh X T)) ((evA G xs).bind fun os => (resAllM os).bind fun ds => M.ofOpt (f ds)) σ H Q) :
    RgA (kh X T) W (evA G xs) σ H fun vs H1 => rDs (kh X T) f vs H1 Q := by
  obtain ⟨B, F, pa, env, r, hw⟩ := h
  rw [Wp.bind] at hw
  refine ⟨B, F, pa, env, r, hw.mono (fun os env1 hw1 vs H1 F1 e1 r1 p1 => ?_) fun _ _ q => q⟩
  rw [Wp.bind] at hw1
  obtain ⟨ds, hd, hw2⟩ := Wp.resAllM hw1
  obtain ⟨rv, hf, q⟩ := Wp.ofOpt.mp hw2
  exact ⟨B, F1, pa, env1, σ, ds, rv, r1, resAll_ok r1 p1 hd, hf, fun v H' F' e' p => q v H' F' (e1.trans e') p⟩
theorem snd_bi {f : Bi} {id : String} {x : Str} {p : Pos} (hc : CallR X (.builtin id) (rDs (kh X T) (bi f))) (hg : Gl X x) (hm : X.mg x = none) (hv : bootBuiltins x = some (.builtin id)) (ha : SndA X T W G (a :: as) xs) (hn : x ≠ "__name__") (hdb : (x == ("__debug__" : Str)) = false)
    (he : starEach (a :: as) X.env = (false, eval a X.env) :: starEach as X.env) (hpl : (backTo pos (starEach as X.env)).any (·.1) = false) : Snd X T W G (.Call (.Name x p) (a :: as) [] pos) (.bi f xs) :=
  snd_of (pe_w (pe_callB hc hg hm hv ha hn hdb he hpl) fun σ H Q h => by
    unfold ev at h
    exact args_then xs h) fun _ z => nomatch z
theorem snd_biTy {f : Bi} {id : String} {x : Str} {p : Pos} (hc : CallR X (.type id) (rDs (kh X T) (bi f))) (hg : Gl X x) (hm : X.mg x = none) (hv : bootBuiltins x = some (.type id)) (ha : SndA X T W G (a :: as) xs) (hn : x ≠ "__name__") (hdb : (x == ("__debug__" : Str)) = false)
    (he : starEach (a :: as) X.env = (false, eval a X.env) :: starEach as X.env) (hpl : (backTo pos (starEach as X.env)).any (·.1) = false) : Snd X T W G (.Call (.Name x p) (a :: as) [] pos) (.bi f xs) :=
  snd_of (pe_w (pe_callTy hc hg hm hv ha hn hdb he hpl) fun σ H Q h => by
    unfold ev at h
    exact args_then xs h) fun _ z => nomatch z
theorem evA_one {x : IX} {env : Envs} {q : List Opd → Envs → Prop} {e : Exn → Envs → Prop} (h : Wp (evA G [x]) env q e) : Wp (opd x (ev G x)) env (fun o env' => q [o] env') e := by
  unfold evA at h
  rw [Wp.bind] at h
  exact h.mono (fun o env1 h1 => h1) fun _ _ q => q
/-- t.m(e) -/
theorem snd_meth {m : Me} {id : String} {name : Str} {apos : Pos} (slot : PySem.Slot "str" name id) (ty : typeOf (.builtin id) = pure (.type "method_descriptor")) (rule : MtR X id (rMe (kh X T) (meth m))) (ho : Snd X T W G a xa) (he : Snd X T W G b xb)
    (hs : starEach [b] X.env = [(false, eval b X.env)]) (hbase : attributeBase a name X.env (eval a X.env) = eval a X.env) (hline : (apos.endLine == pos.line) = true) :
    Snd X T W G (.Call (.Attribute a name apos) [b] [] pos) (.meth m xa [xb]) :=
  snd_of (pe_w (pe_m1 slot ty rule ho.data he.opd hs hbase hline) fun σ H Q ⟨B, F, pa, env, r, hw⟩ => by
    unfold ev at hw
    rw [Wp.bind] at hw
    refine ⟨B, F, pa, env, r, hw.mono (fun d env1 hw1 x H1 F1 e1 ⟨r1, p1⟩ => ?_) fun _ _ q => q⟩
    cases d with
    | str t =>
      cases p1
      refine ⟨⟨t, rfl⟩, ?_⟩
      rw [Wp.bind] at hw1
      refine ⟨B, F1, pa, env1, r1, (evA_one hw1).mono (fun o env2 hw2 y H2 F2 e2 ⟨r2, p2⟩ => ?_) fun _ _ q => XW.mono e1 q⟩
      rw [Wp.bind] at hw2
      obtain ⟨ds, hd, hw3⟩ := Wp.resAllM hw2
      obtain ⟨rv, hf, q⟩ := Wp.ofOpt.mp hw3
      exact ⟨B, F2, pa, env2, σ, .str t, ds, rv, r2, .inl (.str t), resAll_ok r2 (.cons p2 .nil) hd, hf, fun v H' F' e' p => q v H' F' ((e1.trans e2).trans e') p⟩
    | _ => exact hw1.elim) fun _ z => nomatch z
theorem sp_none : SndP X T W G none none := by
  refine ⟨fun pins s σ H Q I ⟨B, F, pa, env, r, hw⟩ => po_none.run pins s σ H Q I ?_⟩
  unfold evP at hw
  exact hw H F (Ex.refl F) r
theorem sp_some (h : Snd X T W G a xa) : SndP X T W G (some a) (some xa) := by
  refine ⟨fun pins s σ H Q I ⟨B, F, pa, env, r, hw⟩ => (po_some h.data).run pins s σ H Q I ?_⟩
  unfold evP at hw
  rw [Wp.bind] at hw
  refine ⟨B, F, pa, env, r, hw.mono (fun d env1 hw1 x H1 F1 e1 ⟨r1, p1⟩ => ?_) fun _ _ q => q⟩
  cases d with
  | int i =>
    cases p1
    exact ⟨i, rfl, hw1 H1 F1 e1 r1⟩
  | _ => exact hw1.elim
theorem snd_slice {lo hi : Option Expr} {xl xh : Option IX} {p2 : Pos} (ha : Snd X T W G a xa) (hl : SndP X T W G lo xl) (hh : SndP X T W G hi xh) : Snd X T W G (.Subscript a (.Slice lo hi none p2) pos) (.slice xa xl xh) :=
  snd_of (pe_w (pe_slice s_cut ha.opd hl hh) fun σ H Q ⟨B, F, pa, env, r, hw⟩ => by
    unfold ev at hw
    rw [Wp.bind] at hw
    refine ⟨B, F, pa, env, r, hw.mono (fun oa env1 hw1 x H1 F1 e1 ⟨r1, p1⟩ => ?_) fun _ _ q => q⟩
    rw [Wp.bind] at hw1
    refine ⟨B, F1, pa, env1, r1, hw1.mono (fun l env2 hw2 H2 F2 e2 r2 => ?_) fun _ _ q => XW.mono e1 q⟩
    rw [Wp.bind] at hw2
    refine ⟨B, F2, pa, env2, r2, hw2.mono (fun u env3 hw3 H3 F3 e3 r3 => ?_) fun _ _ q => XW.mono (e1.trans e2) q⟩
    rw [Wp.bind] at hw3
    obtain ⟨dx, hx, hw4⟩ := Wp.resM hw3
    obtain ⟨rv, hf, q⟩ := Wp.ofOpt.mp hw4
    exact ⟨B, F3, pa, env3, σ, dx, rv, r3, res_ok r3 ((p1.mono e2).mono e3) hx, hf, fun v H' F' e' p => q v H' F' (((e1.trans e2).trans e3).trans e') p⟩) fun _ z => nomatch z
/-- isinstance(x, T), T built in -/
theorem snd_isi {t : Ty} {p p2 : Pos} {y : Str} (hg : Gl X "isinstance") (hm : X.mg "isinstance" = none) (hv : bootBuiltins "isinstance" = some (.builtin "isinstance")) (hy : Gl X y) (hmy : X.mg y = none) (hvy : bootBuiltins y = some (.type t.name)) (hn : y ≠ "__name__") (hdb : (y == ("__debug__" : Str)) = false)
    (ha : Snd X T W G a xa) (he : starEach [a, .Name y p2] X.env = (false, eval a X.env) :: starEach [.Name y p2] X.env) : Snd X T W G (.Call (.Name "isinstance" p) [a, .Name y p2] [] pos) (.isi xa t) :=
  snd_of (pe_w (pe_callB call_isi hg hm hv (pa_cons ha.opd (pa_cons (pe_bltn (v := .ty t.name) hy hmy hvy rfl hn hdb) pa_nil) he) (by decide) (by decide) he) fun σ H Q ⟨B, F, pa, env, r, hw⟩ => by
    unfold ev at hw
    rw [Wp.bind] at hw
    refine ⟨B, F, pa, env, r, hw.mono (fun oa env1 hw1 x H1 F1 e1 ⟨r1, p1⟩ => ?_) fun _ _ q => q⟩
    rw [Wp.bind] at hw1
    obtain ⟨dx, hx, q⟩ := Wp.resM hw1
    exact ⟨x, _, _, _, _, rfl, .ty _, rep_ty ((res_ok r1 p1 hx).full r1.fh), kit_ty (ty_kit dx t), q _ H1 F1 e1 ⟨r1, .bl _⟩⟩) fun _ z => nomatch z
theorem newD {B F H : Hp} {pa : Nat → Addr} {env : Envs} {σ : L2.St} {Q : VK} {kvs : List (Key × V)} {ks : List Key} {ds : List D} {p : Addr} (r : Rel (kh X T) B F pa env σ H) (q : ∀ v H' F', Ex F F' → RvOk (kh X T) B F' pa env σ H' (.val (.dic ks ds)) v → Q v H') (hp : H p = none) (hk : kvs.map (·.1) = ks) (h : Reps (kh X T) F (kvs.map (·.2)) ds) : Q (.ref p) (upd H p (.dK kvs)) := by
  have e1 : Ex F (upd F p (.dK kvs)) := Ex.new (f_none r.fh hp)
  exact q _ _ (upd F p (.dK kvs)) e1 ⟨r.lay hp, .dic upd_same hk (h.mono e1)⟩
theorem snd_dict0 : Snd X T W G (.Dict [] [] pos) (.dic [] []) :=
  snd_of (pe_w pe_dnewK fun σ H Q ⟨B, F, pa, env, r, hw⟩ => by
    unfold ev evD at hw
    exact fun p hp => newD r hw hp rfl .nil) fun _ z => nomatch z
/-- {k: v} -/
theorem snd_dict1 {k : Str} {j : Nat} {p : Pos} (ha : Snd X T W G a xa) : Snd X T W G (.Dict [some (.Constant (.str k) j p)] [a] pos) (.dic [.inr k] [xa]) :=
  snd_of (pe_w (pe_disp (pps_cons (pe_str) ha.data pps_nil) rfl rfl (by simp) (by simp)) fun σ H Q ⟨B, F, pa, env, r, hw⟩ => by
    unfold ev evD at hw
    rw [Wp.bind, Wp.bind] at hw
    intro p hp
    refine ⟨upd B p (.dK []), F, pa, env, r.fresh hp, hw.mono (fun d env1 hw1 y H1 F1 e1 ⟨r1, p1⟩ => ?_) fun x env1 q cls d H' F' e' ⟨h1, h2⟩ => ?_⟩
    · obtain ⟨hp1, hF1⟩ := r1.bh p _ upd_same
      refine ⟨hp1, [(.inr k, y)], rfl, by simp, ?_⟩
      have r2 : Rel (kh X T) (upd B p (.dK [(.inr k, y)])) F1 pa env1 σ (upd H1 p (.dK [(.inr k, y)])) := r1.setB
      have hB := r.b_none hp
      have e2 : Ex F1 (upd F1 p (.dK [(.inr k, y)])) := Ex.new hF1
      exact hw1 _ _ _ (e1.trans e2) ⟨r2.thaw hB, .dic upd_same rfl (.cons (p1.mono e2) .nil)⟩
    · have hB := r.b_none hp
      refine q cls d H' F' e' ⟨h1, ?_⟩
      rcases h2 with ⟨z1, z2, z3⟩ | ⟨dd, fs, z1, z2, z3, z4⟩
      · exact .inl ⟨z1, z2, z3.drop hB⟩
      · have ne : dd ≠ p := fun z => by
          rw [z, upd_same] at z2
          cases z2
        rw [upd_ne ne] at z2
        refine .inr ⟨dd, fs, z1, z2, z3.less fun x o hx => ?_, z4⟩
        by_cases hd : x = dd
        · subst hd
          rw [upd_same] at hx ⊢
          exact hx
        · rw [upd_ne hd] at hx ⊢
          rw [upd_ne (ne_of_none hx hB)]
          exact hx) fun _ z => nomatch z
end
end Dl

set_option maxHeartbeats 2000000
/-! DlF: calls of the text's own defs. -/
namespace Dl
open PySem PySem.Spec PyProof.Rows L2
open Evl (Ex)

/-! ### lists that are lent -/
open Classical in
/-- B, and what stands at the places S -/
noncomputable def BP (B H : Hp) (S : Addr → Prop) : Hp := fun a => if S a then H a else B a
theorem bp_in {B H : Hp} {S : Addr → Prop} {a : Addr} (h : S a) : BP B H S a = H a := if_pos h
theorem bp_out {B H : Hp} {S : Addr → Prop} {a : Addr} (h : ¬ S a) : BP B H S a = B a := if_neg h
section
variable {K : KH} {B B1 B2 F F' H H' : Hp} {pa : Nat → Addr} {env : Envs} {σ : L2.St} {p : Addr} {i : Nat} {ds : List D} {ws : List V} {io : Bool} {S : Addr → Prop}
/-- a name gives its list away -/
theorem Rel.lend (r : Rel K B F pa env σ H) (h : env[i]? = some (.own io ds)) (hp : σ[i]? = some (some (.ref p))) (h1 : B1 p = H p) (h2 : ∀ a, a ≠ p → B1 a = B a) : Rel K B1 F pa (env.set i .un) σ H := by
  obtain ⟨p0, vs, e1, e2, e3, e4, e5, e6⟩ := r.owned h
  rw [hp] at e1
  cases e1
  have isO : ∀ {j : Nat}, IsOwn (env.set i .un)[j]? → i ≠ j ∧ IsOwn env[j]? := fun {j} ⟨io', ds', q⟩ => by
    by_cases hj : i = j
    · subst hj
      have hl : i < env.length := by
        have z := (List.getElem?_eq_some_iff.mp q).1
        rw [List.length_set] at z
        exact z
      rw [List.getElem?_set_self hl] at q
      cases q
    · rw [List.getElem?_set_ne hj] at q
      exact ⟨hj, io', ds', q⟩
  refine ⟨by rw [List.length_set]; exact r.len, r.fh, fun a u q => ?_, fun j s hs => ?_, fun j k p0 a1 a2 a3 a4 => r.sep j k p0 (isO a1).2 (isO a2).2 a3 a4⟩
  · by_cases ha : a = p
    · subst ha
      rw [h1] at q
      exact ⟨q, e3⟩
    · rw [h2 a ha] at q
      exact r.bh a u q
  · by_cases hj : i = j
    · subst hj
      have hl : i < env.length := by
        have z := (List.getElem?_eq_some_iff.mp hs).1
        rw [List.length_set] at z
        exact z
      rw [List.getElem?_set_self hl] at hs
      cases hs
      trivial
    · rw [List.getElem?_set_ne hj] at hs
      have q := r.sl j s hs
      cases s with
      | un => trivial
      | val d => exact q
      | exn x => exact exn_mono q (Ex.refl F)
      | own io' ds' =>
        obtain ⟨p0, vs', a1, a2, a3, a4, a5, a6⟩ := q
        have ne : p0 ≠ p := own_only r h hp ⟨io', ds', hs⟩ a1 hj
        exact ⟨p0, vs', a1, a2, a3, by rw [h2 _ ne]; exact a4, a5, a6⟩
/-- it gets a list back -/
theorem Rel.give (r : Rel K B1 F pa env σ H) (hp : σ[i]? = some (some (.ref p))) (h1 : B1 p = some (.lst ws)) (h2 : B2 p = none) (h3 : Ex B2 B1) (hr : Reps K F ws ds) (hio : io = true → p = pa i) : Rel K B2 F pa (env.set i (.own io ds)) σ H := by
  obtain ⟨hH, hF⟩ := r.bh p _ h1
  have hl : i < env.length := by
    rw [← r.len]
    exact (List.getElem?_eq_some_iff.mp hp).1
  have ne : ∀ {j : Nat} {p0 : Addr}, IsOwn env[j]? → σ[j]? = some (some (V.ref p0)) → p0 ≠ p := fun {j p0} ⟨io', ds', q⟩ e z => by
    obtain ⟨p1, vs, a1, a2, a3, a4, _⟩ := r.owned q
    rw [e] at a1
    cases a1
    rw [z, h1] at a4
    cases a4
  have isO : ∀ {j : Nat}, IsOwn (env.set i (.own io ds))[j]? → i ≠ j → IsOwn env[j]? := fun {j} ⟨io', ds', q⟩ hj => by
    rw [List.getElem?_set_ne hj] at q
    exact ⟨io', ds', q⟩
  have r2 := r.less h3
  refine ⟨by rw [List.length_set]; exact r.len, r.fh, r2.bh, fun j s hs => ?_, fun j k p0 a1 a2 a3 a4 => ?_⟩
  · by_cases hj : i = j
    · subst hj
      rw [List.getElem?_set_self hl] at hs
      cases hs
      exact ⟨p, ws, hp, hH, hF, h2, hr, hio⟩
    · rw [List.getElem?_set_ne hj] at hs
      exact r2.sl j s hs
  · by_cases hj : i = j
    · by_cases hk : i = k
      · exact hj.symm.trans hk
      · subst hj
        rw [hp] at a3
        cases a3
        exact absurd rfl (ne (isO a2 hk) a4)
    · by_cases hk : i = k
      · subst hk
        rw [hp] at a4
        cases a4
        exact absurd rfl (ne (isO a1 hj) a3)
      · exact r.sep j k p0 (isO a1 hj) (isO a2 hk) a3 a4
end

/-! ### the arguments as the callee's slots -/
inductive Bnd (K : KH) (B F H : Hp) (pa : Nat → Addr) (σ : L2.St) : List V → List Slot → List (Option (Nat × Bool)) → List (Option Addr) → Prop
  | nil : Bnd K B F H pa σ [] [] [] []
  | val {v : V} {d : D} {vs : List V} {as : List Slot} {org : List (Option (Nat × Bool))} {Ps : List (Option Addr)} : Rep K F v d → Bnd K B F H pa σ vs as org Ps → Bnd K B F H pa σ (v :: vs) (.val d :: as) (none :: org) (none :: Ps)
  | exn {v : V} {x : Exn} {vs : List V} {as : List Slot} {org : List (Option (Nat × Bool))} {Ps : List (Option Addr)} : SlotOk K B F H pa 0 (some (some v)) (.exn x) → Bnd K B F H pa σ vs as org Ps → Bnd K B F H pa σ (v :: vs) (.exn x :: as) (none :: org) (none :: Ps)
  | io {i : Nat} {p : Addr} {ws : List V} {ds : List D} {io : Bool} {vs : List V} {as : List Slot} {org : List (Option (Nat × Bool))} {Ps : List (Option Addr)} : σ[i]? = some (some (.ref p)) → H p = some (.lst ws) → F p = none → B p = none → Reps K F ws ds →
      (io = true → p = pa i) → some p ∉ Ps → Bnd K B F H pa σ vs as org Ps → Bnd K B F H pa σ (.ref p :: vs) (.own true ds :: as) (some (i, io) :: org) (some p :: Ps)
section
variable {K : KH} {B F F' H : Hp} {pa : Nat → Addr} {σ : L2.St}
theorem set_same {env : Envs} {i : Nat} {s : Slot} (h : env[i]? = some s) : env.set i s = env := by
  apply List.ext_getElem?
  intro j
  by_cases hj : i = j
  · subst hj
    rw [List.getElem?_set_self (List.getElem?_eq_some_iff.mp h).1, h]
  · rw [List.getElem?_set_ne hj]
theorem bindA_ok : ∀ {ms : List Bool} {os : List Opd} {vs : List V} {env env2 : Envs} {as : List Slot} {org : List (Option (Nat × Bool))} {F : Hp} {S : Addr → Prop}, bindA ms os env = some (as, org, env2) → Rel K (BP B H S) F pa env σ H → OpOks K F σ vs os → (∀ a, S a → B a = none) →
    ∃ F' Ps, Ex F F' ∧ Rel K (BP B H fun a => S a ∨ some a ∈ Ps) F' pa env2 σ H ∧ Bnd K B F' H pa σ vs as org Ps ∧ (∀ a, some a ∈ Ps → ¬ S a) ∧ (∀ a, some a ∈ Ps → F' a = none)
  | [], [], vs, env, env2, as, org, F, S, h, r, ho, hS => by
    cases h
    cases ho
    refine ⟨F, [], Ex.refl F, ?_, .nil, fun a z => by simp at z, fun a z => by simp at z⟩
    have e : (fun a => S a ∨ some a ∈ ([] : List (Option Addr))) = S := by
      funext a
      simp
    rw [e]
    exact r
  | false :: ms, .val d :: os, vs, env, env2, as, org, F, S, h, r, ho, hS => by
    unfold bindA at h
    obtain ⟨⟨as', org', env'⟩, h1, h2⟩ := Option.map_eq_some_iff.mp h
    cases h2
    cases ho with
    | cons h3 h4 =>
      obtain ⟨F1, Ps, e1, r1, b1, n1, f1⟩ := bindA_ok h1 r h4 hS
      refine ⟨F1, none :: Ps, e1, ?_, .val (Rep.mono e1 h3) b1, fun a z => n1 a (by simpa using z), fun a z => f1 a (by simpa using z)⟩
      have e : (fun a => S a ∨ some a ∈ (none :: Ps)) = (fun a => S a ∨ some a ∈ Ps) := by
        funext a
        simp
      rw [e]
      exact r1
  | false :: ms, .slot i :: os, vs, env, env2, as, org, F, S, h, r, ho, hS => by
    cases ho with
    | cons h3 h4 =>
      unfold bindA at h
      obtain ⟨a0, ha, h⟩ := Option.bind_eq_some_iff.mp h
      obtain ⟨s0, hs, ha⟩ := Option.bind_eq_some_iff.mp ha
      obtain ⟨⟨as', org', env'⟩, h1, h2⟩ := Option.map_eq_some_iff.mp h
      cases h2
      have eP : ∀ Ps : List (Option Addr), (fun a => S a ∨ some a ∈ (none :: Ps)) = (fun a => S a ∨ some a ∈ Ps) := fun Ps => by
        funext a
        simp
      cases s0 with
      | un => cases ha
      | val d =>
        cases ha
        obtain ⟨w, a1, a2⟩ := r.val hs
        rw [show σ[i]? = some (some _) from h3] at a1
        cases a1
        rw [set_same hs] at h1
        obtain ⟨F1, Ps, e1, r1, b1, n1, f1⟩ := bindA_ok h1 r h4 hS
        exact ⟨F1, none :: Ps, e1, by rw [eP]; exact r1, .val (Rep.mono e1 a2) b1, fun a z => n1 a (by simpa using z), fun a z => f1 a (by simpa using z)⟩
      | own io ds =>
        cases io with
        | true => cases ha
        | false =>
          cases ha
          obtain ⟨p, ws, a1, a2, a3, a4, a5, a6⟩ := r.owned hs
          rw [show σ[i]? = some (some _) from h3] at a1
          cases a1
          have ef : Ex F (upd F p (.lst ws)) := Ex.new a3
          have r' := r.freeze hs h3 a2 a3 a4 a5
          obtain ⟨F1, Ps, e1, r1, b1, n1, f1⟩ := bindA_ok h1 r' (h4.mono ef) hS
          exact ⟨F1, none :: Ps, ef.trans e1, by rw [eP]; exact r1, .val (Rep.mono e1 (.lst upd_same (a5.mono ef))) b1, fun a z => n1 a (by simpa using z), fun a z => f1 a (by simpa using z)⟩
      | exn x =>
        cases ha
        have q := r.sl i _ hs
        rw [show σ[i]? = some (some _) from h3] at q
        rw [set_same hs] at h1
        obtain ⟨F1, Ps, e1, r1, b1, n1, f1⟩ := bindA_ok h1 r h4 hS
        exact ⟨F1, none :: Ps, e1, by rw [eP]; exact r1, .exn (exn_mono q e1) b1, fun a z => n1 a (by simpa using z), fun a z => f1 a (by simpa using z)⟩
  | true :: ms, .slot i :: os, vs, env, env2, as, org, F, S, h, r, ho, hS => by
    cases ho with
    | cons h3 h4 =>
      unfold bindA at h
      obtain ⟨l, ha, h⟩ := Option.bind_eq_some_iff.mp h
      obtain ⟨s0, hs, ha⟩ := Option.bind_eq_some_iff.mp ha
      obtain ⟨⟨as', org', env'⟩, h1, h2⟩ := Option.map_eq_some_iff.mp h
      cases h2
      cases s0 with
      | un => cases ha
      | val d => cases ha
      | exn x => cases ha
      | own io ds =>
        cases ha
        obtain ⟨p, ws, a1, a2, a3, a4, a5, a6⟩ := r.owned hs
        rw [show σ[i]? = some (some _) from h3] at a1
        cases a1
        have nS : ¬ S p := fun z => by
          rw [bp_in z, a2] at a4
          cases a4
        have hB : B p = none := by
          rw [bp_out nS] at a4
          exact a4
        have r' : Rel K (BP B H fun a => S a ∨ a = p) F pa (env.set i .un) σ H := r.lend hs h3 (bp_in (.inr rfl)) fun a ne => by
          by_cases z : S a
          · rw [bp_in (show S a ∨ a = p from .inl z), bp_in z]
          · rw [bp_out (fun z' => z'.elim z ne), bp_out z]
        obtain ⟨F1, Ps, e1, r1, b1, n1, f1⟩ := bindA_ok h1 r' h4 (fun a z => z.elim (hS a) fun e => by rw [e]; exact hB)
        have hF1 : F1 p = none := (r1.bh p (.lst ws) (by rw [bp_in (.inl (.inr rfl))]; exact a2)).2
        refine ⟨F1, some p :: Ps, e1, ?_, .io h3 a2 hF1 hB (a5.mono e1) a6 (fun z => n1 p z (.inr rfl)) b1, fun a z q => ?_, fun a z => ?_⟩
        · have e : (fun a => S a ∨ some a ∈ (some p :: Ps)) = (fun a => (S a ∨ a = p) ∨ some a ∈ Ps) := by
            funext a
            simp [or_assoc]
          rw [e]
          exact r1
        · rcases List.mem_cons.mp z with z | z
          · cases z
            exact nS q
          · exact n1 a z (.inl q)
        · rcases List.mem_cons.mp z with z | z
          · cases z
            exact hF1
          · exact f1 a z
  | [], _ :: _, _, _, _, _, _, _, _, h, _, _, _ => by cases h
  | true :: _, .val _ :: _, _, _, _, _, _, _, _, h, _, _, _ => by cases h
  | true :: _, [], _, _, _, _, _, _, _, h, _, _, _ => by cases h
  | false :: _, [], _, _, _, _, _, _, _, h, _, _, _ => by cases h

/-! the callee's state -/
theorem Bnd.length {vs : List V} {as : List Slot} {org : List (Option (Nat × Bool))} {Ps : List (Option Addr)} (b : Bnd K B F H pa σ vs as org Ps) : vs.length = as.length ∧ org.length = as.length ∧ Ps.length = as.length := by
  induction b with
  | nil => exact ⟨rfl, rfl, rfl⟩
  | val _ _ ih => exact ⟨congrArg (· + 1) ih.1, congrArg (· + 1) ih.2.1, congrArg (· + 1) ih.2.2⟩
  | exn _ _ ih => exact ⟨congrArg (· + 1) ih.1, congrArg (· + 1) ih.2.1, congrArg (· + 1) ih.2.2⟩
  | io _ _ _ _ _ _ _ _ ih => exact ⟨congrArg (· + 1) ih.1, congrArg (· + 1) ih.2.1, congrArg (· + 1) ih.2.2⟩
/-- what stands at a place -/
theorem Bnd.at {vs : List V} {as : List Slot} {org : List (Option (Nat × Bool))} {Ps : List (Option Addr)} (b : Bnd K B F H pa σ vs as org Ps) : ∀ (k : Nat) (s : Slot), as[k]? = some s →
    ((∃ d v, s = .val d ∧ vs[k]? = some v ∧ Rep K F v d) ∨ ∃ x v, s = .exn x ∧ vs[k]? = some v ∧ SlotOk K B F H pa 0 (some (some v)) (.exn x)) ∨ ∃ ds p ws, s = .own true ds ∧ vs[k]? = some (.ref p) ∧ Ps[k]? = some (some p) ∧ H p = some (.lst ws) ∧ F p = none ∧ B p = none ∧ Reps K F ws ds := by
  induction b with
  | nil => intro k s h; simp at h
  | val h b ih =>
    intro k s hs
    cases k with
    | zero => simp at hs; exact .inl (.inl ⟨_, _, hs.symm, rfl, h⟩)
    | succ k => exact ih k s (by simpa using hs)
  | exn h b ih =>
    intro k s hs
    cases k with
    | zero => simp at hs; exact .inl (.inr ⟨_, _, hs.symm, rfl, h⟩)
    | succ k => exact ih k s (by simpa using hs)
  | io h1 h2 h3 h4 h5 h6 h7 b ih =>
    intro k s hs
    cases k with
    | zero => simp at hs; exact .inr ⟨_, _, _, hs.symm, rfl, rfl, h2, h3, h4, h5⟩
    | succ k => exact ih k s (by simpa using hs)
theorem Bnd.inj {vs : List V} {as : List Slot} {org : List (Option (Nat × Bool))} {Ps : List (Option Addr)} (b : Bnd K B F H pa σ vs as org Ps) : ∀ (j k : Nat) (p : Addr), Ps[j]? = some (some p) → Ps[k]? = some (some p) → j = k := by
  induction b with
  | nil => intro j k p h; simp at h
  | val h b ih =>
    intro j k p h1 h2
    cases j with
    | zero => simp at h1
    | succ j =>
      cases k with
      | zero => simp at h2
      | succ k => exact congrArg (· + 1) (ih j k p (by simpa using h1) (by simpa using h2))
  | exn h b ih =>
    intro j k p h1 h2
    cases j with
    | zero => simp at h1
    | succ j =>
      cases k with
      | zero => simp at h2
      | succ k => exact congrArg (· + 1) (ih j k p (by simpa using h1) (by simpa using h2))
  | io a1 a2 a3 a4 a5 a6 a7 b ih =>
    intro j k p h1 h2
    cases j with
    | zero =>
      cases k with
      | zero => rfl
      | succ k =>
        simp only [List.getElem?_cons_zero, Option.some.injEq] at h1
        rw [List.getElem?_cons_succ, ← h1] at h2
        exact absurd (List.mem_of_getElem? h2) a7
    | succ j =>
      cases k with
      | zero =>
        simp only [List.getElem?_cons_zero, Option.some.injEq] at h2
        rw [List.getElem?_cons_succ, ← h2] at h1
        exact absurd (List.mem_of_getElem? h1) a7
      | succ k => exact congrArg (· + 1) (ih j k p (by simpa using h1) (by simpa using h2))
open Classical in
/-- what a caller keeps from its callee: its own lists that it did not lend, and its background -/
noncomputable def Bc (B H : Hp) (env2 : Envs) (σ : L2.St) (Ps : List (Option Addr)) : Hp := fun a => if some a ∈ Ps then none else if (∃ j : Nat, IsOwn env2[j]? ∧ σ[j]? = some (some (V.ref a))) then H a else B a
def refAt (vs : List V) (k : Nat) : Addr := match vs[k]? with
  | some (.ref p) => p
  | _ => 0
theorem callee_rel {env2 : Envs} {vs : List V} {as : List Slot} {org : List (Option (Nat × Bool))} {Ps : List (Option Addr)} (r : Rel K (BP B H fun a => some a ∈ Ps) F pa env2 σ H) (b : Bnd K B F H pa σ vs as org Ps) :
    Rel K (Bc B H env2 σ Ps) F (refAt vs) as (vs.map some) H := by
  refine ⟨by rw [List.length_map]; exact b.length.1, r.fh, fun a o h => ?_, fun k s hs => ?_, fun j k p h1 h2 h3 h4 => ?_⟩
  · unfold Bc at h
    split at h
    · cases h
    · rename_i n
      split at h
      · rename_i z
        obtain ⟨j, ⟨io, ds, hj⟩, hp⟩ := z
        obtain ⟨p, ws, a1, a2, a3, _⟩ := r.owned hj
        rw [hp] at a1
        cases a1
        exact ⟨h, a3⟩
      · exact r.bh a o (by rw [bp_out n]; exact h)
  · rcases b.at k s hs with (⟨d, v, rfl, h1, h2⟩ | ⟨x, v, rfl, h1, h2⟩) | ⟨ds, p, ws, rfl, h1, h2, h3, h4, h5, h6⟩
    · exact ⟨v, by rw [List.getElem?_map, h1]; rfl, h2⟩
    · rw [List.getElem?_map, h1]
      exact exn_mono h2 (Ex.refl F)
    · refine ⟨p, ws, by rw [List.getElem?_map, h1]; rfl, h3, h4, ?_, h6, fun _ => ?_⟩
      · unfold Bc
        rw [if_pos (List.mem_of_getElem? h2)]
      · unfold refAt
        rw [h1]
  · obtain ⟨io1, ds1, e1⟩ := h1
    obtain ⟨io2, ds2, e2⟩ := h2
    rcases b.at j _ e1 with (⟨_, _, z, _⟩ | ⟨_, _, z, _⟩) | ⟨_, p1, _, _, a1, a2, _⟩
    · cases z
    · cases z
    · rcases b.at k _ e2 with (⟨_, _, z, _⟩ | ⟨_, _, z, _⟩) | ⟨_, p2, _, _, b1, b2, _⟩
      · cases z
      · cases z
      · rw [List.getElem?_map, a1] at h3
        rw [List.getElem?_map, b1] at h4
        cases h3
        cases h4
        exact b.inj j k p a2 b2
theorem bc_none {env2 : Envs} {Ps : List (Option Addr)} {a : Addr} (h : Bc B H env2 σ Ps a = none) (hB : ∀ a, some a ∈ Ps → B a = none) (ho : ∀ (j : Nat) (p : Addr), IsOwn env2[j]? → σ[j]? = some (some (V.ref p)) → H p ≠ none) : B a = none := by
  by_cases n : some a ∈ Ps
  · exact hB a n
  · unfold Bc at h
    rw [if_neg n] at h
    split at h
    · rename_i z
      obtain ⟨j, h1, h2⟩ := z
      exact absurd h (ho j a h1 h2)
    · exact h
/-- behind it: the lists that came back stand by -/
theorem caller_rel {H' : Hp} {env2 outs : Envs} {Ps : List (Option Addr)} {X1 : Hp} {pa' : Nat → Addr} {τ : L2.St} (r : Rel K (BP B H fun a => some a ∈ Ps) F pa env2 σ H) (e : Ex F F')
    (hB : ∀ a, some a ∈ Ps → B a = none) (rc : Rel K X1 F' pa' outs τ H') (hX : Ex (Bc B H env2 σ Ps) X1) (S : Addr → Prop) (hS : ∀ a, S a → some a ∈ Ps) (hF : ∀ a, S a → F' a = none) {Z : Hp} (hZ1 : ∀ a, S a → Z a = H' a)
    (hZ2 : ∀ a, ¬ S a → Z a = B a ∨ (Bc B H env2 σ Ps a = none ∧ Z a = X1 a)) : Rel K Z F' pa env2 σ H' := by
  have own : ∀ (j : Nat) (io : Bool) (ds : List D), env2[j]? = some (.own io ds) → ∃ p ws, σ[j]? = some (some (.ref p)) ∧ H' p = some (.lst ws) ∧ F' p = none ∧ B p = none ∧ Reps K F' ws ds ∧ (io = true → p = pa j) ∧ some p ∉ Ps ∧ Bc B H env2 σ Ps p = some (.lst ws) := fun j io ds h => by
    obtain ⟨p, ws, a1, a2, a3, a4, a5, a6⟩ := r.owned h
    have n : some p ∉ Ps := fun z => by
      have z' : (fun a => some a ∈ Ps) p := z
      rw [bp_in z', a2] at a4
      cases a4
    have q : Bc B H env2 σ Ps p = some (.lst ws) := by
      unfold Bc
      rw [if_neg n, if_pos ⟨j, ⟨io, ds, h⟩, a1⟩]
      exact a2
    obtain ⟨b1, b2⟩ := rc.bh p _ (hX p _ q)
    rw [bp_out n] at a4
    exact ⟨p, ws, a1, b1, b2, a4, a5.mono e, a6, n, q⟩
  refine ⟨r.len, rc.fh, fun a o h => ?_, fun j s hs => ?_, r.sep⟩
  · by_cases z : S a
    · rw [hZ1 a z] at h
      exact ⟨h, hF a z⟩
    · rcases hZ2 a z with z2 | ⟨_, z2⟩
      · rw [z2] at h
        have n : some a ∉ Ps := fun z' => by
          rw [hB a z'] at h
          cases h
        have no : ¬ ∃ j : Nat, IsOwn env2[j]? ∧ σ[j]? = some (some (V.ref a)) := fun ⟨j, ⟨io, ds, hj⟩, hp⟩ => by
          obtain ⟨p, ws, a1, _, _, a4, _⟩ := own j io ds hj
          rw [hp] at a1
          cases a1
          rw [a4] at h
          cases h
        have q : Bc B H env2 σ Ps a = some o := by
          unfold Bc
          rw [if_neg n, if_neg no]
          exact h
        exact rc.bh a o (hX a o q)
      · rw [z2] at h
        exact rc.bh a o h
  · cases s with
    | un => trivial
    | exn x => exact exn_mono (r.sl j _ hs) e
    | val d =>
      obtain ⟨v, a1, a2⟩ := r.val hs
      exact ⟨v, a1, a2.mono e⟩
    | own io ds =>
      obtain ⟨p, ws, a1, a2, a3, a4, a5, a6, n, q⟩ := own j io ds hs
      refine ⟨p, ws, a1, a2, a3, ?_, a5, a6⟩
      rcases hZ2 p fun z => n (hS p z) with z | ⟨z, _⟩
      · rw [z]
        exact a4
      · rw [q] at z
        cases z
/-- the places of the lists that come back -/
def gb : List (Option Addr) → List Slot → List Addr
  | some p :: Ps, .own true _ :: outs => p :: gb Ps outs
  | _ :: Ps, _ :: outs => gb Ps outs
  | _, _ => []
theorem gb_mem : ∀ {Ps : List (Option Addr)} {outs : List Slot} {a : Addr}, a ∈ gb Ps outs → some a ∈ Ps ∧ ∃ (k : Nat) (ds : List D), outs[k]? = some (Slot.own true ds) ∧ Ps[k]? = some (some a)
  | [], _, a, h => by simp [gb] at h
  | some p :: Ps, [], a, h => by simp [gb] at h
  | none :: Ps, [], a, h => by simp [gb] at h
  | none :: Ps, s :: outs, a, h => by
    obtain ⟨h1, k, ds, h2, h3⟩ := gb_mem (Ps := Ps) (outs := outs) (a := a) (by simpa [gb] using h)
    exact ⟨List.mem_cons_of_mem _ h1, k + 1, ds, by simpa using h2, by simpa using h3⟩
  | some p :: Ps, s :: outs, a, h => by
    have tail : a ∈ gb Ps outs → some a ∈ some p :: Ps ∧ ∃ (k : Nat) (ds : List D), (s :: outs)[k]? = some (Slot.own true ds) ∧ (some p :: Ps)[k]? = some (some a) := fun h => by
      obtain ⟨h1, k, ds, h2, h3⟩ := gb_mem (Ps := Ps) (outs := outs) (a := a) h
      exact ⟨List.mem_cons_of_mem _ h1, k + 1, ds, by simpa using h2, by simpa using h3⟩
    cases s with
    | un => exact tail (by simpa [gb] using h)
    | val d => exact tail (by simpa [gb] using h)
    | exn x => exact tail (by simpa [gb] using h)
    | own io ds =>
      cases io with
      | false => exact tail (by simpa [gb] using h)
      | true =>
        rcases List.mem_cons.mp (show a ∈ p :: gb Ps outs from h) with e | h
        · subst e
          exact ⟨List.mem_cons_self, 0, ds, rfl, rfl⟩
        · exact tail h
theorem back_ok {H' Z0 : Hp} {vs : List V} {as : List Slot} {org : List (Option (Nat × Bool))} {Ps : List (Option Addr)} (b : Bnd K B F H pa σ vs as org Ps) : ∀ {outs : List Slot} {env2 : Envs},
    (∀ (k : Nat) (ds : List D), outs[k]? = some (Slot.own true ds) → ∃ p ws, vs[k]? = some (V.ref p) ∧ H' p = some (.lst ws) ∧ Reps K F' ws ds) → Rel K (BP Z0 H' (· ∈ gb Ps outs)) F' pa env2 σ H' → (∀ a ∈ gb Ps outs, Z0 a = none) → outs.length = as.length → Rel K Z0 F' pa (back org outs env2) σ H' := by
  induction b with
  | nil =>
    intro outs env2 hk r hz hl
    cases outs with
    | nil =>
      have e : BP Z0 H' (· ∈ gb [] []) = Z0 := funext fun a => bp_out (by simp [gb])
      rw [e] at r
      exact r
    | cons s outs => simp at hl
  | val h b ih =>
    intro outs env2 hk r hz hl
    cases outs with
    | nil => simp at hl
    | cons s outs =>
      have e : ∀ Ps, gb (none :: Ps) (s :: outs) = gb Ps outs := fun _ => by simp [gb]
      rw [e] at r hz
      have e2 : ∀ org, back (none :: org) (s :: outs) env2 = back org outs env2 := fun _ => by simp [back]
      rw [e2]
      exact ih (fun k ds q => hk (k + 1) ds (by simpa using q)) r hz (by simpa using hl)
  | exn h b ih =>
    intro outs env2 hk r hz hl
    cases outs with
    | nil => simp at hl
    | cons s outs =>
      have e : ∀ Ps, gb (none :: Ps) (s :: outs) = gb Ps outs := fun _ => by simp [gb]
      rw [e] at r hz
      have e2 : ∀ org, back (none :: org) (s :: outs) env2 = back org outs env2 := fun _ => by simp [back]
      rw [e2]
      exact ih (fun k ds q => hk (k + 1) ds (by simpa using q)) r hz (by simpa using hl)
  | @io i p ws ds io vs as org Ps h1 h2 h3 h4 h5 h6 h7 b ih =>
    intro outs env2 hk r hz hl
    cases outs with
    | nil => simp at hl
    | cons s outs =>
      have skip : gb (some p :: Ps) (s :: outs) = gb Ps outs → back (some (i, io) :: org) (s :: outs) env2 = back org outs env2 → Rel K Z0 F' pa (back (some (i, io) :: org) (s :: outs) env2) σ H' := fun e1 e2 => by
        rw [e1] at r hz
        rw [e2]
        exact ih (fun k ds q => hk (k + 1) ds (by simpa using q)) r hz (by simpa using hl)
      cases s with
      | un => exact skip (by simp [gb]) (by simp [back])
      | val d => exact skip (by simp [gb]) (by simp [back])
      | exn x => exact skip (by simp [gb]) (by simp [back])
      | own io' ds' =>
        cases io' with
        | false => exact skip (by simp [gb]) (by simp [back])
        | true =>
          have e1 : gb (some p :: Ps) (.own true ds' :: outs) = p :: gb Ps outs := rfl
          have e2 : back (some (i, io) :: org) (.own true ds' :: outs) env2 = back org outs (env2.set i (.own io ds')) := rfl
          rw [e1] at r hz
          rw [e2]
          obtain ⟨p', ws', a1, a2, a3⟩ := hk 0 ds' rfl
          cases a1
          have np : p ∉ gb Ps outs := fun z => h7 (gb_mem z).1
          have hzp : Z0 p = none := hz p List.mem_cons_self
          refine ih (fun k ds q => hk (k + 1) ds (by simpa using q)) (r.give (B2 := BP Z0 H' (· ∈ gb Ps outs)) h1 (bp_in (S := (· ∈ p :: gb Ps outs)) List.mem_cons_self |>.trans a2) (bp_out (S := (· ∈ gb Ps outs)) np |>.trans hzp) (fun a o q => ?_) a3 h6) (fun a ha => hz a (List.mem_cons_of_mem _ ha)) (by simpa using hl)
          by_cases ha : a ∈ gb Ps outs
          · rw [bp_in (S := (· ∈ gb Ps outs)) ha] at q
            rw [bp_in (S := (· ∈ p :: gb Ps outs)) (List.mem_cons_of_mem _ ha)]
            exact q
          · rw [bp_out (S := (· ∈ gb Ps outs)) ha] at q
            have nap : a ≠ p := fun z => by
              rw [z, hzp] at q
              cases q
            rw [bp_out (S := (· ∈ p :: gb Ps outs)) fun z => (List.mem_cons.mp z).elim nap ha]
            exact q
/-- a def's promise by its word -/
def spG (K : KH) (np : Nat) (sem : M RV) : Sp := fun vs H Q E => vs.length = np ∧ ∃ (B F : Hp) (pa : Nat → Addr) (as : Envs), Rel K B F pa as (vs.map some) H ∧
  Wp sem as (fun r outs => ∀ v H' F', Ex F F' → RvOk K B F' pa outs (vs.map some) H' r v → Q v H') (fun x outs => ∀ cls d H' F', Ex F F' → ExOk K B F' pa outs (vs.map some) H' x cls d → E cls d H')
theorem bindA_len : ∀ {ms : List Bool} {os : List Opd} {env env2 : Envs} {as : List Slot} {org : List (Option (Nat × Bool))}, bindA ms os env = some (as, org, env2) → os.length = ms.length
  | [], [], _, _, _, _, _ => rfl
  | false :: ms, .val d :: os, _, _, _, _, h => by
    unfold bindA at h
    obtain ⟨⟨as', org', env'⟩, h1, h2⟩ := Option.map_eq_some_iff.mp h
    exact congrArg (· + 1) (bindA_len h1)
  | false :: ms, .slot i :: os, _, _, _, _, h => by
    unfold bindA at h
    obtain ⟨a0, ha, h⟩ := Option.bind_eq_some_iff.mp h
    obtain ⟨⟨as', org', env'⟩, h1, h2⟩ := Option.map_eq_some_iff.mp h
    exact congrArg (· + 1) (bindA_len h1)
  | true :: ms, .slot i :: os, _, _, _, _, h => by
    unfold bindA at h
    obtain ⟨a0, ha, h⟩ := Option.bind_eq_some_iff.mp h
    obtain ⟨⟨as', org', env'⟩, h1, h2⟩ := Option.map_eq_some_iff.mp h
    exact congrArg (· + 1) (bindA_len h1)
  | [], _ :: _, _, _, _, _, h => by cases h
  | true :: _, .val _ :: _, _, _, _, _, h => by cases h
  | true :: _, [], _, _, _, _, h => by cases h
  | false :: _, [], _, _, _, _, h => by cases h
theorem OpOks.length {vs : List V} {os : List Opd} (h : OpOks K F σ vs os) : vs.length = os.length := by
  induction h with
  | nil => rfl
  | cons _ _ ih => exact congrArg (· + 1) ih
theorem val_no {vs : List V} {as : List Slot} {org : List (Option (Nat × Bool))} {Ps : List (Option Addr)} (b : Bnd K B F H pa σ vs as org Ps) : ∀ (k : Nat) {a : Addr}, Ps[k]? = some (some a) → ∀ {hk : k < as.length}, (∃ d, as[k] = .val d) ∨ (∃ x, as[k] = .exn x) → False := by
  induction b with
  | nil => intro k a h; simp at h
  | val h b ih =>
    intro k a h1 hk h2
    cases k with
    | zero => simp at h1
    | succ k => exact ih k (by simpa using h1) (hk := by simpa using hk) (by simpa using h2)
  | exn h b ih =>
    intro k a h1 hk h2
    cases k with
    | zero => simp at h1
    | succ k => exact ih k (by simpa using h1) (hk := by simpa using hk) (by simpa using h2)
  | io a1 a2 a3 a4 a5 a6 a7 b ih =>
    intro k a h1 hk h2
    cases k with
    | zero => simp at h2
    | succ k => exact ih k (by simpa using h1) (hk := by simpa using hk) (by simpa using h2)
theorem call_ok {W : L2.WX} {fi : FnI} {os : List Opd} {vs : List V} {env : Envs} {Q : VK} (r : Rel K B F pa env σ H) (ho : OpOks K F σ vs os)
    (hw : Wp (callM fi os) env (fun rv env' => ∀ v H' F', Ex F F' → RvOk K B F' pa env' σ H' rv v → Q v H') (XW K W B F pa σ)) : spG K fi.modes.length fi.sem vs H Q (WE W σ) := by
  unfold Wp callM at hw
  cases hb : bindA fi.modes os env with
  | none => rw [hb] at hw; exact hw.elim
  | some t =>
    obtain ⟨as, org, env2⟩ := t
    rw [hb] at hw
    simp only at hw
    have r0 : Rel K (BP B H fun _ => False) F pa env σ H := by
      have e : BP B H (fun _ => False) = B := funext fun a => bp_out id
      rw [e]
      exact r
    obtain ⟨F1, Ps, e1, r1, b1, _, f1⟩ := bindA_ok hb r0 ho fun a z => z.elim
    have eS : (fun a => False ∨ some a ∈ Ps) = (fun a => some a ∈ Ps) := by
      funext a
      simp
    rw [eS] at r1
    have hB : ∀ a, some a ∈ Ps → B a = none := fun a ha => by
      obtain ⟨k, hk⟩ := List.mem_iff_getElem?.mp ha
      have hk2 : k < as.length := by rw [← b1.length.2.2]; exact (List.getElem?_eq_some_iff.mp hk).1
      rcases b1.at k _ (List.getElem?_eq_getElem hk2) with (⟨d, v, z, h1, h2⟩ | ⟨x, v, z, h1, h2⟩) | ⟨ds, p, ws, z, h1, h2, h3, h4, h5, h6⟩
      · exact (val_no b1 k hk (.inl ⟨d, z⟩)).elim
      · exact (val_no b1 k hk (.inr ⟨x, z⟩)).elim
      · rw [hk] at h2
        cases h2
        exact h5
    have rc := callee_rel r1 b1
    refine ⟨by rw [ho.length]; exact bindA_len hb, _, F1, _, as, rc, ?_⟩
    have nodd : ∀ a, Bc B H env2 σ Ps a = none → B a = none := fun a h => bc_none h hB fun j p ⟨io, ds, h1⟩ h2 z => by
      obtain ⟨p', ws, a1, a2, _⟩ := r1.owned h1
      rw [h2] at a1
      cases a1
      rw [z] at a2
      cases a2
    -- what stands behind the call
    have fin : ∀ {outs : Envs} {H' F' X1 : Hp}, Ex F1 F' → Rel K X1 F' (refAt vs) outs (vs.map some) H' → Ex (Bc B H env2 σ Ps) X1 → ∀ Z0 : Hp, (∀ a, Z0 a = B a ∨ (Bc B H env2 σ Ps a = none ∧ Z0 a = X1 a)) → Rel K Z0 F' pa (back org outs env2) σ H' := fun {outs H' F' X1} e2 rc' hX Z0 hZ => by
      have hk : ∀ (k : Nat) (ds : List D), outs[k]? = some (Slot.own true ds) → ∃ p ws, vs[k]? = some (V.ref p) ∧ H' p = some (.lst ws) ∧ F' p = none ∧ X1 p = none ∧ Reps K F' ws ds := fun k ds h => by
        obtain ⟨p, ws, a1, a2, a3, a4, a5, a6⟩ := rc'.owned h
        rw [List.getElem?_map] at a1
        cases hv : vs[k]? with
        | none => rw [hv] at a1; cases a1
        | some v => rw [hv] at a1; cases a1; exact ⟨p, ws, rfl, a2, a3, a4, a5⟩
      have hp : ∀ a ∈ gb Ps outs, some a ∈ Ps ∧ F' a = none ∧ X1 a = none := fun a ha => by
        obtain ⟨h1, k, ds, h2, h3⟩ := gb_mem ha
        obtain ⟨p, ws, a1, a2, a3, a4, a5⟩ := hk k ds h2
        have hk2 : k < as.length := by rw [← b1.length.2.2]; exact (List.getElem?_eq_some_iff.mp h3).1
        rcases b1.at k _ (List.getElem?_eq_getElem hk2) with (⟨d, v, z, _⟩ | ⟨x, v, z, _⟩) | ⟨ds', p', ws', z, z1, z2, _⟩
        · exact (val_no b1 k h3 (.inl ⟨d, z⟩)).elim
        · exact (val_no b1 k h3 (.inr ⟨x, z⟩)).elim
        · rw [a1] at z1
          cases z1
          rw [h3] at z2
          cases z2
          exact ⟨h1, a3, a4⟩
      have z0n : ∀ a ∈ gb Ps outs, Z0 a = none := fun a ha => by
        rcases hZ a with z | ⟨_, z⟩
        · rw [z]
          exact hB a (hp a ha).1
        · rw [z]
          exact (hp a ha).2.2
      refine back_ok b1 (fun k ds h => let ⟨p, ws, a1, a2, _, _, a5⟩ := hk k ds h; ⟨p, ws, a1, a2, a5⟩) (caller_rel r1 e2 hB rc' hX (· ∈ gb Ps outs) (fun a ha => (hp a ha).1) (fun a ha => (hp a ha).2.1) (fun a ha => bp_in (S := (· ∈ gb Ps outs)) ha) fun a ha => ?_) z0n ?_
      · rw [bp_out (S := (· ∈ gb Ps outs)) ha]
        exact hZ a
      · have z := rc'.len
        rw [List.length_map] at z
        rw [← z]
        exact b1.length.1
    have up : ∀ {p : Addr} {o : HO}, Bc B H env2 σ Ps p = none → Ex (Bc B H env2 σ Ps) (upd (Bc B H env2 σ Ps) p o) ∧ ∀ a, upd B p o a = B a ∨ (Bc B H env2 σ Ps a = none ∧ upd B p o a = upd (Bc B H env2 σ Ps) p o a) := fun {p o} h => by
      refine ⟨Ex.new h, fun a => ?_⟩
      by_cases ha : a = p
      · subst ha
        exact .inr ⟨h, by rw [upd_same, upd_same]⟩
      · exact .inl (upd_ne ha)
    unfold Wp
    cases hs : fi.sem as with
    | none => rw [hs] at hw; exact hw.elim
    | some t =>
      obtain ⟨res, outs⟩ := t
      rw [hs] at hw
      cases res with
      | ok rv =>
        intro v H' F' e' p
        refine hw v H' F' (e1.trans e') ?_
        cases rv with
        | val d => exact ⟨fin e' p.1 (Ex.refl _) B fun a => .inl rfl, p.2⟩
        | new ds =>
          obtain ⟨q, ws, rfl, hq, rq, hr⟩ := p
          exact ⟨q, ws, rfl, nodd q hq, fin e' rq (up hq).1 _ (up hq).2, hr⟩
      | error x =>
        intro cls d H' F' e' ⟨h1, p⟩
        refine hw cls d H' F' (e1.trans e') ⟨h1, ?_⟩
        rcases p with ⟨z1, z2, z3⟩ | ⟨dd, fs, z1, z2, z3, z4⟩
        · exact .inl ⟨z1, z2, fin e' z3 (Ex.refl _) B fun a => .inl rfl⟩
        · exact .inr ⟨dd, fs, z1, nodd dd z2, fin e' z3 (up z2).1 _ (up z2).2, z4⟩
end
end Dl

set_option maxHeartbeats 2000000
/-! DlG: defs. -/
namespace Dl
open PySem PySem.Spec PyProof.Rows L2
open Evl (Ex)

/-- what a def promises where nothing is being shown and no exception is handled -/
structure FnG (P : Program) (w : World) (K : PySem.W.Frag) (mg : Str → Option Value) (base : Heap) (k : Nat) (f : Addr) (fd : FuncData) (ps : List Str) (sp : Sp) : Prop where
  len : ∀ vs H Q E, sp vs H Q E → vs.length = ps.length
  run : ∀ (A : Around) (outer : List Env) (s : Shared) (H : Hp) (args : Args) (us : List Value) (vs : List V) (Q : VK) (E : XK), Room k A → A.guards = some [] → Env0 P w K mg base A outer s H → BindsTo s fd args (ps.zip us) → Vals vs us →
    sp vs H Q E → codeAny (model P w) A (.call (.ref f) args) (CR (L2N.CX P w) outer P w H s Q E) s
theorem FnG.mono {P : Program} {w : World} {K : PySem.W.Frag} {mg : Str → Option Value} {base : Heap} {j k : Nat} {f : Addr} {fd : FuncData} {ps : List Str} {sp : Sp} (F : FnG P w K mg base j f fd ps sp) (h : j ≤ k) : FnG P w K mg base k f fd ps sp :=
  ⟨F.len, fun A outer s H args us vs Q E hr hg => F.run A outer s H args us vs Q E (hr.mono h) hg⟩
/-- a def, its body's word -/
theorem fnG_of {P : Program} {w : World} {K : PySem.W.Frag} {mg : Str → Option Value} {base : Heap} {k : Nat} {f : Addr} {name qual : Str} {params : Arguments} {body : List Stmt} {scope : Scope} {dV kV doc pm cdv ct oc : Value} {an od : Option Addr} {osl : Array (Option Value)} {N ps : List Str} {sp : Sp}
    (lk : K.lookup f = some ⟨oc, od, .func (PySem.W.fnOf name qual params body scope dV kV doc pm an cdv ct), osl⟩) (hcd : PySem.W.codeIn K cdv qual = true) (Sc : FnScope N ps scope) (len : ∀ vs H Q E, sp vs H Q E → vs.length = ps.length)
    (hbody : ∀ (A : Around) (outer : List Env) (s : Shared) (H : Hp) (vs : List V) (Q : VK) (E : XK), Room k (A.deeper (envOfC qual scope s.heap.objs.size f cdv)) → A.guards = some [] → sp vs H Q E →
      ∃ t, PSs (cxOf (L2N.CX P w) P w K mg base N qual scope f cdv A outer s H E) body t ∧ t { nx := fun _ H' => Q .non H', rt := Q } (start N vs) H) :
    FnG P w K mg base (k + 1) f (PySem.W.fnOf name qual params body scope dV kV doc pm an cdv ct) ps sp where
  len := len
  run := by
    intro A outer s H args us vs Q E hr hgd e0 hb rl hsp
    have vlen := len _ _ _ _ hsp
    have inS : K.In s.heap := e0.mod.kin.keeps (fun b o e => (e0.bs b o e).1)
    have noL : s.heap.NoLimit := e0.mod.nolimit.keeps (fun b o e => (e0.bs b o e).1)
    have kinds : ∀ y ∈ ps.zip us, scope.names.lookup y.1 = some .local ∨ (scope.names.lookup y.1 = some .cell ∧ ((cellsFrom (s.heap.objs.size + 1) scope.names []).lookup y.1).isSome = true) := by
      rintro ⟨n, v⟩ hy
      have q := Sc.par n (List.of_mem_zip hy).1
      exact q.imp id (fun q => ⟨q, PySem.W.cellsFrom_some _ _ _ (.inl q)⟩)
    refine codeAny_call_function hr.depth (inS _ _ lk) rfl Sc.co Sc.gen rfl (PySem.W.codeRec_of inS hcd) (hb _ _ _ _ ?_)
    refine wpAny_newFunctionEnv_cells Sc.kind kinds (fun en hen s1 x => ?_)
    subst hen
    refine ⟨noL.keeps x.toInCall.keep, codeAny_func ?_⟩
    obtain ⟨t, ht, hq⟩ := hbody A outer s H vs Q E (hr.deeper _) hgd hsp
    have I0 := inv_start (CX := L2N.CX P w) (E := E) Sc hr.hd e0 vlen rl x
    refine wpAny_mono (ht.run [] s1 (start N vs) H _ I0 hq) ?_ (fun e s' z => z)
    intro fl s' hs
    cases fl with
    | ret u =>
      obtain ⟨v, σ', H', J, rv, q⟩ := hs
      exact ⟨v, H', J.os, J.bare, J.base, J.hok, rv, q⟩
    | next =>
      obtain ⟨σ', H', J, q⟩ := hs
      exact ⟨.non, H', J.os, J.bare, J.base, J.hok, rfl, q⟩
    | brk => exact (show False from hs.choose_spec.choose_spec.2).elim
    | cont => exact (show False from hs.choose_spec.choose_spec.2).elim
section
variable {X : Cx} {T : Nat → Value} {W : L2.WX} {G : Gx} {a b c : Expr} {xa xb xc : IX} {pos : Pos} {as : List Expr} {xs : List IX}
theorem run_fnG {k : Nat} {f : Addr} {fd : FuncData} {ps : List Str} {sp : Sp} {E : L2.St → XK} {pins : List (Addr × Obj)} {σ : L2.St} {H : Hp} {s : Shared} {Q : VK} {us : List Value} {vs : List V} (F : FnG X.prog X.w X.K X.mg X.base k f fd ps sp) (hr : Room k X.A) (hgd : X.A.guards = some []) (hb : Binds X.K fd ps [])
    (hx : PassesAt (L2N.CX X.prog X.w) X σ (E σ)) (I : Inv X pins σ H s) (r : Vals vs us) (h : sp vs H Q (E σ)) : wpAny (model X.prog X.w) X.A (call (.ref f) us) (EP X pins σ Q) X.xe s := by
  have ul : us.length = ps.length := r.length.symm.trans (F.len _ _ _ _ h)
  have bb := hb s us I.kIn (by rw [List.append_nil]; exact ul)
  rw [List.append_nil] at bb
  refine wpAny_call (codeAny_mono (F.run X.A X.stack s H ⟨us, []⟩ us vs Q (E σ) hr hgd I.env0 bb r h) ?_)
  intro res s' hq
  match res, hq with
  | .error e, hq => exact hx pins H s e s' I hq
  | .ok (.ret u), hq => exact I.after hq
  | .ok .next, hq => exact hq.elim
  | .ok .brk, hq => exact hq.elim
  | .ok .cont, hq => exact hq.elim
theorem kh_cold (hc : X.calm = true) : kh X T = ⟨X.K, T, none⟩ := by
  unfold kh hoOf
  rw [if_pos hc]
/-- what the module knows of a def -/
structure FnAt (X : Cx) (T : Nat → Value) (k : Nat) (x : Str) (i : FnI) : Prop where
  ex : ∃ (f : Addr) (fd : FuncData) (ps : List Str), X.mg x = some (.ref f) ∧ PySem.W.keepIn X.K (.ref f) = true ∧ Binds X.K fd ps [] ∧ ps.length = i.modes.length ∧ FnG X.prog X.w X.K X.mg X.base k f fd ps (spG ⟨X.K, T, none⟩ i.modes.length i.sem)
theorem snd_call {k : Nat} {x : Str} {p : Pos} {i : FnI} (hc : X.calm = true) (hG : G.fn x = some i) (hF : FnAt X T k x i) (hr : Room k X.A) (hgd : X.A.guards = some []) (tk : L2N.Takes X W) (hg : Gl X x) (ha : SndA X T W G (a :: as) xs) (hdb : (x == ("__debug__" : Str)) = false)
    (he : starEach (a :: as) X.env = (false, eval a X.env) :: starEach as X.env) (hpl : (backTo pos (starEach as X.env)).any (·.1) = false) : Snd X T W G (.Call (.Name x p) (a :: as) [] pos) (.call x xs) := by
  obtain ⟨f, fd, ps, hm, hk, hb, hl, F⟩ := hF.ex
  rw [← kh_cold (T := T) hc] at F
  refine snd_of ⟨fun pins s σ H Q I ⟨B, F0, pa, env, r, hw⟩ => ?_⟩ fun _ z => nomatch z
  unfold ev at hw
  rw [Wp.bind] at hw
  refine wpAny_Call_Name_kw (ld_glob I hg hm ?_ hdb)
  have step := ha.run pos pins s σ H (fun vs H1 => spG (kh X T) i.modes.length i.sem vs H1 Q (WE W σ)) I ⟨B, F0, pa, env, r, hw.mono (fun os env1 hw1 vs H1 F1 e1 r1 p1 => ?_) fun _ _ q => q⟩
  · refine PySem.W.callWith_K (h₀ := X.base) I.ok.mod.kin hk (thn step fun us s1 ⟨vs, H1, I1, rl, q⟩ => ⟨I1.kIn, ?_⟩) he hpl
    exact run_fnG F hr hgd hb (L2N.passAt tk σ) I1 rl q
  · rw [hG] at hw1
    exact call_ok r1 p1 (Wp.mono hw1 (fun rv env' q v H' F' e' p => q v H' F' (e1.trans e') p) fun _ _ q => XW.mono e1 q)
theorem snd_call0 {k : Nat} {x : Str} {p : Pos} {i : FnI} (hc : X.calm = true) (hG : G.fn x = some i) (hF : FnAt X T k x i) (hr : Room k X.A) (hgd : X.A.guards = some []) (tk : L2N.Takes X W) (hg : Gl X x) (hdb : (x == ("__debug__" : Str)) = false) : Snd X T W G (.Call (.Name x p) [] [] pos) (.call x []) := by
  obtain ⟨f, fd, ps, hm, hk, hb, hl, F⟩ := hF.ex
  rw [← kh_cold (T := T) hc] at F
  refine snd_of ⟨fun pins s σ H Q I ⟨B, F0, pa, env, r, hw⟩ => ?_⟩ fun _ z => nomatch z
  unfold ev at hw
  rw [Wp.bind] at hw
  refine wpAny_Call_Name_kw (ld_glob I hg hm ?_ hdb)
  unfold evA at hw
  replace hw : Wp (match G.fn x with | some i => callM i [] | none => M.fail) env _ _ := hw
  rw [hG] at hw
  exact PySem.W.callWith_K0 I.kIn hk (run_fnG (us := []) F hr hgd hb (L2N.passAt tk σ) I .nil (call_ok r .nil hw))
end
end Dl

set_option maxHeartbeats 2000000
/-! DlH: what is walked; comprehensions. -/
namespace Dl
open PySem PySem.Spec PyProof.Rows L2
open Evl (Ex)

def Yld (K : KH) (F H : Hp) (x : V) (H' : Hp) (d : D) : Prop := (H' = H ∧ Rep K F x d) ∨ ∃ t vs ds, x = .ref t ∧ H t = none ∧ H' = upd H t (.tup vs) ∧ d = .tup ds ∧ Reps K F vs ds
structure ItOk (K : KH) (F : Hp) (l : List D) (J : It) : Prop where
  go : ∀ i H, Ex F H → i < l.length → J.go i H
  yld : ∀ i H x H' d, Ex F H → l[i]? = some d → J.yld i H x H' → Yld K F H x H' d
  stop : ∀ H, Ex F H → J.stop l.length H
theorem Yld.rel {K : KH} {B F1 F H H' : Hp} {pa : Nat → Addr} {env : Envs} {σ : L2.St} {x : V} {d : D} (y : Yld K F1 H x H' d) (e : Ex F1 F) (r : Rel K B F pa env σ H) : ∃ F', Ex F F' ∧ Rel K B F' pa env σ H' ∧ Rep K F' x d := by
  rcases y with ⟨rfl, h⟩ | ⟨t, vs, ds, rfl, h1, rfl, rfl, h2⟩
  · exact ⟨F, Ex.refl F, r, h.mono e⟩
  · have e1 : Ex F (upd F t (.tup vs)) := Ex.new (f_none r.fh h1)
    exact ⟨_, e1, r.lay h1, .tup (.of upd_same) (h2.mono (e.trans e1))⟩
def RgI (K : KH) (W : L2.WX) (m : M (List D)) : TI := fun σ H R => ∃ (B F : Hp) (pa : Nat → Addr) (env : Envs), Rel K B F pa env σ H ∧
  Wp m env (fun l env' => ∀ J H' F', Ex F F' → Rel K B F' pa env' σ H' → ItOk K F' l J → R J H') (XW K W B F pa σ)
theorem pi_w {X : Cx} {tg e : Expr} {t t' : TI} (h : PI X tg e t) (w : ∀ σ H R, t' σ H R → t σ H R) : PI X tg e t' := ⟨fun pins s σ H R I q => h.run pins s σ H R I (w σ H R q)⟩
theorem pi_or {X : Cx} {tg e : Expr} {t t' : TI} (h : PI X tg e t) (h' : PI X tg e t') : PI X tg e (fun σ H R => t σ H R ∨ t' σ H R) := ⟨fun pins s σ H R I q => q.elim (h.run pins s σ H R I) (h'.run pins s σ H R I)⟩
def itemsM (G : Gx) (k : ItK) (its : List IX) : M (List D) := (evD G its).bind fun ds => M.ofOpt (items k ds)
section
variable {K : KH} {F : Hp}
theorem it_lst {a : Addr} {xs : List V} {ds : List D} (h : F a = some (.lst xs)) (r : Reps K F xs ds) : ItOk K F ds (Itl K.K a) where
  go := fun i H e hi => by
    have h2 : i < xs.length := by rw [r.length]; exact hi
    exact ⟨xs, xs[i], .of (e _ _ h), List.getElem?_eq_getElem h2⟩
  yld := fun i H x H' d e hd ⟨e1, y⟩ => by
    have z := y xs (.of (e _ _ h))
    obtain ⟨d', h1, h2⟩ := r.get z
    rw [hd] at h1
    cases h1
    exact .inl ⟨e1, h2⟩
  stop := fun H e => ⟨xs, .of (e _ _ h), by rw [r.length]; exact Nat.le_refl _⟩
theorem it_tup {a : Addr} {xs : List V} {ds : List D} (h : SqT K.K F a xs) (r : Reps K F xs ds) : ItOk K F ds (Itt K.K a) where
  go := fun i H e hi => by
    have h2 : i < xs.length := by rw [r.length]; exact hi
    exact ⟨xs, xs[i], Evl.ex_t e h, List.getElem?_eq_getElem h2⟩
  yld := fun i H x H' d e hd ⟨e1, y⟩ => by
    have z := y xs (Evl.ex_t e h)
    obtain ⟨d', h1, h2⟩ := r.get z
    rw [hd] at h1
    cases h1
    exact .inl ⟨e1, h2⟩
  stop := fun H e => ⟨xs, Evl.ex_t e h, by rw [r.length]; exact Nat.le_refl _⟩
theorem it_scr {a : Addr} {ns : List Int} (h : SqL K.K F a (ns.map V.int)) : ItOk K F (ns.map D.int) (Itl K.K a) where
  go := fun i H e hi => by
    have h2 : i < (ns.map V.int).length := by rw [List.length_map] at hi ⊢; exact hi
    exact ⟨_, (ns.map V.int)[i], Evl.ex_l e h, List.getElem?_eq_getElem h2⟩
  yld := fun i H x H' d e hd ⟨e1, y⟩ => by
    have z := y _ (Evl.ex_l e h)
    rw [List.getElem?_map] at z hd
    cases q : ns[i]? with
    | none => rw [q] at z; cases z
    | some n =>
      rw [q] at z hd
      cases z
      cases hd
      exact .inl ⟨e1, .int n⟩
  stop := fun H e => ⟨_, Evl.ex_l e h, by rw [List.length_map, List.length_map]; exact Nat.le_refl _⟩
theorem it_str (s : Str) : ItOk K F (signs s) (Its s) where
  go := fun i H e hi => by
    have h2 : i < s.cps.size := by
      unfold signs at hi
      rw [List.length_map] at hi
      exact hi
    exact h2
  yld := fun i H x H' d e hd ⟨e1, c, h1, h2⟩ => by
    unfold signs at hd
    rw [List.getElem?_map, Array.getElem?_toList, h1] at hd
    cases hd
    subst h2
    exact .inl ⟨e1, .str _⟩
  stop := fun H e => by
    show s.cps.size ≤ (signs s).length
    unfold signs
    rw [List.length_map]
    exact Nat.le_refl _
theorem it_rng (lo hi : Int) : ItOk K F (rangeD lo hi) (Itr lo (hi - lo).toNat) where
  go := fun i H e h => by
    unfold rangeD at h
    rw [List.length_map, List.length_range] at h
    exact h
  yld := fun i H x H' d e hd ⟨e1, e2⟩ => by
    unfold rangeD at hd
    rw [List.getElem?_map] at hd
    obtain ⟨j, h1, rfl⟩ := Option.map_eq_some_iff.mp hd
    have z := List.getElem?_eq_some_iff.mp h1
    obtain ⟨z1, z2⟩ := z
    rw [List.getElem_range] at z2
    subst z2
    subst e2
    exact .inl ⟨e1, .int _⟩
  stop := fun H e => by
    show (hi - lo).toNat ≤ (rangeD lo hi).length
    unfold rangeD
    rw [List.length_map, List.length_range]
    exact Nat.le_refl _
theorem enum_len : ∀ (n : Nat) (ds : List D), (enumD n ds).length = ds.length
  | _, [] => rfl
  | n, d :: ds => congrArg (· + 1) (enum_len (n + 1) ds)
theorem enum_get : ∀ (n : Nat) (ds : List D) (i : Nat), (enumD n ds)[i]? = (ds[i]?).map fun d => D.tup [.int ((n + i : Nat) : Int), d]
  | _, [], i => by simp [enumD]
  | n, d :: ds, 0 => by simp [enumD]
  | n, d :: ds, i + 1 => by
    have h := enum_get (n + 1) ds i
    rw [show n + 1 + i = n + (i + 1) by omega] at h
    simpa [enumD] using h
theorem it_enum {a : Addr} {xs : List V} {ds : List D} (h : F a = some (.lst xs)) (r : Reps K F xs ds) : ItOk K F (enumD 0 ds) (Ite K.K a) where
  go := fun i H e hi => by
    have h2 : i < xs.length := by rw [r.length]; rw [enum_len] at hi; exact hi
    exact ⟨xs, xs[i], .of (e _ _ h), List.getElem?_eq_getElem h2⟩
  yld := fun i H v H' d e hd ⟨t, x, e1, e2, e3, y⟩ => by
    have z := y xs (.of (e _ _ h))
    obtain ⟨d', h1, h2⟩ := r.get z
    rw [enum_get, h1] at hd
    cases hd
    refine .inr ⟨t, [.int (i : Nat), x], _, e1, e2, e3, rfl, ?_⟩
    rw [Nat.zero_add]
    exact .cons (.int _) (.cons h2 .nil)
  stop := fun H e => ⟨xs, .of (e _ _ h), by rw [enum_len, r.length]; exact Nat.le_refl _⟩
end
section
variable {X : Cx} {T : Nat → Value} {W : L2.WX} {G : Gx} {a b c : Expr} {xa xb xc : IX} {pos : Pos} {tg : Expr}
theorem evD_one {x : IX} {env : Envs} {q : List D → Envs → Prop} {e : Exn → Envs → Prop} (h : Wp (evD G [x]) env q e) : Wp (dataM (ev G x)) env (fun o env' => q [o] env') e := by
  unfold evD at h
  rw [Wp.bind] at h
  exact h.mono (fun o env1 h1 => h1) fun _ _ q => q
theorem evD_two {x y : IX} {env : Envs} {q : List D → Envs → Prop} {e : Exn → Envs → Prop} (h : Wp (evD G [x, y]) env q e) : Wp (dataM (ev G x)) env (fun o env' => Wp (dataM (ev G y)) env' (fun o' env'' => q [o, o'] env'') e) e := by
  unfold evD at h
  rw [Wp.bind] at h
  refine h.mono (fun o env1 h1 => ?_) fun _ _ q => q
  rw [Wp.bind] at h1
  exact (evD_one h1).mono (fun _ _ h2 => h2) fun _ _ q => q
/-- over a list, a tuple, a text -/
theorem si_seq (ha : Snd X T W G a xa) : PI X tg a (RgI (kh X T) W (itemsM G .seq [xa])) := by
  refine pi_w (pi_or (pi_list ha.data) (pi_or (pi_tup ha.data) (pi_str ha.data))) fun σ H R ⟨B, F, pa, env, r, hw⟩ => ?_
  unfold itemsM at hw
  rw [Wp.bind] at hw
  have h1 := evD_one hw
  have h2 := h1.run
  rcases h2 with ⟨d, env', hd, q⟩ | ⟨x, env', hd, q⟩
  · obtain ⟨l, hl, q⟩ := Wp.ofOpt.mp q
    have mk : ∀ (P : D → Prop), P d → Wp (dataM (ev G xa)) env (fun d' env'' => d' = d ∧ env'' = env') (XW (kh X T) W B F pa σ) := fun P _ => by
      unfold Wp
      rw [hd]
      exact ⟨rfl, rfl⟩
    have go : ∀ (Q : VK), (∀ v H' F', Ex F F' → Rel (kh X T) B F' pa env' σ H' → Rep (kh X T) F' v d → Q v H') → Rg (kh X T) W (PD (kh X T)) (dataM (ev G xa)) σ H Q := fun Q h =>
      ⟨B, F, pa, env, r, (mk (fun _ => True) trivial).mono (fun d' env'' ⟨e1, e2⟩ v H' F' e' ⟨r', p'⟩ => by subst e1; subst e2; exact h v H' F' e' r' p') fun _ _ q => q⟩
    cases d with
    | lst ds =>
      cases hl
      refine .inl (go _ fun v H' F' e' r' p' => ?_)
      cases p' with
      | lst hp rp => exact ⟨_, rfl, ⟨_, .of (r'.fh _ _ hp)⟩, q _ _ F' e' r' (it_lst hp rp)⟩
    | tup ds =>
      cases hl
      refine .inr (.inl (go _ fun v H' F' e' r' p' => ?_))
      cases p' with
      | tup hp rp => exact ⟨_, rfl, ⟨_, Evl.ex_t r'.fh hp⟩, q _ _ F' e' r' (it_tup hp rp)⟩
    | scr ns =>
      cases hl
      refine .inl (go _ fun v H' F' e' r' p' => ?_)
      cases p' with
      | scr hp => exact ⟨_, rfl, ⟨_, Evl.ex_l r'.fh hp⟩, q _ _ F' e' r' (it_scr hp)⟩
    | str s =>
      cases hl
      refine .inr (.inr (go _ fun v H' F' e' r' p' => ?_))
      cases p'
      exact ⟨s, rfl, q _ _ F' e' r' (it_str s)⟩
    | non => cases hl
    | bl _ => cases hl
    | int _ => cases hl
    | dic _ _ => cases hl
  · refine .inl ⟨B, F, pa, env, r, ?_⟩
    unfold Wp
    rw [hd]
    exact q
theorem si_range1 {p : Pos} (hg : Gl X "range") (hm : X.mg "range" = none) (ha : Snd X T W G a xa) (hs : starEach [a] X.env = [(false, eval a X.env)]) : PI X tg (.Call (.Name "range" p) [a] [] pos) (RgI (kh X T) W (itemsM G .range1 [xa])) := by
  refine pi_w (pi_range1 hg hm (pa_cons ha.data pa_nil hs) hs) fun σ H R ⟨B, F, pa, env, r, hw⟩ => ?_
  unfold itemsM at hw
  rw [Wp.bind] at hw
  refine ⟨B, F, pa, env, r, (evD_one hw).mono (fun d env1 h1 v H1 F1 e1 ⟨r1, p1⟩ => ?_) fun _ _ q => q⟩
  obtain ⟨l, hl, q⟩ := Wp.ofOpt.mp h1
  cases d with
  | int n =>
    cases p1
    obtain ⟨⟨z1, z2⟩, hf⟩ := Option.ite_none_right_eq_some.mp (show (if n < 1000000 ∧ -1000000 < n then some (rangeD 0 n) else none) = some l from hl)
    cases hf
    refine ⟨n, rfl, by omega, by omega, q _ H1 F1 e1 r1 ?_⟩
    have z := it_rng (K := kh X T) (F := F1) 0 n
    rw [Int.sub_zero] at z
    exact z
  | _ => cases hl
theorem si_range2 {p : Pos} (hg : Gl X "range") (hm : X.mg "range" = none) (ha : Snd X T W G a xa) (hb : Snd X T W G b xb) (hs : starEach [a, b] X.env = [(false, eval a X.env), (false, eval b X.env)]) (hs2 : starEach [b] X.env = [(false, eval b X.env)]) :
    PI X tg (.Call (.Name "range" p) [a, b] [] pos) (RgI (kh X T) W (itemsM G .range2 [xa, xb])) := by
  refine pi_w (pi_range2 hg hm (pa_cons ha.data (pa_cons hb.data pa_nil hs2) (by rw [hs, hs2])) hs hs2) fun σ H R ⟨B, F, pa, env, r, hw⟩ => ?_
  unfold itemsM at hw
  rw [Wp.bind] at hw
  refine ⟨B, F, pa, env, r, (evD_two hw).mono (fun d env1 h1 v H1 F1 e1 ⟨r1, p1⟩ => ?_) fun _ _ q => q⟩
  refine ⟨B, F1, pa, env1, r1, h1.mono (fun d2 env2 h2 v2 H2 F2 e2 ⟨r2, p2⟩ => ?_) fun _ _ q => XW.mono e1 q⟩
  obtain ⟨l, hl, q⟩ := Wp.ofOpt.mp h2
  cases d with
  | int n =>
    cases d2 with
    | int m =>
      cases p1
      cases p2
      obtain ⟨⟨z1, z2, z3, z4⟩, hf⟩ := Option.ite_none_right_eq_some.mp (show (if -1000000 < n ∧ n < 1000000 ∧ -1000000 < m ∧ m < 1000000 then some (rangeD n m) else none) = some l from hl)
      cases hf
      exact ⟨n, m, rfl, ⟨by omega, by omega, by omega, by omega⟩, q _ H2 F2 (e1.trans e2) r2 (it_rng n m)⟩
    | _ => cases hl
  | _ => cases d2 <;> cases hl
theorem si_enum {p tpos : Pos} {elts : List Expr} {kk : Nat} (hg : Gl X "enumerate") (hm : X.mg "enumerate" = none) (ha : Snd X T W G a xa) (hs : starEach [a] X.env = [(false, eval a X.env)]) :
    PI X (.Tuple elts kk tpos) (.Call (.Name "enumerate" p) [a] [] pos) (RgI (kh X T) W (itemsM G .enum [xa])) := by
  refine pi_w (pi_enum hg hm (pa_cons ha.data pa_nil hs) hs) fun σ H R ⟨B, F, pa, env, r, hw⟩ => ?_
  unfold itemsM at hw
  rw [Wp.bind] at hw
  refine ⟨B, F, pa, env, r, (evD_one hw).mono (fun d env1 h1 v H1 F1 e1 ⟨r1, p1⟩ => ?_) fun _ _ q => q⟩
  obtain ⟨l, hl, q⟩ := Wp.ofOpt.mp h1
  cases d with
  | lst ds =>
    cases hl
    cases p1 with
    | lst hp rp => exact ⟨_, _, rfl, .of (r1.fh _ _ hp), q _ H1 F1 e1 r1 (it_enum hp rp)⟩
  | _ => cases hl
end
end Dl

set_option maxHeartbeats 2000000
/-! DlI: targets; comprehensions. -/
namespace Dl
open PySem PySem.Spec PyProof.Rows L2
open Evl (Ex)

section
variable {K : KH} {B B' F F' H H' : Hp} {pa : Nat → Addr} {env env1 env2 : Envs} {σ : L2.St} {i : Nat}
/-! ### slots forgotten, slots as before -/
theorem wipeE_len : ∀ (env : Envs) (vs : List Nat), (wipeE env vs).length = env.length
  | _, [] => rfl
  | env, v :: vs => by
    unfold wipeE
    rw [List.length_set, wipeE_len]
theorem Rel.un (r : Rel K B F pa env σ H) (i : Nat) (x : Option V) : Rel K B F pa (env.set i .un) (σ.set i x) H := by
  have nj : ∀ {j : Nat}, IsOwn (env.set i .un)[j]? → i ≠ j := fun {j} ⟨io, ds, e⟩ z => by
    subst z
    have hl : i < env.length := by
      have z := (List.getElem?_eq_some_iff.mp e).1
      rw [List.length_set] at z
      exact z
    rw [List.getElem?_set_self hl] at e
    cases e
  refine ⟨by rw [List.length_set, List.length_set]; exact r.len, r.fh, r.bh, fun j s hs => ?_, fun j k p0 h1 h2 h3 h4 => ?_⟩
  · by_cases hj : i = j
    · subst hj
      have hl : i < env.length := by
        have z := (List.getElem?_eq_some_iff.mp hs).1
        rw [List.length_set] at z
        exact z
      rw [List.getElem?_set_self hl] at hs
      cases hs
      trivial
    · rw [List.getElem?_set_ne hj] at hs ⊢
      exact r.sl j s hs
  · have n1 := nj h1
    have n2 := nj h2
    rw [List.getElem?_set_ne n1] at h1 h3
    rw [List.getElem?_set_ne n2] at h2 h4
    exact r.sep j k p0 h1 h2 h3 h4
theorem Rel.wipe (r : Rel K B F pa env σ H) : ∀ vs : List Nat, Rel K B F pa (wipeE env vs) (L2.wipe σ vs) H
  | [] => r
  | v :: vs => (Rel.wipe r vs).un v none
theorem wipe_get {σ : L2.St} {i : Nat} : ∀ {vs : List Nat}, (wipe σ vs)[i]? = if i ∈ vs then (if i < σ.length then some none else none) else σ[i]?
  | [] => by simp [wipe]
  | v :: vs => by
    unfold wipe
    by_cases hv : v = i
    · subst hv
      rw [if_pos List.mem_cons_self, List.getElem?_set, if_pos rfl, wipe_length]
    · rw [List.getElem?_set_ne hv, wipe_get]
      have e : (i ∈ v :: vs) = (i ∈ vs) := by
        simp only [List.mem_cons, eq_iff_iff]
        exact ⟨fun h => h.resolve_left fun z => hv z.symm, .inr⟩
      simp only [e]
theorem wipe_twice (σ : L2.St) (vs : List Nat) : wipe (wipe σ vs) vs = wipe σ vs := by
  apply List.ext_getElem?
  intro i
  rw [wipe_get, wipe_length]
  by_cases h : i ∈ vs
  · rw [if_pos h, wipe_get, if_pos h]
  · rw [if_neg h]
theorem wipe_set {σ : L2.St} {j : Nat} {x : Option V} {vs : List Nat} (h : j ∈ vs) : wipe (σ.set j x) vs = wipe σ vs := by
  apply List.ext_getElem?
  intro i
  rw [wipe_get, wipe_get, List.length_set]
  by_cases hi : i ∈ vs
  · rw [if_pos hi, if_pos hi]
  · rw [if_neg hi, if_neg hi, List.getElem?_set_ne fun z => hi (by rw [← z]; exact h)]
theorem restore_get : ∀ {vs : List Nat}, (restore env1 env2 vs)[i]? = if i ∈ vs then (if i < env2.length then some (env1[i]?.getD .un) else none) else env2[i]?
  | [] => by simp [restore]
  | v :: vs => by
    have hl : ∀ vs, (restore env1 env2 vs).length = env2.length := by
      intro vs
      induction vs with
      | nil => rfl
      | cons v vs ih => unfold restore; rw [List.length_set, ih]
    unfold restore
    by_cases hv : v = i
    · subst hv
      rw [if_pos List.mem_cons_self, List.getElem?_set, if_pos rfl, hl]
    · rw [List.getElem?_set_ne hv, restore_get]
      have e : (i ∈ v :: vs) = (i ∈ vs) := by
        simp only [List.mem_cons, eq_iff_iff]
        exact ⟨fun h => h.resolve_left fun z => hv z.symm, .inr⟩
      simp only [e]
theorem Rel.unwipe {vs : List Nat} (r1 : Rel K B F pa env1 σ H) (e : Ex F F') (r2 : Rel K B' F' pa env2 (L2.wipe σ vs) H') (ho : ∀ v ∈ vs, isOwnB env1[v]? = false) : Rel K B' F' pa (restore env1 env2 vs) σ H' := by
  have hl : ∀ vs, (restore env1 env2 vs).length = env2.length := by
    intro vs
    induction vs with
    | nil => rfl
    | cons v vs ih => unfold restore; rw [List.length_set, ih]
  have l2 := r2.len
  rw [wipe_length] at l2
  have isO : ∀ {j : Nat}, IsOwn (restore env1 env2 vs)[j]? → IsOwn env2[j]? ∧ j ∉ vs := fun {j} ⟨io, ds, h⟩ => by
    rw [restore_get] at h
    by_cases hj : j ∈ vs
    · rw [if_pos hj] at h
      split at h
      · rename_i hlt
        have q := ho j hj
        cases z : env1[j]? with
        | none => rw [z] at h; cases h
        | some s =>
          rw [z] at h q
          cases h
          cases q
      · cases h
    · rw [if_neg hj] at h
      exact ⟨⟨io, ds, h⟩, hj⟩
  refine ⟨by rw [hl]; exact l2, r2.fh, r2.bh, fun j s hs => ?_, fun j k p h1 h2 h3 h4 => ?_⟩
  · rw [restore_get] at hs
    by_cases hj : j ∈ vs
    · rw [if_pos hj] at hs
      split at hs
      · have q := ho j hj
        cases z : env1[j]? with
        | none =>
          rw [z] at hs
          cases hs
          trivial
        | some s' =>
          rw [z] at hs q
          cases hs
          cases s' with
          | un => trivial
          | val d =>
            obtain ⟨v, h1, h2⟩ := r1.val z
            exact ⟨v, h1, h2.mono e⟩
          | own io ds => cases q
          | exn x => exact exn_mono (r1.sl j _ z) e
      · cases hs
    · rw [if_neg hj] at hs
      have q := r2.sl j s hs
      rw [wipe_get, if_neg hj] at q
      exact q
  · obtain ⟨o1, n1⟩ := isO h1
    obtain ⟨o2, n2⟩ := isO h2
    exact r2.sep j k p o1 o2 (by rw [wipe_get, if_neg n1]; exact h3) (by rw [wipe_get, if_neg n2]; exact h4)
end

/-! ### targets -/
def tgIx : ITg → List Nat
  | .nm j => [j]
  | .tp js => js
def TgOk (K : KH) (g : TG) (t : ITg) : Prop := ∀ (B F : Hp) (pa : Nat → Addr) (env : Envs) (σ : L2.St) (H : Hp) (x : V) (d : D) (env' : Envs) (Q : L2.St → Hp → Prop), Rel K B F pa env σ H → Rep K F x d → setTg t d env = some (.ok (), env') →
  (∀ σ', Rel K B F pa env' σ' H → (∀ vs, (∀ j ∈ tgIx t, j ∈ vs) → wipe σ' vs = wipe σ vs) → Q σ' H) → g x σ H Q
theorem tg_nm {K : KH} {j : Nat} : TgOk K (gName j) (.nm j) := fun B F pa env σ H x d env' Q r h e q => by
  cases e
  exact q _ (r.setVal h) fun vs hv => wipe_set (hv j List.mem_cons_self)
def gNames : List Nat → TGs
  | [] => gNil
  | j :: js => gCons (gName j) (gNames js)
theorem gNames_ok {K : KH} {B F H : Hp} {pa : Nat → Addr} : ∀ {js : List Nat} {ds : List D} {xs : List V} {env env' : Envs} {σ : L2.St} {Q : L2.St → Hp → Prop}, Rel K B F pa env σ H → Reps K F xs ds → setAll js ds env = some env' →
    (∀ σ', Rel K B F pa env' σ' H → (∀ vs, (∀ j ∈ js, j ∈ vs) → wipe σ' vs = wipe σ vs) → Q σ' H) → gNames js xs σ H Q
  | [], [], xs, env, env', σ, Q, r, h, e, q => by
    cases h
    cases e
    exact ⟨rfl, q σ r fun _ _ => rfl⟩
  | j :: js, d :: ds, xs, env, env', σ, Q, r, h, e, q => by
    cases h with
    | cons h1 h2 =>
      refine ⟨_, _, rfl, gNames_ok (r.setVal h1) h2 e fun σ' r' w => q σ' r' fun vs hv => ?_⟩
      rw [w vs fun k hk => hv k (List.mem_cons_of_mem _ hk)]
      exact wipe_set (hv j List.mem_cons_self)
  | [], _ :: _, _, _, _, _, _, _, _, e, _ => by cases e
  | _ :: _, [], _, _, _, _, _, _, _, e, _ => by cases e
theorem setAll_len : ∀ {js : List Nat} {ds : List D} {env env' : Envs}, setAll js ds env = some env' → ds.length = js.length
  | [], [], _, _, _ => rfl
  | j :: js, d :: ds, _, _, e => congrArg (· + 1) (setAll_len (js := js) (ds := ds) e)
  | [], _ :: _, _, _, e => by cases e
  | _ :: _, [], _, _, e => by cases e
theorem tg_tp {K : KH} {js : List Nat} : TgOk K (gTup K.K js.length (gNames js)) (.tp js) := fun B F pa env σ H x d env' Q r h e q => by
  cases d with
  | tup ds =>
    obtain ⟨env2, h1, h2⟩ := Option.map_eq_some_iff.mp (show (setAll js ds env).map (fun env' => (Except.ok (), env')) = some (.ok (), env') from e)
    cases h2
    cases h with
    | tup h3 h4 => exact ⟨_, _, rfl, Evl.ex_t r.fh h3, by rw [h4.length, setAll_len h1], gNames_ok r h4 h1 fun σ' r' w => q σ' r' w⟩
  | _ => cases e

/-! ### comprehensions -/
abbrev WNo : L2.WX := fun _ _ _ _ => False
def turnM (G : Gx) (t : ITg) (c : Option IT) (e : IX) (d : D) : M (Option D) := (setTg t d).bind fun _ => (evC G c).bind fun k => if k then (dataM (ev G e)).bind fun x => M.ret (some x) else M.ret none
theorem wp_of {α : Type} {m : M α} {env env' : Envs} {a : α} {e : Exn → Envs → Prop} (h : m env = some (.ok a, env')) : Wp m env (fun b env1 => b = a ∧ env1 = env') e := by
  unfold Wp
  rw [h]
  exact ⟨rfl, rfl⟩
theorem Wp.compM {vs : List Nat} {f : D → M (Option D)} {l : List D} {env : Envs} {q : RV → Envs → Prop} {e : Exn → Envs → Prop} (h : Wp (compM vs f l) env q e) :
    vs.any (fun v => isOwnB env[v]?) = false ∧ l.length ≤ 1000000 ∧ ∃ r env2, turns vs f l (wipeE env vs) = some (r, env2) ∧ q (.new r) (restore env env2 vs) := by
  unfold Wp Dl.compM at h
  split at h
  · exact h.elim
  · rename_i a env' heq
    split at heq
    · cases heq
    · rename_i hc
      rw [Bool.or_eq_true, not_or] at hc
      cases ht : turns vs f l (wipeE env vs) with
      | none => rw [ht] at heq; cases heq
      | some z =>
        obtain ⟨r, env2⟩ := z
        rw [ht] at heq
        cases heq
        exact ⟨Bool.eq_false_iff.mpr hc.1, by have := hc.2; simpa using this, r, env2, rfl, h⟩
  · rename_i heq
    split at heq
    · cases heq
    · cases ht : turns vs f l (wipeE env vs) with
      | none => rw [ht] at heq; cases heq
      | some z => rw [ht] at heq; cases heq
section
variable {X : Cx} {T : Nat → Value} {W : L2.WX} {G : Gx}
theorem comp_ok {wi : TI} {g : TG} {tt : TT} {te : TE} {its : List IX} {k : ItK} {t : ITg} {c : Option IT} {e : IX} {vs : List Nat} (hwi : ∀ σ H R, RgI (kh X T) W (itemsM G k its) σ H R → wi σ H R) (hg : TgOk (kh X T) g t) (htv : ∀ j ∈ tgIx t, j ∈ vs)
    (htt : ∀ σ H Q, RgT (kh X T) WNo (evC G c) σ H Q → tt σ H Q) (hte : ∀ σ H Q, Rg (kh X T) WNo (PD (kh X T)) (dataM (ev G e)) σ H Q → te σ H Q) {σ : L2.St} {H : Hp} {Q : VK} (h : Rg (kh X T) W (RvOk (kh X T)) (ev G (.comp t k its c e vs)) σ H Q) : tLc wi g tt te vs σ H Q := by
  obtain ⟨B, F, pa, env, r, hw⟩ := h
  unfold ev at hw
  replace hw : Wp ((evD G its).bind fun ds => (M.ofOpt (items k ds)).bind fun l => compM vs (turnM G t c e) l) env _ _ := hw
  refine hwi _ _ _ ⟨B, F, pa, env, r, ?_⟩
  unfold itemsM
  rw [Wp.bind] at hw ⊢
  refine hw.mono (fun ds env1 hw1 => ?_) fun _ _ q => q
  rw [Wp.bind] at hw1
  obtain ⟨l, hl, hw2⟩ := Wp.ofOpt.mp hw1
  refine Wp.ofOpt.mpr ⟨l, hl, fun J H1 F1 e1 r1 it Dl hD => ?_⟩
  obtain ⟨hown, hsz, res, env2, ht, q⟩ := Wp.compM hw2
  have hBD : B Dl = none := r1.b_none hD
  -- the invariant
  let Iv : Nat → Hp → Prop := fun i Hc => ∃ (F2 : Hp) (accV : List V) (accD : List D) (envi : Envs) (r' : List D), Ex F1 F2 ∧ Rel (kh X T) (upd B Dl (.lst accV)) F2 pa envi (wipe σ vs) Hc ∧ Reps (kh X T) F2 accV accD ∧ accV.length ≤ i ∧
    turns vs (turnM G t c e) (l.drop i) envi = some (r', env2) ∧ res = accD ++ r'
  refine ⟨fun i m Hc => m = l.length - i ∧ i ≤ l.length ∧ Iv i Hc, ⟨l.length, by simp, Nat.zero_le _, F1, [], [], wipeE env1 vs, res, Ex.refl F1, (r1.wipe vs).fresh hD, .nil, Nat.le_refl _, by rw [List.drop_zero]; exact ht, rfl⟩, ?_⟩
  rintro i m Hc ⟨rfl, hi, F2, accV, accD, envi, r', e2, r2, ra, hz, ht2, hres⟩
  by_cases hlt : i < l.length
  · refine .inr ⟨it.go i Hc (e2.trans r2.fh) hlt, fun H' => Iv (i + 1) H', fun H' p => ⟨l.length - (i + 1), by omega, rfl, hlt, p⟩, fun x H' hy => ?_⟩
    have hd : l[i]? = some l[i] := List.getElem?_eq_getElem hlt
    obtain ⟨F3, e3, r3, p3⟩ := (it.yld i Hc x H' _ (e2.trans r2.fh) hd hy).rel e2 r2
    rw [List.drop_eq_getElem_cons hlt] at ht2
    unfold turns at ht2
    cases hf : turnM G t c e l[i] envi with
    | none => rw [hf] at ht2; cases ht2
    | some z =>
      obtain ⟨z1, envA⟩ := z
      rw [hf] at ht2
      cases z1 with
      | error x => cases ht2
      | ok o =>
        simp only at ht2
        cases hr : turns vs (turnM G t c e) (l.drop (i + 1)) (wipeE envA vs) with
        | none => rw [hr] at ht2; cases ht2
        | some z =>
          obtain ⟨rr, env3⟩ := z
          rw [hr] at ht2
          simp only [Option.some.injEq, Prod.mk.injEq] at ht2
          obtain ⟨h5, rfl⟩ := ht2
          have hwp : Wp (turnM G t c e l[i]) envi (fun b env1 => b = o ∧ env1 = envA) (fun _ _ => False) := wp_of hf
          unfold turnM at hwp
          rw [Wp.bind] at hwp
          cases hst : setTg t l[i] envi with
          | none => unfold Wp at hwp; rw [hst] at hwp; exact hwp.elim
          | some z =>
            obtain ⟨z1, envT⟩ := z
            unfold Wp at hwp
            rw [hst] at hwp
            cases z1 with
            | error x => exact hwp.elim
            | ok u =>
              cases u
              replace hwp : Wp ((evC G c).bind fun k => if k then (dataM (ev G e)).bind fun x => M.ret (some x) else M.ret none) envT (fun b env1 => b = o ∧ env1 = envA) (fun _ _ => False) := hwp
              rw [Wp.bind] at hwp
              refine hg _ F3 pa envi (wipe σ vs) H' x l[i] envT _ r3 p3 hst fun σ2 r4 hw2 => ?_
              have hws : wipe σ2 vs = wipe σ vs := by rw [hw2 vs htv, wipe_twice]
              refine ⟨hws, htt _ _ _ ⟨_, F3, pa, envT, r4, hwp.mono (fun k envC h6 H6 F6 e6 r6 => ?_) fun x env' q => q.elim⟩⟩
              cases k with
              | false =>
                obtain ⟨rfl, rfl⟩ : none = o ∧ envC = envA := h6
                rw [if_neg (by decide)]
                refine ⟨F6, accV, accD, wipeE envC vs, rr, (e2.trans e3).trans e6, ?_, (ra.mono e3).mono e6, Nat.le_succ_of_le hz, hr, ?_⟩
                · rw [← hws]
                  exact r6.wipe vs
                · rw [hres, ← h5]
              | true =>
                replace h6 : Wp ((dataM (ev G e)).bind fun x => M.ret (some x)) envC (fun b env1 => b = o ∧ env1 = envA) (fun _ _ => False) := h6
                rw [Wp.bind] at h6
                rw [if_pos rfl]
                refine hte _ _ _ ⟨_, F6, pa, envC, r6, h6.mono (fun dy envU h7 y H7 F7 e7 ⟨r7, p7⟩ => ?_) fun x env' q => q.elim⟩
                obtain ⟨rfl, rfl⟩ : some dy = o ∧ envU = envA := h7
                refine ⟨accV, (r7.bh Dl _ upd_same).1, Nat.lt_of_le_of_lt hz (Nat.lt_of_lt_of_le hlt (Nat.le_trans hsz (by rw [sizeLine_eq]; decide))), F7, accV ++ [y], accD ++ [dy], wipeE envU vs, rr, ((e2.trans e3).trans e6).trans e7, ?_, (((ra.mono e3).mono e6).mono e7).append (.cons p7 .nil), ?_, hr, ?_⟩
                · rw [← hws]
                  exact (r7.setB).wipe vs
                · rw [List.length_append, List.length_singleton]
                  exact Nat.succ_le_succ hz
                · rw [hres, ← h5, List.append_assoc]
                  rfl
  · have ei : i = l.length := by omega
    subst ei
    refine .inl ⟨it.stop Hc (e2.trans r2.fh), ?_⟩
    rw [List.drop_length] at ht2
    unfold turns at ht2
    simp only [Option.some.injEq, Prod.mk.injEq] at ht2
    obtain ⟨rfl, rfl⟩ := ht2
    rw [List.append_nil] at hres
    subst hres
    refine q (.ref Dl) Hc F2 (e1.trans e2) ⟨Dl, accV, rfl, hBD, r1.unwipe e2 r2 fun v hv => ?_, ra⟩
    exact (List.any_eq_false.mp hown v hv |> Bool.eq_false_iff.mpr)
end
end Dl

set_option maxHeartbeats 2000000
/-! DlJ: statements. -/
namespace Dl
open PySem PySem.Spec PyProof.Rows L2
open Evl (Ex)

def XWS (K : KH) (W : L2.WX) (B F : Hp) (pa : Nat → Addr) (x : Exn) (env' : Envs) : Prop := ∀ cls d σ' H' F', Ex F F' → ExOk K B F' pa env' σ' H' x cls d → W cls d σ' H'
def FlOk (K : KH) (D : Ends) (B F : Hp) (pa : Nat → Addr) (env' : Envs) : Flow' → Prop
  | .next => ∀ σ' H' F', Ex F F' → Rel K B F' pa env' σ' H' → D.nx σ' H'
  | .brk => ∀ σ' H' F', Ex F F' → Rel K B F' pa env' σ' H' → D.bk σ' H'
  | .cont => ∀ σ' H' F', Ex F F' → Rel K B F' pa env' σ' H' → D.ct σ' H'
  | .ret r => ∀ v σ' H' F', Ex F F' → RvOk K B F' pa env' σ' H' r v → D.rt v H'
def RgS (K : KH) (W : L2.WX) (m : M Flow') : TS := fun D σ H => ∃ (B F : Hp) (pa : Nat → Addr) (env : Envs), Rel K B F pa env σ H ∧ Wp m env (fun fl env' => FlOk K D B F pa env' fl) (fun x env' => XWS K W B F pa x env')
theorem XWS.mono {K : KH} {W : L2.WX} {B F F1 : Hp} {pa : Nat → Addr} {x : Exn} {env' : Envs} (e : Ex F F1) (h : XWS K W B F pa x env') : XWS K W B F1 pa x env' := fun cls d σ' H' F' e' q => h cls d σ' H' F' (e.trans e') q
theorem XWS.at {K : KH} {W : L2.WX} {B F : Hp} {pa : Nat → Addr} {σ : L2.St} {x : Exn} {env' : Envs} (h : XWS K W B F pa x env') : XW K W B F pa σ x env' := fun cls d H' F' e' q => h cls d σ H' F' e' q
theorem FlOk.mono {K : KH} {D : Ends} {B F F1 : Hp} {pa : Nat → Addr} {env' : Envs} {fl : Flow'} (e : Ex F F1) (h : FlOk K D B F pa env' fl) : FlOk K D B F1 pa env' fl := by
  cases fl with
  | next => exact fun σ' H' F' e' r => h σ' H' F' (e.trans e') r
  | brk => exact fun σ' H' F' e' r => h σ' H' F' (e.trans e') r
  | cont => exact fun σ' H' F' e' r => h σ' H' F' (e.trans e') r
  | ret rv => exact fun v σ' H' F' e' r => h v σ' H' F' (e.trans e') r
theorem ps_w {X : Cx} {st : Stmt} {t t' : TS} (h : PS X st t) (w : ∀ D σ H, t' D σ H → t D σ H) : PS X st t' := ⟨fun pins s σ H D I q => h.run pins s σ H D I (w D σ H q)⟩
theorem pss_w {X : Cx} {st : List Stmt} {t t' : TS} (h : PSs X st t) (w : ∀ D σ H, t' D σ H → t D σ H) : PSs X st t' := ⟨fun pins s σ H D I q => h.run pins s σ H D I (w D σ H q)⟩
theorem Wp.ownM {i : Nat} {env : Envs} {q : Unit → Envs → Prop} {e : Exn → Envs → Prop} (h : Wp (Dl.ownM i) env q e) : ∃ io ds, env[i]? = some (.own io ds) ∧ q () env := by
  unfold Wp Dl.ownM at h
  cases hd : env[i]? with
  | none => rw [hd] at h; exact h.elim
  | some s =>
    rw [hd] at h
    cases s with
    | un => exact h.elim
    | exn x => exact h.elim
    | val d => exact h.elim
    | own io ds => exact ⟨io, ds, rfl, h⟩
theorem Wp.appM {i : Nat} {d : D} {env : Envs} {q : Unit → Envs → Prop} {e : Exn → Envs → Prop} (h : Wp (Dl.appM i d) env q e) : ∃ io ds, env[i]? = some (.own io ds) ∧ ds.length < LIM ∧ q () (env.set i (.own io (ds ++ [d]))) := by
  unfold Wp Dl.appM at h
  cases hd : env[i]? with
  | none => rw [hd] at h; exact h.elim
  | some s =>
    rw [hd] at h
    cases s with
    | un => exact h.elim
    | exn x => exact h.elim
    | val d => exact h.elim
    | own io ds =>
      by_cases hz : ds.length < LIM
      · simp only [if_pos hz] at h
        exact ⟨io, ds, rfl, hz, h⟩
      · simp only [if_neg hz] at h
theorem Wp.setiM {i : Nat} {k d : D} {env : Envs} {q : Unit → Envs → Prop} {e : Exn → Envs → Prop} (h : Wp (Dl.setiM i k d) env q e) : ∃ io ds n j, env[i]? = some (.own io ds) ∧ k = .int n ∧ ixN ds.length n = some j ∧ q () (env.set i (.own io (ds.set j d))) := by
  unfold Wp Dl.setiM at h
  cases hd : env[i]? with
  | none => rw [hd] at h; exact h.elim
  | some s =>
    rw [hd] at h
    cases s with
    | un => exact h.elim
    | exn x => exact h.elim
    | val d => exact h.elim
    | own io ds =>
      cases k with
      | int n =>
        cases hj : ixN ds.length n with
        | none => simp only [hj] at h
        | some j =>
          simp only [hj] at h
          exact ⟨io, ds, n, j, rfl, rfl, hj, h⟩
      | _ => exact h.elim
section
variable {X : Cx} {T : Nat → Value} {W : L2.WX} {G : Gx} {a b c : Expr} {xa xb xc : IX} {pos : Pos} {st : Stmt} {s : IS} {sts : List Stmt} {ss : List IS}
def SndS (X : Cx) (T : Nat → Value) (W : L2.WX) (G : Gx) (st : Stmt) (s : IS) : Prop := PS X st (RgS (kh X T) W (ex G s))
def SndSs (X : Cx) (T : Nat → Value) (W : L2.WX) (G : Gx) (st : List Stmt) (s : List IS) : Prop := PSs X st (RgS (kh X T) W (exs G s))
theorem sss_nil : SndSs X T W G [] [] := pss_w pss_nil fun D σ H ⟨B, F, pa, env, r, hw⟩ => by
  unfold exs at hw
  exact hw σ H F (Ex.refl F) r
theorem sss_cons (h1 : SndS X T W G st s) (h2 : SndSs X T W G sts ss) : SndSs X T W G (st :: sts) (s :: ss) := pss_w (pss_cons h1 h2) fun D σ H ⟨B, F, pa, env, r, hw⟩ => by
  unfold exs at hw
  rw [Wp.bind] at hw
  refine ⟨B, F, pa, env, r, hw.mono (fun fl env1 h => ?_) fun _ _ q => q⟩
  cases fl with
  | next =>
    intro σ' H' F' e' r'
    exact ⟨B, F', pa, env1, r', Wp.mono h (fun fl env2 q => q.mono e') fun _ _ q => q.mono e'⟩
  | brk => exact h
  | cont => exact h
  | ret rv => exact h
theorem ss_pass : SndS X T W G (.Pass pos) .pass := ps_w ps_pass fun D σ H ⟨B, F, pa, env, r, hw⟩ => by
  unfold ex at hw
  exact hw σ H F (Ex.refl F) r
theorem ss_brk : SndS X T W G (.Break pos) .brk := ps_w ps_break fun D σ H ⟨B, F, pa, env, r, hw⟩ => by
  unfold ex at hw
  exact hw σ H F (Ex.refl F) r
theorem ss_cont : SndS X T W G (.Continue pos) .cont := ps_w ps_continue fun D σ H ⟨B, F, pa, env, r, hw⟩ => by
  unfold ex at hw
  exact hw σ H F (Ex.refl F) r
theorem ss_expr (ha : Snd X T W G a xa) (hs : swapsWith a none pos.line X.env = pure false) : SndS X T W G (.Expr a pos) (.expr xa) := ps_w (ps_expr ha.data hs) fun D σ H ⟨B, F, pa, env, r, hw⟩ => by
  unfold ex at hw
  rw [Wp.bind] at hw
  refine ⟨B, F, pa, env, r, ?_⟩
  unfold dataM
  rw [Wp.bind]
  refine hw.mono (fun rv env1 h => ?_) fun _ _ q => q.at
  exact fun v H' F' e' p => h σ H' F' e' p.1
theorem ss_retN : SndS X T W G (.Return none pos) .retN := ps_w ps_retN fun D σ H ⟨B, F, pa, env, r, hw⟩ => by
  unfold ex at hw
  exact hw .non σ H F (Ex.refl F) ⟨r, .non⟩
theorem Rel.move {K : KH} {B F H : Hp} {pa : Nat → Addr} {env : Envs} {σ : L2.St} {i : Nat} {io : Bool} {ds : List D} (r : Rel K B F pa env σ H) (h : env[i]? = some (.own io ds)) : ∃ p vs, σ[i]? = some (some (.ref p)) ∧ B p = none ∧ Rel K (upd B p (.lst vs)) F pa (env.set i .un) σ H ∧ Reps K F vs ds := by
  obtain ⟨p, vs, h1, h2, h3, h4, h5, _⟩ := r.owned h
  exact ⟨p, vs, h1, h4, r.lend h h1 (by rw [upd_same, h2]) fun a ne => upd_ne ne, h5⟩
theorem snd_ret (ha : Snd X T W G a xa) : PE X a (Rg (kh X T) W (RvOk (kh X T)) (evR xa (ev G xa))) := by
  cases xa with
  | var i =>
    refine pe_w (ha.var i rfl) fun σ H Q ⟨B, F, pa, env, r, hw⟩ => ?_
    unfold evR Wp at hw
    cases he : env[i]? with
    | none => simp only [he] at hw
    | some s =>
      simp only [he] at hw
      cases s with
      | un => exact hw.elim
      | exn x => exact hw.elim
      | val d =>
        obtain ⟨w, h1, h2⟩ := r.val he
        exact ⟨w, h1, hw w H F (Ex.refl F) ⟨r, h2⟩⟩
      | own io ds =>
        cases io with
        | true => exact hw.elim
        | false =>
          obtain ⟨p, vs, h1, h2, h3, h4⟩ := r.move he
          exact ⟨_, h1, hw _ H F (Ex.refl F) ⟨p, vs, rfl, h2, h3, h4⟩⟩
  | _ => exact ha.pe
theorem ss_ret (ha : Snd X T W G a xa) : SndS X T W G (.Return (some a) pos) (.ret xa) := ps_w (ps_ret (snd_ret ha)) fun D σ H ⟨B, F, pa, env, r, hw⟩ => by
  unfold ex at hw
  rw [Wp.bind] at hw
  exact ⟨B, F, pa, env, r, hw.mono (fun rv env1 h v H' F' e' p => h v σ H' F' e' p) fun _ _ q => q.at⟩
theorem ss_if {t : IT} {sa sb : List Stmt} {ia ib : List IS} (hc : SndT X T W G c t) (ha : SndSs X T W G sa ia) (hb : SndSs X T W G sb ib) : SndS X T W G (.If c sa sb pos) (.ifs t ia ib) := ps_w (ps_if hc ha hb) fun D σ H ⟨B, F, pa, env, r, hw⟩ => by
  unfold ex at hw
  rw [Wp.bind] at hw
  refine ⟨B, F, pa, env, r, hw.mono (fun k env1 h H1 F1 e1 r1 => ?_) fun _ _ q => q.at⟩
  cases k with
  | true =>
    rw [if_pos rfl]
    exact ⟨B, F1, pa, env1, r1, Wp.mono h (fun fl env2 q => q.mono e1) fun _ _ q => q.mono e1⟩
  | false =>
    rw [if_neg (by decide)]
    exact ⟨B, F1, pa, env1, r1, Wp.mono h (fun fl env2 q => q.mono e1) fun _ _ q => q.mono e1⟩
/-- what a store leaves -/
theorem stored {K : KH} {B F H : Hp} {pa : Nat → Addr} {env : Envs} {σ : L2.St} {i : Nat} {rv : RV} {v : V} (h : RvOk K B F pa env σ H rv v) : Rel K B F pa (env.set i rv.slot) (σ.set i (some v)) H := by
  cases rv with
  | val d => exact h.1.setVal h.2
  | new ds =>
    obtain ⟨p, vs, rfl, h1, h2, h3⟩ := h
    exact h2.setOwn h1 h3
theorem asg_then {i : Nat} {D : Ends} {σ : L2.St} {H : Hp} {te : TE} (hte : ∀ σ H Q, Rg (kh X T) W (RvOk (kh X T)) (ev G xa) σ H Q → te σ H Q) (h : RgS (kh X T) W (ex G (.asg i xa)) D σ H) : tAsg te (gName i) D σ H := by
  obtain ⟨B, F, pa, env, r, hw⟩ := h
  unfold ex at hw
  rw [Wp.bind] at hw
  exact hte _ _ _ ⟨B, F, pa, env, r, hw.mono (fun rv env1 h v H' F' e' p => h _ H' F' e' (stored p)) fun _ _ q => q.at⟩
theorem ss_asg {i : Nat} {x : Str} {pos' : Pos} (hN : X.N.Nodup) (hi : X.N[i]? = some x) (hx : Loc X.env.scope x) (ha : Snd X T W G a xa) (hs : swapsWith a (some (.Name x pos')) pos.line X.env = pure false) (hf : X.fn x = true ∨ X.env.scope.names.lookup x = some .local) :
    SndS X T W G (.Assign [.Name x pos'] a pos) (.asg i xa) := ps_w (ps_set hN hi hx ha.pe hs hf) fun D σ H h => asg_then (fun _ _ _ q => q) h
theorem ss_unp {tg : Expr} {g : TG} {js : List Nat} (hg : PG X tg g) (hgo : TgOk (kh X T) g (.tp js)) (ha : Snd X T W G a xa) (hs : swapsWithSole [tg] a pos.line X.env = pure false) (hw : swappedStores [tg] a X.env = pure none) (h1 : (assignEach [tg] X.env).map (·.2) = [assign tg X.env]) :
    SndS X T W G (.Assign [tg] a pos) (.unp js xa) := ps_w (ps_asg ha.data hg hs hw h1) fun D σ H ⟨B, F, pa, env, r, hw⟩ => by
  unfold ex at hw
  rw [Wp.bind] at hw
  refine ⟨B, F, pa, env, r, hw.mono (fun d env1 h v H1 F1 e1 ⟨r1, p1⟩ => ?_) fun _ _ q => q.at⟩
  rw [Wp.bind] at h
  rcases h.run with ⟨u, env2, h1, h2⟩ | ⟨x, env2, h1, h2⟩
  · cases u
    exact hgo B F1 pa env1 σ H1 v d env2 _ r1 p1 h1 fun σ' r' _ => h2 σ' H1 F1 e1 r'
  · exfalso
    cases d with
    | tup ds =>
      obtain ⟨e, _, h3⟩ := Option.map_eq_some_iff.mp (show (setAll js ds env1).map (fun env' => (Except.ok (), env')) = _ from h1)
      cases h3
    | _ => cases h1
theorem ss_par {i j : Nat} {x y : Str} {px py pt : Pos} {kt k2 : Nat} {pt2 : Pos} (hc : X.calm = true) (hN : X.N.Nodup) (hi : X.N[i]? = some x) (hj : X.N[j]? = some y) (hij : i ≠ j) (hx : X.env.scope.names.lookup x = some .local) (hy : X.env.scope.names.lookup y = some .local) (ha : SndD X T W G [a, b] [xa, xb])
    (hw : swappedStores [.Tuple [.Name x px, .Name y py] kt pt] (.Tuple [a, b] k2 pt2) X.env = pure (some [x, y])) (hs : swapsWithSole [.Tuple [.Name x px, .Name y py] kt pt] (.Tuple [a, b] k2 pt2) pos.line X.env = pure false) :
    SndS X T W G (.Assign [.Tuple [.Name x px, .Name y py] kt pt] (.Tuple [a, b] k2 pt2) pos) (.par i j xa xb) := ps_w (ps_par hc hN hi hj hij hx hy ha hw hs) fun D σ H ⟨B, F, pa, env, r, hw⟩ => by
  unfold ex at hw
  rw [Wp.bind] at hw
  refine ⟨B, F, pa, env, r, hw.mono (fun ds env1 h vs H1 F1 e1 r1 p1 => ?_) fun _ _ q => q.at⟩
  rw [Wp.bind] at h
  cases ds with
  | nil => exact h.elim
  | cons d ds =>
    cases ds with
    | nil => exact h.elim
    | cons d2 ds =>
      cases ds with
      | cons _ _ => exact h.elim
      | nil =>
        cases p1 with
        | cons h1 h2 =>
          cases h2 with
          | cons h3 h4 =>
            cases h4
            exact ⟨_, _, rfl, h _ H1 F1 e1 ((r1.setVal h1).setVal h3)⟩
theorem ss_app {i : Nat} {x : Str} {px apos cpos : Pos} (hv : PE X (.Name x px) (tVar i)) (ha : Snd X T W G a xa) (hs : starEach [a] X.env = (false, eval a X.env) :: starEach [] X.env) (hline : (apos.endLine == cpos.line) = true) : SndS X T W G (.Expr (.Call (.Attribute (.Name x px) "append" apos) [a] [] cpos) pos) (.app i xa) :=
  ps_w (ps_expr (pe_bm PySem.F.plainAttrs_list PySem.F.slot_list_append PySem.F.type_list_append mt_append hv (pa_cons ha.data pa_nil hs) rfl (by rw [hs]; rfl) hline hs rfl) rfl) fun D σ H ⟨B, F, pa, env, r, hw⟩ => by
    unfold ex at hw
    rw [Wp.bind] at hw
    obtain ⟨io, ds, he, hw⟩ := Wp.ownM hw
    obtain ⟨p, vs, h1, h2, h3, h4, h5, h6⟩ := r.owned he
    refine ⟨.ref p, h1, .inl ⟨rfl, vs, .of h2⟩, ?_⟩
    rw [Wp.bind] at hw
    refine ⟨B, F, pa, env, r, hw.mono (fun d env1 hq v H1 F1 e1 ⟨r1, p1⟩ => ?_) fun _ _ q => q.at⟩
    rw [Wp.bind] at hq
    obtain ⟨io', ds', he', hz, hq⟩ := Wp.appM hq
    obtain ⟨p', vs', a1, a2, a3, a4, a5, a6⟩ := r1.owned he'
    rw [h1] at a1
    cases a1
    refine ⟨p, vs', v, rfl, rfl, a2, by rw [a5.length]; exact lim_lt (Nat.le_of_lt hz), ?_⟩
    exact hq σ _ F1 e1 (r1.change he' h1 a2 a3 a4 (a5.append (.cons p1 .nil)) a6)
theorem ss_seti {i : Nat} {x : Str} {px spos : Pos} (hv : PE X (.Name x px) (tVar i)) (hk : Snd X T W G b xb) (ha : Snd X T W G a xa) (hs : swapsWithSole [.Subscript (.Name x px) b spos] a pos.line X.env = pure false) (hw : swappedStores [.Subscript (.Name x px) b spos] a X.env = pure none)
    (hsub : ∀ v, assign (.Subscript (.Name x px) b spos) X.env v = (do
      let ov ← holding [v] (eval (.Name x px) X.env)
      let iv ← holding [v, ov] (eval b X.env)
      standAt spos
      holding [v, ov, iv] (setItem ov iv v)
      release [v, ov, iv] [])) : SndS X T W G (.Assign [.Subscript (.Name x px) b spos] a pos) (.seti i xb xa) :=
  ps_w (ps_asg ha.data (pg_sub hv hk.data set_list hsub) hs hw rfl) fun D σ H ⟨B, F, pa, env, r, hw⟩ => by
    unfold ex at hw
    rw [Wp.bind] at hw
    refine ⟨B, F, pa, env, r, hw.mono (fun d env1 h v H1 F1 e1 ⟨r1, p1⟩ => ?_) fun _ _ q => q.at⟩
    rw [Wp.bind] at h
    obtain ⟨io, ds, he, h⟩ := Wp.ownM h
    obtain ⟨p, vs, h1, h2, h3, h4, h5, h6⟩ := r1.owned he
    refine ⟨.ref p, h1, ?_⟩
    rw [Wp.bind] at h
    refine ⟨B, F1, pa, env1, r1, h.mono (fun n env2 hq w H2 F2 e2 ⟨r2, p2⟩ => ?_) fun _ _ q => (q.mono e1).at⟩
    rw [Wp.bind] at hq
    obtain ⟨io', ds', n', j, he', rfl, hj, hq⟩ := Wp.setiM hq
    cases p2
    obtain ⟨p', vs', a1, a2, a3, a4, a5, a6⟩ := r2.owned he'
    rw [h1] at a1
    cases a1
    refine ⟨p, vs', n', j, rfl, rfl, a2, by rw [a5.length]; exact hj, ?_⟩
    exact hq σ _ F2 (e1.trans e2) (r2.change he' h1 a2 a3 a4 (Reps.set (p1.mono e2) j a5) a6)
end
end Dl

set_option maxHeartbeats 2000000
/-! DlK: loops, defs. -/
namespace Dl
open PySem PySem.Spec PyProof.Rows L2
open Evl (Ex)

section
variable {X : Cx} {T : Nat → Value} {W : L2.WX} {G : Gx} {a b c : Expr} {xa xb xc : IX} {pos : Pos}
theorem wp_setTg {t : ITg} {d : D} {env : Envs} {q : Unit → Envs → Prop} {e : Exn → Envs → Prop} (h : Wp (setTg t d) env q e) : ∃ env', setTg t d env = some (.ok (), env') ∧ q () env' := by
  rcases h.run with ⟨u, env2, h1, h2⟩ | ⟨x, env2, h1, h2⟩
  · cases u
    exact ⟨env2, h1, h2⟩
  · exfalso
    cases t with
    | nm j => cases h1
    | tp js =>
      cases d with
      | tup ds =>
        obtain ⟨e, _, h3⟩ := Option.map_eq_some_iff.mp (show (setAll js ds env).map (fun env' => (Except.ok (), env')) = _ from h1)
        cases h3
      | _ => cases h1
theorem ss_for {tg iter : Expr} {sb : List Stmt} {wi : TI} {g : TG} {its : List IX} {k : ItK} {t : ITg} {body : List IS} (hp : PassesOwn (model X.prog X.w) X.A X.env X.xe) (hc : X.calm = true) (hi : PI X tg iter wi) (hwi : ∀ σ H R, RgI (kh X T) W (itemsM G k its) σ H R → wi σ H R) (hg : PG X tg g) (hgo : TgOk (kh X T) g t)
    (hb : SndSs X T W G sb body) (hs : ∀ x, foldedSetIterable iter X.env x = pure x) : SndS X T W G (.For tg iter sb [] pos) (.fors t k its body) := ps_w (ps_for hp hc hi hg hb hs) fun En σ H ⟨B, F, pa, env, r, hw⟩ => by
  unfold ex at hw
  refine hwi _ _ _ ⟨B, F, pa, env, r, ?_⟩
  unfold itemsM
  rw [Wp.bind] at hw ⊢
  refine hw.mono (fun ds env1 hw1 => ?_) fun _ _ q => q.at
  rw [Wp.bind] at hw1
  obtain ⟨l, hl, hw2⟩ := Wp.ofOpt.mp hw1
  refine Wp.ofOpt.mpr ⟨l, hl, fun J H1 F1 e1 r1 it => ?_⟩
  let f : D → M Flow' := fun d => (setTg t d).bind fun _ => exs G body
  let Iv : Nat → L2.St → Hp → Prop := fun i σ' Hc => ∃ (F2 : Hp) (envi : Envs), Ex F1 F2 ∧ Rel (kh X T) B F2 pa envi σ' Hc ∧ Wp (loopM f (l.drop i)) envi (fun fl env' => FlOk (kh X T) En B F2 pa env' fl) (fun x env' => XWS (kh X T) W B F2 pa x env')
  refine ⟨fun i m σ' Hc => m = l.length - i ∧ i ≤ l.length ∧ Iv i σ' Hc, ⟨l.length, by simp, Nat.zero_le _, F1, env1, Ex.refl F1, r1, ?_⟩, ?_⟩
  · rw [List.drop_zero]
    exact Wp.mono hw2 (fun fl env2 q => q.mono e1) fun _ _ q => q.mono e1
  rintro i m σ' Hc ⟨rfl, hi, F2, envi, e2, r2, hw3⟩
  by_cases hlt : i < l.length
  · refine .inr ⟨it.go i Hc (e2.trans r2.fh) hlt, fun σ'' H' => Iv (i + 1) σ'' H', fun σ'' H' p => ⟨l.length - (i + 1), by omega, rfl, hlt, p⟩, fun x H' hy => ?_⟩
    have hd : l[i]? = some l[i] := List.getElem?_eq_getElem hlt
    obtain ⟨F3, e3, r3, p3⟩ := (it.yld i Hc x H' _ (e2.trans r2.fh) hd hy).rel e2 r2
    rw [List.drop_eq_getElem_cons hlt] at hw3
    unfold loopM at hw3
    rw [Wp.bind] at hw3
    replace hw3 : Wp ((setTg t l[i]).bind fun _ => exs G body) envi _ _ := hw3
    rw [Wp.bind] at hw3
    obtain ⟨envT, hst, hw4⟩ := wp_setTg hw3
    refine hgo B F3 pa envi σ' H' x l[i] envT _ r3 p3 hst fun σ2 r4 _ => ?_
    refine ⟨B, F3, pa, envT, r4, Wp.mono hw4 (fun fl env2 h => ?_) fun _ _ q => q.mono e3⟩
    cases fl with
    | next => exact fun σ3 H3 F4 e4 r5 => ⟨F4, env2, (e2.trans e3).trans e4, r5, Wp.mono h (fun fl env3 q => q.mono (e3.trans e4)) fun _ _ q => q.mono (e3.trans e4)⟩
    | cont => exact fun σ3 H3 F4 e4 r5 => ⟨F4, env2, (e2.trans e3).trans e4, r5, Wp.mono h (fun fl env3 q => q.mono (e3.trans e4)) fun _ _ q => q.mono (e3.trans e4)⟩
    | brk => exact fun σ3 H3 F4 e4 r5 => h σ3 H3 F4 (e3.trans e4) r5
    | ret rv => exact fun v σ3 H3 F4 e4 r5 => h v σ3 H3 F4 (e3.trans e4) r5
  · have ei : i = l.length := by omega
    subst ei
    rw [List.drop_length] at hw3
    exact .inl ⟨it.stop Hc (e2.trans r2.fh), hw3 σ' Hc F2 (Ex.refl F2) r2⟩
/-! tests that are comparisons -/
theorem test_of {x : IX} (hx : ∀ i, x ≠ .var i) (hbl : ∀ env rv env', ev G x env = some (.ok rv, env') → ∃ k, rv = .val (.bl k)) {σ : L2.St} {H : Hp} {Q : Bool → Hp → Prop} (h : RgT (kh X T) W (evT G (.tru x)) σ H Q) :
    Rg (kh X T) W (RvOk (kh X T)) (ev G x) σ H (fun v H' => ∃ k, v = .bl k ∧ Q k H') := by
  obtain ⟨B, F, pa, env, r, hw⟩ := h
  refine ⟨B, F, pa, env, r, ?_⟩
  have ho : opd x (ev G x) = (ev G x).bind fun r => M.ret (.val r.d) := by
    cases x <;> first | rfl | exact absurd rfl (hx _)
  unfold evT at hw
  rw [ho, Wp.bind, Wp.bind] at hw
  rcases hw.run with ⟨rv, env1, h1, h2⟩ | ⟨x, env1, h1, h2⟩
  · obtain ⟨k, rfl⟩ := hbl _ _ _ h1
    unfold Wp
    rw [h1]
    intro v H' F' e' p
    obtain ⟨r', p'⟩ := p
    cases p'
    rw [Wp.ret, Wp.bind] at h2
    obtain ⟨dx, hx, h3⟩ := Wp.resM h2
    cases hx
    obtain ⟨k', hk, h4⟩ := Wp.ofOpt.mp h3
    cases hk
    exact ⟨k, rfl, h4 H' F' e' r'⟩
  · unfold Wp
    rw [h1]
    exact h2
theorem bind_some {α β : Type} {m : M α} {f : α → M β} {env env' : Envs} {y : Except Exn β} (h : m.bind f env = some (y, env')) : (∃ a env1, m env = some (.ok a, env1) ∧ f a env1 = some (y, env')) ∨ ∃ x, m env = some (.error x, env') ∧ y = .error x := by
  unfold M.bind at h
  cases hm : m env with
  | none => rw [hm] at h; cases h
  | some z =>
    obtain ⟨z1, env1⟩ := z
    rw [hm] at h
    cases z1 with
    | error x => cases h; exact .inr ⟨x, rfl, rfl⟩
    | ok a => exact .inl ⟨a, env1, rfl, h⟩
def isCmp : Op2 → Bool
  | .eq => true
  | .ne => true
  | .lt => true
  | .le => true
  | .gt => true
  | .ge => true
  | .isin => true
  | .notin => true
  | _ => false
theorem opI_bl {f : Int → Int → Option RV} (hf : ∀ a b rv, f a b = some rv → ∃ k, rv = .val (.bl k)) {x y : D} {rv : RV} (h : opI f x y = some rv) : ∃ k, rv = .val (.bl k) := by
  unfold opI at h
  split at h
  · exact hf _ _ _ h
  · cases h
theorem cmp_bl {o : Op2} (ho : isCmp o = true) {x y : D} {rv : RV} (h : op2 o x y = some rv) : ∃ k, rv = .val (.bl k) := by
  cases o with
  | eq => obtain ⟨k, _, e⟩ := Option.map_eq_some_iff.mp h; exact ⟨_, e.symm⟩
  | ne => obtain ⟨k, _, e⟩ := Option.map_eq_some_iff.mp h; exact ⟨_, e.symm⟩
  | lt => exact opI_bl (fun a b rv e => by cases e; exact ⟨_, rfl⟩) h
  | le => exact opI_bl (fun a b rv e => by cases e; exact ⟨_, rfl⟩) h
  | gt => exact opI_bl (fun a b rv e => by cases e; exact ⟨_, rfl⟩) h
  | ge => exact opI_bl (fun a b rv e => by cases e; exact ⟨_, rfl⟩) h
  | isin =>
    replace h : opIn false x y = some rv := h
    unfold opIn at h
    split at h
    · split at h
      · cases h; exact ⟨_, rfl⟩
      · cases h
    · cases h
  | notin =>
    replace h : opIn true x y = some rv := h
    unfold opIn at h
    split at h
    · split at h
      · cases h; exact ⟨_, rfl⟩
      · cases h
    · cases h
  | _ => cases ho
theorem ofOpt_some {α : Type} {o : Option α} {env env' : Envs} {y : Except Exn α} (h : M.ofOpt o env = some (y, env')) : ∃ a, o = some a ∧ y = .ok a ∧ env' = env := by
  cases o with
  | none => cases h
  | some a => cases h; exact ⟨a, rfl, rfl, rfl⟩
theorem op_bl {o : Op2} (ho : isCmp o = true) {env env' : Envs} {rv : RV} (h : ev G (.op o xa xb) env = some (.ok rv, env')) : ∃ k, rv = .val (.bl k) := by
  unfold ev at h
  rcases bind_some h with ⟨_, _, _, h⟩ | ⟨_, _, z⟩
  · rcases bind_some h with ⟨_, _, _, h⟩ | ⟨_, _, z⟩
    · rcases bind_some h with ⟨_, _, _, h⟩ | ⟨_, _, z⟩
      · rcases bind_some h with ⟨_, _, _, h⟩ | ⟨_, _, z⟩
        · obtain ⟨rv', h1, h2, _⟩ := ofOpt_some h
          cases h2
          exact cmp_bl ho h1
        · cases z
      · cases z
    · cases z
  · cases z
theorem chain_bl {o1 o2 : Op2} (ho : isCmp o2 = true) {env env' : Envs} {rv : RV} (h : ev G (.chain o1 o2 xa xb xc) env = some (.ok rv, env')) : ∃ k, rv = .val (.bl k) := by
  unfold ev at h
  rcases bind_some h with ⟨_, _, _, h⟩ | ⟨_, _, z⟩
  · rcases bind_some h with ⟨_, _, _, h⟩ | ⟨_, _, z⟩
    · rcases bind_some h with ⟨r, env1, _, h⟩ | ⟨_, _, z⟩
      · cases r with
        | new ds => cases h
        | val d =>
          cases d with
          | bl k =>
            cases k with
            | false => cases h; exact ⟨_, rfl⟩
            | true =>
              rcases bind_some (show ((dataM (ev G xc)).bind fun z => M.ofOpt (op2 o2 _ z)) env1 = _ from h) with ⟨_, _, _, h⟩ | ⟨_, _, z⟩
              · obtain ⟨rv', h1, h2, _⟩ := ofOpt_some h
                cases h2
                exact cmp_bl ho h1
              · cases z
          | _ => cases h
      · cases z
    · cases z
  · cases z
theorem st_chain {o1 o2 : Op2} {p1 p2 : CmpOp} (h1 : OpR X (compareOp p1) (rD (kh X T) (op2 o1))) (h2 : OpR X (compareOp p2) (rD (kh X T) (op2 o2))) (ha : Snd X T W G a xa) (hb : Snd X T W G b xb) (hc : Snd X T W G c xc) (hm : lastMarks [p1, p2] [b, c] = false) (ho : isCmp o2 = true) :
    SndT X T W G (.Compare a [p1, p2] [b, c] pos) (.tru (.chain o1 o2 xa xb xc)) :=
  pt_w (pt_chain h1 h2 ha.data hb.data hc.data hm) fun σ H Q h => chain_rd (test_of (x := .chain o1 o2 xa xb xc) (fun _ z => nomatch z) (fun _ _ _ => chain_bl ho) h)
end

/-! ### a def -/
def outSlot : Slot → Option Slot → Slot
  | .own true _, some (.own true ds) => .own true ds
  | _, _ => .un
def outsOf : List Slot → Envs → List Slot
  | [], _ => []
  | a :: as, env => outSlot a env.head? :: outsOf as env.tail
theorem outsOf_len : ∀ (as : List Slot) (env : Envs), (outsOf as env).length = as.length
  | [], _ => rfl
  | _ :: as, env => congrArg (· + 1) (outsOf_len as env.tail)
theorem outSlot_get {a : Slot} {b : Option Slot} {s : Slot} (h : outSlot a b = s) : s = .un ∨ ∃ ds0 ds, a = .own true ds0 ∧ b = some (.own true ds) ∧ s = .own true ds := by
  unfold outSlot at h
  split at h
  · exact .inr ⟨_, _, rfl, rfl, h.symm⟩
  · exact .inl h.symm
theorem outsOf_get : ∀ (as : List Slot) (env : Envs) (i : Nat) (s : Slot), (outsOf as env)[i]? = some s → s = .un ∨ ∃ ds0 ds, as[i]? = some (.own true ds0) ∧ env[i]? = some (.own true ds) ∧ s = .own true ds
  | [], _, i, s, h => by simp [outsOf] at h
  | a :: as, env, i, s, h => by
    cases i with
    | zero =>
      have h1 : outSlot a env.head? = s := by simpa [outsOf] using h
      rcases outSlot_get h1 with h2 | ⟨ds0, ds, e1, e2, e3⟩
      · exact .inl h2
      · exact .inr ⟨ds0, ds, by rw [e1]; rfl, by rw [← e2]; cases env <;> rfl, e3⟩
    | succ i =>
      rcases outsOf_get as env.tail i s (by simpa [outsOf] using h) with h2 | ⟨ds0, ds, e1, e2, e3⟩
      · exact .inl h2
      · exact .inr ⟨ds0, ds, by simpa using e1, by rw [← e2]; cases env <;> simp, e3⟩
/-- n names, the parameters first -/
def defM (n : Nat) (body : M Flow') : M RV := fun as => match body (as ++ List.replicate (n - as.length) .un) with
  | none => none
  | some (.ok (.ret r), env) => some (.ok r, outsOf as env)
  | some (.ok .next, env) => some (.ok (.val .non), outsOf as env)
  | some (.ok _, _) => none
  | some (.error x, env) => some (.error x, outsOf as env)
section
variable {K : KH} {B B0 F F' H H' : Hp} {pa : Nat → Addr} {as env : Envs} {σ τ : L2.St}
theorem Rel.ext (r : Rel K B F pa as τ H) (m : Nat) : Rel K B F pa (as ++ List.replicate m .un) (τ ++ List.replicate m none) H := by
  have low : ∀ {i : Nat} {s : Slot}, (as ++ List.replicate m .un)[i]? = some s → (i < as.length ∧ as[i]? = some s) ∨ s = .un := fun {i s} h => by
    by_cases hi : i < as.length
    · rw [List.getElem?_append_left hi] at h
      exact .inl ⟨hi, h⟩
    · rw [List.getElem?_append_right (by omega), List.getElem?_replicate] at h
      split at h
      · cases h; exact .inr rfl
      · cases h
  have at' : ∀ {i : Nat}, i < as.length → (τ ++ List.replicate m none)[i]? = τ[i]? := fun {i} hi => List.getElem?_append_left (by rw [r.len]; exact hi)
  have isO : ∀ {i : Nat}, IsOwn (as ++ List.replicate m .un)[i]? → i < as.length ∧ IsOwn as[i]? := fun {i} ⟨io, ds, h⟩ => by
    rcases low h with ⟨h1, h2⟩ | h
    · exact ⟨h1, io, ds, h2⟩
    · cases h
  refine ⟨by rw [List.length_append, List.length_append, List.length_replicate, List.length_replicate, r.len], r.fh, r.bh, fun i s hs => ?_, fun i j p h1 h2 h3 h4 => ?_⟩
  · rcases low hs with ⟨h1, h2⟩ | rfl
    · rw [at' h1]
      exact r.sl i s h2
    · trivial
  · obtain ⟨a1, a2⟩ := isO h1
    obtain ⟨b1, b2⟩ := isO h2
    rw [at' a1] at h3
    rw [at' b1] at h4
    exact r.sep i j p a2 b2 h3 h4
theorem Rel.outs (r0 : Rel K B0 F pa as τ H) (r : Rel K B F' pa env σ H') : Rel K B F' pa (outsOf as env) τ H' := by
  have sl : ∀ (i : Nat) (io : Bool) (ds : List D), (outsOf as env)[i]? = some (.own io ds) → io = true ∧ env[i]? = some (.own true ds) ∧ τ[i]? = some (some (.ref (pa i))) ∧ σ[i]? = some (some (.ref (pa i))) := fun i io ds h => by
    rcases outsOf_get as env i _ h with h | ⟨ds0, ds', h1, h2, h3⟩
    · cases h
    · cases h3
      obtain ⟨p, ws, a1, _, _, _, _, a6⟩ := r0.owned h1
      obtain ⟨p', ws', b1, _, _, _, _, b6⟩ := r.owned h2
      rw [a6 rfl] at a1
      rw [b6 rfl] at b1
      exact ⟨rfl, h2, a1, b1⟩
  refine ⟨by rw [outsOf_len]; exact r0.len, r.fh, r.bh, fun i s hs => ?_, fun i j p ⟨io, ds, h1⟩ ⟨io', ds', h2⟩ h3 h4 => ?_⟩
  · rcases outsOf_get as env i s hs with h | ⟨ds0, ds', h1, h2, h3⟩
    · rw [h]
      trivial
    · subst h3
      obtain ⟨_, a2, a3, a4⟩ := sl i _ _ hs
      obtain ⟨p', ws', b1, b2, b3, b4, b5, b6⟩ := r.owned h2
      rw [a4] at b1
      cases b1
      exact ⟨_, ws', a3, b2, b3, b4, b5, b6⟩
  · obtain ⟨_, a2, a3, a4⟩ := sl i _ _ h1
    obtain ⟨_, b2, b3, b4⟩ := sl j _ _ h2
    rw [a3] at h3
    rw [b3] at h4
    cases h3
    injection h4 with h4
    injection h4 with h4
    injection h4 with h4
    exact r.sep i j (pa i) ⟨_, _, a2⟩ ⟨_, _, b2⟩ a4 (by rw [b4, h4])
end
theorem fnG_def {P : Program} {w : World} {K : PySem.W.Frag} {mg : Str → Option Value} {base : Heap} {k : Nat} {f : Addr} {name qual : Str} {params : Arguments} {body : List Stmt} {scope : Scope} {dV kV doc pm cdv ct oc : Value} {an od : Option Addr} {osl : Array (Option Value)} {N ps : List Str}
    {T : Nat → Value} {G : Gx} {ss : List IS} (lk : K.lookup f = some ⟨oc, od, .func (PySem.W.fnOf name qual params body scope dV kV doc pm an cdv ct), osl⟩) (hcd : PySem.W.codeIn K cdv qual = true) (Sc : FnScope N ps scope)
    (hb : ∀ (A : Around) (outer : List Env) (s : Shared) (H : Hp) (E : XK), Room k (A.deeper (envOfC qual scope s.heap.objs.size f cdv)) → A.guards = some [] →
      SndSs (cxOf (L2N.CX P w) P w K mg base N qual scope f cdv A outer s H E) T (fun cls d _ H' => E cls d H') G body ss) :
    FnG P w K mg base (k + 1) f (PySem.W.fnOf name qual params body scope dV kV doc pm an cdv ct) ps (spG ⟨K, T, none⟩ ps.length (defM N.length (exs G ss))) :=
  fnG_of lk hcd Sc (fun vs H Q E h => h.1) fun A outer s H vs Q E hr hgd hsp => by
    obtain ⟨hl, B, F, pa, as, r, hw⟩ := hsp
    have rx : Rel ⟨K, T, none⟩ B F pa (as ++ List.replicate (N.length - vs.length) .un) (L2.start N vs) H := by
      unfold L2.start
      exact r.ext _
    refine ⟨_, hb A outer s H E hr hgd, B, F, pa, as ++ List.replicate (N.length - vs.length) Slot.un, rx, ?_⟩
    have hlen : vs.length = as.length := by
      have z := r.len
      rw [List.length_map] at z
      exact z
    rw [hlen]
    unfold Wp defM at hw
    unfold Wp
    cases hm : exs G ss (as ++ List.replicate (N.length - as.length) .un) with
    | none => rw [hm] at hw; exact hw.elim
    | some z =>
      obtain ⟨z1, env'⟩ := z
      rw [hm] at hw
      cases z1 with
      | error x =>
        intro cls d σ' H' F' e' ⟨h1, p⟩
        refine hw cls d H' F' e' ⟨h1, ?_⟩
        rcases p with ⟨a1, a2, a3⟩ | ⟨dd, fs, a1, a2, a3, a4⟩
        · exact .inl ⟨a1, a2, r.outs a3⟩
        · exact .inr ⟨dd, fs, a1, a2, r.outs a3, a4⟩
      | ok fl =>
        cases fl with
        | next => exact fun σ' H' F' e' r' => hw .non H' F' e' ⟨r.outs r', .non⟩
        | brk => exact hw.elim
        | cont => exact hw.elim
        | ret rv =>
          intro v σ' H' F' e' p
          refine hw v H' F' e' ?_
          cases rv with
          | val d => exact ⟨r.outs p.1, p.2⟩
          | new ds =>
            obtain ⟨q, ws, rfl, h1, h2, h3⟩ := p
            exact ⟨q, ws, rfl, h1, r.outs h2, h3⟩
end Dl

set_option maxHeartbeats 2000000
/-! DlL: from the text to the words. -/
namespace Dl
open PySem PySem.Spec PyProof.Rows L2
open Evl (Ex)

structure Cv where
  N : List Str
  sc : Scope
  con : Str → Option D
  G : Gx
  hot : Bool
  cls : Str → Option Nat
  exc : Str → Option (Nat × Option (List Str))
def ixOf (x : Str) : List Str → Option Nat
  | [] => none
  | y :: ys => if y = x then some 0 else (ixOf x ys).map (· + 1)
theorem ixOf_get {x : Str} : ∀ {ys : List Str} {i : Nat}, ixOf x ys = some i → ys[i]? = some x
  | [], _, h => by cases h
  | y :: ys, i, h => by
    unfold ixOf at h
    split at h
    · rename_i e
      cases h
      rw [e]
      rfl
    · obtain ⟨j, h1, rfl⟩ := Option.map_eq_some_iff.mp h
      rw [List.getElem?_cons_succ]
      exact ixOf_get h1
def okName (x : Str) : Bool := !(x == ("__debug__" : Str)) && !(x == ("__classdict__" : Str)) && decide (x ≠ "__name__")
theorem okName_of {x : Str} (h : okName x = true) : (x == ("__debug__" : Str)) = false ∧ (x == ("__classdict__" : Str)) = false ∧ x ≠ "__name__" := by
  unfold okName at h
  simp only [Bool.and_eq_true, Bool.not_eq_true', decide_eq_true_eq] at h
  exact ⟨h.1.1, h.1.2, h.2⟩
def cName (C : Cv) (x : Str) : Option IX :=
  if okName x = true then match C.sc.names.lookup x with
    | some .local => (ixOf x C.N).map .var
    | some .cell => (ixOf x C.N).map .var
    | some .free => (ixOf x C.N).map .var
    | some .globalImplicit => (C.con x).map .con
    | _ => none
  else none
def cConst : Const → Option IX
  | .int i => some (.con (.int i))
  | .bool b => some (.con (.bl b))
  | .none => some (.con .non)
  | .str s => some (.con (.str s))
  | _ => none
def cOp : Operator → Option Op2
  | .Add => some .add
  | .Sub => some .sub
  | .Mult => some .mul
  | .FloorDiv => some .fdiv
  | .Mod => some .mod
  | .Pow => some .pow
  | _ => none
def cCmp : CmpOp → Option Op2
  | .Eq => some .eq
  | .NotEq => some .ne
  | .Lt => some .lt
  | .LtE => some .le
  | .Gt => some .gt
  | .GtE => some .ge
  | .In => some .isin
  | .NotIn => some .notin
  | _ => none
def isStar : Expr → Bool
  | .Starred _ _ => true
  | _ => false
def isSet : Expr → Bool
  | .Set _ _ _ => true
  | _ => false
def isSlice : Expr → Bool
  | .Slice _ _ _ _ => true
  | _ => false
def isComp : Expr → Bool
  | .ListComp _ _ _ _ => true
  | .SetComp _ _ _ _ => true
  | .DictComp _ _ _ _ _ => true
  | _ => false
def isCall0 : Expr → Bool
  | .Call _ [] _ _ => true
  | _ => false
def isTup : Expr → Bool
  | .Tuple _ _ _ => true
  | _ => false
theorem star_no {e : Expr} {es : List Expr} {env : Env} (h : isStar e = false) : starEach (e :: es) env = (false, eval e env) :: starEach es env := by
  cases e <;> first | rfl | cases h
theorem stars_no : ∀ {es : List Expr} {env : Env} {pos : Pos}, es.all (fun e => !isStar e) = true → (backTo pos (starEach es env)).any (·.1) = false
  | [], _, _, _ => rfl
  | e :: es, env, pos, h => by
    simp only [List.all_cons, Bool.and_eq_true, Bool.not_eq_true'] at h
    rw [star_no h.1]
    show (false || (backTo pos (starEach es env)).any (·.1)) = false
    rw [stars_no h.2]
    rfl
theorem mark_no {e : Expr} {op : CmpOp} (h : isSet e = false) : behindInMarks op e = false := by
  cases e <;> first | rfl | cases h
theorem plain_ix {e : Expr} (h : isSlice e = false) : PlainIx e := by
  intro o i
  cases e <;> first | rfl | cases h
theorem nocomp {e : Expr} {t : Option Expr} {l : Nat} {env : Env} (h : isComp e = false) : swapsWith e t l env = pure false := by
  cases e <;> first | rfl | cases h
theorem nofold {e : Expr} {env : Env} (h : isSet e = false) (x : Value) : foldedSetIterable e env x = pure x := by
  cases e <;> first | rfl | cases h
theorem nosup {o : Expr} {name : Str} {env : Env} (h : isCall0 o = false) : attributeBase o name env (eval o env) = eval o env := by
  cases o with
  | Call f as kws pos =>
    cases as with
    | nil => cases h
    | cons a as => cases f <;> rfl
  | _ => rfl
/-! ### lists -/
def cL (f : Expr → Option IX) : List Expr → Option (List IX)
  | [] => some []
  | e :: es => if isStar e = true then none else (f e).bind fun x => (cL f es).map (x :: ·)
theorem cL_len {f : Expr → Option IX} : ∀ {es : List Expr} {xs : List IX}, cL f es = some xs → xs.length = es.length
  | [], xs, h => by cases h; rfl
  | e :: es, xs, h => by
    unfold cL at h
    split at h
    · cases h
    · obtain ⟨x, h1, h2⟩ := Option.bind_eq_some_iff.mp h
      obtain ⟨ys, h3, rfl⟩ := Option.map_eq_some_iff.mp h2
      exact congrArg (· + 1) (cL_len h3)
theorem cL_star {f : Expr → Option IX} : ∀ {es : List Expr} {xs : List IX}, cL f es = some xs → es.all (fun e => !isStar e) = true
  | [], xs, h => rfl
  | e :: es, xs, h => by
    unfold cL at h
    split at h
    · cases h
    · rename_i hs
      obtain ⟨x, h1, h2⟩ := Option.bind_eq_some_iff.mp h
      obtain ⟨ys, h3, rfl⟩ := Option.map_eq_some_iff.mp h2
      simp only [List.all_cons, Bool.and_eq_true, Bool.not_eq_true']
      exact ⟨by simpa using hs, cL_star h3⟩
section
variable {X : Cx} {T : Nat → Value} {W : L2.WX} {G : Gx} {f : Expr → Option IX}
theorem cL_args (hf : ∀ e x, f e = some x → Snd X T W G e x) : ∀ {es : List Expr} {xs : List IX}, cL f es = some xs → SndA X T W G es xs
  | [], xs, h => by cases h; exact sa_nil
  | e :: es, xs, h => by
    unfold cL at h
    split at h
    · cases h
    · rename_i hs
      obtain ⟨x, h1, h2⟩ := Option.bind_eq_some_iff.mp h
      obtain ⟨ys, h3, rfl⟩ := Option.map_eq_some_iff.mp h2
      exact sa_cons (hf e x h1) (cL_args hf h3) (star_no (by simpa using hs))
theorem cL_disp (hf : ∀ e x, f e = some x → Snd X T W G e x) : ∀ {es : List Expr} {xs : List IX}, cL f es = some xs → SndD X T W G es xs
  | [], xs, h => by cases h; exact sd_nil
  | e :: es, xs, h => by
    unfold cL at h
    split at h
    · cases h
    · rename_i hs
      obtain ⟨x, h1, h2⟩ := Option.bind_eq_some_iff.mp h
      obtain ⟨ys, h3, rfl⟩ := Option.map_eq_some_iff.mp h2
      exact sd_cons (hf e x h1) (cL_disp hf h3) (star_no (by simpa using hs))
end
def cTy (x : Str) : Option Ty :=
  if x = "int" then some .tInt else if x = "str" then some .tStr else if x = "bool" then some .tBool else if x = "list" then some .tList else if x = "tuple" then some .tTuple else if x = "dict" then some .tDict else none
theorem cTy_boot {x : Str} {t : Ty} (h : cTy x = some t) : bootBuiltins x = some (.type t.name) := by
  unfold cTy at h
  repeat' (split at h)
  all_goals first
    | (cases h; subst_vars; decide +kernel)
    | cases h
/-- a built-in function, by name and number of arguments -/
def cBi (hot : Bool) (x : Str) (n : Nat) : Option (Bi × Bool) :=
  if x = "len" ∧ n = 1 then some (.len, false) else if (x = "max" ∧ n = 2) ∧ hot = false then some (.max2, false) else if (x = "min" ∧ n = 2) ∧ hot = false then some (.min2, false) else if x = "repr" ∧ n = 1 then some (.repr, false)
  else if (x = "all" ∧ n = 1) ∧ hot = false then some (.all, false) else if (x = "any" ∧ n = 1) ∧ hot = false then some (.any, false) else if x = "tuple" ∧ n = 1 then some (.tuple, true) else if x = "list" ∧ n = 1 then some (.list, true) else if x = "int" ∧ n = 1 then some (.toInt, true) else none
def bltNames : List Str := ["len", "max", "min", "repr", "all", "any", "tuple", "list", "isinstance", "range", "enumerate", "int", "str", "bool", "dict"]
/-- classes written after isinstance -/
def cClss (C : Cv) : List Expr → Option (List Nat)
  | [] => some []
  | .Name y _ :: es => if okName y = true ∧ C.sc.names.lookup y = some .globalImplicit then (C.cls y).bind fun c => (cClss C es).map (c :: ·) else none
  | _ => none
def cSlot (C : Cv) : Expr → Option Nat
  | .Name x _ => if okName x = true ∧ (C.sc.names.lookup x = some .local ∨ C.sc.names.lookup x = some .cell ∨ C.sc.names.lookup x = some .free) then ixOf x C.N else none
  | _ => none
def cMe (x : Str) : Option Me := if x = "join" then some .join else if x = "split" then some .split else if x = "strip" then some .strip else none
/-! ### targets -/
def cTg (C : Cv) : Expr → Option Nat
  | .Name x _ => if C.sc.names.lookup x = some .local ∨ C.sc.names.lookup x = some .cell then ixOf x C.N else none
  | _ => none
def cTgs (C : Cv) : List Expr → Option (List Nat)
  | [] => some []
  | e :: es => (cTg C e).bind fun j => (cTgs C es).map (j :: ·)
def cTarget (C : Cv) : Expr → Option ITg
  | .Name x p => (cTg C (.Name x p)).map .nm
  | .Tuple es _ _ => (cTgs C es).map .tp
  | _ => none
/-! ### expressions -/
def ownOf (C : Cv) (scope : Scope) : List (Str × Nat) := scope.names.filterMap fun y => match y.2 with
  | .local => (ixOf y.1 C.N).map fun i => (y.1, i)
  | .cell => (ixOf y.1 C.N).map fun i => (y.1, i)
  | _ => none
def Cv.blk (C : Cv) (scope : Scope) : Cv := { C with sc := relS scope C.sc }
mutual
def cE : Nat → Cv → Expr → Option IX
  | 0, _, _ => none
  | n + 1, C, e => match e with
    | .Name x _ => cName C x
    | .Constant c _ _ => cConst c
    | .BinOp a op b _ => (cOp op).bind fun o => (cE n C a).bind fun xa => (cE n C b).map fun xb => .op o xa xb
    | .UnaryOp .Not a _ => (cE n C a).map .not
    | .UnaryOp .USub a _ => (cE n C a).map .neg
    | .Compare a ops cs _ => cC n C a ops cs
    | .BoolOp .And [a] _ => cE n C a
    | .BoolOp .Or [a] _ => cE n C a
    | .BoolOp .And (a :: b :: r) p => (cE n C a).bind fun xa => (cE n C (.BoolOp .And (b :: r) p)).map fun xb => .and xa xb
    | .BoolOp .Or (a :: b :: r) p => (cE n C a).bind fun xa => (cE n C (.BoolOp .Or (b :: r) p)).map fun xb => .or xa xb
    | .IfExp c a b _ => (cT n C c).bind fun tc => (cE n C a).bind fun xa => (cE n C b).map fun xb => .ite tc xa xb
    | .Subscript a (.Slice lo hi none _) _ => (cE n C a).bind fun xa => (cP n C lo).bind fun xl => (cP n C hi).map fun xh => .slice xa xl xh
    | .Subscript a b _ => if isSlice b = true then none else (cE n C a).bind fun xa => (cE n C b).map fun xb => .op .idx xa xb
    | .Tuple es _ _ => if es.length ≤ 1000 then (cL (cE n C) es).map .tup else none
    | .List es _ => if es.length ≤ 1000 then (cL (cE n C) es).map .lst else none
    | .Dict [] [] _ => some (.dic [] [])
    | .Dict [some (.Constant (.str k) _ _)] [a] _ => (cE n C a).map fun xa => .dic [.inr k] [xa]
    | .Call f as [] pos => cK n C f as pos
    | .ListComp elt [⟨tg, it, ifs, 0⟩] scope _ => cLc n C elt tg it ifs scope
    | .Attribute o f _ => if C.hot = true then (cSlot C o).map fun i => .efld i f else none
    | _ => none
/-- comparisons -/
def cC : Nat → Cv → Expr → List CmpOp → List Expr → Option IX
  | 0, _, _, _, _ => none
  | n + 1, C, a, ops, cs => match ops, cs with
    | [op], [b] => if isSet b = true then none else (cCmp op).bind fun o => (cE n C a).bind fun xa => (cE n C b).map fun xb => .op o xa xb
    | [op, op'], [b, c] => if isSet c = true then none else (cCmp op).bind fun o => (cCmp op').bind fun o' => (cE n C a).bind fun xa => (cE n C b).bind fun xb => (cE n C c).map fun xc => .chain o o' xa xb xc
    | _, _ => none
def cP : Nat → Cv → Option Expr → Option (Option IX)
  | 0, _, _ => none
  | n + 1, C, o => match o with
    | none => some none
    | some e => (cE n C e).map some
/-- calls -/
def cK : Nat → Cv → Expr → List Expr → Pos → Option IX
  | 0, _, _, _, _ => none
  | n + 1, C, f, as, pos => match f with
    | .Name x _ => if okName x = true ∧ C.sc.names.lookup x = some .globalImplicit then
        (if (C.G.fn x).isSome = true ∧ C.hot = false then (cL (cE n C) as).map fun xs => .call x xs
        else if (C.G.hot x).isSome = true ∧ C.hot = true then (cL (cE n C) as).bind fun xs => if as.isEmpty = true then none else some (.hcall x xs)
        else if x = "isinstance" then (match as with
          | [a, .Name y p2] => if okName y = true ∧ C.sc.names.lookup y = some .globalImplicit ∧ isStar a = false then
              (match cTy y with
              | some t => (cE n C a).map fun xa => .isi xa t
              | none => if C.hot = true then (cSlot C a).bind fun i => (cClss C [.Name y p2]).map fun cs => .eisi i cs else none) else none
          | [a, .Tuple es _ _] => if C.hot = true ∧ isStar a = false ∧ es.length ≤ 1000 then (cSlot C a).bind fun i => (cClss C es).bind fun cs => if cs.isEmpty = true then none else some (.eisi i cs) else none
          | _ => none)
        else (cBi C.hot x as.length).bind fun b => (cL (cE n C) as).map fun xs => .bi b.1 xs)
      else none
    | .Attribute o name apos => match as with
      | [b] => if isStar b = false ∧ isCall0 o = false ∧ (apos.endLine == pos.line) = true then (cMe name).bind fun m => (cE n C o).bind fun xo => (cE n C b).map fun xb => .meth m xo [xb] else none
      | _ => none
    | _ => none
/-- what is walked -/
def cI : Nat → Cv → Bool → Expr → Option (ItK × List IX)
  | 0, _, _, _ => none
  | n + 1, C, tup, it => match it with
    | .Call (.Name x _) as [] _ => if okName x = true ∧ C.sc.names.lookup x = some .globalImplicit ∧ (C.G.fn x).isSome = false ∧ (x = "range" ∨ x = "enumerate") then
        (if x = "range" then (match as with
          | [a] => if isStar a = true then none else (cE n C a).map fun xa => (.range1, [xa])
          | [a, b] => if isStar a = true ∨ isStar b = true then none else (cE n C a).bind fun xa => (cE n C b).map fun xb => (.range2, [xa, xb])
          | _ => none)
        else (match as with
          | [a] => if isStar a = true ∨ tup = false then none else (cE n C a).map fun xa => (.enum, [xa])
          | _ => none))
        else (cE n C it).map fun xa => (.seq, [xa])
    | _ => if isSet it = true then none else (cE n C it).map fun xa => (.seq, [xa])
def cLc : Nat → Cv → Expr → Expr → Expr → List Expr → Scope → Option IX
  | 0, _, _, _, _, _, _ => none
  | n + 1, C, elt, tg, it, ifs, scope =>
    if blkC C.N C.sc scope (ownOf C scope) = true then
      (cTarget { C with sc := scope } tg).bind fun t => (if C.hot = true then (if isSet it = true then none else (cE n C it).map fun xa => (ItK.only, [xa])) else cI n C (isTup tg) it).bind fun k => (cIf n (C.blk scope) ifs).bind fun c => (cE n (C.blk scope) elt).bind fun e =>
        if (tgIx t).all (fun j => ((ownOf C scope).map (·.2)).contains j) = true then some (.comp t k.1 k.2 c e ((ownOf C scope).map (·.2))) else none
    else none
def cIf : Nat → Cv → List Expr → Option (Option IT)
  | 0, _, _ => none
  | n + 1, C, ifs => match ifs with
    | [] => some none
    | [c] => (cT n C c).map some
    | _ => none
def cT : Nat → Cv → Expr → Option IT
  | 0, _, _ => none
  | n + 1, C, e => match e with
    | .UnaryOp .Not a _ => (cT n C a).map .not
    | .BoolOp op vs p => cW n C (.BoolOp op vs p)
    | .Compare a ops cs _ => (cC n C a ops cs).map .tru
    | .IfExp _ _ _ _ => none
    | e => (cE n C e).map .tru
def cW : Nat → Cv → Expr → Option IT
  | 0, _, _ => none
  | n + 1, C, e => match e with
    | .BoolOp .And [a] _ => cT n C a
    | .BoolOp .Or [a] _ => cT n C a
    | .BoolOp .And (a :: b :: r) p => (cT n C a).bind fun ta => (cW n C (.BoolOp .And (b :: r) p)).map fun tb => .and ta tb
    | .BoolOp .Or (a :: b :: r) p => (cT n C a).bind fun ta => (cW n C (.BoolOp .Or (b :: r) p)).map fun tb => .or ta tb
    | _ => none
end
end Dl

set_option maxHeartbeats 4000000
/-! DlP: where an exception is handled. -/
namespace Dl
open PySem PySem.Spec PyProof.Rows L2
open Evl (Ex)

/-- what the written part says of an exception's class -/
structure ExcK (K : PySem.W.Frag) (D : Addr) : Prop where
  hcl : (PySem.W.clsIn K D).isSome = true
  ga : PySem.W.findIn K (.ref D) "__getattribute__" = some (some (.builtin "BaseException.__getattribute__"))
  gg : PySem.W.findIn K (.ref D) "__getattr__" = some none
  su : PySem.W.subIn K (.ref D) (.type "BaseException") = some true
  hd : PySem.W.hasDictIn K D = true
  ca : PySem.W.findIn K (.ref D) "__class__" = some (some (.builtin "object.__class__"))
  cn : PySem.W.specialIn K (.builtin "object.__class__") "__get__" = some (some (.builtin "getset_descriptor.__get__"))
  ct : PySem.W.takesIn K (.builtin "object.__class__") = some true
  cm : PySem.W.mroIn K D (.type "object") = some true
/-- a context where p's exception is handled -/
structure HotX (X : Cx) (p : Addr × Obj) : Prop where
  calm : X.calm = false
  mem : X.pn.head? = some p
  hot : L2H.Hot1 X.A p
section
variable {X : Cx} {T : Nat → Value} {W : L2.WX} {G : Gx} {p : Addr × Obj} {a b c : Expr} {xa xb xc : IX} {pos : Pos} {as : List Expr} {xs : List IX}
theorem HotX.ho (h : HotX X p) : (kh X T).ho = some p := by
  show (if X.calm = true then none else X.pn.head?) = some p
  rw [if_neg (by rw [h.calm]; decide)]
  exact h.mem
theorem HotX.in (h : HotX X p) : p ∈ X.pn := List.mem_of_head? h.mem
theorem HotX.hc (h : HotX X p) : L2H.HotC X := ⟨p, h.hot, h.in⟩
/-- the exception's object -/
theorem HotX.inst {pins : List (Addr × Obj)} {σ : L2.St} {H : Hp} {s : Shared} {D : Addr} (h : HotX X p) (I : Inv X pins σ H s) (hc : p.2.cls = .ref D) (hd : p.2.dict = none ∨ ∃ dd fs, p.2.dict = some dd ∧ H dd = some (.xd fs)) : ∃ od, PySem.W.InstAt s.heap p.1 p.2 D od := by
  obtain ⟨hg, _⟩ := I.pin p (List.mem_append_left _ h.in)
  obtain ⟨_, vs, hv, _⟩ := h.hot
  have hn : PySem.W.notCls p.2 = true := by
    unfold PySem.W.notCls
    rw [hv] <;> rfl
  rcases hd with hd | ⟨dd, fs, hd, hx⟩
  · exact ⟨none, hg, hc, hn, by rw [hd]; trivial⟩
  · obtain ⟨mA, hns, _⟩ : ObjOk X.prog X.w H s.heap dd (.xd fs) := I.hok dd _ hx
    obtain ⟨od, ho, _⟩ := lookIn_ns hns
    exact ⟨some od, hg, hc, hn, by rw [hd]; exact ho⟩
theorem fld_rep {K : KH} {F : Hp} {f : Str} {d : D} : ∀ {fs : List (Str × V)} {xs : List (Str × D)}, fs.map (·.1) = xs.map (·.1) → Reps K F (fs.map (·.2)) (xs.map (·.2)) → xs.lookup f = some d → ∃ v, fs.lookup f = some v ∧ Rep K F v d
  | [], [], _, _, h => by cases h
  | (g, v) :: fs, (g', d') :: xs, hn, hr, h => by
    simp only [List.map_cons, List.cons.injEq] at hn
    obtain ⟨rfl, hn⟩ := hn
    cases hr with
    | cons h1 h2 =>
      by_cases e : f = g
      · subst e
        rw [List.lookup_cons_self] at h ⊢
        cases h
        exact ⟨v, rfl, h1⟩
      · have e' : (f == g) = false := by simpa using e
        rw [List.lookup_cons, e'] at h ⊢
        exact fld_rep hn h2 h
  | [], _ :: _, hn, _, _ => by cases hn
  | _ :: _, [], hn, _, _ => by cases hn
theorem exnAt_get {env : Envs} {i : Nat} {x : Exn} (h : exnAt env i = some x) : env[i]? = some (.exn x) := by
  unfold exnAt at h
  split at h
  · rename_i h1
    cases h
    exact h1
  · cases h
theorem Wp.efldM {i : Nat} {f : Str} {env : Envs} {q : RV → Envs → Prop} {e : Exn → Envs → Prop} (h : Wp (Dl.efldM G i f) env q e) : ∃ x d, env[i]? = some (.exn x) ∧ G.fld x.c f = true ∧ x.fs.lookup f = some d ∧ q (.val d) env := by
  rcases h.run with ⟨rv, env', h1, h2⟩ | ⟨x, env', h1, h2⟩
  · obtain ⟨x, hx, h1⟩ := Option.bind_eq_some_iff.mp h1
    obtain ⟨hf, h1⟩ := Option.ite_none_right_eq_some.mp h1
    obtain ⟨d, hd, h1⟩ := Option.map_eq_some_iff.mp h1
    cases h1
    exact ⟨x, d, exnAt_get hx, hf, hd, h2⟩
  · obtain ⟨x, hx, h1⟩ := Option.bind_eq_some_iff.mp h1
    obtain ⟨hf, h1⟩ := Option.ite_none_right_eq_some.mp h1
    obtain ⟨d, hd, h1⟩ := Option.map_eq_some_iff.mp h1
    cases h1
theorem Wp.eisiM {i : Nat} {cs : List Nat} {env : Envs} {q : RV → Envs → Prop} {e : Exn → Envs → Prop} (h : Wp (Dl.eisiM G i cs) env q e) : ∃ x b, env[i]? = some (.exn x) ∧ subAny (G.sub x.c) cs = some b ∧ q (.val (.bl b)) env := by
  rcases h.run with ⟨rv, env', h1, h2⟩ | ⟨x, env', h1, h2⟩
  · obtain ⟨x, hx, h1⟩ := Option.bind_eq_some_iff.mp h1
    obtain ⟨d, hd, h1⟩ := Option.map_eq_some_iff.mp h1
    cases h1
    exact ⟨x, d, exnAt_get hx, hd, h2⟩
  · obtain ⟨x, hx, h1⟩ := Option.bind_eq_some_iff.mp h1
    obtain ⟨d, hd, h1⟩ := Option.map_eq_some_iff.mp h1
    cases h1
theorem snd_efld {i : Nat} {f : Str} (hx : HotX X p) (hf : ∀ c f, G.fld c f = true → ∃ D, T c = .ref D ∧ ExcK X.K D ∧ PySem.W.findIn X.K (.ref D) f = some none) (hv : PE X a (tVar i)) (hb : attributeBase a f X.env (eval a X.env) = eval a X.env) : Snd X T W G (.Attribute a f pos) (.efld i f) := by
  refine snd_of ⟨fun pins s σ H Q I ⟨B, F, pa, env, r, hw⟩ => ?_⟩ fun _ z => nomatch z
  unfold ev at hw
  obtain ⟨x, d, he, hfl, hl, hw⟩ := Wp.efldM hw
  obtain ⟨a', oe, h1, h2, h3, h4⟩ := r.sl i _ he
  rw [hx.ho] at h1
  obtain rfl : p = (a', oe) := Option.some.inj h1
  obtain ⟨D, hD, ek, hno⟩ := hf _ _ hfl
  have hcls : oe.cls = .ref D := h3.trans hD
  rcases h4 with ⟨h5, _⟩ | ⟨dd, fs, h5, h6, h7, h8⟩
  · rw [h5] at hl
    cases hl
  · obtain ⟨v, hlv, hrv⟩ := fld_rep h7 h8 hl
    refine attr_of hb (thn (hv.run pins s σ H (fun v' H' => v' = .ref a' ∧ H' = H) I ⟨.ref a', h2, rfl, rfl⟩) fun u s1 ⟨v1, H1, I1, r1, e1, e2⟩ => ?_)
    subst e1
    subst e2
    obtain rfl : u = Value.ref a' := r1
    have hH := r.fh _ _ h6
    obtain ⟨mA, hns, hr⟩ : ObjOk X.prog X.w H1 s1.heap dd (.xd fs) := I1.hok dd _ hH
    obtain ⟨od, ho, hlo⟩ := lookIn_ns hns
    obtain ⟨u, hu, ru⟩ := RelO.some_of (v := v) (o := mA f) (by rw [← hlv]; exact hr f)
    obtain ⟨hg, _⟩ := I1.pin (a', oe) (List.mem_append_left _ hx.in)
    obtain ⟨_, vs, hdat, _⟩ := hx.hot
    have J : PySem.W.InstAt s1.heap a' oe D (some od) := ⟨hg, hcls, by unfold PySem.W.notCls; rw [hdat] <;> rfl, by rw [h5]; exact ho⟩
    exact PySem.HandSPX.exc_get I1.kIn J ek.ga ek.gg ek.su (PySem.W.findObj_own ek.hd hno rfl (by rw [hlo, hu])) (handed_of ru) ⟨v, H1, I1.tok _, ru, hw v H1 F (Ex.refl F) ⟨r, hrv⟩⟩
/-! isinstance -/
def rEx (K : PySem.W.Frag) (p : Addr × Obj) : List V → Hp → VK → Prop := fun xs H Q => ∃ (D : Addr) (b : Bool), p.2.cls = .ref D ∧ ExcK K D ∧ (p.2.dict = none ∨ ∃ dd fs, p.2.dict = some dd ∧ H dd = some (.xd fs)) ∧
  ((∃ (c : V) (u : Value), xs = [.ref p.1, c] ∧ ClsV c u ∧ PySem.W.kitOne K (.ref D) u = some b) ∨ ∃ (tp : Addr) (cs : List V) (us : List Value), xs = [.ref p.1, .ref tp] ∧ H tp = some (.tup cs) ∧ Paired ClsV cs us ∧ PySem.W.kitAny K (.ref D) us = some b) ∧ Q (.bl b) H
theorem call_isEx (hx : HotX X p) : CallR X (.builtin "isinstance") (rEx X.K p) := by
  intro pins s σ H xs us Q I rv ⟨D, b, hc, ek, hd, h, q⟩
  obtain ⟨od, J⟩ := hx.inst I hc hd
  have Z := PySem.W.kitx_exc (x := p.1) (ox := p.2) (od := od) ek.hcl ek.ga ek.gg ek.su ek.ca ek.cn ek.ct ek.cm
  rcases h with ⟨c, u, rfl, k, e⟩ | ⟨tp, cs, ws, rfl, hT, k, e⟩
  · obtain ⟨u1, u2, rfl, r1, r2⟩ := vals2 rv
    obtain rfl : u1 = Value.ref p.1 := r1
    have e2 := k.eq r2
    subst e2
    exact PySem.W.kia_one Z I.kIn J e (fun z => nomatch z) fun tk => ⟨.bl b, H, I.tok tk, rfl, q⟩
  · obtain ⟨u1, u2, rfl, r1, r2⟩ := vals2 rv
    obtain rfl : u1 = Value.ref p.1 := r1
    obtain rfl : u2 = Value.ref tp := r2
    obtain ⟨_, its, rv', o, h1, h2, n, h3⟩ := (show ObjOk X.prog X.w H s.heap tp (.tup cs) from I.hok tp _ hT)
    have e3 := ClsV.all k rv'
    subst e3
    obtain ⟨oc, od', dt, sl⟩ := o
    simp only at h2 h3
    subst h2 h3
    exact PySem.W.kia_tup Z I.kIn J h1 e (fun z => nomatch z) fun tk => ⟨.bl b, H, I.tok tk, rfl, q⟩
/-- class names as values -/
def ClsPA (X : Cx) (T : Nat → Value) (es : List Expr) (cs : List Nat) : Prop := ∃ vs : List V, PA X es (fun _ H Q => Q vs H) ∧ Paired ClsV vs (cs.map T) ∧ vs.length = es.length
theorem sub_any {K : PySem.W.Frag} {G : Gx} {c : Nat} (hs : ∀ c c' b, G.sub c c' = some b → PySem.W.kitOne K (T c) (T c') = some b) : ∀ {cs : List Nat} {b : Bool}, subAny (G.sub c) cs = some b → PySem.W.kitAny K (T c) (cs.map T) = some b
  | [], b, h => by cases h; exact kitAny_nil
  | c' :: cs, b, h => by
    unfold subAny at h
    split at h
    · rename_i h1
      cases h
      exact kitAny_cons (hs _ _ _ h1) (fun z => nomatch z) fun _ => rfl
    · rename_i h1
      exact kitAny_cons (hs _ _ _ h1) (fun _ => sub_any hs h) fun z => nomatch z
    · cases h
theorem snd_eisi {i : Nat} {cs : List Nat} {e2 : Expr} {t2 : TE} {pn : Pos} (hx : HotX X p) (hs : ∀ c c' b, G.sub c c' = some b → PySem.W.kitOne X.K (T c) (T c') = some b) (hK : ∀ c c' b, G.sub c c' = some b → ∃ D, T c = .ref D ∧ ExcK X.K D) (hne : cs ≠ []) (hg : Gl X "isinstance") (hm : X.mg "isinstance" = none)
    (hv : PE X a (tVar i)) (h2 : PE X e2 t2) (he : starEach [a, e2] X.env = (false, eval a X.env) :: starEach [e2] X.env) (hs2 : starEach [e2] X.env = (false, eval e2 X.env) :: starEach [] X.env)
    (ht2 : ∀ σ H Q, (∀ v H', Ex H H' → ((∃ c, cs = [c] ∧ ClsV v (T c)) ∨ ∃ tp vs, v = .ref tp ∧ H' tp = some (.tup vs) ∧ Paired ClsV vs (cs.map T)) → (H' = H ∨ ∃ q o, H q = none ∧ H' = upd H q o) → Q v H') → t2 σ H Q) : Snd X T W G (.Call (.Name "isinstance" pn) [a, e2] [] pos) (.eisi i cs) := by
  refine snd_of (pe_w (pe_callB (call_isEx hx) hg hm (by decide +kernel) (pa_cons hv (pa_cons h2 pa_nil hs2) he) (by decide) (by decide) he (by rw [hs2]; rfl)) fun σ H Q ⟨B, F, pa, env, r, hw⟩ => ?_) fun _ z => nomatch z
  unfold ev at hw
  obtain ⟨x, b, hen, hsub, hw⟩ := Wp.eisiM hw
  obtain ⟨a', oe, h1, h2', h3, h4⟩ := r.sl i _ hen
  rw [hx.ho] at h1
  obtain rfl : p = (a', oe) := Option.some.inj h1
  have hD : ∃ D, T x.c = .ref D ∧ ExcK X.K D := by
    cases cs with
    | nil => exact absurd rfl hne
    | cons c' cs =>
      unfold subAny at hsub
      cases hq : G.sub x.c c' with
      | none => rw [hq] at hsub; cases hsub
      | some b' => exact hK _ _ _ hq
  obtain ⟨D, hD, ek⟩ := hD
  have hcls : oe.cls = .ref D := h3.trans hD
  refine ⟨.ref a', h2', ht2 _ _ _ fun v H' e' hv' hH' => ?_⟩
  have hdict : oe.dict = none ∨ ∃ dd fs, oe.dict = some dd ∧ H' dd = some (.xd fs) := by
    rcases h4 with ⟨_, h5⟩ | ⟨dd, fs, h5, h6, _⟩
    · exact .inl h5
    · exact .inr ⟨dd, fs, h5, e' _ _ (r.fh _ _ h6)⟩
  have hq : Q (.bl b) H' := by
    rcases hH' with rfl | ⟨q, o, hq, rfl⟩
    · exact hw _ _ F (Ex.refl F) ⟨r, .bl _⟩
    · exact hw _ _ F (Ex.refl F) ⟨(r.fresh hq).drop (r.b_none hq), .bl _⟩
  refine ⟨D, b, hcls, ek, hdict, ?_, hq⟩
  rcases hv' with ⟨c, rfl, hc⟩ | ⟨tp, vs, rfl, htp, hp⟩
  · left
    refine ⟨v, T c, rfl, hc, ?_⟩
    rw [← hD]
    unfold subAny subAny at hsub
    cases hq' : G.sub x.c c with
    | none => rw [hq'] at hsub; cases hsub
    | some b' =>
      rw [hq'] at hsub
      have e : b' = b := by
        cases b' <;> exact Option.some.inj hsub
      subst e
      exact hs _ _ _ hq'
  · right
    exact ⟨tp, vs, _, rfl, htp, hp, by rw [← hD]; exact sub_any hs hsub⟩
end
end Dl

set_option maxHeartbeats 4000000
/-! DlQ: defs called where an exception is handled; try, raise. -/
namespace Dl
open PySem PySem.Spec PyProof.Rows L2
open Evl (Ex)

/-- what a def promises where p's exception is handled -/
structure FnE (P : Program) (w : World) (K : PySem.W.Frag) (mg : Str → Option Value) (base : Heap) (k : Nat) (f : Addr) (fd : FuncData) (ps : List Str) (sp : Addr × Obj → Sp) : Prop where
  len : ∀ p vs H Q E, sp p vs H Q E → vs.length = ps.length
  run : ∀ (A : Around) (outer : List Env) (s : Shared) (H : Hp) (args : Args) (us : List Value) (vs : List V) (Q : VK) (E : XK) (p : Addr × Obj), L2H.RoomH k A → A.guards = some [] → L2H.Hot1 A p → L2H.PinOk outer H s p → Env0 P w K mg base A outer s H → BindsTo s fd args (ps.zip us) → Vals vs us →
    sp p vs H Q E → codeAny (model P w) A (.call (.ref f) args) (CR (L2N.CX P w) outer P w H s Q E) s
theorem fnE_of {P : Program} {w : World} {K : PySem.W.Frag} {mg : Str → Option Value} {base : Heap} {k : Nat} {f : Addr} {name qual : Str} {params : Arguments} {body : List Stmt} {scope : Scope} {dV kV doc pm cdv ct oc : Value} {an od : Option Addr} {osl : Array (Option Value)} {N ps : List Str} {sp : Addr × Obj → Sp}
    (lk : K.lookup f = some ⟨oc, od, .func (PySem.W.fnOf name qual params body scope dV kV doc pm an cdv ct), osl⟩) (hcd : PySem.W.codeIn K cdv qual = true) (Sc : FnScope N ps scope) (len : ∀ p vs H Q E, sp p vs H Q E → vs.length = ps.length)
    (hbody : ∀ (A : Around) (outer : List Env) (s : Shared) (H : Hp) (vs : List V) (Q : VK) (E : XK) (p : Addr × Obj), L2H.Hot1 A p → L2H.RoomH k (A.deeper (envOfC qual scope s.heap.objs.size f cdv)) → A.guards = some [] → sp p vs H Q E →
      ∃ t, PSs (L2H.cxH (L2N.CX P w) P w K mg base N qual scope f cdv A outer s H E p) body t ∧ t { nx := fun _ H' => Q .non H', rt := Q } (L2.start N vs) H) :
    FnE P w K mg base (k + 1) f (PySem.W.fnOf name qual params body scope dV kV doc pm an cdv ct) ps sp where
  len := len
  run := by
    intro A outer s H args us vs Q E p hr hgd hot hpin e0 hb rl hsp
    have vlen := len _ _ _ _ _ hsp
    have inS : K.In s.heap := e0.mod.kin.keeps (fun b o e => (e0.bs b o e).1)
    have noL : s.heap.NoLimit := e0.mod.nolimit.keeps (fun b o e => (e0.bs b o e).1)
    have kinds : ∀ y ∈ ps.zip us, scope.names.lookup y.1 = some .local ∨ (scope.names.lookup y.1 = some .cell ∧ ((cellsFrom (s.heap.objs.size + 1) scope.names []).lookup y.1).isSome = true) := by
      rintro ⟨n, v⟩ hy
      have q := Sc.par n (List.of_mem_zip hy).1
      exact q.imp id (fun q => ⟨q, PySem.W.cellsFrom_some _ _ _ (.inl q)⟩)
    refine codeAny_call_function hr.depth (inS _ _ lk) rfl Sc.co Sc.gen rfl (PySem.W.codeRec_of inS hcd) (hb _ _ _ _ ?_)
    refine wpAny_newFunctionEnv_cells Sc.kind kinds (fun en hen s1 x => ?_)
    subst hen
    refine ⟨noL.keeps x.toInCall.keep, codeAny_func ?_⟩
    obtain ⟨t, ht, hq⟩ := hbody A outer s H vs Q E p hot (hr.deeper _) hgd hsp
    have I0 := L2H.inv_startH (CX := L2N.CX P w) (E := E) Sc hpin e0 vlen rl x
    refine wpAny_mono (ht.run [] s1 (L2.start N vs) H _ I0 hq) ?_ (fun e s' z => z)
    intro fl s' hs
    cases fl with
    | ret u =>
      obtain ⟨v, σ', H', J, rv, q⟩ := hs
      exact ⟨v, H', J.os, J.bare, J.base, J.hok, rv, q⟩
    | next =>
      obtain ⟨σ', H', J, q⟩ := hs
      exact ⟨.non, H', J.os, J.bare, J.base, J.hok, rfl, q⟩
    | brk => exact (show False from hs.choose_spec.choose_spec.2).elim
    | cont => exact (show False from hs.choose_spec.choose_spec.2).elim
section
variable {X : Cx} {T : Nat → Value} {W : L2.WX} {G : Gx} {p : Addr × Obj} {a b c : Expr} {xa xb xc : IX} {pos : Pos} {as : List Expr} {xs : List IX}
theorem run_fnE {k : Nat} {f : Addr} {fd : FuncData} {ps : List Str} {sp : Addr × Obj → Sp} {E : L2.St → XK} {pins : List (Addr × Obj)} {σ : L2.St} {H : Hp} {s : Shared} {Q : VK} {us : List Value} {vs : List V} (F : FnE X.prog X.w X.K X.mg X.base k f fd ps sp) (hx : HotX X p) (hr : L2H.RoomH k X.A) (hgd : X.A.guards = some []) (hb : Binds X.K fd ps [])
    (hps : PassesAt (L2N.CX X.prog X.w) X σ (E σ)) (I : Inv X pins σ H s) (r : Vals vs us) (h : sp p vs H Q (E σ)) : wpAny (model X.prog X.w) X.A (call (.ref f) us) (EP X pins σ Q) X.xe s := by
  have ul : us.length = ps.length := r.length.symm.trans (F.len _ _ _ _ _ h)
  have bb := hb s us I.kIn (by rw [List.append_nil]; exact ul)
  rw [List.append_nil] at bb
  obtain ⟨z1, z2, z3, z4, z5⟩ := I.pin p (List.mem_append_left _ hx.in)
  have hpin : L2H.PinOk X.stack H s p := ⟨z1, z2, fun hm => (List.mem_cons.mp (I.stkSub p.1 hm)).elim z3 z4, z5⟩
  refine wpAny_call (codeAny_mono (F.run X.A X.stack s H ⟨us, []⟩ us vs Q (E σ) p hr hgd hx.hot hpin I.env0 bb r h) ?_)
  intro res s' hq
  match res, hq with
  | .error e, hq => exact hps pins H s e s' I hq
  | .ok (.ret u), hq => exact I.after hq
  | .ok .next, hq => exact hq.elim
  | .ok .brk, hq => exact hq.elim
  | .ok .cont, hq => exact hq.elim
/-- what the module knows of a def that is called there -/
structure HnAt (X : Cx) (T : Nat → Value) (k : Nat) (x : Str) (i : FnI) : Prop where
  ex : ∃ (f : Addr) (fd : FuncData) (ps : List Str), X.mg x = some (.ref f) ∧ PySem.W.keepIn X.K (.ref f) = true ∧ Binds X.K fd ps [] ∧ ps.length = i.modes.length ∧ FnE X.prog X.w X.K X.mg X.base k f fd ps (fun p => spG ⟨X.K, T, some p⟩ i.modes.length i.sem)
theorem snd_hcall {k : Nat} {x : Str} {q : Pos} {i : FnI} (hx : HotX X p) (hG : G.hot x = some i) (hF : HnAt X T k x i) (hr : L2H.RoomH k X.A) (hgd : X.A.guards = some []) (tk : L2N.Takes X W) (hg : Gl X x) (ha : SndA X T W G (a :: as) xs) (hdb : (x == ("__debug__" : Str)) = false)
    (he : starEach (a :: as) X.env = (false, eval a X.env) :: starEach as X.env) (hpl : (backTo pos (starEach as X.env)).any (·.1) = false) : Snd X T W G (.Call (.Name x q) (a :: as) [] pos) (.hcall x xs) := by
  obtain ⟨f, fd, ps, hm, hk, hb, hl, F⟩ := hF.ex
  have ek : kh X T = ⟨X.K, T, some p⟩ := by
    have z := hx.ho (T := T)
    show (⟨X.K, T, hoOf X⟩ : KH) = _
    rw [show hoOf X = some p from z]
  refine snd_of ⟨fun pins s σ H Q I ⟨B, F0, pa, env, r, hw⟩ => ?_⟩ fun _ z => nomatch z
  unfold ev at hw
  rw [Wp.bind] at hw
  refine wpAny_Call_Name_kw (ld_glob I hg hm ?_ hdb)
  have step := ha.run pos pins s σ H (fun vs H1 => spG ⟨X.K, T, some p⟩ i.modes.length i.sem vs H1 Q (WE W σ)) I ⟨B, F0, pa, env, r, hw.mono (fun os env1 hw1 vs H1 F1 e1 r1 p1 => ?_) fun _ _ q => q⟩
  · refine PySem.W.callWith_K (h₀ := X.base) I.ok.mod.kin hk (thn step fun us s1 ⟨vs, H1, I1, rl, q⟩ => ⟨I1.kIn, ?_⟩) he hpl
    exact run_fnE F hx hr hgd hb (L2N.passAt tk σ) I1 rl q
  · rw [hG] at hw1
    have z := call_ok r1 p1 (Wp.mono hw1 (fun rv env' q v H' F' e' p => q v H' F' (e1.trans e') p) fun _ _ q => XW.mono e1 q)
    rw [ek] at z
    exact z
end
theorem fnE_def {P : Program} {w : World} {K : PySem.W.Frag} {mg : Str → Option Value} {base : Heap} {k : Nat} {f : Addr} {name qual : Str} {params : Arguments} {body : List Stmt} {scope : Scope} {dV kV doc pm cdv ct oc : Value} {an od : Option Addr} {osl : Array (Option Value)} {N ps : List Str}
    {T : Nat → Value} {G : Gx} {ss : List IS} (lk : K.lookup f = some ⟨oc, od, .func (PySem.W.fnOf name qual params body scope dV kV doc pm an cdv ct), osl⟩) (hcd : PySem.W.codeIn K cdv qual = true) (Sc : FnScope N ps scope)
    (hb : ∀ (A : Around) (outer : List Env) (s : Shared) (H : Hp) (E : XK) (p : Addr × Obj), L2H.Hot1 A p → L2H.RoomH k (A.deeper (envOfC qual scope s.heap.objs.size f cdv)) → A.guards = some [] →
      SndSs (L2H.cxH (L2N.CX P w) P w K mg base N qual scope f cdv A outer s H E p) T (fun cls d _ H' => E cls d H') G body ss) :
    FnE P w K mg base (k + 1) f (PySem.W.fnOf name qual params body scope dV kV doc pm an cdv ct) ps (fun p => spG ⟨K, T, some p⟩ ps.length (defM N.length (exs G ss))) :=
  fnE_of lk hcd Sc (fun p vs H Q E h => h.1) fun A outer s H vs Q E p hot hr hgd hsp => by
    obtain ⟨hl, B, F, pa, as, r, hw⟩ := hsp
    have rx : Rel ⟨K, T, some p⟩ B F pa (as ++ List.replicate (N.length - vs.length) .un) (L2.start N vs) H := by
      unfold L2.start
      exact r.ext _
    refine ⟨_, hb A outer s H E p hot hr hgd, B, F, pa, as ++ List.replicate (N.length - vs.length) Slot.un, rx, ?_⟩
    have hlen : vs.length = as.length := by
      have z := r.len
      rw [List.length_map] at z
      exact z
    rw [hlen]
    unfold Wp defM at hw
    unfold Wp
    cases hm : exs G ss (as ++ List.replicate (N.length - as.length) .un) with
    | none => rw [hm] at hw; exact hw.elim
    | some z =>
      obtain ⟨z1, env'⟩ := z
      rw [hm] at hw
      cases z1 with
      | error x =>
        intro cls d σ' H' F' e' ⟨h1, p⟩
        refine hw cls d H' F' e' ⟨h1, ?_⟩
        rcases p with ⟨a1, a2, a3⟩ | ⟨dd, fs, a1, a2, a3, a4⟩
        · exact .inl ⟨a1, a2, r.outs a3⟩
        · exact .inr ⟨dd, fs, a1, a2, r.outs a3, a4⟩
      | ok fl =>
        cases fl with
        | next => exact fun σ' H' F' e' r' => hw .non H' F' e' ⟨r.outs r', .non⟩
        | brk => exact hw.elim
        | cont => exact hw.elim
        | ret rv =>
          intro v σ' H' F' e' p
          refine hw v H' F' e' ?_
          cases rv with
          | val d => exact ⟨r.outs p.1, p.2⟩
          | new ds =>
            obtain ⟨q, ws, rfl, h1, h2, h3⟩ := p
            exact ⟨q, ws, rfl, h1, r.outs h2, h3⟩
/-! ### from one view to the other -/
section
variable {K : PySem.W.Frag} {T : Nat → Value} {h1 h2 : Option (Addr × Obj)} {B F H : Hp} {pa : Nat → Addr} {env : Envs} {σ : L2.St}
mutual
theorem Rep.view : ∀ {v : V} {d : D}, Rep ⟨K, T, h1⟩ F v d → Rep ⟨K, T, h2⟩ F v d
  | _, _, .non => .non
  | _, _, .bl b => .bl b
  | _, _, .int i => .int i
  | _, _, .str s => .str s
  | _, _, .lst h r => .lst h (Reps.view r)
  | _, _, .tup h r => .tup h (Reps.view r)
  | _, _, .dic h hk r => .dic h hk (Reps.view r)
  | _, _, .scr h => .scr h
theorem Reps.view : ∀ {vs : List V} {ds : List D}, Reps ⟨K, T, h1⟩ F vs ds → Reps ⟨K, T, h2⟩ F vs ds
  | _, _, .nil => .nil
  | _, _, .cons h r => .cons (Rep.view h) (Reps.view r)
end
theorem noExn_get {i : Nat} {s : Slot} (h : (noExn env)[i]? = some s) : (env[i]? = some s ∧ ∀ x, s ≠ .exn x) ∨ s = .un := by
  unfold noExn at h
  rw [List.getElem?_map] at h
  obtain ⟨s', e1, e2⟩ := Option.map_eq_some_iff.mp h
  cases s' with
  | exn x => exact .inr e2.symm
  | un => exact .inr e2.symm
  | val d => cases e2; exact .inl ⟨e1, fun _ z => nomatch z⟩
  | own io ds => cases e2; exact .inl ⟨e1, fun _ z => nomatch z⟩
/-- the exception is out of view -/
theorem Rel.cool (r : Rel ⟨K, T, h1⟩ B F pa env σ H) : Rel ⟨K, T, h2⟩ B F pa (noExn env) σ H := by
  have isO : ∀ {i : Nat}, IsOwn (noExn env)[i]? → IsOwn env[i]? := fun {i} ⟨io, ds, h⟩ => by
    rcases noExn_get h with ⟨h, _⟩ | h
    · exact ⟨io, ds, h⟩
    · cases h
  refine ⟨by unfold noExn; rw [List.length_map]; exact r.len, r.fh, r.bh, fun i s hs => ?_, fun i j p a1 a2 a3 a4 => r.sep i j p (isO a1) (isO a2) a3 a4⟩
  rcases noExn_get hs with ⟨h, hn⟩ | rfl
  · cases s with
    | un => trivial
    | val d =>
      obtain ⟨v, a1, a2⟩ := r.val h
      exact ⟨v, a1, a2.view⟩
    | own io ds =>
      obtain ⟨p, vs, a1, a2, a3, a4, a5, a6⟩ := r.owned h
      exact ⟨p, vs, a1, a2, a3, a4, a5.view, a6⟩
    | exn x => exact absurd rfl (hn x)
  · trivial
/-- an exception comes into view -/
theorem Rel.heat {i : Nat} {x : Exn} {a : Addr} {oe : Obj} (r : Rel ⟨K, T, none⟩ B F pa env σ H) (hc : oe.cls = T x.c) (hf : (x.fs = [] ∧ oe.dict = none) ∨ ∃ dd fs, oe.dict = some dd ∧ F dd = some (.xd fs) ∧ fs.map (·.1) = x.fs.map (·.1) ∧ Reps ⟨K, T, none⟩ F (fs.map (·.2)) (x.fs.map (·.2))) :
    Rel ⟨K, T, some (a, oe)⟩ B F pa (env.set i (.exn x)) (σ.set i (some (.ref a))) H := by
  have r' := r.un i (some (.ref a))
  have isO : ∀ {j : Nat}, IsOwn (env.set i (.exn x))[j]? → IsOwn (env.set i .un)[j]? := fun {j} ⟨io, ds, h⟩ => by
    by_cases hj : i = j
    · subst hj
      have hl : i < env.length := by
        have z := (List.getElem?_eq_some_iff.mp h).1
        rw [List.length_set] at z
        exact z
      rw [List.getElem?_set_self hl] at h
      cases h
    · rw [List.getElem?_set_ne hj] at h ⊢
      exact ⟨io, ds, h⟩
  refine ⟨by rw [List.length_set, List.length_set]; exact r.len, r.fh, r.bh, fun j s hs => ?_, fun j k p a1 a2 a3 a4 => r'.sep j k p (isO a1) (isO a2) a3 a4⟩
  by_cases hj : i = j
  · subst hj
    have hl : i < env.length := by
      have z := (List.getElem?_eq_some_iff.mp hs).1
      rw [List.length_set] at z
      exact z
    rw [List.getElem?_set_self hl] at hs
    cases hs
    refine ⟨a, oe, rfl, by rw [List.getElem?_set_self (by rw [r.len]; exact hl)], hc, ?_⟩
    rcases hf with hf | ⟨dd, fs, b1, b2, b3, b4⟩
    · exact .inl hf
    · exact .inr ⟨dd, fs, b1, b2, b3, b4.view⟩
  · rw [List.getElem?_set_ne hj] at hs ⊢
    cases s with
    | un => trivial
    | val d =>
      obtain ⟨v, a1, a2⟩ := r.val hs
      exact ⟨v, a1, a2.view⟩
    | own io ds =>
      obtain ⟨p, vs, a1, a2, a3, a4, a5, a6⟩ := r.owned hs
      exact ⟨p, vs, a1, a2, a3, a4, a5.view, a6⟩
    | exn y =>
      obtain ⟨_, _, z, _⟩ := r.sl j _ hs
      cases z
end
end Dl

set_option maxHeartbeats 4000000
/-! DlR: list comprehensions where an exception is handled. -/
namespace Dl
open PySem PySem.Spec PyProof.Rows L2
open Evl (Ex)

section
variable {prog : Program} {w : World} {A : Around} {E : Value → Shared → Prop} {s : Shared}
theorem hot_but {x1 it : Addr} {h h' : Heap} (hot : HotX.HotAt A x1 h) (hne : x1 ≠ it) (e : Heap.ExtBut it h h') : HotX.HotAt A x1 h' := by
  obtain ⟨a1, ob, us, a2, a3, a4⟩ := hot
  exact ⟨a1, ob, us, e x1 ob hne a2, a3, a4⟩
theorem list_end_hot {it l x1 : Addr} {j : Nat} {its : Array Value} {Q : Option Value → Shared → Prop} (hot : HotX.HotAt A x1 s.heap) (hne : x1 ≠ it)
    (hi : s.heap.IsListIter it l j) (hl : s.heap.IsList l its) (hx : its[j]? = none) (hQ : ∀ hp, Heap.ExtBut it s.heap hp → Q none { s with heap := hp }) : wpAny (model prog w) A (pyNext (.ref it)) Q E s := by
  obtain ⟨oi, hoi, hci, hdi⟩ := id hi
  obtain ⟨ob, hob, _, nb, hdb⟩ := hl
  unfold pyNext
  refine wpAny_bind (wpAny_attempt (wpAny_callSpecial?_slot (name := Str.ofString "__next__") hi.typeIs slot_listiter_next (wpAny_call_entry slot_listiter_next hi.typeIs entry_listiter_next ?_ (args_listiter_next _))))
  show wpAny _ _ (field (.ref it) 0 >>= _) _ _ _
  refine wpAny_bind (wpAny_field hoi hdi (x := .ref l) rfl ?_)
  show wpAny _ _ (if (Value.ref l == Value.none) = true then _ else _) _ _ _
  have ln : ¬ ((Value.ref l == Value.none) = true) := Bool.false_ne_true
  rw [if_neg ln]
  show wpAny _ _ (field (.ref it) 1 >>= _) _ _ _
  refine wpAny_bind (wpAny_field hoi hdi (x := .int j 0) rfl ?_)
  show wpAny _ _ (seqItems? (.ref l) >>= _) _ _ _
  refine wpAny_bind (wpAny_seqItems hob hdb ?_)
  simp only [Int.toNat_natCast, hx]
  have e1 : Heap.ExtBut it s.heap (s.heap.update it (Obj.mapFields (·.setIfInBounds 0 Value.none))) := (Heap.SameBut.update ..).extBut
  have hot1 := hot_but hot hne e1
  obtain ⟨hh, o1, v1, h1, d1, c1⟩ := hot1
  refine wpAny_bind (wpAny_rule (wpAny_bind (wpAny_setField hoi hdi (by simp) ?_)))
  show wpAny _ _ (newExc (.type "StopIteration") [] >>= _) _ _ _
  refine wpAny_bind ?_
  simp only [newExc, newTuple]
  refine wpAny_bind (wpAny_newObj_type ?_ (by size_fits))
  refine wpAny_bind (m := firstArgMember _ _) (wpAny_of_eq (a := Value.none) (by first | rfl | (simp only [firstArgMember]; rfl)) ?_)
  refine wpAny_newObj_type ?_ (by size_fits)
  refine HotX.raiseNew_hot (x1 := x1) ⟨hh, o1, v1, Heap.get?_push_of_some _ (Heap.get?_push_of_some _ h1), d1, c1⟩ (Nat.ne_of_lt (Heap.lt_size (Heap.get?_push_of_some _ h1))) (Heap.get?_push_size _ rfl) rfl (by first | (simp; done) | (simp; omega) | (simp only [Array.size_append]; simp; omega)) ?_
  refine wpAny_bind (wpAny_isInstance (T := "StopIteration") (b := true) ⟨_, Heap.get?_update_self _ (Heap.get?_push_size _ rfl) rfl, rfl⟩ isSubtype_stop ?_)
  refine wpAny_pure (hQ _ fun b o hb e => ?_)
  have e2 := e1 b o hb e
  rw [Heap.get?_update_other _ _ (Nat.ne_of_gt (Heap.lt_size (Heap.get?_push_of_some _ e2)))]
  exact Heap.get?_push_of_some _ (Heap.get?_push_of_some _ e2)
theorem tuple_end_hot {it l x1 : Addr} {j : Nat} {its : Array Value} {Q : Option Value → Shared → Prop} (hot : HotX.HotAt A x1 s.heap) (hne : x1 ≠ it)
    (hi : IsTupIter s.heap it l j) (hl : IsTup s.heap l its) (hx : its[j]? = none) (hQ : ∀ hp, Heap.ExtBut it s.heap hp → Q none { s with heap := hp }) : wpAny (model prog w) A (pyNext (.ref it)) Q E s := by
  obtain ⟨oi, hoi, hci, hdi⟩ := id hi
  obtain ⟨ob, hob, _, nb, hdb⟩ := hl
  unfold pyNext
  refine wpAny_bind (wpAny_attempt (wpAny_callSpecial?_slot (name := Str.ofString "__next__") hi.typeIs slot_tupleiter_next (wpAny_call_entry slot_tupleiter_next hi.typeIs entry_tupleiter_next ?_ (args_tupleiter_next _))))
  show wpAny _ _ (field (.ref it) 0 >>= _) _ _ _
  refine wpAny_bind (wpAny_field hoi hdi (x := .ref l) rfl ?_)
  show wpAny _ _ (if (Value.ref l == Value.none) = true then _ else _) _ _ _
  have ln : ¬ ((Value.ref l == Value.none) = true) := Bool.false_ne_true
  rw [if_neg ln]
  show wpAny _ _ (field (.ref it) 1 >>= _) _ _ _
  refine wpAny_bind (wpAny_field hoi hdi (x := .int j 0) rfl ?_)
  show wpAny _ _ (seqItems? (.ref l) >>= _) _ _ _
  refine wpAny_bind (wpAny_seqItems hob hdb ?_)
  simp only [Int.toNat_natCast, hx]
  have e1 : Heap.ExtBut it s.heap (s.heap.update it (Obj.mapFields (·.setIfInBounds 0 Value.none))) := (Heap.SameBut.update ..).extBut
  have hot1 := hot_but hot hne e1
  obtain ⟨hh, o1, v1, h1, d1, c1⟩ := hot1
  refine wpAny_bind (wpAny_rule (wpAny_bind (wpAny_setField hoi hdi (by simp) ?_)))
  show wpAny _ _ (newExc (.type "StopIteration") [] >>= _) _ _ _
  refine wpAny_bind ?_
  simp only [newExc, newTuple]
  refine wpAny_bind (wpAny_newObj_type ?_ (by size_fits))
  refine wpAny_bind (m := firstArgMember _ _) (wpAny_of_eq (a := Value.none) (by first | rfl | (simp only [firstArgMember]; rfl)) ?_)
  refine wpAny_newObj_type ?_ (by size_fits)
  refine HotX.raiseNew_hot (x1 := x1) ⟨hh, o1, v1, Heap.get?_push_of_some _ (Heap.get?_push_of_some _ h1), d1, c1⟩ (Nat.ne_of_lt (Heap.lt_size (Heap.get?_push_of_some _ h1))) (Heap.get?_push_size _ rfl) rfl (by first | (simp; done) | (simp; omega) | (simp only [Array.size_append]; simp; omega)) ?_
  refine wpAny_bind (wpAny_isInstance (T := "StopIteration") (b := true) ⟨_, Heap.get?_update_self _ (Heap.get?_push_size _ rfl) rfl, rfl⟩ isSubtype_stop ?_)
  refine wpAny_pure (hQ _ fun b o hb e => ?_)
  have e2 := e1 b o hb e
  rw [Heap.get?_update_other _ _ (Nat.ne_of_gt (Heap.lt_size (Heap.get?_push_of_some _ e2)))]
  exact Heap.get?_push_of_some _ (Heap.get?_push_of_some _ e2)
theorem unpack_hot {t x1 : Addr} {its : Array Value} {tgs : List (Bool × (Value → Sem Unit))} {Q : Unit → Shared → Prop} (hot : HotX.HotAt A x1 s.heap) (ht : IsTup s.heap t its) (hn : tgs.length = its.size) (hstar : tgs.findIdx? (·.1) = none)
    (q : ∀ hp, Heap.ExtBut s.heap.objs.size s.heap hp → wpAny (model prog w) A (assignInOrder (tgs.map (·.2)) its.toList) Q E { s with heap := hp }) : wpAny (model prog w) A (unpack (.ref t) tgs) Q E s := by
  have hlt : t ≠ s.heap.objs.size := by obtain ⟨ob, hob, _⟩ := ht; exact Nat.ne_of_lt (Heap.lt_size hob)
  have hx : x1 ≠ s.heap.objs.size := by obtain ⟨_, ob, _, hob, _⟩ := hot; exact Nat.ne_of_lt (Heap.lt_size hob)
  unfold unpack
  rw [hn, hstar]
  refine wpAny_bind (wpAny_holding ?_)
  unfold unpackItems
  refine wpAny_bind ?_
  unfold notIterableAtAll
  refine wpAny_bind (wpAny_specialOf ht.typeIs slot_tuple_iter.lookup ?_)
  refine wpAny_pure ?_
  simp only [Bool.false_eq_true, if_false]
  refine wpAny_bind (wpAny_holding (iter_tuple ht ?_))
  refine wpAny_bind (wpAny_holding (draw_tuple hlt its.size 0 _ _ ⟨_, Heap.get?_push_size _ rfl, rfl, rfl⟩ (ht.push _) (by omega) fun hp1 i1 sb1 => ?_))
  have hall : List.take its.size (List.drop 0 its.toList) = its.toList := by rw [List.drop_zero]; exact List.take_of_length_le (by simp)
  rw [hall, if_neg (by simp)]
  have ht1 : IsTup hp1 t its := (ht.push _).extBut sb1.extBut hlt
  have hot1 : HotX.HotAt A x1 hp1 := by
    obtain ⟨a1, ob, us, a2, a3, a4⟩ := hot
    exact ⟨a1, ob, us, sb1.extBut x1 ob hx (Heap.get?_push_of_some _ a2), a3, a4⟩
  refine wpAny_bind (wpAny_holding (tuple_end_hot (s := { s with heap := hp1 }) hot1 hx i1 ht1 (by simp) fun hp2 e2 => ?_))
  simp only [Option.isSome_none, Bool.false_eq_true, if_false]
  exact wpAny_pure (q hp2 fun b o hb e => e2 b o hb (sb1.extBut b o hb (Heap.get?_push_of_some _ e)))
end
section
variable {X : Cx} {tg : Expr}
theorem pg_tupH {es : List Expr} {k : Nat} {t : TGs} {n : Nat} {pos : Pos} (hc : L2H.HotC X) (h : PGs X es t) (hn : (assignEach es X.env).length = n) (hst : (assignEach es X.env).findIdx? (·.1) = none) : PG X (.Tuple es k pos) (gTup X.K n t) := by
  refine ⟨fun pins s σ H v u Q I r hw => ?_⟩
  obtain ⟨a, xs, rfl, hq, hl, hw⟩ := hw
  cases r
  obtain ⟨x1, hot⟩ := hc.at I
  obtain ⟨its, rv, ht, hz⟩ := I.tuple hq
  rw [assign_Tuple]
  refine wpAny_bind (wpAny_standAt (unpack_hot hot ht (by simp [hn, ← hl, rv.length]) hst fun hp e => ?_))
  have I2 : Inv X pins σ H { s with heap := hp } := I.kept (t' := s.toks) fun b o z => e b o (Nat.ne_of_lt (Heap.lt_size z)) z
  exact h.run pins _ σ H xs _ Q I2 (by simpa using rv) hw
theorem turn_listH {P : Program} {w : World} {K : PySem.W.Frag} {tg : Expr} (a it : Addr) : L2H.TurnH P w K tg (Itl K a) [it] it (fun i h => h.IsListIter it a i) where
  mem := (turn_list (P := P) (w := w) (K := K) (tg := tg) a it).mem
  obj := (turn_list (P := P) (w := w) (K := K) (tg := tg) a it).obj
  keep := (turn_list (P := P) (w := w) (K := K) (tg := tg) a it).keep
  item := by
    intro X e1 e2 e3 hc i pins s σ H E I hf st ⟨xs, x, hq, hx⟩
    subst e1 e2 e3
    obtain ⟨its, rv, p, hz⟩ := I.list hq
    obtain ⟨u, hu, ru⟩ := rv.get hx
    obtain ⟨f0, f1, f2, f3, f4, f5⟩ := hf it (by simp)
    refine wpAny_pyNext_list_item st p.isList (x := u) (by simpa using hu) fun hp st2 sb => ?_
    obtain ⟨o, z1, z2, z3⟩ := id st2
    refine ⟨u, rfl, go_of (s := { s with heap := hp }) z1 z2 z3 (by decide) ⟨x, H, ?_, ru, ⟨rfl, fun ys hy => ?_⟩, st2, fun b hb => (hf b hb).1⟩⟩
    · exact I.turned (t' := s.toks) (fun b o hb e => (sb.2 b hb).trans e) f0 f1 f3 f4 f5
    · rw [I.list_inj hy hq]
      exact hx
  done := by
    intro X e1 e2 e3 hc i pins s σ H E I hf st ⟨xs, hq, hx⟩
    subst e1 e2 e3
    obtain ⟨its, rv, p, hz⟩ := I.list hq
    obtain ⟨f0, f1, f2, f3, f4, f5⟩ := hf it (by simp)
    have hl := rv.length
    obtain ⟨p0, ⟨hh, v1, d1, c1⟩, hp0⟩ := hc
    have hot : HotX.HotAt X.A p0.1 s.heap := ⟨hh, p0.2, v1, (I.pin p0 (List.mem_append_left _ hp0)).1, d1, c1⟩
    exact list_end_hot hot (f5 p0 (List.mem_append_left _ hp0)) st p.isList (by simp; omega) fun hp eb => ⟨rfl, I.turned (t' := s.toks) (fun b o hb e => eb b o hb e) f0 f1 f3 f4 f5⟩
  self := (turn_list (P := P) (w := w) (K := K) (tg := tg) a it).self
theorem pi_listH {l : Expr} {tl : TE} (hl : PE X l tl) : L2H.PIH X tg l (iList X.K tl) := by
  refine ⟨fun pins s σ H R I h => thn (hl.run pins s σ H _ I h) fun v s1 ⟨x, H1, I1, r1, a, e, ⟨xs, hq⟩, q⟩ => ?_⟩
  subst e
  cases r1
  obtain ⟨its, rv, p, hz⟩ := I1.list hq
  refine wpAny_pyIter_list p.isList ⟨s1.heap.objs.size, [s1.heap.objs.size], _, _, H1, rfl, I1.kept (t' := s1.toks) fun b o e => Heap.get?_push_of_some _ e, turn_listH a _, ⟨_, Heap.get?_push_size _ rfl, rfl, rfl⟩, fun b hb => ?_, q⟩
  obtain rfl : b = s1.heap.objs.size := by simpa using hb
  exact I1.fpOk (Nat.le_refl _) (I1.hok.fresh (Nat.le_refl _))
end
end Dl

set_option maxHeartbeats 4000000
/-! DlS: the block of a list comprehension where an exception is handled. -/
namespace Dl
open PySem PySem.Spec PyProof.Rows L2
open Evl (Ex)

abbrev blkH (X : Cx) (p : Addr × Obj) (s : Shared) (H : Hp) (scope : Scope) (cenv : Env) (fp : List Addr) : Cx := { X.blk s H scope cenv fp with pn := [p] }
section
variable {X : Cx} {p : Addr × Obj} {pins : List (Addr × Obj)} {σ : L2.St} {H : Hp} {s : Shared}
theorem ok_pn {cx : Cx} {l : List (Addr × Obj)} (o : cx.Ok) : Cx.Ok { cx with pn := l } :=
  ⟨o.mod, o.kind, o.glob, o.blt, o.above, o.inj, o.has, o.cab, o.hd, o.frames, o.stk, o.exf, o.bs, o.bsz, o.noex, o.exfs, o.funs, o.frf⟩
theorem inv_pn {cx : Cx} (e : cx.pn = []) (I : Inv cx [] σ H s) (h : s.heap.get? p.1 = some p.2 ∧ H p.1 = none ∧ p.1 ≠ cx.env.locals ∧ p.1 ∉ cx.fs ∧ ∀ v, p.2.data ≠ .cell v) : Inv { cx with pn := [p] } [] σ H s :=
  ⟨ok_pn I.ok, I.os, I.bare, I.base, I.loc, I.cell, I.free, I.freeC, fun q hq => by
    obtain rfl : q = p := by simpa using hq
    exact h, I.hok, I.len⟩
theorem hot_blk {scope : Scope} {cenv : Env} {fp : List Addr} (h : HotX X p) : HotX (blkH X p s H scope cenv fp) p := ⟨h.calm, rfl, h.hot⟩
/-- what stands around a block's parts -/
abbrev AtBlk (X : Cx) (p : Addr × Obj) (scope : Scope) (P : Cx → Prop) : Prop := ∀ (s : Shared) (H : Hp) (C : Addr) (cl : List (Str × Addr)) (fp : List Addr), P (blkH X p s H scope (compEnvC scope cl C X.env) fp)
theorem hlc_core {Q : VK} {elt tg iter : Expr} {ifs : List Expr} {scope : Scope} {own : List (Str × Nat)} {pos pos' : Pos} {wi : TI} {g : TG} {tt : TT} {te : TE} {use : Option (Value → Sem Unit)} {Qf : Value → Shared → Prop} (hx : HotX X p) (hN : X.N.Nodup) (I : Inv X pins σ H s) (hi : L2H.PIH X tg iter wi)
    (ok : BlkOk X.N X.env.scope scope own) (hg : AtBlk X p scope fun cx => PG cx tg g) (ht : AtBlk X p scope fun cx => PTs cx ifs tt) (he : AtBlk X p scope fun cx => PE cx elt te) (hs : ∀ x, foldedSetIterable iter X.env x = pure x) (hq : tLc wi g tt te (own.map (·.2)) σ H Q)
    (fin : ∀ L C s' m H', Inv X pins σ H' s' → Q (.ref L) H' → s'.heap.Ns C m → FpOk X pins H' C → compPost (model X.prog X.w) X.A X.xe use Qf (.ref L) C (.ok .next) s') :
    wpAny (model X.prog X.w) X.A (comprehension (.ListComp elt [⟨tg, iter, ifs, 0⟩] scope pos) scope X.env pos' (newList []) false (eval iter X.env) use) Qf X.xe s := by
  have cap : ∀ z ∈ scope.names, z.2 = .free → ∃ c, X.env.cells.lookup z.1 = some c := fun z hz e => (ok.free z hz e).elim (fun k => I.ok.has _ (.inl k)) fun k => I.ok.has _ (.inr k)
  refine wpAny_comprehension_free (use := use) rfl hs (closure_ok cap) ok.kind (fun z hz e => by rw [ok.uniq z hz, e]) (thn (hi.run pins s σ H _ I hq) fun xv s1 h1 => thn h1 fun itv s2 ⟨it, fp, tn, J, H2, e, I2, T, st2, f2, q⟩ => ?_)
  subst e
  refine wpAny_newObj_type (newEnv_comp ?_) (Nat.zero_le _)
  generalize eL : s2.heap.objs.size = L
  obtain ⟨W, ⟨m0, w0⟩, turn⟩ := q L (I2.hok.fresh (Nat.le_of_eq eL))
  generalize e3 : ({ s2 with heap := s2.heap.push { cls := .type "list", data := .seq ([] : List Value).toArray } } : Shared) = s3
  have hp3 : s3.heap = s2.heap.push { cls := .type "list", data := .seq ([] : List Value).toArray } := by rw [← e3]
  have I3 : Inv X pins σ (upd H2 L (.lst [])) s3 := by
    rw [← e3]
    refine I2.laid (t' := s2.toks) (fun b o z => Heap.get?_push_of_some _ z) (Nat.le_of_eq eL) ⟨Nat.zero_le _, [], 0, .nil, ?_⟩
    rw [← eL]
    exact Heap.get?_push_size _ rfl
  have low : ∀ b ∈ fp, b < s2.heap.objs.size := fun b hb => let ⟨o, z, _⟩ := T.obj _ _ st2 b hb; Heap.lt_size z
  have f3 : ∀ b ∈ fp, FpOk X pins (upd H2 L (.lst [])) b ∧ b < s3.heap.objs.size := fun b hb => by
    refine ⟨⟨?_, (f2 b hb).2⟩, by rw [hp3, Heap.size_push]; exact Nat.lt_succ_of_lt (low b hb)⟩
    rw [upd_ne (by rw [← eL]; exact Nat.ne_of_lt (low b hb))]
    exact (f2 b hb).1
  have st3 : tn 0 s3.heap := T.keep _ _ _ st2 fun b _ o z => by rw [hp3]; exact Heap.get?_push_of_some _ z
  have I4 := block_start I3 ok hN f3
  generalize eH : upd H2 L (.lst []) = H3 at I3 I4 w0 f3
  show codeAny _ _ (.compStart (.ListComp elt [⟨tg, iter, ifs, 0⟩] scope pos) 0 (.ref it) (.ref L) (compEnvC scope (cellsFrom (s3.heap.objs.size + 1) scope.names (cloFrom X.env.cells scope.names [])) s3.heap.objs.size X.env)) (compPost (model X.prog X.w) X.A X.xe use Qf (.ref L) s3.heap.objs.size) { s3 with heap := pushCells (s3.heap.push { cls := .type "dict", data := .dict #[] }) scope.names }
  have pg := hg s3 H3 s3.heap.objs.size (cellsFrom (s3.heap.objs.size + 1) scope.names (cloFrom X.env.cells scope.names [])) fp
  have pt := ht s3 H3 s3.heap.objs.size (cellsFrom (s3.heap.objs.size + 1) scope.names (cloFrom X.env.cells scope.names [])) fp
  have pe := he s3 H3 s3.heap.objs.size (cellsFrom (s3.heap.objs.size + 1) scope.names (cloFrom X.env.cells scope.names [])) fp
  generalize ec : compEnvC scope (cellsFrom (s3.heap.objs.size + 1) scope.names (cloFrom X.env.cells scope.names [])) s3.heap.objs.size X.env = ce at I4 pg pt pe ⊢
  have cL : ce.locals = s3.heap.objs.size := by subst ec; rfl
  have clr : ∀ b ∈ fp, H3 b = none := fun b hb => (f3 b hb).1.1
  generalize e4 : ({ s3 with heap := pushCells (s3.heap.push { cls := .type "dict", data := .dict #[] }) scope.names } : Shared) = s4 at I4 ⊢
  have keep4 : ∀ b o, s3.heap.get? b = some o → s4.heap.get? b = some o := fun b o z => by rw [← e4]; exact pushCells_keeps _ _ _ _ (Heap.get?_push_of_some _ z)
  obtain ⟨z1, z2, z3, z4, z5⟩ := I3.pin p (List.mem_append_left _ hx.in)
  have I4 : Inv (blkH X p s3 H3 scope ce fp) [] (L2.wipe σ (own.map (·.2))) H3 s4 := inv_pn rfl I4 ⟨keep4 _ _ z1, z2, by
    show p.1 ≠ ce.locals
    rw [cL]
    exact Nat.ne_of_lt (Heap.lt_size z1), fun hm => (List.mem_cons.mp (I3.stkSub p.1 hm)).elim z3 z4, z5⟩
  have hc : L2H.HotC (blkH X p s3 H3 scope ce fp) := ⟨p, hx.hot, by simp⟩
  have still : ∀ {σ' : L2.St} {H' : Hp} {s' : Shared}, Inv (blkH X p s3 H3 scope ce fp) [] σ' H' s' → (∀ b ∈ fp, H' b = none) → ∀ b ∈ fp, FpOk (blkH X p s3 H3 scope ce fp) [] H' b := fun {σ' H' s'} I' hn b hb =>
    ⟨hn b hb, (I'.ok.exf b hb).1, I'.ok.exfs b hb, .inl hb, fun x c e => (I'.ok.exf b hb).2 x c e, fun q hq => by
      obtain rfl : q = p := by simpa using hq
      exact (f2 b hb).2.2.2.2.2 _ (List.mem_append_left _ hx.in)⟩
  have st4 : tn 0 s4.heap := T.keep _ _ _ st3 fun b _ o z => keep4 b o z
  have loop : codeAny (model X.prog X.w) X.A (.compLoop (.ListComp elt [⟨tg, iter, ifs, 0⟩] scope pos) 0 (.ref it) (.ref L) ce) (compPost (model X.prog X.w) X.A X.xe use Qf (.ref L) s3.heap.objs.size) s4 := by
    refine compLoop_any (fun n s' => ∃ j H', Inv (blkH X p s3 H3 scope ce fp) [] (L2.wipe σ (own.map (·.2))) H' s' ∧ tn j s'.heap ∧ (∀ b ∈ fp, H' b = none) ∧ W j n H') ?_ m0 ⟨0, H3, I4, st4, clr, w0⟩
    rintro n s5 ⟨j, H5, I5, st5, n5, w5⟩
    rcases turn j n H5 w5 with ⟨stop, qq⟩ | ⟨go, Nx, hNx, step⟩
    · refine thnF (T.done (blkH X p s3 H3 scope ce fp) rfl rfl rfl hc j [] s5 _ H5 (fun _ _ => False) I5 (still I5 n5) st5 stop) fun r s6 ⟨hr, I6⟩ => ?_
      subst hr
      have I7 : Inv X pins σ H5 s6 := I3.call' (ch := fp) I6.os I6.base I6.hok I6.bare fun b hb => let z := (f3 b hb).1.2.2; ⟨z.2.1, (f3 b hb).1.2.1, z.2.2.1, z.2.2.2⟩
      have nC : H5 ce.locals = none := I6.free
      obtain ⟨m, hn, _⟩ := I6.loc
      have hn : s6.heap.Ns ce.locals m := hn
      rw [cL] at hn nC
      exact fin L _ s6 m H5 I7 qq hn (I3.fpOk (Nat.le_refl _) nC)
    · refine thnF (T.item (blkH X p s3 H3 scope ce fp) rfl rfl rfl hc j [] s5 _ H5 (fun _ _ => False) I5 (still I5 n5) st5 go) fun r s6 ⟨u, hr, h6⟩ => ?_
      subst hr
      refine thnF h6 fun _ s7 ⟨x, H7, I7, r7, y7, st7, n7⟩ => ?_
      refine thnF (pg.run _ s7 _ H7 x u _ (I7.pinned (still I7 n7) (T.obj _ _ st7)) r7 (step x H7 y7)) fun _ s8 ⟨σ8, H8, I8, hw8, q8⟩ => ?_
      refine thnF (pt.run _ s8 σ8 H8 _ I8 q8) fun b s9 ⟨H9, I9, q9⟩ => ?_
      have over : ∀ {s' : Shared} {H' : Hp}, Inv (blkH X p s3 H3 scope ce fp) ([] ++ pinsAt fp s7.heap) σ8 H' s' → Nx H' → ∃ m, m < n ∧ ∃ j H', Inv (blkH X p s3 H3 scope ce fp) [] (L2.wipe σ (own.map (·.2))) H' s' ∧ tn j s'.heap ∧ (∀ b ∈ fp, H' b = none) ∧ W j m H' := fun {s' H'} I' nx => by
        obtain ⟨m', lt, w'⟩ := hNx H' nx
        have same : ∀ b ∈ fp, ∀ o, s7.heap.get? b = some o → s'.heap.get? b = some o ∧ H' b = none := fun b hb o e => by
          have z := I'.pin (b, o) (List.mem_append_right _ (List.mem_append_right _ (mem_pinsAt hb e)))
          exact ⟨z.1, z.2.1⟩
        refine ⟨m', lt, j + 1, H', (I'.unpinned (pins := [])).weak ?_ (fun i v e => ?_), T.keep _ _ _ st7 fun b hb o e => (same b hb o e).1, fun b hb => ?_, w'⟩
        · rw [← hw8, wipe_length]
        · rw [← hw8] at e
          exact (wipe_some e).1
        · obtain ⟨o, e, _⟩ := T.obj _ _ st7 b hb
          exact (same b hb o e).2
      cases b with
      | false =>
        simp only [Bool.false_eq_true, if_false] at q9 ⊢
        exact over I9 q9
      | true =>
        simp only [if_true] at q9 ⊢
        exact thnF (pe.run _ s9 σ8 H9 _ I9 q9) fun z s10 ⟨yv, H10, I10, r10, acc, hL, hz, nx⟩ => app_ok (X := blkH X p s3 H3 scope ce fp) I10 hL hz r10 fun s11 I11 => over I11 nx
  exact codeAny_compStart_list loop (T.self X.A 0 _ _ _ st4 loop)
theorem pe_lcH {elt tg iter : Expr} {ifs : List Expr} {scope : Scope} {own : List (Str × Nat)} {pos : Pos} {wi : TI} {g : TG} {tt : TT} {te : TE} (hx : HotX X p) (hN : X.N.Nodup) (hi : L2H.PIH X tg iter wi)
    (ok : BlkOk X.N X.env.scope scope own) (hg : AtBlk X p scope fun cx => PG cx tg g) (ht : AtBlk X p scope fun cx => PTs cx ifs tt) (he : AtBlk X p scope fun cx => PE cx elt te) (hs : ∀ x, foldedSetIterable iter X.env x = pure x) :
    PE X (.ListComp elt [⟨tg, iter, ifs, 0⟩] scope pos) (tLc wi g tt te (own.map (·.2))) := ⟨fun pins s σ H Q I h => by
  rw [eval_ListComp]
  refine hlc_core hx hN I hi ok hg ht he hs h fun L C s' m H' I' q hn ⟨f0, f1, f2, f3, f4, f5⟩ => ⟨m, hn, fun hp sb => ⟨.ref L, H', ?_, rfl, q⟩⟩
  exact I'.turned (t' := s'.toks) (fun b o hb e => (sb.2 b hb).trans e) f0 f1 f3 f4 f5⟩
theorem ps_setLcH {i : Nat} {y : Str} {py : Pos} {elt tg iter : Expr} {ifs : List Expr} {scope : Scope} {own : List (Str × Nat)} {pos spos : Pos} {wi : TI} {g : TG} {tt : TT} {te : TE} (hx : HotX X p) (hN : X.N.Nodup) (hy : X.N[i]? = some y) (hyl : X.env.scope.names.lookup y = some .local)
    (hsw : swapsWith (.ListComp elt [⟨tg, iter, ifs, 0⟩] scope pos) (some (.Name y py)) spos.line X.env = pure true) (hi : L2H.PIH X tg iter wi)
    (ok : BlkOk X.N X.env.scope scope own) (hg : AtBlk X p scope fun cx => PG cx tg g) (ht : AtBlk X p scope fun cx => PTs cx ifs tt) (he : AtBlk X p scope fun cx => PE cx elt te) (hs : ∀ x, foldedSetIterable iter X.env x = pure x) :
    PS X (.Assign [.Name y py] (.ListComp elt [⟨tg, iter, ifs, 0⟩] scope pos) spos) (tAsg (tLc wi g tt te (own.map (·.2))) (gName i)) := ⟨fun pins s σ H En I h => by
  rw [exec_Assign_Name_used _ _ _ _ hsw]
  refine wpAny_bind (wpAny_standAt (wpAny_bind ?_))
  show wpAny _ X.A (do let _ ← comprehension (.ListComp elt [⟨tg, iter, ifs, 0⟩] scope pos) scope X.env (firstIterPos [⟨tg, iter, ifs, 0⟩] pos) (newList []) false (eval iter X.env) (some (assign (.Name y py) X.env))) _ _ _
  replace h : tLc wi g tt te (own.map (·.2)) σ H (fun x H1 => gName i x σ H1 En.nx) := h
  refine wpAny_bind (thn (hlc_core (Qf := fun _ s' => SP X pins En .next s') hx hN I hi ok hg ht he hs h fun L C s' m H' I' q hn ⟨f0, f1, f2, f3, f4, f5⟩ => ?_) fun _ s' z => wpAny_pure (wpAny_pure z))
  show wpAny _ _ (assign (.Name y py) X.env (.ref L)) _ _ _
  refine wpAny_assign_Name (store_ok2 (v := V.ref L) I' hN hy (.inl hyl) rfl (fun s2 I2 ⟨a, sb, ha⟩ => ?_) (.inr hyl))
  have apart : C ≠ a := ha.elim (fun z => by rw [z]; exact f1) fun z e => f4 y a z e.symm
  exact ⟨m, hn.sameBut sb apart, fun hp sb3 => ⟨_, H', I2.turned (t' := s2.toks) (fun b o hb e => (sb3.2 b hb).trans e) f0 f1 f3 f4 f5, q⟩⟩⟩
end
end Dl

set_option maxHeartbeats 4000000
/-! DlM: the words keep what the text does: expressions. -/
namespace Dl
open PySem PySem.Spec PyProof.Rows L2
open Evl (Ex)

structure CtxOk (C : Cv) (T : Nat → Value) (W : L2.WX) (k : Nat) (X : Cx) : Prop where
  N : X.N = C.N
  nd : C.N.Nodup
  sc : X.env.scope = C.sc
  cold : C.hot = false → X.calm = true ∧ Room k X.A ∧ ∀ x i, C.G.fn x = some i → FnAt X T k x i
  heat : C.hot = true → (∃ p, HotX X p) ∧ ∀ x i, C.G.hot x = some i → HnAt X T k x i
  room : L2H.RoomH k X.A
  gd : X.A.guards = some []
  tk : L2N.Takes X W
  cls : ∀ x c, C.cls x = some c → (∃ D, X.mg x = some (.ref D) ∧ T c = .ref D) ∨ (X.mg x = none ∧ ∃ id, bootBuiltins x = some (.type id) ∧ T c = .type id)
  sub : ∀ c c' b, C.G.sub c c' = some b → PySem.W.kitOne X.K (T c) (T c') = some b ∧ PySem.W.exmOne X.K (T c) (T c') = some b ∧ ∃ D, T c = .ref D ∧ ExcK X.K D
  fld : ∀ c f, C.G.fld c f = true → ∃ D, T c = .ref D ∧ ExcK X.K D ∧ PySem.W.findIn X.K (.ref D) f = some none
  con : ∀ x d, C.con x = some d → ∃ v u, X.mg x = some u ∧ RelV v u ∧ ∀ (K : KH) (F : Hp), K.K = X.K → Rep K F v d
  blt : ∀ x ∈ bltNames, X.mg x = none
theorem kh_blk {X : Cx} {T : Nat → Value} {s : Shared} {H : Hp} {scope : Scope} {cenv : Env} {fp : List Addr} (hc : X.calm = true) : kh (X.blk s H scope cenv fp) T = kh X T := by
  rw [kh_cold hc, kh_cold (X := X.blk s H scope cenv fp) hc]
abbrev AtCold (X : Cx) (scope : Scope) (P : Cx → Prop) : Prop := ∀ (s : Shared) (H : Hp) (C : Addr) (cl : List (Str × Addr)) (fp : List Addr), P (X.blk s H scope (compEnvC scope cl C X.env) fp)
structure LcParts (X : Cx) (T : Nat → Value) (W : L2.WX) (G : Gx) (elt tg it : Expr) (ifs : List Expr) (scope : Scope) (own : List (Str × Nat)) (x : IX) : Prop where
  ex : ∃ (wi : TI) (g : TG) (tt : TT) (te : TE), BlkOk X.N X.env.scope scope own ∧ (∀ σ H Q, Rg (kh X T) W (RvOk (kh X T)) (ev G x) σ H Q → tLc wi g tt te (own.map (·.2)) σ H Q) ∧ (∀ i, x ≠ .var i) ∧ isSet it = false ∧
    ((X.calm = true ∧ PI X tg it wi ∧ AtCold X scope (fun cx => PG cx tg g) ∧ AtCold X scope (fun cx => PTs cx ifs tt) ∧ AtCold X scope fun cx => PE cx elt te) ∨
      ∃ p, HotX X p ∧ L2H.PIH X tg it wi ∧ AtBlk X p scope (fun cx => PG cx tg g) ∧ AtBlk X p scope (fun cx => PTs cx ifs tt) ∧ AtBlk X p scope fun cx => PE cx elt te)
structure Sound (n : Nat) (C : Cv) (T : Nat → Value) (W : L2.WX) (X : Cx) : Prop where
  e : ∀ e x, cE n C e = some x → Snd X T W C.G e x
  c : ∀ a ops cs x pos, cC n C a ops cs = some x → Snd X T W C.G (.Compare a ops cs pos) x ∧ SndT X T W C.G (.Compare a ops cs pos) (.tru x)
  p : ∀ o x, cP n C o = some x → SndP X T W C.G o x
  k : ∀ f as pos x, cK n C f as pos = some x → Snd X T W C.G (.Call f as [] pos) x
  i : C.hot = false → ∀ tup it r tg, cI n C tup it = some r → (tup = true → isTup tg = true) → PI X tg it (RgI (kh X T) W (itemsM C.G r.1 r.2))
  f : ∀ ifs c, cIf n C ifs = some c → PTs X ifs (RgT (kh X T) W (evC C.G c))
  t : ∀ e t, cT n C e = some t → SndT X T W C.G e t
  l : ∀ elt tg it ifs scope x, cLc n C elt tg it ifs scope = some x → LcParts X T W C.G elt tg it ifs scope (ownOf C scope) x
  w : ∀ e t, cW n C e = some t → SndW X T W C.G e t

section
variable {X : Cx} {T : Nat → Value} {W : L2.WX} {C : Cv} {k : Nat}
theorem CtxOk.gl (o : CtxOk C T W k X) {x : Str} (h : C.sc.names.lookup x = some .globalImplicit) : Gl X x := by
  show X.env.scope.names.lookup x = _
  rw [o.sc]
  exact h
theorem CtxOk.units (o : CtxOk C T W k X) : X.A.units + 64 < cLine := by
  have := o.room.un
  omega
theorem pts_w {X : Cx} {ifs : List Expr} {t t' : TT} (h : PTs X ifs t) (w : ∀ σ H Q, t' σ H Q → t σ H Q) : PTs X ifs t' := ⟨fun pins s σ H Q I q => h.run pins s σ H Q I (w σ H Q q)⟩
theorem name_ok (o : CtxOk C T W k X) {x : Str} {r : IX} {pos : Pos} (h : cName C x = some r) : Snd X T W C.G (.Name x pos) r := by
  unfold cName at h
  split at h
  · rename_i hn
    obtain ⟨n1, n2, n3⟩ := okName_of hn
    have var : ∀ {r : IX}, Vis X.env.scope x → (ixOf x C.N).map IX.var = some r → Snd X T W C.G (.Name x pos) r := fun {r} hv hi => by
      obtain ⟨i, h1, rfl⟩ := Option.map_eq_some_iff.mp hi
      exact snd_var (pe_var (by rw [o.N]; exact ixOf_get h1) hv n1 n2)
    split at h
    · rename_i hl
      exact var (.inl (by rw [o.sc]; exact hl)) h
    · rename_i hl
      exact var (.inr (.inl (by rw [o.sc]; exact hl))) h
    · rename_i hl
      exact var (.inr (.inr (by rw [o.sc]; exact hl))) h
    · rename_i hl
      obtain ⟨d, h1, rfl⟩ := Option.map_eq_some_iff.mp h
      obtain ⟨v, u, h2, h3, h4⟩ := o.con x d h1
      exact snd_con (pe_glob (o.gl hl) h2 h3 n1) fun F => h4 _ F rfl
    · cases h
  · cases h
theorem const_ok {c : Const} {j : Nat} {pos : Pos} {r : IX} (h : cConst c = some r) : Snd X T W C.G (.Constant c j pos) r := by
  unfold cConst at h
  split at h
  · cases h; exact snd_con pe_int fun _ => .int _
  · cases h; exact snd_con pe_bl fun _ => .bl _
  · cases h; exact snd_con pe_non fun _ => .non
  · cases h; exact snd_con pe_str fun _ => .str _
  · cases h
theorem bin_ok {op : Operator} {o : Op2} (h : cOp op = some o) : OpR X (binaryOp op) (rD (kh X T) (op2 o)) := by
  cases op <;> first | cases h | skip
  · exact o_add
  · exact o_sub
  · exact o_mul
  · exact o_mod
  · exact o_pow
  · exact o_fdiv
theorem cmp_ok (hu : X.A.units + 64 < cLine) {op : CmpOp} {o : Op2} (h : cCmp op = some o) : OpR X (compareOp op) (rD (kh X T) (op2 o)) ∧ isCmp o = true := by
  cases op <;> first | cases h | skip
  · exact ⟨o_eq hu, rfl⟩
  · exact ⟨o_ne hu, rfl⟩
  · exact ⟨o_lt, rfl⟩
  · exact ⟨o_le, rfl⟩
  · exact ⟨o_gt, rfl⟩
  · exact ⟨o_ge, rfl⟩
  · exact ⟨o_in, rfl⟩
  · exact ⟨o_notin, rfl⟩
theorem one_of {as : List Expr} (h : as.length = 1) : ∃ a, as = [a] := by
  match as, h with
  | [a], _ => exact ⟨a, rfl⟩
theorem two_of {as : List Expr} (h : as.length = 2) : ∃ a b, as = [a, b] := by
  match as, h with
  | [a, b], _ => exact ⟨a, b, rfl⟩
theorem bi_ok (o : CtxOk C T W k X) {x : Str} {as : List Expr} {b : Bi × Bool} {xs : List IX} {p pos : Pos} (hn : okName x = true) (hl : C.sc.names.lookup x = some .globalImplicit) (hb : cBi C.hot x as.length = some b) (ha : SndA X T W C.G as xs) (hst : as.all (fun e => !isStar e) = true) :
    Snd X T W C.G (.Call (.Name x p) as [] pos) (.bi b.1 xs) := by
  obtain ⟨n1, n2, n3⟩ := okName_of hn
  have cons : ∀ {a : Expr} {r : List Expr}, as = a :: r → starEach (a :: r) X.env = (false, eval a X.env) :: starEach r X.env ∧ (backTo pos (starEach r X.env)).any (·.1) = false := fun {a r} e => by
    subst e
    simp only [List.all_cons, Bool.and_eq_true, Bool.not_eq_true'] at hst
    exact ⟨star_no hst.1, stars_no hst.2⟩
  have fn : ∀ {f : Bi} {id : String} {a : Expr} {r : List Expr}, CallR X (.builtin id) (rDs (kh X T) (bi f)) → bootBuiltins x = some (.builtin id) → x ∈ bltNames → as = a :: r → Snd X T W C.G (.Call (.Name x p) as [] pos) (.bi f xs) := fun {f id a r} h1 h2 h3 e => by
    obtain ⟨c1, c2⟩ := cons e
    subst e
    exact snd_bi h1 (o.gl hl) (o.blt x h3) h2 ha n3 n1 c1 c2
  have ty : ∀ {f : Bi} {id : String} {a : Expr} {r : List Expr}, CallR X (.type id) (rDs (kh X T) (bi f)) → bootBuiltins x = some (.type id) → x ∈ bltNames → as = a :: r → Snd X T W C.G (.Call (.Name x p) as [] pos) (.bi f xs) := fun {f id a r} h1 h2 h3 e => by
    obtain ⟨c1, c2⟩ := cons e
    subst e
    exact snd_biTy h1 (o.gl hl) (o.blt x h3) h2 ha n3 n1 c1 c2
  unfold cBi at hb
  split at hb
  · rename_i h
    obtain ⟨rfl, h2⟩ := h
    cases hb
    obtain ⟨a, e⟩ := one_of h2
    exact fn b_len (by decide +kernel) (by decide) e
  split at hb
  · rename_i h
    obtain ⟨⟨rfl, h2⟩, hh⟩ := h
    cases hb
    obtain ⟨a, b, e⟩ := two_of h2
    exact fn (b_max (o.cold hh).1) (by decide +kernel) (by decide) e
  split at hb
  · rename_i h
    obtain ⟨⟨rfl, h2⟩, hh⟩ := h
    cases hb
    obtain ⟨a, b, e⟩ := two_of h2
    exact fn (b_min (o.cold hh).1) (by decide +kernel) (by decide) e
  split at hb
  · rename_i h
    obtain ⟨rfl, h2⟩ := h
    cases hb
    obtain ⟨a, e⟩ := one_of h2
    exact fn (b_repr o.gd o.units) (by decide +kernel) (by decide) e
  split at hb
  · rename_i h
    obtain ⟨⟨rfl, h2⟩, hh⟩ := h
    cases hb
    obtain ⟨a, e⟩ := one_of h2
    exact fn (b_all (o.cold hh).1) (by decide +kernel) (by decide) e
  split at hb
  · rename_i h
    obtain ⟨⟨rfl, h2⟩, hh⟩ := h
    cases hb
    obtain ⟨a, e⟩ := one_of h2
    exact fn (b_any (o.cold hh).1) (by decide +kernel) (by decide) e
  split at hb
  · rename_i h
    obtain ⟨rfl, h2⟩ := h
    cases hb
    obtain ⟨a, e⟩ := one_of h2
    exact ty b_tuple (by decide +kernel) (by decide) e
  split at hb
  · rename_i h
    obtain ⟨rfl, h2⟩ := h
    cases hb
    obtain ⟨a, e⟩ := one_of h2
    exact ty b_list (by decide +kernel) (by decide) e
  split at hb
  · rename_i h
    obtain ⟨rfl, h2⟩ := h
    cases hb
    obtain ⟨a, e⟩ := one_of h2
    exact ty b_int (by decide +kernel) (by decide) e
  · cases hb
/-! targets -/
theorem tgs_each {C : Cv} {env : Env} : ∀ {es : List Expr} {js : List Nat}, cTgs C es = some js → assignEach es env = es.map fun e => (false, assign e env)
  | [], _, _ => rfl
  | e :: es, js, h => by
    unfold cTgs at h
    obtain ⟨j, h1, h2⟩ := Option.bind_eq_some_iff.mp h
    obtain ⟨js', h3, _⟩ := Option.map_eq_some_iff.mp h2
    have ih := tgs_each (env := env) h3
    cases e with
    | Name x p =>
      show (false, assign (.Name x p) env) :: assignEach es env = _
      rw [ih]
      rfl
    | _ => cases h1
theorem tgs_len {C : Cv} : ∀ {es : List Expr} {js : List Nat}, cTgs C es = some js → es.length = js.length
  | [], js, h => by cases h; rfl
  | e :: es, js, h => by
    unfold cTgs at h
    obtain ⟨j, h1, h2⟩ := Option.bind_eq_some_iff.mp h
    obtain ⟨js', h3, rfl⟩ := Option.map_eq_some_iff.mp h2
    exact congrArg (· + 1) (tgs_len h3)
theorem noStar_idx {α β : Type} : ∀ (es : List α) (f : α → β), (es.map fun e => (false, f e)).findIdx? (·.1) = none
  | [], _ => rfl
  | e :: es, f => by
    rw [List.map_cons, List.findIdx?_cons]
    simp only [Bool.false_eq_true, if_false]
    rw [noStar_idx es f]
    rfl
def LocOk (C : Cv) (X : Cx) : Prop := ∀ x, (C.sc.names.lookup x = some .local ∨ C.sc.names.lookup x = some .cell) → Loc X.env.scope x ∧ (X.fn x = true ∨ X.env.scope.names.lookup x = some .local)
theorem tg1_ok {C : Cv} (hN : X.N = C.N) (nd : C.N.Nodup) (hl : LocOk C X) {e : Expr} {j : Nat} (h : cTg C e = some j) : PG X e (gName j) := by
  unfold cTg at h
  split at h
  · split at h
    · rename_i x p hk
      obtain ⟨h1, h2⟩ := hl x hk
      exact pg_name (by rw [hN]; exact nd) (by rw [hN]; exact ixOf_get h) h1 h2
    · cases h
  · cases h
theorem tgs_ok {C : Cv} (hN : X.N = C.N) (nd : C.N.Nodup) (hl : LocOk C X) : ∀ {es : List Expr} {js : List Nat}, cTgs C es = some js → PGs X es (gNames js)
  | [], js, h => by cases h; exact pgs_nil
  | e :: es, js, h => by
    have he := tgs_each (env := X.env) h
    unfold cTgs at h
    obtain ⟨j, h1, h2⟩ := Option.bind_eq_some_iff.mp h
    obtain ⟨js', h3, rfl⟩ := Option.map_eq_some_iff.mp h2
    refine pgs_cons (tg1_ok hN nd hl h1) (tgs_ok hN nd hl h3) ?_
    rw [he, tgs_each (env := X.env) h3]
    rfl
theorem target_ok {C : Cv} (hN : X.N = C.N) (nd : C.N.Nodup) (hl : LocOk C X) (hc : X.calm = true) {tg : Expr} {t : ITg} (h : cTarget C tg = some t) : ∃ g, PG X tg g ∧ TgOk (kh X T) g t := by
  unfold cTarget at h
  split at h
  · obtain ⟨j, h1, rfl⟩ := Option.map_eq_some_iff.mp h
    exact ⟨_, tg1_ok hN nd hl h1, tg_nm⟩
  · obtain ⟨js, h1, rfl⟩ := Option.map_eq_some_iff.mp h
    have he := tgs_each (env := X.env) h1
    refine ⟨_, pg_tup hc (tgs_ok hN nd hl h1) ?_ ?_, tg_tp⟩
    · rw [he, List.length_map]
      exact tgs_len h1
    · rw [he]
      exact noStar_idx _ _
  · cases h
/-! a comprehension's block -/
theorem blk_ctx (o : CtxOk C T W k X) (hc : C.hot = false) (scope : Scope) (s : Shared) (H : Hp) (Cc : Addr) (cl : List (Str × Addr)) (fp : List Addr) : CtxOk (C.blk scope) T WNo k (X.blk s H scope (compEnvC scope cl Cc X.env) fp) where
  N := o.N
  nd := o.nd
  sc := by
    show relS scope X.env.scope = relS scope C.sc
    rw [o.sc]
  cold := fun _ => ⟨(o.cold hc).1, (o.cold hc).2.1, fun x i h => ⟨((o.cold hc).2.2 x i h).ex⟩⟩
  heat := fun h => by
    have h : C.hot = true := h
    rw [hc] at h
    cases h
  room := o.room
  gd := o.gd
  tk := fun _ _ ⟨_, _, _, _, _, _, _, _, _, _, _, _, _, _, _, _, w⟩ => w.elim
  cls := o.cls
  sub := o.sub
  fld := o.fld
  con := o.con
  blt := o.blt
theorem blkH_ctx (o : CtxOk C T W k X) (hh : C.hot = true) {p : Addr × Obj} (hx : HotX X p) (scope : Scope) (s : Shared) (H : Hp) (Cc : Addr) (cl : List (Str × Addr)) (fp : List Addr) : CtxOk (C.blk scope) T WNo k (blkH X p s H scope (compEnvC scope cl Cc X.env) fp) where
  N := o.N
  nd := o.nd
  sc := by
    show relS scope X.env.scope = relS scope C.sc
    rw [o.sc]
  cold := fun h => by
    have h : C.hot = false := h
    rw [hh] at h
    cases h
  heat := fun _ => ⟨⟨p, hot_blk hx⟩, fun x i h => ⟨((o.heat hh).2 x i h).ex⟩⟩
  room := o.room
  gd := o.gd
  tk := fun _ _ ⟨_, _, _, _, _, _, _, _, _, _, _, _, _, _, _, _, w⟩ => w.elim
  cls := o.cls
  sub := o.sub
  fld := o.fld
  con := o.con
  blt := o.blt
theorem kh_blkH {s : Shared} {H : Hp} {scope : Scope} {cenv : Env} {fp : List Addr} {p : Addr × Obj} (hx : HotX X p) : kh (blkH X p s H scope cenv fp) T = kh X T := by
  have h1 := hx.ho (T := T)
  have h2 := (hot_blk (s := s) (H := H) (scope := scope) (cenv := cenv) (fp := fp) hx).ho (T := T)
  show (⟨X.K, T, (kh (blkH X p s H scope cenv fp) T).ho⟩ : KH) = ⟨X.K, T, (kh X T).ho⟩
  rw [h1, h2]
theorem blk_locG {scope : Scope} {cx : Cx} (e1 : cx.env.scope = relS scope X.env.scope) (e2 : cx.fn = fun x => scope.names.lookup x == some .cell) : LocOk { C with sc := scope } cx := fun x hx => by
  rw [e1, e2]
  have hs : (relS scope X.env.scope).names.lookup x = scope.names.lookup x := by
    rcases hx with h | h
    · rw [show scope.names.lookup x = some NameKind.local from h]
      exact lookup_relS_keep (by decide) h
    · rw [show scope.names.lookup x = some NameKind.cell from h]
      exact lookup_relS_keep (by decide) h
  have hx' : scope.names.lookup x = some .local ∨ scope.names.lookup x = some .cell := hx
  refine ⟨?_, ?_⟩
  · unfold L2.Loc
    rw [hs]
    exact hx'
  · rcases hx' with h | h
    · right
      show (relS scope X.env.scope).names.lookup x = some .local
      rw [hs]
      exact h
    · left
      show (scope.names.lookup x == some .cell) = true
      rw [h]
      rfl
theorem tg_hot {C : Cv} {p : Addr × Obj} (hx : HotX X p) (hN : X.N = C.N) (nd : C.N.Nodup) (hl : LocOk C X) {es : List Expr} {js : List Nat} {kk : Nat} {tp : Pos} (h : cTgs C es = some js) : PG X (.Tuple es kk tp) (gTup X.K js.length (gNames js)) := by
  have he := tgs_each (env := X.env) h
  refine pg_tupH hx.hc (tgs_ok hN nd hl h) ?_ ?_
  · rw [he, List.length_map]
    exact tgs_len h
  · rw [he]
    exact noStar_idx _ _
theorem tg_cold {C : Cv} (hc : X.calm = true) (hN : X.N = C.N) (nd : C.N.Nodup) (hl : LocOk C X) {es : List Expr} {js : List Nat} {kk : Nat} {tp : Pos} (h : cTgs C es = some js) : PG X (.Tuple es kk tp) (gTup X.K js.length (gNames js)) := by
  have he := tgs_each (env := X.env) h
  refine pg_tup hc (tgs_ok hN nd hl h) ?_ ?_
  · rw [he, List.length_map]
    exact tgs_len h
  · rw [he]
    exact noStar_idx _ _
/-- the reading of a target hangs on the words alone -/
def gOf (K : PySem.W.Frag) : ITg → TG
  | .nm j => gName j
  | .tp js => gTup K js.length (gNames js)
theorem gOf_ok {K : KH} : ∀ t : ITg, TgOk K (gOf K.K t) t
  | .nm j => tg_nm
  | .tp js => tg_tp
theorem tgt_cold {C : Cv} (hc : X.calm = true) (hN : X.N = C.N) (nd : C.N.Nodup) (hl : LocOk C X) {tg : Expr} {t : ITg} (h : cTarget C tg = some t) : PG X tg (gOf X.K t) := by
  unfold cTarget at h
  split at h
  · obtain ⟨j, h5, rfl⟩ := Option.map_eq_some_iff.mp h
    exact tg1_ok hN nd hl h5
  · obtain ⟨js, h5, rfl⟩ := Option.map_eq_some_iff.mp h
    exact tg_cold hc hN nd hl h5
  · cases h
theorem tgt_hot {C : Cv} {p : Addr × Obj} (hx : HotX X p) (hN : X.N = C.N) (nd : C.N.Nodup) (hl : LocOk C X) {tg : Expr} {t : ITg} (h : cTarget C tg = some t) : PG X tg (gOf X.K t) := by
  unfold cTarget at h
  split at h
  · obtain ⟨j, h5, rfl⟩ := Option.map_eq_some_iff.mp h
    exact tg1_ok hN nd hl h5
  · obtain ⟨js, h5, rfl⟩ := Option.map_eq_some_iff.mp h
    exact tg_hot hx hN nd hl h5
  · cases h
/-- over a list alone -/
theorem si_only {tg a : Expr} {xa : IX} {G : Gx} (ha : Snd X T W G a xa) : L2H.PIH X tg a (RgI (kh X T) W (itemsM G .only [xa])) := by
  refine ⟨fun pins s σ H R I ⟨B, F, pa, env, r, hw⟩ => (pi_listH ha.data).run pins s σ H R I ?_⟩
  unfold itemsM at hw
  rw [Wp.bind] at hw
  refine ⟨B, F, pa, env, r, (evD_one hw).mono (fun d env' q v H' F' e' ⟨r', p'⟩ => ?_) fun _ _ q => q⟩
  obtain ⟨l, hl, q⟩ := Wp.ofOpt.mp q
  cases d with
  | lst ds =>
    cases hl
    cases p' with
    | lst hp rp => exact ⟨_, rfl, ⟨_, .of (r'.fh _ _ hp)⟩, q _ _ F' e' r' (it_lst hp rp)⟩
  | _ => cases hl
theorem lc_parts {n : Nat} (o : CtxOk C T W k X) (S : Sound n C T W X) (Sb : C.hot = false → ∀ (s : Shared) (H : Hp) (Cc : Addr) (cl : List (Str × Addr)) (fp : List Addr) (scope : Scope), Sound n (C.blk scope) T WNo (X.blk s H scope (compEnvC scope cl Cc X.env) fp))
    (Sh : C.hot = true → ∀ (p : Addr × Obj), HotX X p → ∀ (s : Shared) (H : Hp) (Cc : Addr) (cl : List (Str × Addr)) (fp : List Addr) (scope : Scope), Sound n (C.blk scope) T WNo (blkH X p s H scope (compEnvC scope cl Cc X.env) fp))
    {elt tg it : Expr} {ifs : List Expr} {scope : Scope} {x : IX} (h : cLc (n + 1) C elt tg it ifs scope = some x) (hset : isSet it = false) : LcParts X T W C.G elt tg it ifs scope (ownOf C scope) x := by
  unfold cLc at h
  split at h
  · rename_i hblk
    obtain ⟨t, h1, h⟩ := Option.bind_eq_some_iff.mp h
    obtain ⟨kk, h2, h⟩ := Option.bind_eq_some_iff.mp h
    obtain ⟨c, h3, h⟩ := Option.bind_eq_some_iff.mp h
    obtain ⟨e, h4, h⟩ := Option.bind_eq_some_iff.mp h
    split at h
    · rename_i hall
      cases h
      have rd : ∀ σ H Q, Rg (kh X T) W (RvOk (kh X T)) (ev C.G (.comp t kk.1 kk.2 c e ((ownOf C scope).map (·.2)))) σ H Q → tLc (RgI (kh X T) W (itemsM C.G kk.1 kk.2)) (gOf X.K t) (RgT (kh X T) WNo (evC C.G c)) (Rg (kh X T) WNo (PD (kh X T)) (dataM (ev C.G e))) ((ownOf C scope).map (·.2)) σ H Q := fun σ H Q q => by
        refine comp_ok (fun _ _ _ q => q) (gOf_ok t) (fun j hj => ?_) (fun _ _ _ q => q) (fun _ _ _ q => q) q
        have := List.all_eq_true.mp hall j hj
        simpa using this
      refine ⟨_, _, _, _, blkOk_by (by rw [o.N, o.sc]; exact hblk), rd, (fun i z => nomatch z), hset, ?_⟩
      cases hot : C.hot with
      | false =>
        left
        rw [if_neg (by rw [hot]; decide)] at h2
        refine ⟨(o.cold hot).1, S.i hot _ _ _ tg h2 (fun z => z), fun s H Cc cl fp => ?_, fun s H Cc cl fp => ?_, fun s H Cc cl fp => ?_⟩
        · exact tgt_cold (X := X.blk s H scope (compEnvC scope cl Cc X.env) fp) (C := { C with sc := scope }) (o.cold hot).1 o.N o.nd (blk_locG (X := X) rfl rfl) h1
        · have z := (Sb hot s H Cc cl fp scope).f ifs c h3
          rw [kh_blk (o.cold hot).1] at z
          exact z
        · have z := ((Sb hot s H Cc cl fp scope).e elt e h4).data
          rw [kh_blk (o.cold hot).1] at z
          exact z
      | true =>
        right
        obtain ⟨p, hx⟩ := (o.heat hot).1
        rw [if_pos hot, if_neg (by rw [hset]; decide)] at h2
        obtain ⟨xa, h6, rfl⟩ := Option.map_eq_some_iff.mp h2
        refine ⟨p, hx, si_only (S.e _ _ h6), fun s H Cc cl fp => ?_, fun s H Cc cl fp => ?_, fun s H Cc cl fp => ?_⟩
        · exact tgt_hot (X := blkH X p s H scope (compEnvC scope cl Cc X.env) fp) (C := { C with sc := scope }) (hot_blk hx) o.N o.nd (blk_locG (X := X) rfl rfl) h1
        · have z := (Sh hot p hx s H Cc cl fp scope).f ifs c h3
          rw [kh_blkH hx] at z
          exact z
        · have z := ((Sh hot p hx s H Cc cl fp scope).e elt e h4).data
          rw [kh_blkH hx] at z
          exact z
    · cases h
  · cases h

theorem cI_set {n : Nat} {C : Cv} {tup : Bool} {it : Expr} {r : ItK × List IX} (h : cI n C tup it = some r) : isSet it = false := by
  cases n with
  | zero => exact absurd h (by simp [cI])
  | succ n =>
    cases it with
    | Set a b c => exact absurd h (by simp [cI, isSet])
    | _ => rfl
theorem cLc_set {n : Nat} {C : Cv} {elt tg it : Expr} {ifs : List Expr} {scope : Scope} {x : IX} (h : cLc (n + 1) C elt tg it ifs scope = some x) : isSet it = false := by
  unfold cLc at h
  split at h
  · obtain ⟨t, h1, h⟩ := Option.bind_eq_some_iff.mp h
    obtain ⟨kk, h2, h⟩ := Option.bind_eq_some_iff.mp h
    split at h2
    · split at h2
      · cases h2
      · rename_i z
        exact Bool.eq_false_iff.mpr z
    · exact cI_set h2
  · cases h
theorem snd_lc {elt tg it : Expr} {ifs : List Expr} {scope : Scope} {own : List (Str × Nat)} {x : IX} {G : Gx} {pos : Pos} (hN : X.N.Nodup) (p : LcParts X T W G elt tg it ifs scope own x) : Snd X T W G (.ListComp elt [⟨tg, it, ifs, 0⟩] scope pos) x := by
  obtain ⟨wi, g, tt, te, h2, h6, h7, h8, h⟩ := p.ex
  rcases h with ⟨hc, h1, h3, h4, h5⟩ | ⟨p, hx, h1, h3, h4, h5⟩
  · exact snd_of (pe_w (pe_lc hc hN h1 h2 h3 h4 h5 (nofold h8)) h6) h7
  · exact snd_of (pe_w (pe_lcH hx hN h1 h2 h3 h4 h5 (nofold h8)) h6) h7
theorem slot_var {C : Cv} (hN : X.N = C.N) (hsc : X.env.scope = C.sc) {e : Expr} {i : Nat} (h : cSlot C e = some i) : PE X e (tVar i) := by
  unfold cSlot at h
  split at h
  · split at h
    · rename_i x p hk
      obtain ⟨n1, n2, n3⟩ := okName_of hk.1
      refine pe_var (by rw [hN]; exact ixOf_get h) ?_ n1 n2
      unfold Vis
      rw [hsc]
      exact hk.2
    · cases h
  · cases h
theorem slot_sup {C : Cv} {e : Expr} {i : Nat} {f : Str} {env : Env} (h : cSlot C e = some i) : attributeBase e f env (eval e env) = eval e env := by
  cases e <;> first | rfl | cases h
/-- a class's name -/
theorem cls_pe (o : CtxOk C T W k X) {y : Str} {c : Nat} {q : Pos} (hn : okName y = true) (hl : C.sc.names.lookup y = some .globalImplicit) (h : C.cls y = some c) : ∃ v, PE X (.Name y q) (tC v) ∧ ClsV v (T c) := by
  obtain ⟨n1, n2, n3⟩ := okName_of hn
  rcases o.cls y c h with ⟨En, h1, h2⟩ | ⟨h1, id, h2, h3⟩
  · exact ⟨.ref En, pe_glob (o.gl hl) h1 (show RelV (.ref En) (.ref En) from rfl) n1, by rw [h2]; exact .own En⟩
  · exact ⟨.ty id, pe_bltn (v := .ty id) (o.gl hl) h1 h2 rfl n3 n1, by rw [h3]; exact .ty id⟩
theorem clss_len {C : Cv} : ∀ {es : List Expr} {cs : List Nat}, cClss C es = some cs → cs.length = es.length
  | [], cs, h => by cases h; rfl
  | e :: es, cs, h => by
    unfold cClss at h
    split at h
    · rename_i e1; cases e1
    · rename_i y q es' e1
      cases e1
      split at h
      · obtain ⟨c, h1, h⟩ := Option.bind_eq_some_iff.mp h
        obtain ⟨cs', h2, rfl⟩ := Option.map_eq_some_iff.mp h
        exact congrArg (· + 1) (clss_len h2)
      · cases h
    · cases h
theorem clss_pa (o : CtxOk C T W k X) : ∀ {es : List Expr} {cs : List Nat}, cClss C es = some cs → ∃ vs : List V, PA X es (fun _ H Q => Q vs H) ∧ Paired ClsV vs (cs.map T) ∧ vs.length = es.length ∧ starEach es X.env = es.map fun e => (false, eval e X.env)
  | [], cs, h => by
    cases h
    exact ⟨[], pa_w pa_nil fun _ _ _ q => q, .nil, rfl, rfl⟩
  | e :: es, cs, h => by
    unfold cClss at h
    split at h
    · rename_i e1
      cases e1
    · rename_i y q es' e1
      cases e1
      split at h
      · rename_i hy
        obtain ⟨c, h1, h⟩ := Option.bind_eq_some_iff.mp h
        obtain ⟨cs', h2, rfl⟩ := Option.map_eq_some_iff.mp h
        obtain ⟨v, h3, h4⟩ := cls_pe (q := q) o hy.1 hy.2 h1
        obtain ⟨vs, h5, h6, h7, h8⟩ := clss_pa o h2
        refine ⟨v :: vs, pa_w (pa_cons h3 h5 rfl) fun _ _ _ q => q, .cons h4 h6, congrArg (· + 1) h7, ?_⟩
        show (false, eval (.Name y q) X.env) :: starEach es X.env = _
        rw [h8]
        rfl
      · cases h
    · cases h
theorem sub_sound (o : CtxOk C T W k X) {a e2 : Expr} {i : Nat} {cs : List Nat} {pn pos : Pos} {p : Addr × Obj} {t2 : TE} (hx : HotX X p) (hl : C.sc.names.lookup ("isinstance" : Str) = some .globalImplicit) (hi : cSlot C a = some i) (hne : cs ≠ []) (hst : isStar a = false) (hs2 : starEach [e2] X.env = [(false, eval e2 X.env)]) (h2 : PE X e2 t2)
    (ht2 : ∀ σ H Q, (∀ v H', Ex H H' → ((∃ c, cs = [c] ∧ ClsV v (T c)) ∨ ∃ tp vs, v = .ref tp ∧ H' tp = some (.tup vs) ∧ Paired ClsV vs (cs.map T)) → (H' = H ∨ ∃ q o, H q = none ∧ H' = upd H q o) → Q v H') → t2 σ H Q) : Snd X T W C.G (.Call (.Name "isinstance" pn) [a, e2] [] pos) (.eisi i cs) :=
  snd_eisi hx (fun c c' b h => (o.sub c c' b h).1) (fun c c' b h => (o.sub c c' b h).2.2) hne (o.gl hl) (o.blt _ (by decide)) (slot_var o.N o.sc hi) h2 (star_no hst) hs2 ht2
theorem snd_dict1' {G : Gx} {k : Str} {j : Nat} {p pos : Pos} {a : Expr} {xa : IX} (ha : Snd X T W G a xa) : Snd X T W G (.Dict [some (.Constant (.str k) j p)] [a] pos) (.dic [.inr k] [xa]) := snd_dict1 ha
theorem bind2 {α β : Type} {o : Option α} {f : α → Option β} {x : β} (h : o.bind f = some x) : ∃ a, o = some a ∧ f a = some x := Option.bind_eq_some_iff.mp h
theorem map2 {α β : Type} {o : Option α} {f : α → β} {x : β} (h : o.map f = some x) : ∃ a, o = some a ∧ f a = x := Option.map_eq_some_iff.mp h
theorem e_step {n : Nat} (o : CtxOk C T W k X) (S : Sound n C T W X) (e : Expr) (x : IX) (h : cE (n + 1) C e = some x) : Snd X T W C.G e x := by
  unfold cE at h
  split at h
  · exact name_ok o h
  · exact const_ok h
  · obtain ⟨oo, h1, h⟩ := bind2 h
    obtain ⟨xa, h2, h⟩ := bind2 h
    obtain ⟨xb, h3, rfl⟩ := map2 h
    exact snd_op (bin_ok h1) (S.e _ _ h2) (S.e _ _ h3)
  · obtain ⟨xa, h2, rfl⟩ := map2 h
    exact snd_not (S.e _ _ h2)
  · obtain ⟨xa, h2, rfl⟩ := map2 h
    exact snd_neg (S.e _ _ h2)
  · exact (S.c _ _ _ _ _ h).1
  · exact snd_one (S.e _ _ h)
  · exact snd_one (S.e _ _ h)
  · obtain ⟨xa, h2, h⟩ := bind2 h
    obtain ⟨xb, h3, rfl⟩ := map2 h
    exact snd_and (S.e _ _ h2) (S.e _ _ h3)
  · obtain ⟨xa, h2, h⟩ := bind2 h
    obtain ⟨xb, h3, rfl⟩ := map2 h
    exact snd_or (S.e _ _ h2) (S.e _ _ h3)
  · obtain ⟨tc, h1, h⟩ := bind2 h
    obtain ⟨xa, h2, h⟩ := bind2 h
    obtain ⟨xb, h3, rfl⟩ := map2 h
    exact snd_ite (S.t _ _ h1) (S.e _ _ h2) (S.e _ _ h3)
  · obtain ⟨xa, h2, h⟩ := bind2 h
    obtain ⟨xl, h3, h⟩ := bind2 h
    obtain ⟨xh, h4, rfl⟩ := map2 h
    exact snd_slice (S.e _ _ h2) (S.p _ _ h3) (S.p _ _ h4)
  · split at h
    · cases h
    · rename_i hs
      obtain ⟨xa, h2, h⟩ := bind2 h
      obtain ⟨xb, h3, rfl⟩ := map2 h
      exact snd_idx (S.e _ _ h2) (S.e _ _ h3) (plain_ix (by simpa using hs))
  · split at h
    · rename_i hl
      obtain ⟨xs, h2, rfl⟩ := map2 h
      exact snd_tup (cL_disp S.e h2) (by rw [cL_len h2]; exact Nat.le_trans hl (by decide))
    · cases h
  · split at h
    · rename_i hl
      obtain ⟨xs, h2, rfl⟩ := map2 h
      exact snd_lst (cL_disp S.e h2) (by rw [cL_len h2]; exact Nat.le_trans hl (by decide))
    · cases h
  · cases h
    exact snd_dict0
  · obtain ⟨xa, h2, rfl⟩ := map2 h
    exact snd_dict1 (S.e _ _ h2)
  · exact S.k _ _ _ _ h
  · exact snd_lc (by rw [o.N]; exact o.nd) (S.l _ _ _ _ _ _ h)
  · split at h
    · rename_i hot
      obtain ⟨p, hx⟩ := (o.heat hot).1
      obtain ⟨i, h1, rfl⟩ := map2 h
      exact snd_efld hx o.fld (slot_var o.N o.sc h1) (slot_sup h1)
    · cases h
  · cases h
theorem c_step {n : Nat} (o : CtxOk C T W k X) (S : Sound n C T W X) (a : Expr) (ops : List CmpOp) (cs : List Expr) (x : IX) (pos : Pos) (h : cC (n + 1) C a ops cs = some x) : Snd X T W C.G (.Compare a ops cs pos) x ∧ SndT X T W C.G (.Compare a ops cs pos) (.tru x) := by
  unfold cC at h
  split at h
  · split at h
    · cases h
    · rename_i hs
      obtain ⟨oo, h1, h⟩ := bind2 h
      obtain ⟨xa, h2, h⟩ := bind2 h
      obtain ⟨xb, h3, rfl⟩ := map2 h
      obtain ⟨k1, k2⟩ := cmp_ok o.units h1
      exact ⟨snd_cmp k1 (S.e _ _ h2) (S.e _ _ h3) (mark_no (by simpa using hs)), st_cmp k1 (S.e _ _ h2) (S.e _ _ h3) (mark_no (by simpa using hs)) fun _ _ _ => cmp_bl k2⟩
  · split at h
    · cases h
    · rename_i hs
      obtain ⟨oo, h1, h⟩ := bind2 h
      obtain ⟨oo', h1', h⟩ := bind2 h
      obtain ⟨xa, h2, h⟩ := bind2 h
      obtain ⟨xb, h3, h⟩ := bind2 h
      obtain ⟨xc, h4, rfl⟩ := map2 h
      obtain ⟨k1, k2⟩ := cmp_ok o.units h1
      obtain ⟨k3, k4⟩ := cmp_ok o.units h1'
      have hm : ∀ {b c : Expr} {p q : CmpOp}, isSet c = false → lastMarks [p, q] [b, c] = false := fun hs => mark_no hs
      exact ⟨snd_chain k1 k3 (S.e _ _ h2) (S.e _ _ h3) (S.e _ _ h4) (hm (by simpa using hs)), st_chain k1 k3 (S.e _ _ h2) (S.e _ _ h3) (S.e _ _ h4) (hm (by simpa using hs)) k4⟩
  · cases h
theorem k_step {n : Nat} (o : CtxOk C T W k X) (S : Sound n C T W X) (f : Expr) (as : List Expr) (pos : Pos) (x : IX) (h : cK (n + 1) C f as pos = some x) : Snd X T W C.G (.Call f as [] pos) x := by
  unfold cK at h
  split at h
  · split at h
    · rename_i nm p hn
      obtain ⟨hn, hl⟩ := hn
      split at h
      · rename_i hG
        obtain ⟨xs, h2, rfl⟩ := map2 h
        obtain ⟨i, hi⟩ := Option.isSome_iff_exists.mp hG.1
        obtain ⟨n1, n2, n3⟩ := okName_of hn
        obtain ⟨oc, oroom, ofns⟩ := o.cold hG.2
        have hst := cL_star h2
        have ha := cL_args S.e h2
        cases as with
        | nil =>
          cases h2
          exact snd_call0 oc hi (ofns _ _ hi) oroom o.gd o.tk (o.gl hl) n1
        | cons a as =>
          simp only [List.all_cons, Bool.and_eq_true, Bool.not_eq_true'] at hst
          exact snd_call oc hi (ofns _ _ hi) oroom o.gd o.tk (o.gl hl) ha n1 (star_no hst.1) (stars_no hst.2)
      · split at h
        · rename_i hG
          obtain ⟨xs, h2, h⟩ := bind2 h
          obtain ⟨i, hi⟩ := Option.isSome_iff_exists.mp hG.1
          obtain ⟨n1, n2, n3⟩ := okName_of hn
          obtain ⟨⟨p, hx⟩, ofns⟩ := o.heat hG.2
          have hst := cL_star h2
          have ha := cL_args S.e h2
          cases as with
          | nil => cases h
          | cons a as =>
            cases h
            simp only [List.all_cons, Bool.and_eq_true, Bool.not_eq_true'] at hst
            exact snd_hcall hx hi (ofns _ _ hi) o.room o.gd o.tk (o.gl hl) ha n1 (star_no hst.1) (stars_no hst.2)
        split at h
        · rename_i hx
          subst hx
          split at h
          · split at h
            · rename_i hy
              obtain ⟨y1, y2, y3⟩ := hy
              split at h
              · rename_i t h2
                obtain ⟨xa, h3, rfl⟩ := map2 h
                obtain ⟨n1, n2, n3⟩ := okName_of y1
                have hmem : ∀ {y : Str} {t : Ty}, cTy y = some t → y ∈ bltNames := fun {y t} h => by
                  unfold cTy at h
                  repeat' (split at h)
                  all_goals first
                    | (subst_vars; decide)
                    | cases h
                exact snd_isi (o.gl hl) (o.blt _ (by decide)) (by decide +kernel) (o.gl y2) (o.blt _ (hmem h2)) (cTy_boot h2) n3 n1 (S.e _ _ h3) (star_no y3)
              · split at h
                · rename_i hot
                  obtain ⟨p, hx⟩ := (o.heat hot).1
                  obtain ⟨i, h3, h⟩ := bind2 h
                  obtain ⟨cs, h4, rfl⟩ := map2 h
                  unfold cClss at h4
                  rw [if_pos ⟨y1, y2⟩] at h4
                  obtain ⟨c, h5, h4⟩ := bind2 h4
                  unfold cClss at h4
                  cases h4
                  obtain ⟨v, h6, h7⟩ := cls_pe o y1 y2 h5
                  exact sub_sound o hx hl h3 (by simp) y3 rfl h6 fun σ H Q q => q v H (Ex.refl H) (.inl ⟨c, rfl, h7⟩) (.inl rfl)
                · cases h
            · cases h
          · split at h
            · rename_i hy
              obtain ⟨hot, y3, hlen⟩ := hy
              obtain ⟨p, hx⟩ := (o.heat hot).1
              obtain ⟨i, h3, h⟩ := bind2 h
              obtain ⟨cs, h4, h⟩ := bind2 h
              split at h
              · cases h
              · rename_i hne
                cases h
                obtain ⟨vs, h5, h6, h7, h8⟩ := clss_pa o h4
                refine sub_sound o hx hl h3 (fun z => hne (by rw [z]; rfl)) y3 rfl (pe_tup h5) fun σ H Q q => ?_
                refine ⟨by rw [h7]; exact lim_le (Nat.le_trans hlen (by decide)), fun p hp => ?_⟩
                exact q _ _ (Ex.new hp) (.inr ⟨p, vs, rfl, upd_same, h6⟩) (.inr ⟨p, _, hp, rfl⟩)
            · cases h
          · cases h
        · obtain ⟨b, h2, h⟩ := bind2 h
          obtain ⟨xs, h3, rfl⟩ := map2 h
          exact bi_ok o hn hl h2 (cL_args S.e h3) (cL_star h3)
    · cases h
  · split at h
    · split at h
      · rename_i hy
        obtain ⟨y1, y2, y3⟩ := hy
        obtain ⟨m, h2, h⟩ := bind2 h
        obtain ⟨xo, h3, h⟩ := bind2 h
        obtain ⟨xb, h4, rfl⟩ := map2 h
        unfold cMe at h2
        split at h2
        · rename_i e
          subst e
          cases h2
          exact snd_meth PySem.F.slot_str_join PySem.F.type_str_join m_join (S.e _ _ h3) (S.e _ _ h4) (star_no y1) (nosup y2) y3
        split at h2
        · rename_i e
          subst e
          cases h2
          exact snd_meth PySem.F.slot_str_split PySem.F.type_str_split m_split (S.e _ _ h3) (S.e _ _ h4) (star_no y1) (nosup y2) y3
        split at h2
        · rename_i e
          subst e
          cases h2
          exact snd_meth PySem.F.slot_str_strip PySem.F.type_str_strip m_strip (S.e _ _ h3) (S.e _ _ h4) (star_no y1) (nosup y2) y3
        · cases h2
      · cases h
    · cases h
  · cases h
theorem i_step {n : Nat} (o : CtxOk C T W k X) (S : Sound n C T W X) (hc : C.hot = false) (tup : Bool) (it : Expr) (r : ItK × List IX) (tg : Expr) (h : cI (n + 1) C tup it = some r) (ht : tup = true → isTup tg = true) : PI X tg it (RgI (kh X T) W (itemsM C.G r.1 r.2)) := by
  unfold cI at h
  split at h
  · split at h
    · rename_i x p as pos hn
      obtain ⟨h1, h2, h3, h4⟩ := hn
      split at h
      · rename_i hx
        subst hx
        split at h
        · split at h
          · cases h
          · rename_i hs
            obtain ⟨xa, h5, rfl⟩ := map2 h
            exact si_range1 (o.gl h2) (o.blt _ (by decide)) (S.e _ _ h5) (star_no (by simpa using hs))
        · split at h
          · cases h
          · rename_i hs
            rw [not_or] at hs
            obtain ⟨xa, h5, h⟩ := bind2 h
            obtain ⟨xb, h6, rfl⟩ := map2 h
            have s2 : starEach [_] X.env = [(false, eval _ X.env)] := star_no (es := []) (Bool.eq_false_iff.mpr hs.2)
            exact si_range2 (o.gl h2) (o.blt _ (by decide)) (S.e _ _ h5) (S.e _ _ h6) (by rw [star_no (Bool.eq_false_iff.mpr hs.1), s2]) s2
        · cases h
      · rename_i hx
        have e := h4.resolve_left hx
        subst e
        split at h
        · split at h
          · cases h
          · rename_i hs
            rw [not_or] at hs
            obtain ⟨xa, h5, rfl⟩ := map2 h
            have hT := ht (by simpa using hs.2)
            cases tg with
            | Tuple es kk tp => exact si_enum (o.gl h2) (o.blt _ (by decide)) (S.e _ _ h5) (star_no (Bool.eq_false_iff.mpr hs.1))
            | _ => cases hT
        · cases h
    · obtain ⟨xa, h5, rfl⟩ := map2 h
      exact si_seq (S.e _ _ h5)
  · split at h
    · cases h
    · obtain ⟨xa, h5, rfl⟩ := map2 h
      exact si_seq (S.e _ _ h5)
theorem true_of {e : Expr} {env : Env} (h1 : ∀ a p, e ≠ .UnaryOp .Not a p) (h2 : ∀ op vs p, e ≠ .BoolOp op vs p) (h3 : ∀ a ops cs p, e ≠ .Compare a ops cs p) (h4 : ∀ a b c p, e ≠ .IfExp a b c p) (whole : Sem Value) : isTrue e env whole = (do let v ← whole; standAt e.pos; holding [v] (truthy v)) := by
  cases e with
  | UnaryOp op a p =>
    cases op with
    | Not => exact absurd rfl (h1 _ _)
    | _ => rfl
  | BoolOp op vs p => exact absurd rfl (h2 _ _ _)
  | Compare a ops cs p => exact absurd rfl (h3 _ _ _ _)
  | IfExp a b c p => exact absurd rfl (h4 _ _ _ _)
  | _ => rfl
theorem t_step {n : Nat} (o : CtxOk C T W k X) (S : Sound n C T W X) (e : Expr) (t : IT) (h : cT (n + 1) C e = some t) : SndT X T W C.G e t := by
  unfold cT at h
  split at h
  · obtain ⟨ta, h1, rfl⟩ := map2 h
    exact st_not (S.t _ _ h1)
  · exact PW.pt (S.w _ _ h)
  · obtain ⟨xa, h1, rfl⟩ := map2 h
    exact (S.c _ _ _ _ _ h1).2
  · cases h
  · rename_i a1 a2 a3 a4
    obtain ⟨xa, h1, rfl⟩ := map2 h
    exact st_tru (S.e _ _ h1) (true_of (fun a p z => a1 a p z) (fun op vs p z => a2 op vs p z) (fun a ops cs p z => a3 a ops cs p z) fun a b c p z => a4 a b c p z)
theorem w_step {n : Nat} (o : CtxOk C T W k X) (S : Sound n C T W X) (e : Expr) (t : IT) (h : cW (n + 1) C e = some t) : SndW X T W C.G e t := by
  unfold cW at h
  split at h
  · exact sw_and1 (S.t _ _ h)
  · exact sw_or1 (S.t _ _ h)
  · obtain ⟨ta, h1, h⟩ := bind2 h
    obtain ⟨tb, h2, rfl⟩ := map2 h
    exact sw_and (S.t _ _ h1) (S.w _ _ h2)
  · obtain ⟨ta, h1, h⟩ := bind2 h
    obtain ⟨tb, h2, rfl⟩ := map2 h
    exact sw_or (S.t _ _ h1) (S.w _ _ h2)
  · cases h
theorem sound (k : Nat) (T : Nat → Value) : ∀ (n : Nat) (C : Cv) (W : L2.WX) (X : Cx), CtxOk C T W k X → Sound n C T W X
  | 0, C, W, X, o => by
    refine ⟨?_, ?_, ?_, ?_, ?_, ?_, ?_, ?_, ?_⟩
    · intro e x h; simp [cE] at h
    · intro a ops cs x pos h; simp [cC] at h
    · intro a x h; simp [cP] at h
    · intro f as pos x h; simp [cK] at h
    · intro _ tup it r tg h; simp [cI] at h
    · intro ifs c h; simp [cIf] at h
    · intro e t h; simp [cT] at h
    · intro elt tg it ifs scope x h; simp [cLc] at h
    · intro e t h; simp [cW] at h
  | n + 1, C, W, X, o => by
    have S := sound k T n C W X o
    have Sb : C.hot = false → ∀ (s : Shared) (H : Hp) (Cc : Addr) (cl : List (Str × Addr)) (fp : List Addr) (scope : Scope), Sound n (C.blk scope) T WNo (X.blk s H scope (compEnvC scope cl Cc X.env) fp) := fun hc s H Cc cl fp scope => sound k T n _ _ _ (blk_ctx o hc scope s H Cc cl fp)
    have Sh : C.hot = true → ∀ (p : Addr × Obj), HotX X p → ∀ (s : Shared) (H : Hp) (Cc : Addr) (cl : List (Str × Addr)) (fp : List Addr) (scope : Scope), Sound n (C.blk scope) T WNo (blkH X p s H scope (compEnvC scope cl Cc X.env) fp) := fun hh p hx s H Cc cl fp scope => sound k T n _ _ _ (blkH_ctx o hh hx scope s H Cc cl fp)
    refine ⟨e_step o S, c_step o S, ?_, k_step o S, i_step o S, ?_, t_step o S, fun elt tg it ifs scope x h => lc_parts o S Sb Sh h (cLc_set h), w_step o S⟩
    · intro p x h
      unfold cP at h
      split at h
      · cases h; exact sp_none
      · obtain ⟨xa, h1, rfl⟩ := map2 h
        exact sp_some (S.e _ _ h1)
    · intro ifs c h
      unfold cIf at h
      split at h
      · cases h
        exact pts_w pts_nil fun σ H Q ⟨B, F, pa, env, r, hw⟩ => by
          unfold evC at hw
          exact hw H F (Ex.refl F) r
      · obtain ⟨t, h1, rfl⟩ := map2 h
        exact pts_w (pts_one (S.t _ _ h1)) fun σ H Q q => by
          unfold evC at q
          exact q
      · cases h
end
end Dl

set_option maxHeartbeats 4000000
/-! DlT: exceptions of own classes: made, raised. -/
namespace Dl
open PySem PySem.Spec PyProof.Rows L2
open Evl (Ex)

/-- what the written part says of a class whose __init__ is ValueError's -/
structure IniK (K : PySem.W.Frag) (S : Addr) : Prop where
  ga : PySem.W.specialIn K (.ref S) "__getattribute__" = some (some (.builtin "type.__getattribute__"))
  ty : PySem.W.typeIn K (.ref S) = some (.type "type")
  rd : PySem.W.readsIn K S (.type "type") = true
  fc : PySem.W.findCls K (.ref S) (.type "type") "__init__" = some (.val (.builtin "ValueError.__init__"))
def spInit (C : Addr) (ns : List Str) : Sp := fun vs H Q E => ∃ a ws, vs = V.ref a :: ws ∧ ws.length = ns.length ∧ H a = some (exo a C none) ∧
  ∀ d H2, H d = none → H2 a = some (exo a C (some d)) → H2 d = some (exd d (ns.zip ws).reverse) → (∀ b, b ≠ a → b ≠ d → H2 b = H b) → Q .non H2
/-- how the call is read: by rfl where it is written out -/
def IniCall (sn : Str) (q0 q1 q4 : Pos) (as : List Expr) : Prop := ∀ env : Env, ∃ pl, eval (.Call (.Attribute (.Name sn q0) "__init__" q1) as [] q4) env = (do
      let cv ← eval (.Name sn q0) env
      standAt q1.atName
      let (f, first) ← holding [cv] (getMethod cv "__init__" pl)
      callWith q4 f first (backTo q4 (starEach as env)) (backToKw q4 (keywordEach [] env)))
section
variable {X : Cx} {T : Nat → Value} {W : L2.WX} {G : Gx} {e : Expr} {es : List Expr} {ta : TA} {p1 p2 pos : Pos}
theorem pe_oinit {x : Str} {S : Addr} {pl : Sem Bool} (hg : Gl X x) (hm : X.mg x = some (.ref S)) (hdb : (x == ("__debug__" : Str)) = false) (q : IniK X.K S) (ha : PA X (e :: es) ta)
    (hc : eval (.Call (.Attribute (.Name x p1) "__init__" p2) (e :: es) [] pos) X.env = (do
      let cv ← eval (.Name x p1) X.env
      standAt p2.atName
      let (f, first) ← holding [cv] (getMethod cv "__init__" pl)
      callWith pos f first (backTo pos (starEach (e :: es) X.env)) (backToKw pos (keywordEach [] X.env))))
    (he : starEach (e :: es) X.env = (false, eval e X.env) :: starEach es X.env) (hpl : (backTo pos (starEach es X.env)).any (·.1) = false) :
    PE X (.Call (.Attribute (.Name x p1) "__init__" p2) (e :: es) [] pos) (tVeI X.K ta) := by
  refine ⟨fun pins s σ H Q I h => PySem.W.methodCall_KW (ld_glob I hg hm ?_ hdb) hc⟩
  obtain ⟨m, fr⟩ := I.fr
  refine PySem.W.method_of_cls fr I.ok.mod.kin q.ga (PySem.W.cls_val fr I.ok.mod.kin q.ty q.rd q.fc (by decide +kernel) ?_)
  show wpAny _ _ (callWith pos (Value.builtin "ValueError.__init__") [] (backTo pos (starEach (e :: es) X.env)) []) _ _ _
  refine PyProof.Rows.callWith_method1 (thn (ha.run pos pins _ σ H _ (I.tok _) h) fun us s1 ⟨vs, H1, I1, r1, a, C, ws, ev, hl, T0, ea, z⟩ => ?_) he hpl
  subst ev
  cases r1 with
  | @cons _ u0 _ ur ra rw0 =>
    obtain rfl : u0 = Value.ref a := ra
    refine oinit_ok T0 I1 ea ?_ fun s' J => ⟨.non, H1, J, rfl, z⟩
    rw [← Paired.length rw0, sizeLine_eq]
    omega
end
theorem init2_ok {CX : CXT} {P : Program} {w : World} {K : PySem.W.Frag} {mg : Str → Option Value} {base : Heap} {k : Nat} {f C S : Addr} {name qual sn sf x1 x2 f1 f2 msg : Str} {params : Arguments} {scope : Scope} {dV kV doc pm cdv ct oc : Value} {an od : Option Addr} {osl : Array (Option Value)}
    {j : Nat} {q0 q1 q2 q3 q4 q5 q6 q7 q8 q9 r1 r2 r3 r4 : Pos}
    (lk : K.lookup f = some ⟨oc, od, .func (PySem.W.fnOf name qual params [.Expr (.Call (.Attribute (.Name sn q0) "__init__" q1) [.Name sf q2, .Constant (.str msg) j q3] [] q4) q5, .Assign [.Attribute (.Name sf q6) f1 q7] (.Name x1 q8) q9, .Assign [.Attribute (.Name sf r1) f2 r2] (.Name x2 r3) r4] scope dV kV doc pm an cdv ct), osl⟩)
    (hcd : PySem.W.codeIn K cdv qual = true) (Sc : FnScope [sf, x1, x2] [sf, x1, x2] scope) (hn : ([sf, x1, x2, sn].all okName) = true) (hk : scope.names.lookup sf = some .local ∧ scope.names.lookup x1 = some .local ∧ scope.names.lookup x2 = some .local ∧ scope.names.lookup sn = some .globalImplicit)
    (hS : mg sn = some (.ref S)) (iS : IniK K S) (ic : IniCall sn q0 q1 q4 [.Name sf q2, .Constant (.str msg) j q3]) (T0 : OexC K C) (n1 : PySem.W.findIn K (.ref C) f1 = some none) (n2 : PySem.W.findIn K (.ref C) f2 = some none) :
    FnOk P w K mg base CX (k + 1) f (PySem.W.fnOf name qual params [.Expr (.Call (.Attribute (.Name sn q0) "__init__" q1) [.Name sf q2, .Constant (.str msg) j q3] [] q4) q5, .Assign [.Attribute (.Name sf q6) f1 q7] (.Name x1 q8) q9, .Assign [.Attribute (.Name sf r1) f2 r2] (.Name x2 r3) r4] scope dV kV doc pm an cdv ct) [sf, x1, x2] (spInit C [f1, f2]) := by
  refine fn_of lk hcd Sc (fun vs H Q E ⟨a, ws, e1, e2, _⟩ => by rw [e1, List.length_cons, e2]; rfl) fun A outer s H vs Q E hr ⟨a, ws, e1, e2, ea, q⟩ => ?_
  simp only [List.all_cons, List.all_nil, Bool.and_true, Bool.and_eq_true] at hn
  obtain ⟨k0, k1, k2, k3⟩ := hn
  obtain ⟨l0, l1, l2, l3⟩ := hk
  match ws, e2 with
  | [w1, w2], _ =>
    subst e1
    generalize hX : cxOf CX P w K mg base [sf, x1, x2] qual scope f cdv A outer s H E = X
    have hsc : X.env.scope = scope := by subst hX; rfl
    have hN : X.N = [sf, x1, x2] := by subst hX; rfl
    have hK : X.K = K := by subst hX; rfl
    have hm : X.mg sn = some (.ref S) := by subst hX; exact hS
    have v0 : ∀ p, PE X (.Name sf p) (tVar 0) := fun p => pe_var (by rw [hN]; rfl) (.inl (by rw [hsc]; exact l0)) (okName_of k0).1 (okName_of k0).2.1
    have v1 : ∀ p, PE X (.Name x1 p) (tVar 1) := fun p => pe_var (by rw [hN]; rfl) (.inl (by rw [hsc]; exact l1)) (okName_of k1).1 (okName_of k1).2.1
    have v2 : ∀ p, PE X (.Name x2 p) (tVar 2) := fun p => pe_var (by rw [hN]; rfl) (.inl (by rw [hsc]; exact l2)) (okName_of k2).1 (okName_of k2).2.1
    have gl : Gl X sn := by
      show X.env.scope.names.lookup sn = _
      rw [hsc]
      exact l3
    have sm : PE X (.Constant (.str msg) j q3) (tC (.str msg)) := pe_str
    obtain ⟨pl, hic⟩ := ic X.env
    have pe := pe_oinit (p1 := q0) (p2 := q1) (pos := q4) gl hm (okName_of k3).1 (by rw [hK]; exact iS) (pa_cons (v0 q2) (pa_cons sm pa_nil rfl) rfl) hic rfl rfl
    refine ⟨_, pss_cons (ps_expr (pos := q5) pe rfl) (pss_cons (ps_ost (v0 q6) (v1 q8)) (pss_cons (ps_ost (v0 r1) (v2 r3)) pss_nil)), ?_⟩
    rw [hK]
    refine ⟨.ref a, rfl, a, C, [.str msg], rfl, by simp, T0, ea, ?_⟩
    refine ⟨w1, rfl, .ref a, rfl, a, C, rfl, T0, n1, .inl ⟨ea, fun d hd ne => ?_⟩⟩
    refine ⟨w2, rfl, .ref a, rfl, a, C, rfl, T0, n2, .inr ⟨d, [(f1, w1)], upd_same, by rw [upd_ne ne, upd_same], by simp, ?_⟩⟩
    refine q d _ hd (by rw [upd_ne (Ne.symm ne), upd_same]) upd_same fun b h1 h2 => ?_
    rw [upd_ne h2, upd_ne h1, upd_ne h2]
theorem init1_ok {CX : CXT} {P : Program} {w : World} {K : PySem.W.Frag} {mg : Str → Option Value} {base : Heap} {k : Nat} {f C S : Addr} {name qual sn sf x1 f1 msg : Str} {params : Arguments} {scope : Scope} {dV kV doc pm cdv ct oc : Value} {an od : Option Addr} {osl : Array (Option Value)}
    {j : Nat} {q0 q1 q2 q3 q4 q5 q6 q7 q8 q9 : Pos}
    (lk : K.lookup f = some ⟨oc, od, .func (PySem.W.fnOf name qual params [.Expr (.Call (.Attribute (.Name sn q0) "__init__" q1) [.Name sf q2, .Constant (.str msg) j q3] [] q4) q5, .Assign [.Attribute (.Name sf q6) f1 q7] (.Name x1 q8) q9] scope dV kV doc pm an cdv ct), osl⟩)
    (hcd : PySem.W.codeIn K cdv qual = true) (Sc : FnScope [sf, x1] [sf, x1] scope) (hn : ([sf, x1, sn].all okName) = true) (hk : scope.names.lookup sf = some .local ∧ scope.names.lookup x1 = some .local ∧ scope.names.lookup sn = some .globalImplicit)
    (hS : mg sn = some (.ref S)) (iS : IniK K S) (ic : IniCall sn q0 q1 q4 [.Name sf q2, .Constant (.str msg) j q3]) (T0 : OexC K C) (n1 : PySem.W.findIn K (.ref C) f1 = some none) :
    FnOk P w K mg base CX (k + 1) f (PySem.W.fnOf name qual params [.Expr (.Call (.Attribute (.Name sn q0) "__init__" q1) [.Name sf q2, .Constant (.str msg) j q3] [] q4) q5, .Assign [.Attribute (.Name sf q6) f1 q7] (.Name x1 q8) q9] scope dV kV doc pm an cdv ct) [sf, x1] (spInit C [f1]) := by
  refine fn_of lk hcd Sc (fun vs H Q E ⟨a, ws, e1, e2, _⟩ => by rw [e1, List.length_cons, e2]; rfl) fun A outer s H vs Q E hr ⟨a, ws, e1, e2, ea, q⟩ => ?_
  simp only [List.all_cons, List.all_nil, Bool.and_true, Bool.and_eq_true] at hn
  obtain ⟨k0, k1, k3⟩ := hn
  obtain ⟨l0, l1, l3⟩ := hk
  match ws, e2 with
  | [w1], _ =>
    subst e1
    generalize hX : cxOf CX P w K mg base [sf, x1] qual scope f cdv A outer s H E = X
    have hsc : X.env.scope = scope := by subst hX; rfl
    have hN : X.N = [sf, x1] := by subst hX; rfl
    have hK : X.K = K := by subst hX; rfl
    have hm : X.mg sn = some (.ref S) := by subst hX; exact hS
    have v0 : ∀ p, PE X (.Name sf p) (tVar 0) := fun p => pe_var (by rw [hN]; rfl) (.inl (by rw [hsc]; exact l0)) (okName_of k0).1 (okName_of k0).2.1
    have v1 : ∀ p, PE X (.Name x1 p) (tVar 1) := fun p => pe_var (by rw [hN]; rfl) (.inl (by rw [hsc]; exact l1)) (okName_of k1).1 (okName_of k1).2.1
    have gl : Gl X sn := by
      show X.env.scope.names.lookup sn = _
      rw [hsc]
      exact l3
    have sm : PE X (.Constant (.str msg) j q3) (tC (.str msg)) := pe_str
    obtain ⟨pl, hic⟩ := ic X.env
    have pe := pe_oinit (p1 := q0) (p2 := q1) (pos := q4) gl hm (okName_of k3).1 (by rw [hK]; exact iS) (pa_cons (v0 q2) (pa_cons sm pa_nil rfl) rfl) hic rfl rfl
    refine ⟨_, pss_cons (ps_expr (pos := q5) pe rfl) (pss_cons (ps_ost (v0 q6) (v1 q8)) pss_nil), ?_⟩
    rw [hK]
    refine ⟨.ref a, rfl, a, C, [.str msg], rfl, by simp, T0, ea, ?_⟩
    refine ⟨w1, rfl, .ref a, rfl, a, C, rfl, T0, n1, .inl ⟨ea, fun d hd ne => ?_⟩⟩
    refine q d _ hd (by rw [upd_same]) (by rw [upd_ne ne, upd_same]; rfl) fun b h1 h2 => ?_
    rw [upd_ne h1, upd_ne h2]
/-! ### C(e, ..) -/
section
variable {X : Cx} {T : Nat → Value} {W : L2.WX} {G : Gx} {e : Expr} {es : List Expr} {ta : TA} {p pos : Pos}
theorem pmk_oexN {x : Str} {C fI : Addr} {k : Nat} {fd : FuncData} {ps : List Str} {sp : Sp} (T0 : OexC X.K C) (iC : PySem.W.findIn X.K (.ref C) "__init__" = some (some (.ref fI))) (tI : PySem.W.typeIn X.K (.ref fI) = some (.type "function"))
    (F1 : FnOk X.prog X.w X.K X.mg X.base (L2N.CX X.prog X.w) k fI fd ps sp) (hr : Room (k + 1) X.A) (hb : Binds X.K fd ps []) (tk : L2N.Takes X W) (hg : Gl X x) (hm : X.mg x = some (.ref C)) (ha : PA X (e :: es) ta)
    (hdb : (x == ("__debug__" : Str)) = false) (he : starEach (e :: es) X.env = (false, eval e X.env) :: starEach es X.env) (hpl : (backTo pos (starEach es X.env)).any (·.1) = false) : L2N.PMk X (.Call (.Name x p) (e :: es) [] pos) (tMkO C sp [] ta) := by
  intro pins s σ H Q I h
  obtain ⟨nm, qn, N, bs, bm, sn, sub, ab, col, dd, k0, k1, k2, k3, k5, hC, hbm⟩ := T0.cls
  refine wpAny_Call_Name_kw (ld_glob I hg hm ?_ hdb)
  refine PySem.W.callWith_K (h₀ := X.base) I.ok.mod.kin T0.kC (thn (ha.run pos pins s σ H _ I h) fun us ⟨hp, g, dr, tks, os⟩ ⟨vs, H1, I1, r1, hz, q1⟩ => ⟨I1.kIn, ?_⟩) he hpl
  show wpAny _ _ (call (.ref C) us) _ _ _
  generalize en : hp.objs.size + 1 = n
  have le : hp.objs.size ≤ n := by omega
  have hq := q1 n (I1.hok.fresh le)
  rw [List.append_nil] at hq
  generalize eh : (hp.push (PySem.W.kdv_tup us)).push (PySem.HandSPX.excO C hp.objs.size) = h2
  have kk : ∀ b o, hp.get? b = some o → h2.get? b = some o := fun b o z => by rw [← eh]; exact Heap.get?_push_of_some _ (Heap.get?_push_of_some _ z)
  have at2 : h2.get? n = some (PySem.HandSPX.excO C hp.objs.size) := by
    rw [← eh, ← en]
    heap_get
  have I2 : Inv X pins σ (upd H1 n (exo n C none)) ⟨h2, g, dr, tks, os⟩ := I1.laid (t' := tks) (a := n) (o := exo n C none) (h' := h2) kk le (exo_ok at2)
  have r2 : Vals (V.ref n :: vs) (Value.ref n :: us) := .cons rfl r1
  have ln : (Value.ref n :: us).length = ps.length := by rw [← r2.length]; exact F1.len _ _ _ _ hq
  have ls : us.length ≤ sizeLine := by
    rw [← Paired.length r1, sizeLine_eq]
    omega
  have bd := hb _ (Value.ref n :: us) I2.kIn (by rw [List.append_nil]; exact ln)
  rw [List.append_nil] at bd
  have key := F1.run _ X.stack _ _ ⟨Value.ref n :: us, []⟩ (Value.ref n :: us) _ _ (fun _ _ _ => False) (hr.make C us []) (I2.env0.make C us []) bd r2 hq
  subst en
  subst eh
  refine wpAny_call (PySem.HandSPX.call_own F.excBase_ValueError (fun Y => PySem.HandSPX.refsVE_contains Y bm hbm) (I1.kIn _ _ hC) (PySem.W.looks_findIn I1.kIn iC) (fun self => PySem.W.bind_fn I1.kIn self tI) ls (codeAny_mono key fun r s' z => ?_))
  match r, z with
  | .error er, z =>
    obtain ⟨_, _, _, _, _, _, _, _, _, _, _, _, no⟩ := z
    exact no.elim
  | .ok .next, z => exact z.elim
  | .ok .brk, z => exact z.elim
  | .ok .cont, z => exact z.elim
  | .ok (.ret u), z =>
    obtain ⟨v, H2, os2, bare2, un2, hok2, rv, ev, d, fs, ea, ed, hd1, q2⟩ := z
    subst ev
    obtain ⟨h3, g2, d2, t2, os3⟩ := s'
    obtain ⟨t0, Gh, J, kG, ge, hoe, na⟩ := mk_end0 (d2 := d2) (t2 := t2) I1 le kk un2 hok2 os2 bare2 ea ed hd1
    refine ⟨rv, hp.objs.size + 1, _, _, ⟨Gh, g2, d2, t2, os3⟩, _, .ref C, some d, rfl, J, kG, ge, hoe, ⟨rfl, rfl, fun us hu => ?_⟩, rfl, rfl, na, rfl, bare2, raises_own T0.exC T0.tyC, q2⟩
    cases hu
    rfl
/-! ### raise -/
/-- an own class without an __init__ of its own -/
structure Exc0 (K : PySem.W.Frag) (C : Addr) : Prop where
  ex : ∃ bmB B newId initId, ExcBaseFacts B newId initId bmB ∧ PySem.W.excIn K C bmB newId = true
  kC : PySem.W.keepIn K (.ref C) = true
  exC : PySem.W.subIn K (.ref C) (.type "BaseException") = some true
  tyC : PySem.W.typeIn K (.ref C) = some (.type "type")
/-- one with an __init__ that stores fields -/
structure ExcN (X : Cx) (C : Addr) (k : Nat) (ns : List Str) : Prop where
  oex : OexC X.K C
  ini : ∃ (fI : Addr) (fd : FuncData) (ps : List Str), PySem.W.findIn X.K (.ref C) "__init__" = some (some (.ref fI)) ∧ PySem.W.typeIn X.K (.ref fI) = some (.type "function") ∧ Binds X.K fd ps [] ∧ FnOk X.prog X.w X.K X.mg X.base (L2N.CX X.prog X.w) k fI fd ps (spInit C ns)
theorem ss_raise0 {x m : Str} {j c : Nat} {q1 q2 q3 : Pos} {C : Addr} (hc : X.calm = true) (tk : L2N.Takes X W) (hg : Gl X x) (hdb : (x == ("__debug__" : Str)) = false) (hm : X.mg x = some (.ref C)) (hT : T c = .ref C) (h : Exc0 X.K C) :
    SndS X T W G (.Raise (some (.Call (.Name x q1) [.Constant (.str m) j q2] [] q3)) none pos) (.raise c [] []) := by
  obtain ⟨bmB, B, newId, initId, hF, hx⟩ := h.ex
  refine ps_w (L2N.ps_raise hc tk (L2N.pmk_own hF hx hm h.kC (raises_own h.exC h.tyC) hg hdb)) fun En σ H ⟨B, F, pa, env, r, hw⟩ => ?_
  unfold ex evD at hw
  exact hw _ _ σ H F (Ex.refl F) ⟨hT.symm, .inl ⟨rfl, rfl, r⟩⟩
theorem zip_fst {α β : Type} : ∀ {ns : List α} {vs : List β}, ns.length = vs.length → (ns.zip vs).map (·.1) = ns
  | [], [], _ => rfl
  | n :: ns, v :: vs, h => by
    rw [List.zip_cons_cons, List.map_cons, zip_fst (Nat.succ.inj h)]
theorem zip_snd {α β : Type} : ∀ {ns : List α} {vs : List β}, ns.length = vs.length → (ns.zip vs).map (·.2) = vs
  | [], [], _ => rfl
  | n :: ns, v :: vs, h => by
    rw [List.zip_cons_cons, List.map_cons, zip_snd (Nat.succ.inj h)]
theorem reps_rev {K : KH} {F : Hp} : ∀ {vs : List V} {ds : List D}, Reps K F vs ds → Reps K F vs.reverse ds.reverse
  | _, _, .nil => .nil
  | _, _, .cons h r => by
    rw [List.reverse_cons, List.reverse_cons]
    exact (reps_rev r).append (.cons h .nil)
theorem ss_raise1 {x : Str} {c k : Nat} {q1 q3 : Pos} {C : Addr} {ns : List Str} {xs : List IX} (hc : X.calm = true) (tk : L2N.Takes X W) (hr : Room (k + 1) X.A) (hg : Gl X x) (hdb : (x == ("__debug__" : Str)) = false) (hm : X.mg x = some (.ref C)) (hT : T c = .ref C) (h : ExcN X C k ns)
    (ha : SndD X T W G (e :: es) xs) (hl : xs.length = ns.length) (hz : ns.length ≤ 900) (he : starEach (e :: es) X.env = (false, eval e X.env) :: starEach es X.env) (hpl : (backTo q3 (starEach es X.env)).any (·.1) = false) :
    SndS X T W G (.Raise (some (.Call (.Name x q1) (e :: es) [] q3)) none pos) (.raise c ns xs) := by
  obtain ⟨fI, fd, ps, iC, tI, hb, F1⟩ := h.ini
  refine ps_w (L2N.ps_raise hc tk (pmk_oexN h.oex iC tI F1 hr hb tk hg hm ha hdb he hpl)) fun En σ H ⟨B, F, pa, env, r, hw⟩ => ?_
  unfold ex at hw
  rw [Wp.bind] at hw
  refine ⟨B, F, pa, env, r, (evD_len hw).mono (fun ds env1 ⟨hn, hw1⟩ vs H1 F1 e1 r1 p1 => ?_) fun _ _ q => q.at⟩
  have lv : vs.length = ns.length := by rw [p1.length, hn, hl]
  refine ⟨by rw [lv]; omega, fun a ha1 => ?_⟩
  rw [List.append_nil]
  refine ⟨a, vs, rfl, lv, upd_same, fun d H2 hd h1 h2 h3 => ⟨rfl, d, _, h1, h2, ?_, ?_⟩⟩
  · by_cases e : d = a
    · rw [e]
      exact ha1
    · rw [upd_ne e] at hd
      exact hd
  · have nda : d ≠ a := fun e => by
      rw [e, upd_same] at hd
      cases hd
    have hd1 : H1 d = none := by
      rw [upd_ne nda] at hd
      exact hd
    have eH : upd (del H2 a) d (.xd (ns.zip vs).reverse) = upd H1 d (.xd (ns.zip vs).reverse) := by
      funext b
      by_cases hb : b = d
      · rw [hb, upd_same, upd_same]
      · rw [upd_ne hb, upd_ne hb]
        by_cases hba : b = a
        · rw [hba, del_same, ha1]
        · rw [del_ne hba, h3 b hba hb, upd_ne hba]
    rw [eH]
    refine hw1 _ _ σ _ F1 e1 ⟨hT.symm, .inr ⟨d, _, rfl, r1.b_none hd1, r1.fresh hd1, ?_, ?_⟩⟩
    · rw [List.map_reverse, List.map_reverse, zip_fst lv.symm, zip_fst (by rw [← p1.length, lv])]
    · rw [List.map_reverse, List.map_reverse, zip_snd lv.symm, zip_snd (by rw [← p1.length, lv])]
      exact reps_rev p1
end
end Dl

set_option maxHeartbeats 4000000
/-! DlU: from the text's statements to the words. -/
namespace Dl
open PySem PySem.Spec PyProof.Rows L2
open Evl (Ex)

def FU : Nat := 60
def isName : Expr → Bool
  | .Name _ _ => true
  | _ => false
/-- an expression that stands alone -/
def cX (C : Cv) : Expr → Option IS
  | .Call (.Attribute (.Name x px) m apos) [a] [] cpos =>
    if m = "append" then
      (if isStar a = false ∧ (apos.endLine == cpos.line) = true then (cSlot C (.Name x px)).bind fun i => (cE FU C a).map fun xa => .app i xa else none)
    else (cE FU C (.Call (.Attribute (.Name x px) m apos) [a] [] cpos)).map .expr
  | e => if isComp e = true then none else (cE FU C e).map .expr
/-- x, y = a, b -/
def parOk (C : Cv) (x y : Str) (px py : Pos) (a b : Expr) : Bool :=
  (C.sc.names.lookup x == some .local) && (C.sc.names.lookup y == some .local) && (px.line == py.line) && !(x == y) && !isStar a && !isStar b && !([a, b].all (foldedForSure 8)) && !([a, b].all (constantsAlone 8))
def cA (C : Cv) (tg e : Expr) : Option IS :=
  match tg with
  | .Name x p' =>
    if isComp e = true then
      (match e with
      | .ListComp elt [⟨tg, it, ifs, 0⟩] scope pos =>
        if C.sc.names.lookup x = some .local ∧ (p'.line == pos.line) = true ∧ (scope.names.any fun (n, k) => n == x && (k == .local || k == .cell)) = false then
          (ixOf x C.N).bind fun i => (cLc FU C elt tg it ifs scope).map fun v => .asg i v else none
      | _ => none)
    else (cTg C (.Name x p')).bind fun i => (cE FU C e).map fun v => .asg i v
  | .Tuple ts k p =>
    if C.hot = true ∨ isComp e = true then none else
    if isTup e = true then
      (match ts, e with
      | [.Name x px, .Name y py], .Tuple [a, b] _ _ => if parOk C x y px py a b = true then (ixOf x C.N).bind fun i => (ixOf y C.N).bind fun j => (cE FU C a).bind fun xa => (cE FU C b).bind fun xb => if i = j then none else some (.par i j xa xb) else none
      | _, _ => none)
    else (cTgs C ts).bind fun js => (cE FU C e).map fun v => .unp js v
  | .Subscript (.Name x px) b _ => if isComp e = true ∨ isSlice b = true then none else (cSlot C (.Name x px)).bind fun i => (cE FU C b).bind fun xb => (cE FU C e).map fun xe => .seti i xb xe
  | _ => none
def cR (C : Cv) : Expr → Option IS
  | .Call (.Name x _) (a :: as) [] _ =>
    if okName x = true ∧ C.sc.names.lookup x = some .globalImplicit then
      (match C.exc x with
      | some (c, none) => (match a, as with
        | .Constant (.str _) _ _, [] => some (.raise c [] [])
        | _, _ => none)
      | some (c, some ns) => (cL (cE FU C) (a :: as)).bind fun xs => if xs.length = ns.length ∧ ns.length ≤ 900 then some (.raise c ns xs) else none
      | none => none)
    else none
  | _ => none
def cS (rec : Cv → List Stmt → Option (List IS)) (C : Cv) : Stmt → Option IS
  | .Pass _ => some .pass
  | .Break _ => some .brk
  | .Continue _ => some .cont
  | .Return none _ => some .retN
  | .Return (some e) _ => (cE FU C e).map .ret
  | .If c a b _ => (cT FU C c).bind fun t => (rec C a).bind fun ia => (rec C b).map fun ib => .ifs t ia ib
  | .For tg it body [] _ => if C.hot = true ∨ isSet it = true then none else (cTarget C tg).bind fun t => (cI FU C (isTup tg) it).bind fun k => (rec C body).map fun b => .fors t k.1 k.2 b
  | .Expr e _ => cX C e
  | .Assign [tg] e _ => cA C tg e
  | .Raise (some e) none _ => if C.hot = true then none else cR C e
  | .Try body [.ExceptHandler (some (.Name x _)) (some n) (b0 :: suite) _] [] [] _ =>
    if C.hot = true ∨ okName x = false ∨ C.sc.names.lookup x ≠ some .globalImplicit ∨ C.sc.names.lookup n ≠ some .local then none else
      (ixOf n C.N).bind fun i => (C.cls x).bind fun c => (rec C body).bind fun b => (rec { C with hot := true } (b0 :: suite)).map fun su => .tryE b i c su
  | _ => none
def cSs : Nat → Cv → List Stmt → Option (List IS)
  | 0, _, _ => none
  | _ + 1, _, [] => some []
  | n + 1, C, s :: ss => (cS (cSs n) C s).bind fun i => (cSs n C ss).map (i :: ·)

structure StOk (C : Cv) (T : Nat → Value) (W : L2.WX) (k : Nat) (X : Cx) : Prop where
  c : CtxOk C T W k X
  loc : LocOk C X
  kind : C.sc.kind = .function
  cold : C.hot = false → PassesOwn (model X.prog X.w) X.A X.env X.xe ∧ X.stack = X.env :: X.outer ∧ X.env.frame = some X.env.locals ∧ (∀ x i, C.G.hot x = some i → HnAt X T k x i)
  exc : ∀ x c o, C.exc x = some (c, o) → ∃ En, X.mg x = some (.ref En) ∧ T c = .ref En ∧ match o with
    | none => Exc0 X.K En
    | some ns => ∃ j, j + 1 ≤ k ∧ ExcN X En j ns
section
variable {X : Cx} {T : Nat → Value} {W : L2.WX} {C : Cv} {k : Nat}
theorem asg_lc {i : Nat} {y : Str} {py pos spos : Pos} {elt tg it : Expr} {ifs : List Expr} {scope : Scope} {own : List (Str × Nat)} {x : IX} {G : Gx} (hN : X.N.Nodup) (hk : X.env.scope.kind = .function) (hy : X.N[i]? = some y) (hyl : X.env.scope.names.lookup y = some .local) (hl : (py.line == pos.line) = true)
    (hany : (scope.names.any fun (n, k) => n == y && (k == .local || k == .cell)) = false) (p : LcParts X T W G elt tg it ifs scope own x) : SndS X T W G (.Assign [.Name y py] (.ListComp elt [⟨tg, it, ifs, 0⟩] scope pos) spos) (.asg i x) := by
  obtain ⟨wi, g, tt, te, h2, h6, h7, h8, h⟩ := p.ex
  have hsw := sw_true (elt := elt) (gs := [⟨tg, it, ifs, 0⟩]) (l := spos.line) hk hyl hl hany
  rcases h with ⟨hc, h1, h3, h4, h5⟩ | ⟨p, hx, h1, h3, h4, h5⟩
  · exact ps_w (ps_setLc hc hN hy hyl hsw h1 h2 h3 h4 h5 (nofold h8)) fun En σ H h => asg_then h6 h
  · exact ps_w (ps_setLcH hx hN hy hyl hsw h1 h2 h3 h4 h5 (nofold h8)) fun En σ H h => asg_then h6 h
theorem swap2 {x y : Str} {px py pt pt2 : Pos} {kt k2 : Nat} {a b : Expr} (hk : X.env.scope.kind = .function) (hsc : X.env.scope = C.sc) (h : parOk C x y px py a b = true) :
    swappedStores [.Tuple [.Name x px, .Name y py] kt pt] (.Tuple [a, b] k2 pt2) X.env = pure (some [x, y]) := by
  unfold parOk at h
  simp only [Bool.and_eq_true, beq_iff_eq, Bool.not_eq_true', beq_eq_false_iff_ne] at h
  obtain ⟨⟨⟨⟨⟨⟨⟨h1, h2⟩, h3⟩, h4⟩, h5⟩, h6⟩, h7⟩, h8⟩ := h
  have hb : X.env.blockKind = .function := by unfold Env.blockKind; rw [hk]; rfl
  have kx : X.env.kindOf x = some .local := by unfold Env.kindOf; rw [hsc]; exact h1
  have ky : X.env.kindOf y = some .local := by unfold Env.kindOf; rw [hsc]; exact h2
  have st : ([a, b].any fun e => match e with
    | .Starred .. => true
    | _ => false) = false := by
    have one : ∀ e : Expr, isStar e = false → (match e with
      | .Starred .. => true
      | _ => false) = false := fun e h => by cases e <;> first | rfl | cases h
    simp only [List.any_cons, List.any_nil, Bool.or_false, Bool.or_eq_false_iff]
    exact ⟨one a h5, one b h6⟩
  have names : ([Expr.Name x px, Expr.Name y py].filterMap fun e => match e with
      | .Name id pos => if (X.env.kindOf id == some .local && pos.line == (([Expr.Name x px, Expr.Name y py].head?.map (·.pos.line)).getD 0)) = true then some id else none
      | _ => none) = [x, y] := by
    simp only [List.filterMap_cons, List.filterMap_nil, List.head?_cons, Option.map_some, Option.getD_some, Expr.pos, kx, ky, h3, beq_self_eq_true, Bool.and_self, if_true]
  have dup : ([x, y] : List Str).eraseDups.length = 2 := by
    have hyx : (y == x) = false := by simpa using fun z => h4 z.symm
    simp [List.eraseDups_cons, hyx]
  unfold swappedStores
  dsimp only
  rw [hb]
  refine Eq.trans (if_neg (fun z => Bool.false_ne_true z)) (Eq.trans (if_neg (fun z => Bool.false_ne_true (st.symm.trans z))) ?_)
  have go : ∀ nm : List Str, nm = [x, y] → (if (nm.length != 2 || nm.eraseDups.length != nm.length) = true then (pure none : Sem (Option (List Str))) else
      if ([a, b].all (foldedForSure 8)) = true then pure none else if ([a, b].all (constantsAlone 8)) = true then unsupported "assign.tuple-of-constant-expressions:order-of-the-stores" else pure (some nm)) = pure (some [x, y]) := by
    intro nm e
    subst e
    rw [h7, h8]
    refine Eq.trans (if_neg ?_) rfl
    rw [dup]
    exact fun z => Bool.false_ne_true z
  exact go _ names
theorem x_ok (o : StOk C T W k X) {e : Expr} {s : IS} {pos : Pos} (h : cX C e = some s) : SndS X T W C.G (.Expr e pos) s := by
  have S := sound k T FU C W X o.c
  have plain : ∀ {e : Expr} {s : IS}, isComp e = false → (cE FU C e).map IS.expr = some s → SndS X T W C.G (.Expr e pos) s := fun {e s} hc h => by
    obtain ⟨xa, h1, rfl⟩ := map2 h
    exact ss_expr (S.e _ _ h1) (nocomp hc)
  unfold cX at h
  split at h
  · split at h
    · rename_i x px m apos a cpos hm
      subst hm
      split at h
      · rename_i hs
        obtain ⟨i, h1, h⟩ := bind2 h
        obtain ⟨xa, h2, rfl⟩ := map2 h
        exact ss_app (slot_var o.c.N o.c.sc h1) (S.e _ _ h2) (star_no hs.1) hs.2
      · cases h
    · exact plain rfl h
  · split at h
    · cases h
    · rename_i hc
      exact plain (Bool.eq_false_iff.mpr hc) h
theorem a_ok (o : StOk C T W k X) {tg e : Expr} {s : IS} {pos : Pos} (h : cA C tg e = some s) : SndS X T W C.G (.Assign [tg] e pos) s := by
  have S := sound k T FU C W X o.c
  have hN : X.N.Nodup := by rw [o.c.N]; exact o.c.nd
  have hk : X.env.scope.kind = .function := by rw [o.c.sc]; exact o.kind
  unfold cA at h
  split at h
  · rename_i x p'
    split at h
    · split at h
      · split at h
        · rename_i elt tg it ifs scope q hx
          obtain ⟨i, h1, h⟩ := bind2 h
          obtain ⟨v, h2, rfl⟩ := map2 h
          exact asg_lc hN hk (by rw [o.c.N]; exact ixOf_get h1) (by rw [o.c.sc]; exact hx.1) hx.2.1 hx.2.2 (S.l _ _ _ _ _ _ h2)
        · cases h
      · cases h
    · rename_i hc
      obtain ⟨i, h1, h⟩ := bind2 h
      obtain ⟨v, h2, rfl⟩ := map2 h
      unfold cTg at h1
      dsimp only at h1
      split at h1
      · rename_i hx
        obtain ⟨l1, l2⟩ := o.loc x hx
        exact ss_asg hN (by rw [o.c.N]; exact ixOf_get h1) l1 (S.e _ _ h2) (nocomp (Bool.eq_false_iff.mpr hc)) l2
      · cases h1
  · split at h
    · cases h
    · rename_i ts kk p hcc
      rw [not_or] at hcc
      have hot : C.hot = false := Bool.eq_false_iff.mpr hcc.1
      have ncomp : isComp e = false := Bool.eq_false_iff.mpr hcc.2
      obtain ⟨calm, _, _⟩ := o.c.cold hot
      split at h
      · split at h
        · split at h
          · rename_i x px y py a b k2 pt2 hcc2 hp
            obtain ⟨i, h1, h⟩ := bind2 h
            obtain ⟨j, h2, h⟩ := bind2 h
            obtain ⟨xa, h3, h⟩ := bind2 h
            obtain ⟨xb, h4, h⟩ := bind2 h
            split at h
            · cases h
            · rename_i nij
              cases h
              have hp0 := hp
              unfold parOk at hp0
              simp only [Bool.and_eq_true, beq_iff_eq, Bool.not_eq_true'] at hp0
              obtain ⟨⟨⟨⟨⟨⟨⟨p1, p2⟩, p3⟩, p4⟩, p5⟩, p6⟩, p7⟩, p8⟩ := hp0
              have sd : SndD X T W C.G [a, b] [xa, xb] := sd_cons (S.e _ _ h3) (sd_cons (S.e _ _ h4) sd_nil (star_no p6)) (star_no p5)
              exact ss_par calm hN (by rw [o.c.N]; exact ixOf_get h1) (by rw [o.c.N]; exact ixOf_get h2) nij (by rw [o.c.sc]; exact p1) (by rw [o.c.sc]; exact p2) sd (swap2 hk o.c.sc hp) rfl
          · cases h
        · cases h
      · rename_i htup
        obtain ⟨js, h1, h⟩ := bind2 h
        obtain ⟨v, h2, rfl⟩ := map2 h
        have hw : swappedStores [.Tuple ts kk p] e X.env = pure none := by
          cases e <;> first | rfl | exact absurd rfl htup
        exact ss_unp (tg_cold calm o.c.N o.c.nd o.loc h1) (gOf_ok (K := kh X T) (.tp js)) (S.e _ _ h2) (nocomp (t := some (.Tuple ts kk p)) (l := pos.line) (env := X.env) ncomp) hw rfl
  · split at h
    · cases h
    · rename_i x px b sp hcc
      rw [not_or] at hcc
      obtain ⟨i, h1, h⟩ := bind2 h
      obtain ⟨xb, h2, h⟩ := bind2 h
      obtain ⟨xe, h3, rfl⟩ := map2 h
      have hw : swappedStores [.Subscript (.Name x px) b sp] e X.env = pure none := by cases e <;> rfl
      refine ss_seti (slot_var o.c.N o.c.sc h1) (S.e _ _ h2) (S.e _ _ h3) (nocomp (t := some (.Subscript (.Name x px) b sp)) (l := pos.line) (env := X.env) (Bool.eq_false_iff.mpr hcc.1)) hw fun v => ?_
      have ns : isSlice b = false := Bool.eq_false_iff.mpr hcc.2
      cases b <;> first | rfl | cases ns
  · cases h
theorem r_ok (o : StOk C T W k X) (hot : C.hot = false) {e : Expr} {s : IS} {pos : Pos} (h : cR C e = some s) : SndS X T W C.G (.Raise (some e) none pos) s := by
  have S := sound k T FU C W X o.c
  obtain ⟨calm, room, _⟩ := o.c.cold hot
  unfold cR at h
  split at h
  · rename_i x q a as q3
    split at h
    · rename_i hx
      obtain ⟨n1, n2, n3⟩ := okName_of hx.1
      split at h
      · rename_i c he
        obtain ⟨En, m1, m2, m3⟩ := o.exc _ _ _ he
        split at h
        · cases h
          exact ss_raise0 calm o.c.tk (o.c.gl hx.2) n1 m1 m2 m3
        · cases h
      · rename_i c ns he
        obtain ⟨En, m1, m2, j, m3, m4⟩ := o.exc _ _ _ he
        obtain ⟨xs, h2, h⟩ := bind2 h
        split at h
        · rename_i hl
          cases h
          have hst := cL_star h2
          simp only [List.all_cons, Bool.and_eq_true, Bool.not_eq_true'] at hst
          exact ss_raise1 calm o.c.tk (room.mono m3) (o.c.gl hx.2) n1 m1 m2 m4 (cL_disp S.e h2) hl.1 hl.2 (star_no hst.1) (stars_no hst.2)
        · cases h
      · cases h
    · cases h
  · cases h
/-- the suite's context -/
theorem suite_ok (o : StOk C T W k X) (hot : C.hot = false) {a : Addr} {oe : Obj} {cls : Value} {d : Option Addr} {pn : List (Addr × Obj)} (z : L2N.Zn cls d oe) (hd : ∃ vs, oe.data = .fields vs) : StOk { C with hot := true } T WNo k (X.suite a ((a, oe) :: pn)) where
  c :=
    { N := o.c.N, nd := o.c.nd, sc := o.c.sc
      cold := fun h => by
        have h : true = false := h
        cases h
      heat := fun _ => by
        obtain ⟨vs, hvs⟩ := hd
        exact ⟨⟨(a, oe), rfl, rfl, rfl, vs, hvs, z.2.2 vs hvs⟩, fun x i h => ⟨((o.cold hot).2.2.2 x i h).ex⟩⟩
      room := ⟨o.c.room.dp, o.c.room.un⟩
      gd := o.c.gd
      tk := fun _ _ ⟨_, _, _, _, _, _, _, _, _, _, _, _, _, _, _, _, w⟩ => w.elim
      cls := o.c.cls, sub := o.c.sub, fld := o.c.fld, con := o.c.con, blt := o.c.blt }
  loc := o.loc
  kind := o.kind
  cold := fun h => by
    have h : true = false := h
    cases h
  exc := fun x c oo h => by
    obtain ⟨En, h1, h2, h3⟩ := o.exc x c oo h
    refine ⟨En, h1, h2, ?_⟩
    cases oo with
    | none => exact h3
    | some ns => obtain ⟨j, h4, h5⟩ := h3; exact ⟨j, h4, h5.oex, h5.ini⟩
theorem tr_ok (o : StOk C T W k X) (hot : C.hot = false) {W' : L2.WX} {pn : List (Addr × Obj)} {xe : Value → Shared → Prop} (tk : L2N.Takes (X.tr pn xe) W') (ps : PassesOwn (model X.prog X.w) X.A X.env xe) : StOk C T W' k (X.tr pn xe) where
  c :=
    { N := o.c.N, nd := o.c.nd, sc := o.c.sc
      cold := fun h => ⟨(o.c.cold h).1, (o.c.cold h).2.1, fun x i z => ⟨((o.c.cold h).2.2 x i z).ex⟩⟩
      heat := fun h => by
        rw [hot] at h
        cases h
      room := o.c.room
      gd := o.c.gd
      tk := tk
      cls := o.c.cls, sub := o.c.sub, fld := o.c.fld, con := o.c.con, blt := o.c.blt }
  loc := o.loc
  kind := o.kind
  cold := fun h => ⟨ps, (o.cold h).2.1, (o.cold h).2.2.1, fun x i z => ⟨((o.cold h).2.2.2 x i z).ex⟩⟩
  exc := fun x c oo h => by
    obtain ⟨En, h1, h2, h3⟩ := o.exc x c oo h
    refine ⟨En, h1, h2, ?_⟩
    cases oo with
    | none => exact h3
    | some ns => obtain ⟨j, h4, h5⟩ := h3; exact ⟨j, h4, h5.oex, h5.ini⟩
theorem cold_to {K : PySem.W.Frag} {T : Nat → Value} {p : Option (Addr × Obj)} {B F : Hp} {pa : Nat → Addr} {env : Envs} {σ : L2.St} {H : Hp} {i : Nat} (r : Rel ⟨K, T, p⟩ B F pa env σ H) : Rel ⟨K, T, none⟩ B F pa (noExn (env.set i .un)) (σ.set i none) H := (r.un i none).cool
/-- try: .. except x as n: .. -/
theorem ss_try {x n : Str} {np q1 pos : Pos} {body suite : List Stmt} {b0 : Stmt} {ib is : List IS} {i c : Nat} (o : StOk C T W k X) (hot : C.hot = false) (hn : okName x = true) (hl : C.sc.names.lookup x = some .globalImplicit) (hln : C.sc.names.lookup n = some .local) (hi : ixOf n C.N = some i) (hc : C.cls x = some c)
    (hb : ∀ (W' : L2.WX) (pn : List (Addr × Obj)) (xe : Value → Shared → Prop), L2N.Takes (X.tr pn xe) W' → PassesOwn (model X.prog X.w) X.A X.env xe → SndSs (X.tr pn xe) T W' C.G body ib)
    (hs : ∀ (a : Addr) (oe : Obj) (cls : Value) (d : Option Addr) (pn : List (Addr × Obj)), L2N.Zn cls d oe → (∃ vs, oe.data = .fields vs) → SndSs (X.suite a ((a, oe) :: pn)) T WNo C.G (b0 :: suite) is) :
    SndS X T W C.G (.Try body [.ExceptHandler (some (.Name x np)) (some n) (b0 :: suite) q1] [] [] pos) (.tryE ib i c is) := by
  obtain ⟨calm, _, _⟩ := o.c.cold hot
  obtain ⟨pso, st, fr, _⟩ := o.cold hot
  obtain ⟨n1, n2, n3⟩ := okName_of hn
  have nm : Names X x (T c) := by
    refine ⟨o.c.gl hl, n1, ?_⟩
    rcases o.c.cls x c hc with ⟨En, h1, h2⟩ | ⟨h1, id, h2, h3⟩
    · exact .inl (by rw [h2]; exact h1)
    · exact .inr ⟨h1, by rw [h3]; exact h2, n3⟩
  have hk : kh X T = ⟨X.K, T, none⟩ := kh_cold calm
  let ts : Addr → Value → Option Addr → TS := fun a cls d En σ H => ∀ oe, L2N.Zn cls d oe → RgS ⟨X.K, T, some (a, oe)⟩ WNo (exs C.G is) En σ H
  have body' : ∀ (W' : L2.WX) (pn : List (Addr × Obj)) (xe : Value → Shared → Prop), L2N.Takes (X.tr pn xe) W' → PassesOwn (model X.prog X.w) X.A X.env xe → PSs (X.tr pn xe) body (RgS ⟨X.K, T, none⟩ W' (exs C.G ib)) := fun W' pn xe tk ps => by
    have z := hb W' pn xe tk ps
    unfold SndSs at z
    rw [kh_cold (X := X.tr pn xe) calm] at z
    exact z
  have suite' : ∀ (a : Addr) (oe : Obj) (cls : Value) (d : Option Addr) (pn : List (Addr × Obj)), L2N.Zn cls d oe → (∃ vs, oe.data = .fields vs) → PSs (X.suite a ((a, oe) :: pn)) (b0 :: suite) (ts a cls d) := fun a oe cls d pn z hd => pss_w (hs a oe cls d pn z hd) fun En σ H h => h oe z
  refine ps_w (L2N.ps_try_as st fr (by rw [o.c.N]; exact o.c.nd) (by rw [o.c.N]; exact ixOf_get hi) (by show X.env.scope.names.lookup n = _; rw [o.c.sc]; exact hln) nm o.c.tk body' suite') fun En σ H ⟨B, F, pa, env, r, hw⟩ => ?_
  rw [hk] at r hw
  refine ⟨B, F, pa, env, r, ?_⟩
  unfold Wp ex at hw
  unfold Wp
  cases hm : exs C.G ib env with
  | none => rw [hm] at hw; exact hw.elim
  | some z =>
    obtain ⟨z1, env1⟩ := z
    rw [hm] at hw
    cases z1 with
    | ok fl => exact hw
    | error e =>
      dsimp only at hw ⊢
      cases hsub : C.G.sub e.c c with
      | none => rw [hsub] at hw; exact hw.elim
      | some b =>
        rw [hsub] at hw
        obtain ⟨_, hexm, _⟩ := o.c.sub _ _ _ hsub
        intro cls d σ1 H1 F1 e1 hx
        refine ⟨b, by rw [hx.1]; exact hexm, fun hb a ha oe hz => ?_, fun hb => ?_⟩
        · subst hb
          obtain ⟨z1, z2, z3⟩ := hz
          obtain ⟨h1, h2⟩ := hx
          have h1 : cls = T e.c := h1
          obtain ⟨F2, e2, r2⟩ : ∃ F2, Ex F1 F2 ∧ Rel ⟨X.K, T, some (a, oe)⟩ B F2 pa (env1.set i (.exn e)) (σ1.set i (some (.ref a))) H1 := by
            rcases h2 with ⟨h3, h4, h5⟩ | ⟨dd, fs, h3, h4, h5, h6, h7⟩
            · exact ⟨F1, Ex.refl F1, h5.heat (z1.trans h1) (.inl ⟨h3, z2.trans h4⟩)⟩
            · have e2 := Ex.new (o := .xd fs) (h5.bh dd _ upd_same).2
              exact ⟨_, e2, (h5.thaw h4).heat (z1.trans h1) (.inr ⟨dd, fs, z2.trans h3, upd_same, h6, h7.mono e2⟩)⟩
          refine ⟨B, F2, pa, _, r2, ?_⟩
          unfold Wp
          dsimp only at hw
          cases hm2 : exs C.G is (env1.set i (.exn e)) with
          | none => rw [hm2] at hw; exact hw.elim
          | some y =>
            obtain ⟨y1, env2⟩ := y
            rw [hm2] at hw
            cases y1 with
            | error _ => exact hw.elim
            | ok fl =>
              cases fl with
              | next => exact fun σ3 H3 F3 e3 r3 => hw _ H3 F3 ((e1.trans e2).trans e3) (cold_to r3)
              | brk => exact fun σ3 H3 F3 e3 r3 => hw _ H3 F3 ((e1.trans e2).trans e3) (cold_to r3)
              | cont => exact fun σ3 H3 F3 e3 r3 => hw _ H3 F3 ((e1.trans e2).trans e3) (cold_to r3)
              | ret rv =>
                intro v σ3 H3 F3 e3 p3
                refine hw v (σ3.set i none) H3 F3 ((e1.trans e2).trans e3) ?_
                cases rv with
                | val d => exact ⟨cold_to p3.1, p3.2.view⟩
                | new ds =>
                  obtain ⟨q, ws, rfl, h1, h2, h3⟩ := p3
                  exact ⟨q, ws, rfl, h1, cold_to h2, h3.view⟩
        · subst hb
          exact hw cls d σ1 H1 F1 e1 hx
theorem soundS (k : Nat) (T : Nat → Value) : ∀ (n : Nat) (C : Cv) (W : L2.WX) (X : Cx), StOk C T W k X → ∀ sts ss, cSs n C sts = some ss → SndSs X T W C.G sts ss
  | 0, C, W, X, o, sts, ss, h => by cases h
  | n + 1, C, W, X, o, [], ss, h => by
    cases h
    exact sss_nil
  | n + 1, C, W, X, o, st :: sts, ss, h => by
    have S := sound k T FU C W X o.c
    have IH := soundS k T n
    unfold cSs at h
    obtain ⟨i, h1, h⟩ := bind2 h
    obtain ⟨is, h2, rfl⟩ := map2 h
    refine sss_cons ?_ (IH C W X o _ _ h2)
    unfold cS at h1
    split at h1
    · cases h1; exact ss_pass
    · cases h1; exact ss_brk
    · cases h1; exact ss_cont
    · cases h1; exact ss_retN
    · obtain ⟨x, h3, rfl⟩ := map2 h1
      exact ss_ret (S.e _ _ h3)
    · obtain ⟨t, h3, h1⟩ := bind2 h1
      obtain ⟨ia, h4, h1⟩ := bind2 h1
      obtain ⟨ib, h5, rfl⟩ := map2 h1
      exact ss_if (S.t _ _ h3) (IH C W X o _ _ h4) (IH C W X o _ _ h5)
    · split at h1
      · cases h1
      · rename_i hh
        rw [not_or] at hh
        have hot : C.hot = false := Bool.eq_false_iff.mpr hh.1
        obtain ⟨t, h3, h1⟩ := bind2 h1
        obtain ⟨kk, h4, h1⟩ := bind2 h1
        obtain ⟨b, h5, rfl⟩ := map2 h1
        obtain ⟨calm, _, _⟩ := o.c.cold hot
        exact ss_for (o.cold hot).1 calm (S.i hot _ _ _ _ h4 fun z => z) (fun _ _ _ q => q) (tgt_cold calm o.c.N o.c.nd o.loc h3) (gOf_ok (K := kh X T) t) (IH C W X o _ _ h5) (nofold (Bool.eq_false_iff.mpr hh.2))
    · exact x_ok o h1
    · exact a_ok o h1
    · split at h1
      · cases h1
      · rename_i hh
        exact r_ok o (Bool.eq_false_iff.mpr hh) h1
    · split at h1
      · cases h1
      · rename_i hh
        simp only [not_or, Bool.not_eq_true, Bool.not_eq_false, ne_eq, Classical.not_not] at hh
        obtain ⟨z1, z2, z3, z4⟩ := hh
        obtain ⟨i, h3, h1⟩ := bind2 h1
        obtain ⟨c, h4, h1⟩ := bind2 h1
        obtain ⟨b, h5, h1⟩ := bind2 h1
        obtain ⟨su, h6, rfl⟩ := map2 h1
        exact ss_try o z1 z2 z3 z4 h3 h4 (fun W' pn xe tk ps => IH C W' _ (tr_ok o z1 tk ps) _ _ h5) fun a oe cls d pn z hd => IH _ WNo _ (suite_ok o z1 z hd) _ _ h6
    · cases h1
end
end Dl

set_option maxHeartbeats 4000000
/-! DlV: the text's defs, one by one. -/
namespace Dl
open PySem PySem.Spec PyProof.Rows L2
open Evl (Ex)

/-- what stands still of a compilation -/
structure Tx where
  con : Str → Option D
  cls : Str → Option Nat
  exc : Str → Option (Nat × Option (List Str))
def Tx.cv (t : Tx) (G : Gx) (hot : Bool) (N : List Str) (sc : Scope) : Cv := ⟨N, sc, t.con, G, hot, t.cls, t.exc⟩
/-- the module, as the defs find it; k: how deep the calls go -/
structure Lv (P : Program) (w : World) (K : PySem.W.Frag) (mg : Str → Option Value) (base : Heap) (T : Nat → Value) (t : Tx) (G : Gx) (k : Nat) : Prop where
  fns : ∀ x i, G.fn x = some i → ∃ (f : Addr) (fd : FuncData) (ps : List Str), mg x = some (.ref f) ∧ PySem.W.keepIn K (.ref f) = true ∧ Binds K fd ps [] ∧ ps.length = i.modes.length ∧ FnG P w K mg base k f fd ps (spG ⟨K, T, none⟩ i.modes.length i.sem)
  hots : ∀ x i, G.hot x = some i → ∃ (f : Addr) (fd : FuncData) (ps : List Str), mg x = some (.ref f) ∧ PySem.W.keepIn K (.ref f) = true ∧ Binds K fd ps [] ∧ ps.length = i.modes.length ∧ FnE P w K mg base k f fd ps (fun p => spG ⟨K, T, some p⟩ i.modes.length i.sem)
  cls : ∀ x c, t.cls x = some c → (∃ D, mg x = some (.ref D) ∧ T c = .ref D) ∨ (mg x = none ∧ ∃ id, bootBuiltins x = some (.type id) ∧ T c = .type id)
  sub : ∀ c c' b, G.sub c c' = some b → PySem.W.kitOne K (T c) (T c') = some b ∧ PySem.W.exmOne K (T c) (T c') = some b ∧ ∃ D, T c = .ref D ∧ ExcK K D
  fld : ∀ c f, G.fld c f = true → ∃ D, T c = .ref D ∧ ExcK K D ∧ PySem.W.findIn K (.ref D) f = some none
  con : ∀ x d, t.con x = some d → ∃ v u, mg x = some u ∧ RelV v u ∧ ∀ (KK : KH) (F : Hp), KK.K = K → Rep KK F v d
  blt : ∀ x ∈ bltNames, mg x = none
  exc : ∀ x c o, t.exc x = some (c, o) → ∃ En, mg x = some (.ref En) ∧ T c = .ref En ∧ match o with
    | none => Exc0 K En
    | some ns => OexC K En ∧ ∃ (j : Nat) (fI : Addr) (fd : FuncData) (ps : List Str), j + 1 ≤ k ∧ PySem.W.findIn K (.ref En) "__init__" = some (some (.ref fI)) ∧ PySem.W.typeIn K (.ref fI) = some (.type "function") ∧ Binds K fd ps [] ∧ FnOk P w K mg base (L2N.CX P w) j fI fd ps (spInit En ns)
section
variable {P : Program} {w : World} {K : PySem.W.Frag} {mg : Str → Option Value} {base : Heap} {T : Nat → Value} {t : Tx} {G : Gx} {k : Nat}
theorem FnE.mono {j k : Nat} {f : Addr} {fd : FuncData} {ps : List Str} {sp : Addr × Obj → Sp} (F : FnE P w K mg base j f fd ps sp) (h : j ≤ k) : FnE P w K mg base k f fd ps sp :=
  ⟨F.len, fun A outer s H args us vs Q E p hr => F.run A outer s H args us vs Q E p (hr.mono h)⟩
theorem Lv.mono {j : Nat} (L : Lv P w K mg base T t G j) (h : j ≤ k) : Lv P w K mg base T t G k where
  fns := fun x i z => let ⟨f, fd, ps, a1, a2, a3, a4, a5⟩ := L.fns x i z; ⟨f, fd, ps, a1, a2, a3, a4, a5.mono h⟩
  hots := fun x i z => let ⟨f, fd, ps, a1, a2, a3, a4, a5⟩ := L.hots x i z; ⟨f, fd, ps, a1, a2, a3, a4, a5.mono h⟩
  cls := L.cls
  sub := L.sub
  fld := L.fld
  con := L.con
  blt := L.blt
  exc := fun x c o z => by
    obtain ⟨En, h1, h2, h3⟩ := L.exc x c o z
    refine ⟨En, h1, h2, ?_⟩
    cases o with
    | none => exact h3
    | some ns =>
      obtain ⟨h4, j', fI, fd, ps, h5, h6⟩ := h3
      exact ⟨h4, j', fI, fd, ps, Nat.le_trans h5 h, h6⟩
theorem Lv.excX {k : Nat} (L : Lv P w K mg base T t G k) {X : Cx} (e1 : X.prog = P) (e2 : X.w = w) (e3 : X.K = K) (e4 : X.mg = mg) (e5 : X.base = base) : ∀ x c o, t.exc x = some (c, o) → ∃ En, X.mg x = some (.ref En) ∧ T c = .ref En ∧ match o with
    | none => Exc0 X.K En
    | some ns => ∃ j, j + 1 ≤ k ∧ ExcN X En j ns := fun x c o z => by
  subst e1 e2 e3 e4 e5
  obtain ⟨En, h1, h2, h3⟩ := L.exc x c o z
  refine ⟨En, h1, h2, ?_⟩
  cases o with
  | none => exact h3
  | some ns =>
    obtain ⟨h4, j', fI, fd, ps, h5, h6, h7, h8, h9⟩ := h3
    exact ⟨j', h5, h4, fI, fd, ps, h6, h7, h8, h9⟩
theorem def_cold (L : Lv P w K mg base T t G k) {f : Addr} {name qual : Str} {params : Arguments} {body : List Stmt} {scope : Scope} {dV kV doc pm cdv ct oc : Value} {an od : Option Addr} {osl : Array (Option Value)} {N ps : List Str} {ss : List IS} {n : Nat}
    (lk : K.lookup f = some ⟨oc, od, .func (PySem.W.fnOf name qual params body scope dV kV doc pm an cdv ct), osl⟩) (hcd : PySem.W.codeIn K cdv qual = true) (Sc : FnScope N ps scope) (h : cSs n (t.cv G false N scope) body = some ss) :
    FnG P w K mg base (k + 1) f (PySem.W.fnOf name qual params body scope dV kV doc pm an cdv ct) ps (spG ⟨K, T, none⟩ ps.length (defM N.length (exs G ss))) :=
  fnG_def lk hcd Sc fun A outer s H E hr hgd => by
    refine soundS k T n (t.cv G false N scope) _ _ ?_ _ _ h
    exact {
      c := {
        N := rfl, nd := Sc.nd, sc := rfl
        cold := fun _ => ⟨rfl, hr, fun x i z => ⟨L.fns x i z⟩⟩
        heat := fun z => by
          have z : false = true := z
          cases z
        room := L2H.roomH_of hr
        gd := hgd
        tk := L2N.takes_of rfl rfl rfl rfl
        cls := L.cls, sub := L.sub, fld := L.fld, con := L.con, blt := L.blt }
      loc := fun x hx => ⟨hx, .inl rfl⟩
      kind := Sc.kind
      cold := fun _ => ⟨passes_of rfl, rfl, rfl, fun x i z => ⟨L.hots x i z⟩⟩
      exc := L.excX rfl rfl rfl rfl rfl }
theorem def_hot (L : Lv P w K mg base T t G k) {f : Addr} {name qual : Str} {params : Arguments} {body : List Stmt} {scope : Scope} {dV kV doc pm cdv ct oc : Value} {an od : Option Addr} {osl : Array (Option Value)} {N ps : List Str} {ss : List IS} {n : Nat}
    (lk : K.lookup f = some ⟨oc, od, .func (PySem.W.fnOf name qual params body scope dV kV doc pm an cdv ct), osl⟩) (hcd : PySem.W.codeIn K cdv qual = true) (Sc : FnScope N ps scope) (h : cSs n (t.cv G true N scope) body = some ss) :
    FnE P w K mg base (k + 1) f (PySem.W.fnOf name qual params body scope dV kV doc pm an cdv ct) ps (fun p => spG ⟨K, T, some p⟩ ps.length (defM N.length (exs G ss))) :=
  fnE_def lk hcd Sc fun A outer s H E p hot hr hgd => by
    refine soundS k T n (t.cv G true N scope) _ _ ?_ _ _ h
    exact {
      c := {
        N := rfl, nd := Sc.nd, sc := rfl
        cold := fun z => by
          have z : true = false := z
          cases z
        heat := fun _ => ⟨⟨p, rfl, rfl, hot⟩, fun x i z => ⟨L.hots x i z⟩⟩
        room := hr
        gd := hgd
        tk := L2N.takes_of rfl rfl rfl rfl
        cls := L.cls, sub := L.sub, fld := L.fld, con := L.con, blt := L.blt }
      loc := fun x hx => ⟨hx, .inl rfl⟩
      kind := Sc.kind
      cold := fun z => by
        have z : true = false := z
        cases z
      exc := L.excX rfl rfl rfl rfl rfl }
def Gx.add (G : Gx) (x : Str) (i : FnI) : Gx := { G with fn := fun y => if y = x then some i else G.fn y }
def Gx.addH (G : Gx) (x : Str) (i : FnI) : Gx := { G with hot := fun y => if y = x then some i else G.hot y }
theorem Lv.add (L : Lv P w K mg base T t G k) {x : Str} {i : FnI} (h : ∃ (f : Addr) (fd : FuncData) (ps : List Str), mg x = some (.ref f) ∧ PySem.W.keepIn K (.ref f) = true ∧ Binds K fd ps [] ∧ ps.length = i.modes.length ∧ FnG P w K mg base (k + 1) f fd ps (spG ⟨K, T, none⟩ i.modes.length i.sem)) :
    Lv P w K mg base T t (G.add x i) (k + 1) where
  fns := fun y j z => by
    unfold Gx.add at z
    dsimp only at z
    split at z
    · rename_i e
      subst e
      cases z
      exact h
    · exact (L.mono (Nat.le_succ k)).fns y j z
  hots := (L.mono (Nat.le_succ k)).hots
  cls := L.cls
  sub := L.sub
  fld := L.fld
  con := L.con
  blt := L.blt
  exc := (L.mono (Nat.le_succ k)).exc
theorem Lv.addH (L : Lv P w K mg base T t G k) {x : Str} {i : FnI} (h : ∃ (f : Addr) (fd : FuncData) (ps : List Str), mg x = some (.ref f) ∧ PySem.W.keepIn K (.ref f) = true ∧ Binds K fd ps [] ∧ ps.length = i.modes.length ∧ FnE P w K mg base (k + 1) f fd ps (fun p => spG ⟨K, T, some p⟩ i.modes.length i.sem)) :
    Lv P w K mg base T t (G.addH x i) (k + 1) where
  fns := (L.mono (Nat.le_succ k)).fns
  hots := fun y j z => by
    unfold Gx.addH at z
    dsimp only at z
    split at z
    · rename_i e
      subst e
      cases z
      exact h
    · exact (L.mono (Nat.le_succ k)).hots y j z
  cls := L.cls
  sub := L.sub
  fld := L.fld
  con := L.con
  blt := L.blt
  exc := (L.mono (Nat.le_succ k)).exc
end
end Dl

set_option maxHeartbeats 4000000
/-! DlW: the end: the law's own call. -/
namespace Dl
open PySem PySem.Spec PyProof.Rows L2
open Evl (Ex)

theorem law_end {P : Program} {w : World} {K : PySem.W.Frag} {mg mb : Str → Option Value} {k : Nat} {fa a : Addr} {fd : FuncData} {x : Str} {sp : Sp} {s1 : Shared} {us : List Value} {ns : List Int} (KX : K.In s1.heap) (hns : s1.heap.Ns mainGlobals mg) (hb : s1.heap.Ns builtinsNs mb) (hbb : ∀ y : Str, y ≠ "__name__" → mb y = bootBuiltins y)
    (hlim : s1.heap.NoLimit) (hg : s1.gens = #[]) (ha : s1.heap.get? a = some { cls := .type "list", data := .seq us.toArray }) (hi : IntsAre us ns) (hl : ns.length ≤ sizeLine) (hr : Room k callerA) (Fn : ∀ base : Heap, K.In base → base.Ns mainGlobals mg → FnG P w K mg base k fa fd [x] sp)
    (hbind : ∀ (s : Shared) (u : Value), BindsTo s fd ⟨[u], []⟩ [(x, u)]) (hsp : ∀ H : Hp, SqL K H a (ns.map V.int) → sp [.ref a] H (fun v _ => v = .bl true) fun _ _ _ => False) :
    codeAny (model P w) callerA (.call (.ref fa) ⟨[.ref a], []⟩) (fun r s' => r = .ok (.ret (.bool true)) ∧ OldK s1.heap s'.heap ∧ s'.os = s1.os ∧ AllBare s'.gens) s1 := by
  have go : ∀ H : Hp, Only H → SqL K H a (ns.map V.int) → HOk P w H s1.heap → (∀ b, H b ≠ none → b = a) → (H a ≠ none → K.lookup a = none) → codeAny (model P w) callerA (.call (.ref fa) ⟨[.ref a], []⟩) (fun r s' => r = .ok (.ret (.bool true)) ∧ OldK s1.heap s'.heap ∧ s'.os = s1.os ∧ AllBare s'.gens) s1 := by
    intro H hO hS hok hA hK
    have keep : ∀ {b : Addr} {o : Obj}, s1.heap.get? b = some o → H b = none → (hidT s1.heap H).get? b = some o := fun e n => hidT_get e n
    have noD : ∀ {b : Addr} {o : Obj} {es : Array DictEntry} {ep : Nat}, s1.heap.get? b = some o → o.data = .dict es ep → H b = none := fun {b o es ep} e d => by
      cases q : H b with
      | none => rfl
      | some u =>
        obtain rfl : b = a := hA b (by rw [q]; simp)
        rw [ha] at e
        cases e
        exact Data.noConfusion (show Data.seq us.toArray _ = Data.dict es ep from d)
    have nsK : ∀ {b : Addr} {m : Str → Option Value}, s1.heap.Ns b m → (hidT s1.heap H).Ns b m := fun {b m} ⟨o, es, ep, e, d, r⟩ => ⟨o, es, ep, keep e (noD e d), d, r⟩
    have inB : K.In (hidT s1.heap H) := fun b o e => keep (KX b o e) (by
      cases q : H b with
      | none => rfl
      | some u =>
        obtain rfl : b = a := hA b (by rw [q]; simp)
        rw [hK (by rw [q]; simp)] at e
        cases e)
    obtain ⟨mc, l1, l2⟩ := hlim
    have hM : Mod K mg (hidT s1.heap H) := ⟨inB, nsK hns, ⟨mb, nsK hb, hbb⟩, mc, nsK l1, l2⟩
    have e0 : Env0 P w K mg (hidT s1.heap H) callerA [] s1 H := ⟨rfl, hM, fun b o e => of_hidT e, Nat.le_of_eq (hidT_size _ _), trivial, fun b hb => absurd (show b ∈ ([] : List Addr) from hb) (by simp), hok, .of_eq hg⟩
    have key := (Fn _ inB (nsK hns)).run callerA [] s1 H ⟨[.ref a], []⟩ [.ref a] [.ref a] _ _ hr rfl e0 (hbind s1 (.ref a)) (.cons rfl .nil) (hsp H hS)
    refine codeAny_mono key fun r s' h => ?_
    match r, h with
    | .error e, ⟨_, _, _, _, _, _, _, _, _, _, _, _, no⟩ => exact no.elim
    | .ok .next, h => exact h.elim
    | .ok .brk, h => exact h.elim
    | .ok .cont, h => exact h.elim
    | .ok (.ret u), ⟨v, H', os, bare, un, hok', r', q⟩ =>
      have q : v = .bl true := q
      subst q
      obtain rfl : u = Value.bool true := r'
      refine ⟨rfl, OldK.of_keep fun b o e => ?_, os, bare⟩
      cases q : H b with
      | none => exact un.keep b o e q (fun z => absurd (show b ∈ ([] : List Addr) from z) (by simp)) (by simp)
      | some u =>
        rcases hO b with z | ⟨ob, xs, z⟩
        · rw [q] at z
          cases z
        · obtain ⟨e1, _⟩ := hok b _ z
          obtain ⟨e2, _⟩ := hok' b _ (un.frzs b ob _ z)
          rw [e] at e1
          cases e1
          exact e2
  have rv := vals_ints hi
  have ln := hi.length
  cases hk : K.lookup a with
  | some o =>
    have e := KX a o hk
    rw [ha] at e
    cases e
    exact go (fun _ => none) (fun _ => .inl rfl) (.inr ⟨_, us.toArray, _, hk, rfl, rfl, rfl, by rw [List.size_toArray, ln]; exact hl, by simpa using rv⟩) (fun b u z => nomatch (show (none : Option HO) = some u from z)) (fun b z => absurd rfl z) fun z => absurd rfl z
  | none =>
    let H0 : Hp := fun b => if b = a then some (.frz { cls := .type "list", data := .seq us.toArray } (.lst (ns.map V.int))) else none
    have h1 : H0 a = some (.frz { cls := .type "list", data := .seq us.toArray } (.lst (ns.map V.int))) := if_pos rfl
    have h2 : ∀ b, b ≠ a → H0 b = none := fun b hb => if_neg hb
    refine go H0 (fun b => ?_) (.inl (.inr ⟨_, h1⟩)) (fun b u z => ?_) (fun b z => ?_) fun _ => hk
    · by_cases hb : b = a
      · rw [hb]
        exact .inr ⟨_, _, h1⟩
      · exact .inl (h2 b hb)
    · by_cases hb : b = a
      · rw [hb, h1] at z
        cases z
        subst hb
        exact ⟨ha, by rw [List.length_map]; exact hl, us, _, rv, ha⟩
      · rw [h2 b hb] at z
        cases z
    · by_cases hb : b = a
      · exact hb
      · exact absurd (h2 b hb) z
theorem law_sp {K : PySem.W.Frag} {T : Nat → Value} {sem : M RV} {H : Hp} {a : Addr} {ns : List Int} (hS : SqL K H a (ns.map V.int)) (h : ∃ outs, sem [.val (.scr ns)] = some (.ok (.val (.bl true)), outs)) : spG ⟨K, T, none⟩ 1 sem [.ref a] H (fun v _ => v = .bl true) fun _ _ _ => False := by
  obtain ⟨outs, h⟩ := h
  refine ⟨rfl, fun _ => none, H, fun _ => a, [.val (.scr ns)], ⟨rfl, Ex.refl H, (fun b o z => by cases z), fun i s hs => ?_, fun i j p ⟨io, ds, hi⟩ _ _ _ => ?_⟩, ?_⟩
  · cases i with
    | zero =>
      cases hs
      exact ⟨.ref a, rfl, .scr hS⟩
    | succ i => cases hs
  · cases i with
    | zero => cases hi
    | succ i => cases hi
  · unfold Wp
    rw [h]
    intro v H' F' e p
    obtain ⟨_, p⟩ := p
    cases p
    rfl
theorem walk_G {l : PySem.W.OpenLaw} {n k : Nat} {q : Program} {loose : List Str} {XP : (Str → Option Value) → Heap → Prop} {YP : World → Heap → Prop} {d : DefRec} {K : Params → PySem.W.Frag} {T : PySem.W.Frag → Nat → Value} {sem : M RV} {x : Str} (hn : l.most = some n) (hn2 : n ≤ sizeLine) (hdf : d.params.defaults = []) (hr : Room k callerA)
    (hY : ∀ (w : World) (h : Heap), YP w h → (K w.params).In h)
    (Fn : ∀ (w : World) (mg : Str → Option Value) (fa : Addr) (h : Heap), (K w.params).In h → h.Ns mainGlobals mg → mg d.name = some (.ref fa) →
      ∃ fd : FuncData, (∀ (s : Shared) (u : Value), BindsTo s fd ⟨[u], []⟩ [(x, u)]) ∧ ∀ base : Heap, (K w.params).In base → base.Ns mainGlobals mg → FnG l.prog w (K w.params) mg base k fa fd [x] (spG ⟨K w.params, T (K w.params), none⟩ 1 sem))
    (hsem : ∀ ns : List Int, ns.length ≤ n → (∀ z ∈ ns, Builtin.Int.intBits z ≤ 1048576) → ∃ outs, sem [.val (.scr ns)] = some (.ok (.val (.bl true)), outs)) :
    PySem.W.WalkO q loose XP YP l.row.toRowW d [] (fun f vs => PySem.call f vs) := by
  refine Att.attach_callB hn hdf fun w s0 s1 mg mb fa o pm cd doc a us ns Gr Y ho hd hcd hmg hobj hints hlen hbits hg => ?_
  obtain ⟨fd, hb, hF⟩ := Fn w mg fa _ (hY w _ Y) Gr.T.g hmg
  exact law_end (hY w _ Y) Gr.T.g Gr.T.b Gr.T.builtins Gr.T.nolimit hg hobj hints (Nat.le_trans hlen hn2) hr hF hb fun H hS => law_sp hS (hsem ns hlen hbits)
end Dl

set_option maxHeartbeats 4000000
/-! DlX: the module as the top leaves it, by one check. -/
namespace Dl
open PySem PySem.Spec PyProof.Rows L2
open Evl (Ex)

section
variable (K : PySem.W.Frag)
def adr (x : Str) : Addr := match PySem.W.nsIn K mainGlobals x with
  | some (some (.ref a)) => a
  | _ => 0
def isAt (x : Str) : Bool := PySem.W.nsIn K mainGlobals x == some (some (.ref (adr K x)))
def excKb (a : Addr) : Bool :=
  (PySem.W.clsIn K a).isSome && PySem.W.findIn K (.ref a) "__getattribute__" == some (some (.builtin "BaseException.__getattribute__")) && PySem.W.findIn K (.ref a) "__getattr__" == some none && PySem.W.subIn K (.ref a) (.type "BaseException") == some true && PySem.W.hasDictIn K a &&
  PySem.W.findIn K (.ref a) "__class__" == some (some (.builtin "object.__class__")) && PySem.W.specialIn K (.builtin "object.__class__") "__get__" == some (some (.builtin "getset_descriptor.__get__")) && PySem.W.takesIn K (.builtin "object.__class__") == some true && PySem.W.mroIn K a (.type "object") == some true
def exc0b (a : Addr) : Bool := PySem.W.excIn K a [.type "ValueError", .type "Exception", .type "BaseException", .type "object"] "ValueError.__new__" && PySem.W.keepIn K (.ref a) && PySem.W.subIn K (.ref a) (.type "BaseException") == some true && PySem.W.typeIn K (.ref a) == some (.type "type")
def inib (a : Addr) : Bool := PySem.W.specialIn K (.ref a) "__getattribute__" == some (some (.builtin "type.__getattribute__")) && PySem.W.typeIn K (.ref a) == some (.type "type") && PySem.W.readsIn K a (.type "type") &&
  (match PySem.W.findCls K (.ref a) (.type "type") "__init__" with
  | some (.val (.builtin i)) => i == "ValueError.__init__"
  | _ => false)
def oexb (a : Addr) : Bool :=
  (match K.lookup a with
  | some ⟨.type "type", _, .cls cd, sl⟩ => (match cd.mro, sl.toList with
    | .ref C :: bm, [_, _, _, _, some (.builtin n), _] => C == a && n == "ValueError.__new__" && !cd.hasDel && cd.hasDict && PySem.HandSPX.refsVE bm
    | _, _ => false)
  | _ => false) &&
  PySem.W.findIn K (.ref a) "__setattr__" == some (some (.builtin "object.__setattr__")) && PySem.W.subIn K (.ref a) (.type "BaseException") == some true && PySem.W.typeIn K (.ref a) == some (.type "type") && PySem.W.keepIn K (.ref a)
end
section
variable {K : PySem.W.Frag} {a : Addr}
theorem excKb_ok (h : excKb K a = true) : ExcK K a := by
  unfold excKb at h
  simp only [Bool.and_eq_true, beq_iff_eq] at h
  obtain ⟨⟨⟨⟨⟨⟨⟨⟨h1, h2⟩, h3⟩, h4⟩, h5⟩, h6⟩, h7⟩, h8⟩, h9⟩ := h
  exact ⟨h1, h2, h3, h4, h5, h6, h7, h8, h9⟩
theorem exc0b_ok (h : exc0b K a = true) : Exc0 K a := by
  unfold exc0b at h
  simp only [Bool.and_eq_true, beq_iff_eq] at h
  obtain ⟨⟨⟨h1, h2⟩, h3⟩, h4⟩ := h
  exact ⟨⟨_, _, _, _, F.excBase_ValueError, h1⟩, h2, h3, h4⟩
theorem inib_ok (h : inib K a = true) : IniK K a := by
  unfold inib at h
  simp only [Bool.and_eq_true, beq_iff_eq] at h
  obtain ⟨⟨⟨h1, h2⟩, h3⟩, h4⟩ := h
  refine ⟨h1, h2, h3, ?_⟩
  split at h4
  · rename_i i e
    rw [e, beq_iff_eq.mp h4]
  · cases h4
theorem oexb_ok (h : oexb K a = true) : OexC K a := by
  unfold oexb at h
  simp only [Bool.and_eq_true, beq_iff_eq] at h
  obtain ⟨⟨⟨⟨h1, h2⟩, h3⟩, h4⟩, h5⟩ := h
  refine ⟨?_, h2, h3, h4, h5⟩
  split at h1
  · rename_i dd cd sl e
    split at h1
    · rename_i C bm k0 k1 k2 k3 n k5 em es
      simp only [Bool.and_eq_true, beq_iff_eq, Bool.not_eq_true'] at h1
      obtain ⟨⟨⟨⟨rfl, rfl⟩, z1⟩, z2⟩, z3⟩ := h1
      obtain ⟨nm, bs, mro, ns, qn, hd, sn, sb, ab, col, del⟩ := cd
      simp only at em z1 z2
      subst em z1 z2
      have esl : sl = #[k0, k1, k2, k3, some (.builtin "ValueError.__new__"), k5] := by
        rw [← Array.toArray_toList (xs := sl), es]
      subst esl
      exact ⟨nm, qn, ns, bs, bm, sn, sb, ab, col, dd, k0, k1, k2, k3, k5, e, z3⟩
    · cases h1
  · cases h1
end
/-- what a law's text leans on -/
structure Tab where
  cons : List (Str × D)
  clss : List Str
  bcls : List (Str × String)
  excs : List (Str × Option (List Str))
  subs : List (Nat × List Bool)
  flds : List (Nat × Str)
def Tab.names (t : Tab) : List Str := t.clss ++ t.bcls.map (·.1)
def Tab.vals (t : Tab) (K : PySem.W.Frag) : List Value := t.clss.map (fun x => .ref (adr K x)) ++ t.bcls.map fun p => .type p.2
def Tab.T (t : Tab) (K : PySem.W.Frag) : Nat → Value := fun c => (t.vals K).getD c .none
def Tab.tx (t : Tab) : Tx := ⟨fun x => t.cons.lookup x, fun x => ixOf x t.names, fun x => (t.excs.lookup x).bind fun o => (ixOf x t.clss).map fun c => (c, o)⟩
def Tab.G (t : Tab) : Gx := ⟨fun _ => none, fun _ => none, fun c c' => (t.subs.lookup c).bind fun l => l[c']?, fun c f => t.flds.any fun p => p.1 == c && p.2 == f⟩
def conOk (K : PySem.W.Frag) (p : Str × D) : Bool := match p.2 with
  | .str s => (match PySem.W.nsIn K mainGlobals p.1 with
    | some (some (.str s' _)) => s' == s
    | _ => false)
  | .int i => (match PySem.W.nsIn K mainGlobals p.1 with
    | some (some (.int i' _)) => i' == i
    | _ => false)
  | _ => false
def refOk (v : Value) (f : Addr → Bool) : Bool := match v with
  | .ref a => f a
  | _ => false
def Tab.chk (t : Tab) (K : PySem.W.Frag) : Bool :=
  t.clss.all (isAt K) && (t.bcls.all fun p => PySem.W.nsIn K mainGlobals p.1 == some none && bootBuiltins p.1 == some (.type p.2)) && (bltNames.all fun x => PySem.W.nsIn K mainGlobals x == some none) && t.cons.all (conOk K) &&
  (t.subs.all fun p => refOk (t.T K p.1) (excKb K) && (List.range p.2.length).all fun c' => PySem.W.kitOne K (t.T K p.1) (t.T K c') == p.2[c']? && PySem.W.exmOne K (t.T K p.1) (t.T K c') == p.2[c']?) &&
  (t.flds.all fun p => refOk (t.T K p.1) fun a => excKb K a && PySem.W.findIn K (.ref a) p.2 == some none) && (t.excs.all fun p => match p.2 with
    | none => exc0b K (adr K p.1)
    | some _ => oexb K (adr K p.1))
theorem lk_mem {α β : Type} [BEq α] [LawfulBEq α] : ∀ {l : List (α × β)} {a : α} {b : β}, l.lookup a = some b → (a, b) ∈ l
  | [], _, _, h => by cases h
  | (x, y) :: l, a, b, h => by
    rw [List.lookup_cons] at h
    split at h
    · rename_i e
      cases h
      rw [beq_iff_eq.mp e]
      exact List.mem_cons_self ..
    · exact List.mem_cons_of_mem _ (lk_mem h)
theorem refOk_of {v : Value} {f : Addr → Bool} (h : refOk v f = true) : ∃ a, v = .ref a ∧ f a = true := by
  unfold refOk at h
  split at h
  · exact ⟨_, rfl, h⟩
  · cases h
theorem ixOf_lt {x : Str} {l : List Str} {i : Nat} (h : ixOf x l = some i) : i < l.length := (List.getElem?_eq_some_iff.mp (ixOf_get h)).1
theorem Tab.own {t : Tab} {K : PySem.W.Frag} {x : Str} {c : Nat} (h : ixOf x t.names = some c) (hl : c < t.clss.length) : x ∈ t.clss ∧ t.T K c = .ref (adr K x) := by
  have g := ixOf_get h
  unfold Tab.names at g
  rw [List.getElem?_append_left hl] at g
  refine ⟨List.mem_of_getElem? g, ?_⟩
  unfold Tab.T Tab.vals
  rw [List.getD_eq_getElem?_getD, List.getElem?_append_left (by rw [List.length_map]; exact hl), List.getElem?_map, g]
  rfl
theorem Tab.blt {t : Tab} {K : PySem.W.Frag} {x : Str} {c : Nat} (h : ixOf x t.names = some c) (hl : ¬ c < t.clss.length) : ∃ id, (x, id) ∈ t.bcls ∧ t.T K c = .type id := by
  have g := ixOf_get h
  unfold Tab.names at g
  rw [List.getElem?_append_right (by omega), List.getElem?_map] at g
  obtain ⟨p, g1, g2⟩ := Option.map_eq_some_iff.mp g
  refine ⟨p.2, by rw [← g2]; exact List.mem_of_getElem? g1, ?_⟩
  unfold Tab.T Tab.vals
  rw [List.getD_eq_getElem?_getD, List.getElem?_append_right (by rw [List.length_map]; omega), List.length_map, List.getElem?_map, g1]
  rfl
theorem ixOf_app {x : Str} : ∀ {l r : List Str} {i : Nat}, ixOf x l = some i → ixOf x (l ++ r) = some i
  | [], _, _, h => by cases h
  | y :: l, r, i, h => by
    unfold ixOf at h
    rw [List.cons_append]
    unfold ixOf
    split at h
    · rename_i e
      rw [if_pos e]
      exact h
    · rename_i e
      rw [if_neg e]
      obtain ⟨j, h1, rfl⟩ := Option.map_eq_some_iff.mp h
      rw [ixOf_app h1]
      rfl
/-- the bottom of the chain of defs -/
theorem Lv.start {P : Program} {w : World} {K : PySem.W.Frag} {mg : Str → Option Value} {base h : Heap} {t : Tab} {k : Nat} (X : K.In h) (Gl : h.Ns mainGlobals mg) (hc : t.chk K = true)
    (hi : ∀ x ns, (x, some ns) ∈ t.excs → ∃ (j : Nat) (fI : Addr) (fd : FuncData) (ps : List Str), j + 1 ≤ k ∧ PySem.W.findIn K (.ref (adr K x)) "__init__" = some (some (.ref fI)) ∧ PySem.W.typeIn K (.ref fI) = some (.type "function") ∧ Binds K fd ps [] ∧ FnOk P w K mg base (L2N.CX P w) j fI fd ps (spInit (adr K x) ns)) :
    Lv P w K mg base (t.T K) t.tx t.G k := by
  unfold Tab.chk at hc
  simp only [Bool.and_eq_true] at hc
  obtain ⟨⟨⟨⟨⟨⟨c1, c2⟩, c3⟩, c4⟩, c5⟩, c6⟩, c7⟩ := hc
  have at1 : ∀ x ∈ t.clss, mg x = some (.ref (adr K x)) := fun x hx => PySem.W.mg_of X Gl (beq_iff_eq.mp (List.all_eq_true.mp c1 x hx))
  refine ⟨(fun x i z => nomatch z), (fun x i z => nomatch z), fun x c z => ?_, fun c c' b z => ?_, fun c f z => ?_, fun x d z => ?_, fun x hx => ?_, fun x c o z => ?_⟩
  · have z : ixOf x t.names = some c := z
    by_cases hl : c < t.clss.length
    · obtain ⟨h1, h2⟩ := Tab.own (K := K) z hl
      exact .inl ⟨_, at1 x h1, h2⟩
    · obtain ⟨id, h1, h2⟩ := Tab.blt (K := K) z hl
      have q := List.all_eq_true.mp c2 _ h1
      simp only [Bool.and_eq_true, beq_iff_eq] at q
      exact .inr ⟨PySem.W.mg_none_of X Gl q.1, id, q.2, h2⟩
  · have z : (t.subs.lookup c).bind (fun l => l[c']?) = some b := z
    obtain ⟨l, h1, h2⟩ := Option.bind_eq_some_iff.mp z
    have q := List.all_eq_true.mp c5 _ (lk_mem h1)
    simp only [Bool.and_eq_true] at q
    obtain ⟨a, e1, e2⟩ := refOk_of q.1
    have r := List.all_eq_true.mp q.2 c' (List.mem_range.mpr (List.getElem?_eq_some_iff.mp h2).1)
    simp only [Bool.and_eq_true, beq_iff_eq] at r
    rw [h2] at r
    exact ⟨r.1, r.2, a, e1, excKb_ok e2⟩
  · have z : (t.flds.any fun p => p.1 == c && p.2 == f) = true := z
    obtain ⟨p, h1, h2⟩ := List.any_eq_true.mp z
    simp only [Bool.and_eq_true, beq_iff_eq] at h2
    obtain ⟨rfl, rfl⟩ := h2
    have q := List.all_eq_true.mp c6 _ h1
    obtain ⟨a, e1, e2⟩ := refOk_of q
    simp only [Bool.and_eq_true, beq_iff_eq] at e2
    exact ⟨a, e1, excKb_ok e2.1, e2.2⟩
  · have z : t.cons.lookup x = some d := z
    have q := List.all_eq_true.mp c4 _ (lk_mem z)
    unfold conOk at q
    dsimp only at q
    split at q
    · rename_i s
      split at q
      · rename_i s' tk e
        obtain rfl := beq_iff_eq.mp q
        exact ⟨.str s', _, PySem.W.mg_of X Gl e, ⟨tk, rfl⟩, fun KK F _ => .str _⟩
      · cases q
    · rename_i s
      split at q
      · rename_i s' tk e
        obtain rfl := beq_iff_eq.mp q
        exact ⟨.int s', _, PySem.W.mg_of X Gl e, ⟨tk, rfl⟩, fun KK F _ => .int _⟩
      · cases q
    · cases q
  · exact PySem.W.mg_none_of X Gl (beq_iff_eq.mp (List.all_eq_true.mp c3 x hx))
  · have z : ((t.excs.lookup x).bind fun o => (ixOf x t.clss).map fun c => (c, o)) = some (c, o) := z
    obtain ⟨o', h1, h2⟩ := Option.bind_eq_some_iff.mp z
    obtain ⟨c', h3, h4⟩ := Option.map_eq_some_iff.mp h2
    cases h4
    have hm := lk_mem h1
    obtain ⟨m1, m2⟩ := Tab.own (K := K) (t := t) (ixOf_app h3) (ixOf_lt h3)
    have q := List.all_eq_true.mp c7 _ hm
    refine ⟨_, at1 x m1, m2, ?_⟩
    cases o with
    | none => exact exc0b_ok q
    | some ns => exact ⟨oexb_ok q, hi x ns hm⟩
/-- a def as the top leaves it -/
def DefAt (K : PySem.W.Frag) (x : Str) (st : Stmt) : Prop := ∃ (f : Addr) (oc : Value) (od : Option Addr) (kV doc pm : Value) (an : Option Addr) (cdv ct : Value) (osl : Array (Option Value)), PySem.W.nsIn K mainGlobals x = some (some (.ref f)) ∧
  K.lookup f = some ⟨oc, od, .func (PySem.W.fnOf x x (defArgs st) (defBody st) (defScope st) .none kV doc pm an cdv ct), osl⟩ ∧ PySem.W.codeIn K cdv x = true ∧ PySem.W.keepIn K (.ref f) = true
/-- the object at an address, taken apart -/
def fO (K : PySem.W.Frag) (f : Addr) : Value × Option Addr × FuncData × Array (Option Value) := match K.lookup f with
  | some ⟨oc, od, .func fd, osl⟩ => (oc, od, fd, osl)
  | _ => (.none, none, default, #[])
def fE (K : PySem.W.Frag) (x : Str) (st : Stmt) : Option Obj :=
  let z := fO K (adr K x)
  some ⟨z.1, z.2.1, .func (PySem.W.fnOf x x (defArgs st) (defBody st) (defScope st) .none z.2.2.1.kwdefaults z.2.2.1.doc z.2.2.1.pyModule z.2.2.1.annotations z.2.2.1.code z.2.2.1.closureTuple), z.2.2.2⟩
def defB (K : PySem.W.Frag) (x : Str) : Bool := isAt K x && PySem.W.codeIn K (fO K (adr K x)).2.2.1.code x && PySem.W.keepIn K (.ref (adr K x))
theorem DefAt.of {K : PySem.W.Frag} {x : Str} {st : Stmt} (h : K.lookup (adr K x) = fE K x st) (b : defB K x = true) : DefAt K x st := by
  unfold defB at b
  simp only [Bool.and_eq_true] at b
  exact ⟨_, _, _, _, _, _, _, _, _, _, beq_iff_eq.mp b.1.1, h, b.1.2, b.2⟩
/-- how its parameters are bound -/
def BindOk (x : Str) (st : Stmt) (ps : List Str) : Prop := ∀ (kV doc pm : Value) (an : Option Addr) (cdv ct : Value) (us : List Value), us.length = ps.length → bindArgs (PySem.W.fnOf x x (defArgs st) (defBody st) (defScope st) .none kV doc pm an cdv ct) ⟨us, []⟩ = pure (ps.zip us)
section
variable {P : Program} {w : World} {K : PySem.W.Frag} {mg : Str → Option Value} {base h : Heap} {T : Nat → Value} {t : Tx} {G : Gx} {k n : Nat} {x : Str} {st : Stmt} {N ps : List Str} {ss : List IS} {ms : List Bool}
theorem Lv.def_ (L : Lv P w K mg base T t G k) (X : K.In h) (Gl : h.Ns mainGlobals mg) (hd : DefAt K x st) (hb : BindOk x st ps) (Sc : FnScope N ps (defScope st)) (hl : ps.length = ms.length) (hs : cSs n (t.cv G false N (defScope st)) (defBody st) = some ss) :
    Lv P w K mg base T t (G.add x ⟨ms, defM N.length (exs G ss)⟩) (k + 1) := by
  obtain ⟨f, oc, od, kV, doc, pm, an, cdv, ct, osl, a, l, c, kp⟩ := hd
  refine L.add ⟨f, _, ps, PySem.W.mg_of X Gl a, kp, (L2.fun_mk l c kp).binds hb, hl, ?_⟩
  have z := def_cold L l c Sc hs
  rw [hl] at z
  exact z
theorem Lv.defH (L : Lv P w K mg base T t G k) (X : K.In h) (Gl : h.Ns mainGlobals mg) (hd : DefAt K x st) (hb : BindOk x st ps) (Sc : FnScope N ps (defScope st)) (hl : ps.length = ms.length) (hs : cSs n (t.cv G true N (defScope st)) (defBody st) = some ss) :
    Lv P w K mg base T t (G.addH x ⟨ms, defM N.length (exs G ss)⟩) (k + 1) := by
  obtain ⟨f, oc, od, kV, doc, pm, an, cdv, ct, osl, a, l, c, kp⟩ := hd
  refine L.addH ⟨f, _, ps, PySem.W.mg_of X Gl a, kp, (L2.fun_mk l c kp).binds hb, hl, ?_⟩
  have z := def_hot L l c Sc hs
  rw [hl] at z
  exact z
/-- the law itself -/
theorem Lv.law (hL : ∀ base : Heap, K.In base → base.Ns mainGlobals mg → Lv P w K mg base T t G k) (X : K.In h) (Gl : h.Ns mainGlobals mg) (hd : DefAt K x st) {y : Str} (hb : BindOk x st [y]) (Sc : FnScope N [y] (defScope st)) (hs : cSs n (t.cv G false N (defScope st)) (defBody st) = some ss) {fa : Addr} (hfa : mg x = some (.ref fa)) :
    ∃ fd : FuncData, (∀ (s : Shared) (u : Value), BindsTo s fd ⟨[u], []⟩ [(y, u)]) ∧ ∀ base : Heap, K.In base → base.Ns mainGlobals mg → FnG P w K mg base (k + 1) fa fd [y] (spG ⟨K, T, none⟩ 1 (defM N.length (exs G ss))) := by
  obtain ⟨f, oc, od, kV, doc, pm, an, cdv, ct, osl, a, l, c, kp⟩ := hd
  have e := hfa.symm.trans (PySem.W.mg_of X Gl a)
  cases e
  exact ⟨_, fun s u => .of_eq (hb kV doc pm an cdv ct [u] rfl), fun base hB hM => def_cold (hL base hB hM) l c Sc hs⟩
end
end Dl

set_option maxHeartbeats 4000000
/-! DlY: running the words, step by step. -/
namespace Dl
open PySem PySem.Spec PyProof.Rows L2
open Evl (Ex)

section
variable {G : Gx} {env env1 env2 env3 : Envs} {s : IS} {ss : List IS} {a b c x y : IX} {i j : Nat} {r r' : RV} {d d' dx dy : D} {e : Exn}
theorem bind_at {α β : Type} {m : M α} {f : α → M β} {v : α} (h : m env = some (.ok v, env1)) : m.bind f env = f v env1 := by
  unfold M.bind
  rw [h]
theorem bind_er {α β : Type} {m : M α} {f : α → M β} (h : m env = some (.error e, env1)) : m.bind f env = some (.error e, env1) := by
  unfold M.bind
  rw [h]
theorem exs_next (h : ex G s env = some (.ok .next, env1)) : exs G (s :: ss) env = exs G ss env1 := by
  show ((ex G s).bind fun fl => _) env = _
  rw [bind_at h]
theorem exs_ret (h : ex G s env = some (.ok (.ret r), env1)) : exs G (s :: ss) env = some (.ok (.ret r), env1) := by
  show ((ex G s).bind fun fl => _) env = _
  rw [bind_at h]
  rfl
theorem exs_er (h : ex G s env = some (.error e, env1)) : exs G (s :: ss) env = some (.error e, env1) := bind_er h
theorem ex_if {t : IT} {k : Bool} {p q : List IS} (h : evT G t env = some (.ok k, env1)) : ex G (.ifs t p q) env = if k = true then exs G p env1 else exs G q env1 := by
  show ((evT G t).bind fun k => if k then exs G p else exs G q) env = _
  rw [bind_at h]
  cases k <;> rfl
theorem if_yes {t : IT} {p q : List IS} (h : evT G t env = some (.ok true, env1)) : ex G (.ifs t p q) env = exs G p env1 := ex_if h
theorem if_no {t : IT} {p q : List IS} (h : evT G t env = some (.ok false, env1)) : ex G (.ifs t p q) env = exs G q env1 := ex_if h
theorem ex_asg (h : ev G x env = some (.ok r, env1)) : ex G (.asg i x) env = some (.ok .next, env1.set i r.slot) := by
  show ((ev G x).bind fun r => _) env = _
  rw [bind_at h]
  rfl
theorem ex_ret (h : evR x (ev G x) env = some (.ok r, env1)) : ex G (.ret x) env = some (.ok (.ret r), env1) := by
  show ((evR x (ev G x)).bind fun r => _) env = _
  rw [bind_at h]
  rfl
theorem ex_expr (h : ev G x env = some (.ok r, env1)) : ex G (.expr x) env = some (.ok .next, env1) := by
  show ((ev G x).bind fun r => _) env = _
  rw [bind_at h]
  rfl
theorem data_at (h : ev G x env = some (.ok r, env1)) : dataM (ev G x) env = some (.ok r.d, env1) := bind_at h
theorem ex_app {io : Bool} {ds : List D} (h0 : isOwnB env[i]? = true) (h : dataM (ev G x) env = some (.ok d, env1)) (h1 : env1[i]? = some (.own io ds)) (hl : ds.length < LIM) : ex G (.app i x) env = some (.ok .next, env1.set i (.own io (ds ++ [d]))) := by
  have ho : ownM i env = some (.ok (), env) := by
    unfold ownM
    cases hq : env[i]? with
    | none => rw [hq] at h0; cases h0
    | some s =>
      rw [hq] at h0
      cases s <;> first | rfl | cases h0
  show ((ownM i).bind fun _ => (dataM (ev G x)).bind fun d => (appM i d).bind fun _ => M.ret Flow'.next) env = _
  rw [bind_at ho, bind_at h]
  have ha : appM i d env1 = some (.ok (), env1.set i (.own io (ds ++ [d]))) := by
    unfold appM
    simp only [h1, if_pos hl]
  rw [bind_at ha]
  rfl
theorem ex_seti {io : Bool} {ds : List D} {n : Int} {m : Nat} {k : IX} (h : dataM (ev G x) env = some (.ok d, env1)) (h0 : isOwnB env1[i]? = true) (hk : dataM (ev G k) env1 = some (.ok (.int n), env2)) (h1 : env2[i]? = some (.own io ds)) (hn : ixN ds.length n = some m) :
    ex G (.seti i k x) env = some (.ok .next, env2.set i (.own io (ds.set m d))) := by
  have ho : ownM i env1 = some (.ok (), env1) := by
    unfold ownM
    cases hq : env1[i]? with
    | none => rw [hq] at h0; cases h0
    | some s =>
      rw [hq] at h0
      cases s <;> first | rfl | cases h0
  show ((dataM (ev G x)).bind fun d => (ownM i).bind fun _ => (dataM (ev G k)).bind fun n => (setiM i n d).bind fun _ => M.ret Flow'.next) env = _
  rw [bind_at h, bind_at ho, bind_at hk]
  have hs : setiM i (.int n) d env2 = some (.ok (), env2.set i (.own io (ds.set m d))) := by
    unfold setiM
    simp only [h1, hn]
  rw [bind_at hs]
  rfl
theorem ex_par {p q : D} (h1 : dataM (ev G a) env = some (.ok p, env1)) (h2 : dataM (ev G b) env1 = some (.ok q, env2)) : ex G (.par i j a b) env = some (.ok .next, (env2.set i (.val p)).set j (.val q)) := by
  have hd : evD G [a, b] env = some (.ok [p, q], env2) := by
    show ((dataM (ev G a)).bind fun d => (evD G [b]).bind fun ds => M.ret (d :: ds)) env = _
    rw [bind_at h1]
    have : evD G [b] env1 = some (.ok [q], env2) := by
      show ((dataM (ev G b)).bind fun d => (evD G []).bind fun ds => M.ret (d :: ds)) env1 = _
      rw [bind_at h2]
      rfl
    rw [bind_at this]
    rfl
  show ((evD G [a, b]).bind fun ds => _) env = _
  rw [bind_at hd]
  rfl
theorem ex_for {t : ITg} {k : ItK} {its : List IX} {body : List IS} {ds l : List D} (h : evD G its env = some (.ok ds, env1)) (hi : items k ds = some l) : ex G (.fors t k its body) env = loopM (fun d => (setTg t d).bind fun _ => exs G body) l env1 := by
  show ((evD G its).bind fun ds => _) env = _
  rw [bind_at h, hi]
  rfl
theorem evD_1 (h : dataM (ev G x) env = some (.ok d, env1)) : evD G [x] env = some (.ok [d], env1) := by
  show ((dataM (ev G x)).bind fun d => (evD G []).bind fun ds => M.ret (d :: ds)) env = _
  rw [bind_at h]
  rfl
theorem evD_c {ds : List D} {xs : List IX} (h : dataM (ev G x) env = some (.ok d, env1)) (hr : evD G xs env1 = some (.ok ds, env2)) : evD G (x :: xs) env = some (.ok (d :: ds), env2) := by
  show ((dataM (ev G x)).bind fun d => (evD G xs).bind fun ds => M.ret (d :: ds)) env = _
  rw [bind_at h, bind_at hr]
  rfl
/-! operands -/
def isVar : IX → Bool
  | .var _ => true
  | _ => false
theorem opd_of (hv : isVar x = false) (h : ev G x env = some (.ok r, env1)) : opd x (ev G x) env = some (.ok (.val r.d), env1) := by
  have e : opd x (ev G x) = (ev G x).bind fun r => M.ret (.val r.d) := by cases x <;> first | rfl | cases hv
  rw [e]
  exact bind_at h
theorem ev_op {o : Op2} {ox oy : Opd} (hx : opd x (ev G x) env = some (.ok ox, env1)) (hy : opd y (ev G y) env1 = some (.ok oy, env2)) (h1 : res env2 ox = some dx) (h2 : res env2 oy = some dy) (ho : op2 o dx dy = some r) : ev G (.op o x y) env = some (.ok r, env2) := by
  show ((opd x (ev G x)).bind fun oa => _) env = _
  rw [bind_at hx, bind_at hy]
  have e1 : resM ox env2 = some (.ok dx, env2) := by unfold resM; rw [h1]
  have e2 : resM oy env2 = some (.ok dy, env2) := by unfold resM; rw [h2]
  rw [bind_at e1, bind_at e2, ho]
  rfl
theorem evT_tru {o : Opd} {k : Bool} (hx : opd x (ev G x) env = some (.ok o, env1)) (h1 : res env1 o = some dx) (ht : truth dx = some k) : evT G (.tru x) env = some (.ok k, env1) := by
  show ((opd x (ev G x)).bind fun oa => _) env = _
  rw [bind_at hx]
  have e1 : resM o env1 = some (.ok dx, env1) := by unfold resM; rw [h1]
  rw [bind_at e1, ht]
  rfl
theorem evT_bl {k : Bool} (hv : isVar x = false) (h : ev G x env = some (.ok (.val (.bl k)), env1)) : evT G (.tru x) env = some (.ok k, env1) := evT_tru (opd_of hv h) rfl rfl
theorem evT_not {t : IT} {k : Bool} (h : evT G t env = some (.ok k, env1)) : evT G (.not t) env = some (.ok (!k), env1) := bind_at h
theorem evT_and {t u : IT} {k l : Bool} (h : evT G t env = some (.ok k, env1)) (h2 : k = true → evT G u env1 = some (.ok l, env2)) (he : k = false → env2 = env1) : evT G (.and t u) env = some (.ok (k && l), env2) := by
  show ((evT G t).bind fun k => if k then evT G u else M.ret false) env = _
  rw [bind_at h]
  cases k with
  | true => exact h2 rfl
  | false => rw [he rfl]; rfl
theorem evT_or {t u : IT} {k l : Bool} (h : evT G t env = some (.ok k, env1)) (h2 : k = false → evT G u env1 = some (.ok l, env2)) (he : k = true → env2 = env1) : evT G (.or t u) env = some (.ok (k || l), env2) := by
  show ((evT G t).bind fun k => if k then M.ret true else evT G u) env = _
  rw [bind_at h]
  cases k with
  | false => exact h2 rfl
  | true => rw [he rfl]; rfl
theorem ev_and {k l : Bool} (h : ev G x env = some (.ok (.val (.bl k)), env1)) (h2 : k = true → ev G y env1 = some (.ok (.val (.bl l)), env2)) (he : k = false → env2 = env1) : ev G (.and x y) env = some (.ok (.val (.bl (k && l))), env2) := by
  show ((ev G x).bind fun r => _) env = _
  rw [bind_at h]
  cases k with
  | true => exact h2 rfl
  | false => rw [he rfl]; rfl
theorem ev_ite {t : IT} {k : Bool} (h : evT G t env = some (.ok k, env1)) : ev G (.ite t x y) env = if k = true then ev G x env1 else ev G y env1 := by
  show ((evT G t).bind fun k => if k then ev G x else ev G y) env = _
  rw [bind_at h]
  cases k <;> rfl
/-! built-ins, methods, displays -/
theorem evA_1 {o : Opd} (h : opd x (ev G x) env = some (.ok o, env1)) : evA G [x] env = some (.ok [o], env1) := by
  show ((opd x (ev G x)).bind fun o => (evA G []).bind fun os => M.ret (o :: os)) env = _
  rw [bind_at h]
  rfl
theorem evA_c {o : Opd} {os : List Opd} {xs : List IX} (h : opd x (ev G x) env = some (.ok o, env1)) (hr : evA G xs env1 = some (.ok os, env2)) : evA G (x :: xs) env = some (.ok (o :: os), env2) := by
  show ((opd x (ev G x)).bind fun o => (evA G xs).bind fun os => M.ret (o :: os)) env = _
  rw [bind_at h, bind_at hr]
  rfl
theorem ev_bi {f : Bi} {os : List Opd} {ds : List D} {xs : List IX} (h : evA G xs env = some (.ok os, env1)) (h1 : resAll env1 os = some ds) (h2 : bi f ds = some r) : ev G (.bi f xs) env = some (.ok r, env1) := by
  show ((evA G xs).bind fun os => _) env = _
  rw [bind_at h]
  have e1 : resAllM os env1 = some (.ok ds, env1) := by unfold resAllM; rw [h1]
  rw [bind_at e1, h2]
  rfl
theorem ev_meth {m : Me} {t : Str} {os : List Opd} {ds : List D} {xs : List IX} (ho : dataM (ev G x) env = some (.ok (.str t), env1)) (h : evA G xs env1 = some (.ok os, env2)) (h1 : resAll env2 os = some ds) (h2 : meth m (.str t) ds = some r) : ev G (.meth m x xs) env = some (.ok r, env2) := by
  show ((dataM (ev G x)).bind fun d => _) env = _
  rw [bind_at ho]
  show ((evA G xs).bind fun os => _) env1 = _
  rw [bind_at h]
  have e1 : resAllM os env2 = some (.ok ds, env2) := by unfold resAllM; rw [h1]
  rw [bind_at e1, h2]
  rfl
theorem ev_lst {ds : List D} {xs : List IX} (h : evD G xs env = some (.ok ds, env1)) : ev G (.lst xs) env = some (.ok (.new ds), env1) := by
  show ((evD G xs).bind fun ds => _) env = _
  rw [bind_at h]
  rfl
theorem ev_tup {ds : List D} {xs : List IX} (h : evD G xs env = some (.ok ds, env1)) : ev G (.tup xs) env = some (.ok (.val (.tup ds)), env1) := by
  show ((evD G xs).bind fun ds => _) env = _
  rw [bind_at h]
  rfl
theorem ev_slice {lo hi : Option IX} {l u : Option Int} {o : Opd} (hx : opd x (ev G x) env = some (.ok o, env1)) (hl : evP G lo env1 = some (.ok l, env2)) (hu : evP G hi env2 = some (.ok u, env3)) (h1 : res env3 o = some dx) (hc : cutO dx l u = some r) : ev G (.slice x lo hi) env = some (.ok r, env3) := by
  show ((opd x (ev G x)).bind fun oa => _) env = _
  rw [bind_at hx, bind_at hl, bind_at hu]
  have e1 : resM o env3 = some (.ok dx, env3) := by unfold resM; rw [h1]
  rw [bind_at e1, hc]
  rfl
/-! calls -/
theorem ev_call {f : Str} {fi : FnI} {xs : List IX} {os : List Opd} {as outs : List Slot} {org : List (Option (Nat × Bool))} {q : Except Exn RV} (hG : G.fn f = some fi) (ha : evA G xs env = some (.ok os, env1)) (hb : bindA fi.modes os env1 = some (as, org, env2)) (hs : fi.sem as = some (q, outs)) :
    ev G (.call f xs) env = some (q, back org outs env2) := by
  show ((evA G xs).bind fun os => _) env = _
  rw [bind_at ha, hG]
  show callM fi os env1 = _
  unfold callM
  rw [hb]
  dsimp only
  rw [hs]
theorem ev_hcall {f : Str} {fi : FnI} {xs : List IX} {os : List Opd} {as outs : List Slot} {org : List (Option (Nat × Bool))} {q : Except Exn RV} (hG : G.hot f = some fi) (ha : evA G xs env = some (.ok os, env1)) (hb : bindA fi.modes os env1 = some (as, org, env2)) (hs : fi.sem as = some (q, outs)) :
    ev G (.hcall f xs) env = some (q, back org outs env2) := by
  show ((evA G xs).bind fun os => _) env = _
  rw [bind_at ha, hG]
  show callM fi os env1 = _
  unfold callM
  rw [hb]
  dsimp only
  rw [hs]
theorem defM_ret {n : Nat} {body : M Flow'} {as : List Slot} (h : body (as ++ List.replicate (n - as.length) .un) = some (.ok (.ret r), env1)) : defM n body as = some (.ok r, outsOf as env1) := by
  unfold defM
  rw [h]
theorem defM_er {n : Nat} {body : M Flow'} {as : List Slot} (h : body (as ++ List.replicate (n - as.length) .un) = some (.error e, env1)) : defM n body as = some (.error e, outsOf as env1) := by
  unfold defM
  rw [h]
/-! comprehensions -/
theorem ev_comp {tg : ITg} {k : ItK} {its : List IX} {t : Option IT} {vs : List Nat} {ds l r : List D} (h : evD G its env = some (.ok ds, env1)) (hi : items k ds = some l) (hl : l.length ≤ 1000000) (hv : vs.any (fun v => isOwnB env1[v]?) = false) (ht : turns vs (turnM G tg t x) l (wipeE env1 vs) = some (r, env2)) :
    ev G (.comp tg k its t x vs) env = some (.ok (.new r), restore env1 env2 vs) := by
  show ((evD G its).bind fun ds => _) env = _
  rw [bind_at h, hi]
  show compM vs (turnM G tg t x) l env1 = _
  unfold compM
  rw [hv, decide_eq_false (by omega)]
  simp only [Bool.or_self, Bool.false_eq_true, if_false, ht]
theorem turns_pure {vs : List Nat} {f : D → M (Option D)} {g : D → Option D} : ∀ {l : List D}, (∀ d ∈ l, ∃ env', f d env = some (.ok (g d), env') ∧ wipeE env' vs = env) → turns vs f l env = some (l.filterMap g, env)
  | [], _ => rfl
  | d :: l, h => by
    obtain ⟨env', h1, h2⟩ := h d (List.mem_cons_self ..)
    unfold turns
    rw [h1]
    dsimp only
    rw [h2, turns_pure (l := l) fun d hd => h d (List.mem_cons_of_mem _ hd)]
    rw [List.filterMap_cons]
    cases g d <;> rfl
theorem turns_inv {vs : List Nat} {f : D → M (Option D)} {P : Nat → Envs → Prop} {Q : D → Prop} {k : Nat} : ∀ {l : List D} {n : Nat} {env : Envs}, P n env → (∀ d ∈ l, ∀ m env, m ≤ n + k * l.length → P m env → ∃ x env', f d env = some (.ok (some x), env') ∧ Q x ∧ P (m + k) (wipeE env' vs)) →
    ∃ r env', turns vs f l env = some (r, env') ∧ r.length = l.length ∧ (∀ x ∈ r, Q x) ∧ P (n + k * l.length) env'
  | [], n, env, p, _ => ⟨[], env, rfl, rfl, fun x h => (by cases h), p⟩
  | d :: l, n, env, p, h => by
    obtain ⟨x, env1, h1, q1, p1⟩ := h d (List.mem_cons_self ..) n env (by omega) p
    have e : n + k + k * l.length = n + k * (d :: l).length := by rw [List.length_cons, Nat.mul_succ]; omega
    obtain ⟨r, env2, h2, h3, h4, p2⟩ := turns_inv (l := l) p1 fun d' hd m env' hm pm => h d' (List.mem_cons_of_mem _ hd) m env' (by omega) pm
    refine ⟨x :: r, env2, ?_, congrArg (· + 1) h3, fun y hy => ?_, by rw [← e]; exact p2⟩
    · unfold turns
      rw [h1]
      dsimp only
      rw [h2]
    · rcases List.mem_cons.mp hy with rfl | hy
      · exact q1
      · exact h4 y hy
theorem turns_map {α : Type} {vs : List Nat} {f : D → M (Option D)} {m : α → D} {g : α → Option D} : ∀ {xs : List α}, (∀ x ∈ xs, ∃ env', f (m x) env = some (.ok (g x), env') ∧ wipeE env' vs = env) → turns vs f (xs.map m) env = some (xs.filterMap g, env)
  | [], _ => rfl
  | x :: l, h => by
    obtain ⟨env', h1, h2⟩ := h x (List.mem_cons_self ..)
    rw [List.map_cons]
    unfold turns
    rw [h1]
    dsimp only
    rw [h2, turns_map (xs := l) fun d hd => h d (List.mem_cons_of_mem _ hd)]
    rw [List.filterMap_cons]
    cases g x <;> rfl
theorem fm_some {α β : Type} (p : α → β) : ∀ l : List α, l.filterMap (fun x => some (p x)) = l.map p
  | [] => rfl
  | x :: l => by
    rw [List.filterMap_cons, fm_some p l]
    rfl
theorem bools_map {α : Type} (p : α → Bool) : ∀ l : List α, boolsOf (l.map fun x => D.bl (p x)) = some (l.map p)
  | [] => rfl
  | x :: l => by
    show (boolsOf (l.map fun x => D.bl (p x))).map (p x :: ·) = _
    rw [bools_map p l]
    rfl
theorem strs_map (l : List Str) : strsOf (l.map D.str) = some l := by
  induction l with
  | nil => rfl
  | cons x l ih =>
    show (strsOf (l.map D.str)).map (x :: ·) = _
    rw [ih]
    rfl
theorem all_map {α : Type} (p : α → Bool) (l : List α) : (l.map p).all id = l.all p := by rw [List.all_map]; rfl
theorem ev_chain {o1 o2 : Op2} {dz : D} {k l : Bool} (h1 : dataM (ev G a) env = some (.ok dx, env1)) (h2 : dataM (ev G b) env1 = some (.ok dy, env2)) (h3 : op2 o1 dx dy = some (.val (.bl k))) (h4 : k = true → dataM (ev G c) env2 = some (.ok dz, env3)) (h5 : op2 o2 dy dz = some (.val (.bl l))) (he : k = false → env3 = env2) :
    ev G (.chain o1 o2 a b c) env = some (.ok (.val (.bl (k && l))), env3) := by
  show ((dataM (ev G a)).bind fun x => _) env = _
  rw [bind_at h1, bind_at h2, h3]
  cases k with
  | true =>
    show ((dataM (ev G c)).bind fun z => M.ofOpt (op2 o2 dy z)) env2 = _
    rw [bind_at (h4 rfl), h5]
    rfl
  | false => rw [he rfl]; rfl
theorem idx_tup {ds : List D} {n : Nat} (h : ds[n]? = some d) : op2 .idx (.tup ds) (.int (n : Int)) = some (.val d) := by
  show (atI ds (n : Int)).map RV.val = _
  rw [atI_nat h]
  rfl
theorem idx_lst {ds : List D} {n : Nat} (h : ds[n]? = some d) : op2 .idx (.lst ds) (.int (n : Int)) = some (.val d) := by
  show (atI ds (n : Int)).map RV.val = _
  rw [atI_nat h]
  rfl
theorem idx_scr {ns : List Int} {n : Nat} {z : Int} (h : ns[n]? = some z) : op2 .idx (.scr ns) (.int (n : Int)) = some (.val (.int z)) := by
  show (atI ns (n : Int)).map (fun n => RV.val (.int n)) = _
  rw [atI_nat h]
  rfl
theorem ex_try_ok {body su : List IS} {c : Nat} {fl : Flow'} (h : exs G body env = some (.ok fl, env1)) : ex G (.tryE body i c su) env = some (.ok fl, env1) := by
  show (match exs G body env with
    | some (.error x, env') => _
    | r => r) = _
  rw [h]
theorem ex_try_er {body su : List IS} {c : Nat} {fl : Flow'} (h : exs G body env = some (.error e, env1)) (hs : G.sub e.c c = some true) (h2 : exs G su (env1.set i (.exn e)) = some (.ok fl, env2)) : ex G (.tryE body i c su) env = some (.ok fl, noExn (env2.set i .un)) := by
  unfold ex
  rw [h]
  dsimp only
  rw [hs]
  dsimp only
  rw [h2]
/-! loops -/
theorem loop_nil {f : D → M Flow'} : loopM f [] env = some (.ok .next, env) := rfl
theorem loop_next {f : D → M Flow'} {ds : List D} (h : f d env = some (.ok .next, env1)) : loopM f (d :: ds) env = loopM f ds env1 := by
  show ((f d).bind fun fl => _) env = _
  rw [bind_at h]
theorem loop_ret {f : D → M Flow'} {ds : List D} (h : f d env = some (.ok (.ret r), env1)) : loopM f (d :: ds) env = some (.ok (.ret r), env1) := by
  show ((f d).bind fun fl => _) env = _
  rw [bind_at h]
  rfl
theorem loop_er {f : D → M Flow'} {ds : List D} (h : f d env = some (.error e, env1)) : loopM f (d :: ds) env = some (.error e, env1) := bind_er h
theorem loop_inv {f : D → M Flow'} {P : Nat → Envs → Prop} {k : Nat} : ∀ {l : List D} {n : Nat} {env : Envs}, P n env → (∀ d ∈ l, ∀ m env, m ≤ n + k * l.length → P m env → ∃ env', f d env = some (.ok .next, env') ∧ P (m + k) env') → ∃ env', loopM f l env = some (.ok .next, env') ∧ P (n + k * l.length) env'
  | [], n, env, p, _ => ⟨env, rfl, p⟩
  | d :: l, n, env, p, h => by
    obtain ⟨env1, h1, p1⟩ := h d (List.mem_cons_self ..) n env (by omega) p
    have e : n + k + k * l.length = n + k * (d :: l).length := by rw [List.length_cons, Nat.mul_succ]; omega
    obtain ⟨env2, h2, p2⟩ := loop_inv (l := l) p1 fun d' hd m env' hm pm => h d' (List.mem_cons_of_mem _ hd) m env' (by omega) pm
    exact ⟨env2, by rw [loop_next h1]; exact h2, by rw [← e]; exact p2⟩
end
end Dl

set_option maxHeartbeats 4000000
/-! DlZ: plain facts of texts and of what is printed. -/
namespace Dl
open PySem PySem.Spec PyProof.Rows L2 TL
open Evl (Ex)

/-! ### cutting at one sign -/
def cut1 (s : Nat) : List Nat → List Nat → List (List Nat)
  | acc, [] => [acc]
  | acc, c :: r => if c = s then acc :: cut1 s [] r else cut1 s (acc ++ [c]) r
theorem spl_cut (s : Nat) : ∀ (l acc : List Nat), spl [s] 0 acc l = cut1 s acc l
  | [], acc => spl_nil _ _ _
  | c :: r, acc => by
    unfold cut1
    by_cases h : c = s
    · subst h
      rw [if_pos rfl, spl_hit (by simp [pre]), ← spl_cut c r []]
      rfl
    · rw [if_neg h, spl_miss (by simp [pre, h]), spl_cut s r (acc ++ [c])]
theorem cut1_ne (s : Nat) : ∀ (l acc : List Nat), cut1 s acc l ≠ []
  | [], acc => by simp [cut1]
  | c :: r, acc => by
    unfold cut1
    split
    · simp
    · exact cut1_ne s r _
theorem cut1_mem (s : Nat) : ∀ (l acc p : List Nat), p ∈ cut1 s acc l → ∀ c ∈ p, c ∈ acc ∨ c ∈ l
  | [], acc, p, h, c, hc => by
    have e : p = acc := by simpa [cut1] using h
    rw [e] at hc
    exact .inl hc
  | x :: r, acc, p, h, c, hc => by
    unfold cut1 at h
    split at h
    · rcases List.mem_cons.mp h with e | h
      · rw [e] at hc
        exact .inl hc
      · rcases cut1_mem s r [] p h c hc with z | z
        · cases z
        · exact .inr (List.mem_cons_of_mem _ z)
    · rcases cut1_mem s r _ p h c hc with z | z
      · rcases List.mem_append.mp z with z | z
        · exact .inl z
        · rw [List.mem_singleton.mp z]
          exact .inr (List.mem_cons_self ..)
      · exact .inr (List.mem_cons_of_mem _ z)
theorem cut1_sum (s : Nat) : ∀ (l acc : List Nat), ((cut1 s acc l).map (·.length)).sum + (cut1 s acc l).length = acc.length + l.length + 1
  | [], acc => by simp [cut1]
  | c :: r, acc => by
    unfold cut1
    split
    · have z := cut1_sum s r []
      simp only [List.map_cons, List.sum_cons, List.length_cons, List.length_nil] at z ⊢
      omega
    · have z := cut1_sum s r (acc ++ [c])
      rw [z, List.length_append, List.length_cons, List.length_cons, List.length_nil]
      omega
/-- a text of one sign -/
def Sep (y : Str) (s : Nat) : Prop := tl y = [s] ∧ s < 256
theorem Sep.k {y : Str} {s : Nat} (h : Sep y s) : y.cps.all (· < 256) = true := by
  rw [← Array.all_toList]
  rw [show y.cps.toList = [s] from h.1]
  simp [h.2]
theorem split_cut {x y : Str} {s : Nat} (h : Sep y s) : (Txt.split x y).map tl = cut1 s [] (tl x) := by
  rw [split_spl x y (by rw [h.1]; simp) (kind_ok h.k), h.1, spl_cut]
theorem split_ne {x y : Str} {s : Nat} (h : Sep y s) : Txt.split x y ≠ [] := fun z => by
  have e := split_cut (x := x) h
  rw [z] at e
  exact cut1_ne _ _ _ e.symm
theorem split_mem {x y : Str} {s : Nat} (h : Sep y s) {p : Str} (hp : p ∈ Txt.split x y) {c : Nat} (hc : c ∈ tl p) : c ∈ tl x := by
  have hm : tl p ∈ cut1 s [] (tl x) := by
    rw [← split_cut h]
    exact List.mem_map.mpr ⟨p, hp, rfl⟩
  rcases cut1_mem s _ _ _ hm c hc with z | z
  · cases z
  · exact z
theorem split_sum {x y : Str} {s : Nat} (h : Sep y s) : ((Txt.split x y).map (·.length)).sum + (Txt.split x y).length = x.length + 1 := by
  have e := cut1_sum s (tl x) []
  rw [← split_cut h] at e
  rw [List.map_map, List.length_map, List.length_nil, Nat.zero_add, ← len_tl] at e
  have e2 : (List.length ∘ tl) = (fun p : Str => p.length) := funext fun p => (len_tl p).symm
  rw [e2] at e
  exact e
theorem sum_mem {l : List Nat} {n : Nat} (h : n ∈ l) : n ≤ l.sum := by
  induction l with
  | nil => cases h
  | cons a l ih =>
    rw [List.sum_cons]
    rcases List.mem_cons.mp h with e | h
    · omega
    · have := ih h
      omega
theorem split_len {x y : Str} {s : Nat} (h : Sep y s) {p : Str} (hp : p ∈ Txt.split x y) : p.length ≤ x.length := by
  have e := split_sum (x := x) h
  have m : p.length ≤ ((Txt.split x y).map (·.length)).sum := sum_mem (List.mem_map.mpr ⟨p, hp, rfl⟩)
  have n : 0 < (Txt.split x y).length := List.length_pos_iff.mpr (split_ne h)
  omega
theorem join_len (y : Str) : ∀ parts : List Str, (Txt.join y parts).length ≤ (parts.map (·.length)).sum + parts.length * y.length
  | [] => by rw [join_eq]; exact Nat.zero_le _
  | [p] => by
    rw [join_eq]
    show p.length ≤ _
    simp
  | p :: q :: r => by
    have ih := join_len y (q :: r)
    rw [join_eq] at ih ⊢
    show (p ++ y ++ Str.join y (q :: r)).length ≤ _
    rw [len_tl, tl_append, tl_append, List.length_append, List.length_append, ← len_tl, ← len_tl, ← len_tl, List.map_cons, List.sum_cons, List.length_cons (a := p), Nat.succ_mul]
    omega
/-! ### signs that stand -/
def Plain (x : Str) : Prop := ∀ c ∈ tl x, c < 0x110000
theorem Plain.ok {x : Str} (h : Plain x) : PyData.strOk x = true := by
  unfold PyData.strOk
  rw [← Array.all_toList, List.all_eq_true]
  exact fun c hc => decide_eq_true (h c hc)
theorem Plain.app {x y : Str} (h : Plain x) (k : Plain y) : Plain (x ++ y) := fun c hc => by
  rw [tl_append] at hc
  exact (List.mem_append.mp hc).elim (h c) (k c)
theorem Plain.split {x y p : Str} {s : Nat} (h : Plain x) (hs : Sep y s) (hp : p ∈ Txt.split x y) : Plain p := fun c hc => h c (split_mem hs hp hc)
theorem Plain.join {y : Str} (hy : Plain y) : ∀ {parts : List Str}, (∀ p ∈ parts, Plain p) → Plain (Txt.join y parts)
  | [], _ => by rw [join_eq]; exact fun c hc => by cases hc
  | [p], h => by rw [join_eq]; exact h p (List.mem_singleton.mpr rfl)
  | p :: q :: r, h => by
    have ih := Plain.join hy (parts := q :: r) fun z hz => h z (List.mem_cons_of_mem _ hz)
    rw [join_eq] at ih ⊢
    exact ((h p (List.mem_cons_self ..)).app hy).app ih
theorem Plain.cut {x : Str} (h : Plain x) (lo hi : Option Int) : Plain (cutS x lo hi) := fun c hc => h c (List.mem_of_mem_drop (List.mem_of_mem_take hc))
theorem cut_len (x : Str) (lo hi : Option Int) : (cutS x lo hi).length ≤ x.length := by
  rw [len_tl, len_tl x]
  show (List.take _ (List.drop _ (tl x))).length ≤ _
  rw [List.length_take, List.length_drop]
  omega
theorem app_len (x y : Str) : (x ++ y).length = x.length + y.length := by rw [len_tl, tl_append, List.length_append, ← len_tl, ← len_tl]
/-! ### strip -/
theorem strip_empty {x y : Str} : Txt.stripChars x y = ⟨#[]⟩ ↔ ∀ c ∈ tl x, c ∈ tl y := by
  have con : ∀ c, y.cps.contains c = true ↔ c ∈ tl y := fun c => by
    rw [Array.contains_iff_mem]
    exact Array.mem_toList_iff.symm
  have key : Txt.stripChars x y = ⟨#[]⟩ ↔ (tl (Txt.stripChars x y)) = [] := ⟨fun e => by rw [e], fun e => ext_tl e⟩
  rw [key]
  unfold Txt.stripChars
  rw [stripBy_eq, tl_strSub]
  obtain ⟨h1, h2, h3⟩ := lo_facts y.cps.contains x
  obtain ⟨k1, k2, k3, k4⟩ := hi_facts y.cps.contains x _ h1
  generalize stripLo y.cps.contains true x = lo at *
  generalize stripHi y.cps.contains true x lo = hi at *
  have lx := len_tl x
  have at' : ∀ k, k < x.length → x.cps.getD k 0 ∈ tl x := fun k hk => by
    rw [← getD_list]
    have hk2 : k < (tl x).length := by rw [← lx]; exact hk
    rw [List.getD_eq_getElem?_getD, List.getElem?_eq_getElem hk2]
    exact List.getElem_mem hk2
  constructor
  · intro e
    have e2 : hi = lo := by
      have := congrArg List.length e
      rw [List.length_take, List.length_drop, List.length_nil, ← lx] at this
      omega
    have e3 : lo = x.length := by
      rcases h3 with z | z
      · exact z
      · by_cases q : lo < x.length
        · have := k3 lo (by omega) q
          rw [z] at this
          cases this
        · omega
    intro c hc
    obtain ⟨k, hk, rfl⟩ := List.getElem_of_mem hc
    have := h2 k (by rw [e3, lx]; exact hk)
    rw [← getD_list, List.getD_eq_getElem?_getD, List.getElem?_eq_getElem hk] at this
    exact (con _).mp this
  · intro h
    have e3 : lo = x.length := by
      rcases h3 with z | z
      · exact z
      · by_cases q : lo < x.length
        · have := (con _).mpr (h _ (at' lo q))
          rw [z] at this
          cases this
        · omega
    rw [List.drop_eq_nil_of_le (by rw [← lx]; omega)]
    simp
end Dl

set_option maxHeartbeats 4000000
/-! DlN: expressions that leave the slots as they are. -/
namespace Dl
open PySem PySem.Spec PyProof.Rows L2

/-- an operand's value, the slots as they were -/
def St (G : Gx) (x : IX) (env : Envs) (d : D) : Prop := ∃ o, opd x (ev G x) env = some (.ok o, env) ∧ res env o = some d
section
variable {G : Gx} {env : Envs} {x y z : IX} {d dx dy : D} {r : RV}
theorem St.of (hv : isVar x = false) (h : ev G x env = some (.ok r, env)) : St G x env r.d := ⟨_, opd_of hv h, rfl⟩
theorem St.val (hv : isVar x = false) (h : ev G x env = some (.ok (.val d), env)) : St G x env d := ⟨_, opd_of hv h, rfl⟩
theorem St.con : St G (.con d) env d := ⟨_, rfl, rfl⟩
theorem St.var {i : Nat} (h : env[i]? = some (.val d)) : St G (.var i) env d := by
  refine ⟨.slot i, ?_, ?_⟩
  · show slotM i env = _
    unfold slotM
    rw [h]
  · unfold res
    simp only [h]
theorem St.own {i : Nat} {io : Bool} {ds : List D} (h : env[i]? = some (.own io ds)) : St G (.var i) env (.lst ds) := by
  refine ⟨.slot i, ?_, ?_⟩
  · show slotM i env = _
    unfold slotM
    rw [h]
  · unfold res
    simp only [h]
theorem St.op {o : Op2} (hx : St G x env dx) (hy : St G y env dy) (ho : op2 o dx dy = some r) : ev G (.op o x y) env = some (.ok r, env) := by
  obtain ⟨ox, h1, h2⟩ := hx
  obtain ⟨oy, h3, h4⟩ := hy
  exact ev_op h1 h3 h2 h4 ho
theorem St.opv {o : Op2} (hx : St G x env dx) (hy : St G y env dy) (ho : op2 o dx dy = some (.val d)) : St G (.op o x y) env d := St.val rfl (hx.op hy ho)
theorem St.tru {k : Bool} (hx : St G x env dx) (ht : truth dx = some k) : evT G (.tru x) env = some (.ok k, env) := by
  obtain ⟨ox, h1, h2⟩ := hx
  exact evT_tru h1 h2 ht
theorem St.data (hv : isVar x = false) (h : St G x env d) : dataM (ev G x) env = some (.ok d, env) := by
  obtain ⟨o, h1, h2⟩ := h
  have e : opd x (ev G x) = (ev G x).bind fun r => M.ret (.val r.d) := by cases x <;> first | rfl | cases hv
  rw [e] at h1
  unfold dataM
  unfold M.bind at h1 ⊢
  revert h1
  cases ev G x env with
  | none => exact fun h => nomatch h
  | some p =>
    obtain ⟨q, env'⟩ := p
    cases q with
    | error e => exact fun h => nomatch h
    | ok r =>
      intro h1
      dsimp only at h1 ⊢
      cases h1
      cases h2
      rfl
theorem data_var {i : Nat} (h : env[i]? = some (.val d)) : dataM (ev G (.var i)) env = some (.ok d, env) := by
  show dataM (rdVar i) env = _
  unfold dataM M.bind rdVar
  rw [h]
  rfl
theorem St.len (hx : St G x env dx) {n : Nat} (hl : biLen [dx] = some (.val (.int n))) : ev G (.bi .len [x]) env = some (.ok (.val (.int n)), env) := by
  obtain ⟨ox, h1, h2⟩ := hx
  exact ev_bi (evA_1 h1) (by unfold resAll resAll; rw [h2]; rfl) hl
theorem St.bi1 {f : Bi} (hx : St G x env dx) (hl : bi f [dx] = some r) : ev G (.bi f [x]) env = some (.ok r, env) := by
  obtain ⟨ox, h1, h2⟩ := hx
  exact ev_bi (evA_1 h1) (by unfold resAll resAll; rw [h2]; rfl) hl
theorem St.bi2 {f : Bi} (hx : St G x env dx) (hy : St G y env dy) (hl : bi f [dx, dy] = some r) : ev G (.bi f [x, y]) env = some (.ok r, env) := by
  obtain ⟨ox, h1, h2⟩ := hx
  obtain ⟨oy, h3, h4⟩ := hy
  exact ev_bi (evA_c h1 (evA_1 h3)) (by unfold resAll resAll resAll; rw [h2, h4]; rfl) hl
end
section
theorem wide_of {i : Int} (h0 : 0 ≤ i) (h : i < 10 ^ 200) : wide i = true := by
  unfold wide
  refine decide_eq_true ?_
  have e : ((i.natAbs : Nat) : Int) = i := Int.natAbs_of_nonneg h0
  have : (i.natAbs : Int) < 10 ^ 200 := by rw [e]; exact h
  have : i.natAbs < 10 ^ 200 := by exact_mod_cast this
  exact Nat.lt_trans this (by decide +kernel)
variable {a b : Int}
theorem op_mod (h : 0 < b) : op2 .mod (.int a) (.int b) = some (.val (.int (a % b))) := by
  show (if decide (0 < b) = true then some (RV.val (.int (a % b))) else none) = _
  rw [decide_eq_true h]
  rfl
theorem op_fdiv (h : 0 < b) (hw : wide b = true) : op2 .fdiv (.int a) (.int b) = some (.val (.int (a / b))) := by
  show (if (decide (0 < b) && wide b) = true then some (RV.val (.int (a / b))) else none) = _
  rw [decide_eq_true h, hw]
  rfl
theorem op_mulI (h1 : wide a = true) (h2 : wide b = true) : op2 .mul (.int a) (.int b) = some (.val (.int (a * b))) := by
  show (if (wide a && wide b) = true then some (RV.val (.int (a * b))) else none) = _
  rw [h1, h2]
  rfl
theorem op_powI {n : Nat} (h1 : wide a = true) (h2 : n ≤ 1000) : op2 .pow (.int a) (.int (n : Int)) = some (.val (.int (a ^ n))) := by
  show (if (wide a && (decide (0 ≤ (n : Int)) && decide ((n : Int) ≤ 1000))) = true then some (RV.val (.int (a ^ (n : Int).toNat))) else none) = _
  rw [h1, decide_eq_true (by omega), decide_eq_true (by omega)]
  rfl
end
section
variable {G : Gx} {env : Envs} {x it : IX} {d : D} {v : Nat}
theorem set_un {s : Slot} (hv : env[v]? = some s) : env.set v s = env := by
  apply List.ext_getElem?
  intro j
  by_cases e : v = j
  · subst e
    rw [hv, List.getElem?_set_self]
    exact (List.getElem?_eq_some_iff.mp hv).1
  · rw [List.getElem?_set_ne e]
theorem wipe1 {a : Slot} (hv : env[v]? = some .un) : wipeE (env.set v a) [v] = env := by
  show (env.set v a).set v .un = env
  rw [List.set_set]
  exact set_un hv
theorem setTg_nm : setTg (.nm v) d env = some (.ok (), env.set v (.val d)) := rfl
theorem comp_at {k : ItK} {t : Option IT} {l r : List D} {env0 env2 : Envs} (h : dataM (ev G it) env0 = some (.ok d, env)) (hi : items k [d] = some l) (hl : l.length ≤ 1000000) (hv : env[v]? = some .un) (ht : turns [v] (turnM G (.nm v) t x) l env = some (r, env2)) (h2 : env2[v]? = some .un) :
    ev G (.comp (.nm v) k [it] t x [v]) env0 = some (.ok (.new r), env2) := by
  have hw : wipeE env [v] = env := set_un hv
  have q := ev_comp (G := G) (tg := .nm v) (k := k) (its := [it]) (t := t) (x := x) (vs := [v]) (env := env0) (env1 := env) (env2 := env2) (ds := [d]) (l := l) (r := r) (evD_1 h) hi hl (by
    show (isOwnB env[v]? || false) = false
    rw [hv]
    rfl) (by rw [hw]; exact ht)
  rw [q]
  show some (Except.ok (RV.new r), (restore env env2 []).set v (env[v]?.getD .un)) = _
  rw [hv]
  show some (Except.ok (RV.new r), env2.set v .un) = _
  rw [set_un h2]
theorem comp_map {α : Type} {k : ItK} {xs : List α} {m g : α → D} {env0 : Envs} (h : dataM (ev G it) env0 = some (.ok d, env)) (hi : items k [d] = some (xs.map m)) (hl : xs.length ≤ 1000000) (hv : env[v]? = some .un)
    (hx : ∀ y ∈ xs, dataM (ev G x) (env.set v (.val (m y))) = some (.ok (g y), env.set v (.val (m y)))) : ev G (.comp (.nm v) k [it] none x [v]) env0 = some (.ok (.new (xs.map g)), env) := by
  refine comp_at h hi (by rw [List.length_map]; exact hl) hv ?_ hv
  rw [turns_map (g := fun y => some (g y)) fun y hy => ⟨env.set v (.val (m y)), ?_, wipe1 hv⟩, fm_some]
  show ((setTg (.nm v) (m y)).bind fun _ => (dataM (ev G x)).bind fun x => M.ret (some x)) env = _
  rw [bind_at setTg_nm, bind_at (hx y hy)]
  rfl
theorem filt_map {α : Type} (p : α → Bool) (m : α → D) : ∀ l : List α, l.filterMap (fun y => if p y = true then some (m y) else none) = (l.filter p).map m
  | [] => rfl
  | y :: l => by
    rw [List.filterMap_cons, List.filter_cons, filt_map p m l]
    cases p y <;> rfl
theorem comp_filter {α : Type} {k : ItK} {t : IT} {xs : List α} {m g : α → D} {p : α → Bool} {env0 : Envs} (h : dataM (ev G it) env0 = some (.ok d, env)) (hi : items k [d] = some (xs.map m)) (hl : xs.length ≤ 1000000) (hv : env[v]? = some .un)
    (ht : ∀ y ∈ xs, evT G t (env.set v (.val (m y))) = some (.ok (p y), env.set v (.val (m y))))
    (hx : ∀ y ∈ xs, p y = true → dataM (ev G x) (env.set v (.val (m y))) = some (.ok (g y), env.set v (.val (m y)))) : ev G (.comp (.nm v) k [it] (some t) x [v]) env0 = some (.ok (.new ((xs.filter p).map g)), env) := by
  refine comp_at h hi (by rw [List.length_map]; exact hl) hv ?_ hv
  rw [turns_map (g := fun y => if p y = true then some (g y) else none) fun y hy => ⟨env.set v (.val (m y)), ?_, wipe1 hv⟩, filt_map]
  show ((setTg (.nm v) (m y)).bind fun _ => (evT G t).bind fun k => if k then (dataM (ev G x)).bind fun x => M.ret (some x) else M.ret none) env = _
  rw [bind_at setTg_nm, bind_at (ht y hy)]
  cases hp : p y with
  | true =>
    show ((dataM (ev G x)).bind fun x => M.ret (some x)) (env.set v (.val (m y))) = _
    rw [bind_at (hx y hy hp)]
    rfl
  | false => rfl
end
section
variable {G : Gx} {env : Envs} {f : Str} {m : M RV} {i : Nat} {d : D} {r r0 : RV} {x : IX}
theorem opd_var (h : env[i]? = some (.val d)) : opd (.var i) (ev G (.var i)) env = some (.ok (.slot i), env) := by
  show slotM i env = _
  unfold slotM
  rw [h]
theorem call1 (hG : G.fn f = some ⟨[false], m⟩) (h : env[i]? = some (.val d)) (hs : m [.val d] = some (.ok r, [.un])) : ev G (.call f [.var i]) env = some (.ok r, env) := by
  have hb : bindA [false] [.slot i] env = some ([.val d], [none], env) := by
    show (env[i]?.bind asArg).bind _ = _
    rw [h]
    show some (_ :: [], none :: [], env.set i (.val d)) = _
    rw [set_un h]
  exact ev_call hG (evA_1 (opd_var h)) hb hs
/-- a list that its name alone holds, lent to be read: from now on it is shared -/
theorem call1_own {ds : List D} (hG : G.fn f = some ⟨[false], m⟩) (h : env[i]? = some (.own false ds)) (hs : m [.val (.lst ds)] = some (.ok r, [.un])) : ev G (.call f [.var i]) env = some (.ok r, env.set i (.val (.lst ds))) := by
  have ho : opd (.var i) (ev G (.var i)) env = some (.ok (.slot i), env) := by
    show slotM i env = _
    unfold slotM
    rw [h]
  have hb : bindA [false] [.slot i] env = some ([.val (.lst ds)], [none], env.set i (.val (.lst ds))) := by
    show (env[i]?.bind asArg).bind _ = _
    rw [h]
    rfl
  exact ev_call hG (evA_1 ho) hb hs
theorem callx {env1 : Envs} (hG : G.fn f = some ⟨[false], m⟩) (hv : isVar x = false) (hx : ev G x env = some (.ok r0, env1)) (hs : m [.val r0.d] = some (.ok r, [.un])) : ev G (.call f [x]) env = some (.ok r, env1) :=
  ev_call (fi := ⟨[false], m⟩) (env2 := env1) (outs := [.un]) hG (evA_1 (opd_of hv hx)) (as := [.val r0.d]) (org := [none]) rfl hs
end
section
variable {G : Gx} {env : Envs} {x it : IX} {d : D} {v : Nat} {s : Slot}
theorem comp_atS {k : ItK} {t : Option IT} {l r : List D} {env0 : Envs} (h : dataM (ev G it) env0 = some (.ok d, env)) (hi : items k [d] = some l) (hl : l.length ≤ 1000000) (hv : env[v]? = some s) (ho : isOwnB (some s) = false) (ht : turns [v] (turnM G (.nm v) t x) l (env.set v .un) = some (r, env.set v .un)) :
    ev G (.comp (.nm v) k [it] t x [v]) env0 = some (.ok (.new r), env) := by
  have q := ev_comp (G := G) (tg := .nm v) (k := k) (its := [it]) (t := t) (x := x) (vs := [v]) (env := env0) (env1 := env) (env2 := env.set v .un) (ds := [d]) (l := l) (r := r) (evD_1 h) hi hl (by
    show (isOwnB env[v]? || false) = false
    rw [hv, ho]
    rfl) ht
  rw [q]
  show some (Except.ok (RV.new r), (env.set v .un).set v (env[v]?.getD .un)) = _
  rw [hv, List.set_set]
  show some (Except.ok (RV.new r), env.set v s) = _
  rw [set_un hv]
theorem comp_filterS {α : Type} {k : ItK} {t : IT} {xs : List α} {m g : α → D} {p : α → Bool} {env0 : Envs} (h : dataM (ev G it) env0 = some (.ok d, env)) (hi : items k [d] = some (xs.map m)) (hl : xs.length ≤ 1000000) (hv : env[v]? = some s) (ho : isOwnB (some s) = false)
    (ht : ∀ y ∈ xs, evT G t (env.set v (.val (m y))) = some (.ok (p y), env.set v (.val (m y))))
    (hx : ∀ y ∈ xs, p y = true → dataM (ev G x) (env.set v (.val (m y))) = some (.ok (g y), env.set v (.val (m y)))) : ev G (.comp (.nm v) k [it] (some t) x [v]) env0 = some (.ok (.new ((xs.filter p).map g)), env) := by
  refine comp_atS h hi (by rw [List.length_map]; exact hl) hv ho ?_
  rw [turns_map (g := fun y => if p y = true then some (g y) else none) fun y hy => ⟨env.set v (.val (m y)), ?_, ?_⟩, filt_map]
  · show ((setTg (.nm v) (m y)).bind fun _ => (evT G t).bind fun k => if k then (dataM (ev G x)).bind fun x => M.ret (some x) else M.ret none) (env.set v .un) = _
    rw [bind_at setTg_nm, List.set_set, bind_at (ht y hy)]
    cases hp : p y with
    | true =>
      show ((dataM (ev G x)).bind fun x => M.ret (some x)) (env.set v (.val (m y))) = _
      rw [bind_at (hx y hy hp)]
      rfl
    | false => rfl
  · show (env.set v (.val (m y))).set v .un = _
    rw [List.set_set]
end
end Dl

set_option maxHeartbeats 4000000
/-! K56a: the words of the law's defs. -/
namespace K56
open PySem Dl
def tp (i : Nat) : Stmt := PySem.Challenge.pw_stacksamples_k56_texts_of_samples.main.body.getD i (.Pass ⟨0, 0, 0, 0⟩)
def tab : Dl.Tab where
  cons := [("SPACE", .str " "), ("POINT", .str "."), ("MOST_SAMPLES", .int 200), ("LETTERS", .str "abcdefghijklmnopqrstuvwxyz"), ("MAIN", .str "main"), ("MOST_LETTERS", .int 8), ("MOST_FRAMES", .int 8)]
  clss := ["StackError", "InvalidProgram", "InvalidName", "InvalidWord", "InvalidStack", "InvalidStacks", "InvalidSamples", "InvalidIndex", "InvalidDepth", "InvalidProducts", "InvalidRun", "InvalidCommand", "NothingToUndo", "NotShown", "InvalidText", "TooLarge"]
  bcls := [("ValueError", "ValueError")]
  excs := [("InvalidSamples", none), ("InvalidText", some ["line", "word"])]
  subs := [(6, [true, false, false, false, false, false, true, false, false, false, false, false, false, false, false, false, true]),
    (14, [true, false, false, false, false, false, false, false, false, false, false, false, false, false, true, false, true])]
  flds := [(14, "line"), (14, "word")]
def g0 : Gx := tab.G
/-! is_name -/
def s_is_name : List IS := [.ifs (.or (.not (.tru (.isi (.var 0) .tStr))) (.not (.tru (.chain .le .le (.con (.int 1)) (.bi .len [(.var 0)]) (.con (.int 8)))))) [.ret (.con (.bl false))] [],
    .ret (.bi .all [(.comp (.nm 1) .seq [(.var 0)] none (.op .isin (.var 1) (.con (.str "abcdefghijklmnopqrstuvwxyz"))) [1])])]
def n_is_name : List Str := ["value", "letter"]
def m_is_name : M RV := defM 2 (exs g0 s_is_name)
def g1 : Gx := g0.add "is_name" ⟨[false], m_is_name⟩
theorem c_is_name : cSs 60 (tab.tx.cv g0 false n_is_name (L2.defScope (tp 22))) (L2.defBody (tp 22)) = some s_is_name := by kernel_rfl
theorem f_is_name : L2.FnScope n_is_name ["value"] (L2.defScope (tp 22)) := ⟨rfl, rfl, rfl, by decide +kernel, rfl, by decide +kernel, by decide +kernel⟩
theorem b_is_name : BindOk "is_name" (tp 22) ["value"] := fun _ _ _ _ _ _ us hl => match us, hl with
  | [_], _ => rfl
/-! is_any_stack -/
def s_is_any_stack : List IS := [.ret (.and (.isi (.var 0) .tTuple) (.and (.chain .le .le (.con (.int 1)) (.bi .len [(.var 0)]) (.con (.int 8))) (.bi .all [(.comp (.nm 1) .seq [(.var 0)] none (.call "is_name" [(.var 1)]) [1])])))]
def n_is_any_stack : List Str := ["value", "name"]
def m_is_any_stack : M RV := defM 2 (exs g1 s_is_any_stack)
def g2 : Gx := g1.add "is_any_stack" ⟨[false], m_is_any_stack⟩
theorem c_is_any_stack : cSs 60 (tab.tx.cv g1 false n_is_any_stack (L2.defScope (tp 23))) (L2.defBody (tp 23)) = some s_is_any_stack := by kernel_rfl
theorem f_is_any_stack : L2.FnScope n_is_any_stack ["value"] (L2.defScope (tp 23)) := ⟨rfl, rfl, rfl, by decide +kernel, rfl, by decide +kernel, by decide +kernel⟩
theorem b_is_any_stack : BindOk "is_any_stack" (tp 23) ["value"] := fun _ _ _ _ _ _ us hl => match us, hl with
  | [_], _ => rfl
/-! format_samples -/
def s_format_samples : List IS := [.ifs (.or (.not (.tru (.isi (.var 0) .tList))) (.tru (.op .gt (.bi .len [(.var 0)]) (.con (.int 200))))) [.raise 6 [] []] [],
    .ifs (.not (.tru (.bi .all [(.comp (.nm 1) .seq [(.var 0)] none (.and (.call "is_any_stack" [(.var 1)]) (.op .eq (.op .idx (.var 1) (.con (.int 0))) (.con (.str "main")))) [1])]))) [.raise 6 [] []] [],
    .ret (.meth .join (.con (.str " ")) [(.comp (.nm 1) .seq [(.var 0)] none (.meth .join (.con (.str ".")) [(.var 1)]) [1])])]
def n_format_samples : List Str := ["samples", "stack"]
def m_format_samples : M RV := defM 2 (exs g2 s_format_samples)
def g3 : Gx := g2.add "format_samples" ⟨[false], m_format_samples⟩
theorem c_format_samples : cSs 60 (tab.tx.cv g2 false n_format_samples (L2.defScope (tp 28))) (L2.defBody (tp 28)) = some s_format_samples := by kernel_rfl
theorem f_format_samples : L2.FnScope n_format_samples ["samples"] (L2.defScope (tp 28)) := ⟨rfl, rfl, rfl, by decide +kernel, rfl, by decide +kernel, by decide +kernel⟩
theorem b_format_samples : BindOk "format_samples" (tp 28) ["samples"] := fun _ _ _ _ _ _ us hl => match us, hl with
  | [_], _ => rfl
/-! parse_samples -/
def s_parse_samples : List IS := [.ifs (.not (.tru (.isi (.var 0) .tStr))) [.raise 14 ["line", "word"] [(.con .non), (.con .non)]] [],
    .asg 1 (.lst []),
    .fors (.tp [2, 3]) .enum [(.ite (.tru (.op .ne (.var 0) (.con (.str "")))) (.meth .split (.var 0) [(.con (.str " "))]) (.lst []))] [.asg 4 (.bi .tuple [(.meth .split (.var 3) [(.con (.str "."))])]), .ifs (.or (.tru (.op .eq (.bi .len [(.var 1)]) (.con (.int 200)))) (.or (.not (.tru (.call "is_any_stack" [(.var 4)]))) (.tru (.op .ne (.op .idx (.var 4) (.con (.int 0))) (.con (.str "main")))))) [.raise 14 ["line", "word"] [(.con (.int 0)), (.var 2)]] [], .app 1 (.var 4)],
    .ret (.var 1)]
def n_parse_samples : List Str := ["text", "found", "number", "word", "stack"]
def m_parse_samples : M RV := defM 5 (exs g3 s_parse_samples)
def g4 : Gx := g3.add "parse_samples" ⟨[false], m_parse_samples⟩
theorem c_parse_samples : cSs 60 (tab.tx.cv g3 false n_parse_samples (L2.defScope (tp 29))) (L2.defBody (tp 29)) = some s_parse_samples := by kernel_rfl
theorem f_parse_samples : L2.FnScope n_parse_samples ["text"] (L2.defScope (tp 29)) := ⟨rfl, rfl, rfl, by decide +kernel, rfl, by decide +kernel, by decide +kernel⟩
theorem b_parse_samples : BindOk "parse_samples" (tp 29) ["text"] := fun _ _ _ _ _ _ us hl => match us, hl with
  | [_], _ => rfl
/-! _law_well -/
def s_well : List IS := [.asg 2 (.ite (.tru (.op .lt (.var 1) (.bi .len [(.var 0)]))) (.op .idx (.var 0) (.var 1)) (.con (.int 0))),
    .ret (.lst [(.bi .max2 [(.con (.int 0)), (.op .sub (.var 2) (.op .pow (.con (.int 10)) (.con (.int 18))))]), (.op .add (.op .mul (.op .add (.op .mod (.var 2) (.op .add (.op .pow (.con (.int 10)) (.con (.int 39))) (.con (.int 3)))) (.con (.int 3))) (.con (.int 128))) (.var 1)), (.con (.int 0))])]
def n_well : List Str := ["script", "k", "cell"]
def m_well : M RV := defM 3 (exs g4 s_well)
def g5 : Gx := g4.add "_law_well" ⟨[false, false], m_well⟩
theorem c_well : cSs 60 (tab.tx.cv g4 false n_well (L2.defScope (tp 31))) (L2.defBody (tp 31)) = some s_well := by kernel_rfl
theorem f_well : L2.FnScope n_well ["script", "k"] (L2.defScope (tp 31)) := ⟨rfl, rfl, rfl, by decide +kernel, rfl, by decide +kernel, by decide +kernel⟩
theorem b_well : BindOk "_law_well" (tp 31) ["script", "k"] := fun _ _ _ _ _ _ us hl => match us, hl with
  | [_, _], _ => rfl
/-! _law_pull -/
def s_pull : List IS := [.ifs (.tru (.op .gt (.op .idx (.var 0) (.con (.int 0))) (.con (.int 0)))) [.asg 2 (.op .mod (.op .idx (.var 0) (.con (.int 0))) (.var 1)), .seti 0 (.con (.int 0)) (.op .fdiv (.op .idx (.var 0) (.con (.int 0))) (.var 1)), .ret (.var 2)] [],
    .seti 0 (.con (.int 2)) (.op .add (.op .idx (.var 0) (.con (.int 2))) (.con (.int 1))),
    .asg 3 (.op .mod (.op .pow (.op .add (.op .idx (.var 0) (.con (.int 1))) (.op .mul (.con (.int 86028157)) (.op .idx (.var 0) (.con (.int 2))))) (.con (.int 3))) (.op .add (.op .pow (.con (.int 10)) (.con (.int 41))) (.con (.int 37)))),
    .asg 3 (.op .mod (.op .pow (.op .add (.var 3) (.op .mul (.con (.int 32452867)) (.op .idx (.var 0) (.con (.int 2))))) (.con (.int 2))) (.op .add (.op .pow (.con (.int 10)) (.con (.int 38))) (.con (.int 133)))),
    .ret (.op .mod (.op .fdiv (.var 3) (.op .pow (.con (.int 10)) (.con (.int 8)))) (.var 1))]
def n_pull : List Str := ["well", "many", "pulled", "mixed"]
def m_pull : M RV := defM 4 (exs g5 s_pull)
def g6 : Gx := g5.add "_law_pull" ⟨[true, false], m_pull⟩
theorem c_pull : cSs 60 (tab.tx.cv g5 false n_pull (L2.defScope (tp 32))) (L2.defBody (tp 32)) = some s_pull := by kernel_rfl
theorem f_pull : L2.FnScope n_pull ["well", "many"] (L2.defScope (tp 32)) := ⟨rfl, rfl, rfl, by decide +kernel, rfl, by decide +kernel, by decide +kernel⟩
theorem b_pull : BindOk "_law_pull" (tp 32) ["well", "many"] := fun _ _ _ _ _ _ us hl => match us, hl with
  | [_, _], _ => rfl
/-! _law_kind -/
def s_kind : List IS := [.asg 1 (.lst [(.tup [(.con (.str "program")), (.eisi 0 [1])]), (.tup [(.con (.str "name")), (.eisi 0 [2])])]),
    .asg 1 (.op .add (.var 1) (.lst [(.tup [(.con (.str "word")), (.eisi 0 [3])]), (.tup [(.con (.str "samples")), (.eisi 0 [6])])])),
    .asg 1 (.op .add (.var 1) (.lst [(.tup [(.con (.str "text")), (.eisi 0 [14])]), (.tup [(.con (.str "large")), (.eisi 0 [15])])])),
    .asg 2 (.eisi 0 [4, 5, 7, 8, 9, 10]),
    .asg 2 (.or (.var 2) (.eisi 0 [11, 12, 13])),
    .asg 3 (.comp (.tp [4, 5]) .only [(.var 1)] (some (.tru (.var 5))) (.var 4) [4, 5]),
    .ret (.ite (.and (.tru (.op .eq (.bi .len [(.var 3)]) (.con (.int 1)))) (.and (.not (.tru (.var 2))) (.tru (.eisi 0 [16])))) (.op .idx (.var 3) (.con (.int 0))) (.con (.str "odd")))]
def n_kind : List Str := ["e", "some", "other", "found", "word", "is_one"]
def m_kind : M RV := defM 6 (exs g6 s_kind)
def g7 : Gx := g6.addH "_law_kind" ⟨[false], m_kind⟩
theorem c_kind : cSs 60 (tab.tx.cv g6 true n_kind (L2.defScope (tp 33))) (L2.defBody (tp 33)) = some s_kind := by kernel_rfl
theorem f_kind : L2.FnScope n_kind ["e"] (L2.defScope (tp 33)) := ⟨rfl, rfl, rfl, by decide +kernel, rfl, by decide +kernel, by decide +kernel⟩
theorem b_kind : BindOk "_law_kind" (tp 33) ["e"] := fun _ _ _ _ _ _ us hl => match us, hl with
  | [_], _ => rfl
/-! _law_name -/
def s_name : List IS := [.asg 1 (.op .idx (.lst [(.con (.str "ab")), (.con (.str "mainxz")), (.con (.str "abcdefghijklmnopqrstuvwxyz"))]) (.call "_law_pull" [(.var 0), (.con (.int 3))])),
    .asg 2 (.op .idx (.lst [(.con (.int 1)), (.con (.int 8)), (.op .add (.con (.int 1)) (.call "_law_pull" [(.var 0), (.con (.int 8))]))]) (.call "_law_pull" [(.var 0), (.con (.int 3))])),
    .asg 3 (.meth .join (.con (.str "")) [(.comp (.nm 4) .range1 [(.var 2)] none (.op .idx (.var 1) (.call "_law_pull" [(.var 0), (.bi .len [(.var 1)])])) [4])]),
    .ret (.op .idx (.lst [(.con (.str "main")), (.var 3), (.var 3), (.var 3)]) (.call "_law_pull" [(.var 0), (.con (.int 4))]))]
def n_name : List Str := ["well", "letters", "many", "name", "turn"]
def m_name : M RV := defM 5 (exs g7 s_name)
def g8 : Gx := g7.add "_law_name" ⟨[true], m_name⟩
theorem c_name : cSs 60 (tab.tx.cv g7 false n_name (L2.defScope (tp 34))) (L2.defBody (tp 34)) = some s_name := by kernel_rfl
theorem f_name : L2.FnScope n_name ["well"] (L2.defScope (tp 34)) := ⟨rfl, rfl, rfl, by decide +kernel, rfl, by decide +kernel, by decide +kernel⟩
theorem b_name : BindOk "_law_name" (tp 34) ["well"] := fun _ _ _ _ _ _ us hl => match us, hl with
  | [_], _ => rfl
/-! _law_samples -/
def s_samples : List IS := [.asg 2 (.lst []),
    .fors (.nm 3) .range1 [(.call "_law_pull" [(.var 0), (.op .add (.var 1) (.con (.int 1)))])] [.asg 4 (.op .idx (.lst [(.con (.int 0)), (.con (.int 1)), (.con (.int 7)), (.call "_law_pull" [(.var 0), (.con (.int 8))])]) (.call "_law_pull" [(.var 0), (.con (.int 4))])), .app 2 (.op .add (.tup [(.con (.str "main"))]) (.bi .tuple [(.comp (.nm 5) .range1 [(.var 4)] none (.call "_law_name" [(.var 0)]) [5])])), .ifs (.tru (.op .eq (.call "_law_pull" [(.var 0), (.con (.int 5))]) (.con (.int 0)))) [.seti 2 (.neg (.con (.int 1))) (.op .idx (.var 2) (.call "_law_pull" [(.var 0), (.bi .len [(.var 2)])]))] []],
    .ret (.var 2)]
def n_samples : List Str := ["well", "most", "found", "turn", "deep", "spot"]
def m_samples : M RV := defM 6 (exs g8 s_samples)
def g9 : Gx := g8.add "_law_samples" ⟨[true, false], m_samples⟩
theorem c_samples : cSs 60 (tab.tx.cv g8 false n_samples (L2.defScope (tp 35))) (L2.defBody (tp 35)) = some s_samples := by kernel_rfl
theorem f_samples : L2.FnScope n_samples ["well", "most"] (L2.defScope (tp 35)) := ⟨rfl, rfl, rfl, by decide +kernel, rfl, by decide +kernel, by decide +kernel⟩
theorem b_samples : BindOk "_law_samples" (tp 35) ["well", "most"] := fun _ _ _ _ _ _ us hl => match us, hl with
  | [_, _], _ => rfl
/-! _law_is_name -/
def s_lis_name : List IS := [.ret (.and (.chain .le .le (.con (.int 1)) (.bi .len [(.var 0)]) (.con (.int 8))) (.op .eq (.meth .strip (.var 0) [(.con (.str "abcdefghijklmnopqrstuvwxyz"))]) (.con (.str ""))))]
def n_lis_name : List Str := ["word"]
def m_lis_name : M RV := defM 1 (exs g9 s_lis_name)
def g10 : Gx := g9.add "_law_is_name" ⟨[false], m_lis_name⟩
theorem c_lis_name : cSs 60 (tab.tx.cv g9 false n_lis_name (L2.defScope (tp 36))) (L2.defBody (tp 36)) = some s_lis_name := by kernel_rfl
theorem f_lis_name : L2.FnScope n_lis_name ["word"] (L2.defScope (tp 36)) := ⟨rfl, rfl, rfl, by decide +kernel, rfl, by decide +kernel, by decide +kernel⟩
theorem b_lis_name : BindOk "_law_is_name" (tp 36) ["word"] := fun _ _ _ _ _ _ us hl => match us, hl with
  | [_], _ => rfl
/-! _law_read -/
def s_read : List IS := [.ifs (.not (.tru (.isi (.var 0) .tStr))) [.ret (.lst [(.lst [(.con .non), (.con .non)])])] [],
    .asg 1 (.lst []),
    .fors (.tp [2, 3]) .enum [(.ite (.tru (.op .ne (.var 0) (.con (.str "")))) (.meth .split (.var 0) [(.con (.str " "))]) (.lst []))] [.asg 4 (.meth .split (.var 3) [(.con (.str "."))]), .ifs (.or (.tru (.op .eq (.bi .len [(.var 1)]) (.con (.int 200)))) (.or (.tru (.op .ne (.op .idx (.var 4) (.con (.int 0))) (.con (.str "main")))) (.tru (.op .gt (.bi .len [(.var 4)]) (.con (.int 8)))))) [.ret (.lst [(.lst [(.con (.int 0)), (.var 2)])])] [], .ifs (.tru (.op .ne (.comp (.nm 5) .seq [(.var 4)] (some (.not (.tru (.call "_law_is_name" [(.var 5)])))) (.var 5) [5]) (.lst []))) [.ret (.lst [(.lst [(.con (.int 0)), (.var 2)])])] [], .app 1 (.bi .tuple [(.var 4)])],
    .ret (.var 1)]
def n_read : List Str := ["text", "found", "number", "word", "names", "name"]
def m_read : M RV := defM 6 (exs g10 s_read)
def g11 : Gx := g10.add "_law_read" ⟨[false], m_read⟩
theorem c_read : cSs 60 (tab.tx.cv g10 false n_read (L2.defScope (tp 37))) (L2.defBody (tp 37)) = some s_read := by kernel_rfl
theorem f_read : L2.FnScope n_read ["text"] (L2.defScope (tp 37)) := ⟨rfl, rfl, rfl, by decide +kernel, rfl, by decide +kernel, by decide +kernel⟩
theorem b_read : BindOk "_law_read" (tp 37) ["text"] := fun _ _ _ _ _ _ us hl => match us, hl with
  | [_], _ => rfl
/-! _law_told -/
def s_told : List IS := [.tryE [.ret (.call "parse_samples" [(.var 0)])] 1 0 [.ret (.ite (.tru (.op .eq (.hcall "_law_kind" [(.var 1)]) (.con (.str "text")))) (.lst [(.lst [(.efld 1 "line"), (.efld 1 "word")])]) (.con (.str "odd")))]]
def n_told : List Str := ["text", "e"]
def m_told : M RV := defM 2 (exs g11 s_told)
def g12 : Gx := g11.add "_law_told" ⟨[false], m_told⟩
theorem c_told : cSs 60 (tab.tx.cv g11 false n_told (L2.defScope (tp 38))) (L2.defBody (tp 38)) = some s_told := by kernel_rfl
theorem f_told : L2.FnScope n_told ["text"] (L2.defScope (tp 38)) := ⟨rfl, rfl, rfl, by decide +kernel, rfl, by decide +kernel, by decide +kernel⟩
theorem b_told : BindOk "_law_told" (tp 38) ["text"] := fun _ _ _ _ _ _ us hl => match us, hl with
  | [_], _ => rfl
/-! _law_refused -/
def s_refused : List IS := [.tryE [.expr (.call "format_samples" [(.var 0)])] 1 0 [.ret (.op .eq (.hcall "_law_kind" [(.var 1)]) (.con (.str "samples")))],
    .ret (.con (.bl false))]
def n_refused : List Str := ["value", "e"]
def m_refused : M RV := defM 2 (exs g12 s_refused)
def g13 : Gx := g12.add "_law_refused" ⟨[false], m_refused⟩
theorem c_refused : cSs 60 (tab.tx.cv g12 false n_refused (L2.defScope (tp 39))) (L2.defBody (tp 39)) = some s_refused := by kernel_rfl
theorem f_refused : L2.FnScope n_refused ["value"] (L2.defScope (tp 39)) := ⟨rfl, rfl, rfl, by decide +kernel, rfl, by decide +kernel, by decide +kernel⟩
theorem b_refused : BindOk "_law_refused" (tp 39) ["value"] := fun _ _ _ _ _ _ us hl => match us, hl with
  | [_], _ => rfl
/-! _law_near -/
def s_near : List IS := [.par 2 3 (.call "_law_pull" [(.var 0), (.op .add (.bi .len [(.var 1)]) (.con (.int 1)))]) (.call "_law_pull" [(.var 0), (.con (.int 5))]),
    .asg 4 (.con (.str " .mainxqA0_-:;\n\"'!?*()|~{}#,+/<>=@\x5b]^&$")),
    .asg 5 (.op .idx (.var 4) (.call "_law_pull" [(.var 0), (.bi .len [(.var 4)])])),
    .ifs (.tru (.op .lt (.var 3) (.con (.int 3)))) [.ret (.op .add (.op .add (.slice (.var 1) none (some (.var 2))) (.op .idx (.lst [(.var 5), (.con (.str "")), (.var 5)]) (.var 3))) (.slice (.var 1) (some (.op .add (.var 2) (.bi .toInt [(.op .gt (.var 3) (.con (.int 0)))]))) none))] [],
    .asg 6 (.meth .split (.var 1) [(.con (.str " "))]),
    .asg 2 (.call "_law_pull" [(.var 0), (.bi .len [(.var 6)])]),
    .asg 7 (.lst [(.con (.str "main")), (.con (.str "")), (.con (.str "main.")), (.con (.str "a")), (.con (.str "main..a")), (.con (.str ".main")), (.con (.str "Main")), (.con (.str "main.abcdefghi"))]),
    .asg 7 (.op .add (.var 7) (.lst [(.op .add (.con (.str "main")) (.op .mul (.con (.str ".a")) (.con (.int 7)))), (.op .add (.con (.str "main")) (.op .mul (.con (.str ".a")) (.con (.int 8))))])),
    .asg 8 (.op .idx (.lst [(.lst []), (.op .mul (.slice (.var 6) (some (.var 2)) (some (.op .add (.var 2) (.con (.int 1))))) (.con (.int 2))), (.lst [(.op .idx (.var 7) (.call "_law_pull" [(.var 0), (.con (.int 10))]))])]) (.call "_law_pull" [(.var 0), (.con (.int 3))])),
    .ret (.meth .join (.con (.str " ")) [(.op .add (.op .add (.slice (.var 6) none (some (.var 2))) (.var 8)) (.slice (.var 6) (some (.op .add (.var 2) (.con (.int 1)))) none))])]
def n_near : List Str := ["well", "text", "at", "way", "signs", "sign", "words", "odd", "one"]
def m_near : M RV := defM 9 (exs g13 s_near)
def g14 : Gx := g13.add "_law_near" ⟨[true, false], m_near⟩
theorem c_near : cSs 60 (tab.tx.cv g13 false n_near (L2.defScope (tp 40))) (L2.defBody (tp 40)) = some s_near := by kernel_rfl
theorem f_near : L2.FnScope n_near ["well", "text"] (L2.defScope (tp 40)) := ⟨rfl, rfl, rfl, by decide +kernel, rfl, by decide +kernel, by decide +kernel⟩
theorem b_near : BindOk "_law_near" (tp 40) ["well", "text"] := fun _ _ _ _ _ _ us hl => match us, hl with
  | [_, _], _ => rfl
/-! _law_no_samples -/
def s_no_samples : List IS := [.asg 1 (.lst [(.con .non), (.con (.int 0)), (.con (.str "main")), (.lst [(.con (.str "main"))]), (.tup []), (.tup [(.con (.str "a"))]), (.tup [(.con (.str "main")), (.con (.int 0))]), (.tup [(.con (.str "main")), (.con .non)]), (.tup [(.con (.str "Main"))]), (.tup [(.tup [(.con (.str "main"))])]), (.op .mul (.tup [(.con (.str "main"))]) (.con (.int 9)))]),
    .asg 1 (.op .add (.var 1) (.lst [(.tup [(.con (.str "main")), (.lst [(.con (.str "a"))])]), (.tup [(.con (.str "main")), (.con (.bl true))]), (.tup [(.con (.str "main")), (.con (.str ""))]), (.tup [(.con (.str "main")), (.con (.str "abcdefghi"))]), (.tup [(.con (.str "main")), (.con (.str "a b"))]), (.dic [] []), (.con (.str "")), (.con (.bl true))])),
    .asg 2 (.op .fdiv (.bi .len [(.var 0)]) (.con (.int 2))),
    .asg 3 (.comp (.nm 4) .seq [(.var 1)] none (.op .add (.op .add (.slice (.var 0) none (some (.var 2))) (.lst [(.var 4)])) (.slice (.var 0) (some (.var 2)) (some (.con (.int 199))))) [4]),
    .ret (.op .add (.var 3) (.lst [(.con .non), (.con (.int 0)), (.con (.str "main")), (.con (.bl true)), (.dic [] []), (.bi .tuple [(.var 0)]), (.tup [(.con (.str "main"))]), (.dic [(.inr "main")] [(.lst [])]), (.op .mul (.lst [(.tup [(.con (.str "main"))])]) (.con (.int 201)))]))]
def n_no_samples : List Str := ["samples", "odd", "at", "found", "one"]
def m_no_samples : M RV := defM 5 (exs g14 s_no_samples)
def g15 : Gx := g14.add "_law_no_samples" ⟨[false], m_no_samples⟩
theorem c_no_samples : cSs 60 (tab.tx.cv g14 false n_no_samples (L2.defScope (tp 41))) (L2.defBody (tp 41)) = some s_no_samples := by kernel_rfl
theorem f_no_samples : L2.FnScope n_no_samples ["samples"] (L2.defScope (tp 41)) := ⟨rfl, rfl, rfl, by decide +kernel, rfl, by decide +kernel, by decide +kernel⟩
theorem b_no_samples : BindOk "_law_no_samples" (tp 41) ["samples"] := fun _ _ _ _ _ _ us hl => match us, hl with
  | [_], _ => rfl
/-! _law_right -/
def s_right : List IS := [.par 1 2 (.bi .repr [(.var 0)]) (.meth .join (.con (.str " ")) [(.comp (.nm 5) .seq [(.var 0)] none (.meth .join (.con (.str ".")) [(.var 5)]) [5])]),
    .ifs (.or (.tru (.op .ne (.bi .repr [(.call "format_samples" [(.var 0)])]) (.bi .repr [(.var 2)]))) (.tru (.op .ne (.bi .repr [(.var 0)]) (.var 1)))) [.ret (.con (.bl false))] [],
    .fors (.nm 3) .range1 [(.con (.int 2))] [.asg 4 (.call "parse_samples" [(.var 2)]), .ifs (.tru (.op .ne (.bi .repr [(.var 4)]) (.var 1))) [.ret (.con (.bl false))] [], .app 4 (.con (.int 0))],
    .ret (.con (.bl true))]
def n_right : List Str := ["samples", "kept", "due", "turn", "told", "stack"]
def m_right : M RV := defM 6 (exs g15 s_right)
def g16 : Gx := g15.add "_law_right" ⟨[false], m_right⟩
theorem c_right : cSs 60 (tab.tx.cv g15 false n_right (L2.defScope (tp 42))) (L2.defBody (tp 42)) = some s_right := by kernel_rfl
theorem f_right : L2.FnScope n_right ["samples"] (L2.defScope (tp 42)) := ⟨rfl, rfl, rfl, by decide +kernel, rfl, by decide +kernel, by decide +kernel⟩
theorem b_right : BindOk "_law_right" (tp 42) ["samples"] := fun _ _ _ _ _ _ us hl => match us, hl with
  | [_], _ => rfl
/-! law -/
def s_law : List IS := [.fors (.nm 1) .range1 [(.bi .max2 [(.con (.int 1)), (.bi .min2 [(.con (.int 5)), (.bi .len [(.var 0)])])])] [.asg 2 (.call "_law_well" [(.var 0), (.var 1)]), .fors (.nm 3) .range1 [(.con (.int 3))] [.asg 4 (.call "_law_samples" [(.var 2), (.op .idx (.lst [(.con (.int 6)), (.con (.int 20)), (.con (.int 4))]) (.var 3))]), .ifs (.not (.tru (.call "_law_right" [(.var 4)]))) [.ret (.con (.bl false))] [], .fors (.nm 5) .range1 [(.con (.int 10))] [.asg 6 (.call "format_samples" [(.var 4)]), .fors (.nm 7) .range1 [(.op .add (.con (.int 1)) (.call "_law_pull" [(.var 2), (.con (.int 3))]))] [.asg 6 (.call "_law_near" [(.var 2), (.var 6)])], .ifs (.tru (.op .ne (.bi .repr [(.call "_law_told" [(.var 6)])]) (.bi .repr [(.call "_law_read" [(.var 6)])]))) [.ret (.con (.bl false))] []], .ifs (.tru (.op .ne (.comp (.nm 9) .seq [(.call "_law_no_samples" [(.var 4)])] (some (.not (.tru (.call "_law_refused" [(.var 9)])))) (.var 9) [9]) (.lst []))) [.ret (.con (.bl false))] []], .fors (.nm 5) .range1 [(.con (.int 4))] [.asg 6 (.call "_law_near" [(.var 2), (.op .add (.op .mul (.con (.str "main main.a ")) (.con (.int 99))) (.con (.str "main main.ab")))]), .ifs (.tru (.op .ne (.bi .repr [(.call "_law_told" [(.var 6)])]) (.bi .repr [(.call "_law_read" [(.var 6)])]))) [.ret (.con (.bl false))] []]],
    .asg 8 (.lst [(.op .add (.op .mul (.con (.str "main ")) (.con (.int 199))) (.con (.str "main"))), (.op .add (.op .mul (.con (.str "main ")) (.con (.int 200))) (.con (.str "main"))), (.op .add (.op .mul (.con (.str "main ")) (.con (.int 200))) (.con (.str "q"))), (.con (.str "")), (.con (.str " ")), (.con (.str "main ")), (.con (.str " main"))]),
    .asg 8 (.op .add (.var 8) (.lst [(.con (.str "main\nmain")), (.op .add (.op .mul (.con (.str "main.")) (.con (.int 7))) (.con (.str "main"))), (.op .add (.op .mul (.con (.str "main.")) (.con (.int 8))) (.con (.str "main"))), (.con (.str "main  main")), (.con (.str "main.main main.mainx"))])),
    .asg 8 (.op .add (.var 8) (.lst [(.con .non), (.con (.int 0)), (.con (.bl true)), (.lst []), (.tup [(.con (.str "main"))]), (.dic [] []), (.lst [(.con (.str "main"))])])),
    .ifs (.tru (.op .ne (.comp (.nm 6) .seq [(.var 8)] (some (.tru (.op .ne (.bi .repr [(.call "_law_told" [(.var 6)])]) (.bi .repr [(.call "_law_read" [(.var 6)])])))) (.var 6) [6]) (.lst []))) [.ret (.con (.bl false))] [],
    .ifs (.or (.not (.tru (.call "_law_right" [(.op .mul (.lst [(.tup [(.con (.str "main"))])]) (.con (.int 200)))]))) (.or (.not (.tru (.call "_law_right" [(.op .mul (.lst [(.tup [(.con (.str "main")), (.con (.str "a"))])]) (.con (.int 200)))]))) (.not (.tru (.call "_law_right" [(.lst [])]))))) [.ret (.con (.bl false))] [],
    .ret (.call "_law_right" [(.op .mul (.lst [(.op .add (.tup [(.con (.str "main"))]) (.op .mul (.tup [(.con (.str "abcdefgh"))]) (.con (.int 7))))]) (.con (.int 200)))])]
def n_law : List Str := ["script", "k", "well", "turn", "samples", "again", "text", "change", "texts", "value"]
def m_law : M RV := defM 10 (exs g16 s_law)
theorem c_law : cSs 60 (tab.tx.cv g16 false n_law (L2.defScope (tp 43))) (L2.defBody (tp 43)) = some s_law := by kernel_rfl
theorem f_law : L2.FnScope n_law ["script"] (L2.defScope (tp 43)) := ⟨rfl, rfl, rfl, by decide +kernel, rfl, by decide +kernel, by decide +kernel⟩
theorem b_law : BindOk "law" (tp 43) ["script"] := fun _ _ _ _ _ _ us hl => match us, hl with
  | [_], _ => rfl
end K56

set_option maxHeartbeats 4000000
/-! K56p: what the defs of the law answer. -/
namespace K56
open PySem PySem.Spec PyProof.Rows L2 TL Dl

abbrev LET : Str := "abcdefghijklmnopqrstuvwxyz"
def lenOk (n : Nat) : Bool := decide ((1 : Int) ≤ (n : Int)) && decide ((n : Int) ≤ 8)
theorem lenOk_iff {n : Nat} : lenOk n = true ↔ 1 ≤ n ∧ n ≤ 8 := by
  unfold lenOk
  rw [Bool.and_eq_true, decide_eq_true_eq, decide_eq_true_eq]
  omega
def isN (s : Str) : Bool := lenOk s.length && (tl s).all fun c => decide (c ∈ tl LET)
def isND : D → Bool
  | .str s => isN s
  | _ => false
def okE : D → Prop
  | .str s => s.length ≤ LIM
  | _ => True
theorem len_chain {G : Gx} {env : Envs} {x : IX} {o : Opd} {n : Nat} {d : D} (h : opd x (ev G x) env = some (.ok o, env)) (h1 : res env o = some d) (h2 : biLen [d] = some (.val (.int n))) :
    ev G (.chain .le .le (.con (.int 1)) (.bi .len [x]) (.con (.int 8))) env = some (.ok (.val (.bl (lenOk n))), env) :=
  ev_chain (dz := .int 8) (dx := .int 1) (dy := .int n) rfl (data_at (ev_bi (f := .len) (evA_1 h) (by unfold resAll resAll; rw [h1]; rfl) h2)) rfl (fun _ => rfl) rfl fun _ => rfl
theorem sem_is_name {d : D} (h : okE d) : m_is_name [.val d] = some (.ok (.val (.bl (isND d))), [.un]) := by
  have other : (∀ s, d ≠ .str s) → m_is_name [.val d] = some (.ok (.val (.bl false)), [.un]) := fun ns => by
    refine defM_ret (env1 := [.val d, .un]) ?_
    refine exs_ret ?_
    refine (if_yes ?_).trans (exs_ret rfl)
    cases d <;> first | rfl | exact absurd rfl (ns _)
  cases d with
  | str s =>
    have hl : s.length ≤ LIM := h
    have lb : biLen [.str s] = some (.val (.int s.length)) := if_pos hl
    refine defM_ret (env1 := [.val (.str s), .un]) ?_
    have hc := len_chain (G := g0) (env := [.val (.str s), .un]) (x := .var 0) (o := .slot 0) rfl rfl lb
    have ht : evT g0 (.or (.not (.tru (.isi (.var 0) .tStr))) (.not (.tru (.chain .le .le (.con (.int 1)) (.bi .len [(.var 0)]) (.con (.int 8)))))) [.val (.str s), .un] = some (.ok (!lenOk s.length), [.val (.str s), .un]) :=
      (evT_or (k := false) rfl (fun _ => evT_not (evT_bl rfl hc)) fun z => nomatch z)
    show exs g0 s_is_name [.val (.str s), .un] = _
    show _ = some (Except.ok (Flow'.ret (.val (.bl (isN s)))), _)
    unfold s_is_name isN
    cases hk : lenOk s.length with
    | false =>
      rw [hk] at ht
      exact exs_ret ((if_yes ht).trans (exs_ret rfl))
    | true =>
      rw [hk] at ht
      refine (exs_next ((if_no ht).trans rfl)).trans (exs_ret (ex_ret ?_))
      have hn : (Dl.signs s).length ≤ 1000000 := by
        unfold Dl.signs
        rw [List.length_map, ← len_tl]
        have := (lenOk_iff.mp hk).2
        omega
      have ct : turns [1] (turnM g0 (.nm 1) none (.op .isin (.var 1) (.con (.str LET)))) (Dl.signs s) [.val (.str s), .un] = some ((tl s).map (fun c => D.bl (decide (c ∈ tl LET))), [.val (.str s), .un]) := by
        unfold Dl.signs
        rw [turns_map (g := fun c => some (D.bl (decide (c ∈ tl LET)))) fun c _ => ⟨[.val (.str s), .val (.str ⟨#[c]⟩)], rfl, rfl⟩, fm_some]
      refine ev_bi (os := [.val (.lst ((tl s).map fun c => D.bl (decide (c ∈ tl LET))))]) (evA_1 (opd_of rfl (comp_at (v := 1) (k := .seq) (d := .str s) (env2 := [.val (.str s), .un]) rfl rfl hn rfl ct rfl))) rfl ?_
      show (boolsOf _).map _ = _
      rw [bools_map]
      show some (RV.val (.bl (((tl s).map fun c => decide (c ∈ tl LET)).all id))) = _
      rw [all_map]
      rfl
  | _ => exact other fun s z => nomatch z
/-! stacks -/
def isS : D → Bool
  | .tup ds => lenOk ds.length && ds.all isND
  | _ => false
def okS : D → Prop
  | .tup ds => ∀ e ∈ ds, okE e
  | _ => True
def stackOk : D → Bool
  | .tup (.str x :: r) => isS (.tup (.str x :: r)) && decide (x = "main")
  | _ => false
theorem g1_name : g1.fn "is_name" = some ⟨[false], m_is_name⟩ := by kernel_rfl
theorem sem_is_any_stack {d : D} (h : okS d) : m_is_any_stack [.val d] = some (.ok (.val (.bl (isS d))), [.un]) := by
  have other : (∀ s, d ≠ .tup s) → m_is_any_stack [.val d] = some (.ok (.val (.bl false)), [.un]) := fun ns => by
    refine defM_ret (env1 := [.val d, .un]) (exs_ret (ex_ret ?_))
    have hi : ev g1 (.isi (.var 0) .tTuple) [.val d, .un] = some (.ok (.val (.bl false)), [.val d, .un]) := by
      cases d <;> first | rfl | exact absurd rfl (ns _)
    exact ev_and (l := false) hi (fun z => nomatch z) fun _ => rfl
  cases d with
  | tup ds =>
    have h : ∀ e ∈ ds, okE e := h
    refine defM_ret (env1 := [.val (.tup ds), .un]) (exs_ret (ex_ret ?_))
    have hc := len_chain (G := g1) (env := [.val (.tup ds), .un]) (x := .var 0) (o := .slot 0) (n := ds.length) rfl rfl rfl
    refine (ev_and (k := true) (l := lenOk ds.length && ds.all isND) rfl (fun _ => ?_) fun z => nomatch z)
    refine ev_and hc (fun hk => ?_) fun _ => rfl
    have hn : ds.length ≤ 1000000 := by have := (lenOk_iff.mp hk).2; omega
    have ct : turns [1] (turnM g1 (.nm 1) none (.call "is_name" [(.var 1)])) (ds.map id) [.val (.tup ds), .un] = some (ds.map (fun d => D.bl (isND d)), [.val (.tup ds), .un]) := by
      rw [turns_map (g := fun d => some (D.bl (isND d))) fun d hd => ⟨[.val (.tup ds), .val d], by
        have hx : ev g1 (.call "is_name" [(.var 1)]) [.val (.tup ds), .val d] = some (.ok (.val (.bl (isND d))), [.val (.tup ds), .val d]) := ev_call (os := [.slot 1]) (as := [.val d]) (org := [none]) (outs := [.un]) (env2 := [.val (.tup ds), .val d]) g1_name rfl rfl (sem_is_name (h d hd))
        show ((dataM (ev g1 (.call "is_name" [(.var 1)]))).bind fun x => M.ret (some x)) [.val (.tup ds), .val d] = _
        rw [bind_at (data_at hx)]
        rfl, rfl⟩, fm_some]
    rw [List.map_id] at ct
    refine ev_bi (os := [.val (.lst (ds.map fun d => D.bl (isND d)))]) (evA_1 (opd_of rfl (comp_at (v := 1) (k := .seq) (d := .tup ds) (env2 := [.val (.tup ds), .un]) rfl rfl hn rfl ct rfl))) rfl ?_
    show (boolsOf _).map _ = _
    rw [bools_map]
    show some (RV.val (.bl ((ds.map isND).all id))) = _
    rw [all_map]
  | _ => exact other fun s z => nomatch z
/-! names, stacks, samples as data -/
theorem isN_let {s : Str} (h : isN s = true) : ∀ c ∈ tl s, c ∈ tl LET := fun c hc => by
  unfold isN at h
  have := List.all_eq_true.mp (Bool.and_eq_true_iff.mp h).2 c hc
  exact of_decide_eq_true this
theorem isN_len {s : Str} (h : isN s = true) : 1 ≤ s.length ∧ s.length ≤ 8 := by
  unfold isN at h
  exact lenOk_iff.mp (Bool.and_eq_true_iff.mp h).1
def toS (ns : List Str) : D := .tup (ns.map D.str)
def toSs (ss : List (List Str)) : List D := ss.map toS
structure Stk (ns : List Str) : Prop where
  hd : ns.head? = some "main"
  len : ns.length ≤ 8
  nm : ∀ x ∈ ns, isN x = true
def word (ns : List Str) : Str := Txt.join "." ns
def due (ss : List (List Str)) : Str := Txt.join " " (ss.map word)
theorem Stk.isS {ns : List Str} (h : Stk ns) : K56.isS (toS ns) = true := by
  show (lenOk (ns.map D.str).length && (ns.map D.str).all isND) = true
  rw [List.length_map, List.all_map, Bool.and_eq_true]
  refine ⟨lenOk_iff.mpr ⟨?_, h.len⟩, List.all_eq_true.mpr fun x hx => h.nm x hx⟩
  have := h.hd
  cases ns with
  | nil => cases this
  | cons x r => exact Nat.succ_pos _
theorem Stk.ok {ns : List Str} (h : Stk ns) : stackOk (toS ns) = true := by
  have h1 := h.isS
  have h2 := h.hd
  cases ns with
  | nil => cases h2
  | cons x r =>
    have e : x = "main" := by injection h2
    show (K56.isS (toS (x :: r)) && decide (x = "main")) = true
    rw [h1, decide_eq_true e]
    rfl
theorem Stk.okS {ns : List Str} (h : Stk ns) : K56.okS (toS ns) := fun e he => by
  obtain ⟨x, hx, rfl⟩ := List.mem_map.mp he
  have := (isN_len (h.nm x hx)).2
  show x.length ≤ LIM
  unfold LIM
  omega
theorem join_sem {a : Str} {ys : List Str} (h : (ys.map (·.length)).sum + ys.length * a.length ≤ LIM) : meth .join (.str a) [.lst (ys.map D.str)] = some (.val (.str (Txt.join a ys))) := by
  show joinO a (ys.map D.str) = _
  unfold joinO
  rw [Dl.strs_map]
  exact if_pos h
theorem join_semT {a : Str} {ys : List Str} (h : (ys.map (·.length)).sum + ys.length * a.length ≤ LIM) : meth .join (.str a) [.tup (ys.map D.str)] = some (.val (.str (Txt.join a ys))) := by
  show joinO a (ys.map D.str) = _
  unfold joinO
  rw [Dl.strs_map]
  exact if_pos h
theorem sp_len : (" " : Str).length = 1 := by decide +kernel
theorem pt_len : ("." : Str).length = 1 := by decide +kernel
theorem sum_le {l : List Nat} {b : Nat} (h : ∀ n ∈ l, n ≤ b) : l.sum ≤ b * l.length := by
  induction l with
  | nil => exact Nat.zero_le _
  | cons n l ih =>
    rw [List.sum_cons, List.length_cons, Nat.mul_succ]
    have := h n (List.mem_cons_self ..)
    have := ih fun m hm => h m (List.mem_cons_of_mem _ hm)
    omega
theorem stk_sum {ns : List Str} (h : Stk ns) : (ns.map (·.length)).sum + ns.length * 1 ≤ 72 := by
  have := sum_le (l := ns.map (·.length)) (b := 8) fun n hn => by
    obtain ⟨x, hx, rfl⟩ := List.mem_map.mp hn
    exact (isN_len (h.nm x hx)).2
  rw [List.length_map] at this
  have := h.len
  omega
theorem word_len {ns : List Str} (h : Stk ns) : (word ns).length ≤ 72 := by
  have := join_len "." ns
  rw [pt_len] at this
  exact Nat.le_trans this (stk_sum h)
theorem due_sum {ss : List (List Str)} (h : ∀ ns ∈ ss, Stk ns) : ((ss.map word).map (·.length)).sum + (ss.map word).length ≤ 73 * ss.length := by
  have := sum_le (l := (ss.map word).map (·.length)) (b := 72) fun n hn => by
    obtain ⟨x, hx, rfl⟩ := List.mem_map.mp hn
    obtain ⟨ns, hs, rfl⟩ := List.mem_map.mp hx
    exact word_len (h ns hs)
  rw [List.length_map, List.length_map] at this
  rw [List.length_map]
  omega
theorem due_len {ss : List (List Str)} (h : ∀ ns ∈ ss, Stk ns) : (due ss).length ≤ 73 * ss.length := by
  have h1 := join_len " " (ss.map word)
  rw [sp_len] at h1
  have h2 := due_sum h
  unfold due
  omega
theorem turn_join {G : Gx} {env : Envs} {i : Nat} {ns : List Str} (h : env[i]? = some (.val (toS ns))) (hs : Stk ns) : ev G (.meth .join (.con (.str ".")) [.var i]) env = some (.ok (.val (.str (word ns))), env) := by
  have o : opd (.var i) (ev G (.var i)) env = some (.ok (.slot i), env) := by
    show slotM i env = _
    unfold slotM
    rw [h]
  refine ev_meth (m := .join) (t := ".") (os := [.slot i]) (ds := [toS ns]) rfl (evA_1 o) ?_ (join_semT (by rw [pt_len]; have := stk_sum hs; unfold LIM; omega))
  have r : res env (.slot i) = some (toS ns) := by unfold res; simp only [h]
  unfold resAll resAll
  rw [r]
  rfl
/-! format_samples -/
theorem g2_stack : g2.fn "is_any_stack" = some ⟨[false], m_is_any_stack⟩ := by kernel_rfl
def tLong : IT := .or (.not (.tru (.isi (.var 0) .tList))) (.tru (.op .gt (.bi .len [(.var 0)]) (.con (.int 200))))
theorem fmt_no {d : D} (h : tyIs d .tList = false) : m_format_samples [.val d] = some (.error ⟨6, []⟩, [.un]) := by
  refine defM_er (env1 := [.val d, .un]) (exs_er ?_)
  have ht : evT g2 (.not (.tru (.isi (.var 0) .tList))) [.val d, .un] = some (.ok true, [.val d, .un]) := by
    refine evT_not (k := false) (evT_bl rfl ?_)
    show some (Except.ok (RV.val (.bl (tyIs d .tList))), _) = _
    rw [h]
  exact (if_yes (evT_or (k := true) (l := true) ht (fun z => nomatch z) fun _ => rfl)).trans (exs_er rfl)
theorem t_long {ds : List D} : evT g2 tLong [.val (.lst ds), .un] = some (.ok (decide ((200 : Int) < (ds.length : Int))), [.val (.lst ds), .un]) :=
  evT_or (k := false) rfl (fun _ => rfl) fun z => nomatch z
theorem fmt_long {ds : List D} (h : 200 < ds.length) : m_format_samples [.val (.lst ds)] = some (.error ⟨6, []⟩, [.un]) := by
  refine defM_er (env1 := [.val (.lst ds), .un]) (exs_er ?_)
  have ht := t_long (ds := ds)
  rw [decide_eq_true (by omega)] at ht
  exact (if_yes ht).trans (exs_er rfl)
def cmpF : IX := .comp (.nm 1) .seq [(.var 0)] none (.and (.call "is_any_stack" [(.var 1)]) (.op .eq (.op .idx (.var 1) (.con (.int 0))) (.con (.str "main")))) [1]
theorem fmt_turn {ds : List D} {d : D} (h : okS d) : ev g2 (.and (.call "is_any_stack" [(.var 1)]) (.op .eq (.op .idx (.var 1) (.con (.int 0))) (.con (.str "main")))) [.val (.lst ds), .val d] = some (.ok (.val (.bl (stackOk d))), [.val (.lst ds), .val d]) := by
  have h1 : ev g2 (.call "is_any_stack" [(.var 1)]) [.val (.lst ds), .val d] = some (.ok (.val (.bl (isS d))), [.val (.lst ds), .val d]) := ev_call (os := [.slot 1]) (as := [.val d]) (org := [none]) (outs := [.un]) (env2 := [.val (.lst ds), .val d]) g2_stack rfl rfl (sem_is_any_stack h)
  cases hk : isS d with
  | false =>
    have e : stackOk d = false := by
      unfold stackOk
      split
      · rw [hk]; rfl
      · rfl
    rw [hk] at h1
    rw [e]
    exact ev_and (k := false) (l := false) h1 (fun z => nomatch z) fun _ => rfl
  | true =>
    rw [hk] at h1
    have : ∃ x r, d = .tup (.str x :: r) := by
      cases d with
      | tup es =>
        have hk : (lenOk es.length && es.all isND) = true := hk
        obtain ⟨a, b⟩ := Bool.and_eq_true_iff.mp hk
        cases es with
        | nil => exact absurd (lenOk_iff.mp a).1 (by decide)
        | cons y r =>
          have hy := List.all_eq_true.mp b y (List.mem_cons_self ..)
          cases y with
          | str x => exact ⟨x, r, rfl⟩
          | _ => cases hy
      | _ => cases hk
    obtain ⟨x, r, rfl⟩ := this
    have e : stackOk (.tup (.str x :: r)) = decide (x = "main") := by
      show (isS (.tup (.str x :: r)) && decide (x = "main")) = _
      rw [hk]
      rfl
    rw [e]
    refine ev_and (k := true) h1 (fun _ => ?_) fun z => nomatch z
    exact ev_op (opd_of rfl (ev_op (x := .var 1) (y := .con (.int 0)) rfl rfl rfl rfl (idx_tup (n := 0) rfl))) rfl rfl rfl rfl
theorem fmt_all {ds : List D} (h : ∀ d ∈ ds, okS d) (hl : ds.length ≤ 200) : evT g2 (.not (.tru (.bi .all [cmpF]))) [.val (.lst ds), .un] = some (.ok (!ds.all stackOk), [.val (.lst ds), .un]) := by
  have ct : turns [1] (turnM g2 (.nm 1) none (.and (.call "is_any_stack" [(.var 1)]) (.op .eq (.op .idx (.var 1) (.con (.int 0))) (.con (.str "main"))))) (ds.map id) [.val (.lst ds), .un] = some (ds.map (fun d => D.bl (stackOk d)), [.val (.lst ds), .un]) := by
    rw [turns_map (g := fun d => some (D.bl (stackOk d))) fun d hd => ⟨[.val (.lst ds), .val d], by
      show ((dataM (ev g2 _)).bind fun x => M.ret (some x)) [.val (.lst ds), .val d] = _
      rw [bind_at (data_at (fmt_turn (h d hd)))]
      rfl, rfl⟩, fm_some]
  rw [List.map_id] at ct
  refine evT_not (evT_bl rfl ?_)
  refine ev_bi (os := [.val (.lst (ds.map fun d => D.bl (stackOk d)))]) (evA_1 (opd_of rfl (comp_at (v := 1) (k := .seq) (d := .lst ds) (env2 := [.val (.lst ds), .un]) rfl rfl (by omega) rfl ct rfl))) rfl ?_
  show (boolsOf _).map _ = _
  rw [bools_map]
  show some (RV.val (.bl ((ds.map stackOk).all id))) = _
  rw [all_map]
theorem fmt_bad {ds : List D} (h : ∀ d ∈ ds, okS d) (hb : ds.all stackOk = false) : m_format_samples [.val (.lst ds)] = some (.error ⟨6, []⟩, [.un]) := by
  by_cases hl : 200 < ds.length
  · exact fmt_long hl
  refine defM_er (env1 := [.val (.lst ds), .un]) ?_
  have ht := t_long (ds := ds)
  rw [decide_eq_false (by omega)] at ht
  have ha := fmt_all h (by omega)
  rw [hb] at ha
  exact (exs_next ((if_no ht).trans rfl)).trans (exs_er ((if_yes ha).trans (exs_er rfl)))
theorem fmt_ok {ss : List (List Str)} (h : ∀ ns ∈ ss, Stk ns) (hl : ss.length ≤ 200) : m_format_samples [.val (.lst (toSs ss))] = some (.ok (.val (.str (due ss))), [.un]) := by
  have hn : (toSs ss).length = ss.length := List.length_map ..
  have hk : ∀ d ∈ toSs ss, okS d := fun d hd => by
    obtain ⟨ns, hs, rfl⟩ := List.mem_map.mp hd
    exact (h ns hs).okS
  have hb : (toSs ss).all stackOk = true := List.all_eq_true.mpr fun d hd => by
    obtain ⟨ns, hs, rfl⟩ := List.mem_map.mp hd
    exact (h ns hs).ok
  refine defM_ret (env1 := [.val (.lst (toSs ss)), .un]) ?_
  have ht := t_long (ds := toSs ss)
  rw [decide_eq_false (by omega)] at ht
  have ha := fmt_all hk (by omega)
  rw [hb] at ha
  refine (exs_next ((if_no ht).trans rfl)).trans ((exs_next ((if_no ha).trans rfl)).trans (exs_ret (ex_ret ?_)))
  have ct : turns [1] (turnM g2 (.nm 1) none (.meth .join (.con (.str ".")) [(.var 1)])) (toSs ss) [.val (.lst (toSs ss)), .un] = some ((ss.map word).map D.str, [.val (.lst (toSs ss)), .un]) := by
    show turns [1] _ (ss.map toS) _ = _
    rw [turns_map (g := fun ns => some (D.str (word ns))) fun ns hs => ⟨[.val (.lst (toSs ss)), .val (toS ns)], by
      show ((dataM (ev g2 (.meth .join (.con (.str ".")) [(.var 1)]))).bind fun x => M.ret (some x)) [.val (.lst (toSs ss)), .val (toS ns)] = _
      rw [bind_at (data_at (turn_join rfl (h ns hs)))]
      rfl, rfl⟩, fm_some, List.map_map]
    rfl
  have hd := due_sum h
  exact ev_meth (m := .join) (t := " ") (ds := [.lst ((ss.map word).map D.str)]) rfl (evA_1 (opd_of rfl (comp_at (v := 1) (k := .seq) (d := .lst (toSs ss)) (env2 := [.val (.lst (toSs ss)), .un]) rfl rfl (by omega) rfl ct rfl))) rfl (join_sem (by rw [sp_len]; unfold LIM; omega))
end K56

set_option maxHeartbeats 4000000
/-! K56q: the two readers. -/
namespace K56
open PySem PySem.Spec PyProof.Rows L2 TL Dl

theorem sepD : Sep "." 46 := ⟨rfl, by decide⟩
theorem sepS : Sep " " 32 := ⟨rfl, by decide⟩
def parts (w : Str) : List Str := Txt.split w "."
def toW (w : Str) : D := .tup ((parts w).map D.str)
def wordsOf (t : Str) : List Str := if t = "" then [] else Txt.split t " "
def go : Nat → List D → List Str → Except Nat (List D)
  | _, found, [] => .ok found
  | n, found, w :: ws => if (decide ((found.length : Int) = 200) || !stackOk (toW w)) = true then .error n else go (n + 1) (found ++ [toW w]) ws
theorem split_sem {a b : Str} {s : Nat} (hs : Sep b s) (h : a.length + 2 ≤ LIM) : meth .split (.str a) [.str b] = some (.new ((Txt.split a b).map D.str)) := by
  have hb : b.length = 1 := by rw [len_tl, hs.1]; rfl
  show (if (b.length == 0) = false ∧ a.length + 2 ≤ LIM then some (RV.new ((Txt.split a b).map D.str)) else none) = _
  rw [if_pos ⟨by rw [hb]; rfl, h⟩]
theorem okW {w : Str} (h : w.length + 2 ≤ LIM) : okS (toW w) := fun e he => by
  obtain ⟨p, hp, rfl⟩ := List.mem_map.mp he
  have := split_len sepD hp
  show p.length ≤ LIM
  omega
theorem parts_head (w : Str) : ∃ x r, parts w = x :: r := by
  cases h : parts w with
  | nil => exact absurd h (split_ne sepD)
  | cons x r => exact ⟨x, r, rfl⟩
/-! parse_samples -/
def bodyP : List IS := [.asg 4 (.bi .tuple [(.meth .split (.var 3) [(.con (.str "."))])]), .ifs (.or (.tru (.op .eq (.bi .len [(.var 1)]) (.con (.int 200)))) (.or (.not (.tru (.call "is_any_stack" [(.var 4)]))) (.tru (.op .ne (.op .idx (.var 4) (.con (.int 0))) (.con (.str "main")))))) [.raise 14 ["line", "word"] [(.con (.int 0)), (.var 2)]] [], .app 1 (.var 4)]
theorem g3_stack : g3.fn "is_any_stack" = some ⟨[false], m_is_any_stack⟩ := rfl
theorem turnP {t w : Str} {n : Nat} {found : List D} {s2 s3 s4 : Slot} (h : w.length + 2 ≤ LIM) (hf : found.length ≤ 1000) : ∃ e4, ((setTg (.tp [2, 3]) (.tup [.int (n : Int), .str w])).bind fun _ => exs g3 bodyP) [.val (.str t), .own false found, s2, s3, s4] =
    if (decide ((found.length : Int) = 200) || !stackOk (toW w)) = true then some (.error ⟨14, [("word", .int (n : Int)), ("line", .int 0)]⟩, [.val (.str t), .own false found, .val (.int (n : Int)), .val (.str w), e4])
    else some (.ok .next, [.val (.str t), .own false (found ++ [toW w]), .val (.int (n : Int)), .val (.str w), e4]) := by
  refine ⟨.val (toW w), ?_⟩
  have e0 : setTg (.tp [2, 3]) (.tup [.int (n : Int), .str w]) [.val (.str t), .own false found, s2, s3, s4] = some (.ok (), [.val (.str t), .own false found, .val (.int (n : Int)), .val (.str w), s4]) := rfl
  rw [bind_at e0]
  have e1 : ev g3 (.bi .tuple [(.meth .split (.var 3) [(.con (.str "."))])]) [.val (.str t), .own false found, .val (.int (n : Int)), .val (.str w), s4] = some (.ok (.val (toW w)), [.val (.str t), .own false found, .val (.int (n : Int)), .val (.str w), s4]) :=
    ev_bi (evA_1 (opd_of rfl (ev_meth (t := w) (os := [.val (.str ".")]) (ds := [.str "."]) rfl rfl rfl (split_sem sepD h)))) rfl rfl
  generalize he : ([.val (.str t), .own false found, .val (.int (n : Int)), .val (.str w), .val (toW w)] : Envs) = env
  have t1 : evT g3 (.tru (.op .eq (.bi .len [(.var 1)]) (.con (.int 200)))) env = some (.ok (decide ((found.length : Int) = 200)), env) := by subst he; rfl
  have t2 : evT g3 (.not (.tru (.call "is_any_stack" [(.var 4)]))) env = some (.ok (!isS (toW w)), env) := by
    subst he
    exact evT_not (evT_bl rfl (ev_call (os := [.slot 4]) (as := [.val (toW w)]) (org := [none]) (outs := [.un]) (env2 := [.val (.str t), .own false found, .val (.int (n : Int)), .val (.str w), .val (toW w)]) g3_stack rfl rfl (sem_is_any_stack (okW h))))
  obtain ⟨x, r, hx⟩ := parts_head w
  have t3 : evT g3 (.tru (.op .ne (.op .idx (.var 4) (.con (.int 0))) (.con (.str "main")))) env = some (.ok (!decide (x = "main")), env) := by
    subst he
    have : toW w = .tup (.str x :: r.map D.str) := by unfold toW; rw [hx]; rfl
    rw [this]
    exact evT_bl rfl (ev_op (opd_of rfl (ev_op (x := .var 4) (y := .con (.int 0)) rfl rfl rfl rfl (idx_tup (n := 0) rfl))) rfl rfl rfl rfl)
  have t23 := evT_or t2 (fun _ => t3) fun _ => rfl
  have t4 := evT_or t1 (fun _ => t23) fun _ => rfl
  have es : (!isS (toW w) || !decide (x = "main")) = !stackOk (toW w) := by
    have : toW w = .tup (.str x :: r.map D.str) := by unfold toW; rw [hx]; rfl
    rw [this]
    show _ = !(isS (.tup (.str x :: r.map D.str)) && decide (x = "main"))
    rw [Bool.not_and]
  rw [es] at t4
  unfold bodyP
  refine (exs_next (ex_asg e1)).trans ?_
  show exs g3 _ [.val (.str t), .own false found, .val (.int (n : Int)), .val (.str w), .val (toW w)] = _
  rw [he]
  cases hb : (decide ((found.length : Int) = 200) || !stackOk (toW w)) with
  | true =>
    rw [hb] at t4
    rw [exs_er ((if_yes t4).trans (exs_er (by subst he; rfl))), if_pos rfl]
    subst he
    rfl
  | false =>
    rw [hb] at t4
    rw [exs_next ((if_no t4).trans rfl), if_neg (by decide)]
    subst he
    exact exs_next (ex_app (i := 1) (x := .var 4) (env1 := [.val (.str t), .own false found, .val (.int (n : Int)), .val (.str w), .val (toW w)]) (d := toW w) (io := false) (ds := found) rfl rfl rfl (by unfold LIM; omega))
theorem loopP {t : Str} : ∀ (ws : List Str) (n : Nat) (found : List D) (s2 s3 s4 : Slot), (∀ w ∈ ws, w.length + 2 ≤ LIM) → found.length ≤ 200 → ∃ e2 e3 e4 : Slot,
    match go n found ws with
    | .ok fs => loopM (fun d => (setTg (.tp [2, 3]) d).bind fun _ => exs g3 bodyP) (enumD n (ws.map D.str)) [.val (.str t), .own false found, s2, s3, s4] = some (.ok .next, [.val (.str t), .own false fs, e2, e3, e4])
    | .error m => ∃ fs, loopM (fun d => (setTg (.tp [2, 3]) d).bind fun _ => exs g3 bodyP) (enumD n (ws.map D.str)) [.val (.str t), .own false found, s2, s3, s4] = some (.error ⟨14, [("word", .int (m : Int)), ("line", .int 0)]⟩, [.val (.str t), .own false fs, e2, e3, e4])
  | [], n, found, s2, s3, s4, _, _ => ⟨s2, s3, s4, rfl⟩
  | w :: ws, n, found, s2, s3, s4, h, hf => by
    obtain ⟨e4, ht⟩ := turnP (t := t) (w := w) (n := n) (found := found) (s2 := s2) (s3 := s3) (s4 := s4) (h w (List.mem_cons_self ..)) (by omega)
    unfold go
    cases hb : (decide ((found.length : Int) = 200) || !stackOk (toW w)) with
    | true =>
      rw [hb, if_pos rfl] at ht
      rw [if_pos rfl]
      exact ⟨_, _, _, found, loop_er (f := fun d => (setTg (.tp [2, 3]) d).bind fun _ => exs g3 bodyP) ht⟩
    | false =>
      rw [hb, if_neg (by decide)] at ht
      rw [if_neg (by decide)]
      have hf2 : (found ++ [toW w]).length ≤ 200 := by
        have : decide ((found.length : Int) = 200) = false := (Bool.or_eq_false_iff.mp hb).1
        have := of_decide_eq_false this
        rw [List.length_append, List.length_singleton]
        omega
      obtain ⟨a2, a3, a4, ih⟩ := loopP ws (n + 1) (found ++ [toW w]) _ _ _ (fun z hz => h z (List.mem_cons_of_mem _ hz)) hf2
      refine ⟨a2, a3, a4, ?_⟩
      have step := loop_next (f := fun d => (setTg (.tp [2, 3]) d).bind fun _ => exs g3 bodyP) (ds := enumD (n + 1) (ws.map D.str)) ht
      cases hg : go (n + 1) (found ++ [toW w]) ws with
      | ok fs =>
        rw [hg] at ih
        exact step.trans ih
      | error m =>
        rw [hg] at ih
        obtain ⟨fs, ih⟩ := ih
        exact ⟨fs, step.trans ih⟩
theorem words_ne {t : Str} {G : Gx} {env : Envs} (h0 : env[0]? = some (.val (.str t))) (hl : t.length + 2 ≤ LIM) : evD G [(.ite (.tru (.op .ne (.var 0) (.con (.str "")))) (.meth .split (.var 0) [(.con (.str " "))]) (.lst []))] env = some (.ok [.lst ((wordsOf t).map D.str)], env) := by
  have r0 : res env (.slot 0) = some (.str t) := by unfold res; simp only [h0]
  have o0 : opd (.var 0) (ev G (.var 0)) env = some (.ok (.slot 0), env) := by
    show slotM 0 env = _
    unfold slotM
    rw [h0]
  have d0 : dataM (ev G (.var 0)) env = some (.ok (.str t), env) := by
    have : ev G (.var 0) env = some (.ok (.val (.str t)), env) := by
      show rdVar 0 env = _
      unfold rdVar
      rw [h0]
    exact data_at this
  have tt : evT G (.tru (.op .ne (.var 0) (.con (.str "")))) env = some (.ok (!decide (t = "")), env) := evT_bl rfl (ev_op o0 rfl r0 rfl rfl)
  refine evD_1 ?_
  have key : ev G (.ite (.tru (.op .ne (.var 0) (.con (.str "")))) (.meth .split (.var 0) [(.con (.str " "))]) (.lst [])) env = some (.ok (.new ((wordsOf t).map D.str)), env) := by
    rw [ev_ite tt]
    unfold wordsOf
    by_cases e : t = ""
    · rw [decide_eq_true e, if_neg (by decide), if_pos e]
      rfl
    · rw [decide_eq_false e, if_pos (by decide), if_neg e]
      exact ev_meth (os := [.val (.str " ")]) (ds := [.str " "]) d0 rfl rfl (split_sem sepS hl)
  exact data_at key
theorem words_len {t w : Str} (hw : w ∈ wordsOf t) : w.length ≤ t.length := by
  unfold wordsOf at hw
  split at hw
  · cases hw
  · exact split_len sepS hw
/-- parse_samples -/
theorem sem_parse {t : Str} (hl : t.length + 2 ≤ LIM) : m_parse_samples [.val (.str t)] = match go 0 [] (wordsOf t) with
    | .ok fs => some (.ok (.new fs), [.un])
    | .error m => some (.error ⟨14, [("word", .int (m : Int)), ("line", .int 0)]⟩, [.un]) := by
  have e1 : ex g3 (.ifs (.not (.tru (.isi (.var 0) .tStr))) [.raise 14 ["line", "word"] [(.con .non), (.con .non)]] []) [.val (.str t), .un, .un, .un, .un] = some (.ok .next, [.val (.str t), .un, .un, .un, .un]) := rfl
  have e2 : ex g3 (.asg 1 (.lst [])) [.val (.str t), .un, .un, .un, .un] = some (.ok .next, [.val (.str t), .own false [], .un, .un, .un]) := rfl
  have e3 := ex_for (G := g3) (t := .tp [2, 3]) (k := .enum) (body := bodyP) (words_ne (G := g3) (env := [.val (.str t), .own false [], .un, .un, .un]) rfl hl) rfl
  obtain ⟨a2, a3, a4, hL⟩ := loopP (t := t) (wordsOf t) 0 [] .un .un .un (fun w hw => by have := words_len hw; omega) (by simp)
  cases hg : go 0 [] (wordsOf t) with
  | ok fs =>
    rw [hg] at hL
    refine defM_ret (env1 := [.val (.str t), .un, a2, a3, a4]) ?_
    exact (exs_next e1).trans ((exs_next e2).trans ((exs_next (e3.trans hL)).trans (exs_ret rfl)))
  | error m =>
    rw [hg] at hL
    obtain ⟨fs, hL⟩ := hL
    refine defM_er (env1 := [.val (.str t), .own false fs, a2, a3, a4]) ?_
    exact (exs_next e1).trans ((exs_next e2).trans (exs_er (e3.trans hL)))
end K56

set_option maxHeartbeats 4000000
/-! K56r: the law's own reader; told, refused. -/
namespace K56
open PySem PySem.Spec PyProof.Rows L2 TL Dl

theorem sem_lis_name {s : Str} (hl : s.length ≤ LIM) : m_lis_name [.val (.str s)] = some (.ok (.val (.bl (isN s))), [.un]) := by
  have lb : biLen [.str s] = some (.val (.int s.length)) := if_pos hl
  refine defM_ret (env1 := [.val (.str s)]) (exs_ret (ex_ret ?_))
  have hc := len_chain (G := g9) (env := [.val (.str s)]) (x := .var 0) (o := .slot 0) rfl rfl lb
  have hs : ev g9 (.op .eq (.meth .strip (.var 0) [(.con (.str LET))]) (.con (.str ""))) [.val (.str s)] = some (.ok (.val (.bl (decide (Txt.stripChars s LET = "")))), [.val (.str s)]) := by
    refine ev_op (opd_of rfl (ev_meth (t := s) (os := [.val (.str LET)]) (ds := [.str LET]) (r := .val (.str (Txt.stripChars s LET))) rfl rfl rfl ?_)) rfl rfl rfl rfl
    exact if_pos hl
  have e : decide (Txt.stripChars s LET = "") = (tl s).all fun c => decide (c ∈ tl LET) := by
    rw [Bool.eq_iff_iff, decide_eq_true_eq, List.all_eq_true]
    refine (strip_empty (x := s) (y := LET)).trans ⟨fun h c hc => decide_eq_true (h c hc), fun h c hc => of_decide_eq_true (h c hc)⟩
  rw [e] at hs
  exact ev_and hc (fun _ => hs) fun _ => rfl
theorem g10_name : g10.fn "_law_is_name" = some ⟨[false], m_lis_name⟩ := rfl
/-! the reader -/
def cmpR : IX := .comp (.nm 5) .seq [(.var 4)] (some (.not (.tru (.call "_law_is_name" [(.var 5)])))) (.var 5) [5]
def bodyR : List IS := [.asg 4 (.meth .split (.var 3) [(.con (.str "."))]), .ifs (.or (.tru (.op .eq (.bi .len [(.var 1)]) (.con (.int 200)))) (.or (.tru (.op .ne (.op .idx (.var 4) (.con (.int 0))) (.con (.str "main")))) (.tru (.op .gt (.bi .len [(.var 4)]) (.con (.int 8)))))) [.ret (.lst [(.lst [(.con (.int 0)), (.var 2)])])] [], .ifs (.tru (.op .ne cmpR (.lst []))) [.ret (.lst [(.lst [(.con (.int 0)), (.var 2)])])] [], .app 1 (.bi .tuple [(.var 4)])]
theorem nod_strs : ∀ l : List Str, D.nods (l.map D.str) = true
  | [] => rfl
  | _ :: l => nod_strs l
theorem lay_strs : ∀ {l : List Str}, (∀ x ∈ l, Plain x) → PyData.canLayAll0 (D.pys (l.map D.str)) = true
  | [], _ => rfl
  | x :: l, h => by
    show (PyData.strOk x && PyData.canLayAll0 (D.pys (l.map D.str))) = true
    rw [(h x (List.mem_cons_self ..)).ok, lay_strs fun y hy => h y (List.mem_cons_of_mem _ hy)]
    rfl
theorem depth_strs : ∀ l : List Str, PyData.depthAll (D.pys (l.map D.str)) = 0
  | [] => rfl
  | x :: l => by
    show max 0 (PyData.depthAll (D.pys (l.map D.str))) = 0
    rw [depth_strs l]
    rfl
theorem ne_nil {l : List Str} (h : ∀ x ∈ l, Plain x) : eqD (.lst (l.map D.str)) (.lst []) = some l.isEmpty := by
  have o1 : D.okd (.lst (l.map D.str)) = true := by
    show (D.nods (l.map D.str) && (PyData.canLayAll0 (D.pys (l.map D.str)) && decide (PyData.depthAll (D.pys (l.map D.str)) + 1 ≤ 64))) = true
    rw [nod_strs, lay_strs h, depth_strs]
    rfl
  have o2 : D.okd (.lst []) = true := by decide +kernel
  show (if (D.okd (.lst (l.map D.str)) && D.okd (.lst [])) = true then _ else _) = _
  rw [o1, o2]
  cases l <;> rfl
theorem filt {α : Type} (p : α → Bool) : ∀ l : List α, l.filterMap (fun x => if p x = true then some x else none) = l.filter p
  | [] => rfl
  | x :: l => by
    rw [List.filterMap_cons, List.filter_cons, filt p l]
    cases p x <;> rfl
theorem cmpR_ev {env : Envs} {a0 a1 a2 a3 : Slot} {ns : List Str} (hl : ∀ x ∈ ns, x.length ≤ LIM) (hn : ns.length ≤ 1000000) {s5 : Slot} (h5 : isOwnB (some s5) = false) :
    ev g10 cmpR [a0, a1, a2, a3, .own false (ns.map D.str), s5] = some (.ok (.new ((ns.filter fun x => !isN x).map D.str)), [a0, a1, a2, a3, .val (.lst (ns.map D.str)), s5]) := by
  have ct : turns [5] (turnM g10 (.nm 5) (some (.not (.tru (.call "_law_is_name" [(.var 5)])))) (.var 5)) (ns.map D.str) [a0, a1, a2, a3, .val (.lst (ns.map D.str)), .un] = some ((ns.filter fun x => !isN x).map D.str, [a0, a1, a2, a3, .val (.lst (ns.map D.str)), .un]) := by
    have step : ∀ x ∈ ns, ∃ env', turnM g10 (.nm 5) (some (.not (.tru (.call "_law_is_name" [(.var 5)])))) (.var 5) (.str x) [a0, a1, a2, a3, .val (.lst (ns.map D.str)), .un] = some (.ok (if (!isN x) = true then some (D.str x) else none), env') ∧ wipeE env' [5] = [a0, a1, a2, a3, .val (.lst (ns.map D.str)), .un] := fun x hx => by
      refine ⟨[a0, a1, a2, a3, .val (.lst (ns.map D.str)), .val (.str x)], ?_, rfl⟩
      have hc : evT g10 (.not (.tru (.call "_law_is_name" [(.var 5)]))) [a0, a1, a2, a3, .val (.lst (ns.map D.str)), .val (.str x)] = some (.ok (!isN x), [a0, a1, a2, a3, .val (.lst (ns.map D.str)), .val (.str x)]) :=
        evT_not (evT_bl rfl (ev_call (os := [.slot 5]) (as := [.val (.str x)]) (org := [none]) (outs := [.un]) (env2 := [a0, a1, a2, a3, .val (.lst (ns.map D.str)), .val (.str x)]) g10_name rfl rfl (sem_lis_name (hl x hx))))
      show ((evT g10 (.not (.tru (.call "_law_is_name" [(.var 5)])))).bind fun k => if k then (dataM (ev g10 (.var 5))).bind fun x => M.ret (some x) else M.ret none) [a0, a1, a2, a3, .val (.lst (ns.map D.str)), .val (.str x)] = _
      rw [bind_at hc]
      cases isN x <;> rfl
    rw [turns_map (g := fun x => if (!isN x) = true then some (D.str x) else none) step]
    have e : ∀ l : List Str, l.filterMap (fun x => if (!isN x) = true then some (D.str x) else none) = (l.filter fun x => !isN x).map D.str := by
      intro l
      induction l with
      | nil => rfl
      | cons x l ih =>
        rw [List.filterMap_cons, List.filter_cons, ih]
        cases isN x <;> rfl
    rw [e]
  have q := ev_comp (G := g10) (tg := .nm 5) (k := .seq) (its := [.var 4]) (t := some (.not (.tru (.call "_law_is_name" [(.var 5)])))) (x := .var 5) (vs := [5]) (env := [a0, a1, a2, a3, .own false (ns.map D.str), s5]) (env1 := [a0, a1, a2, a3, .val (.lst (ns.map D.str)), s5]) (env2 := [a0, a1, a2, a3, .val (.lst (ns.map D.str)), .un])
    (ds := [.lst (ns.map D.str)]) (evD_1 rfl) rfl (by rw [List.length_map]; exact hn) (by show (isOwnB (some s5) || false) = false; rw [h5]; rfl) ct
  exact q
theorem stack_iff {w x : Str} {r : List Str} (hx : parts w = x :: r) : stackOk (toW w) = (decide (x = "main") && (decide ((parts w).length ≤ 8) && (parts w).all isN)) := by
  have e1 : toW w = .tup (.str x :: r.map D.str) := by unfold toW; rw [hx]; rfl
  rw [e1]
  show (lenOk (D.str x :: r.map D.str).length && (D.str x :: r.map D.str).all isND && decide (x = "main")) = _
  have e2 : (D.str x :: r.map D.str).all isND = (parts w).all isN := by
    rw [hx]
    show ((x :: r).map D.str).all isND = _
    rw [List.all_map]
    rfl
  have e3 : lenOk (D.str x :: r.map D.str).length = decide ((parts w).length ≤ 8) := by
    rw [hx, List.length_cons, List.length_map, List.length_cons, Bool.eq_iff_iff, lenOk_iff, decide_eq_true_eq]
    omega
  rw [e2, e3, Bool.and_comm]
theorem turnR {t w : Str} {n : Nat} {found : List D} {s2 s3 s4 s5 : Slot} (hp : Plain w) (h : w.length + 2 ≤ 1000000) (hf : found.length ≤ 1000) (h5 : isOwnB (some s5) = false) : ∃ e4, ((setTg (.tp [2, 3]) (.tup [.int (n : Int), .str w])).bind fun _ => exs g10 bodyR) [.val (.str t), .own false found, s2, s3, s4, s5] =
    if (decide ((found.length : Int) = 200) || !stackOk (toW w)) = true then some (.ok (.ret (.new [.lst [.int 0, .int (n : Int)]])), [.val (.str t), .own false found, .val (.int (n : Int)), .val (.str w), e4, s5])
    else some (.ok .next, [.val (.str t), .own false (found ++ [toW w]), .val (.int (n : Int)), .val (.str w), e4, s5]) := by
  have hL : w.length + 2 ≤ LIM := by unfold LIM; omega
  have e0 : setTg (.tp [2, 3]) (.tup [.int (n : Int), .str w]) [.val (.str t), .own false found, s2, s3, s4, s5] = some (.ok (), [.val (.str t), .own false found, .val (.int (n : Int)), .val (.str w), s4, s5]) := rfl
  rw [bind_at e0]
  have e1 : ev g10 (.meth .split (.var 3) [(.con (.str "."))]) [.val (.str t), .own false found, .val (.int (n : Int)), .val (.str w), s4, s5] = some (.ok (.new ((parts w).map D.str)), [.val (.str t), .own false found, .val (.int (n : Int)), .val (.str w), s4, s5]) :=
    ev_meth (t := w) (os := [.val (.str ".")]) (ds := [.str "."]) rfl rfl rfl (split_sem sepD hL)
  generalize he : ([.val (.str t), .own false found, .val (.int (n : Int)), .val (.str w), .own false ((parts w).map D.str), s5] : Envs) = env
  have t1 : evT g10 (.tru (.op .eq (.bi .len [(.var 1)]) (.con (.int 200)))) env = some (.ok (decide ((found.length : Int) = 200)), env) := by subst he; rfl
  obtain ⟨x, r, hx⟩ := parts_head w
  have t2 : evT g10 (.tru (.op .ne (.op .idx (.var 4) (.con (.int 0))) (.con (.str "main")))) env = some (.ok (!decide (x = "main")), env) := by
    subst he
    rw [hx]
    exact evT_bl rfl (ev_op (opd_of rfl (ev_op (x := .var 4) (y := .con (.int 0)) rfl rfl rfl rfl (idx_lst (ds := (x :: r).map D.str) (n := 0) rfl))) rfl rfl rfl rfl)
  have t3 : evT g10 (.tru (.op .gt (.bi .len [(.var 4)]) (.con (.int 8)))) env = some (.ok (decide ((8 : Int) < (((parts w).map D.str).length : Int))), env) := by subst he; rfl
  have t23 := evT_or t2 (fun _ => t3) fun _ => rfl
  have t4 := evT_or t1 (fun _ => t23) fun _ => rfl
  have hs := stack_iff hx
  have hg : decide ((8 : Int) < (((parts w).map D.str).length : Int)) = !decide ((parts w).length ≤ 8) := by
    rw [List.length_map, Bool.eq_iff_iff, Bool.not_eq_true', decide_eq_true_eq, decide_eq_false_iff_not]
    omega
  rw [hg] at t4
  unfold bodyR
  have hx2 : ∀ y ∈ parts w, y.length ≤ w.length := fun y hy => split_len sepD hy
  cases hb : (decide ((found.length : Int) = 200) || (!decide (x = "main") || !decide ((parts w).length ≤ 8))) with
  | true =>
    refine ⟨.own false ((parts w).map D.str), ?_⟩
    have hb2 : (decide ((found.length : Int) = 200) || !stackOk (toW w)) = true := by
      rw [hs]
      revert hb
      cases decide ((found.length : Int) = 200) <;> cases decide (x = "main") <;> cases decide ((parts w).length ≤ 8) <;> cases (parts w).all isN <;> decide
    rw [hb2, if_pos rfl]
    rw [hb] at t4
    refine (exs_next (ex_asg e1)).trans ?_
    show exs g10 _ [.val (.str t), .own false found, .val (.int (n : Int)), .val (.str w), .own false ((parts w).map D.str), s5] = _
    rw [he]
    refine exs_ret ((if_yes t4).trans (exs_ret ?_))
    subst he
    rfl
  | false =>
    refine ⟨.val (.lst ((parts w).map D.str)), ?_⟩
    rw [hb] at t4
    have hb2 : (decide ((found.length : Int) = 200) || !stackOk (toW w)) = !(parts w).all isN := by
      rw [hs]
      revert hb
      cases decide ((found.length : Int) = 200) <;> cases decide (x = "main") <;> cases decide ((parts w).length ≤ 8) <;> cases (parts w).all isN <;> decide
    rw [hb2]
    refine (exs_next (ex_asg e1)).trans ?_
    show exs g10 _ [.val (.str t), .own false found, .val (.int (n : Int)), .val (.str w), .own false ((parts w).map D.str), s5] = _
    rw [he]
    refine (exs_next ((if_no t4).trans rfl)).trans ?_
    subst he
    have hn8 : (parts w).length ≤ 1000000 := by
      have z := split_sum (x := w) sepD
      have : (parts w).length ≤ w.length + 1 := by
        unfold parts
        omega
      omega
    have ec := cmpR_ev (a0 := .val (.str t)) (a1 := .own false found) (a2 := .val (.int (n : Int))) (a3 := .val (.str w)) (ns := parts w) (s5 := s5) (env := []) (fun y hy => by have := hx2 y hy; omega) hn8 h5
    have hnn := ne_nil (l := (parts w).filter fun x => !isN x) fun y hy => hp.split sepD (List.mem_filter.mp hy).1
    have hem : ((parts w).filter fun x => !isN x).isEmpty = (parts w).all isN := by
      rw [Bool.eq_iff_iff, List.isEmpty_iff, List.filter_eq_nil_iff, List.all_eq_true]
      exact ⟨fun z y hy => by have := z y hy; simpa using this, fun z y hy => by simp [z y hy]⟩
    rw [hem] at hnn
    have t5 : evT g10 (.tru (.op .ne cmpR (.lst []))) [.val (.str t), .own false found, .val (.int (n : Int)), .val (.str w), .own false ((parts w).map D.str), s5] = some (.ok (!(parts w).all isN), [.val (.str t), .own false found, .val (.int (n : Int)), .val (.str w), .val (.lst ((parts w).map D.str)), s5]) := by
      refine evT_bl rfl (ev_op (opd_of rfl ec) rfl rfl rfl ?_)
      show (eqD (.lst (((parts w).filter fun x => !isN x).map D.str)) (.lst [])).map (fun b => RV.val (.bl (!b))) = _
      rw [hnn]
      rfl
    cases ha : (parts w).all isN with
    | false =>
      rw [ha] at t5
      exact exs_ret ((if_yes t5).trans (exs_ret rfl))
    | true =>
      rw [ha] at t5
      refine (exs_next ((if_no t5).trans rfl)).trans ?_
      exact exs_next (ex_app (i := 1) (x := .bi .tuple [.var 4]) (env1 := [.val (.str t), .own false found, .val (.int (n : Int)), .val (.str w), .val (.lst ((parts w).map D.str)), s5]) (d := toW w) (io := false) (ds := found) rfl rfl rfl (by unfold LIM; omega))
theorem loopR {t : Str} {s5 : Slot} (h5 : isOwnB (some s5) = false) : ∀ (ws : List Str) (n : Nat) (found : List D) (s2 s3 s4 : Slot), (∀ w ∈ ws, Plain w ∧ w.length + 2 ≤ 1000000) → found.length ≤ 200 → ∃ e2 e3 e4 : Slot,
    match go n found ws with
    | .ok fs => loopM (fun d => (setTg (.tp [2, 3]) d).bind fun _ => exs g10 bodyR) (enumD n (ws.map D.str)) [.val (.str t), .own false found, s2, s3, s4, s5] = some (.ok .next, [.val (.str t), .own false fs, e2, e3, e4, s5])
    | .error m => ∃ fs, loopM (fun d => (setTg (.tp [2, 3]) d).bind fun _ => exs g10 bodyR) (enumD n (ws.map D.str)) [.val (.str t), .own false found, s2, s3, s4, s5] = some (.ok (.ret (.new [.lst [.int 0, .int (m : Int)]])), [.val (.str t), .own false fs, e2, e3, e4, s5])
  | [], n, found, s2, s3, s4, _, _ => ⟨s2, s3, s4, rfl⟩
  | w :: ws, n, found, s2, s3, s4, h, hf => by
    obtain ⟨hp, hl⟩ := h w (List.mem_cons_self ..)
    obtain ⟨e4, ht⟩ := turnR (t := t) (w := w) (n := n) (found := found) (s2 := s2) (s3 := s3) (s4 := s4) (s5 := s5) hp hl (by omega) h5
    unfold go
    cases hb : (decide ((found.length : Int) = 200) || !stackOk (toW w)) with
    | true =>
      rw [hb, if_pos rfl] at ht
      rw [if_pos rfl]
      exact ⟨_, _, _, found, loop_ret (f := fun d => (setTg (.tp [2, 3]) d).bind fun _ => exs g10 bodyR) ht⟩
    | false =>
      rw [hb, if_neg (by decide)] at ht
      rw [if_neg (by decide)]
      have hf2 : (found ++ [toW w]).length ≤ 200 := by
        have : decide ((found.length : Int) = 200) = false := (Bool.or_eq_false_iff.mp hb).1
        have := of_decide_eq_false this
        rw [List.length_append, List.length_singleton]
        omega
      obtain ⟨a2, a3, a4, ih⟩ := loopR h5 ws (n + 1) (found ++ [toW w]) _ _ _ (fun z hz => h z (List.mem_cons_of_mem _ hz)) hf2
      refine ⟨a2, a3, a4, ?_⟩
      have step := loop_next (f := fun d => (setTg (.tp [2, 3]) d).bind fun _ => exs g10 bodyR) (ds := enumD (n + 1) (ws.map D.str)) ht
      cases hg : go (n + 1) (found ++ [toW w]) ws with
      | ok fs =>
        rw [hg] at ih
        exact step.trans ih
      | error m =>
        rw [hg] at ih
        obtain ⟨fs, ih⟩ := ih
        exact ⟨fs, step.trans ih⟩
/-- what both readers tell -/
def told (t : Str) : D := match go 0 [] (wordsOf t) with
  | .ok fs => .lst fs
  | .error m => .lst [.lst [.int 0, .int (m : Int)]]
def toldL (t : Str) : List D := match go 0 [] (wordsOf t) with
  | .ok fs => fs
  | .error m => [.lst [.int 0, .int (m : Int)]]
theorem words_plain {t w : Str} (h : Plain t) (hw : w ∈ wordsOf t) : Plain w := by
  unfold wordsOf at hw
  split at hw
  · cases hw
  · exact h.split sepS hw
theorem sem_read {t : Str} (hp : Plain t) (hl : t.length + 2 ≤ 1000000) : m_read [.val (.str t)] = some (.ok (.new (toldL t)), [.un]) := by
  have hL : t.length + 2 ≤ LIM := by unfold LIM; omega
  have e1 : ex g10 (.ifs (.not (.tru (.isi (.var 0) .tStr))) [.ret (.lst [(.lst [(.con .non), (.con .non)])])] []) [.val (.str t), .un, .un, .un, .un, .un] = some (.ok .next, [.val (.str t), .un, .un, .un, .un, .un]) := rfl
  have e2 : ex g10 (.asg 1 (.lst [])) [.val (.str t), .un, .un, .un, .un, .un] = some (.ok .next, [.val (.str t), .own false [], .un, .un, .un, .un]) := rfl
  have e3 := ex_for (G := g10) (t := .tp [2, 3]) (k := .enum) (body := bodyR) (words_ne (G := g10) (env := [.val (.str t), .own false [], .un, .un, .un, .un]) rfl hL) rfl
  obtain ⟨a2, a3, a4, hLp⟩ := loopR (t := t) (s5 := .un) rfl (wordsOf t) 0 [] .un .un .un (fun w hw => ⟨words_plain hp hw, by have := words_len hw; omega⟩) (by simp)
  unfold toldL
  cases hg : go 0 [] (wordsOf t) with
  | ok fs =>
    rw [hg] at hLp
    refine defM_ret (env1 := [.val (.str t), .un, a2, a3, a4, .un]) ?_
    exact (exs_next e1).trans ((exs_next e2).trans ((exs_next (e3.trans hLp)).trans (exs_ret rfl)))
  | error m =>
    rw [hg] at hLp
    obtain ⟨fs, hLp⟩ := hLp
    refine defM_ret (env1 := [.val (.str t), .own false fs, a2, a3, a4, .un]) ?_
    exact (exs_next e1).trans ((exs_next e2).trans (exs_ret (e3.trans hLp)))
/-! ### _law_kind, _law_told, _law_refused -/
theorem kind_text {x y : D} : m_kind [.exn ⟨14, [("word", x), ("line", y)]⟩] = some (.ok (.val (.str "text")), [.un]) := by kernel_rfl
theorem kind_samples : m_kind [.exn ⟨6, []⟩] = some (.ok (.val (.str "samples")), [.un]) := by kernel_rfl
end K56

set_option maxHeartbeats 400000
/-! K56s: told, refused; what repr asks. -/
namespace K56
open PySem PySem.Spec PyProof.Rows L2 TL Dl

theorem g11_parse : g11.fn "parse_samples" = some ⟨[false], m_parse_samples⟩ := by kernel_rfl
theorem g11_kind : g11.hot "_law_kind" = some ⟨[false], m_kind⟩ := by kernel_rfl
theorem told_kind {d : D} {x : Exn} (h : m_kind [.exn x] = some (.ok (.val (.str "text")), [.un])) : evT g11 (.tru (.op .eq (.hcall "_law_kind" [(.var 1)]) (.con (.str "text")))) [.val d, .exn x] = some (.ok true, [.val d, .exn x]) := by
  have hk : ev g11 (.hcall "_law_kind" [(.var 1)]) [.val d, .exn x] = some (.ok (.val (.str "text")), [.val d, .exn x]) := ev_hcall (os := [.slot 1]) (as := [.exn x]) (org := [none]) (outs := [.un]) (env2 := [.val d, .exn x]) g11_kind rfl rfl h
  exact evT_bl rfl (ev_op (opd_of rfl hk) rfl rfl rfl (by kernel_rfl))
theorem told_pair {d a b : D} : ev g11 (.lst [(.lst [(.efld 1 "line"), (.efld 1 "word")])]) [.val d, .exn ⟨14, [("word", b), ("line", a)]⟩] = some (.ok (.new [.lst [a, b]]), [.val d, .exn ⟨14, [("word", b), ("line", a)]⟩]) := by kernel_rfl
theorem g11_sub : g11.sub 14 0 = some true := by kernel_rfl
theorem told_er {d a b : D} (h : m_parse_samples [.val d] = some (.error ⟨14, [("word", b), ("line", a)]⟩, [.un])) : m_told [.val d] = some (.ok (.new [.lst [a, b]]), [.un]) := by
  have hb : exs g11 [.ret (.call "parse_samples" [(.var 0)])] [.val d, .un] = some (.error ⟨14, [("word", b), ("line", a)]⟩, [.val d, .un]) := by
    refine exs_er ?_
    show ((evR _ (ev g11 (.call "parse_samples" [(.var 0)]))).bind fun r => M.ret (Flow'.ret r)) _ = _
    exact bind_er (ev_call (os := [.slot 0]) (as := [.val d]) (org := [none]) (outs := [.un]) (env2 := [.val d, .un]) g11_parse rfl rfl h)
  have hs : exs g11 [.ret (.ite (.tru (.op .eq (.hcall "_law_kind" [(.var 1)]) (.con (.str "text")))) (.lst [(.lst [(.efld 1 "line"), (.efld 1 "word")])]) (.con (.str "odd")))] [.val d, .exn ⟨14, [("word", b), ("line", a)]⟩] = some (.ok (.ret (.new [.lst [a, b]])), [.val d, .exn ⟨14, [("word", b), ("line", a)]⟩]) := by
    refine exs_ret (ex_ret ?_)
    refine (ev_ite (told_kind kind_text)).trans ?_
    rw [if_pos rfl]
    exact told_pair
  exact defM_ret (exs_ret (ex_try_er hb g11_sub hs))
theorem sem_told {t : Str} (hl : t.length + 2 ≤ LIM) : m_told [.val (.str t)] = some (.ok (.new (toldL t)), [.un]) := by
  have hp := sem_parse hl
  unfold toldL
  cases hg : go 0 [] (wordsOf t) with
  | ok fs =>
    rw [hg] at hp
    refine defM_ret (env1 := [.val (.str t), .un]) (exs_ret ?_)
    exact ex_try_ok (exs_ret (ex_ret (ev_call (os := [.slot 0]) (as := [.val (.str t)]) (org := [none]) (outs := [.un]) (env2 := [.val (.str t), .un]) g11_parse rfl rfl hp)))
  | error m =>
    rw [hg] at hp
    exact told_er hp
theorem g12_fmt : g12.fn "format_samples" = some ⟨[false], m_format_samples⟩ := by kernel_rfl
theorem g12_kind : g12.hot "_law_kind" = some ⟨[false], m_kind⟩ := by kernel_rfl
theorem sem_refused {d : D} (h : m_format_samples [.val d] = some (.error ⟨6, []⟩, [.un])) : m_refused [.val d] = some (.ok (.val (.bl true)), [.un]) := by
  refine defM_ret (env1 := [.val d, .un]) (exs_ret ?_)
  have hb : exs g12 [.expr (.call "format_samples" [(.var 0)])] [.val d, .un] = some (.error ⟨6, []⟩, [.val d, .un]) := by
    refine exs_er ?_
    show ((ev g12 (.call "format_samples" [(.var 0)])).bind fun r => M.ret Flow'.next) _ = _
    exact bind_er (ev_call (os := [.slot 0]) (as := [.val d]) (org := [none]) (outs := [.un]) (env2 := [.val d, .un]) g12_fmt rfl rfl h)
  refine ex_try_er hb (by kernel_rfl) (env2 := [.val d, .exn ⟨6, []⟩]) (exs_ret (ex_ret ?_))
  have hk : ev g12 (.hcall "_law_kind" [(.var 1)]) [.val d, .exn ⟨6, []⟩] = some (.ok (.val (.str "samples")), [.val d, .exn ⟨6, []⟩]) :=
    ev_hcall (fi := ⟨[false], m_kind⟩) (q := .ok (.val (.str "samples"))) (os := [.slot 1]) (as := [.exn ⟨6, []⟩]) (org := [none]) (outs := [.un]) (env1 := [.val d, .exn ⟨6, []⟩]) (env2 := [.val d, .exn ⟨6, []⟩]) g12_kind (by kernel_rfl) (by kernel_rfl) kind_samples
  exact ev_op (opd_of rfl hk) rfl rfl rfl (by kernel_rfl)
/-! ### repr -/
/-- repr gives an answer -/
def Shows (d : D) : Prop := d.nod = true ∧ d.py.showable = true ∧ d.py.depth ≤ 60 ∧ d.py.shown.length ≤ LIM
theorem Shows.sem {d : D} (h : Shows d) : bi .repr [d] = some (.val (.str d.py.shown)) := by
  obtain ⟨h1, h2, h3, h4⟩ := h
  show (if (d.nod && d.py.showable && decide (d.py.depth ≤ 60) && decide (d.py.shown.length ≤ LIM)) = true then some (RV.val (.str d.py.shown)) else none) = _
  rw [h1, h2, decide_eq_true h3, decide_eq_true h4]
  rfl
theorem repr_len {s : Str} (h : Plain s) : (reprText s).length ≤ 10 * s.length + 2 := StrLaws.reprText_len s fun c hc => Nat.lt_of_lt_of_le (h c hc) (by decide)
theorem shows_str {s : Str} (h : Plain s) (hl : s.length ≤ 1000000) : Shows (.str s) := by
  refine ⟨rfl, rfl, Nat.zero_le _, ?_⟩
  have := repr_len h
  show (reprText s).length ≤ LIM
  unfold LIM
  omega
theorem list_len (ts : List Str) : (listText ts).length ≤ piled ts + 2 := by
  unfold listText
  rw [app_len]
  have e1 : (("]" : Str)).length = 1 := rfl
  cases ts with
  | nil => rw [e1]; decide +kernel
  | cons t r =>
    have h := textFrom_length_pos r 1 (("[" : Str) ++ (if (0 : Nat) > 0 then ", " else "" : String) ++ t) (Nat.succ_pos 0)
    have e : (textFrom 0 "[" (t :: r)).length = (textFrom 1 (("[" : Str) ++ (if (0 : Nat) > 0 then ", " else "" : String) ++ t) r).length := rfl
    rw [e, h, app_len, app_len, piled_cons, e1]
    have e2 : (("[" : Str)).length = 1 := rfl
    have e3 : ((if (0 : Nat) > 0 then ", " else "" : String) : Str).length = 0 := rfl
    rw [e2, e3]
    omega
theorem tuple_len (ts : List Str) : (tupleText ts).length ≤ piled ts + 3 := by
  unfold tupleText
  rw [app_len, app_len]
  have e2 : (("(" : Str)).length = 1 := rfl
  have e3 : ((if ts.length == 1 then ",)" else ")" : String) : Str).length ≤ 2 := by
    split
    · exact Nat.le_refl 2
    · show 1 ≤ 2
      decide
  have e4 : (Str.join ", " ts).length ≤ piled ts := by
    cases ts with
    | nil => exact Nat.zero_le _
    | cons t r =>
      have := join_length_add (t :: r) (by simp)
      omega
  rw [e2]
  omega
theorem piled_le {b : Nat} : ∀ {ts : List Str}, (∀ t ∈ ts, t.length ≤ b) → piled ts ≤ (b + 2) * ts.length
  | [], _ => by simp [piled]
  | t :: ts, h => by
    rw [piled_cons, List.length_cons, Nat.mul_succ]
    have h1 := h t (List.mem_cons_self ..)
    have h2 := piled_le (ts := ts) fun y hy => h y (List.mem_cons_of_mem _ hy)
    omega
theorem let_plain {s : Str} (h : isN s = true) : Plain s := fun c hc => by
  have hm := isN_let h c hc
  have : ∀ c ∈ tl LET, c < 0x110000 := by decide +kernel
  exact this c hm
theorem shown_strs : ∀ l : List Str, PyData.shownAll (D.pys (l.map D.str)) = l.map reprText
  | [] => rfl
  | x :: l => by
    show reprText x :: PyData.shownAll (D.pys (l.map D.str)) = _
    rw [shown_strs l]
    rfl
theorem showable_strs : ∀ l : List Str, PyData.showableAll (D.pys (l.map D.str)) = true
  | [] => rfl
  | x :: l => by
    show (true && PyData.showableAll (D.pys (l.map D.str))) = true
    rw [showable_strs l]
    rfl
theorem stk_shown {ns : List Str} (h : Stk ns) : (toS ns).py.shown.length ≤ 675 := by
  show (tupleText (PyData.shownAll (D.pys (ns.map D.str)))).length ≤ _
  rw [shown_strs]
  have h1 := tuple_len (ns.map reprText)
  have h2 := piled_le (ts := ns.map reprText) (b := 82) fun t ht => by
    obtain ⟨x, hx, rfl⟩ := List.mem_map.mp ht
    have := repr_len (let_plain (h.nm x hx))
    have := (isN_len (h.nm x hx)).2
    omega
  rw [List.length_map] at h2
  have := h.len
  have h3 : 84 * ns.length ≤ 84 * 8 := Nat.mul_le_mul_left 84 this
  omega
theorem stks : ∀ ss : List (List Str), (∀ ns ∈ ss, Stk ns) → D.nods (toSs ss) = true ∧ PyData.showableAll (D.pys (toSs ss)) = true ∧ PyData.depthAll (D.pys (toSs ss)) ≤ 1 ∧ ∀ t ∈ PyData.shownAll (D.pys (toSs ss)), t.length ≤ 675
  | [], _ => ⟨rfl, rfl, Nat.zero_le _, fun t h => nomatch h⟩
  | ns :: ss, h => by
    obtain ⟨h1, h2, h3, h4⟩ := stks ss fun n hn => h n (List.mem_cons_of_mem _ hn)
    refine ⟨?_, ?_, ?_, fun t ht => ?_⟩
    · show (D.nods (ns.map D.str) && D.nods (toSs ss)) = true
      rw [nod_strs, h1]
      rfl
    · show (PyData.showableAll (D.pys (ns.map D.str)) && PyData.showableAll (D.pys (toSs ss))) = true
      rw [showable_strs, h2]
      rfl
    · show max (PyData.depthAll (D.pys (ns.map D.str)) + 1) (PyData.depthAll (D.pys (toSs ss))) ≤ 1
      rw [depth_strs]
      omega
    · have ht : t ∈ (toS ns).py.shown :: PyData.shownAll (D.pys (toSs ss)) := ht
      rcases List.mem_cons.mp ht with e | ht
      · rw [e]
        exact stk_shown (h ns (List.mem_cons_self ..))
      · exact h4 t ht
theorem shownAll_len : ∀ ds : List D, (PyData.shownAll (D.pys ds)).length = ds.length
  | [] => rfl
  | _ :: ds => congrArg (· + 1) (shownAll_len ds)
theorem shows_stks {ss : List (List Str)} (h : ∀ ns ∈ ss, Stk ns) (hl : ss.length ≤ 200) : Shows (.lst (toSs ss)) := by
  obtain ⟨h1, h2, h3, h4⟩ := stks ss h
  refine ⟨h1, h2, ?_, ?_⟩
  · show PyData.depthAll (D.pys (toSs ss)) + 1 ≤ 60
    omega
  · show (listText (PyData.shownAll (D.pys (toSs ss)))).length ≤ LIM
    have a := list_len (PyData.shownAll (D.pys (toSs ss)))
    have b := piled_le h4
    rw [shownAll_len] at b
    have c : (toSs ss).length = ss.length := List.length_map ..
    rw [c] at b
    have d : 677 * ss.length ≤ 677 * 200 := Nat.mul_le_mul_left 677 hl
    unfold LIM
    omega
theorem shows_pair {m : Nat} (h : m < 10 ^ 7) : Shows (.lst [.lst [.int 0, .int (m : Int)]]) := by
  have e0 : (PyData.shown (.int 0)).length = 1 := by decide +kernel
  have e1 : (PyData.shown (.int (m : Int))).length ≤ 7 := by
    show (Str.ofString (toString (m : Int))).length ≤ 7
    rw [len_tl, tl_num]
    exact numL_len (by decide) h
  refine ⟨rfl, ?_, (show (2 : Nat) ≤ 60 by decide), ?_⟩
  · show ((decide ((0 : Int).natAbs.log2 < 1920) && (decide ((m : Int).natAbs.log2 < 1920) && true)) && true) = true
    have : (m : Int).natAbs.log2 < 1920 := by
      rw [Int.natAbs_natCast]
      by_cases hm : m = 0
      · subst hm; decide +kernel
      · exact (Nat.log2_lt hm).mpr (Nat.lt_of_lt_of_le h (by decide +kernel))
    rw [decide_eq_true this]
    rfl
  · show (listText [listText [PyData.shown (.int 0), PyData.shown (.int (m : Int))]]).length ≤ LIM
    have a := list_len [PyData.shown (.int 0), PyData.shown (.int (m : Int))]
    have b := list_len [listText [PyData.shown (.int 0), PyData.shown (.int (m : Int))]]
    rw [piled_cons, piled_cons, piled_nil] at a
    rw [piled_cons, piled_nil] at b
    unfold LIM
    omega
end K56

set_option maxHeartbeats 400000
/-! K56t: what is written is read again. -/
namespace K56
open PySem PySem.Spec PyProof.Rows L2 TL Dl

theorem stk_of {w : Str} (h : stackOk (toW w) = true) : Stk (parts w) := by
  obtain ⟨x, r, hx⟩ := parts_head w
  rw [stack_iff hx] at h
  simp only [Bool.and_eq_true, decide_eq_true_eq, List.all_eq_true] at h
  obtain ⟨h1, h2, h3⟩ := h
  exact ⟨by rw [hx, h1]; rfl, h2, h3⟩
theorem go_ok : ∀ {ws : List Str} {n : Nat} {found fs : List D}, go n found ws = .ok fs → (∃ ss, found = toSs ss ∧ (∀ ns ∈ ss, Stk ns) ∧ ss.length ≤ 200) → ∃ ss, fs = toSs ss ∧ (∀ ns ∈ ss, Stk ns) ∧ ss.length ≤ 200
  | [], n, found, fs, h, hf => by cases h; exact hf
  | w :: ws, n, found, fs, h, ⟨ss, h1, h2, h3⟩ => by
    unfold go at h
    cases hb : (decide ((found.length : Int) = 200) || !stackOk (toW w)) with
    | true => rw [hb, if_pos rfl] at h; cases h
    | false =>
      rw [hb, if_neg (by decide)] at h
      obtain ⟨b1, b2⟩ := Bool.or_eq_false_iff.mp hb
      have b1 := of_decide_eq_false b1
      have b2 : stackOk (toW w) = true := by simpa using b2
      refine go_ok h ⟨ss ++ [parts w], ?_, ?_, ?_⟩
      · rw [h1]
        unfold toSs
        rw [List.map_append]
        rfl
      · intro ns hn
        rcases List.mem_append.mp hn with hn | hn
        · exact h2 ns hn
        · rw [List.mem_singleton.mp hn]
          exact stk_of b2
      · rw [h1] at b1
        have : (toSs ss).length = ss.length := List.length_map ..
        rw [List.length_append, List.length_singleton]
        omega
theorem go_er : ∀ {ws : List Str} {n m : Nat} {found : List D}, go n found ws = .error m → m < n + ws.length
  | [], n, m, found, h => by cases h
  | w :: ws, n, m, found, h => by
    unfold go at h
    split at h
    · cases h
      rw [List.length_cons]
      omega
    · have := go_er h
      rw [List.length_cons]
      omega
theorem words_count (t : Str) : (wordsOf t).length ≤ t.length + 1 := by
  unfold wordsOf
  split
  · exact Nat.zero_le _
  · have := split_sum (x := t) sepS
    omega
theorem shows_told {t : Str} (h : t.length ≤ 1000000) : Shows (.lst (toldL t)) := by
  unfold toldL
  cases hg : go 0 [] (wordsOf t) with
  | ok fs =>
    obtain ⟨ss, e, h1, h2⟩ := go_ok hg ⟨[], rfl, (fun ns hn => nomatch hn), Nat.zero_le _⟩
    subst e
    exact shows_stks h1 h2
  | error m =>
    have a := go_er hg
    have b := words_count t
    exact shows_pair (by have : (10 : Nat) ^ 7 = 10000000 := by decide
                         omega)
/-! round -/
theorem join_mem (y : Str) : ∀ {parts : List Str} {c : Nat}, c ∈ tl (Txt.join y parts) → c ∈ tl y ∨ ∃ p ∈ parts, c ∈ tl p
  | [], c, h => by rw [join_eq] at h; cases h
  | [p], c, h => by rw [join_eq] at h; exact .inr ⟨p, List.mem_singleton.mpr rfl, h⟩
  | p :: q :: r, c, h => by
    have ih := join_mem y (parts := q :: r) (c := c)
    rw [join_eq] at h ih
    have h : c ∈ tl (p ++ y ++ Str.join y (q :: r)) := h
    rw [tl_append, tl_append] at h
    rcases List.mem_append.mp h with h | h
    · rcases List.mem_append.mp h with h | h
      · exact .inr ⟨p, List.mem_cons_self .., h⟩
      · exact .inl h
    · rcases ih h with z | ⟨p', hp, z⟩
      · exact .inl z
      · exact .inr ⟨p', List.mem_cons_of_mem _ hp, z⟩
theorem let_no : ∀ c ∈ tl LET, c ≠ 46 ∧ c ≠ 32 := by decide +kernel
theorem Stk.ne {ns : List Str} (h : Stk ns) : ns ≠ [] := fun z => by
  have := h.hd
  rw [z] at this
  cases this
theorem parts_word {ns : List Str} (h : Stk ns) : parts (word ns) = ns :=
  split_join (y := ".") (s := 46) (S := []) rfl (by decide +kernel) h.ne fun p hp z => (let_no 46 (isN_let (h.nm p hp) 46 z)).1 rfl
theorem word_sp {ns : List Str} (h : Stk ns) : 32 ∉ tl (word ns) := fun z => by
  rcases join_mem "." z with z | ⟨p, hp, z⟩
  · have : (32 : Nat) ∈ [46] := z
    simp at this
  · exact (let_no 32 (isN_let (h.nm p hp) 32 z)).2 rfl
theorem word_ne {ns : List Str} (h : Stk ns) : word ns ≠ "" := fun z => by
  have e := parts_word h
  rw [z] at e
  have e2 : parts "" = [("" : Str)] := by decide +kernel
  rw [e2] at e
  have := h.hd
  rw [← e] at this
  exact absurd this (by decide +kernel)
theorem words_due {ss : List (List Str)} (h : ∀ ns ∈ ss, Stk ns) : wordsOf (due ss) = ss.map word := by
  cases ss with
  | nil => decide +kernel
  | cons ns ss =>
    have e : Txt.split (due (ns :: ss)) " " = (ns :: ss).map word := split_join (y := " ") (s := 32) (S := []) rfl (by decide +kernel) (by simp) fun p hp => by
      obtain ⟨n, hn, rfl⟩ := List.mem_map.mp hp
      exact word_sp (h n hn)
    unfold wordsOf
    rw [if_neg, e]
    intro z
    rw [z] at e
    have e2 : Txt.split "" " " = [("" : Str)] := by decide +kernel
    rw [e2, List.map_cons] at e
    injection e with e3 e4
    exact word_ne (h ns (List.mem_cons_self ..)) e3.symm
theorem go_round : ∀ {ss : List (List Str)} {n : Nat} {found : List D}, (∀ ns ∈ ss, Stk ns) → found.length + ss.length ≤ 200 → go n found (ss.map word) = .ok (found ++ toSs ss)
  | [], n, found, _, _ => by
    show Except.ok found = _
    rw [show found ++ toSs [] = found from List.append_nil _]
  | ns :: ss, n, found, h, hl => by
    have hs := h ns (List.mem_cons_self ..)
    have ew : toW (word ns) = toS ns := by unfold toW; rw [parts_word hs]; rfl
    rw [List.length_cons] at hl
    rw [List.map_cons]
    unfold go
    rw [ew, hs.ok, decide_eq_false (by omega), if_neg (by decide)]
    rw [go_round (fun m hm => h m (List.mem_cons_of_mem _ hm)) (by rw [List.length_append, List.length_singleton]; omega), List.append_assoc]
    rfl
theorem told_due {ss : List (List Str)} (h : ∀ ns ∈ ss, Stk ns) (hl : ss.length ≤ 200) : go 0 [] (wordsOf (due ss)) = .ok (toSs ss) := by
  rw [words_due h, go_round h (by simpa using hl)]
  rfl
theorem due_plain {ss : List (List Str)} (h : ∀ ns ∈ ss, Stk ns) : Plain (due ss) := by
  refine Plain.join (show ∀ c ∈ tl (" " : Str), c < 0x110000 by decide +kernel) fun p hp => ?_
  obtain ⟨ns, hn, rfl⟩ := List.mem_map.mp hp
  exact Plain.join (show ∀ c ∈ tl ("." : Str), c < 0x110000 by decide +kernel) fun q hq => let_plain ((h ns hn).nm q hq)
/-! ### _law_right -/
theorem g15_fmt : g15.fn "format_samples" = some ⟨[false], m_format_samples⟩ := by kernel_rfl
theorem g15_parse : g15.fn "parse_samples" = some ⟨[false], m_parse_samples⟩ := by kernel_rfl
theorem ne_same {a : Str} : op2 .ne (.str a) (.str a) = some (.val (.bl false)) := by
  show (some (decide (a = a))).map (fun b => RV.val (.bl (!b))) = _
  rw [decide_eq_true rfl]
  rfl
theorem sem_right {ss : List (List Str)} (h : ∀ ns ∈ ss, Stk ns) (hl : ss.length ≤ 200) : m_right [.val (.lst (toSs ss))] = some (.ok (.val (.bl true)), [.un]) := by
  have hsh := shows_stks h hl
  have hdl := due_len h
  have hdp := due_plain h
  have hd1 : (due ss).length ≤ 1000000 := by omega
  have hds := shows_str hdp hd1
  generalize hK : (D.lst (toSs ss)).py.shown = Kp at hsh
  have r0 : bi .repr [.lst (toSs ss)] = some (.val (.str Kp)) := by rw [← hK]; exact (shows_stks h hl).sem
  have r1 : bi .repr [.str (due ss)] = some (.val (.str (D.str (due ss)).py.shown)) := hds.sem
  have hl2 : (toSs ss).length ≤ 200 := by
    unfold toSs
    rw [List.length_map]
    exact hl
  -- kept, due
  let e0 : Envs := [.val (.lst (toSs ss)), .un, .un, .un, .un, .un]
  have a1 : dataM (ev g15 (.bi .repr [.var 0])) e0 = some (.ok (.str Kp), e0) := data_at (ev_bi (os := [.slot 0]) (ds := [.lst (toSs ss)]) rfl rfl r0)
  have ct : turns [5] (turnM g15 (.nm 5) none (.meth .join (.con (.str ".")) [.var 5])) (toSs ss) e0 = some ((ss.map word).map D.str, e0) := by
    rw [show toSs ss = ss.map toS from rfl]
    rw [turns_map (g := fun ns => some (D.str (word ns))) fun ns hn => ⟨[.val (.lst (toSs ss)), .un, .un, .un, .un, .val (toS ns)], by
      show ((dataM (ev g15 (.meth .join (.con (.str ".")) [.var 5]))).bind fun x => M.ret (some x)) [.val (.lst (toSs ss)), .un, .un, .un, .un, .val (toS ns)] = _
      rw [bind_at (data_at (turn_join rfl (h ns hn)))]
      rfl, rfl⟩, fm_some, List.map_map]
    rfl
  have ec : ev g15 (.comp (.nm 5) .seq [(.var 0)] none (.meth .join (.con (.str ".")) [.var 5]) [5]) e0 = some (.ok (.new ((ss.map word).map D.str)), e0) :=
    ev_comp (env1 := e0) (env2 := e0) (ds := [.lst (toSs ss)]) (evD_1 rfl) rfl (by omega) rfl ct
  have hb := due_sum h
  have a2 : dataM (ev g15 (.meth .join (.con (.str " ")) [(.comp (.nm 5) .seq [(.var 0)] none (.meth .join (.con (.str ".")) [.var 5]) [5])])) e0 = some (.ok (.str (due ss)), e0) :=
    data_at (ev_meth (m := .join) (t := " ") (ds := [.lst ((ss.map word).map D.str)]) rfl (evA_1 (opd_of rfl ec)) rfl (join_sem (by rw [sp_len]; unfold LIM; omega)))
  have s1 := ex_par (i := 1) (j := 2) a1 a2
  -- the first test
  let e1 : Envs := [.val (.lst (toSs ss)), .val (.str Kp), .val (.str (due ss)), .un, .un, .un]
  have f1 : ev g15 (.call "format_samples" [(.var 0)]) e1 = some (.ok (.val (.str (due ss))), e1) := ev_call (os := [.slot 0]) (as := [.val (.lst (toSs ss))]) (org := [none]) (outs := [.un]) (env2 := e1) g15_fmt rfl rfl (fmt_ok h hl)
  have f2 : ev g15 (.bi .repr [.call "format_samples" [(.var 0)]]) e1 = some (.ok (.val (.str (D.str (due ss)).py.shown)), e1) := ev_bi (evA_1 (opd_of rfl f1)) rfl r1
  have f3 : ev g15 (.bi .repr [.var 2]) e1 = some (.ok (.val (.str (D.str (due ss)).py.shown)), e1) := ev_bi (os := [.slot 2]) (ds := [.str (due ss)]) rfl rfl r1
  have t1 : evT g15 (.tru (.op .ne (.bi .repr [.call "format_samples" [(.var 0)]]) (.bi .repr [.var 2]))) e1 = some (.ok false, e1) := evT_bl rfl (ev_op (opd_of rfl f2) (opd_of rfl f3) rfl rfl ne_same)
  have f4 : ev g15 (.bi .repr [.var 0]) e1 = some (.ok (.val (.str Kp)), e1) := ev_bi (os := [.slot 0]) (ds := [.lst (toSs ss)]) rfl rfl r0
  have t2 : evT g15 (.tru (.op .ne (.bi .repr [.var 0]) (.var 1))) e1 = some (.ok false, e1) := evT_bl rfl (ev_op (opd_of rfl f4) rfl rfl rfl ne_same)
  have t3 := evT_or (k := false) (l := false) t1 (fun _ => t2) fun z => nomatch z
  -- the loop
  have lp : ∃ env', loopM (fun d => (setTg (.nm 3) d).bind fun _ => exs g15 [.asg 4 (.call "parse_samples" [(.var 2)]), .ifs (.tru (.op .ne (.bi .repr [(.var 4)]) (.var 1))) [.ret (.con (.bl false))] [], .app 4 (.con (.int 0))]) (rangeD 0 2) e1 = some (.ok .next, env') ∧
      ∃ a b c, env' = [.val (.lst (toSs ss)), .val (.str Kp), .val (.str (due ss)), a, b, c] := by
    refine loop_inv (P := fun _ env => ∃ a b c, env = [.val (.lst (toSs ss)), .val (.str Kp), .val (.str (due ss)), a, b, c]) (k := 0) (n := 0) ⟨_, _, _, rfl⟩ ?_
    rintro d hd m env _ ⟨a, b, c, rfl⟩
    refine ⟨[.val (.lst (toSs ss)), .val (.str Kp), .val (.str (due ss)), .val d, .own false (toSs ss ++ [.int 0]), c], ?_, _, _, _, rfl⟩
    have b0 : setTg (.nm 3) d [.val (.lst (toSs ss)), .val (.str Kp), .val (.str (due ss)), a, b, c] = some (.ok (), [.val (.lst (toSs ss)), .val (.str Kp), .val (.str (due ss)), .val d, b, c]) := rfl
    rw [bind_at b0]
    have pr : m_parse_samples [.val (.str (due ss))] = some (.ok (.new (toSs ss)), [.un]) := by
      rw [sem_parse (by unfold LIM; omega), told_due h hl]
    have b1 : ev g15 (.call "parse_samples" [(.var 2)]) [.val (.lst (toSs ss)), .val (.str Kp), .val (.str (due ss)), .val d, b, c] = some (.ok (.new (toSs ss)), [.val (.lst (toSs ss)), .val (.str Kp), .val (.str (due ss)), .val d, b, c]) :=
      ev_call (os := [.slot 2]) (as := [.val (.str (due ss))]) (org := [none]) (outs := [.un]) (env2 := [.val (.lst (toSs ss)), .val (.str Kp), .val (.str (due ss)), .val d, b, c]) g15_parse rfl rfl pr
    refine (exs_next (ex_asg b1)).trans ?_
    let e2 : Envs := [.val (.lst (toSs ss)), .val (.str Kp), .val (.str (due ss)), .val d, .own false (toSs ss), c]
    show exs g15 _ e2 = _
    have b2 : ev g15 (.bi .repr [.var 4]) e2 = some (.ok (.val (.str Kp)), e2) := ev_bi (os := [.slot 4]) (ds := [.lst (toSs ss)]) rfl rfl r0
    have b3 : evT g15 (.tru (.op .ne (.bi .repr [(.var 4)]) (.var 1))) e2 = some (.ok false, e2) := evT_bl rfl (ev_op (opd_of rfl b2) rfl rfl rfl ne_same)
    refine (exs_next ((if_no b3).trans rfl)).trans ?_
    exact exs_next (ex_app (i := 4) (x := .con (.int 0)) (env1 := e2) (d := .int 0) (io := false) (ds := toSs ss) rfl rfl rfl (by unfold LIM; omega))
  obtain ⟨env', l1, a, b, c, rfl⟩ := lp
  have s3 := (ex_for (G := g15) (t := .nm 3) (k := .range1) (its := [(.con (.int 2))]) (env := e1) (env1 := e1) (ds := [.int 2]) rfl (by kernel_rfl)).trans l1
  refine defM_ret (env1 := [.val (.lst (toSs ss)), .val (.str Kp), .val (.str (due ss)), a, b, c]) ?_
  exact (exs_next s1).trans ((exs_next ((if_no t3).trans rfl)).trans ((exs_next s3).trans (exs_ret rfl)))
end K56

set_option maxHeartbeats 400000
/-! K56u: draws. -/
namespace K56
open PySem PySem.Spec PyProof.Rows L2 TL Dl
def WellOk (n : Nat) (w : List D) : Prop := ∃ a b c : Int, w = [.int a, .int b, .int c] ∧ 0 ≤ a ∧ 0 ≤ b ∧ b < 10 ^ 45 ∧ 0 ≤ c ∧ c ≤ n
theorem WellOk.mono {n m : Nat} {w : List D} (h : WellOk n w) (hm : n ≤ m) : WellOk m w := by
  obtain ⟨a, b, c, e, h1, h2, h3, h4, h5⟩ := h
  exact ⟨a, b, c, e, h1, h2, h3, h4, by omega⟩
theorem sem_pull {n : Nat} {w : List D} {m : Int} (hw : WellOk n w) (h0 : 0 < m) (h1 : m < 10 ^ 9) (hn : n ≤ 10 ^ 9) :
    ∃ r w', m_pull [.own true w, .val (.int m)] = some (.ok (.val (.int r)), [.own true w', .un]) ∧ 0 ≤ r ∧ r < m ∧ WellOk (n + 1) w' := by
  obtain ⟨a, b, c, rfl, ha, hb, hb2, hc, hc2⟩ := hw
  have wm : wide m = true := wide_of (by omega) (by omega)
  have t0 : evT g5 (.tru (.op .gt (.op .idx (.var 0) (.con (.int 0))) (.con (.int 0)))) [.own true [.int a, .int b, .int c], .val (.int m), .un, .un] = some (.ok (decide (0 < a)), [.own true [.int a, .int b, .int c], .val (.int m), .un, .un]) := rfl
  by_cases hp : 0 < a
  · rw [decide_eq_true hp] at t0
    refine ⟨a % m, [.int (a / m), .int b, .int c], ?_, Int.emod_nonneg _ (by omega), Int.emod_lt_of_pos _ h0, _, _, _, rfl, Int.ediv_nonneg ha (by omega), hb, hb2, hc, by omega⟩
    refine defM_ret (env1 := [.own true [.int (a / m), .int b, .int c], .val (.int m), .val (.int (a % m)), .un]) ?_
    refine exs_ret ((if_yes t0).trans ?_)
    have i0 : ∀ e2 : Slot, St g5 (.op .idx (.var 0) (.con (.int 0))) [.own true [.int a, .int b, .int c], .val (.int m), e2, .un] (.int a) := fun _ => St.opv (St.own rfl) St.con rfl
    have iv : ∀ e2 : Slot, St g5 (.var 1) [.own true [.int a, .int b, .int c], .val (.int m), e2, .un] (.int m) := fun _ => St.var rfl
    refine (exs_next (ex_asg ((i0 _).op (iv _) (op_mod h0)))).trans ?_
    refine (exs_next (ex_seti (io := true) (ds := [.int a, .int b, .int c]) (n := 0) (m := 0) (d := .int (a / m)) (St.data rfl (St.opv (i0 _) (iv _) (op_fdiv h0 wm))) rfl rfl rfl rfl)).trans ?_
    exact exs_ret rfl
  · rw [decide_eq_false hp] at t0
    have ea : a = 0 := by omega
    subst ea
    have w1 : wide (c + 1) = true := wide_of (by omega) (by omega)
    have p0 : 0 ≤ 86028157 * (c + 1) := by omega
    have w2 : wide (b + 86028157 * (c + 1)) = true := wide_of (by omega) (by omega)
    have k1 : (0 : Int) < 10 ^ 41 + 37 := by decide
    have k2 : (0 : Int) < 10 ^ 38 + 133 := by decide
    let x1 : Int := (b + 86028157 * (c + 1)) ^ 3 % (10 ^ 41 + 37)
    have x10 : 0 ≤ x1 := Int.emod_nonneg _ (by omega)
    have x11 : x1 < 10 ^ 41 + 37 := Int.emod_lt_of_pos _ k1
    have w3 : wide (x1 + 32452867 * (c + 1)) = true := wide_of (by omega) (by omega)
    let x2 : Int := (x1 + 32452867 * (c + 1)) ^ 2 % (10 ^ 38 + 133)
    have x20 : 0 ≤ x2 := Int.emod_nonneg _ (by omega)
    refine ⟨x2 / 10 ^ 8 % m, [.int 0, .int b, .int (c + 1)], ?_, Int.emod_nonneg _ (by omega), Int.emod_lt_of_pos _ h0, _, _, _, rfl, by omega, hb, hb2, by omega, by omega⟩
    refine defM_ret (env1 := [.own true [.int 0, .int b, .int (c + 1)], .val (.int m), .un, .val (.int x2)]) ?_
    refine (exs_next ((if_no t0).trans rfl)).trans ?_
    refine (exs_next (ex_seti (io := true) (ds := [.int 0, .int b, .int c]) (n := 2) (m := 2) (d := .int (c + 1)) rfl rfl rfl rfl rfl)).trans ?_
    show exs g5 _ [.own true [.int 0, .int b, .int (c + 1)], .val (.int m), .un, .un] = _
    have i1 : ∀ e3 : Slot, St g5 (.op .idx (.var 0) (.con (.int 1))) [.own true [.int 0, .int b, .int (c + 1)], .val (.int m), .un, e3] (.int b) := fun _ => St.opv (St.own rfl) St.con rfl
    have i2 : ∀ e3 : Slot, St g5 (.op .idx (.var 0) (.con (.int 2))) [.own true [.int 0, .int b, .int (c + 1)], .val (.int m), .un, e3] (.int (c + 1)) := fun _ => St.opv (St.own rfl) St.con rfl
    have q1 : ∀ e3 : Slot, St g5 (.op .add (.op .pow (.con (.int 10)) (.con (.int 41))) (.con (.int 37))) [.own true [.int 0, .int b, .int (c + 1)], .val (.int m), .un, e3] (.int (10 ^ 41 + 37)) := fun _ => St.opv (St.opv St.con St.con (op_powI (n := 41) (by decide +kernel) (by omega))) St.con rfl
    have q2 : ∀ e3 : Slot, St g5 (.op .add (.op .pow (.con (.int 10)) (.con (.int 38))) (.con (.int 133))) [.own true [.int 0, .int b, .int (c + 1)], .val (.int m), .un, e3] (.int (10 ^ 38 + 133)) := fun _ => St.opv (St.opv St.con St.con (op_powI (n := 38) (by decide +kernel) (by omega))) St.con rfl
    have q3 : ∀ e3 : Slot, St g5 (.op .pow (.con (.int 10)) (.con (.int 8))) [.own true [.int 0, .int b, .int (c + 1)], .val (.int m), .un, e3] (.int (10 ^ 8)) := fun _ => St.opv St.con St.con (op_powI (n := 8) (by decide +kernel) (by omega))
    refine (exs_next (ex_asg (St.op (St.opv (St.opv (i1 _) (St.opv St.con (i2 _) (op_mulI (by decide +kernel) w1)) rfl) St.con (op_powI (n := 3) w2 (by omega))) (q1 _) (op_mod k1)))).trans ?_
    show exs g5 _ [.own true [.int 0, .int b, .int (c + 1)], .val (.int m), .un, .val (.int x1)] = _
    have v3 : St g5 (.var 3) [.own true [.int 0, .int b, .int (c + 1)], .val (.int m), .un, .val (.int x1)] (.int x1) := St.var rfl
    refine (exs_next (ex_asg (St.op (St.opv (St.opv v3 (St.opv St.con (i2 _) (op_mulI (by decide +kernel) w1)) rfl) St.con (op_powI (n := 2) w3 (by omega))) (q2 _) (op_mod k2)))).trans ?_
    show exs g5 _ [.own true [.int 0, .int b, .int (c + 1)], .val (.int m), .un, .val (.int x2)] = _
    have v4 : St g5 (.var 3) [.own true [.int 0, .int b, .int (c + 1)], .val (.int m), .un, .val (.int x2)] (.int x2) := St.var rfl
    have v5 : St g5 (.var 1) [.own true [.int 0, .int b, .int (c + 1)], .val (.int m), .un, .val (.int x2)] (.int m) := St.var rfl
    exact exs_ret (ex_ret (St.op (St.opv v4 (q3 _) (op_fdiv (by decide) (by decide +kernel))) v5 (op_mod h0)))
/-- a draw as a callee -/
theorem ev_pull {G : Gx} {io : Bool} {i n : Nat} {w : List D} {m : Int} {x : IX} {env : Envs} (hG : G.fn "_law_pull" = some ⟨[true, false], m_pull⟩) (hv : isVar x = false) (hx : ev G x env = some (.ok (.val (.int m)), env))
    (hi : env[i]? = some (.own io w)) (hw : WellOk n w) (h0 : 0 < m) (h2 : m < 10 ^ 9) (hn : n ≤ 10 ^ 9) :
    ∃ r w', ev G (.call "_law_pull" [.var i, x]) env = some (.ok (.val (.int r)), env.set i (.own io w')) ∧ 0 ≤ r ∧ r < m ∧ WellOk (n + 1) w' := by
  obtain ⟨r, w', h, r0, r1, hw'⟩ := sem_pull hw h0 h2 hn
  refine ⟨r, w', ?_, r0, r1, hw'⟩
  have ho : opd (.var i) (ev G (.var i)) env = some (.ok (.slot i), env) := by
    show slotM i env = _
    unfold slotM
    rw [hi]
  have ha : evA G [.var i, x] env = some (.ok [.slot i, .val (.int m)], env) := evA_c ho (evA_1 (opd_of hv hx))
  have hb : bindA [true, false] [.slot i, .val (.int m)] env = some ([.own true w, .val (.int m)], [some (i, io), none], env.set i .un) := by
    show (env[i]?.bind lent).bind _ = _
    rw [hi]
    rfl
  refine (ev_call hG ha hb h).trans ?_
  show some (Except.ok (RV.val (.int r)), (env.set i .un).set i (.own io w')) = _
  rw [List.set_set]
end K56

set_option maxHeartbeats 400000
/-! K56v: a source of draws, names, samples. -/
namespace K56
open PySem PySem.Spec PyProof.Rows L2 TL Dl
theorem sem_well {ns : List Int} {k : Nat} (hk : k < 5) : ∃ w, m_well [.val (.scr ns), .val (.int (k : Int))] = some (.ok (.new w), [.un, .un]) ∧ WellOk 0 w := by
  have t0 : evT g4 (.tru (.op .lt (.var 1) (.bi .len [(.var 0)]))) [.val (.scr ns), .val (.int (k : Int)), .un] = some (.ok (decide ((k : Int) < (ns.length : Int))), [.val (.scr ns), .val (.int (k : Int)), .un]) := rfl
  have hc : ∃ c : Int, ev g4 (.ite (.tru (.op .lt (.var 1) (.bi .len [(.var 0)]))) (.op .idx (.var 0) (.var 1)) (.con (.int 0))) [.val (.scr ns), .val (.int (k : Int)), .un] = some (.ok (.val (.int c)), [.val (.scr ns), .val (.int (k : Int)), .un]) := by
    rw [ev_ite t0]
    by_cases h : k < ns.length
    · rw [decide_eq_true (by omega), if_pos rfl]
      exact ⟨ns[k], (St.var rfl).op (St.var rfl) (idx_scr (List.getElem?_eq_getElem h))⟩
    · rw [decide_eq_false (by omega), if_neg (by decide)]
      exact ⟨0, rfl⟩
  obtain ⟨c, hc⟩ := hc
  let a : Int := if c - 10 ^ 18 > 0 then c - 10 ^ 18 else 0
  let b : Int := (c % (10 ^ 39 + 3) + 3) * 128 + (k : Int)
  have k1 : (0 : Int) < 10 ^ 39 + 3 := by decide
  have b0 : 0 ≤ c % (10 ^ 39 + 3) := Int.emod_nonneg _ (by decide)
  have b1 : c % (10 ^ 39 + 3) < 10 ^ 39 + 3 := Int.emod_lt_of_pos _ k1
  refine ⟨[.int a, .int b, .int 0], ?_, a, b, 0, rfl, ?_, by omega, by omega, by omega, by omega⟩
  · refine defM_ret (env1 := [.val (.scr ns), .val (.int (k : Int)), .val (.int c)]) ?_
    refine (exs_next (ex_asg hc)).trans (exs_ret (ex_ret (ev_lst ?_)))
    show evD g4 _ [.val (.scr ns), .val (.int (k : Int)), .val (.int c)] = _
    have v2 : St g4 (.var 2) [.val (.scr ns), .val (.int (k : Int)), .val (.int c)] (.int c) := St.var rfl
    have p18 : St g4 (.op .pow (.con (.int 10)) (.con (.int 18))) [.val (.scr ns), .val (.int (k : Int)), .val (.int c)] (.int (10 ^ 18)) := St.opv St.con St.con (op_powI (n := 18) (by decide +kernel) (by omega))
    have p39 : St g4 (.op .add (.op .pow (.con (.int 10)) (.con (.int 39))) (.con (.int 3))) [.val (.scr ns), .val (.int (k : Int)), .val (.int c)] (.int (10 ^ 39 + 3)) := St.opv (St.opv St.con St.con (op_powI (n := 39) (by decide +kernel) (by omega))) St.con rfl
    refine evD_c (data_at (r := .val (.int a)) (St.bi2 St.con (St.opv v2 p18 rfl) rfl)) (evD_c (data_at (r := .val (.int b)) ?_) (evD_1 rfl))
    exact St.op (St.opv (St.opv (St.opv v2 p39 (op_mod k1)) St.con rfl) St.con (op_mulI (wide_of (by omega) (by omega)) (by decide +kernel))) (St.var rfl) rfl
  · show 0 ≤ if c - 10 ^ 18 > 0 then c - 10 ^ 18 else 0
    split <;> omega
/-! picks -/
theorem idx_in {ds : List D} {r : Int} (h0 : 0 ≤ r) (h1 : r < (ds.length : Int)) : ∃ d ∈ ds, op2 .idx (.lst ds) (.int r) = some (.val d) := by
  obtain ⟨n, rfl⟩ := Int.eq_ofNat_of_zero_le h0
  have hn : n < ds.length := by omega
  exact ⟨ds[n], List.getElem_mem hn, idx_lst (List.getElem?_eq_getElem hn)⟩
theorem idx_sign {s : Str} {r : Int} (h0 : 0 ≤ r) (h1 : r < (s.length : Int)) (hl : s.length ≤ LIM) : ∃ c ∈ tl s, op2 .idx (.str s) (.int r) = some (.val (.str ⟨#[c]⟩)) := by
  obtain ⟨n, rfl⟩ := Int.eq_ofNat_of_zero_le h0
  have hn : n < s.cps.toList.length := by have : s.length = s.cps.toList.length := len_tl s; omega
  refine ⟨s.cps.toList[n], List.getElem_mem hn, ?_⟩
  show (if s.length ≤ LIM then (atI s.cps.toList (n : Int)).map fun c => RV.val (.str ⟨#[c]⟩) else none) = _
  rw [if_pos hl, atI_nat (List.getElem?_eq_getElem hn)]
  rfl
theorem maps {α : Type} {m : α → D} {P : α → Prop} : ∀ {rs : List D}, (∀ x ∈ rs, ∃ y, x = m y ∧ P y) → ∃ ys : List α, rs = ys.map m ∧ ys.length = rs.length ∧ ∀ y ∈ ys, P y
  | [], _ => ⟨[], rfl, rfl, fun y h => nomatch h⟩
  | x :: rs, h => by
    obtain ⟨y, e, p⟩ := h x (List.mem_cons_self ..)
    obtain ⟨ys, e2, l2, p2⟩ := maps (rs := rs) fun z hz => h z (List.mem_cons_of_mem _ hz)
    refine ⟨y :: ys, by rw [e, e2]; rfl, by rw [List.length_cons, List.length_cons, l2], fun z hz => ?_⟩
    rcases List.mem_cons.mp hz with rfl | hz
    · exact p
    · exact p2 z hz
theorem join_none : ∀ parts : List Str, (Txt.join "" parts).length = (parts.map (·.length)).sum
  | [] => by rw [join_eq]; rfl
  | [p] => by
    rw [join_eq]
    show p.length = _
    simp
  | p :: q :: r => by
    have ih := join_none (q :: r)
    rw [join_eq] at ih ⊢
    show (p ++ "" ++ Str.join "" (q :: r)).length = _
    rw [len_tl, tl_append, tl_append, List.length_append, List.length_append, ← len_tl, ← len_tl, ← len_tl, List.map_cons, List.sum_cons]
    have : ("" : Str).length = 0 := by decide +kernel
    omega
theorem sum_ones {l : List Nat} (h : ∀ n ∈ l, n = 1) : l.sum = l.length := by
  induction l with
  | nil => rfl
  | cons n l ih =>
    rw [List.sum_cons, List.length_cons, h n (List.mem_cons_self ..), ih fun m hm => h m (List.mem_cons_of_mem _ hm), Nat.add_comm]
def letOk (s : Str) : Prop := 1 ≤ s.length ∧ s.length ≤ 26 ∧ ∀ c ∈ tl s, c ∈ tl LET
theorem g7_pull : g7.fn "_law_pull" = some ⟨[true, false], m_pull⟩ := by kernel_rfl
theorem sem_name {n : Nat} {w : List D} (hw : WellOk n w) (hn : n ≤ 10 ^ 8) : ∃ s w', m_name [.own true w] = some (.ok (.val (.str s)), [.own true w']) ∧ isN s = true ∧ WellOk (n + 12) w' := by
  -- letters
  obtain ⟨r1, w1, p1, a1, b1, hw1⟩ := ev_pull (G := g7) (i := 0) (x := .con (.int 3)) (env := [.own true w, .un, .un, .un, .un]) (m := 3) g7_pull rfl rfl rfl hw (by omega) (by omega) (by omega)
  obtain ⟨d1, m1, q1⟩ := idx_in (ds := [.str "ab", .str "mainxz", .str LET]) a1 b1
  have hl : ∃ s, d1 = .str s ∧ letOk s := by
    have k1 : letOk "ab" := ⟨by decide +kernel, by decide +kernel, by decide +kernel⟩
    have k2 : letOk "mainxz" := ⟨by decide +kernel, by decide +kernel, by decide +kernel⟩
    have k3 : letOk LET := ⟨by decide +kernel, by decide +kernel, fun c h => h⟩
    rcases List.mem_cons.mp m1 with e | m1
    · exact ⟨_, e, k1⟩
    rcases List.mem_cons.mp m1 with e | m1
    · exact ⟨_, e, k2⟩
    · exact ⟨_, List.mem_singleton.mp m1, k3⟩
  obtain ⟨ls, rfl, hls⟩ := hl
  have s1 : ex g7 (.asg 1 (.op .idx (.lst [(.con (.str "ab")), (.con (.str "mainxz")), (.con (.str LET))]) (.call "_law_pull" [(.var 0), (.con (.int 3))]))) [.own true w, .un, .un, .un, .un] = some (.ok .next, [.own true w1, .val (.str ls), .un, .un, .un]) :=
    ex_asg (ev_op (dx := .lst [.str "ab", .str "mainxz", .str LET]) (opd_of rfl (ev_lst rfl)) (opd_of rfl p1) rfl rfl q1)
  -- how many
  obtain ⟨r2, w2, p2, a2, b2, hw2⟩ := ev_pull (G := g7) (i := 0) (x := .con (.int 8)) (env := [.own true w1, .val (.str ls), .un, .un, .un]) (m := 8) g7_pull rfl rfl rfl hw1 (by omega) (by omega) (by omega)
  obtain ⟨r3, w3, p3, a3, b3, hw3⟩ := ev_pull (G := g7) (i := 0) (x := .con (.int 3)) (env := [.own true w2, .val (.str ls), .un, .un, .un]) (m := 3) g7_pull rfl rfl rfl hw2 (by omega) (by omega) (by omega)
  obtain ⟨d2, m2, q2⟩ := idx_in (ds := [.int 1, .int 8, .int (1 + r2)]) a3 b3
  have hk : ∃ k : Nat, d2 = .int (k : Int) ∧ 1 ≤ k ∧ k ≤ 8 := by
    rcases List.mem_cons.mp m2 with e | m2
    · exact ⟨1, e, by omega, by omega⟩
    rcases List.mem_cons.mp m2 with e | m2
    · exact ⟨8, e, by omega, by omega⟩
    · refine ⟨(1 + r2).toNat, ?_, by omega, by omega⟩
      rw [Int.toNat_of_nonneg (by omega)]
      exact List.mem_singleton.mp m2
  obtain ⟨k, rfl, k1, k8⟩ := hk
  have s2 : ex g7 (.asg 2 (.op .idx (.lst [(.con (.int 1)), (.con (.int 8)), (.op .add (.con (.int 1)) (.call "_law_pull" [(.var 0), (.con (.int 8))]))]) (.call "_law_pull" [(.var 0), (.con (.int 3))]))) [.own true w1, .val (.str ls), .un, .un, .un] = some (.ok .next, [.own true w3, .val (.str ls), .val (.int (k : Int)), .un, .un]) := by
    refine ex_asg (ev_op (dx := .lst [.int 1, .int 8, .int (1 + r2)]) (opd_of rfl (ev_lst (evD_c rfl (evD_c rfl (evD_1 (data_at (r := .val (.int (1 + r2))) ?_)))))) (opd_of rfl p3) rfl rfl q2)
    exact ev_op (dx := .int 1) rfl (opd_of rfl p2) rfl rfl rfl
  -- the signs
  have hL : ls.length ≤ LIM := Nat.le_trans hls.2.1 (by unfold LIM; omega)
  let X : IX := .op .idx (.var 1) (.call "_law_pull" [(.var 0), (.bi .len [(.var 1)])])
  obtain ⟨rs, e3, c3, c4, c5, w4, rfl, hw4⟩ := turns_inv (vs := [4]) (f := turnM g7 (.nm 4) none X) (P := fun m env => ∃ w, env = [.own true w, .val (.str ls), .val (.int (k : Int)), .un, .un] ∧ WellOk m w) (Q := fun d => ∃ c ∈ tl LET, d = .str ⟨#[c]⟩) (k := 1) (l := rangeD 0 (k : Int)) (n := n + 3) (env := [.own true w3, .val (.str ls), .val (.int (k : Int)), .un, .un]) ⟨w3, rfl, hw3⟩ (by
    rintro d hd m env hm ⟨v, rfl, hv⟩
    have hr : (rangeD 0 (k : Int)).length = k := by simp [rangeD]
    rw [hr] at hm
    obtain ⟨r, v', p, a, b, hv'⟩ := ev_pull (G := g7) (i := 0) (x := .bi .len [(.var 1)]) (env := [.own true v, .val (.str ls), .val (.int (k : Int)), .un, .val d]) (m := (ls.length : Int)) g7_pull rfl ((St.var rfl).bi1 (show bi .len [.str ls] = some (.val (.int (ls.length : Int))) from if_pos hL)) rfl hv (by have := hls.1; omega) (by have := hls.2.1; omega) (by omega)
    obtain ⟨c, mc, q⟩ := idx_sign a b hL
    refine ⟨.str ⟨#[c]⟩, [.own true v', .val (.str ls), .val (.int (k : Int)), .un, .val d], ?_, ⟨c, hls.2.2 c mc, rfl⟩, v', rfl, hv'⟩
    show ((setTg (.nm 4) d).bind fun _ => (dataM (ev g7 X)).bind fun x => M.ret (some x)) _ = _
    rw [bind_at setTg_nm]
    have hx : ev g7 X [.own true v, .val (.str ls), .val (.int (k : Int)), .un, .val d] = some (.ok (.val (.str ⟨#[c]⟩)), [.own true v', .val (.str ls), .val (.int (k : Int)), .un, .val d]) := ev_op (x := .var 1) rfl (opd_of rfl p) rfl rfl q
    show ((dataM (ev g7 X)).bind fun x => M.ret (some x)) [.own true v, .val (.str ls), .val (.int (k : Int)), .un, .val d] = _
    rw [bind_at (data_at hx)]
    rfl)
  have hrl : (rangeD 0 (k : Int)).length = k := by simp [rangeD]
  rw [hrl] at c4 hw4
  obtain ⟨ys, rfl, ylen, hy⟩ := maps (rs := rs) (m := D.str) (P := fun y => y.length = 1 ∧ ∀ c ∈ tl y, c ∈ tl LET) fun x hx => by
    obtain ⟨c, hc, rfl⟩ := c5 x hx
    refine ⟨⟨#[c]⟩, rfl, rfl, fun c' hc' => ?_⟩
    rw [List.mem_singleton.mp hc']
    exact hc
  have jl := join_none ys
  have js : (ys.map (·.length)).sum = k := by
    rw [sum_ones (fun n hn => by obtain ⟨y, h, rfl⟩ := List.mem_map.mp hn; exact (hy y h).1), List.length_map]
    omega
  have hn : isN (Txt.join "" ys) = true := by
    unfold isN
    rw [Bool.and_eq_true]
    refine ⟨lenOk_iff.mpr (by omega), List.all_eq_true.mpr fun c hc => decide_eq_true ?_⟩
    rcases join_mem "" hc with h | ⟨p, hp, h⟩
    · cases h
    · exact (hy p hp).2 c h
  let e4 : Envs := [.own true w4, .val (.str ls), .val (.int (k : Int)), .un, .un]
  have s3 : ex g7 (.asg 3 (.meth .join (.con (.str "")) [(.comp (.nm 4) .range1 [(.var 2)] none X [4])])) [.own true w3, .val (.str ls), .val (.int (k : Int)), .un, .un] = some (.ok .next, [.own true w4, .val (.str ls), .val (.int (k : Int)), .val (.str (Txt.join "" ys)), .un]) := by
    refine ex_asg (ev_meth (m := .join) (t := "") (ds := [.lst (ys.map D.str)]) rfl (evA_1 (opd_of rfl (comp_at (v := 4) (k := .range1) (d := .int (k : Int)) (l := rangeD 0 (k : Int)) (env2 := e4) rfl ?_ (by rw [hrl]; omega) rfl c3 rfl))) rfl (join_sem ?_))
    · show (if (k : Int) < 1000000 ∧ -1000000 < (k : Int) then some (rangeD 0 (k : Int)) else none) = _
      rw [if_pos ⟨by omega, by omega⟩]
    · rw [js, show ("" : Str).length = 0 by decide +kernel]
      unfold LIM
      omega
  generalize Txt.join "" ys = nm at hn s3
  obtain ⟨r5, w5, p5, a5, b5, hw5⟩ := ev_pull (G := g7) (i := 0) (x := .con (.int 4)) (env := [.own true w4, .val (.str ls), .val (.int (k : Int)), .val (.str nm), .un]) (m := 4) g7_pull rfl rfl rfl hw4 (by omega) (by omega) (by omega)
  obtain ⟨d5, m5, q5⟩ := idx_in (ds := [.str "main", .str nm, .str nm, .str nm]) a5 b5
  have he : ∃ s, d5 = .str s ∧ isN s = true := by
    have k1 : isN "main" = true := by decide +kernel
    rcases List.mem_cons.mp m5 with e | m5
    · exact ⟨_, e, k1⟩
    · refine ⟨nm, ?_, hn⟩
      simpa using m5
  obtain ⟨s, rfl, hs⟩ := he
  refine ⟨s, w5, ?_, hs, hw5.mono (by omega)⟩
  refine defM_ret (env1 := [.own true w5, .val (.str ls), .val (.int (k : Int)), .val (.str nm), .un]) ?_
  exact (exs_next s1).trans ((exs_next s2).trans ((exs_next s3).trans (exs_ret (ex_ret (ev_op (dx := .lst [.str "main", .str nm, .str nm, .str nm]) (opd_of rfl (ev_lst rfl)) (opd_of rfl p5) rfl rfl q5)))))
end K56

set_option maxHeartbeats 400000
/-! K56w: drawn samples. -/
namespace K56
open PySem PySem.Spec PyProof.Rows L2 TL Dl
theorem g8_pull : g8.fn "_law_pull" = some ⟨[true, false], m_pull⟩ := by kernel_rfl
theorem g8_name : g8.fn "_law_name" = some ⟨[true], m_name⟩ := by kernel_rfl
theorem range_len (k : Nat) : (rangeD 0 (k : Int)).length = k := by simp [rangeD]
theorem range_items {k : Nat} (h : k < 1000000) : items .range1 [.int (k : Int)] = some (rangeD 0 (k : Int)) := by
  show (if (k : Int) < 1000000 ∧ -1000000 < (k : Int) then some (rangeD 0 (k : Int)) else none) = _
  rw [if_pos ⟨by omega, by omega⟩]
def bodyM : List IS := [.asg 4 (.op .idx (.lst [(.con (.int 0)), (.con (.int 1)), (.con (.int 7)), (.call "_law_pull" [(.var 0), (.con (.int 8))])]) (.call "_law_pull" [(.var 0), (.con (.int 4))])), .app 2 (.op .add (.tup [(.con (.str "main"))]) (.bi .tuple [(.comp (.nm 5) .range1 [(.var 4)] none (.call "_law_name" [(.var 0)]) [5])])), .ifs (.tru (.op .eq (.call "_law_pull" [(.var 0), (.con (.int 5))]) (.con (.int 0)))) [.seti 2 (.neg (.con (.int 1))) (.op .idx (.var 2) (.call "_law_pull" [(.var 0), (.bi .len [(.var 2)])]))] []]
theorem turnSm {n : Nat} {w : List D} {ss : List (List Str)} {mo t d4 : Slot} {d : D} (hw : WellOk n w) (hn : n ≤ 10 ^ 7) (hs : ∀ ns ∈ ss, Stk ns) (hl : ss.length ≤ 1000) :
    ∃ w' ss' d4', ((setTg (.nm 3) d).bind fun _ => exs g8 bodyM) [.own true w, mo, .own false (toSs ss), t, d4, .un] = some (.ok .next, [.own true w', mo, .own false (toSs ss'), .val d, d4', .un]) ∧ WellOk (n + 100) w' ∧ (∀ ns ∈ ss', Stk ns) ∧ ss'.length = ss.length + 1 := by
  obtain ⟨r1, w1, p1, a1, b1, hw1⟩ := ev_pull (G := g8) (i := 0) (x := .con (.int 8)) (env := [.own true w, mo, .own false (toSs ss), .val d, d4, .un]) (m := 8) g8_pull rfl rfl rfl hw (by omega) (by omega) (by omega)
  obtain ⟨r2, w2, p2, a2, b2, hw2⟩ := ev_pull (G := g8) (i := 0) (x := .con (.int 4)) (env := [.own true w1, mo, .own false (toSs ss), .val d, d4, .un]) (m := 4) g8_pull rfl rfl rfl hw1 (by omega) (by omega) (by omega)
  obtain ⟨dk, mk, q2⟩ := idx_in (ds := [.int 0, .int 1, .int 7, .int r1]) a2 b2
  have hk : ∃ k : Nat, dk = .int (k : Int) ∧ k ≤ 7 := by
    rcases List.mem_cons.mp mk with e | mk
    · exact ⟨0, e, by omega⟩
    rcases List.mem_cons.mp mk with e | mk
    · exact ⟨1, e, by omega⟩
    rcases List.mem_cons.mp mk with e | mk
    · exact ⟨7, e, by omega⟩
    · refine ⟨r1.toNat, ?_, by omega⟩
      rw [Int.toNat_of_nonneg (by omega)]
      exact List.mem_singleton.mp mk
  obtain ⟨k, rfl, k7⟩ := hk
  have s1 : ex g8 (.asg 4 (.op .idx (.lst [(.con (.int 0)), (.con (.int 1)), (.con (.int 7)), (.call "_law_pull" [(.var 0), (.con (.int 8))])]) (.call "_law_pull" [(.var 0), (.con (.int 4))]))) [.own true w, mo, .own false (toSs ss), .val d, d4, .un] = some (.ok .next, [.own true w2, mo, .own false (toSs ss), .val d, .val (.int (k : Int)), .un]) :=
    ex_asg (ev_op (dx := .lst [.int 0, .int 1, .int 7, .int r1]) (opd_of rfl (ev_lst (evD_c rfl (evD_c rfl (evD_c rfl (evD_1 (data_at p1))))))) (opd_of rfl p2) rfl rfl q2)
  -- names
  obtain ⟨rs, e3, c3, c4, c5, w3, rfl, hw3⟩ := turns_inv (vs := [5]) (f := turnM g8 (.nm 5) none (.call "_law_name" [(.var 0)])) (P := fun m env => ∃ w, env = [.own true w, mo, .own false (toSs ss), .val d, .val (.int (k : Int)), .un] ∧ WellOk m w) (Q := fun d => ∃ s, d = .str s ∧ isN s = true) (k := 12) (l := rangeD 0 (k : Int)) (n := n + 2) (env := [.own true w2, mo, .own false (toSs ss), .val d, .val (.int (k : Int)), .un]) ⟨w2, rfl, hw2⟩ (by
    rintro x hx m env hm ⟨v, rfl, hv⟩
    rw [range_len] at hm
    obtain ⟨s, v', q, hs', hv'⟩ := sem_name hv (by omega)
    refine ⟨.str s, [.own true v', mo, .own false (toSs ss), .val d, .val (.int (k : Int)), .val x], ?_, ⟨s, rfl, hs'⟩, v', rfl, hv'⟩
    show ((setTg (.nm 5) x).bind fun _ => (dataM (ev g8 (.call "_law_name" [(.var 0)]))).bind fun x => M.ret (some x)) _ = _
    rw [bind_at setTg_nm]
    have hc : ev g8 (.call "_law_name" [(.var 0)]) [.own true v, mo, .own false (toSs ss), .val d, .val (.int (k : Int)), .val x] = some (.ok (.val (.str s)), [.own true v', mo, .own false (toSs ss), .val d, .val (.int (k : Int)), .val x]) :=
      ev_call (os := [.slot 0]) (as := [.own true v]) (org := [some (0, true)]) (outs := [.own true v']) (env2 := [.un, mo, .own false (toSs ss), .val d, .val (.int (k : Int)), .val x]) g8_name rfl rfl q
    show ((dataM (ev g8 (.call "_law_name" [(.var 0)]))).bind fun x => M.ret (some x)) [.own true v, mo, .own false (toSs ss), .val d, .val (.int (k : Int)), .val x] = _
    rw [bind_at (data_at hc)]
    rfl)
  rw [range_len] at c4 hw3
  obtain ⟨ys, rfl, ylen, hy⟩ := maps (rs := rs) (m := D.str) (P := fun y => isN y = true) c5
  have hst : Stk (("main" : Str) :: ys) := ⟨rfl, by rw [List.length_cons]; omega, fun x hx => by
    rcases List.mem_cons.mp hx with rfl | hx
    · decide +kernel
    · exact hy x hx⟩
  have hcl : ev g8 (.comp (.nm 5) .range1 [(.var 4)] none (.call "_law_name" [(.var 0)]) [5]) [.own true w2, mo, .own false (toSs ss), .val d, .val (.int (k : Int)), .un] = some (.ok (.new (ys.map D.str)), [.own true w3, mo, .own false (toSs ss), .val d, .val (.int (k : Int)), .un]) :=
    comp_at (v := 5) (k := .range1) (d := .int (k : Int)) (l := rangeD 0 (k : Int)) rfl (range_items (by omega)) (by rw [range_len]; omega) rfl c3 rfl
  have hap : dataM (ev g8 (.op .add (.tup [(.con (.str "main"))]) (.bi .tuple [(.comp (.nm 5) .range1 [(.var 4)] none (.call "_law_name" [(.var 0)]) [5])]))) [.own true w2, mo, .own false (toSs ss), .val d, .val (.int (k : Int)), .un] = some (.ok (toS (("main" : Str) :: ys)), [.own true w3, mo, .own false (toSs ss), .val d, .val (.int (k : Int)), .un]) := by
    refine data_at (r := .val (toS (("main" : Str) :: ys))) (ev_op (dx := .tup [.str "main"]) (dy := .tup (ys.map D.str)) (opd_of rfl (ev_tup rfl)) (opd_of (r := .val (.tup (ys.map D.str))) rfl (ev_bi (ds := [.lst (ys.map D.str)]) (evA_1 (opd_of rfl hcl)) rfl rfl)) rfl rfl ?_)
    show (if [D.str "main"].length + (ys.map D.str).length ≤ LIM then some (RV.val (.tup ([D.str "main"] ++ ys.map D.str))) else none) = _
    rw [if_pos (by rw [List.length_map, List.length_singleton]; unfold LIM; omega)]
    rfl
  have s2 : ex g8 (.app 2 (.op .add (.tup [(.con (.str "main"))]) (.bi .tuple [(.comp (.nm 5) .range1 [(.var 4)] none (.call "_law_name" [(.var 0)]) [5])]))) [.own true w2, mo, .own false (toSs ss), .val d, .val (.int (k : Int)), .un] = some (.ok .next, [.own true w3, mo, .own false (toSs (ss ++ [(("main" : Str) :: ys)])), .val d, .val (.int (k : Int)), .un]) := by
    have q := ex_app (i := 2) (env := [.own true w2, mo, .own false (toSs ss), .val d, .val (.int (k : Int)), .un]) (env1 := [.own true w3, mo, .own false (toSs ss), .val d, .val (.int (k : Int)), .un]) (d := toS (("main" : Str) :: ys)) (io := false) (ds := toSs ss) rfl hap rfl (by unfold toSs LIM; rw [List.length_map]; omega)
    rw [q]
    unfold toSs
    rw [List.map_append]
    rfl
  generalize hss : ss ++ [(("main" : Str) :: ys)] = ss1 at s2
  have hs1 : ∀ ns ∈ ss1, Stk ns := fun ns h => by
    rw [← hss] at h
    rcases List.mem_append.mp h with h | h
    · exact hs ns h
    · rw [List.mem_singleton.mp h]; exact hst
  have hl1 : ss1.length = ss.length + 1 := by rw [← hss, List.length_append, List.length_singleton]
  have ht1 : (toSs ss1).length = ss1.length := List.length_map ..
  -- the last test
  obtain ⟨r4, w4, p4, a4, b4, hw4⟩ := ev_pull (G := g8) (i := 0) (x := .con (.int 5)) (env := [.own true w3, mo, .own false (toSs ss1), .val d, .val (.int (k : Int)), .un]) (m := 5) g8_pull rfl rfl rfl hw3 (by omega) (by omega) (by omega)
  have t4 : evT g8 (.tru (.op .eq (.call "_law_pull" [(.var 0), (.con (.int 5))]) (.con (.int 0)))) [.own true w3, mo, .own false (toSs ss1), .val d, .val (.int (k : Int)), .un] = some (.ok (decide (r4 = 0)), [.own true w4, mo, .own false (toSs ss1), .val d, .val (.int (k : Int)), .un]) :=
    evT_bl rfl (ev_op (opd_of rfl p4) rfl rfl rfl rfl)
  rw [bind_at setTg_nm]
  show ∃ w' ss' d4', exs g8 bodyM [.own true w, mo, .own false (toSs ss), .val d, d4, .un] = _ ∧ _
  unfold bodyM
  by_cases hr : r4 = 0
  · rw [decide_eq_true hr] at t4
    obtain ⟨r5, w5, p5, a5, b5, hw5⟩ := ev_pull (G := g8) (i := 0) (x := .bi .len [(.var 2)]) (env := [.own true w4, mo, .own false (toSs ss1), .val d, .val (.int (k : Int)), .un]) (m := ((toSs ss1).length : Int)) g8_pull rfl ((St.own rfl).bi1 rfl) rfl hw4 (by omega) (by omega) (by omega)
    obtain ⟨dx, mx, q5⟩ := idx_in (ds := toSs ss1) a5 b5
    obtain ⟨nx, hx, rfl⟩ := List.mem_map.mp mx
    refine ⟨w5, ss1.set ss.length nx, .val (.int (k : Int)), ?_, hw5.mono (by omega), fun ns h => ?_, by rw [List.length_set]; exact hl1⟩
    · refine (exs_next s1).trans ((exs_next s2).trans (exs_next ((if_yes t4).trans ?_)))
      have hix : ixN (toSs ss1).length (-1) = some ss.length := by
        unfold ixN
        rw [if_neg (by omega), if_pos (by omega)]
        exact congrArg some (by omega)
      have hv : dataM (ev g8 (.op .idx (.var 2) (.call "_law_pull" [(.var 0), (.bi .len [(.var 2)])]))) [.own true w4, mo, .own false (toSs ss1), .val d, .val (.int (k : Int)), .un] = some (.ok (toS nx), [.own true w5, mo, .own false (toSs ss1), .val d, .val (.int (k : Int)), .un]) :=
        data_at (ev_op (x := .var 2) rfl (opd_of rfl p5) rfl rfl q5)
      refine (exs_next (ex_seti (i := 2) (io := false) (env1 := [.own true w5, mo, .own false (toSs ss1), .val d, .val (.int (k : Int)), .un]) (env2 := [.own true w5, mo, .own false (toSs ss1), .val d, .val (.int (k : Int)), .un]) (ds := toSs ss1) (n := -1) (m := ss.length) (d := toS nx) hv rfl rfl rfl hix)).trans ?_
      unfold toSs
      rw [List.map_set]
      rfl
    · rcases List.mem_or_eq_of_mem_set h with h | h
      · exact hs1 ns h
      · rw [h]; exact hs1 nx hx
  · rw [decide_eq_false hr] at t4
    refine ⟨w4, ss1, .val (.int (k : Int)), ?_, hw4.mono (by omega), hs1, hl1⟩
    exact (exs_next s1).trans ((exs_next s2).trans (exs_next ((if_no t4).trans rfl)))
theorem sem_samples {n most : Nat} {w : List D} (hw : WellOk n w) (hn : n ≤ 10 ^ 6) (hm : most ≤ 20) :
    ∃ ss w', m_samples [.own true w, .val (.int (most : Int))] = some (.ok (.new (toSs ss)), [.own true w', .un]) ∧ (∀ ns ∈ ss, Stk ns) ∧ ss.length ≤ most ∧ WellOk (n + 3000) w' := by
  have e0 : ex g8 (.asg 2 (.lst [])) [.own true w, .val (.int (most : Int)), .un, .un, .un, .un] = some (.ok .next, [.own true w, .val (.int (most : Int)), .own false (toSs []), .un, .un, .un]) := rfl
  obtain ⟨r1, w1, p1, a1, b1, hw1⟩ := ev_pull (G := g8) (i := 0) (x := .op .add (.var 1) (.con (.int 1))) (env := [.own true w, .val (.int (most : Int)), .own false (toSs []), .un, .un, .un]) (m := (most : Int) + 1) g8_pull rfl (St.op (St.var rfl) St.con rfl) rfl hw (by omega) (by omega) (by omega)
  obtain ⟨c, rfl⟩ := Int.eq_ofNat_of_zero_le a1
  have s1 := ex_for (G := g8) (t := .nm 3) (body := bodyM) (evD_1 (data_at p1)) (range_items (k := c) (by omega))
  obtain ⟨env', l1, w', ss', b2, b3, rfl, hw', hs', hl'⟩ := loop_inv (f := fun d => (setTg (.nm 3) d).bind fun _ => exs g8 bodyM) (P := fun m env => ∃ w ss a b, env = [.own true w, .val (.int (most : Int)), .own false (toSs ss), a, b, .un] ∧ WellOk m w ∧ (∀ ns ∈ ss, Stk ns) ∧ n + 1 + 100 * ss.length ≤ m) (k := 100) (n := n + 1) (l := rangeD 0 (c : Int)) (env := [.own true w1, .val (.int (most : Int)), .own false (toSs []), .un, .un, .un]) ⟨w1, [], .un, .un, rfl, hw1, (fun ns h => nomatch h), by simp⟩ (by
    rintro d hd m env hm2 ⟨v, ss, a, b, rfl, hv, hs, hl⟩
    rw [range_len] at hm2
    obtain ⟨v', ss', d4', h, hv', hs', hl'⟩ := turnSm (mo := .val (.int (most : Int))) (t := a) (d4 := b) (d := d) hv (by omega) hs (by omega)
    exact ⟨_, h, v', ss', _, _, rfl, hv', hs', by rw [hl']; omega⟩)
  rw [range_len] at hw' hl'
  refine ⟨ss', w', ?_, hs', by omega, hw'.mono (by omega)⟩
  refine defM_ret (env1 := [.own true w', .val (.int (most : Int)), .un, b2, b3, .un]) ?_
  exact (exs_next e0).trans ((exs_next (s1.trans l1)).trans (exs_ret rfl))
end K56

set_option maxHeartbeats 400000
/-! K56x: a text changed. -/
namespace K56
open PySem PySem.Spec PyProof.Rows L2 TL Dl
theorem g13_pull : g13.fn "_law_pull" = some ⟨[true, false], m_pull⟩ := by kernel_rfl
theorem evP_int {G : Gx} {x : IX} {env env1 : Envs} {i : Int} (h : dataM (ev G x) env = some (.ok (.int i), env1)) : evP G (some x) env = some (.ok (some i), env1) := by
  show ((dataM (ev G x)).bind fun d => _) env = _
  rw [bind_at h]
  rfl
theorem len_str {s : Str} (h : s.length ≤ LIM) : bi .len [.str s] = some (.val (.int (s.length : Int))) := if_pos h
def cutW (ws : List Str) (lo hi : Option Int) : List Str := (ws.drop (HT.sIx ws.length 0 lo)).take (HT.sIx ws.length ws.length hi - HT.sIx ws.length 0 lo)
theorem cutD_map (ws : List Str) (lo hi : Option Int) : Dl.cutD (ws.map D.str) lo hi = (cutW ws lo hi).map D.str := by
  unfold Dl.cutD cutW
  rw [List.length_map, List.map_take, List.map_drop]
def tot (ws : List Str) : Nat := (ws.map (·.length)).sum + ws.length
theorem tot_app (a b : List Str) : tot (a ++ b) = tot a + tot b := by
  unfold tot
  rw [List.map_append, List.sum_append, List.length_append]
  omega
theorem tot_cons (x : Str) (ws : List Str) : tot (x :: ws) = x.length + 1 + tot ws := by
  unfold tot
  rw [List.map_cons, List.sum_cons, List.length_cons]
  omega
theorem tot_take : ∀ (n : Nat) (ws : List Str), tot (ws.take n) ≤ tot ws
  | 0, ws => by rw [List.take_zero]; exact Nat.zero_le _
  | n + 1, [] => Nat.le_refl _
  | n + 1, x :: ws => by
    rw [List.take_succ_cons, tot_cons, tot_cons]
    have := tot_take n ws
    omega
theorem tot_drop : ∀ (n : Nat) (ws : List Str), tot (ws.drop n) ≤ tot ws
  | 0, ws => Nat.le_refl _
  | n + 1, [] => Nat.le_refl _
  | n + 1, x :: ws => by
    rw [List.drop_succ_cons, tot_cons]
    have := tot_drop n ws
    omega
theorem tot_cut (ws : List Str) (lo hi : Option Int) : tot (cutW ws lo hi) ≤ tot ws := Nat.le_trans (tot_take _ _) (tot_drop _ _)
theorem cutW_mem {ws : List Str} {lo hi : Option Int} {x : Str} (h : x ∈ cutW ws lo hi) : x ∈ ws := List.mem_of_mem_drop (List.mem_of_mem_take h)
theorem cutW_one (ws : List Str) (k : Nat) : (cutW ws (some (k : Int)) (some ((k : Int) + 1))).length ≤ 1 := by
  unfold cutW
  have e : ((k : Int) + 1) = ((k + 1 : Nat) : Int) := by omega
  rw [List.length_take, e, HT.sIx_nat, HT.sIx_nat]
  omega
theorem join_tot {ys : List Str} {y : Str} (hy : y.length = 1) : (ys.map (·.length)).sum + ys.length * y.length = tot ys := by
  rw [hy, Nat.mul_one]
  rfl
theorem plain_sp : Plain " " := show ∀ c ∈ tl (" " : Str), c < 0x110000 by decide +kernel
abbrev SIG : Str := " .mainxqA0_-:;\n\"'!?*()|~{}#,+/<>=@\x5b]^&$"
theorem sig_plain : Plain SIG := show ∀ c ∈ tl SIG, c < 0x110000 by decide +kernel
theorem sig_len : 1 ≤ SIG.length ∧ SIG.length ≤ 100 := by decide +kernel
/-- the words that are put in -/
def oddW : List Str := ["main", "", "main.", "a", "main..a", ".main", "Main", "main.abcdefghi", "main.a.a.a.a.a.a.a", "main.a.a.a.a.a.a.a.a"]
theorem odd_ok : ∀ x ∈ oddW, Plain x ∧ x.length ≤ 30 := by
  have h : oddW.all (fun x => (tl x).all (fun c => decide (c < 0x110000)) && decide (x.length ≤ 30)) = true := by decide +kernel
  intro x hx
  have := List.all_eq_true.mp h x hx
  obtain ⟨a, b⟩ := Bool.and_eq_true_iff.mp this
  exact ⟨fun c hc => of_decide_eq_true (List.all_eq_true.mp a c hc), of_decide_eq_true b⟩
def Near (t : Str) (s : Str) : Prop := Plain s ∧ s.length ≤ 4 * t.length + 100
theorem sem_near {n : Nat} {w : List D} {t : Str} (hw : WellOk n w) (hn : n ≤ 10 ^ 8) (hp : Plain t) (hl : t.length ≤ 1000000) :
    ∃ s w', m_near [.own true w, .val (.str t)] = some (.ok (.val (.str s)), [.own true w', .un]) ∧ Near t s ∧ WellOk (n + 6) w' := by
  have hL : t.length ≤ LIM := by unfold LIM; omega
  obtain ⟨r1, w1, p1, a1, b1, hw1⟩ := ev_pull (G := g13) (i := 0) (x := .op .add (.bi .len [(.var 1)]) (.con (.int 1))) (env := [.own true w, .val (.str t), .un, .un, .un, .un, .un, .un, .un]) (m := (t.length : Int) + 1) g13_pull rfl (St.op (St.val rfl ((St.var rfl).bi1 (show bi .len [.str t] = some (.val (.int (t.length : Int))) from if_pos hL))) St.con rfl) rfl hw (by omega) (by omega) (by omega)
  obtain ⟨r2, w2, p2, a2, b2, hw2⟩ := ev_pull (G := g13) (i := 0) (x := .con (.int 5)) (env := [.own true w1, .val (.str t), .un, .un, .un, .un, .un, .un, .un]) (m := 5) g13_pull rfl rfl rfl hw1 (by omega) (by omega) (by omega)
  have s1 := ex_par (i := 2) (j := 3) (data_at p1) (data_at p2)
  obtain ⟨r3, w3, p3, a3, b3, hw3⟩ := ev_pull (G := g13) (i := 0) (x := .bi .len [(.var 4)]) (env := [.own true w2, .val (.str t), .val (.int r1), .val (.int r2), .val (.str SIG), .un, .un, .un, .un]) (m := (SIG.length : Int)) g13_pull rfl ((St.var rfl).bi1 (len_str (s := SIG) (Nat.le_trans sig_len.2 (by unfold LIM; omega)))) rfl hw2 (by have := sig_len.1; omega) (by have := sig_len.2; omega) (by omega)
  have s2 : ex g13 (.asg 4 (.con (.str SIG))) [.own true w2, .val (.str t), .val (.int r1), .val (.int r2), .un, .un, .un, .un, .un] = some (.ok .next, [.own true w2, .val (.str t), .val (.int r1), .val (.int r2), .val (.str SIG), .un, .un, .un, .un]) := rfl
  obtain ⟨c, mc, q3⟩ := idx_sign a3 b3 (Nat.le_trans sig_len.2 (by unfold LIM; omega))
  have s3 : ex g13 (.asg 5 (.op .idx (.var 4) (.call "_law_pull" [(.var 0), (.bi .len [(.var 4)])]))) [.own true w2, .val (.str t), .val (.int r1), .val (.int r2), .val (.str SIG), .un, .un, .un, .un] = some (.ok .next, [.own true w3, .val (.str t), .val (.int r1), .val (.int r2), .val (.str SIG), .val (.str ⟨#[c]⟩), .un, .un, .un]) :=
    ex_asg (ev_op (x := .var 4) rfl (opd_of rfl p3) rfl rfl q3)
  obtain ⟨at1, rfl⟩ := Int.eq_ofNat_of_zero_le a1
  have hcp : Plain ⟨#[c]⟩ := fun c' h => by rw [List.mem_singleton.mp h]; exact sig_plain c mc
  have t4 : evT g13 (.tru (.op .lt (.var 3) (.con (.int 3)))) [.own true w3, .val (.str t), .val (.int (at1 : Int)), .val (.int r2), .val (.str SIG), .val (.str ⟨#[c]⟩), .un, .un, .un] = some (.ok (decide (r2 < 3)), [.own true w3, .val (.str t), .val (.int (at1 : Int)), .val (.int r2), .val (.str SIG), .val (.str ⟨#[c]⟩), .un, .un, .un]) := rfl
  by_cases h3 : r2 < 3
  · rw [decide_eq_true h3] at t4
    obtain ⟨dx, mx, q5⟩ := idx_in (ds := [.str ⟨#[c]⟩, .str "", .str ⟨#[c]⟩]) a2 h3
    have hx : ∃ s, dx = .str s ∧ Plain s ∧ s.length ≤ 1 := by
      have k0 : Plain "" := show ∀ c ∈ tl ("" : Str), c < 0x110000 by decide +kernel
      have k1 : (⟨#[c]⟩ : Str).length ≤ 1 := Nat.le_refl 1
      rcases List.mem_cons.mp mx with e | mx
      · exact ⟨_, e, hcp, k1⟩
      rcases List.mem_cons.mp mx with e | mx
      · exact ⟨_, e, k0, by decide +kernel⟩
      · exact ⟨_, List.mem_singleton.mp mx, hcp, k1⟩
    obtain ⟨x, rfl, px, lx⟩ := hx
    let u : Int := (at1 : Int) + if decide (0 < r2) = true then 1 else 0
    let s := cutS t none (some (at1 : Int)) ++ x ++ cutS t (some u) none
    have l1 := cut_len t none (some (at1 : Int))
    have l2 := cut_len t (some u) none
    have ls : s.length = (cutS t none (some (at1 : Int))).length + x.length + (cutS t (some u) none).length := by
      show (cutS t none (some (at1 : Int)) ++ x ++ cutS t (some u) none).length = _
      rw [app_len, app_len]
    refine ⟨s, w3, ?_, ⟨((hp.cut _ _).app px).app (hp.cut _ _), by omega⟩, hw3.mono (by omega)⟩
    refine defM_ret (env1 := [.own true w3, .val (.str t), .val (.int (at1 : Int)), .val (.int r2), .val (.str SIG), .val (.str ⟨#[c]⟩), .un, .un, .un]) ?_
    refine (exs_next s1).trans ((exs_next s2).trans ((exs_next s3).trans (exs_ret ((if_yes t4).trans (exs_ret (ex_ret ?_))))))
    generalize he : ([.own true w3, .val (.str t), .val (.int (at1 : Int)), .val (.int r2), .val (.str SIG), .val (.str ⟨#[c]⟩), .un, .un, .un] : Envs) = env
    have c1 : ev g13 (.slice (.var 1) none (some (.var 2))) env = some (.ok (.val (.str (cutS t none (some (at1 : Int))))), env) := by
      subst he
      exact ev_slice (x := .var 1) rfl rfl (evP_int (data_var rfl)) rfl (if_pos hL)
    have c2 : ev g13 (.op .idx (.lst [(.var 5), (.con (.str "")), (.var 5)]) (.var 3)) env = some (.ok (.val (.str x)), env) := by
      subst he
      exact St.op (St.of rfl (ev_lst (evD_c (data_var rfl) (evD_c rfl (evD_1 (data_var rfl)))))) (St.var rfl) q5
    have c3 : ev g13 (.slice (.var 1) (some (.op .add (.var 2) (.bi .toInt [(.op .gt (.var 3) (.con (.int 0)))]))) none) env = some (.ok (.val (.str (cutS t (some u) none))), env) := by
      subst he
      refine ev_slice (x := .var 1) rfl (evP_int (data_at (r := .val (.int u)) ?_)) rfl rfl (if_pos hL)
      refine St.op (St.var rfl) (St.val rfl (St.bi1 (f := .toInt) (dx := .bl (decide (0 < r2))) (St.opv (St.var rfl) St.con rfl) rfl)) rfl
    refine St.op (St.opv (St.val rfl c1) (St.val rfl c2) (if_pos ?_)) (St.val rfl c3) (if_pos ?_)
    · unfold LIM; omega
    · rw [app_len]; unfold LIM; omega
  · rw [decide_eq_false h3] at t4
    -- the words
    have hL2 : t.length + 2 ≤ LIM := by unfold LIM; omega
    obtain ⟨ws, hws⟩ : ∃ ws, Txt.split t " " = ws := ⟨_, rfl⟩
    have wsum : tot ws = t.length + 1 := by rw [← hws]; exact split_sum sepS
    have wpl : ∀ x ∈ ws, Plain x := fun x hx => hp.split sepS (by rw [hws]; exact hx)
    have wne : 0 < ws.length := by rw [← hws]; exact List.length_pos_iff.mpr (split_ne sepS)
    have wsp : meth .split (.str t) [.str " "] = some (.new (ws.map D.str)) := by rw [← hws]; exact split_sem sepS hL2
    have wlen : ws.length ≤ t.length + 1 := by have : tot ws = (ws.map (·.length)).sum + ws.length := rfl; omega
    have hdl : (ws.map D.str).length = ws.length := List.length_map ..
    have e5 : ev g13 (.meth .split (.var 1) [(.con (.str " "))]) [.own true w3, .val (.str t), .val (.int (at1 : Int)), .val (.int r2), .val (.str SIG), .val (.str ⟨#[c]⟩), .un, .un, .un] = some (.ok (.new (ws.map D.str)), [.own true w3, .val (.str t), .val (.int (at1 : Int)), .val (.int r2), .val (.str SIG), .val (.str ⟨#[c]⟩), .un, .un, .un]) :=
      ev_meth (t := t) (os := [.val (.str " ")]) (ds := [.str " "]) (data_var rfl) rfl rfl wsp
    have s5 := ex_asg (i := 6) e5
    obtain ⟨r4, w4, p4, a4, b4, hw4⟩ := ev_pull (G := g13) (i := 0) (x := .bi .len [(.var 6)]) (env := [.own true w3, .val (.str t), .val (.int (at1 : Int)), .val (.int r2), .val (.str SIG), .val (.str ⟨#[c]⟩), .own false (ws.map D.str), .un, .un]) (m := ((ws.map D.str).length : Int)) g13_pull rfl ((St.own rfl).bi1 rfl) rfl hw3 (by omega) (by omega) (by omega)
    obtain ⟨at2, rfl⟩ := Int.eq_ofNat_of_zero_le a4
    have s6 := ex_asg (i := 2) p4
    have s7 : ex g13 (.asg 7 (.lst [(.con (.str "main")), (.con (.str "")), (.con (.str "main.")), (.con (.str "a")), (.con (.str "main..a")), (.con (.str ".main")), (.con (.str "Main")), (.con (.str "main.abcdefghi"))])) [.own true w4, .val (.str t), .val (.int (at2 : Int)), .val (.int r2), .val (.str SIG), .val (.str ⟨#[c]⟩), .own false (ws.map D.str), .un, .un] = some (.ok .next, [.own true w4, .val (.str t), .val (.int (at2 : Int)), .val (.int r2), .val (.str SIG), .val (.str ⟨#[c]⟩), .own false (ws.map D.str), .own false ((oddW.take 8).map D.str), .un]) := by kernel_rfl
    have s7b : ex g13 (.asg 7 (.op .add (.var 7) (.lst [(.op .add (.con (.str "main")) (.op .mul (.con (.str ".a")) (.con (.int 7)))), (.op .add (.con (.str "main")) (.op .mul (.con (.str ".a")) (.con (.int 8))))]))) [.own true w4, .val (.str t), .val (.int (at2 : Int)), .val (.int r2), .val (.str SIG), .val (.str ⟨#[c]⟩), .own false (ws.map D.str), .own false ((oddW.take 8).map D.str), .un] = some (.ok .next, [.own true w4, .val (.str t), .val (.int (at2 : Int)), .val (.int r2), .val (.str SIG), .val (.str ⟨#[c]⟩), .own false (ws.map D.str), .own false (oddW.map D.str), .un]) := by kernel_rfl
    -- what is put in
    have one1 := cutW_one ws at2
    let cs := cutW ws (some (at2 : Int)) (some ((at2 : Int) + 1))
    obtain ⟨r5, w5, p5, a5, b5, hw5⟩ := ev_pull (G := g13) (i := 0) (x := .con (.int 10)) (env := [.own true w4, .val (.str t), .val (.int (at2 : Int)), .val (.int r2), .val (.str SIG), .val (.str ⟨#[c]⟩), .own false (ws.map D.str), .own false (oddW.map D.str), .un]) (m := 10) g13_pull rfl rfl rfl hw4 (by omega) (by omega) (by omega)
    obtain ⟨d5, m5, q5⟩ := idx_in (ds := oddW.map D.str) a5 b5
    obtain ⟨x5, hx5, rfl⟩ := List.mem_map.mp m5
    obtain ⟨r6, w6, p6, a6, b6, hw6⟩ := ev_pull (G := g13) (i := 0) (x := .con (.int 3)) (env := [.own true w5, .val (.str t), .val (.int (at2 : Int)), .val (.int r2), .val (.str SIG), .val (.str ⟨#[c]⟩), .own false (ws.map D.str), .own false (oddW.map D.str), .un]) (m := 3) g13_pull rfl rfl rfl hw5 (by omega) (by omega) (by omega)
    obtain ⟨d6, m6, q6⟩ := idx_in (ds := [.lst [], .lst ((cs ++ cs).map D.str), .lst ([x5].map D.str)]) a6 b6
    have ho : ∃ os : List Str, d6 = .lst (os.map D.str) ∧ (∀ x ∈ os, Plain x) ∧ tot os ≤ 2 * t.length + 40 := by
      rcases List.mem_cons.mp m6 with e | m6
      · exact ⟨[], e, (fun x h => nomatch h), Nat.zero_le _⟩
      rcases List.mem_cons.mp m6 with e | m6
      · refine ⟨_, e, fun x hx => ?_, ?_⟩
        · rcases List.mem_append.mp hx with h | h <;> exact wpl x (cutW_mem h)
        · rw [tot_app]
          have := tot_cut ws (some (at2 : Int)) (some ((at2 : Int) + 1))
          show tot (cutW ws (some (at2 : Int)) (some ((at2 : Int) + 1))) + tot (cutW ws (some (at2 : Int)) (some ((at2 : Int) + 1))) ≤ _
          omega
      · refine ⟨[x5], List.mem_singleton.mp m6, fun x hx => by rw [List.mem_singleton.mp hx]; exact (odd_ok x5 hx5).1, ?_⟩
        have := (odd_ok x5 hx5).2
        rw [tot_cons, show tot [] = 0 from rfl]
        omega
    obtain ⟨os, rfl, opl, otot⟩ := ho
    have hcut : cutO (.lst (ws.map D.str)) (some (at2 : Int)) (some ((at2 : Int) + 1)) = some (.new (cs.map D.str)) := by
      show some (RV.new (Dl.cutD _ _ _)) = _
      rw [cutD_map]
    have hmul : op2 .mul (.lst (cs.map D.str)) (.int 2) = some (.new ((cs ++ cs).map D.str)) := by
      show (if (0 : Int) ≤ 2 ∧ (2 : Int) ≤ 1000 ∧ (cs.map D.str).length ≤ 1000 then some (RV.new (List.replicate 2 (cs.map D.str)).flatten) else none) = _
      rw [if_pos ⟨by omega, by omega, by rw [List.length_map]; exact Nat.le_trans one1 (by omega)⟩, List.map_append]
      show some (RV.new (cs.map D.str ++ (cs.map D.str ++ []))) = _
      rw [List.append_nil]
    have s8 : ex g13 (.asg 8 (.op .idx (.lst [(.lst []), (.op .mul (.slice (.var 6) (some (.var 2)) (some (.op .add (.var 2) (.con (.int 1))))) (.con (.int 2))), (.lst [(.op .idx (.var 7) (.call "_law_pull" [(.var 0), (.con (.int 10))]))])]) (.call "_law_pull" [(.var 0), (.con (.int 3))]))) [.own true w4, .val (.str t), .val (.int (at2 : Int)), .val (.int r2), .val (.str SIG), .val (.str ⟨#[c]⟩), .own false (ws.map D.str), .own false (oddW.map D.str), .un] = some (.ok .next, [.own true w6, .val (.str t), .val (.int (at2 : Int)), .val (.int r2), .val (.str SIG), .val (.str ⟨#[c]⟩), .own false (ws.map D.str), .own false (oddW.map D.str), .val (.lst (os.map D.str))]) := by
      have h1 : ev g13 (.op .mul (.slice (.var 6) (some (.var 2)) (some (.op .add (.var 2) (.con (.int 1))))) (.con (.int 2))) [.own true w4, .val (.str t), .val (.int (at2 : Int)), .val (.int r2), .val (.str SIG), .val (.str ⟨#[c]⟩), .own false (ws.map D.str), .own false (oddW.map D.str), .un] = some (.ok (.new ((cs ++ cs).map D.str)), [.own true w4, .val (.str t), .val (.int (at2 : Int)), .val (.int r2), .val (.str SIG), .val (.str ⟨#[c]⟩), .own false (ws.map D.str), .own false (oddW.map D.str), .un]) :=
        St.op (St.of rfl (ev_slice (x := .var 6) rfl (evP_int (data_var rfl)) (evP_int (St.data rfl (St.opv (St.var rfl) St.con rfl))) rfl hcut)) St.con hmul
      have h2 : ev g13 (.op .idx (.var 7) (.call "_law_pull" [(.var 0), (.con (.int 10))])) [.own true w4, .val (.str t), .val (.int (at2 : Int)), .val (.int r2), .val (.str SIG), .val (.str ⟨#[c]⟩), .own false (ws.map D.str), .own false (oddW.map D.str), .un] = some (.ok (.val (.str x5)), [.own true w5, .val (.str t), .val (.int (at2 : Int)), .val (.int r2), .val (.str SIG), .val (.str ⟨#[c]⟩), .own false (ws.map D.str), .own false (oddW.map D.str), .un]) := ev_op (x := .var 7) rfl (opd_of rfl p5) rfl rfl q5
      have h3 := ev_lst (evD_c (G := g13) (x := .lst []) (d := .lst []) rfl (evD_c (data_at h1) (evD_1 (data_at (ev_lst (evD_1 (data_at h2)))))))
      exact ex_asg (ev_op (dx := .lst [.lst [], .lst ((cs ++ cs).map D.str), .lst ([x5].map D.str)]) (opd_of rfl h3) (opd_of rfl p6) rfl rfl q6)
    let a := cutW ws none (some (at2 : Int))
    let b := cutW ws (some ((at2 : Int) + 1)) none
    have ta : tot a ≤ tot ws := tot_cut ..
    have tb : tot b ≤ tot ws := tot_cut ..
    have tall : tot (a ++ os ++ b) = tot a + tot os + tot b := by rw [tot_app, tot_app]
    have hjl := join_len " " (a ++ os ++ b)
    rw [join_tot sp_len] at hjl
    refine ⟨Txt.join " " (a ++ os ++ b), w6, ?_, ⟨Plain.join plain_sp fun x hx => ?_, by omega⟩, hw6⟩
    · refine defM_ret (env1 := [.own true w6, .val (.str t), .val (.int (at2 : Int)), .val (.int r2), .val (.str SIG), .val (.str ⟨#[c]⟩), .own false (ws.map D.str), .own false (oddW.map D.str), .val (.lst (os.map D.str))]) ?_
      refine (exs_next s1).trans ((exs_next s2).trans ((exs_next s3).trans ((exs_next ((if_no t4).trans rfl)).trans ((exs_next s5).trans ((exs_next s6).trans ((exs_next s7).trans ((exs_next s7b).trans ((exs_next s8).trans (exs_ret (ex_ret ?_))))))))))
      have c1 : cutO (.lst (ws.map D.str)) none (some (at2 : Int)) = some (.new (a.map D.str)) := by
        show some (RV.new (Dl.cutD _ _ _)) = _
        rw [cutD_map]
      have c2 : cutO (.lst (ws.map D.str)) (some ((at2 : Int) + 1)) none = some (.new (b.map D.str)) := by
        show some (RV.new (Dl.cutD _ _ _)) = _
        rw [cutD_map]
      have la : a.length ≤ tot a := Nat.le_add_left ..
      have lb : b.length ≤ tot b := Nat.le_add_left ..
      have lo : os.length ≤ tot os := Nat.le_add_left ..
      have j1 : op2 .add (.lst (a.map D.str)) (.lst (os.map D.str)) = some (.new ((a ++ os).map D.str)) := by
        show (if (a.map D.str).length + (os.map D.str).length ≤ LIM then some (RV.new (a.map D.str ++ os.map D.str)) else none) = _
        rw [if_pos (by rw [List.length_map, List.length_map]; unfold LIM; omega), List.map_append]
      have j2 : op2 .add (.lst ((a ++ os).map D.str)) (.lst (b.map D.str)) = some (.new ((a ++ os ++ b).map D.str)) := by
        show (if ((a ++ os).map D.str).length + (b.map D.str).length ≤ LIM then some (RV.new ((a ++ os).map D.str ++ b.map D.str)) else none) = _
        rw [if_pos (by rw [List.length_map, List.length_map, List.length_append]; unfold LIM; omega), ← List.map_append]
      refine ev_meth (m := .join) (t := " ") (ds := [.lst ((a ++ os ++ b).map D.str)]) rfl (evA_1 (opd_of (r := .new ((a ++ os ++ b).map D.str)) rfl ?_)) rfl (join_sem (by rw [join_tot sp_len]; unfold LIM; omega))
      refine St.op (St.of (r := .new ((a ++ os).map D.str)) rfl (St.op (St.of (r := .new (a.map D.str)) rfl ?_) (St.var (d := .lst (os.map D.str)) rfl) j1)) (St.of (r := .new (b.map D.str)) rfl ?_) j2
      · exact ev_slice (x := .var 6) rfl rfl (evP_int (data_var rfl)) rfl c1
      · exact ev_slice (x := .var 6) rfl (evP_int (St.data rfl (St.opv (St.var rfl) St.con rfl))) rfl rfl c2
    · rcases List.mem_append.mp hx with h | h
      · rcases List.mem_append.mp h with h | h
        · exact wpl x (cutW_mem h)
        · exact opl x h
      · exact wpl x (cutW_mem h)
end K56

set_option maxHeartbeats 400000
/-! K56y: values that are no samples. -/
namespace K56
open PySem PySem.Spec PyProof.Rows L2 TL Dl
def ma : D := .str "main"
def oddA : List D := [.non, .int 0, ma, .lst [ma], .tup [], .tup [.str "a"], .tup [ma, .int 0], .tup [ma, .non], .tup [.str "Main"], .tup [.tup [ma]], .tup [ma, ma, ma, ma, ma, ma, ma, ma, ma]]
def oddB : List D := [.tup [ma, .lst [.str "a"]], .tup [ma, .bl true], .tup [ma, .str ""], .tup [ma, .str "abcdefghi"], .tup [ma, .str "a b"], .dic [] [], .str "", .bl true]
def okEb : D → Bool
  | .str s => decide (s.length ≤ 100)
  | _ => true
def okSb : D → Bool
  | .tup ds => ds.all okEb
  | _ => true
theorem okS_of {d : D} (h : okSb d = true) : okS d := by
  cases d with
  | tup ds =>
    intro e he
    have := List.all_eq_true.mp (show ds.all okEb = true from h) e he
    cases e with
    | str s =>
      have : s.length ≤ 100 := of_decide_eq_true this
      show s.length ≤ LIM
      unfold LIM
      omega
    | _ => trivial
  | _ => trivial
theorem odd_bad : ∀ d ∈ oddA ++ oddB, okS d ∧ stackOk d = false := by
  have h : (oddA ++ oddB).all (fun d => okSb d && !stackOk d) = true := by decide +kernel
  intro d hd
  obtain ⟨a, b⟩ := Bool.and_eq_true_iff.mp (List.all_eq_true.mp h d hd)
  exact ⟨okS_of a, by simpa using b⟩
def restV (ts : List D) : List D := [.non, .int 0, ma, .bl true, .dic [] [], .tup ts, .tup [ma], .dic [.inr "main"] [.lst []], .lst (List.replicate 201 [D.tup [ma]]).flatten]
theorem rest_bad (ts : List D) : ∀ d ∈ restV ts, m_format_samples [.val d] = some (.error ⟨6, []⟩, [.un]) := by
  intro d hd
  unfold restV at hd
  simp only [List.mem_cons, List.not_mem_nil, or_false] at hd
  rcases hd with rfl | rfl | rfl | rfl | rfl | rfl | rfl | rfl | rfl
  · exact fmt_no rfl
  · exact fmt_no rfl
  · exact fmt_no rfl
  · exact fmt_no rfl
  · exact fmt_no rfl
  · exact fmt_no rfl
  · exact fmt_no rfl
  · exact fmt_no rfl
  · exact fmt_long (by decide +kernel)
def Bad (d : D) : Prop := m_format_samples [.val d] = some (.error ⟨6, []⟩, [.un])
theorem cut_len0 (xs : List D) (lo hi : Option Int) : (Dl.cutD xs lo hi).length ≤ xs.length := by
  unfold Dl.cutD
  rw [List.length_take, List.length_drop]
  omega
theorem cut_mem {xs : List D} {lo hi : Option Int} {x : D} (h : x ∈ Dl.cutD xs lo hi) : x ∈ xs := List.mem_of_mem_drop (List.mem_of_mem_take h)
theorem sem_no_samples {ss : List (List Str)} (h : ∀ ns ∈ ss, Stk ns) (hl : ss.length ≤ 200) : ∃ vs, m_no_samples [.val (.lst (toSs ss))] = some (.ok (.new vs), [.un]) ∧ (∀ v ∈ vs, Bad v) ∧ vs.length ≤ 1000 := by
  have hn : (toSs ss).length ≤ 200 := by unfold toSs; rw [List.length_map]; exact hl
  have hk : ∀ d ∈ toSs ss, okS d := fun d hd => by
    obtain ⟨ns, hs, rfl⟩ := List.mem_map.mp hd
    exact (h ns hs).okS
  generalize toSs ss = ts at hn hk
  let mid : Int := (ts.length : Int) / 2
  let put (o : D) : D := .lst (Dl.cutD ts none (some mid) ++ [o] ++ Dl.cutD ts (some mid) (some 199))
  have la := cut_len0 ts none (some mid)
  have lb := cut_len0 ts (some mid) (some 199)
  have s1 : ex g14 (.asg 1 (.lst [(.con .non), (.con (.int 0)), (.con (.str "main")), (.lst [(.con (.str "main"))]), (.tup []), (.tup [(.con (.str "a"))]), (.tup [(.con (.str "main")), (.con (.int 0))]), (.tup [(.con (.str "main")), (.con .non)]), (.tup [(.con (.str "Main"))]), (.tup [(.tup [(.con (.str "main"))])]), (.op .mul (.tup [(.con (.str "main"))]) (.con (.int 9)))])) [.val (.lst ts), .un, .un, .un, .un] = some (.ok .next, [.val (.lst ts), .own false oddA, .un, .un, .un]) := by kernel_rfl
  have s2 : ex g14 (.asg 1 (.op .add (.var 1) (.lst [(.tup [(.con (.str "main")), (.lst [(.con (.str "a"))])]), (.tup [(.con (.str "main")), (.con (.bl true))]), (.tup [(.con (.str "main")), (.con (.str ""))]), (.tup [(.con (.str "main")), (.con (.str "abcdefghi"))]), (.tup [(.con (.str "main")), (.con (.str "a b"))]), (.dic [] []), (.con (.str "")), (.con (.bl true))]))) [.val (.lst ts), .own false oddA, .un, .un, .un] = some (.ok .next, [.val (.lst ts), .own false (oddA ++ oddB), .un, .un, .un]) := by kernel_rfl
  generalize hod : oddA ++ oddB = od at s2
  have hbad : ∀ d ∈ od, okS d ∧ stackOk d = false := by rw [← hod]; exact odd_bad
  have hol : od.length = 19 := by rw [← hod]; rfl
  have s3 : ex g14 (.asg 2 (.op .fdiv (.bi .len [(.var 0)]) (.con (.int 2)))) [.val (.lst ts), .own false od, .un, .un, .un] = some (.ok .next, [.val (.lst ts), .own false od, .val (.int mid), .un, .un]) := rfl
  have s4 : ex g14 (.asg 3 (.comp (.nm 4) .seq [(.var 1)] none (.op .add (.op .add (.slice (.var 0) none (some (.var 2))) (.lst [(.var 4)])) (.slice (.var 0) (some (.var 2)) (some (.con (.int 199))))) [4])) [.val (.lst ts), .own false od, .val (.int mid), .un, .un] = some (.ok .next, [.val (.lst ts), .val (.lst od), .val (.int mid), .own false (od.map put), .un]) := by
    refine (ex_asg (comp_map (v := 4) (k := .seq) (d := .lst od) (xs := od) (m := id) (g := put) (env := [.val (.lst ts), .val (.lst od), .val (.int mid), .un, .un]) rfl (by rw [List.map_id]; rfl) (by omega) rfl fun o ho => ?_)).trans rfl
    show dataM _ [.val (.lst ts), .val (.lst od), .val (.int mid), .un, .val o] = some (.ok _, [.val (.lst ts), .val (.lst od), .val (.int mid), .un, .val o])
    refine data_at (r := .new (Dl.cutD ts none (some mid) ++ [o] ++ Dl.cutD ts (some mid) (some 199))) ?_
    refine St.op (St.of (r := .new (Dl.cutD ts none (some mid) ++ [o])) rfl (St.op (St.of (r := .new (Dl.cutD ts none (some mid))) rfl (ev_slice (x := .var 0) rfl rfl (evP_int (data_var rfl)) rfl rfl)) (St.of (r := .new [o]) rfl (ev_lst (evD_1 (data_var rfl)))) (if_pos ?_))) (St.of (r := .new (Dl.cutD ts (some mid) (some 199))) rfl (ev_slice (x := .var 0) rfl (evP_int (data_var rfl)) (evP_int rfl) rfl rfl)) (if_pos ?_)
    · rw [List.length_singleton]; unfold LIM; omega
    · rw [List.length_append, List.length_singleton]; unfold LIM; omega
  have hr : ev g14 (.lst [(.con .non), (.con (.int 0)), (.con (.str "main")), (.con (.bl true)), (.dic [] []), (.bi .tuple [(.var 0)]), (.tup [(.con (.str "main"))]), (.dic [(.inr "main")] [(.lst [])]), (.op .mul (.lst [(.tup [(.con (.str "main"))])]) (.con (.int 201)))]) [.val (.lst ts), .val (.lst od), .val (.int mid), .own false (od.map put), .un] = some (.ok (.new (restV ts)), [.val (.lst ts), .val (.lst od), .val (.int mid), .own false (od.map put), .un]) := by kernel_rfl
  have lr : (restV ts).length = 9 := rfl
  refine ⟨od.map put ++ restV ts, ?_, fun v hv => ?_, ?_⟩
  · refine defM_ret (env1 := [.val (.lst ts), .val (.lst od), .val (.int mid), .own false (od.map put), .un]) ?_
    refine (exs_next s1).trans ((exs_next s2).trans ((exs_next s3).trans ((exs_next s4).trans (exs_ret (ex_ret ?_)))))
    exact St.op (St.own rfl) (St.of rfl hr) (if_pos (by rw [List.length_map, hol, lr]; unfold LIM; omega))
  · rcases List.mem_append.mp hv with hv | hv
    · obtain ⟨o, ho, rfl⟩ := List.mem_map.mp hv
      obtain ⟨b1, b2⟩ := hbad o ho
      refine fmt_bad (fun d hd => ?_) ?_
      · rcases List.mem_append.mp hd with hd | hd
        · rcases List.mem_append.mp hd with hd | hd
          · exact hk d (cut_mem hd)
          · rw [List.mem_singleton.mp hd]; exact b1
        · exact hk d (cut_mem hd)
      · rw [List.all_append, List.all_append, List.all_cons, b2]
        simp
    · exact rest_bad ts v hv
  · rw [List.length_append, List.length_map, hol, lr]
    omega
end K56

set_option maxHeartbeats 400000
/-! K56b: the law's answer. -/
namespace K56
open PySem PySem.Spec PyProof.Rows L2 TL Dl
theorem g16_pull : g16.fn "_law_pull" = some ⟨[true, false], m_pull⟩ := by kernel_rfl
theorem g16_well : g16.fn "_law_well" = some ⟨[false, false], m_well⟩ := by kernel_rfl
theorem g16_samples : g16.fn "_law_samples" = some ⟨[true, false], m_samples⟩ := by kernel_rfl
theorem g16_near : g16.fn "_law_near" = some ⟨[true, false], m_near⟩ := by kernel_rfl
theorem g16_right : g16.fn "_law_right" = some ⟨[false], m_right⟩ := by kernel_rfl
theorem g16_fmt : g16.fn "format_samples" = some ⟨[false], m_format_samples⟩ := by kernel_rfl
theorem g16_told : g16.fn "_law_told" = some ⟨[false], m_told⟩ := by kernel_rfl
theorem g16_read : g16.fn "_law_read" = some ⟨[false], m_read⟩ := by kernel_rfl
theorem g16_refused : g16.fn "_law_refused" = some ⟨[false], m_refused⟩ := by kernel_rfl
theorem g16_no : g16.fn "_law_no_samples" = some ⟨[false], m_no_samples⟩ := by kernel_rfl
/-- what both readers tell alike -/
def Same (d : D) : Prop := ∃ l, m_told [.val d] = some (.ok (.new l), [.un]) ∧ m_read [.val d] = some (.ok (.new l), [.un]) ∧ Shows (.lst l)
theorem same_str {t : Str} (hp : Plain t) (hl : t.length ≤ 900000) : Same (.str t) :=
  ⟨toldL t, sem_told (by unfold LIM; omega), sem_read hp (by omega), shows_told (by omega)⟩
def tsame : IT := .tru (.op .ne (.bi .repr [(.call "_law_told" [(.var 6)])]) (.bi .repr [(.call "_law_read" [(.var 6)])]))
theorem same_test {env : Envs} {d : D} (h : env[6]? = some (.val d)) (hs : Same d) : evT g16 tsame env = some (.ok false, env) := by
  obtain ⟨l, h1, h2, h3⟩ := hs
  have q := h3.sem
  exact St.tru (St.opv (St.val rfl (St.bi1 (St.of rfl (call1 g16_told h h1)) q)) (St.val rfl (St.bi1 (St.of rfl (call1 g16_read h h2)) q)) ne_same) rfl
theorem ev_near {i n : Nat} {w : List D} {t : Str} {env : Envs} {x : IX} (hi : env[i]? = some (.own false w)) (hv : isVar x = false) (hx : ev g16 x env = some (.ok (.val (.str t)), env)) (hw : WellOk n w) (hn : n ≤ 10 ^ 8) (hp : Plain t) (hl : t.length ≤ 1000000) :
    ∃ s w', ev g16 (.call "_law_near" [(.var i), x]) env = some (.ok (.val (.str s)), env.set i (.own false w')) ∧ Near t s ∧ WellOk (n + 6) w' := by
  obtain ⟨s, w', h, hs, hw'⟩ := sem_near hw hn hp hl
  refine ⟨s, w', ?_, hs, hw'⟩
  have ho : opd (.var i) (ev g16 (.var i)) env = some (.ok (.slot i), env) := by
    show slotM i env = _
    unfold slotM
    rw [hi]
  have hb : bindA [true, false] [.slot i, .val (.str t)] env = some ([.own true w, .val (.str t)], [some (i, false), none], env.set i .un) := by
    show (env[i]?.bind lent).bind _ = _
    rw [hi]
    rfl
  refine (ev_call g16_near (evA_c ho (evA_1 (opd_of hv hx))) hb h).trans ?_
  show some (Except.ok (RV.val (.str s)), (env.set i .un).set i (.own false w')) = _
  rw [List.set_set]
/-- two hundred stacks, a change -/
def longT : Str := repS "main main.a " 99 ++ "main main.ab"
theorem long_ok : Plain longT ∧ longT.length ≤ 1200 := by
  have h : ((tl longT).all (fun c => decide (c < 0x110000)) && decide (longT.length ≤ 1200)) = true := by decide +kernel
  obtain ⟨a, b⟩ := Bool.and_eq_true_iff.mp h
  exact ⟨fun c hc => of_decide_eq_true (List.all_eq_true.mp a c hc), of_decide_eq_true b⟩
def bodyC : List IS := [.asg 6 (.call "_law_near" [(.var 2), (.var 6)])]
def bodyA : List IS := [.asg 6 (.call "format_samples" [(.var 4)]), .fors (.nm 7) .range1 [(.op .add (.con (.int 1)) (.call "_law_pull" [(.var 2), (.con (.int 3))]))] bodyC, .ifs tsame [.ret (.con (.bl false))] []]
def bodyL : List IS := [.asg 6 (.call "_law_near" [(.var 2), (.op .add (.op .mul (.con (.str "main main.a ")) (.con (.int 99))) (.con (.str "main main.ab")))]), .ifs tsame [.ret (.con (.bl false))] []]
def cmpN : IX := .comp (.nm 9) .seq [(.call "_law_no_samples" [(.var 4)])] (some (.not (.tru (.call "_law_refused" [(.var 9)])))) (.var 9) [9]
def bodyT : List IS := [.asg 4 (.call "_law_samples" [(.var 2), (.op .idx (.lst [(.con (.int 6)), (.con (.int 20)), (.con (.int 4))]) (.var 3))]), .ifs (.not (.tru (.call "_law_right" [(.var 4)]))) [.ret (.con (.bl false))] [], .fors (.nm 5) .range1 [(.con (.int 10))] bodyA, .ifs (.tru (.op .ne cmpN (.lst []))) [.ret (.con (.bl false))] []]
def bodyK : List IS := [.asg 2 (.call "_law_well" [(.var 0), (.var 1)]), .fors (.nm 3) .range1 [(.con (.int 3))] bodyT, .fors (.nm 5) .range1 [(.con (.int 4))] bodyL]
section
variable {ns : List Int} {k : Int} {s1 s2 s3 s4 s5 s6 s7 : Slot}
/-- one more change -/
theorem turnC {n : Nat} {w : List D} {t : Str} {d : D} (hw : WellOk n w) (hn : n ≤ 10 ^ 8) (hp : Plain t) (hl : t.length ≤ 1000000) : ∃ s w', ((setTg (.nm 7) d).bind fun _ => exs g16 bodyC) [.val (.scr ns), s1, .own false w, s3, s4, s5, .val (.str t), s7, .un, .un] = some (.ok .next, [.val (.scr ns), s1, .own false w', s3, s4, s5, .val (.str s), .val d, .un, .un]) ∧ Near t s ∧ WellOk (n + 6) w' := by
  obtain ⟨s, w', h, hs, hw'⟩ := sem_near hw hn hp hl
  refine ⟨s, w', ?_, hs, hw'⟩
  rw [bind_at setTg_nm]
  have hc : ev g16 (.call "_law_near" [(.var 2), (.var 6)]) [.val (.scr ns), s1, .own false w, s3, s4, s5, .val (.str t), .val d, .un, .un] = some (.ok (.val (.str s)), [.val (.scr ns), s1, .own false w', s3, s4, s5, .val (.str t), .val d, .un, .un]) :=
    ev_call (os := [.slot 2, .slot 6]) (as := [.own true w, .val (.str t)]) (org := [some (2, false), none]) (outs := [.own true w', .un]) (env2 := [.val (.scr ns), s1, .un, s3, s4, s5, .val (.str t), .val d, .un, .un]) g16_near rfl rfl h
  exact exs_next (ex_asg hc)
theorem turnA {n : Nat} {w : List D} {ss : List (List Str)} {d : D} (hw : WellOk n w) (hn : n ≤ 10 ^ 7) (hs : ∀ ns ∈ ss, Stk ns) (hl : ss.length ≤ 20) :
    ∃ w' s6' s7', ((setTg (.nm 5) d).bind fun _ => exs g16 bodyA) [.val (.scr ns), s1, .own false w, s3, .val (.lst (toSs ss)), s5, s6, s7, .un, .un] = some (.ok .next, [.val (.scr ns), s1, .own false w', s3, .val (.lst (toSs ss)), .val d, s6', s7', .un, .un]) ∧ WellOk (n + 20) w' := by
  rw [bind_at setTg_nm]
  have h1 : ex g16 (.asg 6 (.call "format_samples" [(.var 4)])) [.val (.scr ns), s1, .own false w, s3, .val (.lst (toSs ss)), .val d, s6, s7, .un, .un] = some (.ok .next, [.val (.scr ns), s1, .own false w, s3, .val (.lst (toSs ss)), .val d, .val (.str (due ss)), s7, .un, .un]) :=
    ex_asg (call1 g16_fmt rfl (fmt_ok hs (by omega)))
  have hd := due_len hs
  have hdp := due_plain hs
  obtain ⟨r, w1, p1, a1, b1, hw1⟩ := ev_pull (G := g16) (i := 2) (x := .con (.int 3)) (env := [.val (.scr ns), s1, .own false w, s3, .val (.lst (toSs ss)), .val d, .val (.str (due ss)), s7, .un, .un]) (m := 3) g16_pull rfl rfl rfl hw (by omega) (by omega) (by omega)
  obtain ⟨c, rfl⟩ := Int.eq_ofNat_of_zero_le a1
  have hit : ev g16 (.op .add (.con (.int 1)) (.call "_law_pull" [(.var 2), (.con (.int 3))])) [.val (.scr ns), s1, .own false w, s3, .val (.lst (toSs ss)), .val d, .val (.str (due ss)), s7, .un, .un] = some (.ok (.val (.int ((1 + c : Nat) : Int))), [.val (.scr ns), s1, .own false w1, s3, .val (.lst (toSs ss)), .val d, .val (.str (due ss)), s7, .un, .un]) :=
    ev_op (dx := .int 1) (dy := .int (c : Int)) rfl (opd_of rfl p1) rfl rfl (by rw [Int.natCast_add]; rfl)
  have f1 := ex_for (G := g16) (t := .nm 7) (body := bodyC) (evD_1 (data_at hit)) (range_items (k := 1 + c) (by omega))
  obtain ⟨env', l1, w2, t2, s7', rfl, hw2, hp2, hl2⟩ := loop_inv (f := fun d => (setTg (.nm 7) d).bind fun _ => exs g16 bodyC) (P := fun m env => ∃ w t s7, env = [.val (.scr ns), s1, .own false w, s3, .val (.lst (toSs ss)), .val d, .val (.str t), s7, .un, .un] ∧ WellOk (n + 1 + 6 * m) w ∧ Plain t ∧ t.length + 100 ≤ 4 ^ m * 2000) (k := 1) (n := 0) (l := rangeD 0 ((1 + c : Nat) : Int)) (env := [.val (.scr ns), s1, .own false w1, s3, .val (.lst (toSs ss)), .val d, .val (.str (due ss)), s7, .un, .un]) ⟨w1, due ss, s7, rfl, hw1, hdp, by omega⟩ (by
    rintro x hx m env hm ⟨v, t, s7, rfl, hv, hp, hl⟩
    rw [range_len] at hm
    have hm3 : m ≤ 3 := by omega
    have h4 : 4 ^ m ≤ 4 ^ 3 := Nat.pow_le_pow_right (by omega) hm3
    obtain ⟨s, v', q, hs', hv'⟩ := turnC (ns := ns) (s1 := s1) (s3 := s3) (s4 := .val (.lst (toSs ss))) (s5 := .val d) (s7 := s7) (d := x) hv (by omega) hp (by omega)
    refine ⟨_, q, v', s, _, rfl, by rw [Nat.mul_add]; exact hv', hs'.1, ?_⟩
    have := hs'.2
    rw [Nat.pow_succ]
    omega)
  rw [range_len] at hw2 hl2
  have h4 : 4 ^ (0 + 1 * (1 + c)) ≤ 4 ^ 3 := Nat.pow_le_pow_right (by omega) (by omega)
  refine ⟨w2, .val (.str t2), s7', ?_, hw2.mono (by omega)⟩
  exact (exs_next h1).trans ((exs_next (f1.trans l1)).trans (exs_next ((if_no (same_test rfl (same_str hp2 (by omega)))).trans rfl)))
theorem turnL {n : Nat} {w : List D} {d : D} (hw : WellOk n w) (hn : n ≤ 10 ^ 7) :
    ∃ w' s6', isOwnB (some s6') = false ∧ ((setTg (.nm 5) d).bind fun _ => exs g16 bodyL) [.val (.scr ns), s1, .own false w, s3, s4, s5, s6, s7, .un, .un] = some (.ok .next, [.val (.scr ns), s1, .own false w', s3, s4, .val d, s6', s7, .un, .un]) ∧ WellOk (n + 20) w' := by
  rw [bind_at setTg_nm]
  have hx : ev g16 (.op .add (.op .mul (.con (.str "main main.a ")) (.con (.int 99))) (.con (.str "main main.ab"))) [.val (.scr ns), s1, .own false w, s3, s4, .val d, s6, s7, .un, .un] = some (.ok (.val (.str longT)), [.val (.scr ns), s1, .own false w, s3, s4, .val d, s6, s7, .un, .un]) := by kernel_rfl
  have ll := long_ok.2
  obtain ⟨s, w', h, hs, hw'⟩ := ev_near (i := 2) rfl rfl hx hw (by omega) long_ok.1 (by omega)
  refine ⟨w', .val (.str s), rfl, ?_, hw'.mono (by omega)⟩
  exact (exs_next (ex_asg h)).trans (exs_next ((if_no (same_test rfl (same_str hs.1 (by have := hs.2; omega)))).trans rfl))
theorem cmpN_ev {w : Slot} {ss : List (List Str)} (hs : ∀ ns ∈ ss, Stk ns) (hl : ss.length ≤ 20) :
    ev g16 cmpN [.val (.scr ns), s1, w, s3, .val (.lst (toSs ss)), s5, s6, s7, .un, .un] = some (.ok (.new []), [.val (.scr ns), s1, w, s3, .val (.lst (toSs ss)), s5, s6, s7, .un, .un]) := by
  obtain ⟨vs, h1, h2, h3⟩ := sem_no_samples hs (by omega)
  have q := comp_filter (G := g16) (v := 9) (k := .seq) (x := .var 9) (it := .call "_law_no_samples" [(.var 4)]) (t := .not (.tru (.call "_law_refused" [(.var 9)]))) (d := .lst vs) (xs := vs) (m := id) (g := id) (p := fun _ => false) (env0 := [.val (.scr ns), s1, w, s3, .val (.lst (toSs ss)), s5, s6, s7, .un, .un]) (env := [.val (.scr ns), s1, w, s3, .val (.lst (toSs ss)), s5, s6, s7, .un, .un]) (data_at (r := .new vs) (call1 g16_no rfl h1)) (by rw [List.map_id]; rfl) (by omega) rfl (fun y hy => evT_not (k := true) (St.tru (St.val rfl (call1 g16_refused rfl (sem_refused (h2 y hy)))) rfl)) (fun y hy z => nomatch z)
  refine q.trans ?_
  rw [show vs.filter (fun _ => false) = [] from List.filter_eq_nil_iff.mpr fun _ _ z => nomatch z]
  rfl
theorem turnT {n : Nat} {w : List D} {d : Nat} (hd : d < 3) (hw : WellOk n w) (hn : n ≤ 10 ^ 6) :
    ∃ w' s4' s5' s6' s7', ((setTg (.nm 3) (.int (d : Int))).bind fun _ => exs g16 bodyT) [.val (.scr ns), s1, .own false w, s3, s4, s5, s6, s7, .un, .un] = some (.ok .next, [.val (.scr ns), s1, .own false w', .val (.int (d : Int)), s4', s5', s6', s7', .un, .un]) ∧ WellOk (n + 4000) w' := by
  rw [bind_at setTg_nm]
  have hi : ∃ m : Nat, op2 .idx (.lst [.int 6, .int 20, .int 4]) (.int (d : Int)) = some (.val (.int (m : Int))) ∧ m ≤ 20 := by
    obtain ⟨x, hx, q⟩ := idx_in (ds := [.int 6, .int 20, .int 4]) (r := (d : Int)) (by omega) (by show (d : Int) < 3; omega)
    simp only [List.mem_cons, List.not_mem_nil, or_false] at hx
    rcases hx with rfl | rfl | rfl
    · exact ⟨6, q, by omega⟩
    · exact ⟨20, q, by omega⟩
    · exact ⟨4, q, by omega⟩
  obtain ⟨m, hi, hm⟩ := hi
  obtain ⟨ss, w1, h1, hs, hl, hw1⟩ := sem_samples (most := m) hw (by omega) hm
  have hx : ev g16 (.op .idx (.lst [(.con (.int 6)), (.con (.int 20)), (.con (.int 4))]) (.var 3)) [.val (.scr ns), s1, .own false w, .val (.int (d : Int)), s4, s5, s6, s7, .un, .un] = some (.ok (.val (.int (m : Int))), [.val (.scr ns), s1, .own false w, .val (.int (d : Int)), s4, s5, s6, s7, .un, .un]) :=
    St.op (St.of (r := .new [.int 6, .int 20, .int 4]) rfl (ev_lst rfl)) (St.var rfl) hi
  have c1 : ev g16 (.call "_law_samples" [(.var 2), (.op .idx (.lst [(.con (.int 6)), (.con (.int 20)), (.con (.int 4))]) (.var 3))]) [.val (.scr ns), s1, .own false w, .val (.int (d : Int)), s4, s5, s6, s7, .un, .un] = some (.ok (.new (toSs ss)), [.val (.scr ns), s1, .own false w1, .val (.int (d : Int)), s4, s5, s6, s7, .un, .un]) :=
    ev_call (os := [.slot 2, .val (.int (m : Int))]) (as := [.own true w, .val (.int (m : Int))]) (org := [some (2, false), none]) (outs := [.own true w1, .un]) (env2 := [.val (.scr ns), s1, .un, .val (.int (d : Int)), s4, s5, s6, s7, .un, .un]) g16_samples (evA_c rfl (evA_1 (opd_of rfl hx))) rfl h1
  have t1 : evT g16 (.not (.tru (.call "_law_right" [(.var 4)]))) [.val (.scr ns), s1, .own false w1, .val (.int (d : Int)), .own false (toSs ss), s5, s6, s7, .un, .un] = some (.ok false, [.val (.scr ns), s1, .own false w1, .val (.int (d : Int)), .val (.lst (toSs ss)), s5, s6, s7, .un, .un]) :=
    evT_not (k := true) (evT_bl rfl (call1_own g16_right rfl (sem_right hs (by omega))))
  have f1 := ex_for (G := g16) (t := .nm 5) (k := .range1) (its := [(.con (.int 10))]) (env := [.val (.scr ns), s1, .own false w1, .val (.int (d : Int)), .val (.lst (toSs ss)), s5, s6, s7, .un, .un]) (env1 := [.val (.scr ns), s1, .own false w1, .val (.int (d : Int)), .val (.lst (toSs ss)), s5, s6, s7, .un, .un]) (ds := [.int 10]) (body := bodyA) rfl (range_items (k := 10) (by omega))
  obtain ⟨env', l1, w2, a5, a6, a7, rfl, hw2⟩ := loop_inv (f := fun d => (setTg (.nm 5) d).bind fun _ => exs g16 bodyA) (P := fun m env => ∃ w s5 s6 s7, env = [.val (.scr ns), s1, .own false w, .val (.int (d : Int)), .val (.lst (toSs ss)), s5, s6, s7, .un, .un] ∧ WellOk m w) (k := 20) (n := n + 3000) (l := rangeD 0 ((10 : Nat) : Int)) (env := [.val (.scr ns), s1, .own false w1, .val (.int (d : Int)), .val (.lst (toSs ss)), s5, s6, s7, .un, .un]) ⟨w1, s5, s6, s7, rfl, hw1⟩ (by
    rintro x hx m env hm ⟨v, b5, b6, b7, rfl, hv⟩
    rw [range_len] at hm
    obtain ⟨v', c6, c7, q, hv'⟩ := turnA (ns := ns) (s1 := s1) (s3 := .val (.int (d : Int))) (s5 := b5) (s6 := b6) (s7 := b7) (d := x) hv (by omega) hs (by omega)
    exact ⟨_, q, v', _, _, _, rfl, hv'⟩)
  rw [range_len] at hw2
  have t2 : evT g16 (.tru (.op .ne cmpN (.lst []))) [.val (.scr ns), s1, .own false w2, .val (.int (d : Int)), .val (.lst (toSs ss)), a5, a6, a7, .un, .un] = some (.ok false, [.val (.scr ns), s1, .own false w2, .val (.int (d : Int)), .val (.lst (toSs ss)), a5, a6, a7, .un, .un]) :=
    St.tru (St.opv (d := .bl false) (St.of (r := .new []) rfl (cmpN_ev hs (by omega))) (St.of (r := .new []) rfl (ev_lst rfl)) (by kernel_rfl)) rfl
  refine ⟨w2, .val (.lst (toSs ss)), a5, a6, a7, ?_, hw2.mono (by omega)⟩
  exact (exs_next (ex_asg c1)).trans ((exs_next ((if_no t1).trans rfl)).trans ((exs_next (f1.trans l1)).trans (exs_next ((if_no t2).trans rfl))))
theorem turnK {d : Nat} (hd : d < 5) (h6 : isOwnB (some s6) = false) : ∃ a2 a3 a4 a5 a6 a7 : Slot, isOwnB (some a6) = false ∧ ((setTg (.nm 1) (.int (d : Int))).bind fun _ => exs g16 bodyK) [.val (.scr ns), s1, s2, s3, s4, s5, s6, s7, .un, .un] = some (.ok .next, [.val (.scr ns), .val (.int (d : Int)), a2, a3, a4, a5, a6, a7, .un, .un]) := by
  rw [bind_at setTg_nm]
  obtain ⟨w, h1, hw⟩ := sem_well (ns := ns) hd
  have c1 : ev g16 (.call "_law_well" [(.var 0), (.var 1)]) [.val (.scr ns), .val (.int (d : Int)), s2, s3, s4, s5, s6, s7, .un, .un] = some (.ok (.new w), [.val (.scr ns), .val (.int (d : Int)), s2, s3, s4, s5, s6, s7, .un, .un]) :=
    ev_call (os := [.slot 0, .slot 1]) (as := [.val (.scr ns), .val (.int (d : Int))]) (org := [none, none]) (outs := [.un, .un]) (env2 := [.val (.scr ns), .val (.int (d : Int)), s2, s3, s4, s5, s6, s7, .un, .un]) g16_well rfl rfl h1
  have f1 := ex_for (G := g16) (t := .nm 3) (k := .range1) (its := [(.con (.int 3))]) (env := [.val (.scr ns), .val (.int (d : Int)), .own false w, s3, s4, s5, s6, s7, .un, .un]) (env1 := [.val (.scr ns), .val (.int (d : Int)), .own false w, s3, s4, s5, s6, s7, .un, .un]) (ds := [.int 3]) (body := bodyT) rfl (range_items (k := 3) (by omega))
  obtain ⟨env', l1, w2, a3, a4, a5, a6, a7, rfl, hw2⟩ := loop_inv (f := fun d => (setTg (.nm 3) d).bind fun _ => exs g16 bodyT) (P := fun m env => ∃ w s3 s4 s5 s6 s7, env = [.val (.scr ns), .val (.int (d : Int)), .own false w, s3, s4, s5, s6, s7, .un, .un] ∧ WellOk m w ∧ True) (k := 4000) (n := 0) (l := rangeD 0 ((3 : Nat) : Int)) (env := [.val (.scr ns), .val (.int (d : Int)), .own false w, s3, s4, s5, s6, s7, .un, .un]) ⟨w, s3, s4, s5, s6, s7, rfl, hw, trivial⟩ (by
    rintro x hx m env hm ⟨v, b3, b4, b5, b6, b7, rfl, hv, _⟩
    rw [range_len] at hm
    unfold rangeD at hx
    obtain ⟨j, hj, rfl⟩ := List.mem_map.mp hx
    have hj3 : j < 3 := by have := List.mem_range.mp hj; omega
    have ej : (0 : Int) + (j : Int) = (j : Int) := by omega
    rw [ej]
    obtain ⟨v', c4, c5, c6, c7, q, hv'⟩ := turnT (ns := ns) (s1 := .val (.int (d : Int))) (s3 := b3) (s4 := b4) (s5 := b5) (s6 := b6) (s7 := b7) hj3 hv (by omega)
    exact ⟨_, q, v', _, _, _, _, _, rfl, hv', trivial⟩)
  rw [range_len] at hw2
  have f2 := ex_for (G := g16) (t := .nm 5) (k := .range1) (its := [(.con (.int 4))]) (env := [.val (.scr ns), .val (.int (d : Int)), .own false w2, a3, a4, a5, a6, a7, .un, .un]) (env1 := [.val (.scr ns), .val (.int (d : Int)), .own false w2, a3, a4, a5, a6, a7, .un, .un]) (ds := [.int 4]) (body := bodyL) rfl (range_items (k := 4) (by omega))
  obtain ⟨env', l2, w3, b5, b6, rfl, hw3, hb6⟩ := loop_inv (f := fun d => (setTg (.nm 5) d).bind fun _ => exs g16 bodyL) (P := fun m env => ∃ w s5 s6, env = [.val (.scr ns), .val (.int (d : Int)), .own false w, a3, a4, s5, s6, a7, .un, .un] ∧ WellOk m w ∧ (12000 < m → isOwnB (some s6) = false)) (k := 20) (n := 12000) (l := rangeD 0 ((4 : Nat) : Int)) (env := [.val (.scr ns), .val (.int (d : Int)), .own false w2, a3, a4, a5, a6, a7, .un, .un]) ⟨w2, a5, a6, rfl, hw2.1.mono (by omega), fun z => absurd z (by omega)⟩ (by
    rintro x hx m env hm ⟨v, c5, c6, rfl, hv, _⟩
    rw [range_len] at hm
    obtain ⟨v', d6, h6', q, hv'⟩ := turnL (ns := ns) (s1 := .val (.int (d : Int))) (s3 := a3) (s4 := a4) (s5 := c5) (s6 := c6) (s7 := a7) (d := x) hv (by omega)
    exact ⟨_, q, v', _, _, rfl, hv', fun _ => h6'⟩)
  refine ⟨.own false w3, a3, a4, b5, b6, a7, hb6 (by rw [range_len]; omega), ?_⟩
  exact (exs_next (ex_asg c1)).trans ((exs_next (f1.trans l1)).trans ((exs_next (f2.trans l2)).trans rfl))
end
end K56

set_option maxHeartbeats 400000
/-! K56c: the plain law. -/
namespace K56
open PySem PySem.Spec PyProof.Rows L2 TL Dl
def txA : List Str := [repS "main " 199 ++ "main", repS "main " 200 ++ "main", repS "main " 200 ++ "q", "", " ", "main ", " main"]
def txB : List Str := ["main\nmain", repS "main." 7 ++ "main", repS "main." 8 ++ "main", "main  main", "main.main main.mainx"]
def txC : List D := [.non, .int 0, .bl true, .lst [], .tup [.str "main"], .dic [] [], .lst [.str "main"]]
theorem tx_ok : ∀ t ∈ txA ++ txB, Plain t ∧ t.length ≤ 2000 := by
  have h : (txA ++ txB).all (fun t => (tl t).all (fun c => decide (c < 0x110000)) && decide (t.length ≤ 2000)) = true := by decide +kernel
  intro t ht
  obtain ⟨a, b⟩ := Bool.and_eq_true_iff.mp (List.all_eq_true.mp h t ht)
  exact ⟨fun c hc => of_decide_eq_true (List.all_eq_true.mp a c hc), of_decide_eq_true b⟩
def nn : D := .lst [.non, .non]
theorem shows_nn : Shows (.lst [nn]) := ⟨rfl, rfl, by decide +kernel, by decide +kernel⟩
theorem same_c : ∀ d ∈ txC, Same d := by
  intro d hd
  unfold txC at hd
  simp only [List.mem_cons, List.not_mem_nil, or_false] at hd
  rcases hd with rfl | rfl | rfl | rfl | rfl | rfl | rfl
  · exact ⟨[nn], told_er (by kernel_rfl), by kernel_rfl, shows_nn⟩
  · exact ⟨[nn], told_er (by kernel_rfl), by kernel_rfl, shows_nn⟩
  · exact ⟨[nn], told_er (by kernel_rfl), by kernel_rfl, shows_nn⟩
  · exact ⟨[nn], told_er (by kernel_rfl), by kernel_rfl, shows_nn⟩
  · exact ⟨[nn], told_er (by kernel_rfl), by kernel_rfl, shows_nn⟩
  · exact ⟨[nn], told_er (by kernel_rfl), by kernel_rfl, shows_nn⟩
  · exact ⟨[nn], told_er (by kernel_rfl), by kernel_rfl, shows_nn⟩
def txs : List D := (txA ++ txB).map D.str ++ txC
theorem same_all : ∀ d ∈ txs, Same d := fun d hd => by
  rcases List.mem_append.mp hd with h | h
  · obtain ⟨t, ht, rfl⟩ := List.mem_map.mp h
    have := tx_ok t ht
    exact same_str this.1 (by omega)
  · exact same_c d h
section
variable {ns : List Int} {s1 s2 s3 s4 s5 s6 s7 s8 s9 : Slot}
theorem stk1 : Stk [("main" : Str)] := ⟨rfl, by decide, by decide +kernel⟩
theorem stk2 : Stk [("main" : Str), "a"] := ⟨rfl, by decide, by decide +kernel⟩
theorem stk3 : Stk [("main" : Str), "abcdefgh", "abcdefgh", "abcdefgh", "abcdefgh", "abcdefgh", "abcdefgh", "abcdefgh"] := ⟨rfl, by decide, by decide +kernel⟩
theorem reps {x : List Str} (h : Stk x) : m_right [.val (.lst (toSs (List.replicate 200 x)))] = some (.ok (.val (.bl true)), [.un]) :=
  sem_right (fun ns hn => by rw [List.eq_of_mem_replicate hn]; exact h) (by rw [List.length_replicate]; omega)
def cmpX : IX := .comp (.nm 6) .seq [(.var 8)] (some tsame) (.var 6) [6]
theorem plain (ns : List Int) (hlen : ns.length ≤ 63) : ∃ outs, m_law [.val (.scr ns)] = some (.ok (.val (.bl true)), outs) := by
  -- the cells
  have hk : ∃ K : Nat, ev g16 (.bi .max2 [(.con (.int 1)), (.bi .min2 [(.con (.int 5)), (.bi .len [(.var 0)])])]) [.val (.scr ns), .un, .un, .un, .un, .un, .un, .un, .un, .un] = some (.ok (.val (.int (K : Int))), [.val (.scr ns), .un, .un, .un, .un, .un, .un, .un, .un, .un]) ∧ K ≤ 5 := by
    let m : Int := if (ns.length : Int) < 5 then (ns.length : Int) else 5
    let M : Int := if m > 1 then m else 1
    have h0 : 0 ≤ M ∧ M ≤ 5 := by
      show 0 ≤ (if m > 1 then m else 1) ∧ (if m > 1 then m else 1) ≤ 5
      have : m ≤ 5 := by
        show (if (ns.length : Int) < 5 then (ns.length : Int) else 5) ≤ 5
        split <;> omega
      split <;> omega
    have h1 : ev g16 (.bi .max2 [(.con (.int 1)), (.bi .min2 [(.con (.int 5)), (.bi .len [(.var 0)])])]) [.val (.scr ns), .un, .un, .un, .un, .un, .un, .un, .un, .un] = some (.ok (.val (.int M)), [.val (.scr ns), .un, .un, .un, .un, .un, .un, .un, .un, .un]) :=
      St.bi2 St.con (St.val rfl (St.bi2 (dy := .int (ns.length : Int)) St.con (St.val rfl (St.bi1 (dx := .scr ns) (St.var rfl) rfl)) rfl)) rfl
    obtain ⟨K, hK⟩ := Int.eq_ofNat_of_zero_le h0.1
    rw [hK] at h1 h0
    exact ⟨K, h1, by omega⟩
  obtain ⟨K, hK, hK5⟩ := hk
  have f1 := ex_for (G := g16) (t := .nm 1) (body := bodyK) (evD_1 (data_at hK)) (range_items (k := K) (by omega))
  obtain ⟨env', l1, a1, a2, a3, a4, a5, a6, a7, rfl, o6⟩ := loop_inv (f := fun d => (setTg (.nm 1) d).bind fun _ => exs g16 bodyK) (P := fun _ env => ∃ s1 s2 s3 s4 s5 s6 s7 : Slot, env = [.val (.scr ns), s1, s2, s3, s4, s5, s6, s7, .un, .un] ∧ isOwnB (some s6) = false) (k := 0) (n := 0) (l := rangeD 0 (K : Int)) (env := [.val (.scr ns), .un, .un, .un, .un, .un, .un, .un, .un, .un]) ⟨_, _, _, _, _, _, _, rfl, rfl⟩ (by
    rintro x hx m env hm ⟨b1, b2, b3, b4, b5, b6, b7, rfl, h6⟩
    unfold rangeD at hx
    obtain ⟨j, hj, rfl⟩ := List.mem_map.mp hx
    have hj5 : j < 5 := by have := List.mem_range.mp hj; omega
    have ej : (0 : Int) + (j : Int) = (j : Int) := by omega
    rw [ej]
    obtain ⟨c2, c3, c4, c5, c6, c7, o6, q⟩ := turnK (ns := ns) (s1 := b1) (s2 := b2) (s3 := b3) (s4 := b4) (s5 := b5) (s6 := b6) (s7 := b7) hj5 h6
    exact ⟨_, q, _, _, _, _, _, _, _, rfl, o6⟩)
  -- the fixed texts
  have t1 : ex g16 (.asg 8 (.lst [(.op .add (.op .mul (.con (.str "main ")) (.con (.int 199))) (.con (.str "main"))), (.op .add (.op .mul (.con (.str "main ")) (.con (.int 200))) (.con (.str "main"))), (.op .add (.op .mul (.con (.str "main ")) (.con (.int 200))) (.con (.str "q"))), (.con (.str "")), (.con (.str " ")), (.con (.str "main ")), (.con (.str " main"))])) [.val (.scr ns), a1, a2, a3, a4, a5, a6, a7, .un, .un] = some (.ok .next, [.val (.scr ns), a1, a2, a3, a4, a5, a6, a7, .own false (txA.map D.str), .un]) := by kernel_rfl
  have t2 : ex g16 (.asg 8 (.op .add (.var 8) (.lst [(.con (.str "main\nmain")), (.op .add (.op .mul (.con (.str "main.")) (.con (.int 7))) (.con (.str "main"))), (.op .add (.op .mul (.con (.str "main.")) (.con (.int 8))) (.con (.str "main"))), (.con (.str "main  main")), (.con (.str "main.main main.mainx"))]))) [.val (.scr ns), a1, a2, a3, a4, a5, a6, a7, .own false (txA.map D.str), .un] = some (.ok .next, [.val (.scr ns), a1, a2, a3, a4, a5, a6, a7, .own false ((txA ++ txB).map D.str), .un]) := by kernel_rfl
  have t3 : ex g16 (.asg 8 (.op .add (.var 8) (.lst [(.con .non), (.con (.int 0)), (.con (.bl true)), (.lst []), (.tup [(.con (.str "main"))]), (.dic [] []), (.lst [(.con (.str "main"))])]))) [.val (.scr ns), a1, a2, a3, a4, a5, a6, a7, .own false ((txA ++ txB).map D.str), .un] = some (.ok .next, [.val (.scr ns), a1, a2, a3, a4, a5, a6, a7, .own false txs, .un]) := by kernel_rfl
  have tl19 : txs.length = 19 := rfl
  have same := same_all
  generalize txs = tx at t3 tl19 same
  have cx := comp_filterS (G := g16) (v := 6) (k := .seq) (x := .var 6) (it := .var 8) (t := tsame) (d := .lst tx) (xs := tx) (m := id) (g := id) (p := fun _ => false) (s := a6) (env0 := [.val (.scr ns), a1, a2, a3, a4, a5, a6, a7, .own false tx, .un]) (env := [.val (.scr ns), a1, a2, a3, a4, a5, a6, a7, .val (.lst tx), .un]) rfl (by rw [List.map_id]; rfl) (by omega) rfl o6 (fun y hy => same_test rfl (same y hy)) (fun y hy z => nomatch z)
  rw [show tx.filter (fun _ => false) = [] from List.filter_eq_nil_iff.mpr fun _ _ z => nomatch z] at cx
  have t4 : evT g16 (.tru (.op .ne cmpX (.lst []))) [.val (.scr ns), a1, a2, a3, a4, a5, a6, a7, .own false tx, .un] = some (.ok false, [.val (.scr ns), a1, a2, a3, a4, a5, a6, a7, .val (.lst tx), .un]) :=
    evT_tru (dx := .bl false) (opd_of rfl (ev_op (dx := .lst []) (dy := .lst []) (opd_of rfl cx) (opd_of rfl (ev_lst rfl)) rfl rfl (r := .val (.bl false)) (by kernel_rfl))) rfl rfl
  have m1 : ev g16 (.op .mul (.lst [(.tup [(.con (.str "main"))])]) (.con (.int 200))) [.val (.scr ns), a1, a2, a3, a4, a5, a6, a7, .val (.lst tx), .un] = some (.ok (.new (toSs (List.replicate 200 ["main"]))), [.val (.scr ns), a1, a2, a3, a4, a5, a6, a7, .val (.lst tx), .un]) := by kernel_rfl
  have m2 : ev g16 (.op .mul (.lst [(.tup [(.con (.str "main")), (.con (.str "a"))])]) (.con (.int 200))) [.val (.scr ns), a1, a2, a3, a4, a5, a6, a7, .val (.lst tx), .un] = some (.ok (.new (toSs (List.replicate 200 ["main", "a"]))), [.val (.scr ns), a1, a2, a3, a4, a5, a6, a7, .val (.lst tx), .un]) := by kernel_rfl
  have m3 : ev g16 (.lst []) [.val (.scr ns), a1, a2, a3, a4, a5, a6, a7, .val (.lst tx), .un] = some (.ok (.new (toSs [])), [.val (.scr ns), a1, a2, a3, a4, a5, a6, a7, .val (.lst tx), .un]) := rfl
  have m4 : ev g16 (.op .mul (.lst [(.op .add (.tup [(.con (.str "main"))]) (.op .mul (.tup [(.con (.str "abcdefgh"))]) (.con (.int 7))))]) (.con (.int 200))) [.val (.scr ns), a1, a2, a3, a4, a5, a6, a7, .val (.lst tx), .un] = some (.ok (.new (toSs (List.replicate 200 ["main", "abcdefgh", "abcdefgh", "abcdefgh", "abcdefgh", "abcdefgh", "abcdefgh", "abcdefgh"]))), [.val (.scr ns), a1, a2, a3, a4, a5, a6, a7, .val (.lst tx), .un]) := by kernel_rfl
  have r1 := callx g16_right rfl m1 (reps stk1)
  have r2 := callx g16_right rfl m2 (reps stk2)
  have r3 := callx g16_right rfl m3 (sem_right (fun ns hn => nomatch hn) (Nat.zero_le _))
  have r4 := callx g16_right rfl m4 (reps stk3)
  have t5 := evT_or (l := false) (evT_not (evT_bl rfl r1)) (fun _ => evT_or (l := false) (evT_not (evT_bl rfl r2)) (fun _ => evT_not (evT_bl rfl r3)) fun z => nomatch z) fun z => nomatch z
  refine ⟨_, defM_ret (env1 := [.val (.scr ns), a1, a2, a3, a4, a5, a6, a7, .val (.lst tx), .un]) ?_⟩
  exact (exs_next (f1.trans l1)).trans ((exs_next t1).trans ((exs_next t2).trans ((exs_next t3).trans ((exs_next ((if_no t4).trans rfl)).trans ((exs_next ((if_no t5).trans rfl)).trans (exs_ret (ex_ret r4)))))))
end
end K56

set_option maxHeartbeats 4000000
namespace K56
open PySem PySem.Spec PyProof.Rows L2 Dl
/-! ### the end -/
def iniSt : Stmt := match tp 15 with
  | .ClassDef _ _ _ b _ _ _ _ _ _ _ => b.getD 0 (.Pass ⟨0, 0, 0, 0⟩)
  | s => s
def iniAdr (K : PySem.W.Frag) : Addr := match PySem.W.findIn K (.ref (adr K "InvalidText")) "__init__" with
  | some (some (.ref a)) => a
  | _ => 0
def iniE (K : PySem.W.Frag) : Option Obj :=
  let z := fO K (iniAdr K)
  some ⟨z.1, z.2.1, .func (PySem.W.fnOf "__init__" "InvalidText.__init__" (defArgs iniSt) (defBody iniSt) (defScope iniSt) .none z.2.2.1.kwdefaults z.2.2.1.doc z.2.2.1.pyModule z.2.2.1.annotations z.2.2.1.code z.2.2.1.closureTuple), z.2.2.2⟩
def iniB (K : PySem.W.Frag) : Bool := PySem.W.findIn K (.ref (adr K "InvalidText")) "__init__" == some (some (.ref (iniAdr K))) && PySem.W.typeIn K (.ref (iniAdr K)) == some (.type "function") && PySem.W.codeIn K (fO K (iniAdr K)).2.2.1.code "InvalidText.__init__" &&
  inib K (adr K "StackError") && PySem.W.findIn K (.ref (adr K "InvalidText")) "line" == some none && PySem.W.findIn K (.ref (adr K "InvalidText")) "word" == some none && isAt K "StackError" && oexb K (adr K "InvalidText")
theorem scI : FnScope ["self", "line", "word"] ["self", "line", "word"] (defScope iniSt) := ⟨rfl, rfl, rfl, by decide +kernel, rfl, by decide +kernel, by decide +kernel⟩
/-- what the top leaves -/
structure Top (K : PySem.W.Frag) : Prop where
  chk : tab.chk K = true
  lI : K.lookup (iniAdr K) = iniE K
  bI : iniB K = true
  d1 : DefAt K "is_name" (tp 22)
  d2 : DefAt K "is_any_stack" (tp 23)
  d3 : DefAt K "format_samples" (tp 28)
  d4 : DefAt K "parse_samples" (tp 29)
  d5 : DefAt K "_law_well" (tp 31)
  d6 : DefAt K "_law_pull" (tp 32)
  d7 : DefAt K "_law_kind" (tp 33)
  d8 : DefAt K "_law_name" (tp 34)
  d9 : DefAt K "_law_samples" (tp 35)
  d10 : DefAt K "_law_is_name" (tp 36)
  d11 : DefAt K "_law_read" (tp 37)
  d12 : DefAt K "_law_told" (tp 38)
  d13 : DefAt K "_law_refused" (tp 39)
  d14 : DefAt K "_law_near" (tp 40)
  d15 : DefAt K "_law_no_samples" (tp 41)
  d16 : DefAt K "_law_right" (tp 42)
  d17 : DefAt K "law" (tp 43)
theorem ini_bind (kV doc pm : Value) (an : Option Addr) (cdv ct : Value) : ∀ us : List Value, us.length = (["self", "line", "word"] : List Str).length → bindArgs (PySem.W.fnOf "__init__" "InvalidText.__init__" (defArgs iniSt) (defBody iniSt) (defScope iniSt) .none kV doc pm an cdv ct) ⟨us, []⟩ = pure ((["self", "line", "word"] : List Str).zip us) := fun us hl => match us, hl with
  | [_, _, _], _ => rfl
theorem ini_ok {P : Program} {w : World} {K : PySem.W.Frag} {mg : Str → Option Value} {base h : Heap} (X : K.In h) (Gb : h.Ns mainGlobals mg) (t : Top K) : ∀ x ns, (x, some ns) ∈ tab.excs → ∃ (j : Nat) (fI : Addr) (fd : FuncData) (ps : List Str), j + 1 ≤ 2 ∧ PySem.W.findIn K (.ref (adr K x)) "__init__" = some (some (.ref fI)) ∧
    PySem.W.typeIn K (.ref fI) = some (.type "function") ∧ Binds K fd ps [] ∧ FnOk P w K mg base (L2N.CX P w) j fI fd ps (spInit (adr K x) ns) := by
  intro x ns hx
  have hx : (x, some ns) ∈ [(("InvalidSamples" : Str), (none : Option (List Str))), ("InvalidText", some ["line", "word"])] := hx
  simp only [List.mem_cons, Prod.mk.injEq, List.not_mem_nil, or_false, reduceCtorEq, and_false, false_or, Option.some.injEq] at hx
  obtain ⟨rfl, rfl⟩ := hx
  have b := t.bI
  unfold iniB at b
  simp only [Bool.and_eq_true, beq_iff_eq] at b
  obtain ⟨⟨⟨⟨⟨⟨⟨b1, b2⟩, b3⟩, b4⟩, b5⟩, b6⟩, b7⟩, b8⟩ := b
  have fo := init2_ok (CX := L2N.CX P w) (P := P) (w := w) (mg := mg) (base := base) (k := 0) (C := adr K "InvalidText") (S := adr K "StackError") t.lI b3 scI (by decide +kernel) ⟨by decide +kernel, by decide +kernel, by decide +kernel, by decide +kernel⟩ (PySem.W.mg_of X Gb (beq_iff_eq.mp b7)) (inib_ok b4) (fun _ => ⟨_, by rfl⟩) (oexb_ok b8) b5 b6
  exact ⟨1, iniAdr K, _, _, by decide, b1, b2, .all (ini_bind _ _ _ _ _ _), fo⟩
theorem lv {P : Program} {w : World} {K : PySem.W.Frag} {mg : Str → Option Value} {base h : Heap} (X : K.In h) (Gb : h.Ns mainGlobals mg) (t : Top K) : Lv P w K mg base (tab.T K) tab.tx g16 18 := by
  have L0 : Lv P w K mg base (tab.T K) tab.tx g0 2 := Lv.start X Gb t.chk (ini_ok X Gb t)
  have L1 : Lv P w K mg base (tab.T K) tab.tx g1 3 := L0.def_ X Gb t.d1 b_is_name f_is_name rfl c_is_name
  have L2 : Lv P w K mg base (tab.T K) tab.tx g2 4 := L1.def_ X Gb t.d2 b_is_any_stack f_is_any_stack rfl c_is_any_stack
  have L3 : Lv P w K mg base (tab.T K) tab.tx g3 5 := L2.def_ X Gb t.d3 b_format_samples f_format_samples rfl c_format_samples
  have L4 : Lv P w K mg base (tab.T K) tab.tx g4 6 := L3.def_ X Gb t.d4 b_parse_samples f_parse_samples rfl c_parse_samples
  have L5 : Lv P w K mg base (tab.T K) tab.tx g5 7 := L4.def_ X Gb t.d5 b_well f_well rfl c_well
  have L6 : Lv P w K mg base (tab.T K) tab.tx g6 8 := L5.def_ X Gb t.d6 b_pull f_pull rfl c_pull
  have L7 : Lv P w K mg base (tab.T K) tab.tx g7 9 := L6.defH X Gb t.d7 b_kind f_kind rfl c_kind
  have L8 : Lv P w K mg base (tab.T K) tab.tx g8 10 := L7.def_ X Gb t.d8 b_name f_name rfl c_name
  have L9 : Lv P w K mg base (tab.T K) tab.tx g9 11 := L8.def_ X Gb t.d9 b_samples f_samples rfl c_samples
  have L10 : Lv P w K mg base (tab.T K) tab.tx g10 12 := L9.def_ X Gb t.d10 b_lis_name f_lis_name rfl c_lis_name
  have L11 : Lv P w K mg base (tab.T K) tab.tx g11 13 := L10.def_ X Gb t.d11 b_read f_read rfl c_read
  have L12 : Lv P w K mg base (tab.T K) tab.tx g12 14 := L11.def_ X Gb t.d12 b_told f_told rfl c_told
  have L13 : Lv P w K mg base (tab.T K) tab.tx g13 15 := L12.def_ X Gb t.d13 b_refused f_refused rfl c_refused
  have L14 : Lv P w K mg base (tab.T K) tab.tx g14 16 := L13.def_ X Gb t.d14 b_near f_near rfl c_near
  have L15 : Lv P w K mg base (tab.T K) tab.tx g15 17 := L14.def_ X Gb t.d15 b_no_samples f_no_samples rfl c_no_samples
  exact L15.def_ X Gb t.d16 b_right f_right rfl c_right
theorem law_G {P : Program} {w : World} {K : PySem.W.Frag} {mg : Str → Option Value} {h : Heap} (X : K.In h) (Gb : h.Ns mainGlobals mg) (t : Top K) {fa : Addr} (hfa : mg "law" = some (.ref fa)) :
    ∃ fd : FuncData, (∀ (s : Shared) (u : Value), BindsTo s fd ⟨[u], []⟩ [("script", u)]) ∧ ∀ base : Heap, K.In base → base.Ns mainGlobals mg → FnG P w K mg base 19 fa fd ["script"] (spG ⟨K, tab.T K, none⟩ 1 m_law) :=
  Lv.law (fun base _ _ => lv X Gb t) X Gb t.d17 b_law f_law c_law hfa
end K56

open PySem PySem.W PyProof.Rows
set_option maxHeartbeats 0 in
theorem PySem.Challenge.cw_stacksamples_k56_texts_of_samples_holds : PySem.Challenge.rw_stacksamples_k56_texts_of_samples.Holds := by
  w_on; o_law; k_head; (case hw => w_witness2)
  k_fill
  refine Dl.walk_G (l := PySem.Challenge.rw_stacksamples_k56_texts_of_samples) (n := 63) (k := 19) (x := "script") (T := K56.tab.T) (sem := K56.m_law) rfl (by decide) rfl ⟨rfl, by decide, by decide⟩ (fun w h Y => PySem.W.kIn_of Y) ?F fun ns h1 _ => K56.plain ns h1
  case F =>
    intro w mg fa h KX G hmg
    refine K56.law_G KX G ?t hmg
    exact {
      chk := by kernel_rfl
      lI := by kernel_rfl
      bI := by kernel_rfl
      d1 := .of (by kernel_rfl) (by kernel_rfl)
      d2 := .of (by kernel_rfl) (by kernel_rfl)
      d3 := .of (by kernel_rfl) (by kernel_rfl)
      d4 := .of (by kernel_rfl) (by kernel_rfl)
      d5 := .of (by kernel_rfl) (by kernel_rfl)
      d6 := .of (by kernel_rfl) (by kernel_rfl)
      d7 := .of (by kernel_rfl) (by kernel_rfl)
      d8 := .of (by kernel_rfl) (by kernel_rfl)
      d9 := .of (by kernel_rfl) (by kernel_rfl)
      d10 := .of (by kernel_rfl) (by kernel_rfl)
      d11 := .of (by kernel_rfl) (by kernel_rfl)
      d12 := .of (by kernel_rfl) (by kernel_rfl)
      d13 := .of (by kernel_rfl) (by kernel_rfl)
      d14 := .of (by kernel_rfl) (by kernel_rfl)
      d15 := .of (by kernel_rfl) (by kernel_rfl)
      d16 := .of (by kernel_rfl) (by kernel_rfl)
      d17 := .of (by kernel_rfl) (by kernel_rfl) }
