import PyProof.Rows.All
import Wide.All
import OpenK.AllK
import Wide.FinOn
import HandS.ForMost
import HandS.ForExc
import HandS.Star
import HandS.Gcd
import HandS.Wide
import HandS.Evl
import HandS.Walk
import HandS.IsInst
import HandS.StrMore
import HandS.SortRule
import HandS.ExcInit
import HandS.ExcField
import HandS.CallSlots
import HandS.TupAny
import HandS.Conv
import PySem.Challenge.RW_wirehelm_k48_one_number_cells
set_option Elab.async false
set_option linter.all false
set_option maxRecDepth 100000
set_option maxHeartbeats 4000000
/-! a layer of data over HandS -/
namespace Y
open PySem L2
open Evl (Ex)

/-! ### data -/
inductive D where
  | non | bl (b : Bool) | int (i : Int) | str (x : Str)
  | lst (xs : List D) | tup (xs : List D)
  | obj (C : Addr) (fs : List (Str × D))
  | ty (n : String)
  | exc (a dd : Addr) (fs : List (Str × D))

mutual
def Rep (K : PySem.W.Frag) (F : Hp) (v : V) : D → Prop
  | .non => v = .non
  | .bl b => v = .bl b
  | .int i => v = .int i
  | .str x => v = .str x
  | .lst xs => ∃ a vs, v = .ref a ∧ SqL K F a vs ∧ Reps K F vs xs
  | .tup xs => ∃ a vs, v = .ref a ∧ SqT K F a vs ∧ Reps K F vs xs
  | .ty n => v = .ty n
  | .exc a dd fs => v = .ref a ∧ ∃ vfs, F dd = some (.xd vfs) ∧ RepF K F vfs fs
  | .obj C fs => ∃ a dx vfs, v = .ref a ∧ F a = some (.ins C dx vfs) ∧ RepF K F vfs fs
def Reps (K : PySem.W.Frag) (F : Hp) (vs : List V) : List D → Prop
  | [] => vs = []
  | d :: ds => ∃ v r, vs = v :: r ∧ Rep K F v d ∧ Reps K F r ds
def RepF (K : PySem.W.Frag) (F : Hp) (vs : List (Str × V)) : List (Str × D) → Prop
  | [] => vs = []
  | p :: ds => ∃ v r, vs = (p.1, v) :: r ∧ Rep K F v p.2 ∧ RepF K F r ds
end

section
variable {K : PySem.W.Frag} {F F' : Hp}
mutual
theorem Rep.mono (e : Ex F F') : ∀ {v : V} {d : D}, Rep K F v d → Rep K F' v d
  | _, .non, h => h
  | _, .bl _, h => h
  | _, .int _, h => h
  | _, .str _, h => h
  | _, .ty _, h => h
  | _, .exc a dd fs, ⟨h1, vs, h2, h3⟩ => ⟨h1, vs, e _ _ h2, RepF.mono e h3⟩
  | _, .lst xs, ⟨a, vs, h1, h2, h3⟩ => ⟨a, vs, h1, Evl.ex_l e h2, Reps.mono e h3⟩
  | _, .tup xs, ⟨a, vs, h1, h2, h3⟩ => ⟨a, vs, h1, Evl.ex_t e h2, Reps.mono e h3⟩
  | _, .obj C fs, ⟨a, dx, vs, h1, h2, h3⟩ => ⟨a, dx, vs, h1, e _ _ h2, RepF.mono e h3⟩
theorem Reps.mono (e : Ex F F') : ∀ {vs : List V} {ds : List D}, Reps K F vs ds → Reps K F' vs ds
  | _, [], h => h
  | _, d :: ds, ⟨v, r, h1, h2, h3⟩ => ⟨v, r, h1, Rep.mono e h2, Reps.mono e h3⟩
theorem RepF.mono (e : Ex F F') : ∀ {vs : List (Str × V)} {ds : List (Str × D)}, RepF K F vs ds → RepF K F' vs ds
  | _, [], h => h
  | _, d :: ds, ⟨v, r, h1, h2, h3⟩ => ⟨v, r, h1, Rep.mono e h2, RepF.mono e h3⟩
end
theorem Reps.length : ∀ {vs : List V} {ds : List D}, Reps K F vs ds → vs.length = ds.length
  | _, [], h => by rw [show _ = [] from h]; rfl
  | _, d :: ds, ⟨v, r, h1, h2, h3⟩ => by rw [h1, List.length_cons, List.length_cons, Reps.length h3]
theorem Reps.get : ∀ {vs : List V} {ds : List D} {i : Nat} {d : D}, Reps K F vs ds → ds[i]? = some d → ∃ v, vs[i]? = some v ∧ Rep K F v d
  | _, [], _, _, _, h => by simp at h
  | _, d :: ds, 0, d', ⟨v, r, h1, h2, h3⟩, h => by
    simp at h; subst h; subst h1; exact ⟨v, rfl, h2⟩
  | _, d :: ds, i + 1, d', ⟨v, r, h1, h2, h3⟩, h => by
    subst h1
    obtain ⟨u, h4, h5⟩ := Reps.get (i := i) (d := d') h3 (by simpa using h)
    exact ⟨u, by simpa using h4, h5⟩
theorem Reps.get' : ∀ {vs : List V} {ds : List D} {i : Nat} {v : V}, Reps K F vs ds → vs[i]? = some v → ∃ d, ds[i]? = some d ∧ Rep K F v d
  | _, [], _, _, h, e => by rw [show _ = [] from h] at e; simp at e
  | _, d :: ds, 0, v', ⟨v, r, h1, h2, h3⟩, h => by
    subst h1; simp at h; subst h; exact ⟨d, rfl, h2⟩
  | _, d :: ds, i + 1, v', ⟨v, r, h1, h2, h3⟩, h => by
    subst h1
    obtain ⟨u, h4, h5⟩ := Reps.get' (i := i) (v := v') h3 (by simpa using h)
    exact ⟨u, by simpa using h4, h5⟩
theorem Reps.append : ∀ {vs ws : List V} {ds es : List D}, Reps K F vs ds → Reps K F ws es → Reps K F (vs ++ ws) (ds ++ es)
  | _, ws, [], es, h, h' => by rw [show _ = [] from h]; exact h'
  | _, ws, d :: ds, es, ⟨v, r, h1, h2, h3⟩, h' => ⟨v, r ++ ws, by rw [h1]; rfl, h2, Reps.append h3 h'⟩
theorem Reps.take : ∀ (n : Nat) {vs : List V} {ds : List D}, Reps K F vs ds → Reps K F (vs.take n) (ds.take n)
  | 0, _, _, _ => by rw [List.take_zero, List.take_zero]; rfl
  | n + 1, _, [], h => by rw [show _ = [] from h]; rfl
  | n + 1, _, d :: ds, ⟨v, r, h1, h2, h3⟩ => ⟨v, r.take n, by rw [h1]; rfl, h2, Reps.take n h3⟩
theorem Reps.drop : ∀ (n : Nat) {vs : List V} {ds : List D}, Reps K F vs ds → Reps K F (vs.drop n) (ds.drop n)
  | 0, _, _, h => h
  | n + 1, _, [], h => by rw [show _ = [] from h]; rfl
  | n + 1, _, d :: ds, ⟨v, r, h1, h2, h3⟩ => by rw [h1]; exact Reps.drop n h3
theorem Reps.eraseIdx : ∀ (n : Nat) {vs : List V} {ds : List D}, Reps K F vs ds → Reps K F (vs.eraseIdx n) (ds.eraseIdx n)
  | _, _, [], h => by rw [show _ = [] from h]; simp; rfl
  | 0, _, d :: ds, ⟨v, r, h1, h2, h3⟩ => by rw [h1]; exact h3
  | n + 1, _, d :: ds, ⟨v, r, h1, h2, h3⟩ => ⟨v, r.eraseIdx n, by rw [h1]; rfl, h2, Reps.eraseIdx n h3⟩
theorem Reps.set : ∀ (n : Nat) {vs : List V} {ds : List D} {v : V} {d : D}, Reps K F vs ds → Rep K F v d → Reps K F (vs.set n v) (ds.set n d)
  | _, _, [], _, _, h, _ => by rw [show _ = [] from h]; simp; rfl
  | 0, _, d :: ds, v', d', ⟨v, r, h1, h2, h3⟩, h => by rw [h1]; exact ⟨v', r, rfl, h, h3⟩
  | n + 1, _, d :: ds, v', d', ⟨v, r, h1, h2, h3⟩, h => ⟨v, r.set n v', by rw [h1]; rfl, h2, Reps.set n h3 h⟩
theorem Reps.ints : ∀ {vs : List V} {ns : List Int}, Reps K F vs (ns.map D.int) → vs = ns.map V.int
  | _, [], h => h
  | _, n :: ns, ⟨v, r, h1, h2, h3⟩ => by rw [h1, show v = V.int n from h2, Reps.ints (vs := r) (ns := ns) h3]; rfl
theorem Reps.of_ints : ∀ {ns : List Int}, Reps K F (ns.map V.int) (ns.map D.int)
  | [] => rfl
  | n :: ns => ⟨.int n, ns.map V.int, rfl, rfl, Reps.of_ints⟩
theorem Reps.bls : ∀ {vs : List V} {ns : List Bool}, Reps K F vs (ns.map D.bl) → vs = ns.map V.bl
  | _, [], h => h
  | _, n :: ns, ⟨v, r, h1, h2, h3⟩ => by rw [h1, show v = V.bl n from h2, Reps.bls (vs := r) (ns := ns) h3]; rfl
end

/-! ### how heaps grow -/
/-- F frozen (all data), H all; nothing changes, what comes is new -/
structure Pu (F H F' H' : Hp) : Prop where
  ff : Ex F F'
  fh : Ex F' H'
  hh : Ex H H'
  fr : ∀ a, F' a ≠ none → F a ≠ none ∨ H a = none
theorem Pu.refl {F H : Hp} (e : Ex F H) : Pu F H F H := ⟨Ex.refl _, e, Ex.refl _, fun _ h => .inl h⟩
theorem none_of {H H' : Hp} {a : Addr} (e : Ex H H') (h : H' a = none) : H a = none := Evl.fresh_back e h
theorem some_of {H : Hp} {a : Addr} (h : H a ≠ none) : ∃ o, H a = some o := by
  cases q : H a with
  | none => exact absurd q h
  | some o => exact ⟨o, rfl⟩
theorem Pu.trans {F H F1 H1 F2 H2 : Hp} (a : Pu F H F1 H1) (b : Pu F1 H1 F2 H2) : Pu F H F2 H2 :=
  ⟨a.ff.trans b.ff, b.fh, a.hh.trans b.hh, fun x h => by
    rcases b.fr x h with h | h
    · exact a.fr x h
    · exact .inr (none_of a.hh h)⟩
/-- a new object, data at once -/
theorem Pu.new {F H : Hp} {p : Addr} {o : HO} (e : Ex F H) (h : H p = none) : Pu F H (upd F p o) (upd H p o) := by
  have hf : F p = none := none_of e h
  refine ⟨Ex.new hf, fun a u q => ?_, Ex.new h, fun a q => ?_⟩
  · by_cases z : a = p
    · subst z; rw [upd_same] at q ⊢; exact q
    · rw [upd_ne z] at q ⊢; exact e a u q
  · by_cases z : a = p
    · subst z; exact .inr h
    · rw [upd_ne z] at q; exact .inl q
/-- a new object, kept out of the data -/
theorem Pu.new' {F H : Hp} {p : Addr} {o : HO} (e : Ex F H) (h : H p = none) : Pu F H F (upd H p o) :=
  ⟨Ex.refl _, Evl.Ex.mut e (none_of e h), Ex.new h, fun _ q => .inl q⟩

/-! ### slots -/
inductive Slot where
  | un | dat (d : D) | own (ds : List D) | ext (ds : List D)
abbrev En := List Slot
def Slot.mu : Slot → Option (List D)
  | .own ds => some ds
  | .ext ds => some ds
  | _ => none
/-- p is a list that is no data (yet) -/
def MutAt (K : PySem.W.Frag) (F H : Hp) (p : Addr) (ds : List D) : Prop := F p = none ∧ ∃ vs, H p = some (.lst vs) ∧ Reps K F vs ds
def SlotOk (K : PySem.W.Frag) (F H : Hp) : Slot → Option V → Prop
  | .un, _ => True
  | .dat d, o => ∃ v, o = some v ∧ Rep K F v d
  | .own ds, o => ∃ p, o = some (.ref p) ∧ MutAt K F H p ds
  | .ext ds, o => ∃ p, o = some (.ref p) ∧ MutAt K F H p ds
structure Sts (K : PySem.W.Frag) (F H : Hp) (env : En) (σ : L2.St) : Prop where
  len : σ.length = env.length
  ok : ∀ (i : Nat) (s : Slot) (o : Option V), env[i]? = some s → σ[i]? = some o → SlotOk K F H s o
  apart : ∀ (i j : Nat) (s t : Slot) (p : Addr), env[i]? = some s → env[j]? = some t → s.mu ≠ none → t.mu ≠ none → σ[i]? = some (some (.ref p)) → σ[j]? = some (some (.ref p)) → i = j
/-- the mutable lists: an own one is younger than the entry, an outer one is in M -/
def Own (M : Addr → Prop) (H0 : Hp) (env : En) (σ : L2.St) : Prop :=
  ∀ (i : Nat) (p : Addr), (∀ ds, env[i]? = some (.own ds) → σ[i]? = some (some (.ref p)) → H0 p = none) ∧ (∀ ds, env[i]? = some (.ext ds) → σ[i]? = some (some (.ref p)) → M p)
/-- what stands at p stays, and stays no data -/
structure Kp (F H F' H' : Hp) : Prop where
  ff : Ex F F'
  kp : ∀ p o, F p = none → H p = some o → H' p = some o ∧ F' p = none
theorem Pu.kp {F H F' H' : Hp} (p : Pu F H F' H') : Kp F H F' H' := ⟨p.ff, fun a o h1 h2 => ⟨p.hh a o h2, by
  cases q : F' a with
  | none => rfl
  | some u =>
    rcases p.fr a (by rw [q]; exact fun z => by cases z) with z | z
    · exact absurd h1 z
    · rw [h2] at z; cases z⟩⟩
section
variable {K : PySem.W.Frag} {F H F' H' : Hp} {env : En} {σ : L2.St}
theorem MutAt.kp {p : Addr} {ds : List D} (h : MutAt K F H p ds) (k : Kp F H F' H') : MutAt K F' H' p ds :=
  let ⟨h1, vs, h2, h3⟩ := h
  ⟨(k.kp p _ h1 h2).2, vs, (k.kp p _ h1 h2).1, h3.mono k.ff⟩
theorem SlotOk.kp {s : Slot} {o : Option V} (h : SlotOk K F H s o) (k : Kp F H F' H') : SlotOk K F' H' s o := by
  cases s with
  | un => trivial
  | dat d => obtain ⟨v, e, r⟩ := h; exact ⟨v, e, r.mono k.ff⟩
  | own ds => obtain ⟨p, e, r⟩ := h; exact ⟨p, e, r.kp k⟩
  | ext ds => obtain ⟨p, e, r⟩ := h; exact ⟨p, e, r.kp k⟩
theorem Sts.kp (st : Sts K F H env σ) (k : Kp F H F' H') : Sts K F' H' env σ := ⟨st.len, fun i s o e1 e2 => (st.ok i s o e1 e2).kp k, st.apart⟩
theorem Sts.pu (st : Sts K F H env σ) (p : Pu F H F' H') : Sts K F' H' env σ := st.kp p.kp
theorem Sts.at (st : Sts K F H env σ) {i : Nat} {s : Slot} (e : env[i]? = some s) : ∃ o, σ[i]? = some o ∧ SlotOk K F H s o := by
  have hi : i < σ.length := by rw [st.len]; exact (List.getElem?_eq_some_iff.mp e).1
  exact ⟨σ[i], by simp [hi], st.ok i s _ e (by simp [hi])⟩
theorem Sts.dat (st : Sts K F H env σ) {i : Nat} {d : D} (e : env[i]? = some (.dat d)) : ∃ v, σ[i]? = some (some v) ∧ Rep K F v d := by
  obtain ⟨o, h1, v, h2, h3⟩ := st.at e
  subst h2
  exact ⟨v, h1, h3⟩
theorem Sts.set (st : Sts K F H env σ) {i : Nat} {d : D} {v : V} (r : Rep K F v d) : Sts K F H (env.set i (.dat d)) (σ.set i (some v)) := by
  refine ⟨by rw [List.length_set, List.length_set, st.len], fun j s o e1 e2 => ?_, fun j k s t p e1 e2 m1 m2 e3 e4 => ?_⟩
  · by_cases z : j = i
    · subst z
      have hj : j < env.length := by have := (List.getElem?_eq_some_iff.mp e1).1; rw [List.length_set] at this; exact this
      rw [List.getElem?_set_self hj] at e1
      rw [List.getElem?_set_self (by rw [st.len]; exact hj)] at e2
      cases e1; cases e2
      exact ⟨v, rfl, r⟩
    · rw [List.getElem?_set_ne (Ne.symm z)] at e1 e2
      exact st.ok j s o e1 e2
  · have nz : ∀ j s, (env.set i (.dat d))[j]? = some s → s.mu ≠ none → j ≠ i := fun j s e m z => by
      subst z
      have hj : j < env.length := by have := (List.getElem?_eq_some_iff.mp e).1; rw [List.length_set] at this; exact this
      rw [List.getElem?_set_self hj] at e
      cases e
      exact m rfl
    have h1 := nz j s e1 m1
    have h2 := nz k t e2 m2
    rw [List.getElem?_set_ne (Ne.symm h1)] at e1 e3
    rw [List.getElem?_set_ne (Ne.symm h2)] at e2 e4
    exact st.apart j k s t p e1 e2 m1 m2 e3 e4
end
end Y

namespace Y
open PySem PySem.Spec PyProof.Rows L2
open Evl (Ex)

/-! ### readings by what is run -/
section
variable (X : Cx)
def tSem (e : Expr) : TE := fun σ H Q => ∀ (pins : List (Addr × Obj)) (s : Shared), Inv X pins σ H s → wpAny (model X.prog X.w) X.A (eval e X.env) (EP X pins σ Q) X.xe s
def tSemT (e : Expr) : TT := fun σ H Q => ∀ (pins : List (Addr × Obj)) (s : Shared), Inv X pins σ H s → wpAny (model X.prog X.w) X.A (isTrue e X.env (eval e X.env)) (TP X pins σ Q) X.xe s
def tSemA (es : List Expr) : TA := fun σ H Q => ∀ (pos : Pos) (pins : List (Addr × Obj)) (s : Shared), Inv X pins σ H s → wpAny (model X.prog X.w) X.A (spliced (backTo pos (starEach es X.env))) (AP X pins σ Q) X.xe s
def tSemG (tg : Expr) : TG := fun v σ H Q => ∀ (pins : List (Addr × Obj)) (s : Shared) (u : Value), Inv X pins σ H s → RelV v u → wpAny (model X.prog X.w) X.A (assign tg X.env u) (fun _ s' => ∃ σ' H', Inv X pins σ' H' s' ∧ Q σ' H') X.xe s
def tSemGs (tgs : List Expr) : TGs := fun vs σ H Q => ∀ (pins : List (Addr × Obj)) (s : Shared) (us : List Value), Inv X pins σ H s → Vals vs us → wpAny (model X.prog X.w) X.A (assignInOrder ((assignEach tgs X.env).map (·.2)) us) (fun _ s' => ∃ σ' H', Inv X pins σ' H' s' ∧ Q σ' H') X.xe s
def tSemI (tg iter : Expr) : TI := fun σ H R => ∀ (pins : List (Addr × Obj)) (s : Shared), Inv X pins σ H s → wpAny (model X.prog X.w) X.A (eval iter X.env) (fun v s1 => wpAny (model X.prog X.w) X.A (pyIter v) (PIE X pins σ tg R) X.xe s1) X.xe s
def tSemS (st : List Stmt) : TS := fun D σ H => ∀ (pins : List (Addr × Obj)) (s : Shared), Inv X pins σ H s → wpAny (model X.prog X.w) X.A (execs st X.env) (SP X pins D) X.xe s
def tSem1 (st : Stmt) : TS := fun D σ H => ∀ (pins : List (Addr × Obj)) (s : Shared), Inv X pins σ H s → wpAny (model X.prog X.w) X.A (exec st X.env) (SP X pins D) X.xe s
end
section
variable {X : Cx}
theorem pe_s {e : Expr} : PE X e (tSem X e) := ⟨fun pins s σ H Q I h => h pins s I⟩
theorem pt_s {e : Expr} : PT X e (tSemT X e) := ⟨fun pins s σ H Q I h => h pins s I⟩
theorem pa_s {es : List Expr} : PA X es (tSemA X es) := ⟨fun pos pins s σ H Q I h => h pos pins s I⟩
theorem pg_s {e : Expr} : PG X e (tSemG X e) := ⟨fun pins s σ H v u Q I r h => h pins s u I r⟩
theorem pgs_s {e : List Expr} : PGs X e (tSemGs X e) := ⟨fun pins s σ H v u Q I r h => h pins s u I r⟩
theorem pi_s {tg e : Expr} : PI X tg e (tSemI X tg e) := ⟨fun pins s σ H R I h => h pins s I⟩
theorem pss_s {st : List Stmt} : PSs X st (tSemS X st) := ⟨fun pins s σ H D I h => h pins s I⟩
theorem ps_s {st : Stmt} : PS X st (tSem1 X st) := ⟨fun pins s σ H D I h => h pins s I⟩
theorem _root_.L2.PE.sem {e : Expr} {t : TE} (h : PE X e t) {σ : L2.St} {H : Hp} {Q : VK} (q : t σ H Q) : tSem X e σ H Q := fun pins s I => h.run pins s σ H Q I q
theorem _root_.L2.PT.sem {e : Expr} {t : TT} (h : PT X e t) {σ : L2.St} {H : Hp} {Q : Bool → Hp → Prop} (q : t σ H Q) : tSemT X e σ H Q := fun pins s I => h.run pins s σ H Q I q
theorem _root_.L2.PA.sem {e : List Expr} {t : TA} (h : PA X e t) {σ : L2.St} {H : Hp} {Q : List V → Hp → Prop} (q : t σ H Q) : tSemA X e σ H Q := fun pos pins s I => h.run pos pins s σ H Q I q
theorem _root_.L2.PG.sem {e : Expr} {t : TG} (h : PG X e t) {σ : L2.St} {H : Hp} {v : V} {Q : L2.St → Hp → Prop} (q : t v σ H Q) : tSemG X e v σ H Q := fun pins s u I r => h.run pins s σ H v u Q I r q
theorem _root_.L2.PI.sem {tg e : Expr} {t : TI} (h : PI X tg e t) {σ : L2.St} {H : Hp} {Q : It → Hp → Prop} (q : t σ H Q) : tSemI X tg e σ H Q := fun pins s I => h.run pins s σ H Q I q
theorem _root_.L2.PSs.sem {e : List Stmt} {t : TS} (h : PSs X e t) {σ : L2.St} {H : Hp} {D : Ends} (q : t D σ H) : tSemS X e D σ H := fun pins s I => h.run pins s σ H D I q
theorem _root_.L2.PS.sem {e : Stmt} {t : TS} (h : PS X e t) {σ : L2.St} {H : Hp} {D : Ends} (q : t D σ H) : tSem1 X e D σ H := fun pins s I => h.run pins s σ H D I q
end

/-! ### what is worth what -/
def Wants (K : PySem.W.Frag) (F H : Hp) (d : D) (Q : VK) : Prop := ∀ v F' H', Pu F H F' H' → Rep K F' v d → Q v H'
section
variable {K : PySem.W.Frag} {F H F1 H1 : Hp} {d : D} {Q : VK} {v : V}
theorem Wants.pu (w : Wants K F H d Q) (p : Pu F H F1 H1) : Wants K F1 H1 d Q := fun v F' H' q r => w v F' H' (p.trans q) r
theorem Wants.val (w : Wants K F H d Q) (e : Ex F H) (r : Rep K F v d) : Q v H := w v F H (Pu.refl e) r
theorem Wants.lst {ds : List D} {vs : List V} {p : Addr} (w : Wants K F H (.lst ds) Q) (e : Ex F H) (r : Reps K F vs ds) (h : H p = none) : Q (.ref p) (upd H p (.lst vs)) :=
  w _ _ _ (Pu.new e h) ⟨p, vs, rfl, SqL.of upd_same, r.mono (Ex.new (none_of e h))⟩
theorem Wants.tup {ds : List D} {vs : List V} {p : Addr} (w : Wants K F H (.tup ds) Q) (e : Ex F H) (r : Reps K F vs ds) (h : H p = none) : Q (.ref p) (upd H p (.tup vs)) :=
  w _ _ _ (Pu.new e h) ⟨p, vs, rfl, SqT.of upd_same, r.mono (Ex.new (none_of e h))⟩
end

/-- e is worth d -/
def XV (X : Cx) (env : En) (e : Expr) (d : D) : Prop := ∀ (F H : Hp) (σ : L2.St), Ex F H → Sts X.K F H env σ → ∀ Q : VK, Wants X.K F H d Q → tSem X e σ H Q
/-- a test -/
def XT (X : Cx) (env : En) (e : Expr) (b : Bool) : Prop := ∀ (F H : Hp) (σ : L2.St), Ex F H → Sts X.K F H env σ → ∀ Q : Bool → Hp → Prop, (∀ F' H', Pu F H F' H' → Q b H') → tSemT X e σ H Q
/-- a list of expressions -/
def XA (X : Cx) (env : En) (es : List Expr) (ds : List D) : Prop := ∀ (F H : Hp) (σ : L2.St), Ex F H → Sts X.K F H env σ → ∀ Q : List V → Hp → Prop, (∀ vs F' H', Pu F H F' H' → Reps X.K F' vs ds → Q vs H') → tSemA X es σ H Q
/-- operations, by data -/
def OpD (K : PySem.W.Frag) (r : R2) (x y d : D) : Prop := ∀ (F H : Hp) (v u : V) (Q : VK), Ex F H → Rep K F v x → Rep K F u y → Wants K F H d Q → r v u H Q
def UnD (K : PySem.W.Frag) (r : V → Hp → VK → Prop) (x d : D) : Prop := ∀ (F H : Hp) (v : V) (Q : VK), Ex F H → Rep K F v x → Wants K F H d Q → r v H Q
def CallD (K : PySem.W.Frag) (r : List V → Hp → VK → Prop) (xs : List D) (d : D) : Prop := ∀ (F H : Hp) (vs : List V) (Q : VK), Ex F H → Reps K F vs xs → Wants K F H d Q → r vs H Q
def MtD (K : PySem.W.Frag) (r : V → List V → Hp → VK → Prop) (x : D) (xs : List D) (d : D) : Prop := ∀ (F H : Hp) (v : V) (vs : List V) (Q : VK), Ex F H → Rep K F v x → Reps K F vs xs → Wants K F H d Q → r v vs H Q

section
variable {X : Cx} {env : En} {a b c e : Expr} {es : List Expr} {d x y z : D} {ds xs : List D} {pos p : Pos}
theorem XV.to {d' : D} (h : XV X env e d) (q : d = d') : XV X env e d' := q ▸ h
theorem XT.to {b b' : Bool} (h : XT X env e b) (q : b = b') : XT X env e b' := q ▸ h

/-! ### names, constants -/
theorem x_var (i : Nat) {n : Str} (hd : env[i]? = some (.dat d) := by rfl) (hN : X.N[i]? = some n := by rfl) (hv : Vis X.env.scope n := by first | exact Or.inl rfl | exact Or.inr (Or.inl rfl) | exact Or.inr (Or.inr rfl))
    (h1 : (n == ("__debug__" : Str)) = false := by decide) (h2 : (n == ("__classdict__" : Str)) = false := by decide) : XV X env (.Name n pos) d := by
  intro F H σ fh st Q q
  obtain ⟨v, e1, r⟩ := st.dat hd
  exact (pe_var hN hv h1 h2).sem ⟨v, e1, q.val fh r⟩
theorem x_int {i : Int} {j} : XV X env (.Constant (.int i) j pos) (.int i) := fun F H σ fh st Q q => pe_int.sem (q.val fh (v := .int i) rfl)
theorem x_bl {i : Bool} {j} : XV X env (.Constant (.bool i) j pos) (.bl i) := fun F H σ fh st Q q => pe_bl.sem (q.val fh (v := .bl i) rfl)
theorem x_non {j} : XV X env (.Constant .none j pos) .non := fun F H σ fh st Q q => pe_non.sem (q.val fh (v := .non) rfl)
theorem x_str {i : Str} {j} : XV X env (.Constant (.str i) j pos) (.str i) := fun F H σ fh st Q q => pe_str.sem (q.val fh (v := .str i) rfl)
theorem x_ty {n : Str} {T : String} (hg : Gl X n) (hm : X.mg n = none) (hv : bootBuiltins n = some (.type T)) (hn : n ≠ "__name__" := by decide) (hd : (n == ("__debug__" : Str)) = false := by decide) : XV X env (.Name n pos) (.ty T) :=
  fun F H σ fh st Q q => (pe_bltn (v := .ty T) hg hm hv rfl hn hd).sem (q.val fh (v := .ty T) rfl)
/-- a constant of the module -/
theorem x_glob {n : Str} {v : V} {u : Value} (hg : Gl X n) (hm : X.mg n = some u) (r : RelV v u) (hr : ∀ F, Rep X.K F v d) (hd : (n == ("__debug__" : Str)) = false := by decide) : XV X env (.Name n pos) d :=
  fun F H σ fh st Q q => (pe_glob hg hm r hd).sem (q.val fh (hr F))

/-! ### operators -/
theorem x_bin {op : Operator} {r : R2} (ho : OpR X (binaryOp op) r) (hr : OpD X.K r x y z) (ha : XV X env a x) (hb : XV X env b y) : XV X env (.BinOp a op b pos) z := by
  intro F H σ fh st Q q
  refine (pe_op ho pe_s pe_s).sem ?_
  refine ha F H σ fh st _ fun v F1 H1 p1 r1 => ?_
  refine hb F1 H1 σ p1.fh (st.pu p1) _ fun u F2 H2 p2 r2 => ?_
  exact hr F2 H2 v u Q p2.fh (r1.mono p2.ff) r2 (q.pu (p1.trans p2))
theorem x_cmp {op : CmpOp} {r : R2} (ho : OpR X (compareOp op) r) (hr : OpD X.K r x y z) (hm : behindInMarks op b = false) (ha : XV X env a x) (hb : XV X env b y) : XV X env (.Compare a [op] [b] pos) z := by
  intro F H σ fh st Q q
  refine (pe_cmpR ho pe_s pe_s hm).sem ?_
  refine ha F H σ fh st _ fun v F1 H1 p1 r1 => ?_
  refine hb F1 H1 σ p1.fh (st.pu p1) _ fun u F2 H2 p2 r2 => ?_
  exact hr F2 H2 v u Q p2.fh (r1.mono p2.ff) r2 (q.pu (p1.trans p2))
theorem t_cmp {op : CmpOp} {r : R2} {k : Bool} (ho : OpR X (compareOp op) r) (hr : OpD X.K r x y (.bl k)) (hm : behindInMarks op b = false) (ha : XV X env a x) (hb : XV X env b y) : XT X env (.Compare a [op] [b] pos) k := by
  intro F H σ fh st Q q
  refine (pt_cmpR ho pe_s pe_s hm).sem ?_
  refine ha F H σ fh st _ fun v F1 H1 p1 r1 => ?_
  refine hb F1 H1 σ p1.fh (st.pu p1) _ fun u F2 H2 p2 r2 => ?_
  exact hr F2 H2 v u _ p2.fh (r1.mono p2.ff) r2 fun w F3 H3 p3 r3 => ⟨k, r3, q F3 H3 ((p1.trans p2).trans p3)⟩
theorem x_unop {op : UnaryOp} {r : V → Hp → VK → Prop} (ho : UnR X (unaryOp op) r) (hr : UnD X.K r x z) (ha : XV X env a x) : XV X env (.UnaryOp op a pos) z := by
  intro F H σ fh st Q q
  refine (pe_un ho pe_s).sem ?_
  refine ha F H σ fh st _ fun v F1 H1 p1 r1 => ?_
  exact hr F1 H1 v Q p1.fh r1 (q.pu p1)
section
variable {K : PySem.W.Frag} {i j : Int}
theorem od_I0 {g : Int → Int → V} {h : D} (hg : ∀ F, Rep K F (g i j) h) : OpD K (rI0 g) (.int i) (.int j) h := fun F H v u Q fh r1 r2 q => ⟨i, j, r1, r2, q.val fh (hg F)⟩
theorem od_I {C : Int → Int → Prop} {g : Int → Int → V} {h : D} (hc : C i j) (hg : ∀ F, Rep K F (g i j) h) : OpD K (rI C g) (.int i) (.int j) h := fun F H v u Q fh r1 r2 q => ⟨i, j, r1, r2, hc, q.val fh (hg F)⟩
/-- numbers and texts, as they are compared -/
def dV : D → Option V
  | .int i => some (.int i)
  | .bl i => some (.bl i)
  | .str i => some (.str i)
  | .non => some .non
  | _ => none
theorem dV_rep {F : Hp} {x : D} {v w : V} (h : dV x = some w) (r : Rep K F v x) : v = w := by
  cases x with
  | int i => cases h; exact r
  | bl i => cases h; exact r
  | str i => cases h; exact r
  | non => cases h; exact r
  | _ => cases h
theorem od_eq {x y : D} {v w : V} (h1 : dV x = some v) (h2 : dV y = some w) (hs : scal v w = true) : OpD K rEq x y (.bl (decide (v = w))) := fun F H v' w' Q fh r1 r2 q => by
  rw [dV_rep h1 r1, dV_rep h2 r2]
  exact ⟨hs, q.val fh (v := .bl _) rfl⟩
theorem od_ne {x y : D} {v w : V} (h1 : dV x = some v) (h2 : dV y = some w) (hs : scal v w = true) : OpD K rNe x y (.bl (!decide (v = w))) := fun F H v' w' Q fh r1 r2 q => by
  rw [dV_rep h1 r1, dV_rep h2 r2]
  exact ⟨hs, q.val fh (v := .bl _) rfl⟩
theorem vint_dec : decide (V.int i = V.int j) = decide (i = j) := by
  by_cases e : i = j
  · subst e; simp
  · rw [decide_eq_false e, decide_eq_false (fun q => e (V.int.inj q))]
end
section
variable {i j : Int}
theorem x_add (ha : XV X env a (.int i)) (hb : XV X env b (.int j)) : XV X env (.BinOp a .Add b pos) (.int (i + j)) := x_bin op_add (od_I0 fun _ => rfl) ha hb
theorem x_sub (ha : XV X env a (.int i)) (hb : XV X env b (.int j)) : XV X env (.BinOp a .Sub b pos) (.int (i - j)) := x_bin op_sub (od_I0 fun _ => rfl) ha hb
theorem x_mul (ha : XV X env a (.int i)) (hb : XV X env b (.int j)) (hc : CMulW i j) : XV X env (.BinOp a .Mult b pos) (.int (i * j)) := x_bin op_mulW (od_I hc fun _ => rfl) ha hb
theorem x_fdiv (ha : XV X env a (.int i)) (hb : XV X env b (.int j)) (hc : CDivW i j) : XV X env (.BinOp a .FloorDiv b pos) (.int (i / j)) := x_bin op_fdivW (od_I hc fun _ => rfl) ha hb
theorem x_fdivN (ha : XV X env a (.int i)) (hb : XV X env b (.int j)) (hc : CDivN i j) : XV X env (.BinOp a .FloorDiv b pos) (.int (i.fdiv j)) := x_bin op_fdivN (od_I hc fun _ => rfl) ha hb
theorem x_mod (ha : XV X env a (.int i)) (hb : XV X env b (.int j)) (hc : 0 < j) : XV X env (.BinOp a .Mod b pos) (.int (i % j)) := x_bin op_mod (od_I hc fun _ => rfl) ha hb
theorem x_pow (ha : XV X env a (.int i)) (hb : XV X env b (.int j)) (hc : CPow i j) : XV X env (.BinOp a .Pow b pos) (.int (i ^ j.toNat)) := x_bin op_pow (od_I hc fun _ => rfl) ha hb
theorem ud_neg {K : PySem.W.Frag} : UnD K (rU fun i => .int (-i)) (.int i) (.int (-i)) := fun F H v Q fh r q => ⟨i, r, q.val fh (v := .int (-i)) rfl⟩
theorem x_neg (ha : XV X env a (.int i)) : XV X env (.UnaryOp .USub a pos) (.int (-i)) := x_unop un_neg ud_neg ha
theorem t_lt (ha : XV X env a (.int i)) (hb : XV X env b (.int j)) : XT X env (.Compare a [.Lt] [b] pos) (decide (i < j)) := t_cmp op_lt (od_I0 fun _ => rfl) (nomark _) ha hb
theorem t_le (ha : XV X env a (.int i)) (hb : XV X env b (.int j)) : XT X env (.Compare a [.LtE] [b] pos) (decide (i ≤ j)) := t_cmp op_le (od_I0 fun _ => rfl) (nomark _) ha hb
theorem t_gt (ha : XV X env a (.int i)) (hb : XV X env b (.int j)) : XT X env (.Compare a [.Gt] [b] pos) (decide (j < i)) := t_cmp op_gt (od_I0 fun _ => rfl) (nomark _) ha hb
theorem t_ge (ha : XV X env a (.int i)) (hb : XV X env b (.int j)) : XT X env (.Compare a [.GtE] [b] pos) (decide (j ≤ i)) := t_cmp op_ge (od_I0 fun _ => rfl) (nomark _) ha hb
theorem x_lt (ha : XV X env a (.int i)) (hb : XV X env b (.int j)) : XV X env (.Compare a [.Lt] [b] pos) (.bl (decide (i < j))) := x_cmp op_lt (od_I0 fun _ => rfl) (nomark _) ha hb
theorem x_le (ha : XV X env a (.int i)) (hb : XV X env b (.int j)) : XV X env (.Compare a [.LtE] [b] pos) (.bl (decide (i ≤ j))) := x_cmp op_le (od_I0 fun _ => rfl) (nomark _) ha hb
theorem x_gt (ha : XV X env a (.int i)) (hb : XV X env b (.int j)) : XV X env (.Compare a [.Gt] [b] pos) (.bl (decide (j < i))) := x_cmp op_gt (od_I0 fun _ => rfl) (nomark _) ha hb
theorem x_ge (ha : XV X env a (.int i)) (hb : XV X env b (.int j)) : XV X env (.Compare a [.GtE] [b] pos) (.bl (decide (j ≤ i))) := x_cmp op_ge (od_I0 fun _ => rfl) (nomark _) ha hb
theorem t_eq (ha : XV X env a (.int i)) (hb : XV X env b (.int j)) : XT X env (.Compare a [.Eq] [b] pos) (decide (i = j)) := vint_dec ▸ t_cmp op_eq (od_eq rfl rfl rfl) (nomark _) ha hb
theorem t_ne (ha : XV X env a (.int i)) (hb : XV X env b (.int j)) : XT X env (.Compare a [.NotEq] [b] pos) (!decide (i = j)) := vint_dec ▸ t_cmp op_ne (od_ne rfl rfl rfl) (nomark _) ha hb
theorem x_eq (ha : XV X env a (.int i)) (hb : XV X env b (.int j)) : XV X env (.Compare a [.Eq] [b] pos) (.bl (decide (i = j))) := vint_dec ▸ x_cmp op_eq (od_eq rfl rfl rfl) (nomark _) ha hb
theorem x_ne (ha : XV X env a (.int i)) (hb : XV X env b (.int j)) : XV X env (.Compare a [.NotEq] [b] pos) (.bl (!decide (i = j))) := vint_dec ▸ x_cmp op_ne (od_ne rfl rfl rfl) (nomark _) ha hb
end
/-- == of texts, None, truth values -/
theorem t_eqV {v w : V} (h1 : dV x = some v) (h2 : dV y = some w) (hs : scal v w = true) (ha : XV X env a x) (hb : XV X env b y) : XT X env (.Compare a [.Eq] [b] pos) (decide (v = w)) := t_cmp op_eq (od_eq h1 h2 hs) (nomark _) ha hb
theorem x_eqV {v w : V} (h1 : dV x = some v) (h2 : dV y = some w) (hs : scal v w = true) (ha : XV X env a x) (hb : XV X env b y) : XV X env (.Compare a [.Eq] [b] pos) (.bl (decide (v = w))) := x_cmp op_eq (od_eq h1 h2 hs) (nomark _) ha hb
theorem t_neV {v w : V} (h1 : dV x = some v) (h2 : dV y = some w) (hs : scal v w = true) (ha : XV X env a x) (hb : XV X env b y) : XT X env (.Compare a [.NotEq] [b] pos) (!decide (v = w)) := t_cmp op_ne (od_ne h1 h2 hs) (nomark _) ha hb
theorem x_neV {v w : V} (h1 : dV x = some v) (h2 : dV y = some w) (hs : scal v w = true) (ha : XV X env a x) (hb : XV X env b y) : XV X env (.Compare a [.NotEq] [b] pos) (.bl (!decide (v = w))) := x_cmp op_ne (od_ne h1 h2 hs) (nomark _) ha hb

/-! ### truth -/
theorem t_val {k : Bool} (h : XV X env e (.bl k)) (he : ∀ whole, isTrue e X.env whole = (do let v ← whole; standAt e.pos; holding [v] (truthy v)) := by intro _; rfl) : XT X env e k := by
  intro F H σ fh st Q q
  refine (pt_val pe_s he).sem ?_
  refine h F H σ fh st _ fun v F1 H1 p1 r1 => ⟨k, r1, q F1 H1 p1⟩
/-- the truth of data -/
def truD : D → Option Bool
  | .non => some false
  | .int i => some (i != 0)
  | .str z => if z.length ≤ sizeLine then some ((z.length : Int) != 0) else none
  | .lst xs => some (!xs.isEmpty)
  | .tup xs => some (!xs.isEmpty)
  | _ => none
theorem isEmpty_reps {K : PySem.W.Frag} {F : Hp} {vs : List V} {ds : List D} (r : Reps K F vs ds) : vs.isEmpty = ds.isEmpty := by
  have e := r.length
  cases vs <;> cases ds <;> first | rfl | (simp at e)
theorem truV_of {K : PySem.W.Frag} {F H : Hp} {v : V} {d : D} {k : Bool} (fh : Ex F H) (r : Rep K F v d) (h : truD d = some k) : TruV K v H k := by
  cases d with
  | non => cases h; rw [show v = V.non from r]; rfl
  | int i => cases h; rw [show v = V.int i from r]; rfl
  | bl i => cases h
  | str z =>
    rw [show v = V.str z from r]
    by_cases hz : z.length ≤ sizeLine
    · have h' : (if z.length ≤ sizeLine then some ((z.length : Int) != 0) else none) = some k := h
      rw [if_pos hz] at h'
      cases h'
      exact ⟨hz, rfl⟩
    · have h' : (if z.length ≤ sizeLine then some ((z.length : Int) != 0) else none) = some k := h
      rw [if_neg hz] at h'
      cases h'
  | lst xs =>
    obtain ⟨a, vs, e, h1, h2⟩ := r
    cases h
    rw [e, ← isEmpty_reps h2]
    exact .inl ⟨vs, Evl.ex_l fh h1, rfl⟩
  | tup xs =>
    obtain ⟨a, vs, e, h1, h2⟩ := r
    cases h
    rw [e, ← isEmpty_reps h2]
    exact .inr (.inl ⟨vs, Evl.ex_t fh h1, rfl⟩)
  | obj C fs => cases h
  | ty n => cases h
  | exc a dd fs => cases h
theorem t_tru {k : Bool} (h : XV X env e d) (hk : truD d = some k) (he : ∀ whole, isTrue e X.env whole = (do let v ← whole; standAt e.pos; holding [v] (truthy v)) := by intro _; rfl) : XT X env e k := by
  intro F H σ fh st Q q
  refine (pt_truth pe_s he).sem ?_
  refine h F H σ fh st _ fun v F1 H1 p1 r1 => ⟨k, truV_of p1.fh r1 hk, q F1 H1 p1⟩
theorem t_not {k : Bool} (h : XT X env a k) : XT X env (.UnaryOp .Not a pos) (!k) := by
  intro F H σ fh st Q q
  refine (pt_not pt_s).sem ?_
  exact h F H σ fh st _ fun F1 H1 p1 => q F1 H1 p1
theorem x_not {k : Bool} (h : XV X env a (.bl k)) : XV X env (.UnaryOp .Not a pos) (.bl (!k)) := by
  intro F H σ fh st Q q
  refine (pe_not pe_s).sem ?_
  exact h F H σ fh st _ fun v F1 H1 p1 r1 => ⟨k, r1, q _ F1 H1 p1 rfl⟩
/-- and, or, as tests (whatever the whole is) -/
def XW (X : Cx) (env : En) (e : Expr) (b : Bool) : Prop := ∀ (F H : Hp) (σ : L2.St), Ex F H → Sts X.K F H env σ → ∀ Q : Bool → Hp → Prop, (∀ F' H', Pu F H F' H' → Q b H') → ∀ (whole : Sem Value) (pins : List (Addr × Obj)) (s : Shared), Inv X pins σ H s → wpAny (model X.prog X.w) X.A (isTrue e X.env whole) (TP X pins σ Q) X.xe s
def tSemW (X : Cx) (e : Expr) : TT := fun σ H Q => ∀ (whole : Sem Value) (pins : List (Addr × Obj)) (s : Shared), Inv X pins σ H s → wpAny (model X.prog X.w) X.A (isTrue e X.env whole) (TP X pins σ Q) X.xe s
theorem pw_s : PW X e (tSemW X e) := ⟨fun wh pins s σ H Q I h => h wh pins s I⟩
theorem t_w {k : Bool} (h : XW X env e k) : XT X env e k := fun F H σ fh st Q q pins s I => h F H σ fh st Q q _ pins s I
variable {rest : List Expr}
theorem w_and1 {k : Bool} (h : XT X env a k) : XW X env (.BoolOp .And [a] pos) k := fun F H σ fh st Q q wh pins s I => (pw_and1 pt_s).run wh pins s σ H Q I (h F H σ fh st Q q)
theorem w_or1 {k : Bool} (h : XT X env a k) : XW X env (.BoolOp .Or [a] pos) k := fun F H σ fh st Q q wh pins s I => (pw_or1 pt_s).run wh pins s σ H Q I (h F H σ fh st Q q)
theorem w_and {k l : Bool} (h1 : XT X env a k) (h2 : k = true → XW X env (.BoolOp .And (b :: rest) pos) l) : XW X env (.BoolOp .And (a :: b :: rest) pos) (k && l) := by
  intro F H σ fh st Q q wh pins s I
  refine (pw_and pt_s pw_s).run wh pins s σ H Q I ?_
  refine h1 F H σ fh st _ fun F1 H1 p1 => ?_
  cases k with
  | true => exact iteT (h2 rfl F1 H1 σ p1.fh (st.pu p1) Q fun F2 H2 p2 => q F2 H2 (p1.trans p2))
  | false => exact iteF (q F1 H1 p1)
theorem w_or {k l : Bool} (h1 : XT X env a k) (h2 : k = false → XW X env (.BoolOp .Or (b :: rest) pos) l) : XW X env (.BoolOp .Or (a :: b :: rest) pos) (k || l) := by
  intro F H σ fh st Q q wh pins s I
  refine (pw_or pt_s pw_s).run wh pins s σ H Q I ?_
  refine h1 F H σ fh st _ fun F1 H1 p1 => ?_
  cases k with
  | true => exact iteT (q F1 H1 p1)
  | false => exact iteF (h2 rfl F1 H1 σ p1.fh (st.pu p1) Q fun F2 H2 p2 => q F2 H2 (p1.trans p2))
theorem t_and {k l : Bool} (h1 : XT X env a k) (h2 : k = true → XT X env b l) : XT X env (.BoolOp .And [a, b] pos) (k && l) := t_w (w_and h1 fun q => w_and1 (h2 q))
theorem t_or {k l : Bool} (h1 : XT X env a k) (h2 : k = false → XT X env b l) : XT X env (.BoolOp .Or [a, b] pos) (k || l) := t_w (w_or h1 fun q => w_or1 (h2 q))
theorem t_and3 {k l m : Bool} (h1 : XT X env a k) (h2 : k = true → XT X env b l) (h3 : k = true → l = true → XT X env c m) : XT X env (.BoolOp .And [a, b, c] pos) (k && (l && m)) := t_w (w_and h1 fun q => w_and (h2 q) fun q' => w_and1 (h3 q q'))
theorem t_or3 {k l m : Bool} (h1 : XT X env a k) (h2 : k = false → XT X env b l) (h3 : k = false → l = false → XT X env c m) : XT X env (.BoolOp .Or [a, b, c] pos) (k || (l || m)) := t_w (w_or h1 fun q => w_or (h2 q) fun q' => w_or1 (h3 q q'))
/-- as values, all truth values -/
theorem x_one {op} (h : XV X env a d) : XV X env (.BoolOp op [a] pos) d := fun F H σ fh st Q q => (pe_one pe_s).sem (h F H σ fh st Q q)
theorem x_andL {k l : Bool} (h1 : XV X env a (.bl k)) (h2 : k = true → XV X env (.BoolOp .And (b :: rest) pos) (.bl l)) : XV X env (.BoolOp .And (a :: b :: rest) pos) (.bl (k && l)) := by
  intro F H σ fh st Q q
  refine (pe_and pe_s pe_s).sem ?_
  refine h1 F H σ fh st _ fun v F1 H1 p1 r1 => ⟨k, r1, ?_⟩
  cases k with
  | true => exact iteT (h2 rfl F1 H1 σ p1.fh (st.pu p1) Q (q.pu p1))
  | false => exact iteF (q _ F1 H1 p1 rfl)
theorem x_orL {k l : Bool} (h1 : XV X env a (.bl k)) (h2 : k = false → XV X env (.BoolOp .Or (b :: rest) pos) (.bl l)) : XV X env (.BoolOp .Or (a :: b :: rest) pos) (.bl (k || l)) := by
  intro F H σ fh st Q q
  refine (pe_or pe_s pe_s).sem ?_
  refine h1 F H σ fh st _ fun v F1 H1 p1 r1 => ⟨k, r1, ?_⟩
  cases k with
  | true => exact iteT (q _ F1 H1 p1 rfl)
  | false => exact iteF (h2 rfl F1 H1 σ p1.fh (st.pu p1) Q (q.pu p1))
theorem x_and {k l : Bool} (h1 : XV X env a (.bl k)) (h2 : k = true → XV X env b (.bl l)) : XV X env (.BoolOp .And [a, b] pos) (.bl (k && l)) := x_andL h1 fun q => x_one (h2 q)
theorem x_or {k l : Bool} (h1 : XV X env a (.bl k)) (h2 : k = false → XV X env b (.bl l)) : XV X env (.BoolOp .Or [a, b] pos) (.bl (k || l)) := x_orL h1 fun q => x_one (h2 q)
theorem x_if {k : Bool} (hc : XT X env c k) (ha : k = true → XV X env a x) (hb : k = false → XV X env b y) : XV X env (.IfExp c a b pos) (if k = true then x else y) := by
  intro F H σ fh st Q q
  refine (pe_ifExp pt_s pe_s pe_s).sem ?_
  refine hc F H σ fh st _ fun F1 H1 p1 => ?_
  cases k with
  | true => exact iteT (ha rfl F1 H1 σ p1.fh (st.pu p1) Q fun v F2 H2 p2 r2 => q v F2 H2 (p1.trans p2) r2)
  | false => exact iteF (hb rfl F1 H1 σ p1.fh (st.pu p1) Q fun v F2 H2 p2 r2 => q v F2 H2 (p1.trans p2) r2)
theorem x_ifT (hc : XT X env c true) (ha : XV X env a x) : XV X env (.IfExp c a b pos) x := by
  intro F H σ fh st Q q
  refine (pe_ifExp pt_s pe_s pe_s).sem ?_
  exact hc F H σ fh st _ fun F1 H1 p1 => iteT (ha F1 H1 σ p1.fh (st.pu p1) Q (q.pu p1))
theorem x_ifF (hc : XT X env c false) (hb : XV X env b x) : XV X env (.IfExp c a b pos) x := by
  intro F H σ fh st Q q
  refine (pe_ifExp pt_s pe_s pe_s).sem ?_
  exact hc F H σ fh st _ fun F1 H1 p1 => iteF (hb F1 H1 σ p1.fh (st.pu p1) Q (q.pu p1))

/-! ### lists of expressions, displays -/
theorem a_nil : XA X env [] [] := fun F H σ fh st Q q => pa_nil.sem (q [] F H (Pu.refl fh) rfl)
theorem a_cons (h : XV X env e d) (hr : XA X env es ds) (hs : starEach (e :: es) X.env = (false, eval e X.env) :: starEach es X.env := by rfl) : XA X env (e :: es) (d :: ds) := by
  intro F H σ fh st Q q
  refine (pa_cons pe_s pa_s hs).sem ?_
  refine h F H σ fh st _ fun v F1 H1 p1 r1 => ?_
  exact hr F1 H1 σ p1.fh (st.pu p1) _ fun vs F2 H2 p2 r2 => q (v :: vs) F2 H2 (p1.trans p2) ⟨v, vs, rfl, r1.mono p2.ff, r2⟩
def seqD : D → Option (List D)
  | .lst xs => some xs
  | .tup xs => some xs
  | _ => none
theorem seqD_at {K : PySem.W.Frag} {F : Hp} {v : V} {d : D} {xs : List D} (h : seqD d = some xs) (r : Rep K F v d) : ∃ a vs, v = .ref a ∧ (SqT K F a vs ∨ SqL K F a vs) ∧ Reps K F vs xs := by
  cases d with
  | lst ys => cases h; obtain ⟨a, vs, h1, h2, h3⟩ := r; exact ⟨a, vs, h1, .inr h2, h3⟩
  | tup ys => cases h; obtain ⟨a, vs, h1, h2, h3⟩ := r; exact ⟨a, vs, h1, .inl h2, h3⟩
  | _ => cases h
theorem a_star (h : XV X env e d) (hd : seqD d = some xs) (hr : XA X env es ds) (hs : starEach (.Starred e p :: es) X.env = (true, eval e X.env) :: starEach es X.env := by rfl) : XA X env (.Starred e p :: es) (xs ++ ds) := by
  intro F H σ fh st Q q
  refine (StX.pa_star pe_s pa_s hs).sem ?_
  refine h F H σ fh st _ fun v F1 H1 p1 r1 => ?_
  obtain ⟨a, vs, e1, h1, h2⟩ := seqD_at hd r1
  refine ⟨a, vs, e1, h1.elim (fun z => .inl (Evl.ex_t p1.fh z)) (fun z => .inr (Evl.ex_l p1.fh z)), ?_⟩
  exact hr F1 H1 σ p1.fh (st.pu p1) _ fun ws F2 H2 p2 r2 => q (vs ++ ws) F2 H2 (p1.trans p2) ((h2.mono p2.ff).append r2)
theorem x_tup {k} (h : XA X env es ds) (hl : ds.length ≤ sizeLine := by first | decide | assumption) : XV X env (.Tuple es k pos) (.tup ds) := by
  intro F H σ fh st Q q
  refine (pe_tup pa_s).sem ?_
  refine h F H σ fh st _ fun vs F1 H1 p1 r1 => ⟨by rw [r1.length]; exact hl, fun t ht => (q.pu p1).tup p1.fh r1 ht⟩
theorem x_lst (h : XA X env es ds) (hl : ds.length ≤ sizeLine := by first | decide | assumption) : XV X env (.List es pos) (.lst ds) := by
  intro F H σ fh st Q q
  refine (pe_lst pa_s).sem ?_
  refine h F H σ fh st _ fun vs F1 H1 p1 r1 => ⟨by rw [r1.length]; exact hl, fun t ht => (q.pu p1).lst p1.fh r1 ht⟩

/-! ### subscripts -/
theorem atI_reps {K : PySem.W.Frag} {F : Hp} {vs : List V} {ds : List D} {i : Int} {d : D} (r : Reps K F vs ds) (h : atI ds i = some d) : ∃ v, atI vs i = some v ∧ Rep K F v d := by
  unfold atI at h ⊢
  rw [r.length]
  cases q : ixN ds.length i with
  | none => rw [q] at h; cases h
  | some j =>
    rw [q] at h
    exact r.get h
theorem x_ixL {i : Int} (ha : XV X env a (.lst ds)) (hb : XV X env b (.int i)) (hd : atI ds i = some d) (hs : PlainIx b := by intro _ _; rfl) : XV X env (.Subscript a b pos) d := by
  intro F H σ fh st Q q
  refine (pe_ix ix_list pe_s pe_s hs).sem ?_
  refine ha F H σ fh st _ fun v F1 H1 p1 ⟨l, vs, e1, h1, h2⟩ => ?_
  refine hb F1 H1 σ p1.fh (st.pu p1) _ fun u F2 H2 p2 r2 => ?_
  obtain ⟨w, h3, h4⟩ := atI_reps h2 hd
  exact ⟨l, vs, i, w, e1, r2, Evl.ex_l (p2.ff.trans p2.fh) h1, h3, q w F2 H2 (p1.trans p2) (h4.mono p2.ff)⟩
theorem x_ixT {i : Int} (ha : XV X env a (.tup ds)) (hb : XV X env b (.int i)) (hd : atI ds i = some d) (hs : PlainIx b := by intro _ _; rfl) : XV X env (.Subscript a b pos) d := by
  intro F H σ fh st Q q
  refine (pe_ix ix_tup pe_s pe_s hs).sem ?_
  refine ha F H σ fh st _ fun v F1 H1 p1 ⟨l, vs, e1, h1, h2⟩ => ?_
  refine hb F1 H1 σ p1.fh (st.pu p1) _ fun u F2 H2 p2 r2 => ?_
  obtain ⟨w, h3, h4⟩ := atI_reps h2 hd
  exact ⟨l, vs, i, w, e1, r2, Evl.ex_t (p2.ff.trans p2.fh) h1, h3, q w F2 H2 (p1.trans p2) (h4.mono p2.ff)⟩
/-- an attribute of an own instance -/
theorem repF_look {K : PySem.W.Frag} {F : Hp} {f : Str} : ∀ {vs : List (Str × V)} {fs : List (Str × D)} {d : D}, RepF K F vs fs → fs.lookup f = some d → ∃ v, vs.lookup f = some v ∧ Rep K F v d
  | _, [], _, _, h => by cases h
  | _, (g, d') :: fs, d, ⟨v, r, h1, h2, h3⟩, h => by
    subst h1
    rw [List.lookup_cons] at h ⊢
    cases q : f == g with
    | true => rw [q] at h; cases h; exact ⟨v, rfl, h2⟩
    | false => rw [q] at h; exact repF_look h3 h
theorem x_fld {C : Addr} {fs : List (Str × D)} {f : Str} (ha : XV X env a (.obj C fs)) (hc : Cls X.K C) (hn : NoAttr X.K C f) (hf : fs.lookup f = some d) (hb : attributeBase a f X.env (eval a X.env) = eval a X.env := by rfl) : XV X env (.Attribute a f pos) d := by
  intro F H σ fh st Q q
  refine (pe_fld pe_s hb).sem ?_
  refine ha F H σ fh st _ fun v F1 H1 p1 ⟨o, dx, vfs, e1, h1, h2⟩ => ?_
  obtain ⟨w, h3, h4⟩ := repF_look h2 hf
  exact ⟨o, C, dx, vfs, w, e1, p1.fh _ _ h1, hc, hn, h3, q w F1 H1 p1 h4⟩

/-! ### calls of built-ins -/
theorem x_callB {n : Str} {id : String} {r : List V → Hp → VK → Prop} (hc : CallR X (.builtin id) r) (hr : CallD X.K r (x :: ds) d) (hg : Gl X n) (hm : X.mg n = none) (hv : bootBuiltins n = some (.builtin id)) (ha : XA X env (e :: es) (x :: ds))
    (hn : n ≠ "__name__" := by decide) (hdb : (n == ("__debug__" : Str)) = false := by decide)
    (he : starEach (e :: es) X.env = (false, eval e X.env) :: starEach es X.env := by rfl) (hpl : (backTo pos (starEach es X.env)).any (·.1) = false := by rfl) : XV X env (.Call (.Name n p) (e :: es) [] pos) d := by
  intro F H σ fh st Q q
  refine (pe_callB hc hg hm hv pa_s hn hdb he hpl).sem ?_
  exact ha F H σ fh st _ fun vs F1 H1 p1 r1 => hr F1 H1 vs Q p1.fh r1 (q.pu p1)
theorem x_callTy {n : Str} {T : String} {r : List V → Hp → VK → Prop} (hc : CallR X (.type T) r) (hr : CallD X.K r (x :: ds) d) (hg : Gl X n) (hm : X.mg n = none) (hv : bootBuiltins n = some (.type T)) (ha : XA X env (e :: es) (x :: ds))
    (hn : n ≠ "__name__" := by decide) (hdb : (n == ("__debug__" : Str)) = false := by decide)
    (he : starEach (e :: es) X.env = (false, eval e X.env) :: starEach es X.env := by rfl) (hpl : (backTo pos (starEach es X.env)).any (·.1) = false := by rfl) : XV X env (.Call (.Name n p) (e :: es) [] pos) d := by
  intro F H σ fh st Q q
  refine (pe_callTy hc hg hm hv pa_s hn hdb he hpl).sem ?_
  exact ha F H σ fh st _ fun vs F1 H1 p1 r1 => hr F1 H1 vs Q p1.fh r1 (q.pu p1)
theorem x_callF {n : Str} {id : String} {r : List V → Hp → VK → Prop} (hc : CallR X (.builtin id) r) (hr : CallD X.K r (x :: ds) d) (hg : Gl X n) (hm : X.mg n = some (.builtin id)) (ha : XA X env (e :: es) (x :: ds))
    (hdb : (n == ("__debug__" : Str)) = false := by decide)
    (he : starEach (e :: es) X.env = (false, eval e X.env) :: starEach es X.env := by rfl) (hpl : (backTo pos (starEach es X.env)).any (·.1) = false := by rfl) : XV X env (.Call (.Name n p) (e :: es) [] pos) d := by
  intro F H σ fh st Q q
  refine (pe_callBfun hc hg hm pa_s hdb he hpl).sem ?_
  exact ha F H σ fh st _ fun vs F1 H1 p1 r1 => hr F1 H1 vs Q p1.fh r1 (q.pu p1)
end
end Y

namespace Y
open PySem PySem.Spec PyProof.Rows L2
open Evl (Ex)

/-! ### targets -/
/-- env' is env but for data at the slots js -/
def EnvX (env env' : En) (js : List Nat) : Prop := (∀ k, k ∉ js → env'[k]? = env[k]?) ∧ ∀ k ∈ js, ∀ s, env'[k]? = some s → ∃ d, s = .dat d
theorem EnvX.set {env : En} {i : Nat} {d : D} : EnvX env (env.set i (.dat d)) [i] :=
  ⟨fun k hk => List.getElem?_set_ne (fun z => hk (by simp [z])), fun k hk s e => by
    have : k = i := by simpa using hk
    subst this
    by_cases h : k < env.length
    · rw [List.getElem?_set_self h] at e; cases e; exact ⟨d, rfl⟩
    · rw [List.getElem?_eq_none (by rw [List.length_set]; omega)] at e; cases e⟩
theorem EnvX.refl {env : En} : EnvX env env [] := ⟨fun _ _ => rfl, fun k hk => by cases hk⟩
theorem EnvX.trans {e1 e2 e3 : En} {js ks : List Nat} (a : EnvX e1 e2 js) (b : EnvX e2 e3 ks) : EnvX e1 e3 (js ++ ks) :=
  ⟨fun k hk => by
    rw [List.mem_append, not_or] at hk
    rw [b.1 k hk.2, a.1 k hk.1], fun k hk s e => by
    by_cases h : k ∈ ks
    · exact b.2 k h s e
    · rw [b.1 k h] at e
      rcases List.mem_append.mp hk with z | z
      · exact a.2 k z s e
      · exact absurd z h⟩
/-- d stored at tg makes env' of env; only the slots js change -/
def XG (X : Cx) (env : En) (tg : Expr) (d : D) (env' : En) (js : List Nat) : Prop :=
  EnvX env env' js ∧ ∀ (F H : Hp) (σ : L2.St) (v : V), Ex F H → Sts X.K F H env σ → Rep X.K F v d → ∀ Q : L2.St → Hp → Prop,
    (∀ σ', Sts X.K F H env' σ' → σ'.length = σ.length → (∀ k, k ∉ js → σ'[k]? = σ[k]?) → Q σ' H) → tSemG X tg v σ H Q
def XGs (X : Cx) (env : En) (tgs : List Expr) (ds : List D) (env' : En) (js : List Nat) : Prop :=
  EnvX env env' js ∧ ∀ (F H : Hp) (σ : L2.St) (vs : List V), Ex F H → Sts X.K F H env σ → Reps X.K F vs ds → ∀ Q : L2.St → Hp → Prop,
    (∀ σ', Sts X.K F H env' σ' → σ'.length = σ.length → (∀ k, k ∉ js → σ'[k]? = σ[k]?) → Q σ' H) → tSemGs X tgs vs σ H Q
section
variable {X : Cx} {env env1 env2 : En} {e tg iter elt : Expr} {tgs es : List Expr} {d x y : D} {ds xs ys : List D} {pos p : Pos} {js ks : List Nat}
theorem g_name (i : Nat) {n : Str} (hN : X.N.Nodup) (hi : X.N[i]? = some n := by rfl) (hx : Loc X.env.scope n := by first | exact Or.inl rfl | exact Or.inr rfl)
    (hf : X.fn n = true ∨ X.env.scope.names.lookup n = some .local := by first | exact Or.inl rfl | exact Or.inr rfl) : XG X env (.Name n pos) d (env.set i (.dat d)) [i] := by
  refine ⟨EnvX.set, fun F H σ v fh st r Q q => ?_⟩
  refine (pg_name hN hi hx hf).sem ?_
  exact q _ (st.set r) (by rw [List.length_set]) fun k hk => List.getElem?_set_ne (fun z => hk (by simp [z]))
theorem g_nil : XGs X env [] [] env [] := by
  refine ⟨EnvX.refl, fun F H σ vs fh st r Q q pins s us I rv => ?_⟩
  exact pgs_nil.run pins s σ H vs us Q I rv ⟨r, q σ st rfl fun _ _ => rfl⟩
theorem g_cons (h : XG X env tg d env1 js) (hr : XGs X env1 tgs ds env2 ks) (hs : (assignEach (tg :: tgs) X.env).map (·.2) = assign tg X.env :: (assignEach tgs X.env).map (·.2) := by rfl) : XGs X env (tg :: tgs) (d :: ds) env2 (js ++ ks) := by
  refine ⟨h.1.trans hr.1, fun F H σ vs fh st ⟨v, r, e1, r1, r2⟩ Q q pins s us I rv => ?_⟩
  refine (pgs_cons pg_s pgs_s hs).run pins s σ H vs us Q I rv ⟨v, r, e1, ?_⟩
  refine h.2 F H σ v fh st r1 _ fun σ1 st1 l1 k1 => ?_
  refine hr.2 F H σ1 r fh st1 r2 _ fun σ2 st2 l2 k2 => ?_
  refine q σ2 st2 (l2.trans l1) fun k hk => ?_
  rw [List.mem_append, not_or] at hk
  rw [k2 k hk.2, k1 k hk.1]
theorem g_tup {k : Nat} {n : Nat} (hc : X.calm = true) (h : XGs X env tgs ds env1 js) (hl : ds.length = n) (hn : (assignEach tgs X.env).length = n := by rfl) (hst : (assignEach tgs X.env).findIdx? (·.1) = none := by rfl) : XG X env (.Tuple tgs k pos) (.tup ds) env1 js := by
  refine ⟨h.1, fun F H σ v fh st ⟨a, vs, e1, h1, h2⟩ Q q => ?_⟩
  refine (pg_tup hc pgs_s hn hst).sem ?_
  exact ⟨a, vs, e1, Evl.ex_t fh h1, by rw [h2.length]; exact hl, h.2 F H σ vs fh st h2 Q q⟩

/-! ### what is walked -/
/-- an iterator that gives ds -/
structure Wlk (K : PySem.W.Frag) (J : It) (F : Hp) (ds : List D) : Prop where
  goes : ∀ i H, i < ds.length → Ex F H → J.go i H
  stops : ∀ H, Ex F H → J.stop ds.length H
  yields : ∀ (i : Nat) (H : Hp) (v : V) (H' F2 : Hp), i < ds.length → Ex F F2 → Ex F2 H → J.yld i H v H' → ∃ F3 d, Pu F2 H F3 H' ∧ ds[i]? = some d ∧ Rep K F3 v d
def XI (X : Cx) (env : En) (tg iter : Expr) (ds : List D) : Prop :=
  ∀ (F H : Hp) (σ : L2.St), Ex F H → Sts X.K F H env σ → ∀ R : It → Hp → Prop, (∀ J F' H', Pu F H F' H' → Wlk X.K J F' ds → R J H') → tSemI X tg iter σ H R
theorem wlk_list {K : PySem.W.Frag} {F : Hp} {a : Addr} {vs : List V} (h : SqL K F a vs) (r : Reps K F vs ds) : Wlk K (Itl K a) F ds := by
  have w := walk_list (K := K) (a := a) (xs := vs)
  refine ⟨fun i H hi e => w.goes i H (by rw [r.length]; exact hi) (Evl.ex_l e h), fun H e => by rw [← r.length]; exact w.stops H (Evl.ex_l e h), fun i H v H' F2 hi e1 e2 y => ?_⟩
  obtain ⟨rfl, hv⟩ := w.yields i H v H' (by rw [r.length]; exact hi) (Evl.ex_l (e1.trans e2) h) y
  obtain ⟨d, h1, h2⟩ := r.get' hv
  exact ⟨F2, d, Pu.refl e2, h1, h2.mono e1⟩
theorem wlk_tup {K : PySem.W.Frag} {F : Hp} {a : Addr} {vs : List V} (h : SqT K F a vs) (r : Reps K F vs ds) : Wlk K (Itt K a) F ds := by
  have w := walk_tup (K := K) (a := a) (xs := vs)
  refine ⟨fun i H hi e => w.goes i H (by rw [r.length]; exact hi) (Evl.ex_t e h), fun H e => by rw [← r.length]; exact w.stops H (Evl.ex_t e h), fun i H v H' F2 hi e1 e2 y => ?_⟩
  obtain ⟨rfl, hv⟩ := w.yields i H v H' (by rw [r.length]; exact hi) (Evl.ex_t (e1.trans e2) h) y
  obtain ⟨d, h1, h2⟩ := r.get' hv
  exact ⟨F2, d, Pu.refl e2, h1, h2.mono e1⟩
theorem wlk_range {K : PySem.W.Frag} {F : Hp} {lo : Int} {n : Nat} : Wlk K (Itr lo n) F ((List.range n).map fun (i : Nat) => D.int (lo + i)) := by
  have w := walk_range (lo := lo) (n := n)
  have hl : ((List.range n).map fun (i : Nat) => D.int (lo + i)).length = n := by rw [List.length_map, List.length_range]
  refine ⟨fun i H hi e => w.goes i H (by rw [hl] at hi; exact hi) trivial, fun H e => by rw [hl]; exact w.stops H trivial, fun i H v H' F2 hi e1 e2 y => ?_⟩
  rw [hl] at hi
  obtain ⟨rfl, hv⟩ := w.yields i H v H' hi trivial y
  subst hv
  exact ⟨F2, .int (lo + i), Pu.refl e2, by simp [hi], rfl⟩
/-- zip, enumerate: a new pair each -/
theorem wlk_pair {K : PySem.W.Frag} {F : Hp} {J : It} {n : Nat} {G : Hp → Prop} {f g : Nat → Option V} {ps : List (D × D)} (w : Walk J n G (YPair f g)) (hn : n = ps.length) (hG : ∀ H, Ex F H → G H)
    (hf : ∀ i x p, f i = some x → ps[i]? = some p → Rep K F x p.1) (hg : ∀ i x p, g i = some x → ps[i]? = some p → Rep K F x p.2) : Wlk K J F (ps.map fun p => .tup [p.1, p.2]) := by
  subst hn
  refine ⟨fun i H hi e => w.goes i H (by rw [List.length_map] at hi; exact hi) (hG H e), fun H e => by rw [List.length_map]; exact w.stops H (hG H e), fun i H v H' F2 hi e1 e2 y => ?_⟩
  rw [List.length_map] at hi
  obtain ⟨T, x, y', rfl, hT, rfl, h1, h2⟩ := w.yields i H v H' hi (hG H (e1.trans e2)) y
  have hp : ps[i]? = some ps[i] := by simp [hi]
  have r1 := (hf i x _ h1 hp).mono e1
  have r2 := (hg i y' _ h2 hp).mono e1
  have nn := Pu.new e2 hT (o := .tup [x, y'])
  exact ⟨_, .tup [(ps[i]).1, (ps[i]).2], nn, by simp [hi], T, [x, y'], rfl, SqT.of upd_same, x, [y'], rfl, r1.mono nn.ff, y', [], rfl, r2.mono nn.ff, rfl⟩
theorem i_list (h : XV X env iter (.lst ds)) : XI X env tg iter ds := by
  intro F H σ fh st R q
  refine (pi_list pe_s).sem ?_
  refine h F H σ fh st _ fun v F1 H1 p1 ⟨a, vs, e1, h1, h2⟩ => ?_
  exact ⟨a, e1, ⟨vs, Evl.ex_l p1.fh h1⟩, q _ F1 H1 p1 (wlk_list h1 h2)⟩
theorem i_tup (h : XV X env iter (.tup ds)) : XI X env tg iter ds := by
  intro F H σ fh st R q
  refine (pi_tup pe_s).sem ?_
  refine h F H σ fh st _ fun v F1 H1 p1 ⟨a, vs, e1, h1, h2⟩ => ?_
  exact ⟨a, e1, ⟨vs, Evl.ex_t p1.fh h1⟩, q _ F1 H1 p1 (wlk_tup h1 h2)⟩
theorem i_range1 {a : Expr} {n : Int} (h : XV X env a (.int n)) (hn : -(2 ^ 62) ≤ n ∧ n < 2 ^ 62) (hg : Gl X "range" := by rfl) (hm : X.mg "range" = none := by assumption) (hs : starEach [a] X.env = [(false, eval a X.env)] := by rfl) :
    XI X env tg (.Call (.Name "range" p) [a] [] pos) ((List.range n.toNat).map fun (i : Nat) => D.int i) := by
  intro F H σ fh st R q
  refine (pi_range1 hg hm pa_s hs).sem ?_
  refine a_cons (e := a) (es := []) h a_nil (by rw [hs]; rfl) F H σ fh st _ fun vs F1 H1 p1 ⟨v, r, e1, r1, r2⟩ => ?_
  subst e1
  rw [show r = [] from r2, show v = V.int n from r1]
  refine ⟨n, rfl, hn.1, hn.2, q _ F1 H1 p1 ?_⟩
  have := wlk_range (K := X.K) (F := F1) (lo := 0) (n := n.toNat)
  simpa using this
theorem i_range2 {a b : Expr} {m n : Int} (h1 : XV X env a (.int m)) (h2 : XV X env b (.int n)) (hn : -(2 ^ 62) ≤ m ∧ m < 2 ^ 62 ∧ -(2 ^ 62) ≤ n ∧ n < 2 ^ 62) (hg : Gl X "range" := by rfl) (hm : X.mg "range" = none := by assumption)
    (hs : starEach [a, b] X.env = [(false, eval a X.env), (false, eval b X.env)] := by rfl) (hs2 : starEach [b] X.env = [(false, eval b X.env)] := by rfl) :
    XI X env tg (.Call (.Name "range" p) [a, b] [] pos) ((List.range (n - m).toNat).map fun (i : Nat) => D.int (m + i)) := by
  intro F H σ fh st R q
  refine (pi_range2 hg hm pa_s hs hs2).sem ?_
  refine a_cons (e := a) (es := [b]) h1 (a_cons h2 a_nil (by rw [hs2]; rfl)) (by rw [hs, hs2]) F H σ fh st _ fun vs F1 H1 p1 ⟨v, r, e1, r1, v2, r3, e2, r2, e3⟩ => ?_
  subst e1 e2
  rw [show r3 = [] from e3, show v = V.int m from r1, show v2 = V.int n from r2]
  exact ⟨m, n, rfl, hn, q _ F1 H1 p1 wlk_range⟩
theorem reps_ix {K : PySem.W.Frag} {F : Hp} {vs : List V} {ds : List D} (r : Reps K F vs ds) {i : Nat} {x : V} {d : D} (h : vs[i]? = some x) (h' : ds[i]? = some d) : Rep K F x d := by
  obtain ⟨d', e, r'⟩ := r.get' h
  rw [h'] at e; cases e
  exact r'
theorem i_zip {a b : Expr} {elts : List Expr} {kk : Nat} {tpos : Pos} (h1 : XV X env a (.lst xs)) (h2 : XV X env b (.lst ys)) (hg : Gl X "zip" := by rfl) (hm : X.mg "zip" = none := by assumption)
    (hs : starEach [a, b] X.env = (false, eval a X.env) :: starEach [b] X.env := by rfl) (hs2 : starEach [b] X.env = (false, eval b X.env) :: starEach [] X.env := by rfl) (hpl : (backTo pos (starEach [b] X.env)).any (·.1) = false := by rfl) :
    XI X env (.Tuple elts kk tpos) (.Call (.Name "zip" p) [a, b] [] pos) ((xs.zip ys).map fun q => .tup [q.1, q.2]) := by
  intro F H σ fh st R q
  refine (pi_zip hg hm pa_s hs hpl).sem ?_
  refine a_cons (e := a) (es := [b]) h1 (a_cons h2 a_nil hs2) hs F H σ fh st _ fun vs F1 H1 p1 ⟨v, r, e1, ⟨a1, us, e4, h4, h5⟩, v2, r3, e2, ⟨a2, ws, e6, h6, h7⟩, e3⟩ => ?_
  subst e1 e2 e4 e6
  rw [show r3 = [] from e3]
  refine ⟨a1, a2, us, ws, rfl, Evl.ex_l p1.fh h4, Evl.ex_l p1.fh h6, q _ F1 H1 p1 ?_⟩
  refine wlk_pair (walk_zip (K := X.K) (a := a1) (b := a2) (xs := us) (ys := ws) rfl) (by rw [List.length_zip, h5.length, h7.length]) (fun H e => ⟨Evl.ex_l e h4, Evl.ex_l e h6⟩) (fun i x pr e1 e2 => ?_) (fun i x pr e1 e2 => ?_)
  · rw [List.getElem?_zip_eq_some] at e2
    exact reps_ix h5 e1 e2.1
  · rw [List.getElem?_zip_eq_some] at e2
    exact reps_ix h7 e1 e2.2
theorem i_enum {a : Expr} {elts : List Expr} {kk : Nat} {tpos : Pos} (h1 : XV X env a (.lst xs)) (hg : Gl X "enumerate" := by rfl) (hm : X.mg "enumerate" = none := by assumption)
    (hs : starEach [a] X.env = [(false, eval a X.env)] := by rfl) :
    XI X env (.Tuple elts kk tpos) (.Call (.Name "enumerate" p) [a] [] pos) ((((List.range xs.length).map fun (i : Nat) => D.int i).zip xs).map fun q => .tup [q.1, q.2]) := by
  intro F H σ fh st R q
  refine (pi_enum hg hm pa_s hs).sem ?_
  refine a_cons (e := a) (es := []) h1 a_nil (by rw [hs]; rfl) F H σ fh st _ fun vs F1 H1 p1 ⟨v, r, e1, ⟨a1, us, e4, h4, h5⟩, e3⟩ => ?_
  subst e1 e4
  rw [show r = [] from e3]
  refine ⟨a1, us, rfl, Evl.ex_l p1.fh h4, q _ F1 H1 p1 ?_⟩
  refine wlk_pair (walk_enum (K := X.K) (a := a1) (xs := us)) (by rw [List.length_zip, List.length_map, List.length_range, h5.length, Nat.min_self]) (fun H e => Evl.ex_l e h4) (fun i x pr e1 e2 => ?_) (fun i x pr e1 e2 => ?_)
  · rw [List.getElem?_zip_eq_some] at e2
    cases e1
    have e2' := e2.1
    rw [List.getElem?_map] at e2'
    cases q : (List.range xs.length)[i]? with
    | none => rw [q] at e2'; cases e2'
    | some k =>
      rw [q] at e2'
      have := (List.getElem?_eq_some_iff.mp q).2
      rw [List.getElem_range] at this
      subst this
      cases pr with
      | mk p1 p2 => cases e2'; rfl
  · rw [List.getElem?_zip_eq_some] at e2
    exact reps_ix h5 e1 e2.2

/-! ### comprehensions -/
def wipeE (env : En) : List Nat → En
  | [] => env
  | v :: vs => (wipeE env vs).set v .un
theorem wipeE_length (env : En) : ∀ vs : List Nat, (wipeE env vs).length = env.length
  | [] => rfl
  | v :: vs => by unfold wipeE; rw [List.length_set, wipeE_length env vs]
theorem Sts.wipe1 {K : PySem.W.Frag} {F H : Hp} {σ : L2.St} (st : Sts K F H env σ) (i : Nat) : Sts K F H (env.set i .un) (σ.set i none) := by
  refine ⟨by rw [List.length_set, List.length_set, st.len], fun j s o e1 e2 => ?_, fun j k s t p e1 e2 m1 m2 e3 e4 => ?_⟩
  · by_cases z : j = i
    · subst z
      have hj : j < env.length := by have := (List.getElem?_eq_some_iff.mp e1).1; rw [List.length_set] at this; exact this
      rw [List.getElem?_set_self hj] at e1
      cases e1
      trivial
    · rw [List.getElem?_set_ne (Ne.symm z)] at e1 e2
      exact st.ok j s o e1 e2
  · have nz : ∀ j s, (env.set i .un)[j]? = some s → s.mu ≠ none → j ≠ i := fun j s e m z => by
      subst z
      have hj : j < env.length := by have := (List.getElem?_eq_some_iff.mp e).1; rw [List.length_set] at this; exact this
      rw [List.getElem?_set_self hj] at e
      cases e
      exact m rfl
    have h1 := nz j s e1 m1
    have h2 := nz k t e2 m2
    rw [List.getElem?_set_ne (Ne.symm h1)] at e1 e3
    rw [List.getElem?_set_ne (Ne.symm h2)] at e2 e4
    exact st.apart j k s t p e1 e2 m1 m2 e3 e4
theorem Sts.wipe {K : PySem.W.Frag} {F H : Hp} {σ : L2.St} (st : Sts K F H env σ) : ∀ vs : List Nat, Sts K F H (wipeE env vs) (L2.wipe σ vs)
  | [] => st
  | v :: vs => (Sts.wipe st vs).wipe1 v
theorem wipe_same {σ τ : L2.St} (hl : σ.length = τ.length) : ∀ {vs : List Nat}, (∀ k, k ∉ vs → σ[k]? = τ[k]?) → L2.wipe σ vs = L2.wipe τ vs := by
  intro vs h
  apply List.ext_getElem?
  intro k
  have get : ∀ (σ : L2.St) (vs : List Nat), (L2.wipe σ vs)[k]? = if k ∈ vs then (if k < σ.length then some none else none) else σ[k]? := by
    intro σ vs
    induction vs with
    | nil => simp [L2.wipe]
    | cons v vs ih =>
      unfold L2.wipe
      by_cases z : v = k
      · subst z
        rw [if_pos List.mem_cons_self]
        by_cases hv : v < σ.length
        · rw [List.getElem?_set_self (by rw [wipe_length]; exact hv), if_pos hv]
        · rw [List.getElem?_eq_none (by rw [List.length_set, wipe_length]; omega), if_neg hv]
      · rw [List.getElem?_set_ne z, ih]
        have : (k ∈ v :: vs) ↔ k ∈ vs := by rw [List.mem_cons]; exact ⟨fun q => q.elim (fun q => absurd q.symm z) id, .inr⟩
        by_cases m : k ∈ vs
        · rw [if_pos m, if_pos (this.mpr m)]
        · rw [if_neg m, if_neg (fun q => m (this.mp q))]
  rw [get, get]
  by_cases m : k ∈ vs
  · rw [if_pos m, if_pos m, hl]
  · rw [if_neg m, if_neg m, h k m]
theorem wipe_wipe (σ : L2.St) (vs : List Nat) : L2.wipe (L2.wipe σ vs) vs = L2.wipe σ vs := by
  refine wipe_same (wipe_length _ _) fun k hk => L2.wipe_out hk
/-- tests of a clause -/
def tSemTs (X : Cx) (ifs : List Expr) : TT := fun σ H Q => ∀ (pins : List (Addr × Obj)) (s : Shared), Inv X pins σ H s →
  wpAny (model X.prog X.w) X.A (forIn ifs true fun c r => if r = true then do let ok ← isTrue c X.env (eval c X.env); pure (ForInStep.yield ok) else pure (ForInStep.yield r)) (TP X pins σ Q) X.xe s
def XTs (X : Cx) (env : En) (ifs : List Expr) (b : Bool) : Prop := ∀ (F H : Hp) (σ : L2.St), Ex F H → Sts X.K F H env σ → ∀ Q : Bool → Hp → Prop, (∀ F' H', Pu F H F' H' → Q b H') → tSemTs X ifs σ H Q
end
end Y

namespace Y
open PySem PySem.Spec PyProof.Rows L2
open Evl (Ex)
section
variable (X : Cx) (scope : Scope)
def tAllE (e : Expr) : TE := fun σ H Q => ∀ (s : Shared) (H0 : Hp) (C : Addr) (cl : List (Str × Addr)) (fp : List Addr), tSem (X.blk s H0 scope (compEnvC scope cl C X.env) fp) e σ H Q
def tAllG (e : Expr) : TG := fun v σ H Q => ∀ (s : Shared) (H0 : Hp) (C : Addr) (cl : List (Str × Addr)) (fp : List Addr), tSemG (X.blk s H0 scope (compEnvC scope cl C X.env) fp) e v σ H Q
def tAllTs (es : List Expr) : TT := fun σ H Q => ∀ (s : Shared) (H0 : Hp) (C : Addr) (cl : List (Str × Addr)) (fp : List Addr), tSemTs (X.blk s H0 scope (compEnvC scope cl C X.env) fp) es σ H Q
def tAllI (tg iter : Expr) : TI := fun σ H Q => ∀ (s : Shared) (H0 : Hp) (C : Addr) (cl : List (Str × Addr)) (fp : List Addr), tSemI (X.blk s H0 scope (compEnvC scope cl C X.env) fp) tg iter σ H Q
end
section
variable {X : Cx} {scope : Scope} {env : En} {tg iter elt : Expr} {ifs : List Expr} {vs js : List Nat} {pos : Pos}
theorem kp_back {F1 H1 F' H' : Hp} {L : Addr} (hD : H1 L = none) (ff : Ex F1 F') (hh : ∀ a o, a ≠ L → H1 a = some o → H' a = some o) (fr : ∀ a, F' a ≠ none → F1 a ≠ none ∨ H1 a = none) : Kp F1 H1 F' H' :=
  ⟨ff, fun p o h1 h2 => ⟨hh p o (fun z => by rw [z, hD] at h2; cases h2) h2, by
    cases q : F' p with
    | none => rfl
    | some u =>
      rcases fr p (by rw [q]; exact fun z => by cases z) with z | z
      · exact absurd h1 z
      · rw [h2] at z; cases z⟩⟩
theorem Kp.trans {F H F1 H1 F2 H2 : Hp} (a : Kp F H F1 H1) (b : Kp F1 H1 F2 H2) : Kp F H F2 H2 :=
  ⟨a.ff.trans b.ff, fun p o h1 h2 => let ⟨x, y⟩ := a.kp p o h1 h2; b.kp p o y x⟩
/-- a list being made at D, out of the data: what a comprehension keeps -/
structure Mk1 (K : PySem.W.Frag) (L : Addr) (F1 H1 F' H' : Hp) (ds : List D) : Prop where
  ff : Ex F1 F'
  fh : Ex F' H'
  fD : F' L = none
  at' : ∃ acc, H' L = some (.lst acc) ∧ Reps K F' acc ds
  hh : ∀ a o, a ≠ L → H1 a = some o → H' a = some o
  fr : ∀ a, F' a ≠ none → F1 a ≠ none ∨ H1 a = none
end
section
variable {K : PySem.W.Frag} {L : Addr} {F1 H1 F' H' F2 H2 : Hp} {ds : List D}
theorem Mk1.start (e : Ex F1 H1) (h : H1 L = none) : Mk1 K L F1 H1 F1 (upd H1 L (.lst [])) [] :=
  ⟨Ex.refl _, Evl.Ex.mut e (none_of e h), none_of e h, ⟨[], upd_same, rfl⟩, fun a o n q => by rw [upd_ne n]; exact q, fun a q => .inl q⟩
theorem Mk1.pu (m : Mk1 K L F1 H1 F' H' ds) (p : Pu F' H' F2 H2) : Mk1 K L F1 H1 F2 H2 ds := by
  obtain ⟨acc, h1, h2⟩ := m.at'
  have k := p.kp.kp L _ m.fD h1
  refine ⟨m.ff.trans p.ff, p.fh, k.2, ⟨acc, k.1, h2.mono p.ff⟩, fun a o n q => p.hh a o (m.hh a o n q), fun a q => ?_⟩
  rcases p.fr a q with z | z
  · exact m.fr a z
  · by_cases n : a = L
    · subst n; rw [h1] at z; cases z
    · cases q1 : H1 a with
      | none => exact .inr rfl
      | some o => rw [m.hh a o n q1] at z; cases z
theorem Mk1.push (m : Mk1 K L F1 H1 F' H' ds) {v : V} {d : D} (r : Rep K F' v d) {acc : List V} (h : H' L = some (.lst acc)) : Mk1 K L F1 H1 F' (upd H' L (.lst (acc ++ [v]))) (ds ++ [d]) := by
  obtain ⟨acc', h1, h2⟩ := m.at'
  rw [h] at h1; cases h1
  exact ⟨m.ff, Evl.Ex.mut m.fh m.fD, m.fD, ⟨_, upd_same, h2.append ⟨v, [], rfl, r, rfl⟩⟩, fun a o n q => by rw [upd_ne n]; exact m.hh a o n q, m.fr⟩
theorem Mk1.kp (m : Mk1 K L F1 H1 F' H' ds) (h : H1 L = none) : Kp F1 H1 F' H' := kp_back h m.ff m.hh m.fr
theorem Mk1.done (m : Mk1 K L F1 H1 F' H' ds) (e : Ex F1 H1) (h : H1 L = none) : ∃ F2, Pu F1 H1 F2 H' ∧ Rep K F2 (.ref L) (.lst ds) := by
  obtain ⟨acc, h1, h2⟩ := m.at'
  refine ⟨upd F' L (.lst acc), ⟨m.ff.trans (Ex.new m.fD), fun a o q => ?_, fun a o q => m.hh a o (fun z => by rw [z, h] at q; cases q) q, fun a q => ?_⟩, L, acc, rfl, SqL.of upd_same, h2.mono (Ex.new m.fD)⟩
  · by_cases n : a = L
    · subst n; rw [upd_same] at q; rw [h1]; exact q
    · rw [upd_ne n] at q; exact m.fh a o q
  · by_cases n : a = L
    · subst n; exact .inr h
    · rw [upd_ne n] at q; exact m.fr a q
end
section
variable {X : Cx} {scope : Scope} {env : En} {tg iter elt tg1 iter1 : Expr} {ifs ifs1 : List Expr} {vs vs1 js js1 : List Nat} {pos : Pos}
theorem take_filter {α : Type} {xs : List α} {b : α → Bool} {f : α → D} {i : Nat} {x : α} (h : xs[i]? = some x) : ((xs.take (i + 1)).filter b).map f = ((xs.take i).filter b).map f ++ (if b x = true then [f x] else []) := by
  rw [List.take_add_one, h]
  show (((xs.take i) ++ [x]).filter b).map f = _
  rw [List.filter_append, List.map_append]
  congr 1
  by_cases q : b x = true
  · rw [if_pos q, List.filter_cons_of_pos q]; rfl
  · rw [if_neg q, List.filter_cons_of_neg q]; rfl
/-- one for, tests or none -/
theorem lc_data {α : Type} {xs : List α} {enc f : α → D} {b : α → Bool} {env1 : α → En} (hi : XI X env tg iter (xs.map enc)) (hlen : xs.length < sizeLine) (hj : ∀ k ∈ js, k ∈ vs)
    (hg : ∀ x ∈ xs, ∀ (s : Shared) (H0 : Hp) (C : Addr) (cl : List (Str × Addr)) (fp : List Addr), XG (X.blk s H0 scope (compEnvC scope cl C X.env) fp) (wipeE env vs) tg (enc x) (env1 x) js)
    (ht : ∀ x ∈ xs, ∀ (s : Shared) (H0 : Hp) (C : Addr) (cl : List (Str × Addr)) (fp : List Addr), XTs (X.blk s H0 scope (compEnvC scope cl C X.env) fp) (env1 x) ifs (b x))
    (he : ∀ x ∈ xs, b x = true → ∀ (s : Shared) (H0 : Hp) (C : Addr) (cl : List (Str × Addr)) (fp : List Addr), XV (X.blk s H0 scope (compEnvC scope cl C X.env) fp) (env1 x) elt (f x))
    {F H : Hp} {σ : L2.St} {Q : VK} (fh : Ex F H) (st : Sts X.K F H env σ) (q : Wants X.K F H (.lst ((xs.filter b).map f)) Q) :
    tLc (tSemI X tg iter) (tAllG X scope tg) (tAllTs X scope ifs) (tAllE X scope elt) vs σ H Q := by
  refine hi F H σ fh st _ fun J F1 H1 p1 w => ?_
  intro L hL
  have st1 := st.pu p1
  have nl : (xs.map enc).length = xs.length := List.length_map _
  refine ⟨fun i m H' => m = xs.length - i ∧ i ≤ xs.length ∧ ∃ F', Mk1 X.K L F1 H1 F' H' (((xs.take i).filter b).map f), ⟨xs.length, by simp, Nat.zero_le _, F1, Mk1.start p1.fh hL⟩, ?_⟩
  rintro i m H' ⟨rfl, hi', F', mk⟩
  by_cases hlt : i < xs.length
  · refine .inr ⟨w.goes i H' (by rw [nl]; exact hlt) (mk.ff.trans mk.fh), fun H'' => ∃ F'', Mk1 X.K L F1 H1 F'' H'' (((xs.take (i + 1)).filter b).map f), fun H'' p' => ⟨xs.length - (i + 1), by omega, rfl, hlt, p'⟩, fun v H'' y => ?_⟩
    obtain ⟨F3, d, p3, hd, r3⟩ := w.yields i H' v H'' F' (by rw [nl]; exact hlt) mk.ff mk.fh y
    have hx : xs[i]? = some xs[i] := by simp [hlt]
    have hm : xs[i] ∈ xs := List.getElem_mem hlt
    have ed : d = enc xs[i] := by rw [List.getElem?_map, hx] at hd; exact (Option.some.inj hd).symm
    subst ed
    have mk3 := mk.pu p3
    intro s0 H0 C cl fp
    refine (hg _ hm s0 H0 C cl fp).2 F3 H'' (L2.wipe σ vs) v p3.fh ((st1.kp (mk3.kp hL)).wipe vs) r3 _ fun σ2 st2 l2 k2 => ⟨?_, ?_⟩
    · rw [← wipe_wipe σ vs]
      exact wipe_same l2 fun k hk => k2 k fun z => hk (hj k z)
    intro s0 H0 C cl fp
    refine ht _ hm s0 H0 C cl fp F3 H'' σ2 p3.fh st2 _ fun F4 H4 p4 => ?_
    have mk4 := mk3.pu p4
    cases hb : b xs[i] with
    | false =>
      refine iteF ⟨F4, ?_⟩
      rw [take_filter hx, hb, if_neg Bool.false_ne_true, List.append_nil]
      exact mk4
    | true =>
      refine iteT ?_
      intro s0 H0 C cl fp
      refine he _ hm hb s0 H0 C cl fp F4 H4 σ2 p4.fh (st2.pu p4) _ fun u F5 H5 p5 r5 => ?_
      have mk5 := mk4.pu p5
      obtain ⟨acc, h5, r6⟩ := mk5.at'
      refine ⟨acc, h5, ?_, F5, ?_⟩
      · rw [r6.length, List.length_map]
        exact Nat.lt_of_le_of_lt (Nat.le_trans (List.length_filter_le _ _) (List.length_take_le _ _)) (Nat.lt_of_le_of_lt hi' hlen)
      · rw [take_filter hx, hb, if_pos rfl]
        exact mk5.push r5 h5
  · have e : i = xs.length := by omega
    subst e
    rw [List.take_length] at mk
    obtain ⟨F2, pu, r⟩ := mk.done p1.fh hL
    refine .inl ⟨by rw [← nl]; exact w.stops H' (mk.ff.trans mk.fh), q _ F2 H' (p1.trans pu) r⟩
/-- what a comprehension is worth -/
def XLc (X : Cx) (env : En) (scope : Scope) (vs : List Nat) (elt tg iter : Expr) (ifs : List Expr) (d : D) : Prop := ∀ (F H : Hp) (σ : L2.St) (Q : VK), Ex F H → Sts X.K F H env σ → Wants X.K F H d Q → tLc (tSemI X tg iter) (tAllG X scope tg) (tAllTs X scope ifs) (tAllE X scope elt) vs σ H Q
theorem ts_nil : XTs X env [] true := fun F H σ fh st Q q pins s I => pts_nil.run pins s σ H Q I (q F H (Pu.refl fh))
theorem ts_one {c : Expr} {b : Bool} (h : XT X env c b) : XTs X env [c] b := fun F H σ fh st Q q pins s I => (pts_one pt_s).run pins s σ H Q I (h F H σ fh st Q q)
theorem filter_true {α : Type} (xs : List α) : xs.filter (fun _ => true) = xs := List.filter_eq_self.mpr fun _ _ => rfl
/-- [elt for tg in iter if ..] -/
theorem l_if {α : Type} {xs : List α} {enc f : α → D} {b : α → Bool} {env1 : α → En} (hi : XI X env tg iter (xs.map enc)) (hlen : xs.length < sizeLine) (hj : ∀ k ∈ js, k ∈ vs)
    (hg : ∀ x ∈ xs, ∀ (s : Shared) (H0 : Hp) (C : Addr) (cl : List (Str × Addr)) (fp : List Addr), XG (X.blk s H0 scope (compEnvC scope cl C X.env) fp) (wipeE env vs) tg (enc x) (env1 x) js)
    (ht : ∀ x ∈ xs, ∀ (s : Shared) (H0 : Hp) (C : Addr) (cl : List (Str × Addr)) (fp : List Addr), XTs (X.blk s H0 scope (compEnvC scope cl C X.env) fp) (env1 x) ifs (b x))
    (he : ∀ x ∈ xs, b x = true → ∀ (s : Shared) (H0 : Hp) (C : Addr) (cl : List (Str × Addr)) (fp : List Addr), XV (X.blk s H0 scope (compEnvC scope cl C X.env) fp) (env1 x) elt (f x)) : XLc X env scope vs elt tg iter ifs (.lst ((xs.filter b).map f)) :=
  fun _ _ _ _ fh st q => lc_data hi hlen hj hg ht he fh st q
/-- [elt for tg in iter] -/
theorem l_all {α : Type} {xs : List α} {enc f : α → D} {env1 : α → En} (hi : XI X env tg iter (xs.map enc)) (hlen : xs.length < sizeLine) (hj : ∀ k ∈ js, k ∈ vs)
    (hg : ∀ x ∈ xs, ∀ (s : Shared) (H0 : Hp) (C : Addr) (cl : List (Str × Addr)) (fp : List Addr), XG (X.blk s H0 scope (compEnvC scope cl C X.env) fp) (wipeE env vs) tg (enc x) (env1 x) js)
    (he : ∀ x ∈ xs, ∀ (s : Shared) (H0 : Hp) (C : Addr) (cl : List (Str × Addr)) (fp : List Addr), XV (X.blk s H0 scope (compEnvC scope cl C X.env) fp) (env1 x) elt (f x)) : XLc X env scope vs elt tg iter [] (.lst (xs.map f)) := by
  have h := l_if (scope := scope) (elt := elt) (f := f) (b := fun _ => true) hi hlen hj hg (fun _ _ _ _ _ _ _ => ts_nil) (fun x hx _ => he x hx)
  rw [filter_true] at h
  exact h
theorem x_lc {d : D} (own : List (Str × Nat)) (hc : X.calm = true) (hN : X.N.Nodup) (ok : BlkOk X.N X.env.scope scope own) (h : XLc X env scope (own.map (·.2)) elt tg iter ifs d)
    (hs : ∀ x, foldedSetIterable iter X.env x = pure x := by intro _; rfl) : XV X env (.ListComp elt [⟨tg, iter, ifs, 0⟩] scope pos) d := by
  intro F H σ fh st Q q
  refine (pe_lc (g := tAllG X scope tg) (tt := tAllTs X scope ifs) (te := tAllE X scope elt) hc hN pi_s ok (fun s0 H0 C cl fp => ⟨fun pins s σ H v u Q I r h => h s0 H0 C cl fp pins s u I r⟩) (fun s0 H0 C cl fp => ⟨fun pins s σ H Q I h => h s0 H0 C cl fp pins s I⟩) (fun s0 H0 C cl fp => ⟨fun pins s σ H Q I h => h s0 H0 C cl fp pins s I⟩) hs).sem ?_
  exact h F H σ Q fh st q
end
theorem Sts.mix {K : PySem.W.Frag} {F H Fo Ho : Hp} {env e1 : En} {σ σ2 : L2.St} {js : List Nat} (a : Sts K F H env σ) (b : Sts K Fo Ho e1 σ2) (e : Ex Fo F) (x : EnvX env e1 js) (hl : σ2.length = σ.length) (hk : ∀ k, k ∉ js → σ2[k]? = σ[k]?) : Sts K F H e1 σ2 := by
  refine ⟨b.len, fun i s o h1 h2 => ?_, b.apart⟩
  by_cases m : i ∈ js
  · obtain ⟨d, rfl⟩ := x.2 i m s h1
    obtain ⟨v, h3, h4⟩ := b.ok i _ o h1 h2
    exact ⟨v, h3, h4.mono e⟩
  · rw [x.1 i m] at h1
    rw [hk i m] at h2
    exact a.ok i s o h1 h2
theorem flat_le {α β : Type} {xs : List α} {b : α → Bool} {ys : α → List β} {b2 : α → β → Bool} {f : α → β → D} {i j : Nat} {x : α} {y : β} (hx : xs[i]? = some x) (hb : b x = true) (hy : (ys x)[j]? = some y) :
    ((((xs.take i).filter b).flatMap fun x => ((ys x).filter (b2 x)).map (f x)) ++ (((ys x).take j).filter (b2 x)).map (f x)).length ≤ ((xs.filter b).flatMap fun x => ((ys x).filter (b2 x)).map (f x)).length := by
  obtain ⟨hlt, e⟩ := List.getElem?_eq_some_iff.mp hx
  have h1 := List.take_append_drop i xs
  rw [List.drop_eq_getElem_cons hlt, e] at h1
  have key : ∀ (A B zs : List α), A ++ x :: B = zs → (((A.filter b).flatMap fun x => ((ys x).filter (b2 x)).map (f x)) ++ (((ys x).take j).filter (b2 x)).map (f x)).length ≤ ((zs.filter b).flatMap fun x => ((ys x).filter (b2 x)).map (f x)).length := by
    intro A B zs hz
    subst hz
    rw [List.filter_append, List.flatMap_append, List.filter_cons_of_pos hb, List.flatMap_cons, List.length_append, List.length_append, List.length_append, List.length_map, List.length_map]
    have : (((ys x).take j).filter (b2 x)).length ≤ ((ys x).filter (b2 x)).length := ((List.take_sublist j (ys x)).filter (b2 x)).length_le
    omega
  exact key _ _ _ h1
section
variable {X : Cx} {scope : Scope} {env : En} {tg iter elt tg1 iter1 : Expr} {ifs ifs1 : List Expr} {vs vs1 js js1 : List Nat} {pos : Pos}
theorem take_flat {α : Type} {xs : List α} {b : α → Bool} {g : α → List D} {i : Nat} {x : α} (h : xs[i]? = some x) : ((xs.take (i + 1)).filter b).flatMap g = ((xs.take i).filter b).flatMap g ++ (if b x = true then g x else []) := by
  rw [List.take_add_one, h]
  show (((xs.take i) ++ [x]).filter b).flatMap g = _
  rw [List.filter_append, List.flatMap_append]
  congr 1
  by_cases q : b x = true
  · rw [if_pos q, List.filter_cons_of_pos q]; simp
  · rw [if_neg q, List.filter_cons_of_neg q]; rfl
/-- two for -/
theorem lc2_data {α β : Type} {xs : List α} {enc : α → D} {b : α → Bool} {env1 : α → En} {ys : α → List β} {enc2 : α → β → D} {b2 : α → β → Bool} {f : α → β → D} {env2 : α → β → En}
    (hi : XI X env tg iter (xs.map enc)) (hlen : ((xs.filter b).flatMap fun x => ((ys x).filter (b2 x)).map (f x)).length < sizeLine) (hj : ∀ k ∈ js, k ∈ vs) (hj1 : ∀ k ∈ js1, k ∈ vs1) (hv : ∀ k ∈ vs1, k ∈ vs)
    (hg : ∀ x ∈ xs, ∀ (s : Shared) (H0 : Hp) (C : Addr) (cl : List (Str × Addr)) (fp : List Addr), XG (X.blk s H0 scope (compEnvC scope cl C X.env) fp) (wipeE env vs) tg (enc x) (env1 x) js)
    (ht : ∀ x ∈ xs, ∀ (s : Shared) (H0 : Hp) (C : Addr) (cl : List (Str × Addr)) (fp : List Addr), XTs (X.blk s H0 scope (compEnvC scope cl C X.env) fp) (env1 x) ifs (b x))
    (hi1 : ∀ x ∈ xs, b x = true → ∀ (s : Shared) (H0 : Hp) (C : Addr) (cl : List (Str × Addr)) (fp : List Addr), XI (X.blk s H0 scope (compEnvC scope cl C X.env) fp) (env1 x) tg1 iter1 ((ys x).map (enc2 x)))
    (hg1 : ∀ x ∈ xs, b x = true → ∀ y ∈ ys x, ∀ (s : Shared) (H0 : Hp) (C : Addr) (cl : List (Str × Addr)) (fp : List Addr), XG (X.blk s H0 scope (compEnvC scope cl C X.env) fp) (wipeE (env1 x) vs1) tg1 (enc2 x y) (env2 x y) js1)
    (ht1 : ∀ x ∈ xs, b x = true → ∀ y ∈ ys x, ∀ (s : Shared) (H0 : Hp) (C : Addr) (cl : List (Str × Addr)) (fp : List Addr), XTs (X.blk s H0 scope (compEnvC scope cl C X.env) fp) (env2 x y) ifs1 (b2 x y))
    (he : ∀ x ∈ xs, b x = true → ∀ y ∈ ys x, b2 x y = true → ∀ (s : Shared) (H0 : Hp) (C : Addr) (cl : List (Str × Addr)) (fp : List Addr), XV (X.blk s H0 scope (compEnvC scope cl C X.env) fp) (env2 x y) elt (f x y))
    {F H : Hp} {σ : L2.St} {Q : VK} (fh : Ex F H) (st : Sts X.K F H env σ) (q : Wants X.K F H (.lst ((xs.filter b).flatMap fun x => ((ys x).filter (b2 x)).map (f x))) Q) :
    tLc2 (tSemI X tg iter) (tAllG X scope tg) (tAllTs X scope ifs) (tAllI X scope tg1 iter1) (tAllG X scope tg1) (tAllTs X scope ifs1) (tAllE X scope elt) vs vs1 σ H Q := by
  refine hi F H σ fh st _ fun J F1 H1 p1 w => ?_
  intro L hL
  have st1 := st.pu p1
  have nl : (xs.map enc).length = xs.length := List.length_map _
  refine ⟨fun i m H' => m = xs.length - i ∧ i ≤ xs.length ∧ ∃ F', Mk1 X.K L F1 H1 F' H' (((xs.take i).filter b).flatMap fun x => ((ys x).filter (b2 x)).map (f x)), ⟨xs.length, by simp, Nat.zero_le _, F1, Mk1.start p1.fh hL⟩, ?_⟩
  rintro i m H' ⟨rfl, hi', F', mk⟩
  by_cases hlt : i < xs.length
  · refine .inr ⟨w.goes i H' (by rw [nl]; exact hlt) (mk.ff.trans mk.fh), fun H'' => ∃ F'', Mk1 X.K L F1 H1 F'' H'' (((xs.take (i + 1)).filter b).flatMap fun x => ((ys x).filter (b2 x)).map (f x)), fun H'' p' => ⟨xs.length - (i + 1), by omega, rfl, hlt, p'⟩, fun v H'' y => ?_⟩
    obtain ⟨F3, d, p3, hd, r3⟩ := w.yields i H' v H'' F' (by rw [nl]; exact hlt) mk.ff mk.fh y
    have hx : xs[i]? = some xs[i] := by simp [hlt]
    have hm : xs[i] ∈ xs := List.getElem_mem hlt
    have ed : d = enc xs[i] := by rw [List.getElem?_map, hx] at hd; exact (Option.some.inj hd).symm
    subst ed
    have mk3 := mk.pu p3
    intro s0 H0 C cl fp
    refine (hg _ hm s0 H0 C cl fp).2 F3 H'' (L2.wipe σ vs) v p3.fh ((st1.kp (mk3.kp hL)).wipe vs) r3 _ fun σ2 st2 l2 k2 => ⟨?_, ?_⟩
    · rw [← wipe_wipe σ vs]
      exact wipe_same l2 fun k hk => k2 k fun z => hk (hj k z)
    intro s0 H0 C cl fp
    refine ht _ hm s0 H0 C cl fp F3 H'' σ2 p3.fh st2 _ fun F4 H4 p4 => ?_
    have mk4 := mk3.pu p4
    cases hb : b xs[i] with
    | false =>
      refine iteF ⟨F4, ?_⟩
      rw [take_flat hx, hb, if_neg Bool.false_ne_true, List.append_nil]
      exact mk4
    | true =>
      refine iteT ?_
      intro s0 H0 C cl fp
      refine hi1 _ hm hb s0 H0 C cl fp F4 H4 σ2 p4.fh (st2.pu p4) _ fun J1 F5 H5 p5 w1 => ?_
      have mk5 := mk4.pu p5
      have st5 := (st2.pu p4).pu p5
      have base : ∀ {F' H' : Hp}, Ex F3 F' → Kp F1 H1 F' H' → Sts X.K F' H' (env1 xs[i]) σ2 := fun {F' H'} ff kp => Sts.mix ((st1.kp kp).wipe vs) st2 ff (hg _ hm s0 H0 C cl fp).1 l2 k2
      have nl1 : ((ys xs[i]).map (enc2 xs[i])).length = (ys xs[i]).length := List.length_map _
      refine ⟨fun j m H' => m = (ys xs[i]).length - j ∧ j ≤ (ys xs[i]).length ∧ ∃ F', Ex F5 F' ∧ Mk1 X.K L F1 H1 F' H' ((((xs.take i).filter b).flatMap fun x => ((ys x).filter (b2 x)).map (f x)) ++ (((ys xs[i]).take j).filter (b2 xs[i])).map (f xs[i])), ⟨(ys xs[i]).length, by simp, Nat.zero_le _, F5, Ex.refl _, by simpa using mk5⟩, ?_⟩
      rintro j m H6 ⟨rfl, hj', F6, f56, mk6⟩
      by_cases hlt1 : j < (ys xs[i]).length
      · refine .inr ⟨w1.goes j H6 (by rw [nl1]; exact hlt1) (f56.trans mk6.fh), fun H'' => ∃ F'', Ex F5 F'' ∧ Mk1 X.K L F1 H1 F'' H'' ((((xs.take i).filter b).flatMap fun x => ((ys x).filter (b2 x)).map (f x)) ++ (((ys xs[i]).take (j + 1)).filter (b2 xs[i])).map (f xs[i])), fun H'' p' => ⟨(ys xs[i]).length - (j + 1), by omega, rfl, hlt1, p'⟩, fun v1 H7 y1 => ?_⟩
        obtain ⟨F7, d1, p7, hd1, r7⟩ := w1.yields j H6 v1 H7 F6 (by rw [nl1]; exact hlt1) f56 mk6.fh y1
        have hy : (ys xs[i])[j]? = some (ys xs[i])[j] := by simp [hlt1]
        have hmy : (ys xs[i])[j] ∈ ys xs[i] := List.getElem_mem hlt1
        have ed1 : d1 = enc2 xs[i] (ys xs[i])[j] := by rw [List.getElem?_map, hy] at hd1; exact (Option.some.inj hd1).symm
        subst ed1
        have mk7 := mk6.pu p7
        have f37 : Ex F3 F7 := (p4.ff.trans p5.ff).trans (f56.trans p7.ff)
        intro s0 H0 C cl fp
        refine (hg1 _ hm hb _ hmy s0 H0 C cl fp).2 F7 H7 (L2.wipe σ2 vs1) v1 p7.fh ((base f37 (mk7.kp hL)).wipe vs1) r7 _ fun σ3 st3 l3 k3 => ⟨?_, ?_⟩
        · rw [← wipe_wipe σ2 vs1]
          exact wipe_same l3 fun k hk => k3 k fun z => hk (hj1 k z)
        intro s0 H0 C cl fp
        refine ht1 _ hm hb _ hmy s0 H0 C cl fp F7 H7 σ3 p7.fh st3 _ fun F8 H8 p8 => ?_
        have mk8 := mk7.pu p8
        cases hb2 : b2 xs[i] (ys xs[i])[j] with
        | false =>
          refine iteF ⟨F8, (f56.trans p7.ff).trans p8.ff, ?_⟩
          rw [take_filter hy, hb2, if_neg Bool.false_ne_true, List.append_nil]
          exact mk8
        | true =>
          refine iteT ?_
          intro s0 H0 C cl fp
          refine he _ hm hb _ hmy hb2 s0 H0 C cl fp F8 H8 σ3 p8.fh (st3.pu p8) _ fun u F9 H9 p9 r9 => ?_
          have mk9 := mk8.pu p9
          obtain ⟨acc, h9, r10⟩ := mk9.at'
          have goal := mk9.push r9 h9
          rw [List.append_assoc] at goal
          refine ⟨acc, h9, ?_, F9, ((f56.trans p7.ff).trans p8.ff).trans p9.ff, ?_⟩
          · rw [r10.length]
            exact Nat.lt_of_le_of_lt (flat_le hx hb hy) hlen
          · rw [take_filter hy, hb2, if_pos rfl]
            exact goal
      · have e : j = (ys xs[i]).length := by omega
        subst e
        rw [List.take_length] at mk6
        refine .inl ⟨by rw [← nl1]; exact w1.stops H6 (f56.trans mk6.fh), F6, ?_⟩
        rw [take_flat hx, hb, if_pos rfl]
        exact mk6
  · have e : i = xs.length := by omega
    subst e
    rw [List.take_length] at mk
    obtain ⟨F2, pu, r⟩ := mk.done p1.fh hL
    refine .inl ⟨by rw [← nl]; exact w.stops H' (mk.ff.trans mk.fh), q _ F2 H' (p1.trans pu) r⟩
/-- [elt for tg in iter if .. for tg1 in iter1 if ..] -/
theorem x_lc2 {α β : Type} {xs : List α} {enc : α → D} {b : α → Bool} {env1 : α → En} {ys : α → List β} {enc2 : α → β → D} {b2 : α → β → Bool} {f : α → β → D} {env2 : α → β → En} (own : List (Str × Nat)) (vs1 : List Nat) (hc : X.calm = true) (hN : X.N.Nodup)
    (hi : XI X env tg iter (xs.map enc)) (ok : BlkOk X.N X.env.scope scope own) (hlen : ((xs.filter b).flatMap fun x => ((ys x).filter (b2 x)).map (f x)).length < sizeLine) (hj : ∀ k ∈ js, k ∈ own.map (·.2)) (hj1 : ∀ k ∈ js1, k ∈ vs1) (hv : ∀ k ∈ vs1, k ∈ own.map (·.2))
    (hg : ∀ x ∈ xs, ∀ (s : Shared) (H0 : Hp) (C : Addr) (cl : List (Str × Addr)) (fp : List Addr), XG (X.blk s H0 scope (compEnvC scope cl C X.env) fp) (wipeE env (own.map (·.2))) tg (enc x) (env1 x) js)
    (ht : ∀ x ∈ xs, ∀ (s : Shared) (H0 : Hp) (C : Addr) (cl : List (Str × Addr)) (fp : List Addr), XTs (X.blk s H0 scope (compEnvC scope cl C X.env) fp) (env1 x) ifs (b x))
    (hi1 : ∀ x ∈ xs, b x = true → ∀ (s : Shared) (H0 : Hp) (C : Addr) (cl : List (Str × Addr)) (fp : List Addr), XI (X.blk s H0 scope (compEnvC scope cl C X.env) fp) (env1 x) tg1 iter1 ((ys x).map (enc2 x)))
    (hg1 : ∀ x ∈ xs, b x = true → ∀ y ∈ ys x, ∀ (s : Shared) (H0 : Hp) (C : Addr) (cl : List (Str × Addr)) (fp : List Addr), XG (X.blk s H0 scope (compEnvC scope cl C X.env) fp) (wipeE (env1 x) vs1) tg1 (enc2 x y) (env2 x y) js1)
    (ht1 : ∀ x ∈ xs, b x = true → ∀ y ∈ ys x, ∀ (s : Shared) (H0 : Hp) (C : Addr) (cl : List (Str × Addr)) (fp : List Addr), XTs (X.blk s H0 scope (compEnvC scope cl C X.env) fp) (env2 x y) ifs1 (b2 x y))
    (he : ∀ x ∈ xs, b x = true → ∀ y ∈ ys x, b2 x y = true → ∀ (s : Shared) (H0 : Hp) (C : Addr) (cl : List (Str × Addr)) (fp : List Addr), XV (X.blk s H0 scope (compEnvC scope cl C X.env) fp) (env2 x y) elt (f x y))
    (hs : ∀ x, foldedSetIterable iter X.env x = pure x := by intro _; rfl) (hs1 : ∀ env x, foldedSetIterable iter1 env x = pure x := by intro _ _; rfl) : XV X env (.ListComp elt [⟨tg, iter, ifs, 0⟩, ⟨tg1, iter1, ifs1, 0⟩] scope pos) (.lst ((xs.filter b).flatMap fun x => ((ys x).filter (b2 x)).map (f x))) := by
  intro F H σ fh st Q q
  refine (pe_lc2 (vs1 := vs1) (g := tAllG X scope tg) (tt := tAllTs X scope ifs) (wi1 := tAllI X scope tg1 iter1) (g1 := tAllG X scope tg1) (tt1 := tAllTs X scope ifs1) (te := tAllE X scope elt) hc hN pi_s ok hv (fun s0 H0 C cl fp => ⟨fun pins s σ H v u Q I r h => h s0 H0 C cl fp pins s u I r⟩) (fun s0 H0 C cl fp => ⟨fun pins s σ H Q I h => h s0 H0 C cl fp pins s I⟩)
    (fun s0 H0 C cl fp => ⟨fun pins s σ H Q I h => h s0 H0 C cl fp pins s I⟩) (fun s0 H0 C cl fp => ⟨fun pins s σ H v u Q I r h => h s0 H0 C cl fp pins s u I r⟩) (fun s0 H0 C cl fp => ⟨fun pins s σ H Q I h => h s0 H0 C cl fp pins s I⟩) (fun s0 H0 C cl fp => ⟨fun pins s σ H Q I h => h s0 H0 C cl fp pins s I⟩) hs hs1).sem ?_
  exact lc2_data hi hlen hj hj1 hv hg ht hi1 hg1 ht1 he fh st q
end
end Y

namespace Y
open PySem PySem.Spec PyProof.Rows L2
open Evl (Ex)

/-! ### from the entry on -/
/-- M: what others may change -/
structure Gw (M : Addr → Prop) (F0 H0 F H : Hp) : Prop where
  ff : Ex F0 F
  fh : Ex F H
  hh : ∀ a o, ¬ M a → H0 a = some o → H a = some o
  fr : ∀ a, F a ≠ none → F0 a ≠ none ∨ H0 a = none
  th : ∀ a, H0 a ≠ none → H a ≠ none
section
variable {M : Addr → Prop} {F0 H0 F H F' H' : Hp} {K : PySem.W.Frag} {env : En} {σ : L2.St}
theorem Gw.refl (e : Ex F H) : Gw M F H F H := ⟨Ex.refl _, e, fun _ _ _ h => h, fun _ h => .inl h, fun _ h => h⟩
theorem Gw.pu (g : Gw M F0 H0 F H) (p : Pu F H F' H') : Gw M F0 H0 F' H' := ⟨g.ff.trans p.ff, p.fh, fun a o n h => p.hh a o (g.hh a o n h), fun a h => by
  rcases p.fr a h with z | z
  · exact g.fr a z
  · cases q : H0 a with
    | none => exact .inr rfl
    | some o => exact absurd z (g.th a (by rw [q]; exact fun z => by cases z)), fun a h => by
  obtain ⟨o, q⟩ := some_of (g.th a h)
  rw [p.hh a o q]; exact fun z => by cases z⟩
theorem Gw.re (g : Gw M F0 H0 F H) : Gw M F H0 F H := ⟨Ex.refl _, g.fh, g.hh, fun _ h => .inl h, g.th⟩
theorem Gw.un (g : Gw M F0 H0 F H) (g' : Gw M F H0 F' H') : Gw M F0 H0 F' H' := ⟨g.ff.trans g'.ff, g'.fh, g'.hh, fun a h => by
  rcases g'.fr a h with z | z
  · exact g.fr a z
  · exact .inr z, g'.th⟩
/-- a list that is no data changes -/
theorem Gw.upd (g : Gw M F0 H0 F H) {p : Addr} {o : HO} (hF : F p = none) (hp : M p ∨ H0 p = none) : Gw M F0 H0 F (L2.upd H p o) := ⟨g.ff, Evl.Ex.mut g.fh hF, fun a u n h => by
  have : a ≠ p := fun z => by
    subst z
    rcases hp with z | z
    · exact n z
    · rw [z] at h; cases h
  rw [upd_ne this]; exact g.hh a u n h, g.fr, fun a h => by
  by_cases z : a = p
  · subst z; rw [upd_same]; exact fun z => by cases z
  · rw [upd_ne z]; exact g.th a h⟩
/-- a list becomes data -/
theorem Gw.freeze (g : Gw M F0 H0 F H) {p : Addr} {o : HO} (hF : F p = none) (hH : H p = some o) (hp : H0 p = none) : Gw M F0 H0 (L2.upd F p o) H := ⟨g.ff.trans (Ex.new hF), fun a u q => by
  by_cases z : a = p
  · subst z; rw [upd_same] at q; rw [hH]; exact q
  · rw [upd_ne z] at q; exact g.fh a u q, g.hh, fun a q => by
  by_cases z : a = p
  · subst z; exact .inr hp
  · rw [upd_ne z] at q; exact g.fr a q, g.th⟩
theorem Gw.pure (g : Gw (fun _ => False) F0 H0 F H) : Pu F0 H0 F H := ⟨g.ff, g.fh, fun a o h => g.hh a o id h, g.fr⟩
theorem Own.set {i : Nat} {d : D} {v : V} (h : Own M H0 env σ) : Own M H0 (env.set i (.dat d)) (σ.set i (some v)) := fun j p => by
  by_cases z : j = i
  · subst z
    have no : ∀ s, (env.set j (.dat d))[j]? = some s → s = .dat d := fun s e => by
      by_cases hj : j < env.length
      · rw [List.getElem?_set_self hj] at e; exact (Option.some.inj e).symm
      · rw [List.getElem?_eq_none (by rw [List.length_set]; omega)] at e; cases e
    exact ⟨fun ds e => (by cases (no _ e)), fun ds e => (by cases (no _ e))⟩
  · rw [List.getElem?_set_ne (Ne.symm z), List.getElem?_set_ne (Ne.symm z)]
    exact h j p
/-- the contents of a list that is no data, changed -/
theorem Sts.updM (st : Sts K F H env σ) {i : Nat} {s s' : Slot} {p : Addr} {vs : List V} {ds' : List D} (e : env[i]? = some s) (m : s.mu ≠ none) (hσ : σ[i]? = some (some (.ref p))) (hs : s' = .own ds' ∨ s' = .ext ds') (r : Reps K F vs ds') (hF : F p = none) (fh : Ex F H) :
    Sts K F (L2.upd H p (.lst vs)) (env.set i s') σ := by
  have hi : i < env.length := (List.getElem?_eq_some_iff.mp e).1
  refine ⟨by rw [List.length_set, st.len], fun j t o e1 e2 => ?_, fun j k t u q e1 e2 m1 m2 e3 e4 => ?_⟩
  · by_cases z : j = i
    · subst z
      rw [List.getElem?_set_self hi] at e1
      cases e1
      rw [hσ] at e2; cases e2
      have : MutAt K F (L2.upd H p (.lst vs)) p ds' := ⟨hF, vs, upd_same, r⟩
      rcases hs with hs | hs <;> (subst hs; exact ⟨p, rfl, this⟩)
    · rw [List.getElem?_set_ne (Ne.symm z)] at e1
      have h := st.ok j t o e1 e2
      have hp : ∀ q ds, t.mu ≠ none → o = some (.ref q) → MutAt K F H q ds → MutAt K F (L2.upd H p (.lst vs)) q ds := fun q ds m' eo ⟨a, ws, b, c⟩ => by
        refine ⟨a, ws, ?_, c⟩
        rw [upd_ne]
        · exact b
        · intro w
          subst w
          subst eo
          exact z (st.apart j i t s q e1 e m' m e2 hσ)
      cases t with
      | un => trivial
      | dat d => exact h
      | own ds => obtain ⟨q, eo, mm⟩ := h; exact ⟨q, eo, hp q ds (fun z => by cases z) eo mm⟩
      | ext ds => obtain ⟨q, eo, mm⟩ := h; exact ⟨q, eo, hp q ds (fun z => by cases z) eo mm⟩
  · have back : ∀ (j : Nat) (t : Slot), (env.set i s')[j]? = some t → t.mu ≠ none → ∃ (t' : Slot), env[j]? = some t' ∧ t'.mu ≠ none := fun j t e1 m1 => by
      by_cases z : j = i
      · subst z; exact ⟨s, e, m⟩
      · rw [List.getElem?_set_ne (Ne.symm z)] at e1; exact ⟨t, e1, m1⟩
    obtain ⟨t', e1', m1'⟩ := back j t e1 m1
    obtain ⟨u', e2', m2'⟩ := back k u e2 m2
    exact st.apart j k t' u' q e1' e2' m1' m2' e3 e4
theorem Own.updO (h : Own M H0 env σ) {i : Nat} {ds ds' : List D} (e : env[i]? = some (.own ds)) : Own M H0 (env.set i (.own ds')) σ := fun j p => by
  by_cases z : j = i
  · subst z
    have hj : j < env.length := (List.getElem?_eq_some_iff.mp e).1
    refine ⟨fun es q w => (h j p).1 ds e w, fun es q w => ?_⟩
    rw [List.getElem?_set_self hj] at q; cases q
  · rw [List.getElem?_set_ne (Ne.symm z)]; exact h j p
theorem Own.updX (h : Own M H0 env σ) {i : Nat} {ds ds' : List D} (e : env[i]? = some (.ext ds)) : Own M H0 (env.set i (.ext ds')) σ := fun j p => by
  by_cases z : j = i
  · subst z
    have hj : j < env.length := (List.getElem?_eq_some_iff.mp e).1
    refine ⟨fun es q w => ?_, fun es q w => (h j p).2 ds e w⟩
    rw [List.getElem?_set_self hj] at q; cases q
  · rw [List.getElem?_set_ne (Ne.symm z)]; exact h j p
theorem Sts.own (st : Sts K F H env σ) {i : Nat} {ds : List D} (e : env[i]? = some (.own ds)) : ∃ p, σ[i]? = some (some (.ref p)) ∧ MutAt K F H p ds := by
  obtain ⟨o, h1, p, h2, h3⟩ := st.at e
  subst h2
  exact ⟨p, h1, h3⟩
theorem Sts.ext (st : Sts K F H env σ) {i : Nat} {ds : List D} (e : env[i]? = some (.ext ds)) : ∃ p, σ[i]? = some (some (.ref p)) ∧ MutAt K F H p ds := by
  obtain ⟨o, h1, p, h2, h3⟩ := st.at e
  subst h2
  exact ⟨p, h1, h3⟩
/-- a new list, kept out of the data, in slot i -/
theorem Sts.newO (st : Sts K F H env σ) {i : Nat} {p : Addr} {vs : List V} {ds : List D} (r : Reps K F vs ds) (hp : H p = none) (fh : Ex F H) (hi : i < env.length) : Sts K F (L2.upd H p (.lst vs)) (env.set i (.own ds)) (σ.set i (some (.ref p))) := by
  have kp : Kp F H F (L2.upd H p (.lst vs)) := (Pu.new' fh hp).kp
  have st' := st.kp kp
  have nop : ∀ (j : Nat) (t : Slot), env[j]? = some t → t.mu ≠ none → σ[j]? ≠ some (some (.ref p)) := fun j t e m w => by
    have : ∀ ds, MutAt K F H p ds → False := fun ds ⟨_, vs, b, _⟩ => by rw [hp] at b; cases b
    cases t with
    | un => exact m rfl
    | dat d => exact m rfl
    | own ds => obtain ⟨q, h1, h2⟩ := st.own e; rw [w] at h1; cases h1; exact this _ h2
    | ext ds => obtain ⟨q, h1, h2⟩ := st.ext e; rw [w] at h1; cases h1; exact this _ h2
  refine ⟨by rw [List.length_set, List.length_set, st.len], fun j s o e1 e2 => ?_, fun j k s t q e1 e2 m1 m2 e3 e4 => ?_⟩
  · by_cases z : j = i
    · subst z
      rw [List.getElem?_set_self hi] at e1
      rw [List.getElem?_set_self (by rw [st.len]; exact hi)] at e2
      cases e1; cases e2
      exact ⟨p, rfl, none_of fh hp, vs, upd_same, r⟩
    · rw [List.getElem?_set_ne (Ne.symm z)] at e1 e2
      exact st'.ok j s o e1 e2
  · by_cases z1 : j = i
    · by_cases z2 : k = i
      · rw [z1, z2]
      · subst z1
        rw [List.getElem?_set_ne (Ne.symm z2)] at e2 e4
        rw [List.getElem?_set_self (by rw [st.len]; exact hi)] at e3
        cases e3
        exact absurd e4 (nop k t e2 m2)
    · by_cases z2 : k = i
      · subst z2
        rw [List.getElem?_set_ne (Ne.symm z1)] at e1 e3
        rw [List.getElem?_set_self (by rw [st.len]; exact hi)] at e4
        cases e4
        exact absurd e3 (nop j s e1 m1)
      · rw [List.getElem?_set_ne (Ne.symm z1)] at e1 e3
        rw [List.getElem?_set_ne (Ne.symm z2)] at e2 e4
        exact st.apart j k s t q e1 e2 m1 m2 e3 e4
theorem Own.newO (h : Own M H0 env σ) {i : Nat} {p : Addr} {ds : List D} (hp : H0 p = none) (hi : i < env.length) (hl : σ.length = env.length) : Own M H0 (env.set i (.own ds)) (σ.set i (some (.ref p))) := fun j q => by
  by_cases z : j = i
  · subst z
    refine ⟨fun es e w => ?_, fun es e w => ?_⟩
    · rw [List.getElem?_set_self (by rw [hl]; exact hi)] at w; cases w; exact hp
    · rw [List.getElem?_set_self hi] at e; cases e
  · rw [List.getElem?_set_ne (Ne.symm z), List.getElem?_set_ne (Ne.symm z)]; exact h j q
/-- a list in slot i becomes data -/
theorem Sts.freeze (st : Sts K F H env σ) {i : Nat} {p : Addr} {vs : List V} {ds : List D} (e : env[i]? = some (.own ds)) (hσ : σ[i]? = some (some (.ref p))) (hF : F p = none) (hH : H p = some (.lst vs)) (r : Reps K F vs ds) : Sts K (L2.upd F p (.lst vs)) H (env.set i (.dat (.lst ds))) σ := by
  have hi : i < env.length := (List.getElem?_eq_some_iff.mp e).1
  have ff : Ex F (L2.upd F p (.lst vs)) := Ex.new hF
  refine ⟨by rw [List.length_set, st.len], fun j t o e1 e2 => ?_, fun j k t u q e1 e2 m1 m2 e3 e4 => ?_⟩
  · by_cases z : j = i
    · subst z
      rw [List.getElem?_set_self hi] at e1
      cases e1
      rw [hσ] at e2; cases e2
      exact ⟨_, rfl, p, vs, rfl, SqL.of upd_same, r.mono ff⟩
    · rw [List.getElem?_set_ne (Ne.symm z)] at e1
      have h := st.ok j t o e1 e2
      have hp : ∀ q ds, t.mu ≠ none → o = some (.ref q) → MutAt K F H q ds → MutAt K (L2.upd F p (.lst vs)) H q ds := fun q ds m' eo ⟨a, ws, b, c⟩ => by
        refine ⟨?_, ws, b, c.mono ff⟩
        rw [upd_ne]
        · exact a
        · intro w
          subst w
          subst eo
          exact z (st.apart j i t _ q e1 e m' (fun z => by cases z) e2 hσ)
      cases t with
      | un => trivial
      | dat d => obtain ⟨v, h1, h2⟩ := h; exact ⟨v, h1, h2.mono ff⟩
      | own ds => obtain ⟨q, eo, mm⟩ := h; exact ⟨q, eo, hp q ds (fun z => by cases z) eo mm⟩
      | ext ds => obtain ⟨q, eo, mm⟩ := h; exact ⟨q, eo, hp q ds (fun z => by cases z) eo mm⟩
  · have back : ∀ (j : Nat) (t : Slot), (env.set i (.dat (.lst ds)))[j]? = some t → t.mu ≠ none → env[j]? = some t := fun j t e1 m1 => by
      by_cases z : j = i
      · subst z
        rw [List.getElem?_set_self hi] at e1; cases e1
        exact absurd rfl m1
      · rw [List.getElem?_set_ne (Ne.symm z)] at e1; exact e1
    exact st.apart j k t u q (back j t e1 m1) (back k u e2 m2) m1 m2 e3 e4
theorem Own.dat (h : Own M H0 env σ) {i : Nat} {d : D} : Own M H0 (env.set i (.dat d)) σ := fun j p => by
  by_cases z : j = i
  · subst z
    have no : ∀ s, (env.set j (.dat d))[j]? = some s → s = .dat d := fun s e => by
      by_cases hj : j < env.length
      · rw [List.getElem?_set_self hj] at e; exact (Option.some.inj e).symm
      · rw [List.getElem?_eq_none (by rw [List.length_set]; omega)] at e; cases e
    exact ⟨fun ds e => (by cases (no _ e)), fun ds e => (by cases (no _ e))⟩
  · rw [List.getElem?_set_ne (Ne.symm z)]; exact h j p
end
end Y

namespace Y
open PySem PySem.Spec PyProof.Rows L2
open Evl (Ex)

/-! ### statements -/
/-- the entry: what others may change, the heap that stood -/
structure Wd where
  m : Addr → Prop
  h : Hp
structure Rs where
  nx : En → Prop
  rt : D → En → Prop
  bk : En → Prop := fun _ => False
  ct : En → Prop := fun _ => False
  ro : List D → En → Prop := fun _ _ => False
/-- the ends are met -/
structure Sat (K : PySem.W.Frag) (M : Wd) (F0 : Hp) (R : Rs) (D : Ends) : Prop where
  nx : ∀ env F H σ, R.nx env → Gw M.m F0 M.h F H → Sts K F H env σ → Own M.m M.h env σ → D.nx σ H
  rt : ∀ d env v F H σ, R.rt d env → Gw M.m F0 M.h F H → Sts K F H env σ → Own M.m M.h env σ → Rep K F v d → D.rt v H
  bk : ∀ env F H σ, R.bk env → Gw M.m F0 M.h F H → Sts K F H env σ → Own M.m M.h env σ → D.bk σ H
  ct : ∀ env F H σ, R.ct env → Gw M.m F0 M.h F H → Sts K F H env σ → Own M.m M.h env σ → D.ct σ H
  ro : ∀ bx env p vs F H σ, R.ro bx env → Gw M.m F0 M.h F H → Sts K F H env σ → Own M.m M.h env σ → H p = none → Reps K F vs bx → D.rt (.ref p) (L2.upd H p (.lst vs))
/-- a block, from env, reaches R -/
def XS (X : Cx) (M : Wd) (env : En) (ss : List Stmt) (R : Rs) : Prop :=
  ∀ (F0 F H : Hp) (σ : L2.St), Gw M.m F0 M.h F H → Sts X.K F H env σ → Own M.m M.h env σ → ∀ D : Ends, Sat X.K M F0 R D → tSemS X ss D σ H
/-- an expression that may draw: P of its worth and of the slots behind it -/
def XE (X : Cx) (M : Wd) (env : En) (e : Expr) (P : D → En → Prop) : Prop :=
  ∀ (F0 F H : Hp) (σ : L2.St), Gw M.m F0 M.h F H → Sts X.K F H env σ → Own M.m M.h env σ → ∀ Q : VK,
    (∀ v F' H' d env', P d env' → Gw M.m F0 M.h F' H' → Ex F F' → Sts X.K F' H' env' σ → Own M.m M.h env' σ → Rep X.K F' v d → Q v H') → tSem X e σ H Q
def XQ (X : Cx) (M : Wd) (env : En) (e : Expr) (P : Bool → En → Prop) : Prop :=
  ∀ (F0 F H : Hp) (σ : L2.St), Gw M.m F0 M.h F H → Sts X.K F H env σ → Own M.m M.h env σ → ∀ Q : Bool → Hp → Prop,
    (∀ F' H' b env', P b env' → Gw M.m F0 M.h F' H' → Ex F F' → Sts X.K F' H' env' σ → Own M.m M.h env' σ → Q b H') → tSemT X e σ H Q
def XAE (X : Cx) (M : Wd) (env : En) (es : List Expr) (P : List D → En → Prop) : Prop :=
  ∀ (F0 F H : Hp) (σ : L2.St), Gw M.m F0 M.h F H → Sts X.K F H env σ → Own M.m M.h env σ → ∀ Q : List V → Hp → Prop,
    (∀ vs F' H' ds env', P ds env' → Gw M.m F0 M.h F' H' → Ex F F' → Sts X.K F' H' env' σ → Own M.m M.h env' σ → Reps X.K F' vs ds → Q vs H') → tSemA X es σ H Q
section
variable {X : Cx} {M : Wd} {env : En} {a b c e : Expr} {es : List Expr} {d x y z : D} {ds xs : List D} {pos p p2 : Pos} {rest ss tt : List Stmt} {st : Stmt} {R : Rs} {P : D → En → Prop} {n : Str}

theorem XS.imp {R' : Rs} (h : XS X M env ss R) (nx : ∀ e, R.nx e → R'.nx e) (rt : ∀ d e, R.rt d e → R'.rt d e) (bk : ∀ e, R.bk e → R'.bk e) (ct : ∀ e, R.ct e → R'.ct e) (ro : ∀ d e, R.ro d e → R'.ro d e) : XS X M env ss R' :=
  fun F0 F H σ g st o D s => h F0 F H σ g st o D ⟨fun e F H σ q => s.nx e F H σ (nx e q), fun d e v F H σ q => s.rt d e v F H σ (rt d e q), fun e F H σ q => s.bk e F H σ (bk e q), fun e F H σ q => s.ct e F H σ (ct e q), fun bx e p vs F H σ q => s.ro bx e p vs F H σ (ro bx e q)⟩
theorem s_nil (h : R.nx env) : XS X M env [] R := fun F0 F H σ g st o D s => pss_nil.sem (s.nx env F H σ h g st o)
/-- a statement that stores one value -/
theorem s_set (i : Nat) (he : XV X env e d) (h : XS X M (env.set i (.dat d)) rest R) (hN : X.N.Nodup := by assumption) (hi : X.N[i]? = some n := by rfl) (hx : Loc X.env.scope n := by first | exact Or.inl rfl | exact Or.inr rfl)
    (hs : swapsWith e (some (.Name n p)) pos.line X.env = pure false := by rfl) (hf : X.fn n = true ∨ X.env.scope.names.lookup n = some .local := by first | exact Or.inl rfl | exact Or.inr rfl) : XS X M env (.Assign [.Name n p] e pos :: rest) R := by
  intro F0 F H σ g st o D s
  refine (pss_cons (ps_set hN hi hx pe_s hs hf) pss_s).sem ?_
  refine he F H σ g.fh st _ fun v F1 H1 p1 r1 => ?_
  exact h F0 F1 H1 _ (g.pu p1) ((st.pu p1).set r1) o.set D s
/-- y = [..] -/
theorem s_setLc (i : Nat) {elt tg iter : Expr} {ifs : List Expr} {scope : Scope} (own : List (Str × Nat)) (hc : X.calm = true) (hN : X.N.Nodup) (ok : BlkOk X.N X.env.scope scope own) (he : XLc X env scope (own.map (·.2)) elt tg iter ifs d) (h : XS X M (env.set i (.dat d)) rest R)
    (hsw : swapsWith (.ListComp elt [⟨tg, iter, ifs, 0⟩] scope pos) (some (.Name n p)) p2.line X.env = pure true) (hi : X.N[i]? = some n := by rfl) (hyl : X.env.scope.names.lookup n = some .local := by rfl)
    (hs : ∀ x, foldedSetIterable iter X.env x = pure x := by intro _; rfl) : XS X M env (.Assign [.Name n p] (.ListComp elt [⟨tg, iter, ifs, 0⟩] scope pos) p2 :: rest) R := by
  intro F0 F H σ g st o D s
  refine (pss_cons (ps_setLc (g := tAllG X scope tg) (tt := tAllTs X scope ifs) (te := tAllE X scope elt) hc hN hi hyl hsw pi_s ok (fun s0 H0 C cl fp => ⟨fun pins s σ H v u Q I r h => h s0 H0 C cl fp pins s u I r⟩) (fun s0 H0 C cl fp => ⟨fun pins s σ H Q I h => h s0 H0 C cl fp pins s I⟩) (fun s0 H0 C cl fp => ⟨fun pins s σ H Q I h => h s0 H0 C cl fp pins s I⟩) hs) pss_s).sem ?_
  exact he F H σ (fun x H1 => gName i x σ H1 (fun σ' H' => tSemS X rest D σ' H')) g.fh st fun v F1 H1 p1 r1 => h F0 F1 H1 _ (g.pu p1) ((st.pu p1).set r1) o.set D s
/-- x = [..], a list that will change -/
theorem s_setO (i : Nat) (he : XV X env (.List es pos) (.lst ds)) (ha : XA X env es ds) (hl : ds.length ≤ sizeLine) (hi' : i < env.length) (h : XS X M (env.set i (.own ds)) rest R) (hN : X.N.Nodup := by assumption) (hi : X.N[i]? = some n := by rfl) (hx : Loc X.env.scope n := by first | exact Or.inl rfl | exact Or.inr rfl)
    (hs : swapsWith (.List es pos) (some (.Name n p)) p2.line X.env = pure false := by rfl) (hf : X.fn n = true ∨ X.env.scope.names.lookup n = some .local := by first | exact Or.inl rfl | exact Or.inr rfl) : XS X M env (.Assign [.Name n p] (.List es pos) p2 :: rest) R := by
  intro F0 F H σ g st o D s
  refine (pss_cons (ps_set hN hi hx (pe_lst pa_s) hs hf) pss_s).sem ?_
  refine ha F H σ g.fh st _ fun vs F1 H1 p1 r1 => ⟨by rw [r1.length]; exact hl, fun l hl' => ?_⟩
  have g1 := g.pu p1
  have st1 := st.pu p1
  have h0 : M.h l = none := by
    cases q : M.h l with
    | none => rfl
    | some u => exact absurd hl' (g1.th l (by rw [q]; exact fun z => by cases z))
  exact h F0 F1 _ _ (g1.pu (Pu.new' p1.fh hl')) (st1.newO r1 hl' p1.fh hi') (o.newO h0 hi' st.len) D s
theorem s_ret (he : XV X env e d) (h : R.rt d env) : XS X M env (.Return (some e) pos :: rest) R := by
  intro F0 F H σ g st o D s
  refine (pss_cons (ps_ret pe_s) pss_s).sem ?_
  refine he F H σ g.fh st _ fun v F1 H1 p1 r1 => ?_
  exact s.rt d env v F1 H1 σ h (g.pu p1) (st.pu p1) o r1
/-- return [..], a list of its own -/
theorem s_retO (ha : XA X env es ds) (hl : ds.length ≤ sizeLine) (h : R.ro ds env) : XS X M env (.Return (some (.List es p2)) pos :: rest) R := by
  intro F0 F H σ g st o D s
  refine (pss_cons (ps_ret (pe_lst pa_s)) pss_s).sem ?_
  refine ha F H σ g.fh st _ fun vs F1 H1 p1 r1 => ⟨by rw [r1.length]; exact hl, fun l hl' => ?_⟩
  exact s.ro ds env l vs F1 H1 σ h (g.pu p1) (st.pu p1) o hl' r1
theorem s_retN (h : R.rt .non env) : XS X M env (.Return none pos :: rest) R := by
  intro F0 F H σ g st o D s
  exact (pss_cons ps_retN pss_s).sem (s.rt .non env .non F H σ h g st o rfl)
theorem s_expr (he : XV X env e d) (h : XS X M env rest R) (hs : swapsWith e none pos.line X.env = pure false := by rfl) : XS X M env (.Expr e pos :: rest) R := by
  intro F0 F H σ g st o D s
  refine (pss_cons (ps_expr pe_s hs) pss_s).sem ?_
  refine he F H σ g.fh st _ fun v F1 H1 p1 r1 => ?_
  exact h F0 F1 H1 _ (g.pu p1) (st.pu p1) o D s
theorem s_pass (h : XS X M env rest R) : XS X M env (.Pass pos :: rest) R := by
  intro F0 F H σ g st o D s
  exact (pss_cons ps_pass pss_s).sem (h F0 F H σ g st o D s)
theorem s_brk (h : R.bk env) : XS X M env (.Break pos :: rest) R := by
  intro F0 F H σ g st o D s
  exact (pss_cons ps_break pss_s).sem (s.bk env F H σ h g st o)
theorem s_cont (h : R.ct env) : XS X M env (.Continue pos :: rest) R := by
  intro F0 F H σ g st o D s
  exact (pss_cons ps_continue pss_s).sem (s.ct env F H σ h g st o)
/-- what a block inside another reaches -/
abbrev Rs.then (R : Rs) (X : Cx) (M : Wd) (rest : List Stmt) : Rs := { R with nx := fun env => XS X M env rest R }
theorem sat_then {F0 : Hp} {D : Ends} (s : Sat X.K M F0 R D) : Sat X.K M F0 (R.then X M rest) { D with nx := tSemS X rest D } :=
  ⟨fun env F H σ q g st o => q F0 F H σ g st o D s, s.rt, s.bk, s.ct, s.ro⟩
theorem s_if {k : Bool} (hc : XT X env c k) (h1 : k = true → XS X M env ss (R.then X M rest)) (h2 : k = false → XS X M env tt (R.then X M rest)) : XS X M env (.If c ss tt pos :: rest) R := by
  intro F0 F H σ g st o D s
  refine (pss_cons (ps_if pt_s pss_s pss_s) pss_s).sem ?_
  refine hc F H σ g.fh st _ fun F1 H1 p1 => ?_
  cases k with
  | true => exact iteT (h1 rfl F0 F1 H1 σ (g.pu p1) (st.pu p1) o _ (sat_then s))
  | false => exact iteF (h2 rfl F0 F1 H1 σ (g.pu p1) (st.pu p1) o _ (sat_then s))
theorem s_ifT (hc : XT X env c true) (h1 : XS X M env ss (R.then X M rest)) : XS X M env (.If c ss tt pos :: rest) R := by
  intro F0 F H σ g st o D s
  refine (pss_cons (ps_if pt_s pss_s pss_never) pss_s).sem ?_
  exact hc F H σ g.fh st _ fun F1 H1 p1 => iteT (h1 F0 F1 H1 σ (g.pu p1) (st.pu p1) o _ (sat_then s))
theorem s_ifF (hc : XT X env c false) (h2 : XS X M env tt (R.then X M rest)) : XS X M env (.If c ss tt pos :: rest) R := by
  intro F0 F H σ g st o D s
  refine (pss_cons (ps_if pt_s pss_never pss_s) pss_s).sem ?_
  exact hc F H σ g.fh st _ fun F1 H1 p1 => iteF (h2 F0 F1 H1 σ (g.pu p1) (st.pu p1) o _ (sat_then s))
/-- if c: x = e, and on -/
theorem s_ifSet {k : Bool} {d1 d2 : D} (i : Nat) (hc : XT X env c k) (he : k = true → XV X env e d1) (h0 : env[i]? = some (.dat d2)) (h : XS X M (env.set i (.dat (if k = true then d1 else d2))) rest R) (hN : X.N.Nodup := by assumption) (hi : X.N[i]? = some n := by rfl) (hx : Loc X.env.scope n := by first | exact Or.inl rfl | exact Or.inr rfl)
    (hs : swapsWith e (some (.Name n p)) p2.line X.env = pure false := by rfl) (hf : X.fn n = true ∨ X.env.scope.names.lookup n = some .local := by first | exact Or.inl rfl | exact Or.inr rfl) : XS X M env (.If c [.Assign [.Name n p] e p2] [] pos :: rest) R := by
  refine s_if hc (fun hk => ?_) (fun hk => ?_)
  · subst hk
    refine s_set i (he rfl) (s_nil ?_) hN hi hx hs hf
    exact h
  · subst hk
    refine s_nil ?_
    have e : env.set i (.dat d2) = env := by
      apply List.ext_getElem?
      intro j
      by_cases z : j = i
      · subst z; rw [List.getElem?_set_self (List.getElem?_eq_some_iff.mp h0).1, h0]
      · rw [List.getElem?_set_ne (Ne.symm z)]
    have h' : XS X M (env.set i (.dat d2)) rest R := h
    rw [e] at h'
    exact h'
/-- a, b = .. (a tuple that is made), any targets -/
theorem s_asg {tg : Expr} {env' : En} {js : List Nat} (he : XV X env e d) (hg : XG X env tg d env' js) (hO : ∀ (σ σ' : L2.St), Own M.m M.h env σ → (∀ k, k ∉ js → σ'[k]? = σ[k]?) → Own M.m M.h env' σ') (h : XS X M env' rest R)
    (hs : swapsWithSole [tg] e pos.line X.env = pure false := by rfl) (hw : swappedStores [tg] e X.env = pure none := by rfl) (h1 : (assignEach [tg] X.env).map (·.2) = [assign tg X.env] := by rfl) : XS X M env (.Assign [tg] e pos :: rest) R := by
  intro F0 F H σ g st o D s
  refine (pss_cons (ps_asg pe_s pg_s hs hw h1) pss_s).sem ?_
  refine he F H σ g.fh st _ fun v F1 H1 p1 r1 => ?_
  refine hg.2 F1 H1 σ v p1.fh (st.pu p1) r1 _ fun σ' st' l k => ?_
  exact h F0 F1 H1 _ (g.pu p1) st' (hO σ σ' o k) D s
theorem Own.envx {env' : En} {σ σ' : L2.St} {js : List Nat} (o : Own M.m M.h env σ) (x : EnvX env env' js) (hk : ∀ k, k ∉ js → σ'[k]? = σ[k]?) : Own M.m M.h env' σ' := fun i p => by
  by_cases m : i ∈ js
  · refine ⟨fun ds e => ?_, fun ds e => ?_⟩
    · obtain ⟨d, z⟩ := x.2 i m _ e; cases z
    · obtain ⟨d, z⟩ := x.2 i m _ e; cases z
  · rw [x.1 i m, hk i m]; exact o i p
theorem s_asgT {tg : Expr} {env' : En} {js : List Nat} (he : XV X env e d) (hg : XG X env tg d env' js) (h : XS X M env' rest R)
    (hs : swapsWithSole [tg] e pos.line X.env = pure false := by rfl) (hw : swappedStores [tg] e X.env = pure none := by rfl) (h1 : (assignEach [tg] X.env).map (·.2) = [assign tg X.env] := by rfl) : XS X M env (.Assign [tg] e pos :: rest) R :=
  s_asg he hg (fun _ _ o k => o.envx hg.1 k) h hs hw h1
/-- a, b = x, y, two names -/
theorem s_par (i j : Nat) {m : Str} {px py pt : Pos} {kt k2 pt2} (ha : XA X env [a, b] [x, y]) (h : XS X M ((env.set i (.dat x)).set j (.dat y)) rest R) (hc : X.calm = true) (hw : swappedStores [.Tuple [.Name n px, .Name m py] kt pt] (.Tuple [a, b] k2 pt2) X.env = pure (some [n, m]))
    (hN : X.N.Nodup := by assumption) (hi : X.N[i]? = some n := by rfl) (hj : X.N[j]? = some m := by rfl) (hij : i ≠ j := by decide) (hx : X.env.scope.names.lookup n = some .local := by rfl) (hy : X.env.scope.names.lookup m = some .local := by rfl)
    (hs : swapsWithSole [.Tuple [.Name n px, .Name m py] kt pt] (.Tuple [a, b] k2 pt2) pos.line X.env = pure false := by rfl) : XS X M env (.Assign [.Tuple [.Name n px, .Name m py] kt pt] (.Tuple [a, b] k2 pt2) pos :: rest) R := by
  intro F0 F H σ g st o D s
  refine (pss_cons (ps_par hc hN hi hj hij hx hy pa_s hw hs) pss_s).sem ?_
  refine ha F H σ g.fh st _ fun vs F1 H1 p1 ⟨v, r, e1, r1, u, r2, e2, r3, e3⟩ => ?_
  subst e1 e2
  refine ⟨v, u, by rw [show r2 = [] from e3], ?_⟩
  exact h F0 F1 H1 _ (g.pu p1) (((st.pu p1).set r1).set r3) o.set.set D s
/-- a list becomes data -/
theorem s_freeze (i : Nat) {ds : List D} (e : env[i]? = some (.own ds)) (h : XS X M (env.set i (.dat (.lst ds))) ss R) : XS X M env ss R := by
  intro F0 F H σ g st o D s
  obtain ⟨q, h1, h2, vs, h3, h4⟩ := st.own e
  exact h F0 _ H σ (g.freeze h2 h3 ((o i q).1 ds e h1)) (st.freeze e h1 h2 h3 h4) o.dat D s
/-- x.append(e) -/
theorem s_app (i : Nat) {ds : List D} {apos : Pos} (he : XV X env e d) (e0 : env[i]? = some (.own ds)) (hz : ds.length < sizeLine) (h : XS X M (env.set i (.own (ds ++ [d]))) rest R) (hN : X.N[i]? = some n := by rfl) (hv : Vis X.env.scope n := by first | exact Or.inl rfl | exact Or.inr (Or.inl rfl) | exact Or.inr (Or.inr rfl))
    (h1 : (n == ("__debug__" : Str)) = false := by decide) (h2 : (n == ("__classdict__" : Str)) = false := by decide)
    (hbase : attributeBase (.Name n p) "append" X.env (eval (.Name n p) X.env) = eval (.Name n p) X.env := by rfl)
    (hfew : ((backTo p2 (starEach [e] X.env)).all (fun x => !x.1) && (backToKw p2 (keywordEach [] X.env)).all (fun x => x.1.isSome) && decide ([e].length + ([] : List Keyword).length + (if ([] : List Keyword).isEmpty then 0 else 1) < 30)) = true := by rfl)
    (hline : (apos.endLine == p2.line) = true := by rfl) (hs : starEach [e] X.env = (false, eval e X.env) :: starEach [] X.env := by rfl) (hplain : (backTo p2 (starEach [] X.env)).any (·.1) = false := by rfl)
    (hsw : swapsWith (.Call (.Attribute (.Name n p) "append" apos) [e] [] p2) none pos.line X.env = pure false := by rfl) : XS X M env (.Expr (.Call (.Attribute (.Name n p) "append" apos) [e] [] p2) pos :: rest) R := by
  intro F0 F H σ g st o D s
  refine (pss_cons (ps_expr (pe_bm PySem.F.plainAttrs_list PySem.F.slot_list_append PySem.F.type_list_append mt_append (pv i hN hv h1 h2) (pa_cons pe_s pa_nil hs) hbase hfew hline hs hplain) hsw) pss_s).sem ?_
  obtain ⟨l, q1, q2, vs, q3, q4⟩ := st.own e0
  refine ⟨_, q1, .inl ⟨rfl, vs, SqL.of q3⟩, ?_⟩
  refine he F H σ g.fh st _ fun v F1 H1 p1 r1 => ?_
  have k := p1.kp.kp l _ q2 q3
  refine ⟨l, vs, v, rfl, rfl, k.1, by rw [q4.length]; exact hz, ?_⟩
  have st1 := st.pu p1
  have hl := (o i l).1 ds e0 q1
  exact h F0 F1 _ _ ((g.pu p1).upd k.2 (.inr hl)) (st1.updM e0 (fun z => by cases z) q1 (.inl rfl) ((q4.mono p1.ff).append ⟨v, [], rfl, r1, rfl⟩) k.2 p1.fh) (o.updO e0) D s

/-! ### loops -/
/-- for: W by the turn -/
theorem s_for {tg iter : Expr} {body : List Stmt} {ds : List D} (W : Nat → En → Prop) (hp : PassesOwn (model X.prog X.w) X.A X.env X.xe) (hc : X.calm = true) (hi : XI X env tg iter ds) (h0 : W 0 env)
    (hb : ∀ i d env1, ds[i]? = some d → W i env1 → ∃ env2 js, XG X env1 tg d env2 js ∧ XS X M env2 body { nx := W (i + 1), ct := W (i + 1), rt := R.rt, ro := R.ro, bk := fun e => XS X M e rest R })
    (hd : ∀ env1, W ds.length env1 → XS X M env1 rest R)
    (hs : ∀ x, foldedSetIterable iter X.env x = pure x := by intro _; rfl) : XS X M env (.For tg iter body [] pos :: rest) R := by
  intro F0 F H σ g st o D s
  refine (pss_cons (ps_for hp hc pi_s pg_s pss_s hs) pss_s).sem ?_
  refine hi F H σ g.fh st _ fun J F1 H1 p1 w => ?_
  have g1 := g.pu p1
  refine ⟨fun i m σ' H' => m = ds.length - i ∧ i ≤ ds.length ∧ ∃ F' env', W i env' ∧ Gw M.m F1 M.h F' H' ∧ Sts X.K F' H' env' σ' ∧ Own M.m M.h env' σ', ⟨ds.length, by simp, Nat.zero_le _, F1, env, h0, g1.re, st.pu p1, o⟩, ?_⟩
  rintro i m σ' H' ⟨rfl, hi', F', env', w', g', st', o'⟩
  by_cases hlt : i < ds.length
  · refine .inr ⟨w.goes i H' hlt (g'.ff.trans g'.fh), fun σ'' H'' => ∃ F'' env'', W (i + 1) env'' ∧ Gw M.m F1 M.h F'' H'' ∧ Sts X.K F'' H'' env'' σ'' ∧ Own M.m M.h env'' σ'', fun σ'' H'' q => ⟨ds.length - (i + 1), by omega, rfl, hlt, q⟩, fun v H2 y => ?_⟩
    obtain ⟨F3, d, p3, hd3, r3⟩ := w.yields i H' v H2 F' hlt g'.ff g'.fh y
    obtain ⟨env2, js, hg, hbody⟩ := hb i d env' hd3 w'
    refine hg.2 F3 H2 σ' v p3.fh (st'.pu p3) r3 _ fun σ2 st2 l2 k2 => ?_
    refine hbody F1 F3 H2 σ2 (g'.pu p3) st2 (o'.envx hg.1 k2) _ ?_
    exact ⟨fun e F H σ q g st o => ⟨F, e, q, g, st, o⟩, fun d e v F H σ q g st o r => s.rt d e v F H σ q (g1.un g) st o r, fun e F H σ q g st o => q F0 F H σ (g1.un g) st o D s, fun e F H σ q g st o => ⟨F, e, q, g, st, o⟩, fun bx e p vs F H σ q g st o => s.ro bx e p vs F H σ q (g1.un g) st o⟩
  · have e : i = ds.length := by omega
    subst e
    exact .inl ⟨w.stops H' (g'.ff.trans g'.fh), hd env' w' F0 F' H' σ' (g1.un g') st' o' D s⟩
/-- while: W with a measure -/
theorem s_while {body : List Stmt} (W : Nat → En → Prop) (m0 : Nat) (hp : PassesOwn (model X.prog X.w) X.A X.env X.xe) (h0 : W m0 env)
    (hb : ∀ m env1, W m env1 → ∃ k, XT X env1 c k ∧ (k = true → XS X M env1 body { nx := fun e => ∃ m', m' < m ∧ W m' e, ct := fun e => ∃ m', m' < m ∧ W m' e, rt := R.rt, ro := R.ro, bk := fun e => XS X M e rest R }) ∧ (k = false → XS X M env1 rest R)) : XS X M env (.While c body [] pos :: rest) R := by
  intro F0 F H σ g st o D s
  refine (pss_cons (ps_while hp pt_s pss_s) pss_s).sem ?_
  refine ⟨fun m σ' H' => ∃ F' env', W m env' ∧ Gw M.m F0 M.h F' H' ∧ Sts X.K F' H' env' σ' ∧ Own M.m M.h env' σ', ⟨m0, F, env, h0, g, st, o⟩, ?_⟩
  rintro m σ' H' ⟨F', env', w', g', st', o'⟩
  obtain ⟨k, hc, hT, hF⟩ := hb m env' w'
  refine hc F' H' σ' g'.fh st' _ fun F1 H1 p1 => ?_
  cases k with
  | true =>
    refine iteT ⟨fun σ'' H'' => ∃ m', m' < m ∧ ∃ F'' env'', W m' env'' ∧ Gw M.m F0 M.h F'' H'' ∧ Sts X.K F'' H'' env'' σ'' ∧ Own M.m M.h env'' σ'', fun _ _ q => q, ?_⟩
    refine hT rfl F0 F1 H1 σ' (g'.pu p1) (st'.pu p1) o' _ ?_
    exact ⟨fun e F H σ ⟨m', l, q⟩ g st o => ⟨m', l, F, e, q, g, st, o⟩, s.rt, fun e F H σ q g st o => q F0 F H σ g st o D s, fun e F H σ ⟨m', l, q⟩ g st o => ⟨m', l, F, e, q, g, st, o⟩, s.ro⟩
  | false => exact iteF (hF rfl F0 F1 H1 σ' (g'.pu p1) (st'.pu p1) o' D s)
end
end Y

namespace Y
open PySem PySem.Spec PyProof.Rows L2
open Evl (Ex)

/-! ### promises by data -/
/-- a def that changes nothing: A tells the arguments that may come, and what is told of the worth -/
abbrev AdP := List D → (D → Prop) → Prop
def spD (K : PySem.W.Frag) (A : AdP) : Sp := fun vs H Q _ => ∃ F ds R, A ds R ∧ Ex F H ∧ Reps K F vs ds ∧ ∀ v F' H' d, R d → Pu F H F' H' → Rep K F' v d → Q v H'
/-- a def whose first argument is a list that it changes -/
abbrev AdB := List D → List D → (D → List D → Prop) → Prop
def spB (K : PySem.W.Frag) (A : AdB) : Sp := fun vs H Q _ => ∃ F p ws bx ds R, vs = .ref p :: ws ∧ A bx ds R ∧ Ex F H ∧ MutAt K F H p bx ∧ Reps K F ws ds ∧
  ∀ v F' H' d bx', R d bx' → Gw (fun a => a = p) F H F' H' → MutAt K F' H' p bx' → Rep K F' v d → Q v H'
/-- a def of the module, as it is called -/
structure Dn (P : Program) (w : World) (K : PySem.W.Frag) (mg : Str → Option Value) (base : Heap) (k : Nat) (n : Str) (sp : Sp) : Prop where
  ex : ∃ (f : Addr) (fd : FuncData) (ps : List Str), FnOk P w K mg base CX0 k f fd ps sp ∧ mg n = some (.ref f) ∧ PySem.W.keepIn K (.ref f) = true ∧ Binds K fd ps []

section
variable {X : Cx} {M : Wd} {env : En} {a b c e : Expr} {es : List Expr} {d x y z : D} {ds xs : List D} {pos p p2 : Pos} {rest ss tt : List Stmt} {st : Stmt} {R : Rs} {P : D → En → Prop} {n : Str} {k : Nat}
theorem x_call {A : AdP} {R : D → Prop} (c : Dn X.prog X.w X.K X.mg X.base k n (spD X.K A)) (hr : Room k X.A) (ha : XA X env (e :: es) ds) (hA : A ds R) (hR : ∀ d', R d' → d' = d) (hg : Gl X n := by rfl)
    (hdb : (n == ("__debug__" : Str)) = false := by decide) (he : starEach (e :: es) X.env = (false, eval e X.env) :: starEach es X.env := by rfl) (hpl : (backTo pos (starEach es X.env)).any (·.1) = false := by rfl) : XV X env (.Call (.Name n p) (e :: es) [] pos) d := by
  intro F H σ fh st Q q
  obtain ⟨f, fd, ps, hF, hm, hk, hb⟩ := c.ex
  refine (pe_call hF hr hg hm hk hb .nil pass0 pa_s hdb he hpl).sem ?_
  refine ha F H σ fh st _ fun vs F1 H1 p1 r1 => ?_
  rw [List.append_nil]
  exact ⟨F1, ds, R, hA, p1.fh, r1, fun v F2 H2 d' hd p2 r2 => q v F2 H2 (p1.trans p2) (hR d' hd ▸ r2)⟩
/-- its worth known in part -/
theorem e_call {A : AdP} {R : D → Prop} (c : Dn X.prog X.w X.K X.mg X.base k n (spD X.K A)) (hr : Room k X.A) (ha : XAE X M env (e :: es) fun ds env' => ∃ R, A ds R ∧ ∀ d, R d → P d env') (hg : Gl X n := by rfl)
    (hdb : (n == ("__debug__" : Str)) = false := by decide) (he : starEach (e :: es) X.env = (false, eval e X.env) :: starEach es X.env := by rfl) (hpl : (backTo pos (starEach es X.env)).any (·.1) = false := by rfl) : XE X M env (.Call (.Name n p) (e :: es) [] pos) P := by
  intro F0 F H σ g st o Q q
  obtain ⟨f, fd, ps, hF, hm, hk, hb⟩ := c.ex
  refine (pe_call hF hr hg hm hk hb .nil pass0 pa_s hdb he hpl).sem ?_
  refine ha F0 F H σ g st o _ fun vs F1 H1 ds env1 ⟨R, hA, hR⟩ g1 f1 st1 o1 r1 => ?_
  rw [List.append_nil]
  exact ⟨F1, ds, R, hA, g1.fh, r1, fun v F2 H2 d' hd p2 r2 => q v F2 H2 d' env1 (hR d' hd) (g1.pu p2) (f1.trans p2.ff) (st1.pu p2) o1 r2⟩
/-- a call whose first argument is a list in slot i that the callee changes: the caller's own, or the one it was handed -/
theorem e_callB {A : AdB} {bx : List D} {pn : Pos} {m : Str} (i : Nat) (c : Dn X.prog X.w X.K X.mg X.base k n (spB X.K A)) (hr : Room k X.A) (e0 : env[i]? = some (.own bx) ∨ env[i]? = some (.ext bx)) (ha : XA X env es ds) {R : D → List D → Prop} (hA : A bx ds R)
    (hP : ∀ d bx', R d bx' → (env[i]? = some (.own bx) → P d (env.set i (.own bx'))) ∧ (env[i]? = some (.ext bx) → P d (env.set i (.ext bx')))) (hg : Gl X n := by rfl)
    (hN : X.N[i]? = some m := by rfl) (hv : Vis X.env.scope m := by first | exact Or.inl rfl | exact Or.inr (Or.inl rfl) | exact Or.inr (Or.inr rfl))
    (h1 : (m == ("__debug__" : Str)) = false := by decide) (h2 : (m == ("__classdict__" : Str)) = false := by decide)
    (hdb : (n == ("__debug__" : Str)) = false := by decide) (he : starEach (.Name m pn :: es) X.env = (false, eval (.Name m pn) X.env) :: starEach es X.env := by rfl) (hpl : (backTo pos (starEach es X.env)).any (·.1) = false := by rfl) : XE X M env (.Call (.Name n p) (.Name m pn :: es) [] pos) P := by
  intro F0 F H σ g st o Q q
  obtain ⟨f, fd, ps, hF, hm, hk, hb⟩ := c.ex
  refine (pe_call hF hr hg hm hk hb .nil pass0 (pa_cons (pv i hN hv h1 h2) pa_s he) hdb he hpl).sem ?_
  have both : ∃ s, env[i]? = some s ∧ s.mu ≠ none ∧ ∃ l, σ[i]? = some (some (.ref l)) ∧ MutAt X.K F H l bx ∧ (M.m l ∨ M.h l = none) := by
    rcases e0 with e0 | e0
    · obtain ⟨l, q1, q2⟩ := st.own e0
      exact ⟨_, e0, fun z => (by cases z), l, q1, q2, .inr ((o i l).1 _ e0 q1)⟩
    · obtain ⟨l, q1, q2⟩ := st.ext e0
      exact ⟨_, e0, fun z => (by cases z), l, q1, q2, .inl ((o i l).2 _ e0 q1)⟩
  obtain ⟨s, es0, ms, l, q1, q2, hl⟩ := both
  refine ⟨_, q1, ?_⟩
  refine ha F H σ g.fh st _ fun vs F1 H1 p1 r1 => ?_
  show spB X.K A ((V.ref l :: vs) ++ []) H1 Q E0
  rw [List.append_nil]
  have g1 := g.pu p1
  have m1 := q2.kp p1.kp
  refine ⟨F1, l, vs, bx, ds, R, rfl, hA, p1.fh, m1, r1, fun v F2 H2 d bx' hd gw m2 r2 => ?_⟩
  obtain ⟨f2, ws, h2', rs⟩ := m2
  have g2 : Gw M.m F0 M.h F2 H2 := ⟨g1.ff.trans gw.ff, gw.fh, fun a u n h => gw.hh a u (fun z => by
      subst z
      rcases hl with z | z
      · exact n z
      · rw [z] at h; cases h) (g1.hh a u n h), fun a h => by
      rcases gw.fr a h with z | z
      · exact g1.fr a z
      · cases q : M.h a with
        | none => exact .inr rfl
        | some u => exact absurd z (g1.th a (by rw [q]; exact fun z => by cases z)), fun a h => gw.th a (g1.th a h)⟩
  have kp : Kp F1 (L2.upd H1 l (.lst ws)) F2 H2 := ⟨gw.ff, fun q u h3 h4 => by
    by_cases z : q = l
    · subst z; rw [upd_same] at h4; cases h4; exact ⟨h2', f2⟩
    · rw [upd_ne z] at h4
      refine ⟨gw.hh q u z h4, ?_⟩
      cases w : F2 q with
      | none => rfl
      | some v' =>
        rcases gw.fr q (by rw [w]; exact fun z => by cases z) with y | y
        · exact absurd h3 y
        · rw [h4] at y; cases y⟩
  have st1 := st.pu p1
  -- the slot's list holds bx' now
  have fin : ∀ s', (s' = .own bx' ∨ s' = .ext bx') → Sts X.K F2 H2 (env.set i s') σ := fun s' hs' => by
    obtain ⟨fl, ws0, hl0, rs0⟩ := m1
    have st2 : Sts X.K F1 (L2.upd H1 l (.lst ws0)) (env.set i (match s' with | .own _ => .own bx | _ => .ext bx)) σ := st1.updM es0 ms q1 (by rcases hs' with rfl | rfl; exact .inl rfl; exact .inr rfl) rs0 fl p1.fh
    refine ⟨st2.len.trans (by rw [List.length_set, List.length_set]), fun j t u e1 e2 => ?_, fun j k t u q e1 e2 n1 n2 e3 e4 => ?_⟩
    · by_cases z : j = i
      · subst z
        have hi := (List.getElem?_eq_some_iff.mp es0).1
        rw [List.getElem?_set_self hi] at e1
        cases e1
        rw [q1] at e2; cases e2
        rcases hs' with rfl | rfl <;> exact ⟨l, rfl, f2, ws, h2', rs⟩
      · rw [List.getElem?_set_ne (Ne.symm z)] at e1
        have h := st1.ok j t u e1 e2
        have keep : ∀ q ds, t.mu ≠ none → u = some (.ref q) → MutAt X.K F1 H1 q ds → MutAt X.K F2 H2 q ds := fun q ds m' eo mm => by
          have nq : q ≠ l := fun w => by
            subst w; subst eo
            exact z (st1.apart j i t s q e1 es0 m' ms e2 q1)
          refine MutAt.kp (F := F1) (H := L2.upd H1 l (.lst ws)) ?_ kp
          obtain ⟨x1, x2, x3, x4⟩ := mm
          exact ⟨x1, x2, by rw [upd_ne nq]; exact x3, x4⟩
        cases t with
        | un => trivial
        | dat d => obtain ⟨v', x1, x2⟩ := h; exact ⟨v', x1, x2.mono gw.ff⟩
        | own ds => obtain ⟨q, eo, mm⟩ := h; exact ⟨q, eo, keep q ds (fun z => by cases z) eo mm⟩
        | ext ds => obtain ⟨q, eo, mm⟩ := h; exact ⟨q, eo, keep q ds (fun z => by cases z) eo mm⟩
    · have back : ∀ (j : Nat) (t : Slot), (env.set i s')[j]? = some t → t.mu ≠ none → ∃ (t' : Slot), env[j]? = some t' ∧ t'.mu ≠ none := fun j t e1 m1 => by
        by_cases z : j = i
        · subst z; exact ⟨s, es0, ms⟩
        · rw [List.getElem?_set_ne (Ne.symm z)] at e1; exact ⟨t, e1, m1⟩
      obtain ⟨t', e1', m1'⟩ := back j t e1 n1
      obtain ⟨u', e2', m2'⟩ := back k u e2 n2
      exact st1.apart j k t' u' q e1' e2' m1' m2' e3 e4
  rcases e0 with e0 | e0
  · exact q v F2 H2 d _ ((hP d bx' hd).1 e0) g2 (p1.ff.trans gw.ff) (fin _ (.inl rfl)) (o.updO e0) r2
  · exact q v F2 H2 d _ ((hP d bx' hd).2 e0) g2 (p1.ff.trans gw.ff) (fin _ (.inr rfl)) (o.updX e0) r2

/-! ### expressions that draw -/
theorem e_v (h : XV X env e d) (hp : P d env) : XE X M env e P := fun F0 F H σ g st o Q q => h F H σ g.fh st Q fun v F1 H1 p1 r1 => q v F1 H1 d env hp (g.pu p1) p1.ff (st.pu p1) o r1
theorem XE.imp {P' : D → En → Prop} (h : XE X M env e P) (hp : ∀ d e, P d e → P' d e) : XE X M env e P' := fun F0 F H σ g st o Q q => h F0 F H σ g st o Q fun v F1 H1 d env' hd => q v F1 H1 d env' (hp d env' hd)
theorem e_bin {op : Operator} {r : R2} (ho : OpR X (binaryOp op) r) (ha : XE X M env a fun x env1 => XE X M env1 b fun y env2 => ∃ d, OpD X.K r x y d ∧ P d env2) : XE X M env (.BinOp a op b pos) P := by
  intro F0 F H σ g st o Q q
  refine (pe_op ho pe_s pe_s).sem ?_
  refine ha F0 F H σ g st o _ fun v F1 H1 x env1 hb g1 f1 st1 o1 r1 => ?_
  refine hb F0 F1 H1 σ g1 st1 o1 _ fun u F2 H2 y env2 ⟨d, hr, hp⟩ g2 f2 st2 o2 r2 => ?_
  exact hr F2 H2 v u Q g2.fh (r1.mono f2) r2 fun w F3 H3 p3 r3 => q w F3 H3 d env2 hp (g2.pu p3) ((f1.trans f2).trans p3.ff) (st2.pu p3) o2 r3
theorem q_cmp {P : Bool → En → Prop} {op : CmpOp} {r : R2} (ho : OpR X (compareOp op) r) (hm : behindInMarks op b = false) (ha : XE X M env a fun x env1 => XE X M env1 b fun y env2 => ∃ k, OpD X.K r x y (.bl k) ∧ P k env2) : XQ X M env (.Compare a [op] [b] pos) P := by
  intro F0 F H σ g st o Q q
  refine (pt_cmpR ho pe_s pe_s hm).sem ?_
  refine ha F0 F H σ g st o _ fun v F1 H1 x env1 hb g1 f1 st1 o1 r1 => ?_
  refine hb F0 F1 H1 σ g1 st1 o1 _ fun u F2 H2 y env2 ⟨k, hr, hp⟩ g2 f2 st2 o2 r2 => ?_
  exact hr F2 H2 v u _ g2.fh (r1.mono f2) r2 fun w F3 H3 p3 r3 => ⟨k, r3, q F3 H3 k env2 hp (g2.pu p3) ((f1.trans f2).trans p3.ff) (st2.pu p3) o2⟩
theorem q_t {P : Bool → En → Prop} {k : Bool} (h : XT X env e k) (hp : P k env) : XQ X M env e P := fun F0 F H σ g st o Q q => h F H σ g.fh st Q fun F1 H1 p1 => q F1 H1 k env hp (g.pu p1) p1.ff (st.pu p1) o
theorem e_if (hc : XQ X M env c fun k env1 => (k = true → XE X M env1 a P) ∧ (k = false → XE X M env1 b P)) : XE X M env (.IfExp c a b pos) P := by
  intro F0 F H σ g st o Q q
  refine (pe_ifExp pt_s pe_s pe_s).sem ?_
  refine hc F0 F H σ g st o _ fun F1 H1 k env1 ⟨hT, hF⟩ g1 f1 st1 o1 => ?_
  have q' : ∀ v F' H' d env', P d env' → Gw M.m F0 M.h F' H' → Ex F1 F' → Sts X.K F' H' env' σ → Own M.m M.h env' σ → Rep X.K F' v d → Q v H' := fun v F' H' d env' hp g' f' => q v F' H' d env' hp g' (f1.trans f')
  cases k with
  | true => exact iteT (hT rfl F0 F1 H1 σ g1 st1 o1 Q q')
  | false => exact iteF (hF rfl F0 F1 H1 σ g1 st1 o1 Q q')
theorem ae_nil {P : List D → En → Prop} (h : P [] env) : XAE X M env [] P := fun F0 F H σ g st o Q q => pa_nil.sem (q [] F H [] env h g (Ex.refl _) st o rfl)
theorem ae_cons {P : List D → En → Prop} (h : XE X M env e fun d env1 => XAE X M env1 es fun ds env2 => P (d :: ds) env2) (hs : starEach (e :: es) X.env = (false, eval e X.env) :: starEach es X.env := by rfl) : XAE X M env (e :: es) P := by
  intro F0 F H σ g st o Q q
  refine (pa_cons pe_s pa_s hs).sem ?_
  refine h F0 F H σ g st o _ fun v F1 H1 d env1 hr g1 f1 st1 o1 r1 => ?_
  exact hr F0 F1 H1 σ g1 st1 o1 _ fun vs F2 H2 ds env2 hp g2 f2 st2 o2 r2 => q (v :: vs) F2 H2 (d :: ds) env2 hp g2 (f1.trans f2) st2 o2 ⟨v, vs, rfl, r1.mono f2, r2⟩
theorem ae_a {P : List D → En → Prop} (h : XA X env es ds) (hp : P ds env) : XAE X M env es P := fun F0 F H σ g st o Q q => h F H σ g.fh st Q fun v F1 H1 p1 r1 => q v F1 H1 ds env hp (g.pu p1) p1.ff (st.pu p1) o r1
theorem e_tup {kk} (h : XAE X M env es fun ds env' => ds.length ≤ sizeLine ∧ P (.tup ds) env') : XE X M env (.Tuple es kk pos) P := by
  intro F0 F H σ g st o Q q
  refine (pe_tup pa_s).sem ?_
  refine h F0 F H σ g st o _ fun vs F1 H1 ds env1 ⟨hl, hp⟩ g1 f1 st1 o1 r1 => ⟨by rw [r1.length]; exact hl, fun t ht => ?_⟩
  have pn := Pu.new g1.fh ht (o := .tup vs)
  exact q _ _ _ _ env1 hp (g1.pu pn) (f1.trans pn.ff) (st1.pu pn) o1 ⟨t, vs, rfl, SqT.of upd_same, r1.mono pn.ff⟩
theorem e_lst (h : XAE X M env es fun ds env' => ds.length ≤ sizeLine ∧ P (.lst ds) env') : XE X M env (.List es pos) P := by
  intro F0 F H σ g st o Q q
  refine (pe_lst pa_s).sem ?_
  refine h F0 F H σ g st o _ fun vs F1 H1 ds env1 ⟨hl, hp⟩ g1 f1 st1 o1 r1 => ⟨by rw [r1.length]; exact hl, fun t ht => ?_⟩
  have pn := Pu.new g1.fh ht (o := .lst vs)
  exact q _ _ _ _ env1 hp (g1.pu pn) (f1.trans pn.ff) (st1.pu pn) o1 ⟨t, vs, rfl, SqL.of upd_same, r1.mono pn.ff⟩
theorem e_ixL (h : XE X M env a fun x env1 => ∃ ds, x = .lst ds ∧ XE X M env1 b fun y env2 => ∃ i d, y = .int i ∧ atI ds i = some d ∧ P d env2) (hs : PlainIx b := by intro _ _; rfl) : XE X M env (.Subscript a b pos) P := by
  intro F0 F H σ g st o Q q
  refine (pe_ix ix_list pe_s pe_s hs).sem ?_
  refine h F0 F H σ g st o _ fun v F1 H1 x env1 ⟨ds, ex, hb⟩ g1 f1 st1 o1 r1 => ?_
  subst ex
  obtain ⟨l, vs, e1, h1, h2⟩ := r1
  refine hb F0 F1 H1 σ g1 st1 o1 _ fun u F2 H2 y env2 ⟨i, d, ey, hd, hp⟩ g2 f2 st2 o2 r2 => ?_
  subst ey
  obtain ⟨w, h3, h4⟩ := atI_reps h2 hd
  exact ⟨l, vs, i, w, e1, r2, Evl.ex_l (f2.trans g2.fh) h1, h3, q w F2 H2 d env2 hp g2 (f1.trans f2) st2 o2 (h4.mono f2)⟩
/-! statements with them -/
theorem s_setE (i : Nat) (he : XE X M env e fun d env' => XS X M (env'.set i (.dat d)) rest R) (hN : X.N.Nodup := by assumption) (hi : X.N[i]? = some n := by rfl) (hx : Loc X.env.scope n := by first | exact Or.inl rfl | exact Or.inr rfl)
    (hs : swapsWith e (some (.Name n p)) pos.line X.env = pure false := by rfl) (hf : X.fn n = true ∨ X.env.scope.names.lookup n = some .local := by first | exact Or.inl rfl | exact Or.inr rfl) : XS X M env (.Assign [.Name n p] e pos :: rest) R := by
  intro F0 F H σ g st o D s
  refine (pss_cons (ps_set hN hi hx pe_s hs hf) pss_s).sem ?_
  exact he F0 F H σ g st o _ fun v F1 H1 d env1 h g1 f1 st1 o1 r1 => h F0 F1 H1 _ g1 (st1.set r1) o1.set D s
theorem s_retE (he : XE X M env e fun d env' => R.rt d env') : XS X M env (.Return (some e) pos :: rest) R := by
  intro F0 F H σ g st o D s
  refine (pss_cons (ps_ret pe_s) pss_s).sem ?_
  exact he F0 F H σ g st o _ fun v F1 H1 d env1 h g1 f1 st1 o1 r1 => s.rt d env1 v F1 H1 σ h g1 st1 o1 r1
theorem s_ifE (hc : XQ X M env c fun k env1 => (k = true → XS X M env1 ss (R.then X M rest)) ∧ (k = false → XS X M env1 tt (R.then X M rest))) : XS X M env (.If c ss tt pos :: rest) R := by
  intro F0 F H σ g st o D s
  refine (pss_cons (ps_if pt_s pss_s pss_s) pss_s).sem ?_
  refine hc F0 F H σ g st o _ fun F1 H1 k env1 ⟨hT, hF⟩ g1 f1 st1 o1 => ?_
  cases k with
  | true => exact iteT (hT rfl F0 F1 H1 σ g1 st1 o1 _ (sat_then s))
  | false => exact iteF (hF rfl F0 F1 H1 σ g1 st1 o1 _ (sat_then s))
/-- x.append(e), e draws -/
theorem s_appE (i : Nat) {apos : Pos} {ds0 : List D} (e0 : env[i]? = some (.own ds0)) (he : XE X M env e fun d env' => ∃ ds, env'[i]? = some (.own ds) ∧ ds.length < sizeLine ∧ XS X M (env'.set i (.own (ds ++ [d]))) rest R) (hN : X.N[i]? = some n := by rfl) (hv : Vis X.env.scope n := by first | exact Or.inl rfl | exact Or.inr (Or.inl rfl) | exact Or.inr (Or.inr rfl))
    (h1 : (n == ("__debug__" : Str)) = false := by decide) (h2 : (n == ("__classdict__" : Str)) = false := by decide)
    (hbase : attributeBase (.Name n p) "append" X.env (eval (.Name n p) X.env) = eval (.Name n p) X.env := by rfl)
    (hfew : ((backTo p2 (starEach [e] X.env)).all (fun x => !x.1) && (backToKw p2 (keywordEach [] X.env)).all (fun x => x.1.isSome) && decide ([e].length + ([] : List Keyword).length + (if ([] : List Keyword).isEmpty then 0 else 1) < 30)) = true := by rfl)
    (hline : (apos.endLine == p2.line) = true := by rfl) (hs : starEach [e] X.env = (false, eval e X.env) :: starEach [] X.env := by rfl) (hplain : (backTo p2 (starEach [] X.env)).any (·.1) = false := by rfl)
    (hsw : swapsWith (.Call (.Attribute (.Name n p) "append" apos) [e] [] p2) none pos.line X.env = pure false := by rfl) : XS X M env (.Expr (.Call (.Attribute (.Name n p) "append" apos) [e] [] p2) pos :: rest) R := by
  intro F0 F H σ g st o D s
  refine (pss_cons (ps_expr (pe_bm PySem.F.plainAttrs_list PySem.F.slot_list_append PySem.F.type_list_append mt_append (pv i hN hv h1 h2) (pa_cons pe_s pa_nil hs) hbase hfew hline hs hplain) hsw) pss_s).sem ?_
  obtain ⟨l, q1, q2, vs, q3, q4⟩ := st.own e0
  refine ⟨_, q1, .inl ⟨rfl, vs, SqL.of q3⟩, ?_⟩
  refine he F0 F H σ g st o _ fun v F1 H1 d env1 ⟨ds1, e1, hz, h⟩ g1 f1 st1 o1 r1 => ?_
  obtain ⟨l', q1', q2', vs', q3', q4'⟩ := st1.own e1
  rw [q1] at q1'; cases q1'
  refine ⟨l, vs', v, rfl, rfl, q3', by rw [q4'.length]; exact hz, ?_⟩
  have hl := (o1 i l).1 ds1 e1 q1
  exact h F0 F1 _ _ (g1.upd q2' (.inr hl)) (st1.updM e1 (fun z => by cases z) q1 (.inl rfl) (q4'.append ⟨v, [], rfl, r1, rfl⟩) q2' g1.fh) (o1.updO e1) D s
end
end Y

namespace Y
open PySem PySem.Spec PyProof.Rows L2
open Evl (Ex)

/-! ### a def's body -/
section
variable {P : Program} {w : World} {K : PySem.W.Frag} {mg : Str → Option Value} {base : Heap} {x qual : Str} {st : Stmt} {f : Addr} {fd : FuncData} {N ps : List Str} {k : Nat}
theorem reps_map_some {F H : Hp} {vs : List V} {ds : List D} (r : Reps K F vs ds) : ∀ (i : Nat) (s : Slot) (o : Option V), (ds.map Slot.dat)[i]? = some s → (vs.map some)[i]? = some o → SlotOk K F H s o := fun i s o e1 e2 => by
  rw [List.getElem?_map] at e1 e2
  cases q : ds[i]? with
  | none => rw [q] at e1; cases e1
  | some d =>
    rw [q] at e1; cases e1
    obtain ⟨v, h1, h2⟩ := r.get q
    rw [h1] at e2; cases e2
    exact ⟨v, rfl, h2⟩
/-- the slots at the entry -/
abbrev entry (ds : List D) (n : Nat) : En := ds.map Slot.dat ++ List.replicate (n - ds.length) Slot.un
theorem no_mu {ds : List D} {n : Nat} {i : Nat} {s : Slot} (e : (entry ds n)[i]? = some s) : s.mu = none := by
  have hm := List.mem_of_getElem? e
  rcases List.mem_append.mp hm with h | h
  · obtain ⟨d, _, rfl⟩ := List.mem_map.mp h; rfl
  · rw [(List.mem_replicate.mp h).2]; rfl
theorem sts_entry {F H : Hp} {vs : List V} {ds : List D} (r : Reps K F vs ds) (hN : vs.length ≤ N.length) : Sts K F H (entry ds N.length) (L2.start N vs) := by
  have hl := r.length
  refine ⟨by unfold L2.start; simp [hl], fun i s o e1 e2 => ?_, fun i j s t p e1 e2 m1 m2 _ _ => absurd (no_mu e1) m1⟩
  unfold L2.start at e2
  by_cases h : i < ds.length
  · rw [List.getElem?_append_left (by simpa using h)] at e1
    rw [List.getElem?_append_left (by rw [List.length_map, hl]; exact h)] at e2
    exact reps_map_some r i s o e1 e2
  · rw [List.getElem?_append_right (by simpa using h), List.getElem?_replicate] at e1
    split at e1
    · cases e1; trivial
    · cases e1
abbrev fnX (K : PySem.W.Frag) (P : Program) (w : World) (mg : Str → Option Value) (base : Heap) (N : List Str) (qual : Str) (st : Stmt) (f : Addr) (cdv : Value) (A : Around) (outer : List Env) (s : Shared) (H : Hp) (E : XK) : Cx := (cxOf CX0 P w K mg base N qual (defScope st) f cdv A outer s H E).nox
theorem fnD {A : AdP} (F : Fun K x qual st f fd) (S : FnScope N ps (defScope st)) (hl : ∀ ds R, A ds R → ds.length = ps.length) (hpN : ps.length ≤ N.length)
    (body : ∀ (cdv : Value) (A' : Around) (outer : List Env) (s : Shared) (H : Hp) (E : XK), Room k (A'.deeper (envOfC qual (defScope st) s.heap.objs.size f cdv)) → ∀ ds R, A ds R →
      XS (fnX K P w mg base N qual st f cdv A' outer s H E) ⟨fun _ => False, H⟩ (entry ds N.length) (defBody st) { nx := fun _ => R .non, rt := fun d _ => R d }) : FnOk P w K mg base CX0 (k + 1) f fd ps (spD K A) := by
  refine F.ok S (fun vs H Q E h => ?_) (fun cdv A' outer s H vs Q E hr h => ?_)
  · obtain ⟨F, ds, R, hA, fh, r, _⟩ := h
    rw [r.length]
    exact hl ds R hA
  · obtain ⟨F0, ds, R, hA, fh, r, q⟩ := h
    refine ⟨tSemS _ (defBody st), pss_s, ?_⟩
    refine body cdv A' outer s H E hr ds R hA F0 F0 H (L2.start N vs) (Gw.refl fh) (sts_entry r (by rw [r.length, hl ds R hA]; exact hpN)) (fun i p => ⟨fun ds e => absurd (no_mu e) (fun z => by cases z), fun ds e => absurd (no_mu e) (fun z => by cases z)⟩) _ ?_
    exact ⟨fun env F H' σ hd g st o => q .non F H' .non hd g.pure rfl, fun d env v F H' σ hd g st o rv => q v F H' d hd g.pure rv, fun env F H' σ hd => hd.elim, fun env F H' σ hd => hd.elim, fun bx env p vs F H' σ hd => hd.elim⟩
/-- a def whose first parameter is a list that it changes -/
abbrev entryB (bx ds : List D) (n : Nat) : En := Slot.ext bx :: (ds.map Slot.dat ++ List.replicate (n - 1 - ds.length) Slot.un)
theorem fnB {A : AdB} (F : Fun K x qual st f fd) (S : FnScope N ps (defScope st)) (hl : ∀ bx ds R, A bx ds R → ds.length + 1 = ps.length) (hpN : ps.length ≤ N.length)
    (body : ∀ (cdv : Value) (A' : Around) (outer : List Env) (s : Shared) (H : Hp) (E : XK), Room k (A'.deeper (envOfC qual (defScope st) s.heap.objs.size f cdv)) → ∀ (p : Addr) bx ds R, A bx ds R →
      XS (fnX K P w mg base N qual st f cdv A' outer s H E) ⟨fun a => a = p, H⟩ (entryB bx ds N.length) (defBody st) { nx := fun env => ∃ bx', env[0]? = some (.ext bx') ∧ R .non bx', rt := fun d env => ∃ bx', env[0]? = some (.ext bx') ∧ R d bx' }) : FnOk P w K mg base CX0 (k + 1) f fd ps (spB K A) := by
  refine F.ok S (fun vs H Q E h => ?_) (fun cdv A' outer s H vs Q E hr h => ?_)
  · obtain ⟨F, p, ws, bx, ds, R, rfl, hA, fh, mt, r, _⟩ := h
    rw [List.length_cons, r.length]
    exact hl bx ds R hA
  · obtain ⟨F0, p, ws, bx, ds, R, rfl, hA, fh, mt, r, q⟩ := h
    refine ⟨tSemS _ (defBody st), pss_s, ?_⟩
    have hps := hl bx ds R hA
    have hwl := r.length
    have stt : Sts K F0 H (entryB bx ds N.length) (L2.start N (.ref p :: ws)) := by
      have lenE : (entryB bx ds N.length).length = N.length := by simp; omega
      have at0 : ∀ i s, (entryB bx ds N.length)[i]? = some s → s.mu ≠ none → i = 0 := fun i s e m => by
        cases i with
        | zero => rfl
        | succ i =>
          exfalso
          have e' : (ds.map Slot.dat ++ List.replicate (N.length - 1 - ds.length) Slot.un)[i]? = some s := by simpa using e
          exact m (no_mu (ds := ds) (n := N.length - 1) e')
      refine ⟨by rw [lenE]; unfold L2.start; simp; omega, fun i s o e1 e2 => ?_, fun i j s t p e1 e2 m1 m2 _ _ => by rw [at0 i s e1 m1, at0 j t e2 m2]⟩
      cases i with
      | zero =>
        have e1' : some (Slot.ext bx) = some s := by simpa using e1
        cases e1'
        unfold L2.start at e2
        have e2' : some (some (V.ref p)) = some o := by simpa using e2
        cases e2'
        exact ⟨p, rfl, mt⟩
      | succ i =>
        have e1' : (entry ds (N.length - 1))[i]? = some s := by simpa using e1
        have e2' : (L2.start (N.drop 1) ws)[i]? = some o := by
          unfold L2.start at e2 ⊢
          simp only [List.map_cons, List.cons_append, List.getElem?_cons_succ, List.length_cons, List.length_drop] at e2 ⊢
          have : N.length - 1 - ws.length = N.length - (ws.length + 1) := by omega
          rw [this]
          exact e2
        have := sts_entry (K := K) (F := F0) (H := H) (N := N.drop 1) r (by rw [List.length_drop]; omega)
        rw [List.length_drop] at this
        exact this.ok i s o e1' e2'
    have oo : Own (fun a => a = p) H (entryB bx ds N.length) (L2.start N (.ref p :: ws)) := fun i q => by
      cases i with
      | zero =>
        refine ⟨fun ds e => by simp at e, fun ds e w => ?_⟩
        unfold L2.start at w
        have w' : some (some (V.ref p)) = some (some (V.ref q)) := by simpa using w
        cases w'
        rfl
      | succ i => exact ⟨fun ds' e => absurd (no_mu (ds := ds) (n := N.length - 1) (by simpa using e)) (fun z => by cases z), fun ds' e => absurd (no_mu (ds := ds) (n := N.length - 1) (by simpa using e)) (fun z => by cases z)⟩
    refine body cdv A' outer s H E hr p bx ds R hA F0 F0 H (L2.start N (.ref p :: ws)) (Gw.refl fh) stt oo _ ?_
    refine ⟨fun env F H' σ ⟨bx', e, hd⟩ g st o => ?_, fun d env v F H' σ ⟨bx', e, hd⟩ g st o rv => ?_, fun env F H' σ hd => hd.elim, fun env F H' σ hd => hd.elim, fun bx env p vs F H' σ hd => hd.elim⟩
    · obtain ⟨l, h1, h2⟩ := st.ext e
      have := (o 0 l).2 bx' e h1
      subst this
      exact q .non F H' .non bx' hd g h2 rfl
    · obtain ⟨l, h1, h2⟩ := st.ext e
      have := (o 0 l).2 bx' e h1
      subst this
      exact q v F H' d bx' hd g h2 rv
end

/-! ### built-ins -/
section
variable {X : Cx} {env : En} {a b c e : Expr} {es : List Expr} {d x y z : D} {ds xs : List D} {pos p : Pos} {n : Str}
theorem reps1 {K : PySem.W.Frag} {F : Hp} {vs : List V} (r : Reps K F vs [x]) : ∃ v, vs = [v] ∧ Rep K F v x := by
  obtain ⟨v, r', e, h, h'⟩ := r
  exact ⟨v, by rw [e, show r' = [] from h'], h⟩
theorem reps2 {K : PySem.W.Frag} {F : Hp} {vs : List V} (r : Reps K F vs [x, y]) : ∃ v u, vs = [v, u] ∧ Rep K F v x ∧ Rep K F u y := by
  obtain ⟨v, r', e, h, u, r2, e2, h2, h3⟩ := r
  exact ⟨v, u, by rw [e, e2, show r2 = [] from h3], h, h2⟩
def lenD : D → Option Nat
  | .lst xs => some xs.length
  | .tup xs => some xs.length
  | _ => none
theorem x_len {m : Nat} (ha : XV X env a x) (hl : lenD x = some m) (hg : Gl X "len" := by rfl) (hm : X.mg "len" = none := by assumption) (he : starEach [a] X.env = (false, eval a X.env) :: starEach [] X.env := by rfl) : XV X env (.Call (.Name "len" p) [a] [] pos) (.int m) := by
  refine x_callB call_len_seq (x := x) (ds := []) (fun F H vs Q fh r q => ?_) hg hm PySem.boot_len (a_cons ha a_nil he) (he := he)
  obtain ⟨v, rfl, r1⟩ := reps1 r
  cases x with
  | lst xs =>
    cases hl
    obtain ⟨l, us, rfl, h1, h2⟩ := r1
    exact ⟨l, us, rfl, .inl (Evl.ex_l fh h1), by rw [h2.length]; exact q.val fh (v := .int _) rfl⟩
  | tup xs =>
    cases hl
    obtain ⟨l, us, rfl, h1, h2⟩ := r1
    exact ⟨l, us, rfl, .inr (Evl.ex_t fh h1), by rw [h2.length]; exact q.val fh (v := .int _) rfl⟩
  | _ => cases hl
theorem x_lenS {z : Str} (ha : XV X env a (.str z)) (hl : z.length ≤ sizeLine) (hg : Gl X "len" := by rfl) (hm : X.mg "len" = none := by assumption) (he : starEach [a] X.env = (false, eval a X.env) :: starEach [] X.env := by rfl) : XV X env (.Call (.Name "len" p) [a] [] pos) (.int z.length) := by
  refine x_callB call_len_str (x := .str z) (ds := []) (fun F H vs Q fh r q => ?_) hg hm PySem.boot_len (a_cons ha a_nil he) (he := he)
  obtain ⟨v, rfl, r1⟩ := reps1 r
  exact ⟨z, by rw [show v = V.str z from r1], hl, q.val fh (v := .int _) rfl⟩
/-- len of a list that changes -/
theorem x_lenO (i : Nat) {pn : Pos} (h0 : env[i]? = some (.own ds) ∨ env[i]? = some (.ext ds)) (hg : Gl X "len" := by rfl) (hm : X.mg "len" = none := by assumption) (hN : X.N[i]? = some n := by rfl) (hv : Vis X.env.scope n := by first | exact Or.inl rfl | exact Or.inr (Or.inl rfl) | exact Or.inr (Or.inr rfl))
    (h1 : (n == ("__debug__" : Str)) = false := by decide) (h2 : (n == ("__classdict__" : Str)) = false := by decide) (he : starEach [.Name n pn] X.env = (false, eval (.Name n pn) X.env) :: starEach [] X.env := by rfl) (hpl : (backTo pos (starEach [] X.env)).any (·.1) = false := by rfl) : XV X env (.Call (.Name "len" p) [.Name n pn] [] pos) (.int ds.length) := by
  intro F H σ fh st Q q
  refine (pe_callB call_len_seq hg hm PySem.boot_len (pa_cons (pv i hN hv h1 h2) pa_nil he) (he := he) (hpl := hpl)).sem ?_
  have both : ∃ l, σ[i]? = some (some (.ref l)) ∧ MutAt X.K F H l ds := by
    rcases h0 with h0 | h0
    · exact st.own h0
    · exact st.ext h0
  obtain ⟨l, q1, q2, vs, q3, q4⟩ := both
  exact ⟨_, q1, l, vs, rfl, .inl (SqL.of q3), by rw [q4.length]; exact q.val fh (v := .int _) rfl⟩
theorem x_abs {i : Int} (ha : XV X env a (.int i)) (hg : Gl X "abs" := by rfl) (hm : X.mg "abs" = none := by assumption) (he : starEach [a] X.env = (false, eval a X.env) :: starEach [] X.env := by rfl) : XV X env (.Call (.Name "abs" p) [a] [] pos) (.int (i.natAbs : Int)) := by
  refine x_callB call_abs (x := .int i) (ds := []) (fun F H vs Q fh r q => ?_) hg hm (by decide +kernel) (a_cons ha a_nil he) (he := he)
  obtain ⟨v, rfl, r1⟩ := reps1 r
  refine ⟨i, by rw [show v = V.int i from r1], ?_⟩
  have : (if i < 0 then -i else i) = (i.natAbs : Int) := by split <;> omega
  rw [this]
  exact q.val fh (v := .int _) rfl
theorem x_intI {i : Int} (ha : XV X env a (.int i)) (hg : Gl X "int" := by rfl) (hm : X.mg "int" = none := by assumption) (he : starEach [a] X.env = (false, eval a X.env) :: starEach [] X.env := by rfl) : XV X env (.Call (.Name "int" p) [a] [] pos) (.int i) := by
  refine x_callTy call_int1 (x := .int i) (ds := []) (fun F H vs Q fh r q => ?_) hg hm (by decide +kernel) (a_cons ha a_nil he) (he := he)
  obtain ⟨v, rfl, r1⟩ := reps1 r
  exact .inl ⟨i, by rw [show v = V.int i from r1], q.val fh (v := .int _) rfl⟩
theorem x_intB {i : Bool} (ha : XV X env a (.bl i)) (hg : Gl X "int" := by rfl) (hm : X.mg "int" = none := by assumption) (he : starEach [a] X.env = (false, eval a X.env) :: starEach [] X.env := by rfl) : XV X env (.Call (.Name "int" p) [a] [] pos) (.int (if i then 1 else 0)) := by
  refine x_callTy call_int1 (x := .bl i) (ds := []) (fun F H vs Q fh r q => ?_) hg hm (by decide +kernel) (a_cons ha a_nil he) (he := he)
  obtain ⟨v, rfl, r1⟩ := reps1 r
  exact .inr ⟨i, by rw [show v = V.bl i from r1], q.val fh (v := .int _) rfl⟩
theorem x_strI {i : Int} (ha : XV X env a (.int i)) (hl : i.natAbs.log2 < 1920) (hg : Gl X "str" := by rfl) (hm : X.mg "str" = none := by assumption) (he : starEach [a] X.env = (false, eval a X.env) :: starEach [] X.env := by rfl) : XV X env (.Call (.Name "str" p) [a] [] pos) (.str (toString i)) := by
  refine x_callTy call_str_int (x := .int i) (ds := []) (fun F H vs Q fh r q => ?_) hg hm (by decide +kernel) (a_cons ha a_nil he) (he := he)
  obtain ⟨v, rfl, r1⟩ := reps1 r
  exact ⟨i, by rw [show v = V.int i from r1], hl, q.val fh (v := .str _) rfl⟩
theorem x_sum {ns : List Int} (hc : X.calm = true) (ha : XV X env a (.lst (ns.map D.int))) (hg : Gl X "sum" := by rfl) (hm : X.mg "sum" = none := by assumption) (he : starEach [a] X.env = (false, eval a X.env) :: starEach [] X.env := by rfl) : XV X env (.Call (.Name "sum" p) [a] [] pos) (.int ns.sum) := by
  refine x_callB (cr_sum hc) (x := .lst (ns.map D.int)) (ds := []) (fun F H vs Q fh r q => ?_) hg hm (by decide +kernel) (a_cons ha a_nil he) (he := he)
  obtain ⟨v, rfl, l, us, rfl, h1, h2⟩ := reps1 r
  rw [h2.ints] at h1
  exact ⟨l, ns, rfl, Evl.ex_l fh h1, q.val fh (v := .int _) rfl⟩
/-- the greatest, the least -/
def maxL (ns : List Int) : Int := ns.foldr max (ns.headD 0)
def minL (ns : List Int) : Int := ns.foldr min (ns.headD 0)
theorem foldr_max (b : Int) : ∀ ns : List Int, (∀ y ∈ ns, y ≤ ns.foldr max b) ∧ b ≤ ns.foldr max b ∧ (ns.foldr max b = b ∨ ns.foldr max b ∈ ns)
  | [] => ⟨fun y h => (by cases h), Int.le_refl _, .inl rfl⟩
  | n :: ns => by
    obtain ⟨h1, h2, h3⟩ := foldr_max b ns
    show (∀ y ∈ n :: ns, y ≤ max n (ns.foldr max b)) ∧ b ≤ max n (ns.foldr max b) ∧ (max n (ns.foldr max b) = b ∨ max n (ns.foldr max b) ∈ n :: ns)
    refine ⟨fun y h => ?_, by omega, ?_⟩
    · rcases List.mem_cons.mp h with rfl | h
      · omega
      · have := h1 y h; omega
    · by_cases q : n ≤ ns.foldr max b
      · rw [Int.max_eq_right q]
        exact h3.elim .inl fun z => .inr (List.mem_cons_of_mem _ z)
      · rw [Int.max_eq_left (by omega)]
        exact .inr List.mem_cons_self
theorem foldr_min (b : Int) : ∀ ns : List Int, (∀ y ∈ ns, ns.foldr min b ≤ y) ∧ ns.foldr min b ≤ b ∧ (ns.foldr min b = b ∨ ns.foldr min b ∈ ns)
  | [] => ⟨fun y h => (by cases h), Int.le_refl _, .inl rfl⟩
  | n :: ns => by
    obtain ⟨h1, h2, h3⟩ := foldr_min b ns
    show (∀ y ∈ n :: ns, min n (ns.foldr min b) ≤ y) ∧ min n (ns.foldr min b) ≤ b ∧ (min n (ns.foldr min b) = b ∨ min n (ns.foldr min b) ∈ n :: ns)
    refine ⟨fun y h => ?_, by omega, ?_⟩
    · rcases List.mem_cons.mp h with rfl | h
      · omega
      · have := h1 y h; omega
    · by_cases q : ns.foldr min b ≤ n
      · rw [Int.min_eq_right q]
        exact h3.elim .inl fun z => .inr (List.mem_cons_of_mem _ z)
      · rw [Int.min_eq_left (by omega)]
        exact .inr List.mem_cons_self
theorem maxL_mem {ns : List Int} (h : 0 < ns.length) : maxL ns ∈ ns ∧ ∀ y ∈ ns, y ≤ maxL ns := by
  cases ns with
  | nil => cases h
  | cons n ns =>
    obtain ⟨h1, h2, h3⟩ := foldr_max n (n :: ns)
    exact ⟨h3.elim (fun z => by show (n :: ns).foldr max n ∈ _; rw [z]; exact List.mem_cons_self) id, h1⟩
theorem minL_mem {ns : List Int} (h : 0 < ns.length) : minL ns ∈ ns ∧ ∀ y ∈ ns, minL ns ≤ y := by
  cases ns with
  | nil => cases h
  | cons n ns =>
    obtain ⟨h1, h2, h3⟩ := foldr_min n (n :: ns)
    exact ⟨h3.elim (fun z => by show (n :: ns).foldr min n ∈ _; rw [z]; exact List.mem_cons_self) id, h1⟩
theorem x_maxL {ns : List Int} (hc : X.calm = true) (ha : XV X env a (.lst (ns.map D.int))) (hl : 0 < ns.length) (hg : Gl X "max" := by rfl) (hm : X.mg "max" = none := by assumption) (he : starEach [a] X.env = (false, eval a X.env) :: starEach [] X.env := by rfl) : XV X env (.Call (.Name "max" p) [a] [] pos) (.int (maxL ns)) := by
  refine x_callB (cr_max hc) (x := .lst (ns.map D.int)) (ds := []) (fun F H vs Q fh r q => ?_) hg hm (by decide +kernel) (a_cons ha a_nil he) (he := he)
  obtain ⟨v, rfl, l, us, rfl, h1, h2⟩ := reps1 r
  rw [h2.ints] at h1
  refine ⟨l, ns, rfl, Evl.ex_l fh h1, hl, fun m hm hle => ?_⟩
  have e : m = maxL ns := Int.le_antisymm ((maxL_mem hl).2 m hm) (hle _ (maxL_mem hl).1)
  rw [e]
  exact q.val fh (v := .int _) rfl
theorem x_minL {ns : List Int} (hc : X.calm = true) (ha : XV X env a (.lst (ns.map D.int))) (hl : 0 < ns.length) (hg : Gl X "min" := by rfl) (hm : X.mg "min" = none := by assumption) (he : starEach [a] X.env = (false, eval a X.env) :: starEach [] X.env := by rfl) : XV X env (.Call (.Name "min" p) [a] [] pos) (.int (minL ns)) := by
  refine x_callB (cr_min hc) (x := .lst (ns.map D.int)) (ds := []) (fun F H vs Q fh r q => ?_) hg hm (by decide +kernel) (a_cons ha a_nil he) (he := he)
  obtain ⟨v, rfl, l, us, rfl, h1, h2⟩ := reps1 r
  rw [h2.ints] at h1
  refine ⟨l, ns, rfl, Evl.ex_l fh h1, hl, fun m hm hle => ?_⟩
  have e : m = minL ns := Int.le_antisymm (hle _ (minL_mem hl).1) ((minL_mem hl).2 m hm)
  rw [e]
  exact q.val fh (v := .int _) rfl
theorem x_max2 {i j : Int} (hc : X.calm = true) (ha : XV X env a (.int i)) (hb : XV X env b (.int j)) (hg : Gl X "max" := by rfl) (hm : X.mg "max" = none := by assumption) (he : starEach [a, b] X.env = (false, eval a X.env) :: starEach [b] X.env := by rfl) (he2 : starEach [b] X.env = (false, eval b X.env) :: starEach [] X.env := by rfl) (hpl : (backTo pos (starEach [b] X.env)).any (·.1) = false := by rfl) : XV X env (.Call (.Name "max" p) [a, b] [] pos) (.int (max i j)) := by
  refine x_callB (call_max2 hc) (x := .int i) (ds := [.int j]) (fun F H vs Q fh r q => ?_) hg hm (by decide +kernel) (a_cons ha (a_cons hb a_nil he2) he) (he := he) (hpl := hpl)
  obtain ⟨v, u, rfl, r1, r2⟩ := reps2 r
  refine ⟨i, j, by rw [show v = V.int i from r1, show u = V.int j from r2], ?_⟩
  have : (if j > i then j else i) = max i j := by split <;> omega
  rw [this]
  exact q.val fh (v := .int _) rfl
theorem x_min2 {i j : Int} (hc : X.calm = true) (ha : XV X env a (.int i)) (hb : XV X env b (.int j)) (hg : Gl X "min" := by rfl) (hm : X.mg "min" = none := by assumption) (he : starEach [a, b] X.env = (false, eval a X.env) :: starEach [b] X.env := by rfl) (he2 : starEach [b] X.env = (false, eval b X.env) :: starEach [] X.env := by rfl) (hpl : (backTo pos (starEach [b] X.env)).any (·.1) = false := by rfl) : XV X env (.Call (.Name "min" p) [a, b] [] pos) (.int (min i j)) := by
  refine x_callB (call_min2 hc) (x := .int i) (ds := [.int j]) (fun F H vs Q fh r q => ?_) hg hm (by decide +kernel) (a_cons ha (a_cons hb a_nil he2) he) (he := he) (hpl := hpl)
  obtain ⟨v, u, rfl, r1, r2⟩ := reps2 r
  refine ⟨i, j, by rw [show v = V.int i from r1, show u = V.int j from r2], ?_⟩
  have : (if j < i then j else i) = min i j := by split <;> omega
  rw [this]
  exact q.val fh (v := .int _) rfl
theorem x_all {bs : List Bool} (hc : X.calm = true) (ha : XV X env a (.lst (bs.map D.bl))) (hg : Gl X "all" := by rfl) (hm : X.mg "all" = none := by assumption) (he : starEach [a] X.env = (false, eval a X.env) :: starEach [] X.env := by rfl) : XV X env (.Call (.Name "all" p) [a] [] pos) (.bl (bs.all id)) := by
  refine x_callB (cr_all hc) (x := .lst (bs.map D.bl)) (ds := []) (fun F H vs Q fh r q => ?_) hg hm (by decide +kernel) (a_cons ha a_nil he) (he := he)
  obtain ⟨v, rfl, l, us, rfl, h1, h2⟩ := reps1 r
  rw [h2.bls] at h1
  exact ⟨l, bs, rfl, Evl.ex_l fh h1, q.val fh (v := .bl _) rfl⟩
theorem x_any {bs : List Bool} (hc : X.calm = true) (ha : XV X env a (.lst (bs.map D.bl))) (hg : Gl X "any" := by rfl) (hm : X.mg "any" = none := by assumption) (he : starEach [a] X.env = (false, eval a X.env) :: starEach [] X.env := by rfl) : XV X env (.Call (.Name "any" p) [a] [] pos) (.bl (bs.any id)) := by
  refine x_callB (cr_any hc) (x := .lst (bs.map D.bl)) (ds := []) (fun F H vs Q fh r q => ?_) hg hm (by decide +kernel) (a_cons ha a_nil he) (he := he)
  obtain ⟨v, rfl, l, us, rfl, h1, h2⟩ := reps1 r
  rw [h2.bls] at h1
  exact ⟨l, bs, rfl, Evl.ex_l fh h1, q.val fh (v := .bl _) rfl⟩
/-- list(..), tuple(..) -/
theorem x_list (ha : XV X env a x) (hl : seqD x = some xs) (hg : Gl X "list" := by rfl) (hm : X.mg "list" = none := by assumption) (he : starEach [a] X.env = (false, eval a X.env) :: starEach [] X.env := by rfl) : XV X env (.Call (.Name "list" p) [a] [] pos) (.lst xs) := by
  refine x_callTy call_list_of (x := x) (ds := []) (fun F H vs Q fh r q => ?_) hg hm (by decide +kernel) (a_cons ha a_nil he) (he := he)
  obtain ⟨v, rfl, r1⟩ := reps1 r
  obtain ⟨l, us, rfl, h1, h2⟩ := seqD_at hl r1
  exact ⟨l, us, rfl, h1.elim (fun z => .inr (Evl.ex_t fh z)) (fun z => .inl (Evl.ex_l fh z)), fun l' hl' => q.lst fh h2 hl'⟩
theorem x_tuple (ha : XV X env a (.lst xs)) (hg : Gl X "tuple" := by rfl) (hm : X.mg "tuple" = none := by assumption) (he : starEach [a] X.env = (false, eval a X.env) :: starEach [] X.env := by rfl) : XV X env (.Call (.Name "tuple" p) [a] [] pos) (.tup xs) := by
  refine x_callTy call_tuple_of (x := .lst xs) (ds := []) (fun F H vs Q fh r q => ?_) hg hm (by decide +kernel) (a_cons ha a_nil he) (he := he)
  obtain ⟨v, rfl, l, us, rfl, h1, h2⟩ := reps1 r
  exact ⟨l, us, rfl, .inl ⟨Evl.ex_l fh h1, fun l' hl' => q.tup fh h2 hl'⟩⟩
theorem x_gcd {i j : Int} (ha : XV X env a (.int i)) (hb : XV X env b (.int j)) (hm : X.mg n = some (.builtin "math.gcd") := by assumption) (hg : Gl X n := by rfl) (hdb : (n == ("__debug__" : Str)) = false := by decide) (he : starEach [a, b] X.env = (false, eval a X.env) :: starEach [b] X.env := by rfl) (he2 : starEach [b] X.env = (false, eval b X.env) :: starEach [] X.env := by rfl) (hpl : (backTo pos (starEach [b] X.env)).any (·.1) = false := by rfl) : XV X env (.Call (.Name n p) [a, b] [] pos) (.int ((Nat.gcd i.natAbs j.natAbs : Nat) : Int)) := by
  refine x_callF cr_gcd (x := .int i) (ds := [.int j]) (fun F H vs Q fh r q => ?_) hg hm (a_cons ha (a_cons hb a_nil he2) he) hdb he hpl
  obtain ⟨v, u, rfl, r1, r2⟩ := reps2 r
  exact ⟨i, j, by rw [show v = V.int i from r1, show u = V.int j from r2], q.val fh (v := .int _) rfl⟩
/-- math.lcm -/
def rLcm : List V → Hp → VK → Prop := fun vs H Q => ∃ a b : Int, vs = [.int a, .int b] ∧ a.natAbs < 2 ^ 6000 ∧ b.natAbs < 2 ^ 6000 ∧ Q (.int ((Nat.lcm a.natAbs b.natAbs : Nat) : Int)) H
theorem log2_30 {m k : Nat} (h : m < 2 ^ k) (hk : 0 < k) (h2 : k ≤ 6000) : ¬ (m.log2 / 30 + 1 > 450) := by
  have := PySem.Flt.log2_lt_of hk h
  omega
theorem cr_lcm : CallR X (.builtin "math.lcm") rLcm := by
  intro pins s σ H vs us Q I r h
  obtain ⟨a, b, rfl, ha, hb, q⟩ := h
  obtain ⟨t, u, rfl⟩ := Vals.int2 r
  have p1 : (1 : Nat) < 2 ^ 6000 := Nat.one_lt_two_pow (by decide)
  have hm1 : max 1 a.natAbs < 2 ^ 6000 := by omega
  have hm2 : max a.natAbs b.natAbs < 2 ^ 6000 := by omega
  have e1 : (Nat.lcm 1 a.natAbs) = a.natAbs := by simp [Nat.lcm]
  have le : a.natAbs.lcm b.natAbs ≤ a.natAbs * b.natAbs := by
    unfold Nat.lcm
    exact Nat.div_le_self _ _
  have lt : a.natAbs.lcm b.natAbs < 2 ^ 12000 := by
    refine Nat.lt_of_le_of_lt le ?_
    rw [show (12000 : Nat) = 6000 + 6000 by rfl, Nat.pow_add]
    exact Nat.mul_lt_mul'' ha hb
  refine call_function_meets PySem.W.MGF.kind_lcm PySem.W.MGF.plain_lcm PySem.W.MGF.entry_lcm (PySem.W.MGF.args_lcm _ _) (PySem.W.mg_run_lcm a t b u (log2_30 hm1 (by decide) (by decide)) (log2_30 hm2 (by decide) (by decide)) (by
    rw [e1]
    have := PySem.Flt.log2_lt_of (k := 12000) (by decide) lt
    have e : bitsLine = 134217728 := by decide
    rw [Int.natAbs_natCast, e]
    omega)).meets ?_
  rw [e1]
  exact ⟨.int _, H, I.tok _, ⟨_, rfl⟩, q⟩
theorem x_lcm {i j : Int} (ha : XV X env a (.int i)) (hb : XV X env b (.int j)) (hi : i.natAbs < 2 ^ 6000) (hj : j.natAbs < 2 ^ 6000) (hm : X.mg n = some (.builtin "math.lcm") := by assumption) (hg : Gl X n := by rfl) (hdb : (n == ("__debug__" : Str)) = false := by decide) (he : starEach [a, b] X.env = (false, eval a X.env) :: starEach [b] X.env := by rfl) (he2 : starEach [b] X.env = (false, eval b X.env) :: starEach [] X.env := by rfl) (hpl : (backTo pos (starEach [b] X.env)).any (·.1) = false := by rfl) : XV X env (.Call (.Name n p) [a, b] [] pos) (.int ((Nat.lcm i.natAbs j.natAbs : Nat) : Int)) := by
  refine x_callF cr_lcm (x := .int i) (ds := [.int j]) (fun F H vs Q fh r q => ?_) hg hm (a_cons ha (a_cons hb a_nil he2) he) hdb he hpl
  obtain ⟨v, u, rfl, r1, r2⟩ := reps2 r
  exact ⟨i, j, by rw [show v = V.int i from r1, show u = V.int j from r2], hi, hj, q.val fh (v := .int _) rfl⟩
end
end Y

namespace Y
open PySem PySem.Spec PyProof.Rows L2
open Evl (Ex)
section
variable {X : Cx} {M : Wd} {env : En} {a b c e : Expr} {es : List Expr} {d x y z : D} {ds xs : List D} {pos p p2 pn apos : Pos} {n : Str} {rest : List Stmt} {R : Rs} {P : D → En → Prop}

/-! ### a list that changes: read by a place, stored at a place, popped -/
theorem mut_at {K : PySem.W.Frag} {F H : Hp} {σ : L2.St} (st : Sts K F H env σ) {i : Nat} (h0 : env[i]? = some (.own ds) ∨ env[i]? = some (.ext ds)) : ∃ l, σ[i]? = some (some (.ref l)) ∧ MutAt K F H l ds := by
  rcases h0 with h0 | h0
  · exact st.own h0
  · exact st.ext h0
theorem x_ixM (i : Nat) {j : Int} (h0 : env[i]? = some (.own ds) ∨ env[i]? = some (.ext ds)) (hb : XV X env b (.int j)) (hd : atI ds j = some d) (hN : X.N[i]? = some n := by rfl) (hv : Vis X.env.scope n := by first | exact Or.inl rfl | exact Or.inr (Or.inl rfl) | exact Or.inr (Or.inr rfl))
    (h1 : (n == ("__debug__" : Str)) = false := by decide) (h2 : (n == ("__classdict__" : Str)) = false := by decide) (hs : PlainIx b := by intro _ _; rfl) : XV X env (.Subscript (.Name n pn) b pos) d := by
  intro F H σ fh st Q q
  refine (pe_ix ix_list (pv i hN hv h1 h2) pe_s hs).sem ?_
  obtain ⟨l, q1, q2⟩ := mut_at st h0
  refine ⟨_, q1, ?_⟩
  refine hb F H σ fh st _ fun u F2 H2 p2 r2 => ?_
  obtain ⟨_, vs, q3, q4⟩ := q2.kp p2.kp
  obtain ⟨w, h3, h4⟩ := atI_reps q4 hd
  exact ⟨l, vs, j, w, rfl, r2, SqL.of q3, h3, q w F2 H2 p2 h4⟩
/-- x[j] = e -/
theorem s_setM (i : Nat) {j : Nat} {s s' : Slot} (h0 : env[i]? = some s) (hs : (s = .own ds ∧ s' = .own (ds.set j d)) ∨ (s = .ext ds ∧ s' = .ext (ds.set j d))) (he : XV X env e d) (hb : XV X env b (.int j)) (hj : j < ds.length) (h : XS X M (env.set i s') rest R) (hN : X.N[i]? = some n := by rfl) (hv : Vis X.env.scope n := by first | exact Or.inl rfl | exact Or.inr (Or.inl rfl) | exact Or.inr (Or.inr rfl))
    (h1 : (n == ("__debug__" : Str)) = false := by decide) (h2 : (n == ("__classdict__" : Str)) = false := by decide)
    (ha : ∀ v, assign (.Subscript (.Name n pn) b pos) X.env v = (do
      let ov ← holding [v] (eval (.Name n pn) X.env)
      let iv ← holding [v, ov] (eval b X.env)
      standAt pos
      holding [v, ov, iv] (setItem ov iv v)
      release [v, ov, iv] []) := by intro _; rfl)
    (hss : swapsWithSole [.Subscript (.Name n pn) b pos] e p2.line X.env = pure false := by rfl) (hw : swappedStores [.Subscript (.Name n pn) b pos] e X.env = pure none := by rfl)
    (h3 : (assignEach [.Subscript (.Name n pn) b pos] X.env).map (·.2) = [assign (.Subscript (.Name n pn) b pos) X.env] := by rfl) : XS X M env (.Assign [.Subscript (.Name n pn) b pos] e p2 :: rest) R := by
  intro F0 F H σ g st o D s
  refine (pss_cons (ps_asg pe_s (pg_sub (pv i hN hv h1 h2) pe_s set_list ha) hss hw h3) pss_s).sem ?_
  refine he F H σ g.fh st _ fun v F1 H1 p1 r1 => ?_
  have h0' : env[i]? = some (.own ds) ∨ env[i]? = some (.ext ds) := by
    rcases hs with ⟨rfl, _⟩ | ⟨rfl, _⟩
    · exact .inl h0
    · exact .inr h0
  obtain ⟨l, q1, q2⟩ := mut_at st h0'
  refine ⟨_, q1, ?_⟩
  refine hb F1 H1 σ p1.fh (st.pu p1) _ fun u F2 H2 p2 r2 => ?_
  obtain ⟨q3, vs, q4, q5⟩ := (q2.kp p1.kp).kp p2.kp
  have st2 := (st.pu p1).pu p2
  have g2 := (g.pu p1).pu p2
  refine ⟨l, vs, j, j, rfl, r2, q4, Evl.ixN_nat (by rw [q5.length]; exact hj), ?_⟩
  have rs := Reps.set j q5 (r1.mono p2.ff)
  rcases hs with ⟨rfl, rfl⟩ | ⟨rfl, rfl⟩
  · exact h F0 F2 _ σ (g2.upd q3 (.inr ((o i l).1 _ h0 q1))) (st2.updM h0 (fun z => by cases z) q1 (.inl rfl) rs q3 p2.fh) (o.updO h0) D s
  · exact h F0 F2 _ σ (g2.upd q3 (.inl ((o i l).2 _ h0 q1))) (st2.updM h0 (fun z => by cases z) q1 (.inr rfl) rs q3 p2.fh) (o.updX h0) D s
/-- x.pop(e), x an own list, e draws -/
theorem e_popAt (i : Nat) {ds0 : List D} (e0 : env[i]? = some (.own ds0)) (he : XE X M env e fun d env' => ∃ ds k y, env'[i]? = some (.own ds) ∧ d = .int (k : Nat) ∧ k < 2 ^ 63 ∧ ds[k]? = some y ∧ P y (env'.set i (.own (ds.eraseIdx k)))) (hN : X.N[i]? = some n := by rfl) (hv : Vis X.env.scope n := by first | exact Or.inl rfl | exact Or.inr (Or.inl rfl) | exact Or.inr (Or.inr rfl))
    (h1 : (n == ("__debug__" : Str)) = false := by decide) (h2 : (n == ("__classdict__" : Str)) = false := by decide)
    (hbase : attributeBase (.Name n p) "pop" X.env (eval (.Name n p) X.env) = eval (.Name n p) X.env := by rfl)
    (hfew : ((backTo p2 (starEach [e] X.env)).all (fun x => !x.1) && (backToKw p2 (keywordEach [] X.env)).all (fun x => x.1.isSome) && decide ([e].length + ([] : List Keyword).length + (if ([] : List Keyword).isEmpty then 0 else 1) < 30)) = true := by rfl)
    (hline : (apos.endLine == p2.line) = true := by rfl) (hs : starEach [e] X.env = (false, eval e X.env) :: starEach [] X.env := by rfl) (hplain : (backTo p2 (starEach [] X.env)).any (·.1) = false := by rfl) : XE X M env (.Call (.Attribute (.Name n p) "pop" apos) [e] [] p2) P := by
  intro F0 F H σ g st o Q q
  refine (pe_bm PySem.F.plainAttrs_list PySem.F.slot_list_pop PySem.F.type_list_pop mt_popAt (pv i hN hv h1 h2) (pa_cons pe_s pa_nil hs) hbase hfew hline hs hplain).sem ?_
  obtain ⟨l, q1, q2, vs, q3, q4⟩ := st.own e0
  refine ⟨_, q1, .inl ⟨rfl, vs, SqL.of q3⟩, ?_⟩
  refine he F0 F H σ g st o _ fun v F1 H1 d env1 ⟨ds, k, y, e1, ed, hk, hy, hp⟩ g1 f1 st1 o1 r1 => ?_
  subst ed
  obtain ⟨l', q1', q2', vs', q3', q4'⟩ := st1.own e1
  rw [q1] at q1'; cases q1'
  obtain ⟨w, h3, h4⟩ := q4'.get hy
  have hlt : k < vs'.length := (List.getElem?_eq_some_iff.mp h3).1
  have hl := (o1 i l).1 ds e1 q1
  refine ⟨l, vs', (k : Int), k, w, rfl, by rw [show v = V.int (k : Nat) from r1], q3', by omega, by omega, (L2.ixN_seq (Evl.ixN_nat hlt)).1, h3, ?_⟩
  · exact q w F1 _ y _ hp (g1.upd q2' (.inr hl)) f1 (st1.updM e1 (fun z => by cases z) q1 (.inl rfl) (Reps.eraseIdx k q4') q2' g1.fh) (o1.updO e1) h4

/-! ### slices -/
def XO (X : Cx) (env : En) (e : Option Expr) (o : Option Int) : Prop := match e, o with
  | none, none => True
  | some e, some i => XV X env e (.int i)
  | _, _ => False
theorem o_none : XO X env none none := trivial
theorem o_some {i : Int} (h : XV X env e (.int i)) : XO X env (some e) (some i) := h
def tSemO (X : Cx) (e : Option Expr) : TO := fun σ H Q => ∀ (pins : List (Addr × Obj)) (s : Shared), Inv X pins σ H s → wpAny (model X.prog X.w) X.A (evalPart e X.env) (fun u s' => ∃ o H', Inv X pins σ H' s' ∧ IsPart u o ∧ Q o H') X.xe s
theorem po_s {e : Option Expr} : PO X e (tSemO X e) := ⟨fun pins s σ H Q I h => h pins s I⟩
theorem o_run {e : Option Expr} {o : Option Int} (h : XO X env e o) {F H : Hp} {σ : L2.St} (fh : Ex F H) (st : Sts X.K F H env σ) {Q : Option Int → Hp → Prop} (q : ∀ F' H', Pu F H F' H' → Q o H') : tSemO X e σ H Q := by
  cases e with
  | none =>
    cases o with
    | none => exact fun pins s I => po_none.run pins s σ H Q I (q F H (Pu.refl fh))
    | some i => exact h.elim
  | some e =>
    cases o with
    | none => exact h.elim
    | some i =>
      intro pins s I
      refine (po_some pe_s).run pins s σ H Q I ?_
      exact (show XV X env e (.int i) from h) F H σ fh st _ fun v F1 H1 p1 r1 => ⟨i, r1, q F1 H1 p1⟩
def cutD (xs : List D) (lo hi : Option Int) : List D := (xs.drop (HT.sIx xs.length 0 lo)).take (HT.sIx xs.length xs.length hi - HT.sIx xs.length 0 lo)
theorem reps_cut {K : PySem.W.Frag} {F : Hp} {vs : List V} (r : Reps K F vs ds) (lo hi : Option Int) : Reps K F (cutV vs lo hi) (cutD ds lo hi) := by
  unfold cutV cutD
  rw [r.length]
  exact Reps.take _ (Reps.drop _ r)
theorem x_sliceL {lo hi : Option Expr} {l h : Option Int} (ha : XV X env a (.lst ds)) (hl : XO X env lo l) (hh : XO X env hi h) : XV X env (.Subscript a (.Slice lo hi none p2) pos) (.lst (cutD ds l h)) := by
  intro F H σ fh st Q q
  refine (pe_slice sl_list pe_s po_s po_s).sem ?_
  refine ha F H σ fh st _ fun v F1 H1 p1 ⟨ad, vs, e1, h1, h2⟩ => ?_
  refine o_run hl p1.fh (st.pu p1) fun F2 H2 p2 => ?_
  refine o_run hh p2.fh ((st.pu p1).pu p2) fun F3 H3 p3 => ?_
  have pp := (p1.trans p2).trans p3
  exact ⟨ad, vs, e1, Evl.ex_l ((p2.trans p3).ff.trans p3.fh) h1, fun t ht => (q.pu pp).lst p3.fh ((reps_cut h2 l h).mono (p2.trans p3).ff) ht⟩

theorem x_sliceS {lo hi : Option Expr} {l h : Option Int} {z : Str} (ha : XV X env a (.str z)) (hl : XO X env lo l) (hh : XO X env hi h) (hz : z.length ≤ sizeLine) : XV X env (.Subscript a (.Slice lo hi none p2) pos) (.str (cutS z l h)) := by
  intro F H σ fh st Q q
  refine (pe_slice sl_str pe_s po_s po_s).sem ?_
  refine ha F H σ fh st _ fun v F1 H1 p1 r1 => ?_
  refine o_run hl p1.fh (st.pu p1) fun F2 H2 p2 => ?_
  refine o_run hh p2.fh ((st.pu p1).pu p2) fun F3 H3 p3 => ?_
  exact ⟨z, r1, hz, (q.pu ((p1.trans p2).trans p3)).val p3.fh (v := .str _) rfl⟩

/-! ### methods of texts -/
theorem x_m0 {id : String} {r : V → List V → Hp → VK → Prop} (slot : PySem.Slot "str" n id) (ty : typeOf (.builtin id) = pure (.type "method_descriptor")) (rule : MtR X id r) {z : Str} (ha : XV X env a (.str z)) (hr : MtD X.K r (.str z) [] d)
    (hbase : attributeBase a n X.env (eval a X.env) = eval a X.env := by rfl) (hline : (apos.endLine == pos.line) = true := by rfl) : XV X env (.Call (.Attribute a n apos) [] [] pos) d := by
  intro F H σ fh st Q q
  refine (pe_m0 slot ty rule pe_s hbase hline).sem ?_
  refine ha F H σ fh st _ fun v F1 H1 p1 r1 => ⟨⟨z, r1⟩, ?_⟩
  exact hr F1 H1 v [] Q p1.fh r1 rfl (q.pu p1)
theorem x_m1 {id : String} {r : V → List V → Hp → VK → Prop} (slot : PySem.Slot "str" n id) (ty : typeOf (.builtin id) = pure (.type "method_descriptor")) (rule : MtR X id r) {z : Str} (ha : XV X env a (.str z)) (hb : XV X env b y) (hr : MtD X.K r (.str z) [y] d)
    (hs : starEach [b] X.env = [(false, eval b X.env)] := by rfl) (hbase : attributeBase a n X.env (eval a X.env) = eval a X.env := by rfl) (hline : (apos.endLine == pos.line) = true := by rfl) : XV X env (.Call (.Attribute a n apos) [b] [] pos) d := by
  intro F H σ fh st Q q
  refine (pe_m1 slot ty rule pe_s pe_s hs hbase hline).sem ?_
  refine ha F H σ fh st _ fun v F1 H1 p1 r1 => ⟨⟨z, r1⟩, ?_⟩
  refine hb F1 H1 σ p1.fh (st.pu p1) _ fun u F2 H2 p2 r2 => ?_
  exact hr F2 H2 v [u] Q p2.fh r1 ⟨u, [], rfl, r2, rfl⟩ (q.pu (p1.trans p2))
theorem reps_str {K : PySem.W.Frag} {F : Hp} {vs : List V} {w : Str} (r : Reps K F vs [.str w]) : vs = [.str w] := by
  obtain ⟨v, rfl, h⟩ := reps1 r
  rw [show v = V.str w from h]
theorem x_startswith {z w : Str} (ha : XV X env a (.str z)) (hb : XV X env b (.str w)) (hs : starEach [b] X.env = [(false, eval b X.env)] := by rfl) (hbase : attributeBase a "startswith" X.env (eval a X.env) = eval a X.env := by rfl) (hline : (apos.endLine == pos.line) = true := by rfl) : XV X env (.Call (.Attribute a "startswith" apos) [b] [] pos) (.bl (Txt.startswith z w)) :=
  x_m1 F.slot_str_startswith F.type_str_startswith mt_startswith ha hb (fun F H v vs Q fh r1 r2 q => ⟨z, w, r1, reps_str r2, q.val fh (v := .bl _) rfl⟩) hs hbase hline
theorem x_isdigit {z : Str} (ha : XV X env a (.str z)) (hbase : attributeBase a "isdigit" X.env (eval a X.env) = eval a X.env := by rfl) (hline : (apos.endLine == pos.line) = true := by rfl) : XV X env (.Call (.Attribute a "isdigit" apos) [] [] pos) (.bl (Txt.isdigit z)) :=
  x_m0 F.slot_str_isdigit F.type_str_isdigit mt_isdigit ha (fun F H v vs Q fh r1 r2 q => ⟨z, r1, r2, trivial, q.val fh (v := .bl _) rfl⟩) hbase hline
theorem x_partition {z w : Str} (ha : XV X env a (.str z)) (hb : XV X env b (.str w)) (hw : (w.length == 0) = false) (hz : z.length ≤ sizeLine) (hs : starEach [b] X.env = [(false, eval b X.env)] := by rfl) (hbase : attributeBase a "partition" X.env (eval a X.env) = eval a X.env := by rfl) (hline : (apos.endLine == pos.line) = true := by rfl) :
    XV X env (.Call (.Attribute a "partition" apos) [b] [] pos) (.tup [.str (Txt.partition z w).1, .str (Txt.partition z w).2.1, .str (Txt.partition z w).2.2]) :=
  x_m1 F.slot_str_partition F.type_str_partition mt_partition ha hb (fun F H v vs Q fh r1 r2 q => ⟨z, w, r1, reps_str r2, hw, hz, fun t ht => q.tup fh ⟨_, _, rfl, rfl, _, _, rfl, rfl, _, _, rfl, rfl, rfl⟩ ht⟩) hs hbase hline
theorem reps_strs {K : PySem.W.Frag} {F : Hp} : ∀ ss : List Str, Reps K F (ss.map V.str) (ss.map D.str)
  | [] => rfl
  | s :: ss => ⟨.str s, ss.map V.str, rfl, rfl, reps_strs ss⟩
theorem x_split {z w : Str} (ha : XV X env a (.str z)) (hb : XV X env b (.str w)) (hw : (w.length == 0) = false) (hz : z.length + 2 ≤ sizeLine) (hs : starEach [b] X.env = [(false, eval b X.env)] := by rfl) (hbase : attributeBase a "split" X.env (eval a X.env) = eval a X.env := by rfl) (hline : (apos.endLine == pos.line) = true := by rfl) :
    XV X env (.Call (.Attribute a "split" apos) [b] [] pos) (.lst ((Txt.split z w).map D.str)) :=
  x_m1 F.slot_str_split F.type_str_split mt_split ha hb (fun F H v vs Q fh r1 r2 q => ⟨z, w, r1, reps_str r2, hw, hz, fun t ht => q.lst fh (reps_strs _) ht⟩) hs hbase hline
theorem x_stripC {z w : Str} (ha : XV X env a (.str z)) (hb : XV X env b (.str w)) (hz : z.length ≤ sizeLine) (hs : starEach [b] X.env = [(false, eval b X.env)] := by rfl) (hbase : attributeBase a "strip" X.env (eval a X.env) = eval a X.env := by rfl) (hline : (apos.endLine == pos.line) = true := by rfl) :
    XV X env (.Call (.Attribute a "strip" apos) [b] [] pos) (.str (Txt.stripChars z w)) :=
  x_m1 F.slot_str_strip F.type_str_strip mt_stripChars ha hb (fun F H v vs Q fh r1 r2 q => ⟨z, w, r1, reps_str r2, hz, q.val fh (v := .str _) rfl⟩) hs hbase hline
theorem x_intS {z : Str} {i : Int} (ha : XV X env a (.str z)) (hi : PySem.intText? z = some i) (hl : z.length ≤ 640) (hg : Gl X "int" := by rfl) (hm : X.mg "int" = none := by assumption) (he : starEach [a] X.env = (false, eval a X.env) :: starEach [] X.env := by rfl) : XV X env (.Call (.Name "int" p) [a] [] pos) (.int i) := by
  refine x_callTy call_int_str (x := .str z) (ds := []) (fun F H vs Q fh r q => ?_) hg hm (by decide +kernel) (a_cons ha a_nil he) (he := he)
  exact ⟨z, i, reps_str r, hi, hl, q.val fh (v := .int _) rfl⟩
/-- text + text -/
theorem x_addS {z w : Str} (ha : XV X env a (.str z)) (hb : XV X env b (.str w)) (hl : z.length + w.length ≤ sizeLine) : XV X env (.BinOp a .Add b pos) (.str (z ++ w)) :=
  x_bin op_add_str (x := .str z) (y := .str w) (fun F H v u Q fh r1 r2 q => ⟨z, w, r1, r2, hl, q.val fh (v := .str _) rfl⟩) ha hb

/-! ### isinstance, index, == of data -/
def tyD : D → Option String
  | .non => some "NoneType"
  | .bl _ => some "bool"
  | .int _ => some "int"
  | .str _ => some "str"
  | .lst _ => some "list"
  | .tup _ => some "tuple"
  | _ => none
theorem tyX_of {K : PySem.W.Frag} {F H : Hp} {v : V} {T : String} (fh : Ex F H) (r : Rep K F v d) (h : tyD d = some T) : TyX K H v (.type T) := by
  cases d with
  | non => cases h; rw [show v = V.non from r]; exact .base .non
  | bl i => cases h; rw [show v = V.bl i from r]; exact .base (.bl i)
  | int i => cases h; rw [show v = V.int i from r]; exact .base (.int i)
  | str i => cases h; rw [show v = V.str i from r]; exact .base (.str i)
  | lst xs =>
    cases h
    obtain ⟨l, vs, rfl, h1, h2⟩ := r
    rcases h1 with (h1 | ⟨o, h1⟩) | ⟨o, its, m, hk, hc, _⟩
    · exact .base (.lst (fh _ _ h1))
    · exact .base (.frz (fh _ _ h1))
    · exact .kList hk hc
  | tup xs =>
    cases h
    obtain ⟨l, vs, rfl, h1, h2⟩ := r
    rcases h1 with (h1 | ⟨o, h1⟩) | ⟨o, its, m, hk, hc, _⟩
    · exact .base (.tup (fh _ _ h1))
    · exact .fTuple (fh _ _ h1)
    · exact .kTuple hk hc
  | _ => cases h
theorem x_isi {T T' : String} {k : Bool} (ha : XV X env a x) (hx : tyD x = some T) (hb : XV X env b (.ty T')) (hk : kitB T T' = some k) (hg : Gl X "isinstance" := by rfl) (hm : X.mg "isinstance" = none := by assumption) (he : starEach [a, b] X.env = (false, eval a X.env) :: starEach [b] X.env := by rfl) (he2 : starEach [b] X.env = (false, eval b X.env) :: starEach [] X.env := by rfl) (hpl : (backTo pos (starEach [b] X.env)).any (·.1) = false := by rfl) : XV X env (.Call (.Name "isinstance" p) [a, b] [] pos) (.bl k) := by
  refine x_callB call_isi (x := x) (ds := [.ty T']) (fun F H vs Q fh r q => ?_) hg hm (by decide +kernel) (a_cons ha (a_cons hb a_nil he2) he) (he := he) (hpl := hpl)
  obtain ⟨v, u, rfl, r1, r2⟩ := reps2 r
  exact ⟨v, u, .type T, .type T', k, rfl, by rw [show u = V.ty T' from r2]; exact .ty T', tyX_of fh r1 hx, kit_ty hk, q.val fh (v := .bl _) rfl⟩
/-- isinstance(x, (T1, T2)) -/
theorem x_isi2 {T T1 T2 : String} {k1 k2 : Bool} {k : Nat} {e1 e2 : Expr} {pt : Pos} (ha : XV X env a x) (hx : tyD x = some T) (h1 : XV X env e1 (.ty T1)) (h2 : XV X env e2 (.ty T2)) (hk1 : kitB T T1 = some k1) (hk2 : kitB T T2 = some k2) (hg : Gl X "isinstance" := by rfl) (hm : X.mg "isinstance" = none := by assumption)
    (he : starEach [a, .Tuple [e1, e2] k pt] X.env = (false, eval a X.env) :: starEach [.Tuple [e1, e2] k pt] X.env := by rfl) (he2 : starEach [.Tuple [e1, e2] k pt] X.env = (false, eval (.Tuple [e1, e2] k pt) X.env) :: starEach [] X.env := by rfl) (hpl : (backTo pos (starEach [.Tuple [e1, e2] k pt] X.env)).any (·.1) = false := by rfl)
    (hs1 : starEach [e1, e2] X.env = (false, eval e1 X.env) :: starEach [e2] X.env := by rfl) (hs2 : starEach [e2] X.env = (false, eval e2 X.env) :: starEach [] X.env := by rfl) : XV X env (.Call (.Name "isinstance" p) [a, .Tuple [e1, e2] k pt] [] pos) (.bl (k1 || k2)) := by
  intro F H σ fh st Q q
  refine (pe_callB call_isiT hg hm (by decide +kernel) (pa_cons pe_s (pa_cons (pe_tup (pa_cons pe_s (pa_cons pe_s pa_nil hs2) hs1)) pa_nil he2) he) (he := he) (hpl := hpl)).sem ?_
  refine ha F H σ fh st _ fun v F1 H1 p1 r1 => ?_
  refine h1 F1 H1 σ p1.fh (st.pu p1) _ fun u F2 H2 p2 r2 => ?_
  refine h2 F2 H2 σ p2.fh ((st.pu p1).pu p2) _ fun w F3 H3 p3 r3 => ⟨by show 2 ≤ sizeLine; decide, fun t ht => ?_⟩
  have pp := (p1.trans p2).trans p3
  have pn := Pu.new p3.fh ht (o := .tup [u, w])
  refine ⟨v, t, [u, w], .type T, [.type T1, .type T2], k1 || k2, rfl, upd_same, ?_, tyX_of pn.fh (r1.mono ((p2.trans p3).trans pn).ff) hx, ?_, q (.bl _) _ _ (pp.trans pn) rfl⟩
  · rw [show u = V.ty T1 from r2, show w = V.ty T2 from r3]
    exact .cons (.ty _) (.cons (.ty _) .nil)
  · refine kitAny_cons (kit_ty hk1) (fun hf => ?_) (fun ht => by rw [ht]; rfl)
    refine kitAny_cons (kit_ty hk2) (fun hf2 => by rw [hf, hf2]; exact kitAny_nil) (fun ht => by rw [hf, ht]; rfl)
/-- xs.index(y), ints -/
theorem eqV_int {i j : Int} : eqV (.int i) (.int j) = decide (i = j) := by
  unfold eqV
  simp [Bool.beq_eq_decide_eq]
end
end Y

namespace Y
open PySem PySem.Spec PyProof.Rows L2 SrtO
open Evl (Ex)

/-! ### tuples of ints, sorted -/
theorem lex_asym : ∀ x y : List Int, HT.lexLt x y = true → HT.lexLt y x = false
  | [], [], h => by cases h
  | [], _ :: _, _ => rfl
  | _ :: _, [], h => by cases h
  | a :: x, b :: y, h => by
    rw [HT.lexLt_cons] at h ⊢
    by_cases e : a = b
    · subst e
      rw [if_pos rfl] at h ⊢
      exact lex_asym x y h
    · rw [if_neg e] at h
      rw [if_neg (fun q => e q.symm)]
      have := of_decide_eq_true h
      exact decide_eq_false (by omega)
theorem lex_tr : ∀ x y z : List Int, HT.lexLt y x = false → HT.lexLt z y = false → HT.lexLt z x = false
  | [], _, [], _, _ => rfl
  | [], [], _ :: _, _, h => by cases h; rfl
  | [], _ :: _, _ :: _, _, _ => rfl
  | a :: x, [], _, h, _ => by cases h
  | a :: x, b :: y, [], _, h => by cases h
  | a :: x, b :: y, c :: z, h1, h2 => by
    rw [HT.lexLt_cons] at h1 h2 ⊢
    by_cases e1 : b = a
    · subst e1
      rw [if_pos rfl] at h1
      by_cases e2 : c = b
      · subst e2
        rw [if_pos rfl] at h2 ⊢
        exact lex_tr x y z h1 h2
      · rw [if_neg e2] at h2 ⊢
        exact h2
    · rw [if_neg e1] at h1
      have := of_decide_eq_false h1
      by_cases e2 : c = b
      · subst e2
        rw [if_neg e1]
        exact h1
      · rw [if_neg e2] at h2
        have := of_decide_eq_false h2
        rw [if_neg (by omega)]
        exact decide_eq_false (by omega)
theorem swo_ints {α : Type} (k : α → List Int) : Swo fun v u => HT.lexLt (k v) (k u) := ⟨fun x y => lex_asym _ _, fun x y z => lex_tr _ _ _⟩
def TupInts (h : Heap) (v : Value) (ns : List Int) : Prop := ns ≠ [] ∧ ∃ a o its n, v = .ref a ∧ h.get? a = some o ∧ o.cls = .type "tuple" ∧ o.data = .seq its n ∧ IntsAre its.toList ns
theorem TupInts.keeps {h h' : Heap} {v : Value} {ns : List Int} (p : TupInts h v ns) (k : ∀ b o, h.get? b = some o → o.cls = .type "tuple" → h'.get? b = some o) : TupInts h' v ns := by
  obtain ⟨z, a, o, its, n, e, ho, hc, hd, hi⟩ := p
  exact ⟨z, a, o, its, n, e, k a o ho hc, hc, hd, hi⟩
theorem firsts_ints {h : Heap} {k : Value → List Int} : ∀ {vs : List Value}, (∀ v ∈ vs, TupInts h v (k v)) → ∃ fs : List Value, PySem.W.KatTups h vs fs ∧ fs.length = vs.length ∧ ∀ f ∈ fs, ∃ x t, f = Value.int x t
  | [], _ => ⟨[], PySem.W.KatTups.nil, rfl, fun _ hm => by simp at hm⟩
  | v :: vs, hp => by
    obtain ⟨fs, h1, h2, h3⟩ := firsts_ints (vs := vs) fun v' hm => hp v' (List.mem_cons_of_mem _ hm)
    obtain ⟨z, a, o, its, n, e, ho, hc, hd, hi⟩ := hp v (List.mem_cons_self ..)
    subst e
    obtain ⟨its⟩ := its
    generalize k (Value.ref a) = ns at z hi
    cases hi with
    | nil => exact absurd rfl z
    | cons x t r =>
      refine ⟨.int x t :: fs, PySem.W.KatTups.cons ho hc hd rfl h1, by rw [List.length_cons, List.length_cons, h2], fun f hm => ?_⟩
      rcases List.mem_cons.mp hm with rfl | hm
      · exact ⟨x, t, rfl⟩
      · exact h3 f hm
section
variable {prog : Program} {w : World} {A : Around} {s : Shared}
theorem kat_ints {b : Bool} : ∀ {us ws : List Value} {ns ms : List Int} (i : Nat) (fin : Bool), IntsAre us ns → IntsAre ws ms → (fin = HT.lexLt (ns.drop (min ns.length ms.length)) (ms.drop (min ns.length ms.length))) →
    PySem.W.KatLex prog w A b fin (fun r s' => s' = s ∧ r = HT.lexLt ns ms) (us.zip ws) i s
  | _, _, [], [], i, fin, .nil, .nil, hf => PySem.W.kat_nil ⟨rfl, by simpa using hf⟩
  | _, _, [], m :: ms, i, fin, .nil, _, hf => by
    refine PySem.W.kat_nil ⟨rfl, ?_⟩
    simpa using hf
  | _, _, n :: ns, [], i, fin, .cons _ _ _, .nil, hf => by
    refine PySem.W.kat_nil ⟨rfl, ?_⟩
    simpa using hf
  | _, _, n :: ns, m :: ms, i, fin, .cons _ t r, .cons _ u q, hf => by
    rw [List.zip_cons_cons]
    refine PySem.W.kat_cons (SeqAt.EqAt.int_int n t m u prog w _ _ ?_)
    refine PySem.W.kat_go (fun e1 => ?_) (fun e1 => ?_)
    · have ex : n = m := by simpa using e1
      have hl : HT.lexLt (n :: ns) (m :: ms) = HT.lexLt ns ms := by rw [HT.lexLt_cons, if_pos ex]
      refine PySem.W.kat_yes ?_
      rw [hl]
      refine kat_ints (i + 1) fin r q ?_
      rw [hf]
      simp only [List.length_cons, Nat.add_min_add_right, List.drop_succ_cons]
    · have ex : ¬ n = m := by simpa using e1
      have hl : HT.lexLt (n :: ns) (m :: ms) = decide (n < m) := by rw [HT.lexLt_cons, if_neg ex]
      rw [hl]
      exact PySem.W.kat_no (TS.oneLt_ints _ ⟨rfl, rfl⟩)
theorem lex_nil (xs ys : List Int) (n : Nat) : HT.lexLt (xs.drop (min xs.length ys.length)) (ys.drop (min xs.length ys.length)) = decide (xs.length < ys.length) := by
  by_cases h : xs.length < ys.length
  · have e : min xs.length ys.length = xs.length := by omega
    rw [e, List.drop_length, decide_eq_true h]
    cases q : ys.drop xs.length with
    | nil =>
      have := congrArg List.length q
      rw [List.length_drop, List.length_nil] at this
      omega
    | cons y r => rfl
  · have e : min xs.length ys.length = ys.length := by omega
    rw [e, List.drop_length, decide_eq_false h]
    cases xs.drop ys.length <;> rfl
theorem ints_cmp {vs : List Value} {k : Value → List Int} (hp : ∀ v ∈ vs, TupInts s.heap v (k v)) : Cmp prog w A s (tuples' true) (fun p => p.1 ∈ vs) (lt2 fun v u => HT.lexLt (k v) (k u)) := by
  intro p q hm hm'
  have h1 := hp _ hm
  have h2 := hp _ hm'
  show wpAny (model prog w) A (keyLt' (tuples' true) p.1 q.1) (fun r s' => s' = s ∧ r = HT.lexLt (k p.1) (k q.1)) (fun _ _ => False) s
  obtain ⟨_, a, o, its, n, e, ho, hc, hd, hi⟩ := h1
  obtain ⟨_, a', o', its', n', e', ho', hc', hd', hi'⟩ := h2
  generalize k p.1 = ns at hi ⊢
  generalize k q.1 = ms at hi' ⊢
  rw [e, e']
  refine PySem.W.kat_lt ho hd ho' hd' ?_
  refine kat_ints 0 _ hi hi' ?_
  rw [lex_nil _ _ 0]
  have l1 := hi.length
  have l2 := hi'.length
  simp only [Array.length_toList] at l1 l2
  rw [l1, l2]
theorem ints_sortable {a : Addr} {vs : List Value} {k : Value → List Int} (h0 : 0 < vs.length) (hp : ∀ v ∈ vs, TupInts s.heap v (k v)) (ha : ∀ o, s.heap.get? a = some o → o.cls ≠ .type "tuple") : SortableO prog w A s a vs fun v u => HT.lexLt (k v) (k u) := by
  intro h' keep
  have hp' : ∀ v ∈ vs, TupInts h' v (k v) := fun v hm => (hp v hm).keeps fun b o e c => keep b o (fun z => by subst z; exact ha o e c) e
  obtain ⟨fs, h1, h2, h3⟩ := firsts_ints hp'
  refine ⟨tuples' true, fun Q E hq => ?_, ints_cmp hp'⟩
  refine PySem.W.kat_kind (T := .type "int") h1 (by omega) (fun f hm => ?_) (by rfl) ?_
  · obtain ⟨x, t, rfl⟩ := h3 f hm
    exact PySem.W.Looks.now
  · have e : (Value.type "int" != Value.type "tuple") = true := by first | decide +kernel | rfl | decide
    rw [e]
    exact hq
theorem sorted_ints {E : Value → Shared → Prop} {l : Addr} {vs : List Value} {k : Value → List Int} {Q : Value → Shared → Prop} (hl : s.heap.IsList l vs.toArray) (hz : vs.length ≤ sizeLine) (hp : ∀ v ∈ vs, TupInts s.heap v (k v))
    (h : ∀ (h' : Heap) (d : Addr) (out : List Value), Srtd (fun v u => HT.lexLt (k v) (k u)) out → Stb (fun v u => HT.lexLt (k v) (k u)) out vs → (∀ b o, s.heap.get? b = some o → h'.get? b = some o) → s.heap.objs.size ≤ d → (∃ n, h'.get? d = some (seqObj "list" out.toArray n)) → Q (.ref d) { s with heap := h' }) :
    wpAny (model prog w) A (call (.builtin "sorted") [.ref l]) Q E s := by
  refine sorted_ord (swo_ints k) hl hz (fun h2 h₁ a ha kk => ?_) fun out hs hb => ?_
  · refine ints_sortable (s := { s with heap := h₁ }) (by omega) (fun v hm => (hp v hm).keeps fun b o e _ => (kk b o e).2) fun o e => ?_
    have e' : some o = some (seqObj "list" vs.toArray 0) := e.symm.trans ha
    cases e'
    intro c
    exact absurd (Value.type.inj c) (by decide)
  · exact h _ _ out hs hb (fun b o e => sortedAll_old e) (Nat.le_succ _) (sortedAll_at s.heap vs out.toArray)
end
theorem lex_tri : ∀ x y : List Int, HT.lexLt x y = false → HT.lexLt y x = false → x = y
  | [], [], _, _ => rfl
  | [], _ :: _, h, _ => by cases h
  | _ :: _, [], _, h => by cases h
  | a :: x, b :: y, h1, h2 => by
    rw [HT.lexLt_cons] at h1 h2
    by_cases e : a = b
    · subst e
      rw [if_pos rfl] at h1 h2
      rw [lex_tri x y h1 h2]
    · rw [if_neg e] at h1
      rw [if_neg (fun q => e q.symm)] at h2
      have := of_decide_eq_false h1
      have := of_decide_eq_false h2
      omega
theorem sorted_uniq : ∀ {l m : List (List Int)}, l.Perm m → (l.Pairwise fun x y => HT.lexLt y x = false) → (m.Pairwise fun x y => HT.lexLt y x = false) → l = m
  | [], m, p, _, _ => (List.Perm.eq_nil p.symm).symm
  | x :: l, [], p, _, _ => absurd p.length_eq (by simp)
  | x :: l, y :: m, p, hl, hm => by
    have hl' := List.pairwise_cons.mp hl
    have hm' := List.pairwise_cons.mp hm
    have e : x = y := by
      rcases List.mem_cons.mp (p.mem_iff.mp (List.mem_cons_self (a := x) (l := l))) with e | hx
      · exact e
      · rcases List.mem_cons.mp (p.mem_iff.mpr (List.mem_cons_self (a := y) (l := m))) with e | hy
        · exact e.symm
        · exact lex_tri x y (hm'.1 x hx) (hl'.1 y hy)
    subst e
    rw [sorted_uniq p.cons_inv hl'.2 hm'.2]
/-- items that are tuples of ints -/
def IntTups (K : PySem.W.Frag) (H : Hp) : List V → List (List Int) → Prop := Paired fun v t => t ≠ [] ∧ ∃ a, v = .ref a ∧ SqT K H a (t.map V.int)
theorem map_int_inj : ∀ {xs ys : List Int}, xs.map V.int = ys.map V.int → xs = ys
  | [], [], _ => rfl
  | [], _ :: _, h => by cases h
  | _ :: _, [], h => by cases h
  | x :: xs, y :: ys, h => by
    rw [List.map_cons, List.map_cons] at h
    injection h with h1 h2
    rw [V.int.inj h1, map_int_inj h2]
/-- sorted(xs), a list of tuples of ints -/
def rSortedT (K : PySem.W.Frag) : List V → Hp → VK → Prop := fun vs H Q => ∃ (F : Hp) (a : Addr) (xs : List V) (ts : List (List Int)), vs = [V.ref a] ∧ Ex F H ∧ SqL K H a xs ∧ IntTups K F xs ts ∧
  ∀ ys ts' p, IntTups K F ys ts' → ts'.Perm ts → (ts'.Pairwise fun x y => HT.lexLt y x = false) → H p = none → Q (.ref p) (L2.upd H p (.lst ys))
theorem intTups_map {K : PySem.W.Frag} {H : Hp} {k : V → List Int} : ∀ {ys : List V}, (∀ y ∈ ys, k y ≠ [] ∧ ∃ a, y = .ref a ∧ SqT K H a ((k y).map V.int)) → IntTups K H ys (ys.map k)
  | [], _ => .nil
  | y :: ys, h => .cons (h y List.mem_cons_self) (intTups_map fun z hz => h z (List.mem_cons_of_mem _ hz))
section
variable {X : Cx}
open Classical in
theorem cr_sortedT : CallR X (.builtin "sorted") (rSortedT X.K) := by
  intro pins s σ H vs us Q I r h
  obtain ⟨F, a, xs, ts, rfl, fh, hs, hx, q⟩ := h
  obtain ⟨its, rv, hl, hz⟩ := I.list hs
  obtain ⟨u, rfl, ru⟩ := vals1 r
  obtain rfl : u = Value.ref a := ru
  let k : V → List Int := fun v => Classical.epsilon fun ns => ns ≠ [] ∧ ∃ a, v = .ref a ∧ SqT X.K H a (ns.map V.int)
  have hk : ∀ v t, (t ≠ [] ∧ ∃ a, v = .ref a ∧ SqT X.K H a (t.map V.int)) → k v = t := fun v t ht => by
    obtain ⟨_, a1, e1, h1⟩ := Classical.epsilon_spec (p := fun ns => ns ≠ [] ∧ ∃ a, v = .ref a ∧ SqT X.K H a (ns.map V.int)) ⟨t, ht⟩
    obtain ⟨_, a2, e2, h2⟩ := ht
    rw [e1] at e2; cases e2
    exact map_int_inj (I.tuple_inj h1 h2)
  have up : ∀ {v : V} {t : List Int}, (t ≠ [] ∧ ∃ a, v = .ref a ∧ SqT X.K F a (t.map V.int)) → (t ≠ [] ∧ ∃ a, v = .ref a ∧ SqT X.K H a (t.map V.int)) := fun {v t} h => ⟨h.1, h.2.imp fun a q => ⟨q.1, Evl.ex_t fh q.2⟩⟩
  have kx : ∀ x ∈ xs, k x ≠ [] ∧ ∃ a, x = .ref a ∧ SqT X.K F a ((k x).map V.int) := by
    have : ∀ {xs : List V} {ts : List (List Int)}, IntTups X.K F xs ts → ∀ x ∈ xs, k x ≠ [] ∧ ∃ a, x = .ref a ∧ SqT X.K F a ((k x).map V.int) := by
      intro xs ts hx
      induction hx with
      | nil => intro x hx; cases hx
      | cons r1 r2 ih =>
        intro x hx
        rcases List.mem_cons.mp hx with rfl | hx
        · rw [hk _ _ (up r1)]; exact r1
        · exact ih x hx
    exact this hx
  have tsk : ts = xs.map k := by
    have : ∀ {xs : List V} {ts : List (List Int)}, IntTups X.K F xs ts → ts = xs.map k := by
      intro xs ts hx
      induction hx with
      | nil => rfl
      | cons r1 r2 ih => rw [List.map_cons, hk _ _ (up r1), ih]
    exact this hx
  obtain ⟨e1, e2⟩ := refs_back rv fun x m => by
    obtain ⟨_, t, e, _⟩ := kx x m
    exact ⟨t, e⟩
  refine sorted_ints (k := fun u => k (backV u)) hl.isList (by rw [← rv.length]; exact hz) (fun v hv => ?_) fun h' d out h1 h2 kp hd hn => ?_
  · obtain ⟨t, rfl⟩ := e2 v hv
    have hm : V.ref t ∈ xs := by rw [e1]; exact List.mem_map.mpr ⟨_, hv, rfl⟩
    obtain ⟨hne, t', e, ht⟩ := up (kx _ hm)
    cases e
    obtain ⟨its2, r2, ⟨o, ho, hc, n, hd⟩, _⟩ := I.tuple ht
    exact ⟨hne, t, o, its2.toArray, n, rfl, ho, hc, hd, by show IntsAre its2.toArray.toList (k (V.ref t)); simpa using r2.ints⟩
  · have h3 : ∀ u ∈ out, ∃ a, u = Value.ref a := fun u hu => e2 u (h2.perm.mem_iff.mp hu)
    obtain ⟨n, hn⟩ := hn
    have hb : Stb (fun x y => HT.lexLt (k x) (k y)) (out.map backV) xs := by
      rw [e1]
      exact Stb.map (swo_ints k) backV h2
    have hs' : Srtd (fun x y => HT.lexLt (k x) (k y)) (out.map backV) := srtd_map h1
    refine ⟨.ref d, L2.upd H d (.lst (out.map backV)), I.laid (t' := s.toks) kp hd ⟨?_, out, n, vals_back h3, hn⟩, rfl, q _ ((out.map backV).map k) d (intTups_map fun y hy => kx y (hb.perm.mem_iff.mp hy)) ?_ ?_ (I.hok.fresh hd)⟩
    · rw [hb.len]
      exact hz
    · rw [tsk]
      exact hb.perm.map k
    · exact List.pairwise_map.mpr hs'
end
section
variable {X : Cx} {env : En} {a : Expr} {pos p : Pos}
theorem intTups_of {K : PySem.W.Frag} {F : Hp} : ∀ {ts : List (List Int)} {vs : List V}, (∀ t ∈ ts, t ≠ []) → Reps K F vs (ts.map fun t => D.tup (t.map D.int)) → IntTups K F vs ts
  | [], vs, _, r => by rw [show vs = [] from r]; exact .nil
  | t :: ts, vs, hne, ⟨v, r, e, ⟨a, us, e2, h1, h2⟩, h3⟩ => by
    subst e
    refine .cons ⟨hne t List.mem_cons_self, a, e2, ?_⟩ (intTups_of (fun t ht => hne t (List.mem_cons_of_mem _ ht)) h3)
    rw [← h2.ints]; exact h1
theorem of_intTups {K : PySem.W.Frag} {F : Hp} {ts : List (List Int)} {vs : List V} (h : IntTups K F vs ts) : Reps K F vs (ts.map fun t => D.tup (t.map D.int)) := by
  induction h with
  | nil => rfl
  | cons r1 r2 ih =>
    obtain ⟨_, a, e, h1⟩ := r1
    exact ⟨_, _, rfl, ⟨a, _, e, h1, Reps.of_ints⟩, ih⟩
theorem IntTups.mono {K : PySem.W.Frag} {F H : Hp} {ts : List (List Int)} {vs : List V} (e : Ex F H) (h : IntTups K F vs ts) : IntTups K H vs ts := by
  induction h with
  | nil => exact .nil
  | cons r1 r2 ih => exact .cons ⟨r1.1, r1.2.imp fun a q => ⟨q.1, Evl.ex_t e q.2⟩⟩ ih
/-- a list of tuples of ints, sorted -/
theorem x_sortedT {ts ts' : List (List Int)} (hp : ts'.Perm ts) (hs : ts'.Pairwise fun x y => HT.lexLt y x = false) (hne : ∀ t ∈ ts, t ≠ []) (ha : XV X env a (.lst (ts.map fun t => .tup (t.map D.int)))) (hg : Gl X "sorted" := by rfl) (hm : X.mg "sorted" = none := by assumption) (he : starEach [a] X.env = (false, eval a X.env) :: starEach [] X.env := by rfl) :
    XV X env (.Call (.Name "sorted" p) [a] [] pos) (.lst (ts'.map fun t => .tup (t.map D.int))) := by
  refine x_callB cr_sortedT (x := .lst (ts.map fun t => .tup (t.map D.int))) (ds := []) (fun F H vs Q fh r q => ?_) hg hm (by decide +kernel) (a_cons ha a_nil he) (he := he)
  obtain ⟨v, rfl, l, us, rfl, h1, h2⟩ := reps1 r
  refine ⟨F, l, us, ts, rfl, fh, Evl.ex_l fh h1, intTups_of hne h2, fun ys ts2 p2 h3 h4 h5 h6 => ?_⟩
  have e : ts2 = ts' := sorted_uniq (h4.trans hp.symm) h5 hs
  subst e
  exact q.lst fh (of_intTups h3) h6
end
end Y

namespace Y
open PySem PySem.Spec PyProof.Rows L2
open Evl (Ex)
section
variable {X : Cx} {M : Wd} {env : En} {a b c e : Expr} {es : List Expr} {d x y z : D} {ds xs : List D} {pos p p2 pn apos : Pos} {n : Str} {rest ss : List Stmt} {R : Rs} {P : D → En → Prop} {k : Nat}

/-! ### xs.index(y), ints -/
theorem x_index {ns : List Int} {m : Int} {j : Nat} (ha : XV X env a (.lst (ns.map D.int))) (hb : XV X env b (.int m)) (hj : ns[j]? = some m) (hno : ∀ i, i < j → ns[i]? ≠ some m)
    (hbase : attributeBase a "index" X.env (eval a X.env) = eval a X.env := by rfl)
    (hfew : ((backTo p2 (starEach [b] X.env)).all (fun x => !x.1) && (backToKw p2 (keywordEach [] X.env)).all (fun x => x.1.isSome) && decide ([b].length + ([] : List Keyword).length + (if ([] : List Keyword).isEmpty then 0 else 1) < 30)) = true := by rfl)
    (hline : (apos.endLine == p2.line) = true := by rfl) (hs : starEach [b] X.env = (false, eval b X.env) :: starEach [] X.env := by rfl) (hplain : (backTo p2 (starEach [] X.env)).any (·.1) = false := by rfl) : XV X env (.Call (.Attribute a "index" apos) [b] [] p2) (.int (j : Nat)) := by
  intro F H σ fh st Q q
  refine (pe_bm PySem.F.plainAttrs_list PySem.F.slot_list_index PySem.F.type_list_index mt_index pe_s (pa_cons pe_s pa_nil hs) hbase hfew hline hs hplain).sem ?_
  refine ha F H σ fh st _ fun v F1 H1 p1 ⟨l, us, e1, h1, h2⟩ => ?_
  subst e1
  rw [h2.ints] at h1
  refine ⟨.inl ⟨rfl, _, Evl.ex_l p1.fh h1⟩, ?_⟩
  refine hb F1 H1 σ p1.fh (st.pu p1) _ fun u F2 H2 p2 r2 => ?_
  have pp := p1.trans p2
  refine ⟨l, ns.map V.int, .int m, j, .int m, rfl, by rw [show u = V.int m from r2], Evl.ex_l (p2.ff.trans p2.fh) h1, rfl, ?_, by rw [List.getElem?_map, hj]; rfl, ?_, fun i z' hi hz => ?_, (q.pu pp).val p2.fh (v := .int _) rfl⟩
  · exact List.all_eq_true.mpr fun v hv => by obtain ⟨i, _, rfl⟩ := List.mem_map.mp hv; rfl
  · rw [eqV_int]; exact decide_eq_true rfl
  · rw [List.getElem?_map] at hz
    cases w : ns[i]? with
    | none => rw [w] at hz; cases hz
    | some m' =>
      rw [w] at hz; cases hz
      rw [eqV_int]
      exact decide_eq_false fun q => hno i hi (q ▸ w)

/-! ### == and != of the same data -/
mutual
def toPy : D → Option PyData
  | .non => some .none
  | .bl b => some (.bool b)
  | .int i => some (.int i)
  | .str z => some (.str z)
  | .lst xs => (toPys xs).map .list
  | .tup xs => (toPys xs).map .tuple
  | _ => none
def toPys : List D → Option (List PyData)
  | [] => some []
  | x :: xs => match toPy x, toPys xs with
    | some y, some ys => some (y :: ys)
    | _, _ => none
end
mutual
theorem dp_of {K : PySem.W.Frag} {F : Hp} : ∀ {v : V} {d : D} {y : PyData}, Rep K F v d → toPy d = some y → Dp K F v y
  | v, .non, y, r, h => by unfold toPy at h; cases h; rw [show v = V.non from r]; exact .non
  | v, .bl b, y, r, h => by unfold toPy at h; cases h; rw [show v = V.bl b from r]; exact .bl b
  | v, .int i, y, r, h => by unfold toPy at h; cases h; rw [show v = V.int i from r]; exact .int i
  | v, .str z, y, r, h => by unfold toPy at h; cases h; rw [show v = V.str z from r]; exact .str z
  | v, .lst xs, y, ⟨a, vs, e, h1, h2⟩, h => by
    unfold toPy at h
    cases q : toPys xs with
    | none => rw [q] at h; cases h
    | some ys => rw [q] at h; cases h; rw [e]; exact .lst h1 (dps_of h2 q)
  | v, .tup xs, y, ⟨a, vs, e, h1, h2⟩, h => by
    unfold toPy at h
    cases q : toPys xs with
    | none => rw [q] at h; cases h
    | some ys => rw [q] at h; cases h; rw [e]; exact .tup h1 (dps_of h2 q)
  | v, .obj _ _, y, r, h => by unfold toPy at h; cases h
  | v, .ty _, y, r, h => by unfold toPy at h; cases h
  | v, .exc _ _ _, y, r, h => by unfold toPy at h; cases h
theorem dps_of {K : PySem.W.Frag} {F : Hp} : ∀ {vs : List V} {ds : List D} {ys : List PyData}, Reps K F vs ds → toPys ds = some ys → DpAll K F vs ys
  | vs, [], ys, r, h => by unfold toPys at h; cases h; rw [show vs = [] from r]; exact .nil
  | vs, d :: ds, ys, ⟨v, r, e, h1, h2⟩, h => by
    unfold toPys at h
    cases q1 : toPy d with
    | none => rw [q1] at h; cases h
    | some y =>
      cases q2 : toPys ds with
      | none => rw [q1, q2] at h; cases h
      | some ys' => rw [q1, q2] at h; cases h; rw [e]; exact .cons (dp_of h1 q1) (dps_of h2 q2)
end
theorem dp_mono {K : PySem.W.Frag} {F H : Hp} (e : Ex F H) {v : V} {d : D} {y : PyData} (r : Rep K F v d) (h : toPy d = some y) : Dp K H v y := dp_of (r.mono e) h
theorem od_eqD {K : PySem.W.Frag} {u w : PyData} (h1 : toPy x = some u) (h2 : toPy y = some w) (s1 : SeqAt.shaped u = true) (s2 : SeqAt.shaped w = true) : OpD K (rEqD K) x y (.bl (PyData.eqv u w)) := fun F H v v' Q fh r1 r2 q =>
  ⟨u, w, dp_mono fh r1 h1, dp_mono fh r2 h2, s1, s2, q.val fh (v := .bl _) rfl⟩
theorem od_neD {K : PySem.W.Frag} {u w : PyData} (h1 : toPy x = some u) (h2 : toPy y = some w) (s1 : SeqAt.shaped u = true) (s2 : SeqAt.shaped w = true) : OpD K (rNeD K) x y (.bl (!PyData.eqv u w)) := fun F H v v' Q fh r1 r2 q =>
  ⟨u, w, dp_mono fh r1 h1, dp_mono fh r2 h2, s1, s2, q.val fh (v := .bl _) rfl⟩
theorem t_eqD {u w : PyData} (hu : X.A.units + 64 < cLine) (h1 : toPy x = some u) (h2 : toPy y = some w) (s1 : SeqAt.shaped u = true) (s2 : SeqAt.shaped w = true) (ha : XV X env a x) (hb : XV X env b y) : XT X env (.Compare a [.Eq] [b] pos) (PyData.eqv u w) := t_cmp (op_eqD hu) (od_eqD h1 h2 s1 s2) (nomark _) ha hb
theorem t_neD {u w : PyData} (hu : X.A.units + 64 < cLine) (h1 : toPy x = some u) (h2 : toPy y = some w) (s1 : SeqAt.shaped u = true) (s2 : SeqAt.shaped w = true) (ha : XV X env a x) (hb : XV X env b y) : XT X env (.Compare a [.NotEq] [b] pos) (!PyData.eqv u w) := t_cmp (op_neD hu) (od_neD h1 h2 s1 s2) (nomark _) ha hb
/-- lists of tuples of ints -/
def pyTups (ts : List (List Int)) : PyData := .list (ts.map fun t => .tuple (t.map .int))
theorem toPys_map {α : Type} (f : α → D) (g : α → PyData) (h : ∀ x, toPy (f x) = some (g x)) : ∀ l : List α, toPys (l.map f) = some (l.map g)
  | [] => rfl
  | x :: l => by
    rw [List.map_cons, List.map_cons]
    unfold toPys
    rw [h x, toPys_map f g h l]
theorem toPy_tups (ts : List (List Int)) : toPy (.lst (ts.map fun t => .tup (t.map D.int))) = some (pyTups ts) := by
  unfold toPy
  rw [toPys_map _ (fun t => PyData.tuple (t.map PyData.int)) (fun t => by
    unfold toPy
    rw [toPys_map D.int PyData.int (fun i => by unfold toPy; rfl) t]
    rfl) ts]
  rfl
theorem canAll {α : Type} (f : α → PyData) (h : ∀ x, (f x).canLay0 = true) : ∀ l : List α, PyData.canLayAll0 (l.map f) = true
  | [] => rfl
  | x :: l => by
    rw [List.map_cons]
    unfold PyData.canLayAll0
    rw [h x, canAll f h l]
    rfl
theorem depthAll_le {α : Type} (f : α → PyData) (m : Nat) (h : ∀ x, (f x).depth ≤ m) : ∀ l : List α, PyData.depthAll (l.map f) ≤ m
  | [] => by unfold PyData.depthAll; exact Nat.zero_le _
  | x :: l => by
    rw [List.map_cons]
    unfold PyData.depthAll
    have := h x
    have := depthAll_le f m h l
    omega
theorem shaped_tups (ts : List (List Int)) : SeqAt.shaped (pyTups ts) = true := by
  unfold SeqAt.shaped
  rw [Bool.and_eq_true]
  constructor
  · unfold pyTups PyData.canLay0
    exact canAll _ (fun t => by unfold PyData.canLay0; exact canAll _ (fun i => by unfold PyData.canLay0; rfl) t) ts
  · refine decide_eq_true ?_
    unfold pyTups PyData.depth
    have := depthAll_le (fun t : List Int => PyData.tuple (t.map PyData.int)) 10 (fun t => by
      unfold PyData.depth
      have := depthAll_le PyData.int 1 (fun i => by unfold PyData.depth; omega) t
      omega) ts
    omega
theorem eqv_tups (ts : List (List Int)) : PyData.eqv (pyTups ts) (pyTups ts) = true := SeqAt.eqv_refl _ (SeqAt.canLay_of_shaped (shaped_tups ts))
end
end Y

namespace Y
open PySem PySem.Spec PyProof.Rows L2
open Evl (Ex)

/-! ### defs that may raise -/
/-- the fields of an exception: flat values, by name -/
abbrev AdX := List D → (D → Prop) → (Value → List (Str × V) → Prop) → Prop
def spX (K : PySem.W.Frag) (A : AdX) : Sp := fun vs H Q E => ∃ F ds R RE, A ds R RE ∧ Ex F H ∧ Reps K F vs ds ∧ (∀ v F' H' d, R d → Pu F H F' H' → Rep K F' v d → Q v H') ∧
  (∀ cls dd H' vfs, RE cls vfs → Ex H H' → H dd = none → H' dd = some (.xd vfs) → E cls (some dd) H')
structure Dx (P : Program) (w : World) (K : PySem.W.Frag) (mg : Str → Option Value) (base : Heap) (k : Nat) (n : Str) (sp : Sp) : Prop where
  ex : ∃ (f : Addr) (fd : FuncData) (ps : List Str), FnOk P w K mg base (L2.CX P w) k f fd ps sp ∧ mg n = some (.ref f) ∧ PySem.W.keepIn K (.ref f) = true ∧ Binds K fd ps []
section
variable {P : Program} {w : World} {K : PySem.W.Frag} {mg : Str → Option Value} {base : Heap} {x qual : Str} {st : Stmt} {f : Addr} {fd : FuncData} {N ps : List Str} {k : Nat}
abbrev fnE (K : PySem.W.Frag) (P : Program) (w : World) (mg : Str → Option Value) (base : Heap) (N : List Str) (qual : Str) (st : Stmt) (f : Addr) (cdv : Value) (A : Around) (outer : List Env) (s : Shared) (H : Hp) (E : XK) : Cx := cxOf (L2.CX P w) P w K mg base N qual (defScope st) f cdv A outer s H E
theorem fnDX {A : AdX} (F : Fun K x qual st f fd) (S : FnScope N ps (defScope st)) (hl : ∀ ds R RE, A ds R RE → ds.length = ps.length) (hpN : ps.length ≤ N.length)
    (body : ∀ (cdv : Value) (A' : Around) (outer : List Env) (s : Shared) (H : Hp) (E : XK), Room k (A'.deeper (envOfC qual (defScope st) s.heap.objs.size f cdv)) → ∀ ds R RE, A ds R RE →
      (∀ cls dd H' vfs, RE cls vfs → Ex H H' → H dd = none → H' dd = some (.xd vfs) → E cls (some dd) H') →
      XS (fnE K P w mg base N qual st f cdv A' outer s H E) ⟨fun _ => False, H⟩ (entry ds N.length) (defBody st) { nx := fun _ => R .non, rt := fun d _ => R d }) : FnOk P w K mg base (L2.CX P w) (k + 1) f fd ps (spX K A) := by
  refine F.okX S (fun vs H Q E h => ?_) (fun cdv A' outer s H vs Q E hr h => ?_)
  · obtain ⟨F, ds, R, RE, hA, fh, r, _⟩ := h
    rw [r.length]
    exact hl ds R RE hA
  · obtain ⟨F0, ds, R, RE, hA, fh, r, q, qe⟩ := h
    refine ⟨tSemS _ (defBody st), pss_s, ?_⟩
    refine body cdv A' outer s H E hr ds R RE hA qe F0 F0 H (L2.start N vs) (Gw.refl fh) (sts_entry r (by rw [r.length, hl ds R RE hA]; exact hpN)) (fun i p => ⟨fun ds e => absurd (no_mu e) (fun z => by cases z), fun ds e => absurd (no_mu e) (fun z => by cases z)⟩) _ ?_
    exact ⟨fun env F H' σ hd g st o => q .non F H' .non hd g.pure rfl, fun d env v F H' σ hd g st o rv => q v F H' d hd g.pure rv, fun env F H' σ hd => hd.elim, fun env F H' σ hd => hd.elim, fun bx env p vs F H' σ hd => hd.elim⟩
/-- an exception class of two fields: its __init__ -/
def spI2 (C : Addr) (f1 f2 : Str) : Sp := fun vs H Q _ => ∃ a v1 v2, vs = [.ref a, v1, v2] ∧ H a = some (exo a C none) ∧
  ∀ H2 d, H d = none → H2 a = some (exo a C (some d)) → H2 d = some (exd d [(f2, v2), (f1, v1)]) → (∀ b, b ≠ a → b ≠ d → H2 b = H b) → Q .non H2
end

section
variable {X : Cx} {M : Wd} {env : En} {a b c e : Expr} {es : List Expr} {d x y z : D} {ds xs : List D} {pos p p2 pn apos : Pos} {n : Str} {rest ss : List Stmt} {R : Rs} {P : D → En → Prop} {k : Nat}
theorem s_raise {t : L2.St → Hp → XK → Prop} {W : WX} (tk : Takes X W) (hc : X.calm = true) (he : PMk X e t) (h : ∀ (F0 F H : Hp) (σ : L2.St), Gw M.m F0 M.h F H → Sts X.K F H env σ → t σ H fun cls d H' => W cls d σ H') : XS X M env (.Raise (some e) none pos :: rest) R := by
  intro F0 F H σ g st o D s
  exact (pss_cons (ps_raise hc tk he) pss_never).sem (h F0 F H σ g st)
/-- raise C(e1, e2), C a class of two fields -/
theorem s_raise2 {C fI : Addr} {fd : FuncData} {ps : List Str} {f1 f2 : Str} {e1 e2 : Expr} {d1 d2 : D} {v1 v2 : V} {E : XK} (T : OexC X.K C) (iC : PySem.W.findIn X.K (.ref C) "__init__" = some (some (.ref fI))) (tI : PySem.W.typeIn X.K (.ref fI) = some (.type "function"))
    (F1 : FnOk X.prog X.w X.K X.mg X.base CX0 k fI fd ps (spI2 C f1 f2)) (hb : Binds X.K fd ps []) (hm : X.mg n = some (.ref C)) (hr : Room (k + 1) X.A) (tk : Takes X (fun cls d _ H => E cls d H)) (hc : X.calm = true) (ha : XA X env [e1, e2] [d1, d2]) (hv1 : dV d1 = some v1) (hv2 : dV d2 = some v2)
    (hE : ∀ dd H', Ex M.h H' → M.h dd = none → H' dd = some (.xd [(f2, v2), (f1, v1)]) → E (.ref C) (some dd) H') (hM : ∀ a, ¬ M.m a) (hg : Gl X n := by rfl)
    (hdb : (n == ("__debug__" : Str)) = false := by decide) (he : starEach [e1, e2] X.env = (false, eval e1 X.env) :: starEach [e2] X.env := by rfl) (hpl : (backTo pos (starEach [e2] X.env)).any (·.1) = false := by rfl) : XS X M env (.Raise (some (.Call (.Name n p) [e1, e2] [] pos)) none p2 :: rest) R := by
  refine s_raise tk hc (pmk_oex T iC tI F1 hr hb .nil pass0 hg hm pa_s hdb he hpl) fun F0 F H σ g st => ?_
  refine ha F H σ g.fh st _ fun vs F1' H1 p1 r1 => ?_
  obtain ⟨u1, u2, rfl, r2, r3⟩ := reps2 r1
  rw [dV_rep hv1 r2, dV_rep hv2 r3]
  have g1 := g.pu p1
  refine ⟨by show 2 ≤ 1000; decide, fun a hna => ?_⟩
  refine ⟨a, v1, v2, rfl, upd_same, fun H2 d hd h1 h2 h3 => ?_⟩
  have hda : d ≠ a := fun z => by subst z; rw [upd_same] at hd; cases hd
  have hd1 : H1 d = none := by rw [upd_ne hda] at hd; exact hd
  refine ⟨rfl, d, _, h1, h2, hd1, hE d _ ?_ ?_ upd_same⟩
  · intro b o hbo
    have hb1 : H1 b = some o := g1.hh b o (hM b) hbo
    have nba : b ≠ a := fun z => by subst z; rw [hna] at hb1; cases hb1
    have nbd : b ≠ d := fun z => by subst z; rw [hd1] at hb1; cases hb1
    rw [upd_ne nbd, del_ne nba, h3 b nba nbd, upd_ne nba]
    exact hb1
  · cases q : M.h d with
    | none => rfl
    | some o => exact absurd hd1 (g1.th d (by rw [q]; exact fun z => by cases z))
/-- a call of a def that may raise, where it does not -/
theorem x_callX {A : AdX} {R : D → Prop} (c : Dx X.prog X.w X.K X.mg X.base k n (spX X.K A)) (hr : Room k X.A) (ha : XA X env (e :: es) ds) (hA : A ds R (fun _ _ => False)) (hR : ∀ d', R d' → d' = d) (hg : Gl X n := by rfl)
    (hdb : (n == ("__debug__" : Str)) = false := by decide) (he : starEach (e :: es) X.env = (false, eval e X.env) :: starEach es X.env := by rfl) (hpl : (backTo pos (starEach es X.env)).any (·.1) = false := by rfl) : XV X env (.Call (.Name n p) (e :: es) [] pos) d := by
  intro F H σ fh st Q q
  obtain ⟨f, fd, ps, hF, hm, hk, hb⟩ := c.ex
  refine (pe_call hF hr hg hm hk hb .nil passL pa_s hdb he hpl).sem ?_
  refine ha F H σ fh st _ fun vs F1 H1 p1 r1 => ?_
  rw [List.append_nil]
  exact ⟨F1, ds, R, _, hA, p1.fh, r1, fun v F2 H2 d' hd p2 r2 => q v F2 H2 (p1.trans p2) (hR d' hd ▸ r2), fun cls dd H' vfs hf => hf.elim⟩
/-- try: the body raises nothing -/
theorem s_tryT {h0 : ExceptHandler} {hs : List ExceptHandler} (h : XS X.nox M env ss (R.then X M rest)) : XS X M env (.Try ss (h0 :: hs) [] [] pos :: rest) R := by
  intro F0 F H σ g st o D s
  refine (pss_cons (ps_try_thru0 (X := X) (pss_s (X := X.nox))) pss_s).sem ?_
  exact h F0 F H σ g st o _ (sat_then s)
theorem Own.un {m : Addr → Prop} {H0 : Hp} {env : En} {σ : L2.St} (h : Own m H0 env σ) (i : Nat) : Own m H0 (env.set i .un) (σ.set i none) := fun j p => by
  by_cases z : j = i
  · subst z
    have no : ∀ s, (env.set j .un)[j]? = some s → s = .un := fun s e => by
      by_cases hj : j < env.length
      · rw [List.getElem?_set_self hj] at e; exact (Option.some.inj e).symm
      · rw [List.getElem?_eq_none (by rw [List.length_set]; omega)] at e; cases e
    exact ⟨fun ds e => (by cases (no _ e)), fun ds e => (by cases (no _ e))⟩
  · rw [List.getElem?_set_ne (Ne.symm z), List.getElem?_set_ne (Ne.symm z)]
    exact h j p
/-- try: t = f(..), where f raises; except C as n: suite -/
theorem s_tryR {A : AdX} {RE : Value → List (Str × V) → Prop} {m cn nn : Str} {brest suite : List Stmt} {b₀ : Stmt} {pm pc np cpos pos' : Pos} {cls : Value} {fsD : List (Str × D)} {vfs : List (Str × V)} (i : Nat)
    (c : Dx X.prog X.w X.K X.mg X.base k n (spX X.K A)) (hr : Room k X.A) (ha : ∀ (pn : List (Addr × Obj)) (xe : Value → Shared → Prop), XA (X.tr pn xe) env (e :: es) ds) (hA : A ds (fun _ => False) (fun c' v' => c' = cls ∧ v' = vfs)) (hfs : ∀ F, RepF X.K F vfs fsD)
    (hcls : PySem.W.exmOne X.K cls cls = some true) (hM : ∀ a, ¬ M.m a) (hc : Names X cn cls)
    (hsu : ∀ (a : Addr) (oe : Obj) (dd : Addr) (pn : List (Addr × Obj)), Zc cls (some dd) oe → (∃ vs, oe.data = .fields vs) → XS (X.suite a ((a, oe) :: pn)) M (env.set i (.dat (.exc a dd fsD))) (b₀ :: suite) { R with nx := fun env' => XS X M (env'.set i .un) rest R, bk := fun env' => R.bk (env'.set i .un), ct := fun env' => R.ct (env'.set i .un) })
    (hs : X.stack = X.env :: X.outer := by rfl) (hf : X.env.frame = some X.env.locals := by rfl) (hN : X.N.Nodup := by assumption) (hi : X.N[i]? = some nn := by rfl) (hln : X.env.kindOf nn = some .local := by rfl)
    (j : Nat := 0) (hj : X.N[j]? = some m := by rfl) (hx : Loc X.env.scope m := by first | exact Or.inl rfl | exact Or.inr rfl)
    (hsw : swapsWith (.Call (.Name n pc) (e :: es) [] cpos) (some (.Name m pm)) p2.line X.env = pure false := by rfl) (hff : X.fn m = true ∨ X.env.scope.names.lookup m = some .local := by first | exact Or.inl rfl | exact Or.inr rfl)
    (hg : Gl X n := by rfl)
    (hdb : (n == ("__debug__" : Str)) = false := by decide) (he : starEach (e :: es) X.env = (false, eval e X.env) :: starEach es X.env := by rfl) (hpl : (backTo cpos (starEach es X.env)).any (·.1) = false := by rfl) :
    XS X M env (.Try (.Assign [.Name m pm] (.Call (.Name n pc) (e :: es) [] cpos) p2 :: brest) [.ExceptHandler (some (.Name cn np)) (some nn) (b₀ :: suite) pos'] [] [] pos :: rest) R := by
  intro F0 F H σ g st o D s
  obtain ⟨f, fd, ps, hF, hm, hk, hb⟩ := c.ex
  refine (pss_cons (ps_try_as (tb := fun W D σ H => ∀ (pn : List (Addr × Obj)) (xe : Value → Shared → Prop), Takes (X.tr pn xe) W → tSemS (X.tr pn xe) (.Assign [.Name m pm] (.Call (.Name n pc) (e :: es) [] cpos) p2 :: brest) D σ H)
    (ts := fun a cls d D σ H => ∀ (oe : Obj) (pn : List (Addr × Obj)), Zc cls d oe → (∃ vs, oe.data = .fields vs) → tSemS (X.suite a ((a, oe) :: pn)) (b₀ :: suite) D σ H) (Wout := fun _ _ _ _ => False) hs hf hN hi hln hc takes0
    (fun W pn xe tk _ => ⟨fun pins s σ H D I h => h pn xe tk pins s I⟩) (fun a oe cls d pn hz hf => ⟨fun pins s σ H D I h => h oe pn hz hf pins s I⟩)) pss_s).sem ?_
  intro pn xe tk
  refine (pss_cons (X := X.tr pn xe) (ps_set hN hj hx (pe_callSD (X := X.tr pn xe) (E := fun σ cls d H' => _) hF hr hg hm hk hb .nil (fun σ => passAt tk σ) pa_s hdb he hpl) hsw hff) pss_never).sem ?_
  refine ha pn xe F H σ g.fh st _ fun vs F1 H1 p1 r1 => ?_
  rw [List.append_nil]
  refine ⟨F1, ds, fun _ => False, _, hA, p1.fh, r1, fun v F' H' d hd => hd.elim, fun cls' dd H' vfs' he' hh hd0 hd1 => ?_⟩
  obtain ⟨e1, e2⟩ := he'
  subst e1 e2
  have hdF : F1 dd = none := none_of p1.fh hd0
  have pu2 : Pu F1 H1 (L2.upd F1 dd (.xd vfs')) H' := ⟨Ex.new hdF, fun b u q => by
    by_cases z : b = dd
    · subst z; rw [upd_same] at q; rw [hd1]; exact q
    · rw [upd_ne z] at q; exact hh b u (p1.fh b u q), hh, fun b q => by
    by_cases z : b = dd
    · subst z; exact .inr hd0
    · rw [upd_ne z] at q; exact .inl q⟩
  refine ⟨true, hcls, fun _ a hna oe pn2 hz hfl => ?_, fun z => by cases z⟩
  have st2 := (st.pu p1).pu pu2
  have rep : Rep X.K (L2.upd F1 dd (.xd vfs')) (.ref a) (.exc a dd fsD) := ⟨rfl, vfs', upd_same, hfs _⟩
  refine hsu a oe dd pn2 hz hfl F0 _ H' (σ.set i (some (.ref a))) ((g.pu p1).pu pu2) (st2.set rep) o.set _ ?_
  exact ⟨fun env' F H σ q g st o => q F0 F H (σ.set i none) g (st.wipe1 i) (o.un i) D s, s.rt, fun env' F H σ q g st o => s.bk _ F H _ q g (st.wipe1 i) (o.un i), fun env' F H σ q g st o => s.ct _ F H _ q g (st.wipe1 i) (o.un i), s.ro⟩
/-- e.f of a caught error -/
theorem x_xf {a' dd : Addr} {C : Addr} {oe : Obj} {fsD : List (Str × D)} {pn : List (Addr × Obj)} {f : Str} (T : XfC X.K C) (hno : PySem.W.findIn X.K (.ref C) f = some none) (hz : Zc (.ref C) (some dd) oe) (hfl : ∃ vs, oe.data = .fields vs)
    (ha : XV (X.suite a' ((a', oe) :: pn)) env e (.exc a' dd fsD)) (hl : fsD.lookup f = some d) (hb : attributeBase e f X.env (eval e X.env) = eval e X.env := by rfl) : XV (X.suite a' ((a', oe) :: pn)) env (.Attribute e f pos) d := by
  intro F H σ fh st Q q
  refine (pe_xf T hno hz hfl pe_s hb).sem ?_
  refine ha F H σ fh st _ fun v F1 H1 p1 ⟨e1, vfs, h1, h2⟩ => ?_
  obtain ⟨w, h3, h4⟩ := repF_look h2 hl
  exact ⟨e1, rfl, dd, vfs, w, rfl, p1.fh _ _ h1, h3, q w F1 H1 p1 h4⟩

/-! ### instances -/
/-- __init__ of a class whose instances are data behind it -/
abbrev AdI := List D → (List (Str × D) → Prop) → Prop
def spI (K : PySem.W.Frag) (C : Addr) (A : AdI) : Sp := fun vs H Q _ => ∃ F x dx ws ds R, vs = .ref x :: ws ∧ A ds R ∧ Ex F H ∧ Reps K F ws ds ∧ H x = some (.ins C dx []) ∧ F x = none ∧
  ∀ fs vfs F' H', R fs → Ex F F' → Ex F' H' → F' x = none → (∀ b o, b ≠ x → H b = some o → H' b = some o) → (∀ b, F' b ≠ none → F b ≠ none ∨ H b = none) → H' x = some (.ins C dx vfs) → RepF K F' vfs fs → Q .non H'
structure Mki (P : Program) (w : World) (K : PySem.W.Frag) (mg : Str → Option Value) (base : Heap) (k : Nat) (n : Str) (C : Addr) (A : AdI) : Prop where
  ex : ∃ (f : Addr) (fd : FuncData) (ps : List Str), FnOk P w K mg base CX0 k f fd ps (spI K C A) ∧ Mk K C f ∧ Binds K fd ps []
  mg : mg n = some (.ref C)
theorem x_make {C : Addr} {A : AdI} {R : List (Str × D) → Prop} {fs : List (Str × D)} (c : Mki X.prog X.w X.K X.mg X.base k n C A) (hr : Room (k + 1) X.A) (ha : XA X env (e :: es) ds) (hA : A ds R) (hR : ∀ fs', R fs' → fs' = fs) (hg : Gl X n := by rfl)
    (hdb : (n == ("__debug__" : Str)) = false := by decide) (he : starEach (e :: es) X.env = (false, eval e X.env) :: starEach es X.env := by rfl) (hpl : (backTo pos (starEach es X.env)).any (·.1) = false := by rfl) : XV X env (.Call (.Name n p) (e :: es) [] pos) (.obj C fs) := by
  intro F H σ fh st Q q
  obtain ⟨f, fd, ps, hF, hM, hb⟩ := c.ex
  refine (pe_make hM hF hr hg c.mg hb .nil pass0 pa_s hdb he hpl).sem ?_
  refine ha F H σ fh st _ fun vs F1 H1 p1 r1 => ?_
  intro x dx hx hdx ndx
  rw [List.append_nil]
  have nxd : x ≠ dx := Ne.symm ndx
  have same : ∀ b o, H1 b = some o → L2.upd (L2.upd H1 dx (.own x)) x (.ins C dx []) b = some o := fun b o h => by
    rw [upd_ne (ne_of_none h hx), upd_ne (ne_of_none h hdx)]; exact h
  refine ⟨F1, x, dx, vs, ds, R, rfl, hA, fun b o h => same b o (p1.fh b o h), r1, upd_same, none_of p1.fh hx, fun fs' vfs F2 H2 hRf f12 f2h fx hh fr hx2 rf => ⟨rfl, ?_⟩⟩
  have e' := hR fs' hRf
  subst e'
  refine q _ (L2.upd F2 x (.ins C dx vfs)) H2 (p1.trans ⟨f12.trans (Ex.new fx), fun b u qq => ?_, fun b u qq => ?_, fun b qq => ?_⟩) ⟨x, dx, vfs, rfl, upd_same, rf.mono (Ex.new fx)⟩
  · by_cases z : b = x
    · subst z; rw [upd_same] at qq; rw [hx2]; exact qq
    · rw [upd_ne z] at qq; exact f2h b u qq
  · exact hh b u (fun z => by subst z; rw [hx] at qq; cases qq) (same b u qq)
  · by_cases z : b = x
    · subst z; exact .inr hx
    · rw [upd_ne z] at qq
      rcases fr b qq with y | y
      · exact .inl y
      · rw [upd_ne z] at y
        by_cases z2 : b = dx
        · subst z2; exact .inr hdx
        · rw [upd_ne z2] at y; exact .inr y
/-- o.m(..) of an own instance, a method that changes nothing -/
structure Dm (P : Program) (w : World) (K : PySem.W.Frag) (mg : Str → Option Value) (base : Heap) (k : Nat) (m : Str) (C : Addr) (sp : Sp) : Prop where
  ex : ∃ (f : Addr) (fd : FuncData) (ps : List Str), FnOk P w K mg base CX0 k f fd ps sp ∧ Meth K C m f ∧ Binds K fd ps []
  cl : Cls K C
theorem x_meth {pl : Sem Bool} {C : Addr} {m : Str} {fs : List (Str × D)} {A : AdP} {R : D → Prop} (c : Dm X.prog X.w X.K X.mg X.base k m C (spD X.K A)) (hr : Room k X.A) (ho : XV X env a (.obj C fs)) (hm : fs.lookup m = none) (ha : XA X env (e :: es) ds) (hA : A (.obj C fs :: ds) R) (hR : ∀ d', R d' → d' = d)
    (hst : starEach (e :: es) X.env = (false, eval e X.env) :: starEach es X.env := by rfl) (hpl : (backTo pos (starEach es X.env)).any (·.1) = false := by rfl)
    (ht : eval (.Call (.Attribute a m apos) (e :: es) [] pos) X.env = (do
      let ov ← eval a X.env
      standAt apos.atName
      let (f, first) ← holding [ov] (getMethod ov m pl)
      callWith pos f first (backTo pos (starEach (e :: es) X.env)) (backToKw pos (keywordEach [] X.env))) := by rfl) : XV X env (.Call (.Attribute a m apos) (e :: es) [] pos) d := by
  intro F H σ fh st Q q
  obtain ⟨f, fd, ps, hF, hM, hb⟩ := c.ex
  refine (pe_meth pe_s c.cl hM hF hr hb .nil pass0 pa_s hst hpl ht).sem ?_
  refine ho F H σ fh st _ fun v F1 H1 p1 r1 => ?_
  obtain ⟨o, dx, vfs, e1, h1, h2⟩ := id r1
  have hl : vfs.lookup m = none := by
    have : ∀ {vfs : List (Str × V)} {fs : List (Str × D)}, RepF X.K F1 vfs fs → fs.lookup m = none → vfs.lookup m = none := by
      intro vfs fs
      induction fs generalizing vfs with
      | nil => intro h _; rw [show vfs = [] from h]; rfl
      | cons q fs ih =>
        intro ⟨v, r, e, _, h3⟩ hm
        subst e
        rw [List.lookup_cons] at hm ⊢
        cases w : m == q.1 with
        | true => rw [w] at hm; cases hm
        | false => rw [w] at hm; exact ih h3 hm
    exact this h2 hm
  refine ⟨o, dx, vfs, e1, p1.fh _ _ h1, hl, ?_⟩
  refine ha F1 H1 σ p1.fh (st.pu p1) _ fun vs F2 H2 p2 r2 => ?_
  show spD X.K A (v :: (vs ++ [])) H2 Q E0
  rw [List.append_nil]
  exact ⟨F2, .obj C fs :: ds, R, hA, p2.fh, ⟨v, vs, rfl, r1.mono p2.ff, r2⟩, fun u F3 H3 d' hd p3 r3 => q u F3 H3 ((p1.trans p2).trans p3) (hR d' hd ▸ r3)⟩
theorem x_meth0 {pl : Sem Bool} {C : Addr} {m : Str} {fs : List (Str × D)} {A : AdP} {R : D → Prop} (c : Dm X.prog X.w X.K X.mg X.base k m C (spD X.K A)) (hr : Room k X.A) (ho : XV X env a (.obj C fs)) (hm : fs.lookup m = none) (hA : A [.obj C fs] R) (hR : ∀ d', R d' → d' = d)
    (ht : eval (.Call (.Attribute a m apos) [] [] pos) X.env = (do
      let ov ← eval a X.env
      standAt apos.atName
      let (f, first) ← holding [ov] (getMethod ov m pl)
      callWith pos f first (backTo pos (starEach [] X.env)) (backToKw pos (keywordEach [] X.env))) := by rfl) : XV X env (.Call (.Attribute a m apos) [] [] pos) d := by
  intro F H σ fh st Q q
  obtain ⟨f, fd, ps, hF, hM, hb⟩ := c.ex
  refine (pe_meth0 pe_s c.cl hM hF hr hb .nil pass0 ht).sem ?_
  refine ho F H σ fh st _ fun v F1 H1 p1 r1 => ?_
  obtain ⟨o, dx, vfs, e1, h1, h2⟩ := id r1
  have hl : vfs.lookup m = none := by
    have : ∀ {vfs : List (Str × V)} {fs : List (Str × D)}, RepF X.K F1 vfs fs → fs.lookup m = none → vfs.lookup m = none := by
      intro vfs fs
      induction fs generalizing vfs with
      | nil => intro h _; rw [show vfs = [] from h]; rfl
      | cons q fs ih =>
        intro ⟨v, r, e, _, h3⟩ hm
        subst e
        rw [List.lookup_cons] at hm ⊢
        cases w : m == q.1 with
        | true => rw [w] at hm; cases hm
        | false => rw [w] at hm; exact ih h3 hm
    exact this h2 hm
  refine ⟨o, dx, vfs, e1, p1.fh _ _ h1, hl, ?_⟩
  show spD X.K A (v :: ([] ++ [])) H1 Q E0
  exact ⟨F1, [.obj C fs], R, hA, p1.fh, ⟨v, [], rfl, r1, rfl⟩, fun u F3 H3 d' hd p3 r3 => q u F3 H3 (p1.trans p3) (hR d' hd ▸ r3)⟩
end
end Y

namespace Y
open PySem PySem.Spec PyProof.Rows L2
open Evl (Ex)
section
variable {P : Program} {w : World} {K : PySem.W.Frag} {mg : Str → Option Value} {base : Heap} {j k : Nat} {n : Str} {sp : Sp}
theorem Dn.mono (c : Dn P w K mg base j n sp) (h : j ≤ k) : Dn P w K mg base k n sp := by
  obtain ⟨f, fd, ps, hF, r⟩ := c.ex
  exact ⟨f, fd, ps, hF.mono h, r⟩
theorem Dx.mono (c : Dx P w K mg base j n sp) (h : j ≤ k) : Dx P w K mg base k n sp := by
  obtain ⟨f, fd, ps, hF, r⟩ := c.ex
  exact ⟨f, fd, ps, hF.mono h, r⟩
theorem Dm.mono {C : Addr} (c : Dm P w K mg base j n C sp) (h : j ≤ k) : Dm P w K mg base k n C sp := by
  obtain ⟨f, fd, ps, hF, r⟩ := c.ex
  exact ⟨⟨f, fd, ps, hF.mono h, r⟩, c.cl⟩
theorem Mki.mono {C : Addr} {A : AdI} (c : Mki P w K mg base j n C A) (h : j ≤ k) : Mki P w K mg base k n C A := by
  obtain ⟨f, fd, ps, hF, r⟩ := c.ex
  exact ⟨⟨f, fd, ps, hF.mono h, r⟩, c.mg⟩
end
section
variable {X : Cx} {env : En} {a b c e : Expr} {es : List Expr} {d x y z : D} {ds xs : List D} {pos p p2 : Pos} {n : Str}
theorem x_mulS {i j : Int} (ha : XV X env a (.int i)) (hb : XV X env b (.int j)) (hc : CMul i j) : XV X env (.BinOp a .Mult b pos) (.int (i * j)) := x_bin op_mul (od_I hc fun _ => rfl) ha hb
theorem reps_len {K : PySem.W.Frag} {F : Hp} {vs : List V} {ds : List D} (r : Reps K F vs ds) : vs.length = ds.length := r.length
theorem cut_all (xs : List D) (lo hi : Option Int) (h : HT.sIx xs.length 0 lo = 0 ∧ HT.sIx xs.length xs.length hi = xs.length) : cutD xs lo hi = xs := by
  unfold cutD
  rw [h.1, h.2, List.drop_zero, Nat.sub_zero, List.take_length]
theorem x_sliceT {lo hi : Option Expr} {l h : Option Int} (ha : XV X env a (.tup ds)) (hl : XO X env lo l) (hh : XO X env hi h) : XV X env (.Subscript a (.Slice lo hi none p2) pos) (.tup (cutD ds l h)) := by
  intro F H σ fh st Q q
  refine (pe_slice sl_tupA pe_s po_s po_s).sem ?_
  refine ha F H σ fh st _ fun v F1 H1 p1 ⟨ad, vs, e1, h1, h2⟩ => ?_
  refine o_run hl p1.fh (st.pu p1) fun F2 H2 p2 => ?_
  refine o_run hh p2.fh ((st.pu p1).pu p2) fun F3 H3 p3 => ?_
  have pp := (p1.trans p2).trans p3
  have q2 := (p2.trans p3).ff
  refine ⟨ad, vs, e1, Evl.ex_t (q2.trans p3.fh) h1, fun hw => ?_, fun _ t ht => (q.pu pp).tup p3.fh ((reps_cut h2 l h).mono q2) ht⟩
  refine q _ F3 H3 pp ⟨ad, vs, rfl, Evl.ex_t q2 h1, ?_⟩
  rw [h2.length] at hw
  rw [cut_all _ _ _ hw]
  exact h2.mono q2
theorem reps_rg {K : PySem.W.Frag} {F : Hp} {a b : Int} : Reps K F (rgV a b) ((List.range (b - a).toNat).map fun (i : Nat) => D.int (a + i)) := by
  have := Reps.of_ints (K := K) (F := F) (ns := (List.range (b - a).toNat).map fun (i : Nat) => a + (i : Int))
  rw [List.map_map, List.map_map] at this
  exact this
theorem x_listRg1 {n : Int} (hc : X.calm = true) (ha : XV X env a (.int n)) (hn : RgOk 0 n) (hg : Gl X "list" := by rfl) (hm : X.mg "list" = none := by assumption) (hg2 : Gl X "range" := by rfl) (hm2 : X.mg "range" = none := by assumption)
    (he : starEach [a] X.env = (false, eval a X.env) :: starEach [] X.env := by rfl) (he2 : starEach [.Call (.Name "range" p2) [a] [] pos] X.env = (false, eval (.Call (.Name "range" p2) [a] [] pos) X.env) :: starEach [] X.env := by rfl) {p3 pos3 : Pos} :
    XV X env (.Call (.Name "list" p3) [.Call (.Name "range" p2) [a] [] pos] [] pos3) (.lst ((List.range n.toNat).map fun (i : Nat) => D.int i)) := by
  intro F H σ fh st Q q
  refine (pe_listRg hc hg hm (prg_1 hg2 hm2 pe_s he) he2).sem ?_
  refine ha F H σ fh st _ fun v F1 H1 p1 r1 => ?_
  refine ⟨n, r1, hn, fun t ht => (q.pu p1).lst p1.fh ?_ ht⟩
  have := reps_rg (K := X.K) (F := F1) (a := 0) (b := n)
  rw [Int.sub_zero] at this
  simpa using this
theorem x_listRg2 {m n : Int} (hc : X.calm = true) (ha : XV X env a (.int m)) (hb : XV X env b (.int n)) (hn : RgOk m n) (hg : Gl X "list" := by rfl) (hm : X.mg "list" = none := by assumption) (hg2 : Gl X "range" := by rfl) (hm2 : X.mg "range" = none := by assumption)
    (he : starEach [a, b] X.env = (false, eval a X.env) :: starEach [b] X.env := by rfl) (he' : starEach [b] X.env = (false, eval b X.env) :: starEach [] X.env := by rfl) (hpl : (backTo pos (starEach [b] X.env)).any (·.1) = false := by rfl)
    (he2 : starEach [.Call (.Name "range" p2) [a, b] [] pos] X.env = (false, eval (.Call (.Name "range" p2) [a, b] [] pos) X.env) :: starEach [] X.env := by rfl) {p3 pos3 : Pos} :
    XV X env (.Call (.Name "list" p3) [.Call (.Name "range" p2) [a, b] [] pos] [] pos3) (.lst ((List.range (n - m).toNat).map fun (i : Nat) => D.int (m + i))) := by
  intro F H σ fh st Q q
  refine (pe_listRg hc hg hm (prg_2 hg2 hm2 pe_s pe_s he he' hpl) he2).sem ?_
  refine ha F H σ fh st _ fun v F1 H1 p1 r1 => ?_
  refine hb F1 H1 σ p1.fh (st.pu p1) _ fun v2 F2 H2 p2 r2 => ?_
  exact ⟨m, n, r1, r2, hn, fun t ht => (q.pu (p1.trans p2)).lst p2.fh reps_rg ht⟩
end
/-! ### __init__ -/
section
variable {P : Program} {w : World} {K : PySem.W.Frag} {mg : Str → Option Value} {base : Heap} {x qual : Str} {st : Stmt} {f : Addr} {fd : FuncData} {N ps : List Str} {k : Nat}
/-- def __init__(self, a ..): self.fl = e -/
theorem fnI1 {A : AdI} {C : Addr} {fl sn : Str} {e : Expr} {p p' pos : Pos} (F : Fun K x qual st f fd) (S : FnScope N ps (defScope st)) (hd : defBody st = [.Assign [.Attribute (.Name sn p) fl p'] e pos]) (cl : Cls K C) (na : NoAttr K C fl) (hsn : N[0]? = some sn)
    (hsn1 : (sn == ("__debug__" : Str)) = false) (hsn2 : (sn == ("__classdict__" : Str)) = false) (hl : ∀ ds R, A ds R → ds.length + 1 = ps.length) (hpN : ps.length ≤ N.length)
    (hv : ∀ (cdv : Value) (A' : Around) (outer : List Env) (s : Shared) (H : Hp) (E : XK), Vis (fnX K P w mg base N qual st f cdv A' outer s H E).env.scope sn ∧ swapsWith e (some (.Attribute (.Name sn p) fl p')) pos.line (fnX K P w mg base N qual st f cdv A' outer s H E).env = pure false)
    (body : ∀ (cdv : Value) (A' : Around) (outer : List Env) (s : Shared) (H : Hp) (E : XK), Room k (A'.deeper (envOfC qual (defScope st) s.heap.objs.size f cdv)) → ∀ ds R, A ds R →
      ∃ d, XV (fnX K P w mg base N qual st f cdv A' outer s H E) (Slot.un :: (ds.map Slot.dat ++ List.replicate (N.length - 1 - ds.length) Slot.un)) e d ∧ R [(fl, d)]) : FnOk P w K mg base CX0 (k + 1) f fd ps (spI K C A) := by
  refine F.ok S (fun vs H Q E h => ?_) (fun cdv A' outer s H vs Q E hr h => ?_)
  · obtain ⟨F, x, dx, ws, ds, R, rfl, hA, fh, r, _⟩ := h
    rw [List.length_cons, r.length]
    exact hl ds R hA
  · obtain ⟨F0, o, dx, ws, ds, R, rfl, hA, fh, r, h1, h2, q⟩ := h
    obtain ⟨hvis, hsw⟩ := hv cdv A' outer s H E
    have hps := hl ds R hA
    obtain ⟨d, hb, hR⟩ := body cdv A' outer s H E hr ds R hA
    rw [hd]
    refine ⟨_, pss_cons (ps_fld (pe_var (i := 0) hsn hvis hsn1 hsn2) pe_s hsw) pss_nil, ?_⟩
    have hN : N.length = (N.length - 1) + 1 := by omega
    have hst : L2.start N (.ref o :: ws) = some (.ref o) :: (ws.map some ++ List.replicate (N.length - 1 - ws.length) none) := by
      unfold L2.start
      rw [List.map_cons, List.length_cons, Nat.sub_sub, Nat.add_comm 1 ws.length]
      rfl
    refine hb F0 H (L2.start N (.ref o :: ws)) fh ?_ _ fun v F1 H1 p1 r1 => ?_
    · rw [hst]
      have := sts_entry (K := K) (F := F0) (H := H) (N := List.replicate (N.length - 1) "") r (by rw [List.length_replicate, r.length]; omega)
      unfold L2.start entry at this
      rw [List.length_replicate] at this
      refine ⟨by rw [List.length_cons, List.length_cons, this.len], fun i s o' e1 e2 => ?_, ?_⟩
      · cases i with
        | zero =>
          rw [List.getElem?_cons_zero] at e1 e2
          cases e1
          trivial
        | succ i =>
          rw [List.getElem?_cons_succ] at e1 e2
          exact this.ok i s o' e1 e2
      · intro i j s t p e1 e2 m1 m2 _ _
        exfalso
        have : ∀ {i : Nat} {s : Slot}, (Slot.un :: (ds.map Slot.dat ++ List.replicate (N.length - 1 - ds.length) Slot.un))[i]? = some s → s.mu = none := by
          intro i s e
          rcases List.mem_cons.mp (List.mem_of_getElem? e) with h | h
          · rw [h]; rfl
          rcases List.mem_append.mp h with h | h
          · obtain ⟨d, _, hd⟩ := List.mem_map.mp h
            rw [← hd]; rfl
          · rw [(List.mem_replicate.mp h).2]; rfl
        exact m1 (this e1)
    · refine ⟨.ref o, by rw [hst]; rfl, o, C, dx, [], rfl, p1.hh _ _ h1, cl, na, by decide, ?_⟩
      have hF1 : F1 o = none := by
        cases z : F1 o with
        | none => rfl
        | some u =>
          rcases p1.fr o (by rw [z]; exact fun t => by cases t) with t | t
          · exact absurd h2 t
          · rw [h1] at t; cases t
      refine q _ [(fl, v)] F1 _ hR p1.ff (Evl.Ex.mut p1.fh hF1) hF1 (fun b u hb hu => by rw [upd_ne hb]; exact p1.hh _ _ hu) p1.fr upd_same ⟨v, [], rfl, r1, rfl⟩
/-- def __init__(self, a, b): self.f1 = a; self.f2 = b, of an exception class -/
theorem fnI2 {C : Addr} {f1 f2 sn a1 a2 : Str} {p p' p2 p2' pa pb pos pos2 : Pos} (F : Fun K x qual st f fd) (S : FnScope N ps (defScope st)) (hd : defBody st = [.Assign [.Attribute (.Name sn p) f1 p'] (.Name a1 pa) pos, .Assign [.Attribute (.Name sn p2) f2 p2'] (.Name a2 pb) pos2])
    (T : OexC K C) (n1 : PySem.W.findIn K (.ref C) f1 = some none) (n2 : PySem.W.findIn K (.ref C) f2 = some none) (hN : N = [sn, a1, a2]) (hps : ps.length = 3)
    (h1 : (sn == ("__debug__" : Str)) = false ∧ (sn == ("__classdict__" : Str)) = false) (h2 : (a1 == ("__debug__" : Str)) = false ∧ (a1 == ("__classdict__" : Str)) = false) (h3 : (a2 == ("__debug__" : Str)) = false ∧ (a2 == ("__classdict__" : Str)) = false)
    (hv : ∀ (cdv : Value) (A' : Around) (outer : List Env) (s : Shared) (H : Hp) (E : XK), Vis (fnX K P w mg base N qual st f cdv A' outer s H E).env.scope sn ∧ Vis (fnX K P w mg base N qual st f cdv A' outer s H E).env.scope a1 ∧ Vis (fnX K P w mg base N qual st f cdv A' outer s H E).env.scope a2 ∧
      swapsWith (.Name a1 pa) (some (.Attribute (.Name sn p) f1 p')) pos.line (fnX K P w mg base N qual st f cdv A' outer s H E).env = pure false ∧ swapsWith (.Name a2 pb) (some (.Attribute (.Name sn p2) f2 p2')) pos2.line (fnX K P w mg base N qual st f cdv A' outer s H E).env = pure false) :
    FnOk P w K mg base CX0 (k + 1) f fd ps (spI2 C f1 f2) := by
  refine F.ok S (fun vs H Q E h => ?_) (fun cdv A' outer s H vs Q E hr h => ?_)
  · obtain ⟨a, v1, v2, rfl, _⟩ := h
    rw [hps]; rfl
  · obtain ⟨a, v1, v2, rfl, h0, q⟩ := h
    obtain ⟨w1, w2, w3, s1, s2⟩ := hv cdv A' outer s H E
    subst hN
    rw [hd]
    refine ⟨_, pss_cons (ps_ost (pe_var (i := 0) rfl w1 h1.1 h1.2) (pe_var (i := 1) rfl w2 h2.1 h2.2) s1) (pss_cons (ps_ost (pe_var (i := 0) rfl w1 h1.1 h1.2) (pe_var (i := 2) rfl w3 h3.1 h3.2) s2) pss_nil), ?_⟩
    refine ⟨v1, rfl, .ref a, rfl, a, C, rfl, T, n1, .inl ⟨h0, fun dx hdx hne => ?_⟩⟩
    refine ⟨v2, rfl, .ref a, rfl, a, C, rfl, T, n2, .inr ⟨dx, [(f1, v1)], ?_, ?_, by show 1 ≤ 900; decide, ?_⟩⟩
    · exact upd_same
    · rw [upd_ne hne]; exact upd_same
    · refine q _ dx hdx ?_ upd_same fun b hb hbd => ?_
      · rw [upd_ne (fun z => hne z.symm)]; exact upd_same
      · rw [upd_ne hbd, upd_ne hb, upd_ne hbd]
end
end Y

namespace Y
open PySem PySem.Spec PyProof.Rows L2
open Evl (Ex)
section
variable {X : Cx} {M : Wd} {env : En} {a b c e elt tg iter tg1 iter1 : Expr} {ifs ifs1 es : List Expr} {d x y z : D} {ds : List D} {pos p p2 : Pos} {n : Str} {scope : Scope} {vs vs1 js js1 : List Nat} {rest : List Stmt} {R : Rs}
def XLc2 (X : Cx) (env : En) (scope : Scope) (vs vs1 : List Nat) (elt tg iter : Expr) (ifs : List Expr) (tg1 iter1 : Expr) (ifs1 : List Expr) (d : D) : Prop := ∀ (F H : Hp) (σ : L2.St) (Q : VK), Ex F H → Sts X.K F H env σ → Wants X.K F H d Q →
  tLc2 (tSemI X tg iter) (tAllG X scope tg) (tAllTs X scope ifs) (tAllI X scope tg1 iter1) (tAllG X scope tg1) (tAllTs X scope ifs1) (tAllE X scope elt) vs vs1 σ H Q
theorem XLc2.to {d' : D} (h : XLc2 X env scope vs vs1 elt tg iter ifs tg1 iter1 ifs1 d) (q : d = d') : XLc2 X env scope vs vs1 elt tg iter ifs tg1 iter1 ifs1 d' := q ▸ h
theorem XLc.to {d' : D} (h : XLc X env scope vs elt tg iter ifs d) (q : d = d') : XLc X env scope vs elt tg iter ifs d' := q ▸ h
theorem filter_t {α : Type} (xs : List α) : xs.filter (fun _ => true) = xs := List.filter_eq_self.mpr fun _ _ => rfl
theorem l_all2 {α β : Type} {xs : List α} {enc : α → D} {env1 : α → En} {ys : α → List β} {enc2 : α → β → D} {f : α → β → D} {env2 : α → β → En}
    (hi : XI X env tg iter (xs.map enc)) (hlen : (xs.flatMap fun x => (ys x).map (f x)).length < sizeLine) (hj : ∀ k ∈ js, k ∈ vs) (hj1 : ∀ k ∈ js1, k ∈ vs1) (hv : ∀ k ∈ vs1, k ∈ vs)
    (hg : ∀ x ∈ xs, ∀ (s : Shared) (H0 : Hp) (C : Addr) (cl : List (Str × Addr)) (fp : List Addr), XG (X.blk s H0 scope (compEnvC scope cl C X.env) fp) (wipeE env vs) tg (enc x) (env1 x) js)
    (hi1 : ∀ x ∈ xs, ∀ (s : Shared) (H0 : Hp) (C : Addr) (cl : List (Str × Addr)) (fp : List Addr), XI (X.blk s H0 scope (compEnvC scope cl C X.env) fp) (env1 x) tg1 iter1 ((ys x).map (enc2 x)))
    (hg1 : ∀ x ∈ xs, ∀ y ∈ ys x, ∀ (s : Shared) (H0 : Hp) (C : Addr) (cl : List (Str × Addr)) (fp : List Addr), XG (X.blk s H0 scope (compEnvC scope cl C X.env) fp) (wipeE (env1 x) vs1) tg1 (enc2 x y) (env2 x y) js1)
    (he : ∀ x ∈ xs, ∀ y ∈ ys x, ∀ (s : Shared) (H0 : Hp) (C : Addr) (cl : List (Str × Addr)) (fp : List Addr), XV (X.blk s H0 scope (compEnvC scope cl C X.env) fp) (env2 x y) elt (f x y)) :
    XLc2 X env scope vs vs1 elt tg iter [] tg1 iter1 [] (.lst (xs.flatMap fun x => (ys x).map (f x))) := by
  intro F H σ Q fh st q
  have e1 : ((xs.filter fun _ => true).flatMap fun x => ((ys x).filter fun _ => true).map (f x)) = xs.flatMap fun x => (ys x).map (f x) := by
    rw [filter_t]
    simp only [filter_t]
  exact lc2_data (b := fun _ => true) (b2 := fun _ _ => true) hi (by rw [e1]; exact hlen) hj hj1 hv hg (fun _ _ _ _ _ _ _ => ts_nil) (fun x hx _ => hi1 x hx) (fun x hx _ => hg1 x hx) (fun _ _ _ _ _ _ _ _ _ _ => ts_nil) (fun x hx _ y hy _ => he x hx y hy) fh st (by rw [e1]; exact q)
theorem l_if2 {α β : Type} {xs : List α} {enc : α → D} {b : α → Bool} {env1 : α → En} {ys : α → List β} {enc2 : α → β → D} {b2 : α → β → Bool} {f : α → β → D} {env2 : α → β → En}
    (hi : XI X env tg iter (xs.map enc)) (hlen : ((xs.filter b).flatMap fun x => ((ys x).filter (b2 x)).map (f x)).length < sizeLine) (hj : ∀ k ∈ js, k ∈ vs) (hj1 : ∀ k ∈ js1, k ∈ vs1) (hv : ∀ k ∈ vs1, k ∈ vs)
    (hg : ∀ x ∈ xs, ∀ (s : Shared) (H0 : Hp) (C : Addr) (cl : List (Str × Addr)) (fp : List Addr), XG (X.blk s H0 scope (compEnvC scope cl C X.env) fp) (wipeE env vs) tg (enc x) (env1 x) js)
    (ht : ∀ x ∈ xs, ∀ (s : Shared) (H0 : Hp) (C : Addr) (cl : List (Str × Addr)) (fp : List Addr), XTs (X.blk s H0 scope (compEnvC scope cl C X.env) fp) (env1 x) ifs (b x))
    (hi1 : ∀ x ∈ xs, b x = true → ∀ (s : Shared) (H0 : Hp) (C : Addr) (cl : List (Str × Addr)) (fp : List Addr), XI (X.blk s H0 scope (compEnvC scope cl C X.env) fp) (env1 x) tg1 iter1 ((ys x).map (enc2 x)))
    (hg1 : ∀ x ∈ xs, b x = true → ∀ y ∈ ys x, ∀ (s : Shared) (H0 : Hp) (C : Addr) (cl : List (Str × Addr)) (fp : List Addr), XG (X.blk s H0 scope (compEnvC scope cl C X.env) fp) (wipeE (env1 x) vs1) tg1 (enc2 x y) (env2 x y) js1)
    (ht1 : ∀ x ∈ xs, b x = true → ∀ y ∈ ys x, ∀ (s : Shared) (H0 : Hp) (C : Addr) (cl : List (Str × Addr)) (fp : List Addr), XTs (X.blk s H0 scope (compEnvC scope cl C X.env) fp) (env2 x y) ifs1 (b2 x y))
    (he : ∀ x ∈ xs, b x = true → ∀ y ∈ ys x, b2 x y = true → ∀ (s : Shared) (H0 : Hp) (C : Addr) (cl : List (Str × Addr)) (fp : List Addr), XV (X.blk s H0 scope (compEnvC scope cl C X.env) fp) (env2 x y) elt (f x y)) :
    XLc2 X env scope vs vs1 elt tg iter ifs tg1 iter1 ifs1 (.lst ((xs.filter b).flatMap fun x => ((ys x).filter (b2 x)).map (f x))) :=
  fun F H σ Q fh st q => lc2_data hi hlen hj hj1 hv hg ht hi1 hg1 ht1 he fh st q
theorem x_lcc {d : D} (own : List (Str × Nat)) (vs1 : List Nat) (hv : ∀ i ∈ vs1, i ∈ own.map (·.2)) (hc : X.calm = true) (hN : X.N.Nodup) (ok : BlkOk X.N X.env.scope scope own) (h : XLc2 X env scope (own.map (·.2)) vs1 elt tg iter ifs tg1 iter1 ifs1 d)
    (hs : ∀ x, foldedSetIterable iter X.env x = pure x := by intro _; rfl) (hs1 : ∀ env x, foldedSetIterable iter1 env x = pure x := by intro _ _; rfl) : XV X env (.ListComp elt [⟨tg, iter, ifs, 0⟩, ⟨tg1, iter1, ifs1, 0⟩] scope pos) d := by
  intro F H σ fh st Q q
  refine (pe_lc2 (vs1 := vs1) (g := tAllG X scope tg) (tt := tAllTs X scope ifs) (wi1 := tAllI X scope tg1 iter1) (g1 := tAllG X scope tg1) (tt1 := tAllTs X scope ifs1) (te := tAllE X scope elt) hc hN pi_s ok hv (fun s0 H0 C cl fp => ⟨fun pins s σ H v u Q I r h => h s0 H0 C cl fp pins s u I r⟩) (fun s0 H0 C cl fp => ⟨fun pins s σ H Q I h => h s0 H0 C cl fp pins s I⟩)
    (fun s0 H0 C cl fp => ⟨fun pins s σ H Q I h => h s0 H0 C cl fp pins s I⟩) (fun s0 H0 C cl fp => ⟨fun pins s σ H v u Q I r h => h s0 H0 C cl fp pins s u I r⟩) (fun s0 H0 C cl fp => ⟨fun pins s σ H Q I h => h s0 H0 C cl fp pins s I⟩) (fun s0 H0 C cl fp => ⟨fun pins s σ H Q I h => h s0 H0 C cl fp pins s I⟩) hs hs1).sem ?_
  exact h F H σ Q fh st q
theorem s_setLc2 (i : Nat) (own : List (Str × Nat)) (vs1 : List Nat) (hv : ∀ i ∈ vs1, i ∈ own.map (·.2)) (hc : X.calm = true) (hN : X.N.Nodup) (ok : BlkOk X.N X.env.scope scope own) (he : XLc2 X env scope (own.map (·.2)) vs1 elt tg iter ifs tg1 iter1 ifs1 d) (h : XS X M (env.set i (.dat d)) rest R)
    (hsw : swapsWith (.ListComp elt [⟨tg, iter, ifs, 0⟩, ⟨tg1, iter1, ifs1, 0⟩] scope pos) (some (.Name n p)) p2.line X.env = pure true) (hi : X.N[i]? = some n := by rfl) (hyl : X.env.scope.names.lookup n = some .local := by rfl)
    (hs : ∀ x, foldedSetIterable iter X.env x = pure x := by intro _; rfl) (hs1 : ∀ env x, foldedSetIterable iter1 env x = pure x := by intro _ _; rfl) : XS X M env (.Assign [.Name n p] (.ListComp elt [⟨tg, iter, ifs, 0⟩, ⟨tg1, iter1, ifs1, 0⟩] scope pos) p2 :: rest) R := by
  intro F0 F H σ g st o D s
  refine (pss_cons (ps_setLc2 (vs1 := vs1) (g := tAllG X scope tg) (tt := tAllTs X scope ifs) (wi1 := tAllI X scope tg1 iter1) (g1 := tAllG X scope tg1) (tt1 := tAllTs X scope ifs1) (te := tAllE X scope elt) hc hN hi hyl hsw pi_s ok hv (fun s0 H0 C cl fp => ⟨fun pins s σ H v u Q I r h => h s0 H0 C cl fp pins s u I r⟩) (fun s0 H0 C cl fp => ⟨fun pins s σ H Q I h => h s0 H0 C cl fp pins s I⟩)
    (fun s0 H0 C cl fp => ⟨fun pins s σ H Q I h => h s0 H0 C cl fp pins s I⟩) (fun s0 H0 C cl fp => ⟨fun pins s σ H v u Q I r h => h s0 H0 C cl fp pins s u I r⟩) (fun s0 H0 C cl fp => ⟨fun pins s σ H Q I h => h s0 H0 C cl fp pins s I⟩) (fun s0 H0 C cl fp => ⟨fun pins s σ H Q I h => h s0 H0 C cl fp pins s I⟩) hs hs1) pss_s).sem ?_
  exact he F H σ (fun x H1 => gName i x σ H1 (fun σ' H' => tSemS X rest D σ' H')) g.fh st fun v F1 H1 p1 r1 => h F0 F1 H1 _ (g.pu p1) ((st.pu p1).set r1) o.set D s
end
end Y

namespace Y
open PySem PySem.Spec PyProof.Rows L2
open Evl (Ex)
/-! ### defs that return a list of their own -/
abbrev AdO := List D → (List D → Prop) → Prop
def spO (K : PySem.W.Frag) (A : AdO) : Sp := fun vs H Q _ => ∃ F ds R, A ds R ∧ Ex F H ∧ Reps K F vs ds ∧ ∀ p ws F' H' bx, R bx → Pu F H F' H' → H' p = none → Reps K F' ws bx → Q (.ref p) (L2.upd H' p (.lst ws))
section
variable {P : Program} {w : World} {K : PySem.W.Frag} {mg : Str → Option Value} {base : Heap} {x qual : Str} {st : Stmt} {f : Addr} {fd : FuncData} {N ps : List Str} {k : Nat}
theorem fnO {A : AdO} (F : Fun K x qual st f fd) (S : FnScope N ps (defScope st)) (hl : ∀ ds R, A ds R → ds.length = ps.length) (hpN : ps.length ≤ N.length)
    (body : ∀ (cdv : Value) (A' : Around) (outer : List Env) (s : Shared) (H : Hp) (E : XK), Room k (A'.deeper (envOfC qual (defScope st) s.heap.objs.size f cdv)) → ∀ ds R, A ds R →
      XS (fnX K P w mg base N qual st f cdv A' outer s H E) ⟨fun _ => False, H⟩ (entry ds N.length) (defBody st) { nx := fun _ => False, rt := fun _ _ => False, ro := fun bx _ => R bx }) : FnOk P w K mg base CX0 (k + 1) f fd ps (spO K A) := by
  refine F.ok S (fun vs H Q E h => ?_) (fun cdv A' outer s H vs Q E hr h => ?_)
  · obtain ⟨F, ds, R, hA, fh, r, _⟩ := h
    rw [r.length]
    exact hl ds R hA
  · obtain ⟨F0, ds, R, hA, fh, r, q⟩ := h
    refine ⟨tSemS _ (defBody st), pss_s, ?_⟩
    refine body cdv A' outer s H E hr ds R hA F0 F0 H (L2.start N vs) (Gw.refl fh) (sts_entry r (by rw [r.length, hl ds R hA]; exact hpN)) (fun i p => ⟨fun ds e => absurd (no_mu e) (fun z => by cases z), fun ds e => absurd (no_mu e) (fun z => by cases z)⟩) _ ?_
    exact ⟨fun env F H' σ hd g st o => hd.elim, fun d env v F H' σ hd g st o rv => hd.elim, fun env F H' σ hd => hd.elim, fun env F H' σ hd => hd.elim, fun bx env p vs F H' σ hd g st o hp r => q p vs F H' bx hd g.pure hp r⟩
end
section
variable {X : Cx} {M : Wd} {env : En} {a b c e : Expr} {es : List Expr} {d x y z : D} {ds xs : List D} {pos p p2 p3 : Pos} {rest : List Stmt} {R : Rs} {n m : Str} {k : Nat}
theorem own_new {F0 F H : Hp} {σ : L2.St} {l : Addr} {vs : List V} {i : Nat} (g : Gw M.m F0 M.h F H) (st : Sts X.K F H env σ) (o : Own M.m M.h env σ) (hl' : H l = none) (r : Reps X.K F vs ds) (hi' : i < env.length) :
    Gw M.m F0 M.h F (L2.upd H l (.lst vs)) ∧ Sts X.K F (L2.upd H l (.lst vs)) (env.set i (.own ds)) (σ.set i (some (.ref l))) ∧ Own M.m M.h (env.set i (.own ds)) (σ.set i (some (.ref l))) := by
  have h0 : M.h l = none := by
    cases q : M.h l with
    | none => rfl
    | some u => exact absurd hl' (g.th l (by rw [q]; exact fun z => by cases z))
  exact ⟨g.pu (Pu.new' g.fh hl'), st.newO r hl' g.fh hi', o.newO h0 hi' st.len⟩
/-- m = f(..), f returns a list of its own -/
theorem s_callO (i : Nat) {A : AdO} {RO : List D → Prop} (c : Dn X.prog X.w X.K X.mg X.base k n (spO X.K A)) (hr : Room k X.A) (ha : XA X env (e :: es) ds) (hA : A ds RO) (hi' : i < env.length) (h : ∀ bx, RO bx → XS X M (env.set i (.own bx)) rest R)
    (hN : X.N.Nodup := by assumption) (hi : X.N[i]? = some m := by rfl) (hx : Loc X.env.scope m := by first | exact Or.inl rfl | exact Or.inr rfl)
    (hs : swapsWith (.Call (.Name n p) (e :: es) [] pos) (some (.Name m p2)) p3.line X.env = pure false := by rfl) (hf : X.fn m = true ∨ X.env.scope.names.lookup m = some .local := by first | exact Or.inl rfl | exact Or.inr rfl) (hg : Gl X n := by rfl)
    (hdb : (n == ("__debug__" : Str)) = false := by decide) (he : starEach (e :: es) X.env = (false, eval e X.env) :: starEach es X.env := by rfl) (hpl : (backTo pos (starEach es X.env)).any (·.1) = false := by rfl) : XS X M env (.Assign [.Name m p2] (.Call (.Name n p) (e :: es) [] pos) p3 :: rest) R := by
  intro F0 F H σ g st o D s
  obtain ⟨f, fd, ps, hF, hm, hk, hb⟩ := c.ex
  refine (pss_cons (ps_set hN hi hx (pe_call hF hr hg hm hk hb .nil pass0 pa_s hdb he hpl) hs hf) pss_s).sem ?_
  refine ha F H σ g.fh st _ fun vs F1 H1 p1 r1 => ?_
  rw [List.append_nil]
  refine ⟨F1, ds, RO, hA, p1.fh, r1, fun l ws F2 H2 bx hb' p2 hl' r2 => ?_⟩
  have g2 := (g.pu p1).pu p2
  have st2 := (st.pu p1).pu p2
  obtain ⟨q1, q2, q3⟩ := own_new (X := X) g2 st2 o hl' r2 hi'
  exact h bx hb' F0 F2 _ _ q1 q2 q3 D s
/-- m = list(..), a list that will change -/
theorem s_setOl (i : Nat) (ha : XV X env a x) (hl : seqD x = some xs) (hi' : i < env.length) (h : XS X M (env.set i (.own xs)) rest R) (hN : X.N.Nodup := by assumption) (hi : X.N[i]? = some m := by rfl) (hx : Loc X.env.scope m := by first | exact Or.inl rfl | exact Or.inr rfl)
    (hs : swapsWith (.Call (.Name "list" p) [a] [] pos) (some (.Name m p2)) p3.line X.env = pure false := by rfl) (hf : X.fn m = true ∨ X.env.scope.names.lookup m = some .local := by first | exact Or.inl rfl | exact Or.inr rfl) (hg : Gl X "list" := by rfl) (hm : X.mg "list" = none := by assumption)
    (he : starEach [a] X.env = (false, eval a X.env) :: starEach [] X.env := by rfl) : XS X M env (.Assign [.Name m p2] (.Call (.Name "list" p) [a] [] pos) p3 :: rest) R := by
  intro F0 F H σ g st o D s
  refine (pss_cons (ps_set hN hi hx (pe_callTy call_list_of hg hm (by decide +kernel) pa_s (by decide +kernel) (by decide +kernel) he (by rfl)) hs hf) pss_s).sem ?_
  refine (a_cons ha a_nil he) F H σ g.fh st _ fun vs F1 H1 p1 r1 => ?_
  obtain ⟨v, rfl, r2⟩ := reps1 r1
  obtain ⟨l, us, rfl, h1, h2⟩ := seqD_at hl r2
  refine ⟨l, us, rfl, h1.elim (fun z => .inr (Evl.ex_t p1.fh z)) (fun z => .inl (Evl.ex_l p1.fh z)), fun l' hl' => ?_⟩
  obtain ⟨q1, q2, q3⟩ := own_new (X := X) (g.pu p1) (st.pu p1) o hl' h2 hi'
  exact h F0 F1 _ _ q1 q2 q3 D s
end
end Y

namespace Y
open PySem PySem.Spec PyProof.Rows L2
open Evl (Ex)
section
variable {X : Cx} {M : Wd} {env : En} {d x y z : D} {pos p p2 p3 : Pos} {rest : List Stmt} {R : Rs} {n m : Str} {k : Nat}
/-- for over a list that a drawing expression tells -/
theorem s_forE {tg iter : Expr} {body : List Stmt} (hp : PassesOwn (model X.prog X.w) X.A X.env X.xe) (hc : X.calm = true)
    (he : XE X M env iter fun d env0 => ∃ (ds : List D) (W : Nat → En → Prop), d = .lst ds ∧ W 0 env0 ∧
      (∀ i d env1, ds[i]? = some d → W i env1 → ∃ env2 js, XG X env1 tg d env2 js ∧ XS X M env2 body { nx := W (i + 1), ct := W (i + 1), rt := R.rt, ro := R.ro, bk := fun e => XS X M e rest R }) ∧
      (∀ env1, W ds.length env1 → XS X M env1 rest R))
    (hs : ∀ x, foldedSetIterable iter X.env x = pure x := by intro _; rfl) : XS X M env (.For tg iter body [] pos :: rest) R := by
  intro F0 F H σ g st o D s
  refine (pss_cons (ps_for hp hc (pi_list pe_s) pg_s pss_s hs) pss_s).sem ?_
  refine he F0 F H σ g st o _ fun v F1 H1 d env0 hdd g1 f1 st1 o1 r1 => ?_
  obtain ⟨ds, W, rfl, h0, hb, hd⟩ := hdd
  obtain ⟨a, vs, e1, h1, h2⟩ := id r1
  refine ⟨a, e1, ⟨_, Evl.ex_l g1.fh h1⟩, ?_⟩
  have w := wlk_list h1 h2
  generalize Itl X.K a = J at w ⊢
  refine ⟨fun i m σ' H' => m = ds.length - i ∧ i ≤ ds.length ∧ ∃ F' env', W i env' ∧ Gw M.m F1 M.h F' H' ∧ Sts X.K F' H' env' σ' ∧ Own M.m M.h env' σ', ⟨ds.length, by simp, Nat.zero_le _, F1, env0, h0, g1.re, st1, o1⟩, ?_⟩
  rintro i m σ' H' ⟨rfl, hi', F', env', w', g', st', o'⟩
  by_cases hlt : i < ds.length
  · refine .inr ⟨w.goes i H' hlt (g'.ff.trans g'.fh), fun σ'' H'' => ∃ F'' env'', W (i + 1) env'' ∧ Gw M.m F1 M.h F'' H'' ∧ Sts X.K F'' H'' env'' σ'' ∧ Own M.m M.h env'' σ'', fun σ'' H'' q => ⟨ds.length - (i + 1), by omega, rfl, hlt, q⟩, fun v H2 y => ?_⟩
    obtain ⟨F3, d, p3, hd3, r3⟩ := w.yields i H' v H2 F' hlt g'.ff g'.fh y
    obtain ⟨env2, js, hg, hbody⟩ := hb i d env' hd3 w'
    refine hg.2 F3 H2 σ' v p3.fh (st'.pu p3) r3 _ fun σ2 st2 l2 k2 => ?_
    refine hbody F1 F3 H2 σ2 (g'.pu p3) st2 (o'.envx hg.1 k2) _ ?_
    exact ⟨fun e F H σ q g st o => ⟨F, e, q, g, st, o⟩, fun d e v F H σ q g st o r => s.rt d e v F H σ q (g1.un g) st o r, fun e F H σ q g st o => q F0 F H σ (g1.un g) st o D s, fun e F H σ q g st o => ⟨F, e, q, g, st, o⟩, fun bx e p vs F H σ q g st o => s.ro bx e p vs F H σ q (g1.un g) st o⟩
  · have e : i = ds.length := by omega
    subst e
    exact .inl ⟨w.stops H' (g'.ff.trans g'.fh), hd env' w' F0 F' H' σ' (g1.un g') st' o' D s⟩
end
end Y

namespace K48
open PySem L2 Y
abbrev topS (i : Nat) : Stmt := PySem.Challenge.pw_wirehelm_k48_one_number_cells.main.body.getD i (.Pass ⟨0, 0, 0, 0⟩)
/-- the built-in names stand -/
structure Bt (mg : Str → Option Value) : Prop where
  len : mg "len" = none
  isi : mg "isinstance" = none
  int : mg "int" = none
  str : mg "str" = none
  tuple : mg "tuple" = none
  list : mg "list" = none
  bool : mg "bool" = none
  max : mg "max" = none
  min : mg "min" = none
  any : mg "any" = none
  all : mg "all" = none
  sum : mg "sum" = none
  abs : mg "abs" = none
  range : mg "range" = none
  zip : mg "zip" = none
  enumerate : mg "enumerate" = none
  sorted : mg "sorted" = none
  gcd : mg "gcd" = some (.builtin "math.gcd")
  lcm : mg "lcm" = some (.builtin "math.lcm")
def fr (p : Int × Int) : D := .tup [.int p.1, .int p.2]
def low (a b : Int) : Int × Int := (a / ((Nat.gcd a.natAbs b.natAbs : Nat) : Int), b / ((Nat.gcd a.natAbs b.natAbs : Nat) : Int))

/-! ### the texts that are read -/
def qs : List (Int × Int) := [(3, 2), (9, 4), (27, 8), (81, 16), (-2, 1), (4, 1), (-8, 1), (16, 1), (9, 8), (81, 64), (729, 512), (6561, 4096), (1, 3), (1, 9), (1, 27), (1, 81), (-5, 4), (25, 16), (-125, 64), (625, 256), (7, 1), (49, 1), (343, 1), (2401, 1)]
def word (p : Int × Int) : Str := if p.2 = 1 then toString p.1 else (toString p.1 ++ "/") ++ toString p.2
def body (z : Str) : Str := if Txt.startswith z "-" then cutS z (some 1) none else z
def okWord (p : Int × Int) : Bool :=
  let z := word p
  let b := body z
  let t := Txt.partition b "/"
  let u := Txt.partition z "/"
  decide (z.length ≤ 30) && decide (b.length ≤ 30) && Txt.isdigit t.1 && (decide (t.2.1 = "") || (Txt.isdigit t.2.2 && !decide (Txt.stripChars t.2.2 "0" = ""))) && decide (t.2.2.length ≤ 30)
   && decide ((Txt.split b "/").length ≥ 1) && decide ((Txt.split b "/").length ≤ 30) && (Txt.split b "/").all (fun d => decide (d.length ≤ 30))
   && decide (PySem.intText? u.1 = some p.1) && decide (u.1.length ≤ 30) && decide (u.2.2.length ≤ 30) && (if u.2.1.length = 0 then decide (p.2 = 1) else decide (PySem.intText? u.2.2 = some p.2)) && decide (u.2.1.length ≤ 30)
   && decide (Txt.split z " / " = [z]) && decide (Txt.split z " " = [z]) && decide (low p.1 p.2 = p) && decide (0 < p.2) && decide (p.2.natAbs < 100000) && decide (p.1.natAbs < 100000) && !decide (p.1 = 0)
theorem q_ok : ∀ q ∈ qs, okWord q = true := by decide +kernel
end K48

namespace K48
open PySem L2 Y
structure QF (p : Int × Int) : Prop where
  z30 : (word p).length ≤ 30
  b30 : (body (word p)).length ≤ 30
  t1 : Txt.isdigit (Txt.partition (body (word p)) "/").1 = true
  t3 : (Txt.partition (body (word p)) "/").2.1 = "" ∨ (Txt.isdigit (Txt.partition (body (word p)) "/").2.2 = true ∧ ¬ Txt.stripChars (Txt.partition (body (word p)) "/").2.2 "0" = "")
  t30 : (Txt.partition (body (word p)) "/").2.2.length ≤ 30
  s1 : 1 ≤ (Txt.split (body (word p)) "/").length
  s1' : (Txt.split (body (word p)) "/").length ≤ 30
  s30 : ∀ d ∈ Txt.split (body (word p)) "/", d.length ≤ 30
  i1 : PySem.intText? (Txt.partition (word p) "/").1 = some p.1
  u30 : (Txt.partition (word p) "/").1.length ≤ 30
  v30 : (Txt.partition (word p) "/").2.2.length ≤ 30
  i2 : if (Txt.partition (word p) "/").2.1.length = 0 then p.2 = 1 else PySem.intText? (Txt.partition (word p) "/").2.2 = some p.2
  m30 : (Txt.partition (word p) "/").2.1.length ≤ 30
  sp1 : Txt.split (word p) " / " = [word p]
  sp2 : Txt.split (word p) " " = [word p]
  low : low p.1 p.2 = p
  pos : 0 < p.2
  b2 : p.2.natAbs < 100000
  b1 : p.1.natAbs < 100000
  ne : ¬ p.1 = 0
theorem qf {p : Int × Int} (h : p ∈ qs) : QF p := by
  have q := q_ok p h
  unfold okWord at q
  simp only [Bool.and_eq_true, Bool.or_eq_true, decide_eq_true_eq, Bool.not_eq_true', decide_eq_false_iff_not, List.all_eq_true] at q
  obtain ⟨⟨⟨⟨⟨⟨⟨⟨⟨⟨⟨⟨⟨⟨⟨⟨⟨⟨⟨h1, h2⟩, h3⟩, h4⟩, h5⟩, h6⟩, h6'⟩, h7⟩, h8⟩, h9⟩, h10⟩, h11⟩, h12⟩, h13⟩, h14⟩, h15⟩, h16⟩, h17⟩, h18⟩, h19⟩ := q
  refine ⟨h1, h2, h3, h4, h5, h6, h6', h7, h8, h9, h10, ?_, h12, h13, h14, h15, h16, h17, h18, h19⟩
  split at h11
  · rename_i z; rw [if_pos z]; simpa using h11
  · rename_i z; rw [if_neg z]; simpa using h11
theorem sl30 {n : Nat} (h : n ≤ 30) : n ≤ sizeLine := Nat.le_trans h (by decide)

section
variable {P : Program} {w : World} {K : PySem.W.Frag} {mg : Str → Option Value} {base : Heap} {f : Addr} {fd : FuncData} {k : Nat}

abbrev sCheckLength : Stmt := topS 9
theorem scCheckLength : FnScope ["text"] ["text"] (defScope sCheckLength) := ⟨rfl, rfl, rfl, by decide +kernel, rfl, by decide +kernel, by decide +kernel⟩
def aCheckLength : AdP := fun ds R => ∃ z : Str, ds = [.str z] ∧ z.length ≤ 30 ∧ R = fun d => d = .non
theorem ok_check_length (F : Fun K "check_length" "check_length" sCheckLength f fd) (T : Bt mg) (c1 : ∃ t, mg "TEXT_BOUND" = some (.int 40000 t)) : FnOk P w K mg base CX0 (k + 1) f fd ["text"] (spD K aCheckLength) := by
  refine fnD F scCheckLength (fun ds R h => ?_) (by decide) (fun cdv A' outer s H E hr ds R h => ?_)
  · obtain ⟨z, rfl, _⟩ := h; rfl
  · obtain ⟨z, rfl, hz, rfl⟩ := h
    obtain ⟨t, c1⟩ := c1
    have h_len := T.len
    refine s_ifF ((t_gt (x_lenS (x_var 0) (sl30 hz)) (x_glob (by rfl) c1 (v := .int 40000) ⟨t, rfl⟩ (fun _ => rfl))).to (decide_eq_false (by omega))) (s_nil (s_nil rfl))

abbrev sIsFraction : Stmt := topS 10
theorem scIsFraction : FnScope ["word", "body", "top", "slash", "bottom"] ["word"] (defScope sIsFraction) := ⟨rfl, rfl, rfl, by decide +kernel, rfl, by decide +kernel, by decide +kernel⟩
def aIsFraction : AdP := fun ds R => ∃ q, q ∈ qs ∧ ds = [.str (word q)] ∧ R = fun d => d = .bl true
--theorem x_body {X : Cx} {env : En} {z : Str} {p1 p2 p3 p4 p5 p6 p7 p8 : Pos} {n1 n2 : Nat} (hz : z.length ≤ 30) (hw : XV X env (.Name "word" p1) (.str z)) (hw2 : XV X env (.Name "word" p2) (.str z)) (hw3 : XV X env (.Name "word" p3) (.str z)) : True := trivial
theorem ok_is_fraction (F : Fun K "is_fraction" "is_fraction" sIsFraction f fd) : FnOk P w K mg base CX0 (k + 1) f fd ["word"] (spD K aIsFraction) := by
  refine fnD F scIsFraction (fun ds R h => ?_) (by decide) (fun cdv A' outer s H E hr ds R h => ?_)
  · obtain ⟨q, _, rfl, _⟩ := h; rfl
  · obtain ⟨q, hq, rfl, rfl⟩ := h
    have Q := qf hq
    have nd := scIsFraction.nd
    refine s_set 1 ((x_if (t_val (x_startswith (x_var 0) x_str)) (fun _ => x_sliceS (l := some 1) (h := none) (x_var 0) (o_some x_int) o_none (sl30 Q.z30)) (fun _ => x_var 0)).to (d' := .str (body (word q))) ?_) ?_
    · unfold body
      split <;> simp_all
    refine s_asgT (x_partition (x_var 1) x_str (by decide +kernel) (sl30 Q.b30)) (g_tup rfl (g_cons (g_name 2 nd) (g_cons (g_name 3 nd) (g_cons (g_name 4 nd) g_nil))) rfl) ?_
    refine s_ifF ((t_not (t_val (x_isdigit (x_var 2)))).to (by rw [Q.t1]; rfl)) (s_nil ?_)
    refine s_ret (d := .bl true) ((x_orL (l := true) (x_eqV rfl rfl rfl (x_var 3) x_str) (fun hf => x_one ((x_and (l := true) (x_isdigit (x_var 4)) (fun _ => ?_)).to ?_))).to (by rw [Bool.or_true])) rfl
    · refine (x_neV rfl rfl rfl (x_stripC (x_var 4) x_str (sl30 Q.t30)) x_str).to ?_
      rcases Q.t3 with h | ⟨h1, h2⟩
      · rw [decide_eq_false_iff_not] at hf
        exact absurd (by rw [h]) hf
      · rw [decide_eq_false (fun z => h2 (V.str.inj z))]
        rfl
    · rcases Q.t3 with h | ⟨h1, h2⟩
      · rw [decide_eq_false_iff_not] at hf
        exact absurd (by rw [h]) hf
      · rw [h1]; rfl

abbrev sIsLong : Stmt := topS 11
theorem scIsLong : FnScope ["word", "body", "digits"] ["word"] (defScope sIsLong) := ⟨rfl, rfl, rfl, by decide +kernel, rfl, by decide +kernel, by decide +kernel⟩
def aIsLong : AdP := fun ds R => ∃ q, q ∈ qs ∧ ds = [.str (word q)] ∧ R = fun d => d = .bl false
theorem ok_is_long (F : Fun K "is_long" "is_long" sIsLong f fd) (T : Bt mg) (c1 : ∃ t, mg "FIGURES_BOUND" = some (.int 400 t)) : FnOk P w K mg base CX0 (k + 1) f fd ["word"] (spD K aIsLong) := by
  refine fnD F scIsLong (fun ds R h => ?_) (by decide) (fun cdv A' outer s H E hr ds R h => ?_)
  · obtain ⟨q, _, rfl, _⟩ := h; rfl
  · obtain ⟨q, hq, rfl, rfl⟩ := h
    have Q := qf hq
    have nd := scIsLong.nd
    have h_len := T.len
    have h_max := T.max
    obtain ⟨t, c1⟩ := c1
    refine s_set 1 ((x_if (t_val (x_startswith (x_var 0) x_str)) (fun _ => x_sliceS (l := some 1) (h := none) (x_var 0) (o_some x_int) o_none (sl30 Q.z30)) (fun _ => x_var 0)).to (d' := .str (body (word q))) ?_) ?_
    · unfold body
      split <;> simp_all
    have hsl : (Txt.split (body (word q)) "/").length < sizeLine := Nat.lt_of_le_of_lt Q.s1' (by decide)
    refine s_ret ((x_gt (x_maxL (ns := (Txt.split (body (word q)) "/").map fun z => (z.length : Int)) rfl ((x_lc [("digits", 2)] rfl nd (blkOk_by (by kernel_rfl)) ((l_all (xs := Txt.split (body (word q)) "/") (enc := D.str) (f := fun z => .int (z.length : Int)) (i_list (x_split (x_var 1) x_str (by decide +kernel) (Nat.le_trans (Nat.add_le_add_right Q.b30 2) (by decide)))) hsl (js := [2]) (by decide) (fun x hx s0 H0 C cl fp => g_name 2 nd) (fun x hx s0 H0 C cl fp => x_lenS (x_var 2) (sl30 (Q.s30 x hx)))))).to (by rw [List.map_map]; rfl)) ?_) (x_glob (by rfl) c1 (v := .int 400) ⟨t, rfl⟩ (fun _ => rfl))).to ?_) rfl
    · rw [List.length_map]; exact Q.s1
    · have h1 := (maxL_mem (ns := (Txt.split (body (word q)) "/").map fun z => (z.length : Int)) (by rw [List.length_map]; exact Q.s1)).1
      obtain ⟨z, hz, e⟩ := List.mem_map.mp h1
      have := Q.s30 z hz
      rw [decide_eq_false (by omega)]

abbrev sCheckFigures : Stmt := topS 12
theorem scCheckFigures : FnScope ["words", "word"] ["words"] (defScope sCheckFigures) := ⟨rfl, rfl, rfl, by decide +kernel, rfl, by decide +kernel, by decide +kernel⟩
def aCheckFigures : AdP := fun ds R => ∃ ps : List (Int × Int), ds = [.lst (ps.map fun q => .str (word q))] ∧ (∀ q ∈ ps, q ∈ qs) ∧ ps.length ≤ 30 ∧ R = fun d => d = .non
theorem ok_check_figures (F : Fun K "check_figures" "check_figures" sCheckFigures f fd) (T : Bt mg) (dLong : Dn P w K mg base k "is_long" (spD K aIsLong)) : FnOk P w K mg base CX0 (k + 1) f fd ["words"] (spD K aCheckFigures) := by
  refine fnD F scCheckFigures (fun ds R h => ?_) (by decide) (fun cdv A' outer s H E hr ds R h => ?_)
  · obtain ⟨q, rfl, _⟩ := h; rfl
  · obtain ⟨ps, rfl, hp, hl, rfl⟩ := h
    have nd := scCheckFigures.nd
    have h_any := T.any
    refine s_ifF ((t_val (x_any (bs := ps.map fun _ => false) rfl ((x_lc [("word", 1)] rfl nd (blkOk_by (by kernel_rfl)) (l_all (xs := ps) (enc := fun q => .str (word q)) (f := fun _ => .bl false) (i_list (x_var 0)) (Nat.lt_of_le_of_lt hl (by decide)) (js := [1]) (by decide) (fun x hx s0 H0 C cl fp => g_name 1 nd) (fun x hx s0 H0 C cl fp => x_call dLong hr (a_cons (x_var 1) a_nil) ⟨x, hp x hx, rfl, rfl⟩ (fun d' h => h)))).to (by rw [List.map_map]; rfl)))).to ?_) (s_nil (s_nil rfl))
    rw [List.any_map]
    exact List.any_eq_false.mpr fun _ _ => by simp

abbrev sIsInteger : Stmt := topS 14
theorem scIsInteger : FnScope ["value"] ["value"] (defScope sIsInteger) := ⟨rfl, rfl, rfl, by decide +kernel, rfl, by decide +kernel, by decide +kernel⟩
def isIntD : D → Bool
  | .int _ => true
  | _ => false
def aIsInteger : AdP := fun ds R => ∃ x : D, ds = [x] ∧ ((∃ i, x = .int i) ∨ ∃ xs, x = .tup xs) ∧ R = fun d => d = .bl (isIntD x)
theorem ok_is_integer (F : Fun K "is_integer" "is_integer" sIsInteger f fd) (T : Bt mg) : FnOk P w K mg base CX0 (k + 1) f fd ["value"] (spD K aIsInteger) := by
  refine fnD F scIsInteger (fun ds R h => ?_) (by decide) (fun cdv A' outer s H E hr ds R h => ?_)
  · obtain ⟨q, rfl, _⟩ := h; rfl
  · obtain ⟨x, rfl, hx, rfl⟩ := h
    have h_isi := T.isi
    have h_int := T.int
    have h_bool := T.bool
    rcases hx with ⟨i, rfl⟩ | ⟨xs, rfl⟩
    · exact s_ret ((x_and (x_isi (x_var 0) (T := "int") (T' := "int") rfl (x_ty (by rfl) h_int (by decide +kernel)) (k := true) (by decide +kernel)) (fun _ => x_not (x_isi (x_var 0) (T := "int") (T' := "bool") rfl (x_ty (by rfl) h_bool (by decide +kernel)) (k := false) (by decide +kernel)))).to rfl) rfl
    · exact s_ret ((x_and (l := false) (x_isi (x_var 0) (T := "tuple") (T' := "int") rfl (x_ty (by rfl) h_int (by decide +kernel)) (k := false) (by decide +kernel)) (fun h => by cases h)).to rfl) rfl

abbrev sIsPair : Stmt := topS 15
theorem scIsPair : FnScope ["value"] ["value"] (defScope sIsPair) := ⟨rfl, rfl, rfl, by decide +kernel, rfl, by decide +kernel, by decide +kernel⟩
def aIsPair : AdP := fun ds R => ∃ q : Int × Int, ds = [fr q] ∧ R = fun d => d = .bl true
theorem ok_is_pair (F : Fun K "is_pair" "is_pair" sIsPair f fd) (T : Bt mg) (dInt : Dn P w K mg base k "is_integer" (spD K aIsInteger)) : FnOk P w K mg base CX0 (k + 1) f fd ["value"] (spD K aIsPair) := by
  refine fnD F scIsPair (fun ds R h => ?_) (by decide) (fun cdv A' outer s H E hr ds R h => ?_)
  · obtain ⟨q, rfl, _⟩ := h; rfl
  · obtain ⟨q, rfl, rfl⟩ := h
    have h_isi := T.isi
    have h_tuple := T.tuple
    have h_len := T.len
    refine s_ret ((x_andL (l := true) (x_isi (x_var 0) (T := "tuple") (T' := "tuple") rfl (x_ty (by rfl) h_tuple (by decide +kernel)) (k := true) (by decide +kernel)) (fun _ => (x_andL (l := true) (x_eq (x_len (x_var 0) rfl) x_int) (fun _ => (x_andL (l := true) (x_call dInt hr (a_cons (x_ixT (x_var 0) x_int (d := .int q.1) rfl) a_nil) ⟨_, rfl, .inl ⟨_, rfl⟩, rfl⟩ (fun d' h => h)) (fun _ => x_one (x_call dInt hr (a_cons (x_ixT (x_var 0) x_int (d := .int q.2) rfl) a_nil) ⟨_, rfl, .inl ⟨_, rfl⟩, rfl⟩ (fun d' h => h)))).to rfl)).to rfl)).to rfl) rfl

abbrev sLowest : Stmt := topS 16
theorem scLowest : FnScope ["top", "bottom", "common"] ["top", "bottom"] (defScope sLowest) := ⟨rfl, rfl, rfl, by decide +kernel, rfl, by decide +kernel, by decide +kernel⟩
def aLowest : AdP := fun ds R => ∃ a b : Int, ds = [.int a, .int b] ∧ 0 < b ∧ b.natAbs < 2 ^ 4000 ∧ R = fun d => d = fr (low a b)
theorem gcd_div {c a b : Int} (h : 0 < b) (h2 : b.natAbs < 2 ^ 4000) : CDivW c ((Nat.gcd a.natAbs b.natAbs : Nat) : Int) := by
  have h3 : 0 < Nat.gcd a.natAbs b.natAbs := Nat.gcd_pos_of_pos_right _ (by omega)
  have h4 : Nat.gcd a.natAbs b.natAbs ≤ b.natAbs := Nat.gcd_le_right _ (by omega)
  refine wide_div (b := 4000) (by omega) ?_ (by decide) (by decide)
  rw [Int.natAbs_natCast]
  exact Nat.lt_of_le_of_lt h4 h2
theorem ok_lowest (F : Fun K "lowest" "lowest" sLowest f fd) (T : Bt mg) : FnOk P w K mg base CX0 (k + 1) f fd ["top", "bottom"] (spD K aLowest) := by
  refine fnD F scLowest (fun ds R h => ?_) (by decide) (fun cdv A' outer s H E hr ds R h => ?_)
  · obtain ⟨a, b, rfl, _⟩ := h; rfl
  · obtain ⟨a, b, rfl, h0, h1, rfl⟩ := h
    have nd := scLowest.nd
    have h_gcd := T.gcd
    refine s_set 2 (x_gcd (x_var 0) (x_var 1)) ?_
    refine s_ifF ((t_lt (x_var 1) x_int).to (decide_eq_false (by omega))) (s_nil ?_)
    exact s_ret (x_tup (a_cons (x_fdiv (x_var 0) (x_var 2) (gcd_div h0 h1)) (a_cons (x_fdiv (x_var 1) (x_var 2) (gcd_div h0 h1)) a_nil)) (by show 2 ≤ sizeLine; decide)) rfl

abbrev sPairOf : Stmt := topS 17
theorem scPairOf : FnScope ["fraction"] ["fraction"] (defScope sPairOf) := ⟨rfl, rfl, rfl, by decide +kernel, rfl, by decide +kernel, by decide +kernel⟩
def aPairOf : AdP := fun ds R => ∃ q : Int × Int, ds = [fr q] ∧ R = fun d => d = fr q
theorem ok_pair_of (F : Fun K "pair_of" "pair_of" sPairOf f fd) (T : Bt mg) : FnOk P w K mg base CX0 (k + 1) f fd ["fraction"] (spD K aPairOf) := by
  refine fnD F scPairOf (fun ds R h => ?_) (by decide) (fun cdv A' outer s H E hr ds R h => ?_)
  · obtain ⟨q, rfl, _⟩ := h; rfl
  · obtain ⟨q, rfl, rfl⟩ := h
    have h_isi := T.isi
    have h_int := T.int
    exact s_ret (x_ifF (t_val (x_isi (x_var 0) (T := "tuple") (T' := "int") rfl (x_ty (by rfl) h_int (by decide +kernel)) (k := false) (by decide +kernel))) (x_var 0)) rfl

abbrev sWritten : Stmt := topS 18
theorem scWritten : FnScope ["word", "top", "slash", "bottom"] ["word"] (defScope sWritten) := ⟨rfl, rfl, rfl, by decide +kernel, rfl, by decide +kernel, by decide +kernel⟩
def aWritten : AdP := fun ds R => ∃ q, q ∈ qs ∧ ds = [.str (word q)] ∧ R = fun d => d = fr q
theorem ok_written (F : Fun K "written_fraction" "written_fraction" sWritten f fd) (T : Bt mg) (dLow : Dn P w K mg base k "lowest" (spD K aLowest)) : FnOk P w K mg base CX0 (k + 1) f fd ["word"] (spD K aWritten) := by
  refine fnD F scWritten (fun ds R h => ?_) (by decide) (fun cdv A' outer s H E hr ds R h => ?_)
  · obtain ⟨q, _, rfl, _⟩ := h; rfl
  · obtain ⟨q, hq, rfl, rfl⟩ := h
    have Q := qf hq
    have nd := scWritten.nd
    have h_int := T.int
    refine s_asgT (x_partition (x_var 0) x_str (by decide +kernel) (sl30 Q.z30)) (g_tup rfl (g_cons (g_name 1 nd) (g_cons (g_name 2 nd) (g_cons (g_name 3 nd) g_nil))) rfl) ?_
    have h640 : ∀ {n : Nat}, n ≤ 30 → n ≤ 640 := fun h => Nat.le_trans h (by decide)
    have tr : truD (.str (Txt.partition (word q) "/").2.1) = some (((Txt.partition (word q) "/").2.1.length : Int) != 0) := by
      show (if _ ≤ sizeLine then some _ else none) = _
      rw [if_pos (sl30 Q.m30)]
    have i2 := Q.i2
    refine s_ret (x_call dLow hr (a_cons (x_intS (x_var 1) Q.i1 (h640 Q.u30)) (a_cons (d := .int q.2) ?_ a_nil)) ⟨q.1, q.2, rfl, Q.pos, Nat.lt_trans Q.b2 (by decide +kernel), rfl⟩ (fun d' h => h)) (by rw [Q.low])
    by_cases hz : (Txt.partition (word q) "/").2.1.length = 0
    · rw [if_pos hz] at i2
      rw [i2]
      exact x_ifF ((t_tru (x_var 2) tr).to (by rw [hz]; rfl)) x_int
    · rw [if_neg hz] at i2
      exact x_ifT ((t_tru (x_var 2) tr).to (by simpa using hz)) (x_intS (x_var 3) i2 (h640 Q.v30))

abbrev sRead : Stmt := topS 19
theorem scRead : FnScope ["value"] ["value"] (defScope sRead) := ⟨rfl, rfl, rfl, by decide +kernel, rfl, by decide +kernel, by decide +kernel⟩
def aRead : AdP := fun ds R => (∃ q, q ∈ qs ∧ ds = [.str (word q)] ∧ R = fun d => d = fr q) ∨ ∃ q : Int × Int, ds = [fr q] ∧ 0 < q.2 ∧ q.2.natAbs < 2 ^ 4000 ∧ R = fun d => d = fr (low q.1 q.2)
theorem ok_read (F : Fun K "read_fraction" "read_fraction" sRead f fd) (T : Bt mg) (dLow : Dn P w K mg base k "lowest" (spD K aLowest)) (dCl : Dn P w K mg base k "check_length" (spD K aCheckLength)) (dIf : Dn P w K mg base k "is_fraction" (spD K aIsFraction)) (dCf : Dn P w K mg base k "check_figures" (spD K aCheckFigures))
    (dWr : Dn P w K mg base k "written_fraction" (spD K aWritten)) (dInt : Dn P w K mg base k "is_integer" (spD K aIsInteger)) (dPr : Dn P w K mg base k "is_pair" (spD K aIsPair)) : FnOk P w K mg base CX0 (k + 1) f fd ["value"] (spD K aRead) := by
  refine fnD F scRead (fun ds R h => ?_) (by decide) (fun cdv A' outer s H E hr ds R h => ?_)
  · rcases h with ⟨q, _, rfl, _⟩ | ⟨q, rfl, _⟩ <;> rfl
  · have h_isi := T.isi
    have h_str := T.str
    rcases h with ⟨q, hq, rfl, rfl⟩ | ⟨q, rfl, h0, h1, rfl⟩
    · have Q := qf hq
      refine s_ifT (t_val (x_isi (x_var 0) (T := "str") (T' := "str") rfl (x_ty (by rfl) h_str (by decide +kernel)) (k := true) (by decide +kernel))) ?_
      refine s_expr (x_call dCl hr (a_cons (x_var 0) a_nil) ⟨_, rfl, Q.z30, rfl⟩ (fun d' h => h)) ?_
      refine s_ifF ((t_not (t_val (x_call dIf hr (a_cons (x_var 0) a_nil) ⟨q, hq, rfl, rfl⟩ (fun d' h => h)))).to rfl) (s_nil ?_)
      refine s_expr (x_call dCf hr (a_cons (x_lst (a_cons (x_var 0) a_nil) (by show 1 ≤ sizeLine; decide)) a_nil) ⟨[q], rfl, fun x hx => by rw [List.mem_singleton.mp hx]; exact hq, by show 1 ≤ 30; decide, rfl⟩ (fun d' h => h)) ?_
      exact s_ret (x_call dWr hr (a_cons (x_var 0) a_nil) ⟨q, hq, rfl, rfl⟩ (fun d' h => h)) rfl
    · refine s_ifF (t_val (x_isi (x_var 0) (T := "tuple") (T' := "str") rfl (x_ty (by rfl) h_str (by decide +kernel)) (k := false) (by decide +kernel))) (s_nil ?_)
      refine s_ifF (t_val (x_call dInt hr (a_cons (x_var 0) a_nil) ⟨_, rfl, .inr ⟨_, rfl⟩, rfl⟩ (fun d' h => h))) (s_nil ?_)
      refine s_ifF ((t_not (t_val (x_call dPr hr (a_cons (x_var 0) a_nil) ⟨q, rfl, rfl⟩ (fun d' h => h)))).to rfl) (s_nil ?_)
      refine s_ifF ((t_eq (x_ixT (x_var 0) x_int (d := .int q.2) rfl) x_int).to (decide_eq_false (by omega))) (s_nil ?_)
      exact s_ret (x_call dLow hr (a_cons (x_ixT (x_var 0) x_int (d := .int q.1) rfl) (a_cons (x_ixT (x_var 0) x_int (d := .int q.2) rfl) a_nil)) ⟨q.1, q.2, rfl, h0, h1, rfl⟩ (fun d' h => h)) rfl

abbrev sTimes : Stmt := topS 21
theorem scTimes : FnScope ["one", "other", "top", "bottom", "more", "part"] ["one", "other"] (defScope sTimes) := ⟨rfl, rfl, rfl, by decide +kernel, rfl, by decide +kernel, by decide +kernel⟩
def small (n : Nat) (p : Int × Int) : Prop := p.1.natAbs < 2 ^ n ∧ 0 < p.2 ∧ p.2.natAbs < 2 ^ n
def aTimes : AdP := fun ds R => ∃ p q : Int × Int, ds = [fr p, fr q] ∧ small 1000 p ∧ small 1000 q ∧ R = fun d => d = fr (low (p.1 * q.1) (p.2 * q.2))
theorem mul2000 {a b : Int} (ha : a.natAbs < 2 ^ 1000) (hb : b.natAbs < 2 ^ 1000) : (a * b).natAbs < 2 ^ 4000 :=
  Nat.lt_of_lt_of_le (wide_lt ha hb) (Nat.pow_le_pow_right (by decide) (by decide))
theorem ok_times (F : Fun K "times" "times" sTimes f fd) (dLow : Dn P w K mg base k "lowest" (spD K aLowest)) (dPo : Dn P w K mg base k "pair_of" (spD K aPairOf)) : FnOk P w K mg base CX0 (k + 1) f fd ["one", "other"] (spD K aTimes) := by
  refine fnD F scTimes (fun ds R h => ?_) (by decide) (fun cdv A' outer s H E hr ds R h => ?_)
  · obtain ⟨p, q, rfl, _⟩ := h; rfl
  · obtain ⟨p, q, rfl, hp, hq, rfl⟩ := h
    have nd := scTimes.nd
    refine s_asgT (x_call dPo hr (a_cons (x_var 0) a_nil) ⟨p, rfl, rfl⟩ (fun d' h => h)) (g_tup rfl (g_cons (g_name 2 nd) (g_cons (g_name 3 nd) g_nil)) rfl) ?_
    refine s_asgT (x_call dPo hr (a_cons (x_var 1) a_nil) ⟨q, rfl, rfl⟩ (fun d' h => h)) (g_tup rfl (g_cons (g_name 4 nd) (g_cons (g_name 5 nd) g_nil)) rfl) ?_
    exact s_ret (x_call dLow hr (a_cons (x_mul (x_var 2) (x_var 4) (wide_mul hp.1 hq.1 (by decide) (by decide) (by decide))) (a_cons (x_mul (x_var 3) (x_var 5) (wide_mul hp.2.2 hq.2.2 (by decide) (by decide) (by decide))) a_nil)) ⟨_, _, rfl, Int.mul_pos hp.2.1 hq.2.1, mul2000 hp.2.2 hq.2.2, rfl⟩ (fun d' h => h)) rfl

abbrev sFractionsOf : Stmt := topS 24
theorem scFractionsOf : FnScope ["values", "value"] ["values"] (defScope sFractionsOf) := ⟨rfl, rfl, rfl, by decide +kernel, rfl, by decide +kernel, by decide +kernel⟩
def lowP (p : Int × Int) : Int × Int := low p.1 p.2
def aFractionsOf : AdP := fun ds R => ∃ (x : D) (ps : List (Int × Int)), ds = [x] ∧ (x = .lst (ps.map fr) ∨ x = .tup (ps.map fr)) ∧ ps.length ≤ 30 ∧ (∀ p ∈ ps, 0 < p.2 ∧ p.2.natAbs < 2 ^ 4000) ∧ R = fun d => d = .tup (ps.map fun p => fr (lowP p))
theorem ok_fractions_of (F : Fun K "fractions_of" "fractions_of" sFractionsOf f fd) (T : Bt mg) (dRd : Dn P w K mg base k "read_fraction" (spD K aRead)) : FnOk P w K mg base CX0 (k + 1) f fd ["values"] (spD K aFractionsOf) := by
  refine fnD F scFractionsOf (fun ds R h => ?_) (by decide) (fun cdv A' outer s H E hr ds R h => ?_)
  · obtain ⟨x, ps, rfl, _⟩ := h; rfl
  · obtain ⟨x, ps, rfl, hx, hl, hp, rfl⟩ := h
    have nd := scFractionsOf.nd
    have h_tuple := T.tuple
    have it : ∀ {X : Cx} {env : En} {tg iter : Expr}, XV X env iter x → XI X env tg iter (ps.map fr) := fun h => by
      rcases hx with rfl | rfl
      · exact i_list h
      · exact i_tup h
    exact s_ret (x_tuple (x_lc [("value", 1)] rfl nd (blkOk_by (by kernel_rfl)) (l_all (xs := ps) (enc := fr) (f := fun p => fr (lowP p)) (it (x_var 0)) (Nat.lt_of_le_of_lt hl (by decide)) (js := [1]) (by decide) (fun x hx s0 H0 C cl fp => g_name 1 nd) (fun x hx s0 H0 C cl fp => x_call dRd hr (a_cons (x_var 1) a_nil) (.inr ⟨x, rfl, (hp x hx).1, (hp x hx).2, rfl⟩) (fun d' h => h))))) rfl
end
end K48

namespace K48
open PySem L2 Y
def powD (C : Addr) (q : Int × Int) : D := .obj C [("rows", .tup [.tup [fr q]])]
theorem small_low {n : Nat} {a b : Int} (h : small n (a, b)) : small n (low a b) := by
  obtain ⟨h1, h2, h3⟩ := h
  have g0 : 0 < Nat.gcd a.natAbs b.natAbs := Nat.gcd_pos_of_pos_right _ (by have : 0 < b := h2; omega)
  have gd : ((Nat.gcd a.natAbs b.natAbs : Nat) : Int) ∣ b := Int.natAbs_dvd_natAbs.mp (by rw [Int.natAbs_natCast]; exact Nat.gcd_dvd_right _ _)
  refine ⟨Nat.lt_of_le_of_lt ?_ h1, Int.ediv_pos_of_pos_of_dvd h2 (by omega) gd, Nat.lt_of_le_of_lt ?_ h3⟩
  · show (a / _).natAbs ≤ a.natAbs
    exact Int.natAbs_ediv_le_natAbs _ _
  · show (b / _).natAbs ≤ b.natAbs
    exact Int.natAbs_ediv_le_natAbs _ _
theorem small_mono {m n : Nat} {p : Int × Int} (h : small m p) (k : m ≤ n) : small n p := ⟨Nat.lt_of_lt_of_le h.1 (Nat.pow_le_pow_right (by decide) k), h.2.1, Nat.lt_of_lt_of_le h.2.2 (Nat.pow_le_pow_right (by decide) k)⟩
theorem small_mul {m n : Nat} {p q : Int × Int} (h : small m p) (k : small n q) : small (m + n) (p.1 * q.1, p.2 * q.2) := ⟨wide_lt h.1 k.1, Int.mul_pos h.2.1 k.2.1, wide_lt h.2.2 k.2.2⟩
def wL (e : Int × Int) : Int := ((Nat.lcm (1 : Int).natAbs e.2.natAbs : Nat) : Int)
def wM (e h : Int × Int) : Int := ((Nat.lcm (wL e).natAbs h.2.natAbs : Nat) : Int)
def wE (e h : Int × Int) : Int := e.1 * (wM e h / e.2)
def wH (e h : Int × Int) : Int := h.1 * (wM e h / h.2)
theorem wL_eq {e : Int × Int} (h : 0 < e.2) : wL e = e.2 := by
  unfold wL
  rw [show (1 : Int).natAbs = 1 from rfl, Nat.lcm_one_left]
  omega
theorem wM_eq {e h : Int × Int} (he : 0 < e.2) (hh : 0 < h.2) : wM e h = ((Nat.lcm e.2.natAbs h.2.natAbs : Nat) : Int) := by
  unfold wM
  rw [wL_eq he]
theorem wM_lt {m n : Nat} {e h : Int × Int} (he : small m e) (hh : small n h) : 0 < wM e h ∧ (wM e h).natAbs < 2 ^ (m + n) := by
  rw [wM_eq he.2.1 hh.2.1]
  have h1 : 0 < Nat.lcm e.2.natAbs h.2.natAbs := Nat.lcm_pos (by have := he.2.1; omega) (by have := hh.2.1; omega)
  have h2 : Nat.lcm e.2.natAbs h.2.natAbs ≤ e.2.natAbs * h.2.natAbs := Nat.le_of_dvd (Nat.mul_pos (by have := he.2.1; omega) (by have := hh.2.1; omega)) (Nat.lcm_dvd_mul _ _)
  refine ⟨by omega, ?_⟩
  rw [Int.natAbs_natCast, Nat.pow_add]
  exact Nat.lt_of_le_of_lt h2 (Nat.mul_lt_mul'' he.2.2 hh.2.2)
theorem w_bound {m n : Nat} {e h x : Int × Int} (he : small m e) (hh : small n h) (hx : small (m + n) x) : (x.1 * (wM e h / x.2)).natAbs < 2 ^ (m + n + (m + n)) :=
  wide_lt hx.1 (Nat.lt_of_le_of_lt (Int.natAbs_ediv_le_natAbs _ _) (wM_lt he hh).2)
section
variable {P : Program} {w : World} {K : PySem.W.Frag} {mg : Str → Option Value} {base : Heap} {f : Addr} {fd : FuncData} {k : Nat}

abbrev sWhole : Stmt := topS 27
abbrev nWhole : List Str := ["power", "widths", "halves", "count", "edges", "bottom", "row", "one", "whole", "at", "by"]
theorem scWhole : FnScope nWhole ["power", "widths", "halves"] (defScope sWhole) := ⟨rfl, rfl, rfl, by decide +kernel, rfl, by decide +kernel, by decide +kernel⟩
def edge (q wd : Int × Int) : Int × Int := low (q.1 * wd.1) (q.2 * wd.2)
def aWhole (C : Addr) : AdP := fun ds R => ∃ q wd h : Int × Int, ds = [powD C q, .tup [fr wd], .tup [fr h]] ∧ small 100 q ∧ small 100 wd ∧ small 200 h ∧
  R = fun d => d = .tup [.lst [.lst [.int (wE (edge q wd) h)]], .lst [.int (wH (edge q wd) h)]]
theorem ok_whole {C : Addr} (F : Fun K "whole_frame" "whole_frame" sWhole f fd) (T : Bt mg) (cl : Cls K C) (na : NoAttr K C "rows") (dTimes : Dn P w K mg base k "times" (spD K aTimes)) : FnOk P w K mg base CX0 (k + 1) f fd ["power", "widths", "halves"] (spD K (aWhole C)) := by
  refine fnD F scWhole (fun ds R h => ?_) (by decide) (fun cdv A' outer s H E hr ds R h => ?_)
  · obtain ⟨q, wd, h', rfl, _⟩ := h; rfl
  · obtain ⟨q, wd, h, rfl, hq, hw, hh, rfl⟩ := h
    have nd := scWhole.nd
    have h_len := T.len
    have h_range := T.range
    have h_lcm := T.lcm
    have he : small 200 (edge q wd) := small_low (small_mul hq hw)
    have heq : low (q.1 * wd.1) (q.2 * wd.2) = edge q wd := rfl
    generalize edge q wd = e at he heq ⊢
    refine s_set 3 (x_len (x_var 2) rfl) ?_
    refine s_setLc 4 [("at", 9)] rfl nd (blkOk_by (by kernel_rfl)) (l_all (xs := [0]) (enc := fun i : Int => D.int i) (f := fun _ => .lst [fr e]) (i_range1 (n := 1) (x_var 3) (by decide)) (by decide) (js := [9]) (by decide) (fun x hx s0 H0 C cl' fp => g_name 9 nd)
      (fun x hx s0 H0 C cl' fp => by
        obtain rfl := List.mem_singleton.mp hx
        exact (x_lc [("by", 10)] rfl nd (blkOk_by (by kernel_rfl)) (l_all (xs := [0]) (enc := fun i : Int => D.int i) (f := fun _ => fr e) (i_range1 (n := 1) (x_var 3) (by decide)) (by decide) (js := [10]) (by decide) (fun x hx s0 H0 C cl' fp => g_name 10 nd)
          (fun x hx s0 H0 C' cl' fp => by
            obtain rfl := List.mem_singleton.mp hx
            exact x_call dTimes hr (a_cons (x_ixT (x_ixT (x_fld (x_var 0) cl na rfl) (x_var 9) rfl) (x_var 10) rfl) (a_cons (x_ixT (x_var 1) (x_var 10) rfl) a_nil)) ⟨q, wd, rfl, small_mono hq (by decide), small_mono hw (by decide), rfl⟩ (fun d' h => by rw [h, heq])))).to rfl)) ?_ rfl
    refine s_set 5 x_int ?_
    refine s_for (ds := [.lst [fr e], .tup [fr h]]) (fun i env => ∃ s6 s7, env = [.dat (powD C q), .dat (.tup [fr wd]), .dat (.tup [fr h]), .dat (.int 1), .dat (.lst [.lst [fr e]]), .dat (.int (match i with | 0 => 1 | 1 => wL e | _ => wM e h)), s6, s7, .un, .un, .un])
      PassesOwn.never rfl (i_list ((x_lst (a_star (x_var 4) rfl (a_cons (x_var 2) a_nil)) (by show 2 ≤ sizeLine; decide)).to rfl)) ⟨_, _, rfl⟩ ?_ ?_
    · intro i d env1 hd ⟨s6, s7, he1⟩
      subst he1
      refine ⟨_, _, g_name 6 nd, ?_⟩
      match i, hd with
      | 0, hd =>
        cases hd
        refine s_for (ds := [fr e]) (fun i env => ∃ s7, env = [.dat (powD C q), .dat (.tup [fr wd]), .dat (.tup [fr h]), .dat (.int 1), .dat (.lst [.lst [fr e]]), .dat (.int (match i with | 0 => 1 | _ => wL e)), .dat (.lst [fr e]), s7, .un, .un, .un])
          PassesOwn.never rfl (i_list (x_var 6)) ⟨_, rfl⟩ ?_ ?_
        · intro i d env1 hd ⟨s7, he1⟩
          subst he1
          refine ⟨_, _, g_name 7 nd, ?_⟩
          match i, hd with
          | 0, hd =>
            cases hd
            exact s_set 5 (x_lcm (i := 1) (j := e.2) (x_var 5) (x_ixT (x_var 7) x_int rfl) (by decide) (Nat.lt_of_lt_of_le he.2.2 (Nat.pow_le_pow_right (by decide) (by decide)))) (s_nil ⟨_, rfl⟩)
        · intro env1 ⟨s7, he1⟩
          subst he1
          exact s_nil ⟨_, _, rfl⟩
      | 1, hd =>
        cases hd
        refine s_for (ds := [fr h]) (fun i env => ∃ s7, env = [.dat (powD C q), .dat (.tup [fr wd]), .dat (.tup [fr h]), .dat (.int 1), .dat (.lst [.lst [fr e]]), .dat (.int (match i with | 0 => wL e | _ => wM e h)), .dat (.tup [fr h]), s7, .un, .un, .un])
          PassesOwn.never rfl (i_tup (x_var 6)) ⟨_, rfl⟩ ?_ ?_
        · intro i d env1 hd ⟨s7, he1⟩
          subst he1
          refine ⟨_, _, g_name 7 nd, ?_⟩
          match i, hd with
          | 0, hd =>
            cases hd
            exact s_set 5 (x_lcm (i := wL e) (j := h.2) (x_var 5) (x_ixT (x_var 7) x_int rfl) (by rw [wL_eq he.2.1]; exact Nat.lt_of_lt_of_le he.2.2 (Nat.pow_le_pow_right (by decide) (by decide))) (Nat.lt_of_lt_of_le hh.2.2 (Nat.pow_le_pow_right (by decide) (by decide)))) (s_nil ⟨_, rfl⟩)
        · intro env1 ⟨s7, he1⟩
          subst he1
          exact s_nil ⟨_, _, rfl⟩
    · intro env1 ⟨s6, s7, he1⟩
      subst he1
      have hM := wM_lt he hh
      have dv : ∀ {x : Int × Int}, small 200 x → CDivW (wM e h) x.2 := fun hx => wide_div (b := 200) hx.2.1 hx.2.2 (by decide) (by decide)
      have ml : ∀ {x : Int × Int}, small 200 x → CMulW x.1 (wM e h / x.2) := fun hx => wide_mul (a := 200) (b := 400) hx.1 (Nat.lt_of_le_of_lt (Int.natAbs_ediv_le_natAbs _ _) hM.2) (by decide) (by decide) (by decide)
      refine s_setLc 8 [("row", 6)] rfl nd (blkOk_by (by kernel_rfl)) (l_all (xs := [0]) (enc := fun _ : Int => .lst [fr e]) (f := fun _ => .lst [.int (wE e h)]) (i_list (x_var 4)) (by decide) (js := [6]) (by decide) (fun x hx s0 H0 C cl' fp => g_name 6 nd)
        (fun x hx s0 H0 C cl' fp => (x_lc [("one", 7)] rfl nd (blkOk_by (by kernel_rfl)) (l_all (xs := [0]) (enc := fun _ : Int => fr e) (f := fun _ => .int (wE e h)) (i_list (x_var 6)) (by decide) (js := [7]) (by decide) (fun x hx s0 H0 C cl' fp => g_name 7 nd)
          (fun x hx s0 H0 C' cl' fp => (x_mul (i := e.1) (x_ixT (x_var 7) x_int rfl) (x_fdiv (x_var 5) (x_ixT (x_var 7) x_int (d := .int e.2) rfl) (dv he)) (ml he)).to rfl))).to rfl)) ?_ rfl
      refine s_ret (x_tup (a_cons (x_var 8) (a_cons (d := .lst [.int (wH e h)]) ?_ a_nil)) (by show 2 ≤ sizeLine; decide)) rfl
      exact (x_lc [("one", 7)] rfl nd (blkOk_by (by kernel_rfl)) (l_all (xs := [0]) (enc := fun _ : Int => fr h) (f := fun _ => .int (wH e h)) (i_tup (x_var 2)) (by decide) (js := [7]) (by decide) (fun x hx s0 H0 C cl' fp => g_name 7 nd)
          (fun x hx s0 H0 C' cl' fp => (x_mul (i := h.1) (x_ixT (x_var 7) x_int rfl) (x_fdiv (x_var 5) (x_ixT (x_var 7) x_int (d := .int h.2) rfl) (dv hh)) (ml hh)).to rfl))).to rfl
end
end K48

namespace K48
open PySem L2 Y
def hLo (E H o : Int) : Int := (-((E.natAbs : Int) + H) - o * H) / (2 * H) + 1
def hHi (E H o : Int) : Int := ((E.natAbs : Int) + H - o * H - 1) / (2 * H)
def FrOk (E H o : Int) : Prop := 0 < H ∧ E.natAbs < 2 ^ 1000 ∧ H.natAbs < 2 ^ 1000 ∧ (o = 0 ∨ o = 1)
def frD (E H : Int) : List D := [.lst [.lst [.int E]], .lst [.int H]]
def rgD (lo hi : Int) : D := .lst [.tup [.int lo, .int hi]]
section
variable {P : Program} {w : World} {K : PySem.W.Frag} {mg : Str → Option Value} {base : Heap} {f : Addr} {fd : FuncData} {k : Nat}
abbrev sHullRanges : Stmt := topS 28
theorem scHullRanges : FnScope ["edges", "halves", "offset", "found", "row", "half", "far", "least", "one"] ["edges", "halves", "offset"] (defScope sHullRanges) := ⟨rfl, rfl, rfl, by decide +kernel, rfl, by decide +kernel, by decide +kernel⟩
def aHull : AdP := fun ds R => ∃ E H o : Int, ds = [.lst [.lst [.int E]], .lst [.int H], .int o] ∧ FrOk E H o ∧ R = fun d => d = rgD (hLo E H o) (hHi E H o)
theorem ok_hull (F : Fun K "hull_ranges" "hull_ranges" sHullRanges f fd) (T : Bt mg) : FnOk P w K mg base CX0 (k + 1) f fd ["edges", "halves", "offset"] (spD K aHull) := by
  refine fnD F scHullRanges (fun ds R h => ?_) (by decide) (fun cdv A' outer s H0 E0 hr ds R h => ?_)
  · obtain ⟨E, H, o, rfl, _⟩ := h; rfl
  · obtain ⟨E, H, o, rfl, ⟨hH, hE1, hH1, ho⟩, rfl⟩ := h
    have nd := scHullRanges.nd
    have h_zip := T.zip
    have h_sum := T.sum
    have h_abs := T.abs
    have m1 : CMul o H := .inl (by rcases ho with rfl | rfl <;> decide)
    have m2 : CMul 2 H := .inl (by decide)
    have dv : ∀ c, CDivW c (2 * H) := fun c => wide_div (b := 1002) (by omega) (by omega) (by decide) (by decide)
    refine s_setO 3 (x_lst a_nil (by decide)) a_nil (by decide) (Nat.le_of_ble_eq_true rfl) ?_
    refine s_for (ds := [.tup [.lst [.int E], .int H]]) (fun i env => ∃ s4 s5 s6 s7, env = [.dat (.lst [.lst [.int E]]), .dat (.lst [.int H]), .dat (.int o), .own (match i with | 0 => [] | _ => [.tup [.int (hLo E H o), .int (hHi E H o)]]), s4, s5, s6, s7, .un])
      PassesOwn.never rfl (i_zip (xs := [.lst [.int E]]) (ys := [.int H]) (x_var 0) (x_var 1)) ⟨_, _, _, _, rfl⟩ ?_ ?_
    · intro i d env1 hd ⟨s4, s5, s6, s7, he1⟩
      subst he1
      match i, hd with
      | 0, hd =>
        cases hd
        refine ⟨_, _, g_tup rfl (g_cons (g_name 4 nd) (g_cons (g_name 5 nd) g_nil)) rfl, ?_⟩
        refine s_set 6 (d := .int ((E.natAbs : Int) + H)) (x_add ((x_sum (ns := [(E.natAbs : Int)]) rfl ((x_lc [("one", 8)] rfl nd (blkOk_by (by kernel_rfl)) (l_all (xs := [0]) (enc := fun _ : Int => .int E) (f := fun _ => .int (E.natAbs : Int)) (i_list (x_var 4)) (by decide) (js := [8]) (by decide) (fun x hx s0 H0 C cl' fp => g_name 8 nd)
          (fun x hx s0 H0 C cl' fp => x_abs (x_var 8)))).to rfl)).to (d' := .int (E.natAbs : Int)) (by rw [List.sum_cons, List.sum_nil, Int.add_zero])) (x_var 5)) ?_
        refine s_set 7 (x_add (x_fdiv (x_sub (x_neg (x_var 6)) (x_mulS (x_var 2) (x_var 5) m1)) (x_mulS x_int (x_var 5) m2) (dv _)) x_int) ?_
        exact s_app 3 (x_tup (a_cons (x_var 7) (a_cons (x_fdiv (x_sub (x_sub (x_var 6) (x_mulS (x_var 2) (x_var 5) m1)) x_int) (x_mulS x_int (x_var 5) m2) (dv _)) a_nil)) (by show 2 ≤ sizeLine; decide)) rfl (by show 0 < sizeLine; decide) (s_nil ⟨_, _, _, _, rfl⟩)
    · intro env1 ⟨s4, s5, s6, s7, he1⟩
      subst he1
      exact s_freeze 3 rfl (s_ret (x_var 3) rfl)

abbrev sHullSize : Stmt := topS 29
theorem scHullSize : FnScope ["ranges", "count", "low", "high"] ["ranges"] (defScope sHullSize) := ⟨rfl, rfl, rfl, by decide +kernel, rfl, by decide +kernel, by decide +kernel⟩
def aHullSize : AdP := fun ds R => ∃ lo hi : Int, ds = [rgD lo hi] ∧ R = fun d => d = .int (hi - lo + 1)
theorem ok_hullsize (F : Fun K "hull_size" "hull_size" sHullSize f fd) : FnOk P w K mg base CX0 (k + 1) f fd ["ranges"] (spD K aHullSize) := by
  refine fnD F scHullSize (fun ds R h => ?_) (by decide) (fun cdv A' outer s H0 E0 hr ds R h => ?_)
  · obtain ⟨lo, hi, rfl, _⟩ := h; rfl
  · obtain ⟨lo, hi, rfl, rfl⟩ := h
    have nd := scHullSize.nd
    refine s_set 1 x_int ?_
    refine s_for (ds := [.tup [.int lo, .int hi]]) (fun i env => ∃ s2 s3, env = [.dat (rgD lo hi), .dat (.int (match i with | 0 => 1 | _ => hi - lo + 1)), s2, s3]) PassesOwn.never rfl (i_list (x_var 0)) ⟨_, _, rfl⟩ ?_ ?_
    · intro i d env1 hd ⟨s2, s3, he1⟩
      subst he1
      match i, hd with
      | 0, hd =>
        cases hd
        refine ⟨_, _, g_tup rfl (g_cons (g_name 2 nd) (g_cons (g_name 3 nd) g_nil)) rfl, ?_⟩
        exact s_set 1 ((x_mulS (i := 1) (x_var 1) (x_add (x_sub (x_var 3) (x_var 2)) x_int) (.inl (by decide))).to (congrArg D.int (Int.one_mul _))) (s_nil ⟨_, _, rfl⟩)
    · intro env1 ⟨s2, s3, he1⟩
      subst he1
      exact s_ret (x_var 1) rfl

abbrev sSlant : Stmt := topS 31
theorem scSlant : FnScope ["edges", "columns", "axes", "unit", "column", "axis", "at", "row"] ["edges"] (defScope sSlant) := ⟨rfl, rfl, rfl, by decide +kernel, rfl, by decide +kernel, by decide +kernel⟩
def aSlant : AdP := fun ds R => ∃ E : Int, ds = [.lst [.lst [.int E]]] ∧ R = fun d => d = .lst []
theorem ok_slant (F : Fun K "slant_axes" "slant_axes" sSlant f fd) (T : Bt mg) : FnOk P w K mg base CX0 (k + 1) f fd ["edges"] (spD K aSlant) := by
  refine fnD F scSlant (fun ds R h => ?_) (by decide) (fun cdv A' outer s H0 E0 hr ds R h => ?_)
  · obtain ⟨E, rfl, _⟩ := h; rfl
  · obtain ⟨E, rfl, rfl⟩ := h
    have nd := scSlant.nd
    have h_len := T.len
    have h_range := T.range
    have h_tuple := T.tuple
    refine s_setLc 1 [("at", 6)] rfl nd (blkOk_by (by kernel_rfl)) (l_all (xs := [0]) (enc := fun i : Int => D.int i) (f := fun _ => .tup [.int E]) (i_range1 (n := 1) (x_len (x_var 0) rfl) (by decide)) (by decide) (js := [6]) (by decide) (fun x hx s0 H0 C cl' fp => g_name 6 nd)
      (fun x hx s0 H0 C cl' fp => by
        obtain rfl := List.mem_singleton.mp hx
        exact x_tuple ((x_lc [("row", 7)] rfl nd (blkOk_by (by kernel_rfl)) (l_all (xs := [0]) (enc := fun i : Int => .lst [.int E]) (f := fun _ => .int E) (i_list (x_var 0)) (by decide) (js := [7]) (by decide) (fun x hx s0 H0 C cl' fp => g_name 7 nd)
          (fun x hx s0 H0 C' cl' fp => x_ixL (x_var 7) (x_var 6) rfl))).to rfl))) ?_ rfl
    refine s_ifT ((t_eq (x_len (x_var 0) rfl) x_int).to rfl) ?_
    exact s_ret (x_lst a_nil (by decide)) rfl

abbrev sAxisB : Stmt := topS 32
theorem scAxisB : FnScope ["edges", "halves", "found", "places", "axis", "weights", "far", "by", "one", "half", "at"] ["edges", "halves"] (defScope sAxisB) := ⟨rfl, rfl, rfl, by decide +kernel, rfl, by decide +kernel, by decide +kernel⟩
def aAxisB : AdP := fun ds R => ∃ E H : Int, ds = [.lst [.lst [.int E]], .lst [.int H]] ∧ R = fun d => d = .lst []
theorem ok_axisb (F : Fun K "axis_bounds" "axis_bounds" sAxisB f fd) (T : Bt mg) (dSl : Dn P w K mg base k "slant_axes" (spD K aSlant)) : FnOk P w K mg base CX0 (k + 1) f fd ["edges", "halves"] (spD K aAxisB) := by
  refine fnD F scAxisB (fun ds R h => ?_) (by decide) (fun cdv A' outer s H0 E0 hr ds R h => ?_)
  · obtain ⟨E, H, rfl, _⟩ := h; rfl
  · obtain ⟨E, H, rfl, rfl⟩ := h
    have nd := scAxisB.nd
    have h_len := T.len
    have h_range := T.range
    have h_list := T.list
    refine s_setO 2 (x_lst a_nil (by decide)) a_nil (by decide) (Nat.le_of_ble_eq_true rfl) ?_
    refine s_set 3 (x_listRg1 rfl (x_len (x_var 1) rfl) (by show RgOk 0 1; unfold RgOk; decide)) ?_
    refine s_for (ds := []) (fun i env => env = [.dat (.lst [.lst [.int E]]), .dat (.lst [.int H]), .own [], .dat (.lst [.int 0]), .un, .un, .un, .un, .un, .un, .un]) PassesOwn.never rfl (i_list (x_call dSl hr (a_cons (x_var 0) a_nil) ⟨E, rfl, rfl⟩ (fun d' h => h))) rfl ?_ ?_
    · intro i d env1 hd
      cases hd
    · intro env1 he1
      subst he1
      exact s_freeze 2 rfl (s_ret (x_var 2) rfl)

abbrev sOuter : Stmt := topS 33
theorem scOuter : FnScope ["ranges", "inner", "rows", "at", "low", "high", "steps", "row", "step"] ["ranges", "inner"] (defScope sOuter) := ⟨rfl, rfl, rfl, by decide +kernel, rfl, by decide +kernel, by decide +kernel⟩
def aOuter : AdP := fun ds R => ∃ lo hi : Int, ds = [rgD lo hi, .int 0] ∧ R = fun d => d = .lst [.tup [.int 0]]
theorem ok_outer (F : Fun K "outer_rows" "outer_rows" sOuter f fd) (T : Bt mg) : FnOk P w K mg base CX0 (k + 1) f fd ["ranges", "inner"] (spD K aOuter) := by
  refine fnD F scOuter (fun ds R h => ?_) (by decide) (fun cdv A' outer s H0 E0 hr ds R h => ?_)
  · obtain ⟨lo, hi, rfl, _⟩ := h; rfl
  · obtain ⟨lo, hi, rfl, rfl⟩ := h
    have nd := scOuter.nd
    have h_enum := T.enumerate
    refine s_set 2 (x_lst (a_cons (x_tup a_nil (by decide)) a_nil) (by show 1 ≤ sizeLine; decide)) ?_
    refine s_for (ds := [.tup [.int 0, .tup [.int lo, .int hi]]]) (fun i env => ∃ s3 s4 s5 s6, env = [.dat (rgD lo hi), .dat (.int 0), .dat (.lst [.tup (match i with | 0 => [] | _ => [.int 0])]), s3, s4, s5, s6, .un, .un]) PassesOwn.never rfl (i_enum (xs := [.tup [.int lo, .int hi]]) (x_var 0)) ⟨_, _, _, _, rfl⟩ ?_ ?_
    · intro i d env1 hd ⟨s3, s4, s5, s6, he1⟩
      subst he1
      match i, hd with
      | 0, hd =>
        cases hd
        refine ⟨_, _, g_tup rfl (g_cons (g_name 3 nd) (g_cons (g_tup rfl (g_cons (g_name 4 nd) (g_cons (g_name 5 nd) g_nil)) rfl) g_nil)) rfl, ?_⟩
        refine s_set 6 (x_ifT ((t_eq (x_var 3) (x_var 1)).to rfl) (x_lst (a_cons x_int a_nil) (by show 1 ≤ sizeLine; decide))) ?_
        refine s_setLc2 2 [("row", 7), ("step", 8)] [8] (by decide) rfl nd (blkOk_by (by kernel_rfl)) (l_all2 (xs := [0]) (enc := fun _ : Int => .tup []) (ys := fun _ => [0]) (enc2 := fun _ _ : Int => .int 0) (f := fun _ _ => .tup [.int 0]) (i_list (x_var 2)) (by decide) (js := [7]) (js1 := [8]) (by decide) (by decide) (by decide)
          (fun x hx s0 H0 C cl' fp => g_name 7 nd) (fun x hx s0 H0 C cl' fp => i_list (x_var 6)) (fun x hx y hy s0 H0 C cl' fp => g_name 8 nd) (fun x hx y hy s0 H0 C cl' fp => (x_tup (a_star (x_var 7) rfl (a_cons (x_var 8) a_nil)) (by show 1 ≤ sizeLine; decide)).to rfl)) ?_ rfl
        exact s_nil ⟨_, _, _, _, rfl⟩
    · intro env1 ⟨s3, s4, s5, s6, he1⟩
      subst he1
      exact s_ret (x_var 2) rfl

abbrev sMetRuns : Stmt := topS 35
theorem scMetRuns : FnScope ["edges", "halves", "offset", "ranges", "spans", "inner", "bounds", "runs", "row", "low", "high", "weights", "bound"] ["edges", "halves", "offset"] (defScope sMetRuns) := ⟨rfl, rfl, rfl, by decide +kernel, rfl, by decide +kernel, by decide +kernel⟩
def aMetRuns : AdP := fun ds R => ∃ E H o : Int, ds = [.lst [.lst [.int E]], .lst [.int H], .int o] ∧ FrOk E H o ∧ hLo E H o ≤ hHi E H o ∧ R = fun d => d = .tup [.int 0, .lst [.tup [.tup [.int 0], .int (hLo E H o), .int (hHi E H o)]]]
theorem ok_metruns (F : Fun K "met_runs" "met_runs" sMetRuns f fd) (T : Bt mg) (dHu : Dn P w K mg base k "hull_ranges" (spD K aHull)) (dAx : Dn P w K mg base k "axis_bounds" (spD K aAxisB)) (dOu : Dn P w K mg base k "outer_rows" (spD K aOuter)) : FnOk P w K mg base CX0 (k + 1) f fd ["edges", "halves", "offset"] (spD K aMetRuns) := by
  refine fnD F scMetRuns (fun ds R h => ?_) (by decide) (fun cdv A' outer s H0 E0 hr ds R h => ?_)
  · obtain ⟨E, H, o, rfl, _⟩ := h; rfl
  · obtain ⟨E, H, o, rfl, hf, hle, rfl⟩ := h
    have nd := scMetRuns.nd
    have h_max := T.max
    refine s_set 3 (x_call dHu hr (a_cons (x_var 0) (a_cons (x_var 1) (a_cons (x_var 2) a_nil))) ⟨E, H, o, rfl, hf, rfl⟩ (fun d' h => h)) ?_
    generalize hLo E H o = lo at hle ⊢
    generalize hHi E H o = hi at hle ⊢
    refine s_setLc 4 [("low", 9), ("high", 10)] rfl nd (blkOk_by (by kernel_rfl)) (l_all (xs := [0]) (enc := fun _ : Int => .tup [.int lo, .int hi]) (f := fun _ => .int (hi - lo)) (i_list (x_var 3)) (by decide) (js := [9, 10]) (by decide) (fun x hx s0 H0 C cl' fp => g_tup rfl (g_cons (g_name 9 nd) (g_cons (g_name 10 nd) g_nil)) rfl)
      (fun x hx s0 H0 C cl' fp => x_sub (x_var 10) (x_var 9))) ?_ rfl
    refine s_set 5 (x_index (ns := [hi - lo]) (m := hi - lo) (j := 0) (x_var 4) ((x_maxL (ns := [hi - lo]) rfl (x_var 4) (Nat.le_of_ble_eq_true rfl)).to (by unfold maxL; simp)) rfl (fun i hi => absurd hi (Nat.not_lt_zero _))) ?_
    refine s_set 6 (x_call dAx hr (a_cons (x_var 0) (a_cons (x_var 1) a_nil)) ⟨E, H, rfl, rfl⟩ (fun d' h => h)) ?_
    refine s_setO 7 (x_lst a_nil (by decide)) a_nil (by decide) (Nat.le_of_ble_eq_true rfl) ?_
    refine s_for (ds := [.tup [.int 0]]) (fun i env => ∃ s8 s9 s10, env = [.dat (.lst [.lst [.int E]]), .dat (.lst [.int H]), .dat (.int o), .dat (rgD lo hi), .dat (.lst [.int (hi - lo)]), .dat (.int 0), .dat (.lst []), .own (match i with | 0 => [] | _ => [.tup [.tup [.int 0], .int lo, .int hi]]), s8, s9, s10, .un, .un])
      PassesOwn.never rfl (i_list (x_call dOu hr (a_cons (x_var 3) (a_cons (x_var 5) a_nil)) ⟨lo, hi, rfl, rfl⟩ (fun d' h => h))) ⟨_, _, _, rfl⟩ ?_ ?_
    · intro i d env1 hd ⟨s8, s9, s10, he1⟩
      subst he1
      match i, hd with
      | 0, hd =>
        cases hd
        refine ⟨_, _, g_name 8 nd, ?_⟩
        refine s_asgT (x_ixL (x_var 3) (x_var 5) (d := .tup [.int lo, .int hi]) rfl) (g_tup rfl (g_cons (g_name 9 nd) (g_cons (g_name 10 nd) g_nil)) rfl) ?_
        refine s_for (ds := []) (fun i env => env = [.dat (.lst [.lst [.int E]]), .dat (.lst [.int H]), .dat (.int o), .dat (rgD lo hi), .dat (.lst [.int (hi - lo)]), .dat (.int 0), .dat (.lst []), .own [], .dat (.tup [.int 0]), .dat (.int lo), .dat (.int hi), .un, .un])
          PassesOwn.never rfl (i_list (x_var 6)) rfl ?_ ?_
        · intro i d env1 hd
          cases hd
        · intro env1 he1
          subst he1
          refine s_ifT ((t_le (x_var 9) (x_var 10)).to (decide_eq_true hle)) ?_
          exact s_app 7 (x_tup (a_cons (x_var 8) (a_cons (x_var 9) (a_cons (x_var 10) a_nil))) (by show 3 ≤ sizeLine; decide)) rfl (by show 0 < sizeLine; decide) (s_nil (s_nil ⟨_, _, _, rfl⟩))
    · intro env1 ⟨s8, s9, s10, he1⟩
      subst he1
      exact s_freeze 7 rfl (s_ret (x_tup (a_cons (x_var 5) (a_cons (x_var 7) a_nil)) (by show 2 ≤ sizeLine; decide)) rfl)

def cells (lo hi : Int) : List (List Int) := (List.range (hi + 1 - lo).toNat).map fun (i : Nat) => [lo + (i : Int)]
def cellsD (lo hi : Int) : D := .lst ((cells lo hi).map fun t => .tup (t.map D.int))
theorem cells_lex (lo hi : Int) : (cells lo hi).Pairwise fun x y => HT.lexLt y x = false := by
  unfold cells
  rw [List.pairwise_map]
  refine List.Pairwise.imp ?_ List.pairwise_lt_range
  intro a b hab
  rw [HT.lexLt_cons, if_neg (by omega)]
  exact decide_eq_false (by omega)
abbrev sMetRows : Stmt := topS 36
theorem scMetRows : FnScope ["edges", "halves", "offset", "inner", "runs", "found", "row", "low", "high", "step"] ["edges", "halves", "offset"] (defScope sMetRows) := ⟨rfl, rfl, rfl, by decide +kernel, rfl, by decide +kernel, by decide +kernel⟩
def aMetRows : AdP := fun ds R => ∃ E H o : Int, ds = [.lst [.lst [.int E]], .lst [.int H], .int o] ∧ FrOk E H o ∧ hLo E H o ≤ hHi E H o ∧ hHi E H o - hLo E H o < 5000 ∧ (hLo E H o).natAbs < 2 ^ 50 ∧ R = fun d => d = cellsD (hLo E H o) (hHi E H o)
theorem ok_metrows (F : Fun K "met_rows" "met_rows" sMetRows f fd) (T : Bt mg) (dMr : Dn P w K mg base k "met_runs" (spD K aMetRuns)) : FnOk P w K mg base CX0 (k + 1) f fd ["edges", "halves", "offset"] (spD K aMetRows) := by
  refine fnD F scMetRows (fun ds R h => ?_) (by decide) (fun cdv A' outer s H0 E0 hr ds R h => ?_)
  · obtain ⟨E, H, o, rfl, _⟩ := h; rfl
  · obtain ⟨E, H, o, rfl, hf, hle, h5, hb, rfl⟩ := h
    have nd := scMetRows.nd
    have h_range := T.range
    have h_sorted := T.sorted
    refine s_asgT (x_call dMr hr (a_cons (x_var 0) (a_cons (x_var 1) (a_cons (x_var 2) a_nil))) ⟨E, H, o, rfl, hf, hle, rfl⟩ (fun d' h => h)) (g_tup rfl (g_cons (g_name 3 nd) (g_cons (g_name 4 nd) g_nil)) rfl) ?_
    generalize hLo E H o = lo at hle h5 hb ⊢
    generalize hHi E H o = hi at hle h5 hb ⊢
    refine s_setO 5 (x_lst a_nil (by decide)) a_nil (by decide) (Nat.le_of_ble_eq_true rfl) ?_
    refine s_for (ds := [.tup [.tup [.int 0], .int lo, .int hi]]) (fun i env => ∃ s6 s7 s8 s9, env = [.dat (.lst [.lst [.int E]]), .dat (.lst [.int H]), .dat (.int o), .dat (.int 0), .dat (.lst [.tup [.tup [.int 0], .int lo, .int hi]]), .own (match i with | 0 => [] | _ => (cells lo hi).map fun t => .tup (t.map D.int)), s6, s7, s8, s9])
      PassesOwn.never rfl (i_list (x_var 4)) ⟨_, _, _, _, rfl⟩ ?_ ?_
    · intro i d env1 hd ⟨s6, s7, s8, s9, he1⟩
      subst he1
      match i, hd with
      | 0, hd =>
        cases hd
        refine ⟨_, _, g_tup rfl (g_cons (g_name 6 nd) (g_cons (g_name 7 nd) (g_cons (g_name 8 nd) g_nil))) rfl, ?_⟩
        refine s_for (fun i env => ∃ s9, env = [.dat (.lst [.lst [.int E]]), .dat (.lst [.int H]), .dat (.int o), .dat (.int 0), .dat (.lst [.tup [.tup [.int 0], .int lo, .int hi]]), .own (((cells lo hi).take i).map fun t => .tup (t.map D.int)), .dat (.tup [.int 0]), .dat (.int lo), .dat (.int hi), s9])
          PassesOwn.never rfl (i_range2 (x_var 7) (x_add (x_var 8) x_int) (by omega)) ⟨_, rfl⟩ ?_ ?_
        · intro i d env1 hd ⟨s9, he1⟩
          subst he1
          refine ⟨_, _, g_name 9 nd, ?_⟩
          have hi' : i < (hi + 1 - lo).toNat := by
            have := (List.getElem?_eq_some_iff.mp hd).1
            simpa using this
          have hd' : d = .int (lo + i) := by
            rw [List.getElem?_map, List.getElem?_range hi'] at hd
            simpa using hd.symm
          subst hd'
          refine s_app 5 (d := .tup [.int (lo + i)]) ((x_tup (a_star (x_sliceT (l := none) (h := some 0) (x_var 6) o_none (o_some (x_var 3))) rfl (a_cons (x_var 9) (a_star (x_sliceT (l := some (0 + 1)) (h := none) (x_var 6) (o_some (x_add (x_var 3) x_int)) o_none) rfl a_nil))) (by show 1 ≤ sizeLine; decide)).to rfl) rfl ?_ (s_nil ⟨.dat (.int (lo + (i : Int))), ?_⟩)
          · rw [List.length_map]
            have : ((cells lo hi).take i).length ≤ (cells lo hi).length := by rw [List.length_take]; exact Nat.min_le_right _ _
            have h2 : (cells lo hi).length = (hi + 1 - lo).toNat := by unfold cells; rw [List.length_map, List.length_range]
            exact Nat.lt_of_le_of_lt this (Nat.lt_of_lt_of_le (by omega : (cells lo hi).length < 6000) (by decide))
          · have h2 : (cells lo hi)[i]? = some [lo + (i : Int)] := by
              unfold cells
              rw [List.getElem?_map, List.getElem?_range hi']
              rfl
            have h3 : (cells lo hi).take (i + 1) = (cells lo hi).take i ++ [[lo + (i : Int)]] := by rw [List.take_add_one, h2]; rfl
            rw [h3, List.map_append]
            rfl
        · intro env1 ⟨s9, he1⟩
          subst he1
          have h2 : (cells lo hi).take ((List.range (hi + 1 - lo).toNat).map fun (i : Nat) => D.int (lo + i)).length = cells lo hi := by
            rw [List.length_map, List.length_range]
            refine List.take_of_length_le ?_
            unfold cells
            rw [List.length_map, List.length_range]
            exact Nat.le_refl _
          rw [h2]
          exact s_nil ⟨_, _, _, _, rfl⟩
    · intro env1 ⟨s6, s7, s8, s9, he1⟩
      subst he1
      refine s_freeze 5 rfl (s_ret (x_sortedT (ts := cells lo hi) (List.Perm.refl _) (cells_lex lo hi) ?_ (x_var 5)) rfl)
      intro t ht
      obtain ⟨i, _, e⟩ := List.mem_map.mp ht
      rw [← e]
      exact List.cons_ne_nil _ _
end
end K48

namespace K48
open PySem L2 Y
/-- what is known of the error class TooMany -/
structure Tm (P : Program) (w : World) (K : PySem.W.Frag) (mg : Str → Option Value) (base : Heap) (k : Nat) (CT : Addr) : Prop where
  ox : OexC K CT
  hmg : mg "TooMany" = some (.ref CT)
  ex : ∃ (fI : Addr) (fd : FuncData) (ps : List Str), PySem.W.findIn K (.ref CT) "__init__" = some (some (.ref fI)) ∧ PySem.W.typeIn K (.ref fI) = some (.type "function") ∧ FnOk P w K mg base CX0 k fI fd ps (spI2 CT "what" "count") ∧ Binds K fd ps []
theorem wE_lt {e h : Int × Int} (he : small 200 e) (hh : small 200 h) : (wE e h).natAbs < 2 ^ 1000 := Nat.lt_of_lt_of_le (w_bound he hh (small_mono he (by decide))) (Nat.pow_le_pow_right (by decide) (by decide))
theorem wH_lt {e h : Int × Int} (he : small 200 e) (hh : small 200 h) : (wH e h).natAbs < 2 ^ 1000 := Nat.lt_of_lt_of_le (w_bound he hh (small_mono hh (by decide))) (Nat.pow_le_pow_right (by decide) (by decide))
theorem dvd_lcm {a b : Int} (ha : 0 < a) (hb : 0 < b) : a ∣ ((Nat.lcm a.natAbs b.natAbs : Nat) : Int) ∧ b ∣ ((Nat.lcm a.natAbs b.natAbs : Nat) : Int) :=
  ⟨Int.natAbs_dvd_natAbs.mp (by rw [Int.natAbs_natCast]; exact Nat.dvd_lcm_left _ _), Int.natAbs_dvd_natAbs.mp (by rw [Int.natAbs_natCast]; exact Nat.dvd_lcm_right _ _)⟩
theorem wH_pos {e h : Int × Int} (he : small 200 e) (hh : small 200 h) (h1 : 0 < h.1) : 0 < wH e h := by
  have h2 := (wM_lt he hh).1
  refine Int.mul_pos h1 (Int.ediv_pos_of_pos_of_dvd h2 (by have := hh.2.1; omega) ?_)
  rw [wM_eq he.2.1 hh.2.1]
  exact (dvd_lcm he.2.1 hh.2.1).2
theorem small_edge {q wd : Int × Int} (hq : small 100 q) (hw : small 100 wd) : small 200 (edge q wd) := small_low (small_mul hq hw)
theorem frOk {q wd h : Int × Int} {o : Int} (hq : small 100 q) (hw : small 100 wd) (hh : small 200 h) (h1 : 0 < h.1) (ho : o = 0 ∨ o = 1) : FrOk (wE (edge q wd) h) (wH (edge q wd) h) o :=
  ⟨wH_pos (small_edge hq hw) hh h1, wE_lt (small_edge hq hw) hh, wH_lt (small_edge hq hw) hh, ho⟩
def cLo (q wd h : Int × Int) (o : Int) : Int := hLo (wE (edge q wd) h) (wH (edge q wd) h) o
def cHi (q wd h : Int × Int) (o : Int) : Int := hHi (wE (edge q wd) h) (wH (edge q wd) h) o
structure In4 (q wd h : Int × Int) (o : Int) : Prop where
  sq : small 100 q
  sw : small 100 wd
  sh : small 200 h
  wl : lowP wd = wd
  hl : lowP h = h
  h1 : 0 < h.1
  o : o = 0 ∨ o = 1
section
variable {P : Program} {w : World} {K : PySem.W.Frag} {mg : Str → Option Value} {base : Heap} {f : Addr} {fd : FuncData} {k : Nat}
abbrev sCells : Stmt := topS 39
theorem scCells : FnScope ["power", "widths", "halves", "offset", "edges", "sizes"] ["power", "widths", "halves", "offset"] (defScope sCells) := ⟨rfl, rfl, rfl, by decide +kernel, rfl, by decide +kernel, by decide +kernel⟩
def aCells (C CT : Addr) : AdX := fun ds R RE => ∃ (q wd h : Int × Int) (o : Int), ds = [powD C q, .lst [fr wd], .lst [fr h], .int o] ∧ In4 q wd h o ∧
  ((cHi q wd h o - cLo q wd h o + 1 ≤ 4000 ∧ cLo q wd h o ≤ cHi q wd h o ∧ (cLo q wd h o).natAbs < 2 ^ 50 ∧ R = (fun d => d = cellsD (cLo q wd h o) (cHi q wd h o)) ∧ RE = fun (_ : Value) (_ : List (Str × V)) => False) ∨
   (4000 < cHi q wd h o - cLo q wd h o + 1 ∧ R = (fun _ => False) ∧ RE = fun (c : Value) (v : List (Str × V)) => c = Value.ref CT ∧ v = [(("count" : Str), V.int 4000), (("what" : Str), V.str "cells")]))
theorem ok_cells {C CT : Addr} (F : Fun K "cells_met" "cells_met" sCells f fd) (T : Tm P w K mg base k CT) (c1 : ∃ t, mg "CELLS" = some (.int 4000 t)) (dFo : Dn P w K mg base k "fractions_of" (spD K aFractionsOf)) (dWf : Dn P w K mg base k "whole_frame" (spD K (aWhole C)))
    (dHs : Dn P w K mg base k "hull_size" (spD K aHullSize)) (dHu : Dn P w K mg base k "hull_ranges" (spD K aHull)) (dMr : Dn P w K mg base k "met_rows" (spD K aMetRows)) : FnOk P w K mg base (L2.CX P w) (k + 1 + 1) f fd ["power", "widths", "halves", "offset"] (spX K (aCells C CT)) := by
  refine fnDX F scCells (fun ds R RE h => ?_) (by decide) (fun cdv A' outer s H0 E0 hr ds R RE h hE => ?_)
  · obtain ⟨q, wd, h', o, rfl, _⟩ := h; rfl
  · obtain ⟨q, wd, h, o, rfl, I, hc⟩ := h
    have nd := scCells.nd
    obtain ⟨t, c1⟩ := c1
    have hrk := hr.mono (Nat.le_succ k)
    have fok := frOk I.sq I.sw I.sh I.h1 I.o
    refine s_asgT (x_call dWf hrk (a_cons (x_var 0) (a_cons (x_call dFo hrk (a_cons (x_var 1) a_nil) ⟨_, [wd], rfl, .inl rfl, Nat.le_of_ble_eq_true rfl, fun p hp => by rw [List.mem_singleton.mp hp]; exact ⟨I.sw.2.1, Nat.lt_of_lt_of_le I.sw.2.2 (Nat.pow_le_pow_right (by decide) (by decide))⟩, rfl⟩ (fun d' h => h))
      (a_cons (x_call dFo hrk (a_cons (x_var 2) a_nil) ⟨_, [h], rfl, .inl rfl, Nat.le_of_ble_eq_true rfl, fun p hp => by rw [List.mem_singleton.mp hp]; exact ⟨I.sh.2.1, Nat.lt_of_lt_of_le I.sh.2.2 (Nat.pow_le_pow_right (by decide) (by decide))⟩, rfl⟩ (fun d' h => h)) a_nil))) ⟨q, wd, h, by rw [List.map_singleton, List.map_singleton, I.wl, I.hl], I.sq, I.sw, I.sh, rfl⟩ (fun d' h => h)) (g_tup rfl (g_cons (g_name 4 nd) (g_cons (g_name 5 nd) g_nil)) rfl) ?_
    unfold cHi cLo at hc
    generalize wE (edge q wd) h = E at fok hc ⊢
    generalize wH (edge q wd) h = H at fok hc ⊢
    refine s_if (t_gt (x_call dHs hrk (a_cons (x_call dHu hrk (a_cons (x_var 4) (a_cons (x_var 5) (a_cons (x_var 3) a_nil))) ⟨E, H, o, rfl, fok, rfl⟩ (fun d' h => h)) a_nil) ⟨hLo E H o, hHi E H o, rfl, rfl⟩ (fun d' h => h)) (x_glob (by rfl) c1 (v := .int 4000) ⟨t, rfl⟩ (fun _ => rfl))) (fun k1 => ?_) (fun k1 => s_nil ?_)
    · rcases hc with ⟨h1, _⟩ | ⟨h1, rfl, rfl⟩
      · exact absurd (of_decide_eq_true k1) (by omega)
      obtain ⟨fI, fdI, psI, iC, tI, F1, hb⟩ := T.ex
      refine s_raise2 (E := E0) T.ox iC tI F1 hb T.hmg hr (takes_of rfl rfl rfl rfl) rfl (a_cons x_str (a_cons (x_glob (by rfl) c1 (v := .int 4000) ⟨t, rfl⟩ (fun _ => rfl)) a_nil)) (d1 := .str "cells") (d2 := .int 4000) rfl rfl ?_ (fun _ h => h)
      intro dd H' h1 h2 h3
      exact hE _ dd H' _ ⟨rfl, rfl⟩ h1 h2 h3
    · rcases hc with ⟨h1, h2, h3, rfl, rfl⟩ | ⟨h1, rfl, rfl⟩
      · exact s_ret (x_call dMr hrk (a_cons (x_var 4) (a_cons (x_var 5) (a_cons (x_var 3) a_nil))) ⟨E, H, o, rfl, fok, h2, by omega, h3, rfl⟩ (fun d' h => h)) rfl
      · exact absurd (of_decide_eq_false k1) (by omega)
end
end K48

namespace K48
open PySem L2 Y
section
variable {P : Program} {w : World} {K : PySem.W.Frag} {mg : Str → Option Value} {base : Heap} {f : Addr} {fd : FuncData} {k : Nat}
abbrev sCount : Stmt := topS 40
theorem scCount : FnScope ["power", "widths", "halves", "offset", "edges", "sizes"] ["power", "widths", "halves", "offset"] (defScope sCount) := ⟨rfl, rfl, rfl, by decide +kernel, rfl, by decide +kernel, by decide +kernel⟩
def aCount (C : Addr) : AdP := fun ds R => ∃ (q wd h : Int × Int) (o : Int), ds = [powD C q, .lst [fr wd], .tup [fr h], .int o] ∧ In4 q wd h o ∧ R = (fun d => d = .int (cHi q wd h o - cLo q wd h o + 1))
theorem ok_count {C : Addr} (F : Fun K "hull_count" "hull_count" sCount f fd) (dFo : Dn P w K mg base k "fractions_of" (spD K aFractionsOf)) (dWf : Dn P w K mg base k "whole_frame" (spD K (aWhole C)))
    (dHs : Dn P w K mg base k "hull_size" (spD K aHullSize)) (dHu : Dn P w K mg base k "hull_ranges" (spD K aHull)) : FnOk P w K mg base CX0 (k + 1) f fd ["power", "widths", "halves", "offset"] (spD K (aCount C)) := by
  refine fnD F scCount (fun ds R h => ?_) (by decide) (fun cdv A' outer s H0 E0 hr ds R h => ?_)
  · obtain ⟨q, wd, h', o, rfl, _⟩ := h; rfl
  · obtain ⟨q, wd, h, o, rfl, I, rfl⟩ := h
    have nd := scCount.nd
    have fok := frOk I.sq I.sw I.sh I.h1 I.o
    refine s_asgT (x_call dWf hr (a_cons (x_var 0) (a_cons (x_call dFo hr (a_cons (x_var 1) a_nil) ⟨_, [wd], rfl, .inl rfl, Nat.le_of_ble_eq_true rfl, fun p hp => by rw [List.mem_singleton.mp hp]; exact ⟨I.sw.2.1, Nat.lt_of_lt_of_le I.sw.2.2 (Nat.pow_le_pow_right (by decide) (by decide))⟩, rfl⟩ (fun d' h => h))
      (a_cons (x_call dFo hr (a_cons (x_var 2) a_nil) ⟨_, [h], rfl, .inr rfl, Nat.le_of_ble_eq_true rfl, fun p hp => by rw [List.mem_singleton.mp hp]; exact ⟨I.sh.2.1, Nat.lt_of_lt_of_le I.sh.2.2 (Nat.pow_le_pow_right (by decide) (by decide))⟩, rfl⟩ (fun d' h => h)) a_nil))) ⟨q, wd, h, by rw [List.map_singleton, List.map_singleton, I.wl, I.hl], I.sq, I.sw, I.sh, rfl⟩ (fun d' h => h)) (g_tup rfl (g_cons (g_name 4 nd) (g_cons (g_name 5 nd) g_nil)) rfl) ?_
    unfold cHi cLo
    generalize wE (edge q wd) h = E at fok ⊢
    generalize wH (edge q wd) h = H at fok ⊢
    exact s_ret (x_call dHs hr (a_cons (x_call dHu hr (a_cons (x_var 4) (a_cons (x_var 5) (a_cons (x_var 3) a_nil))) ⟨E, H, o, rfl, fok, rfl⟩ (fun d' h => h)) a_nil) ⟨hLo E H o, hHi E H o, rfl, rfl⟩ (fun d' h => h)) rfl

abbrev sSplit : Stmt := topS 42
theorem scSplit : FnScope ["text", "row"] ["text"] (defScope sSplit) := ⟨rfl, rfl, rfl, by decide +kernel, rfl, by decide +kernel, by decide +kernel⟩
def aSplit : AdP := fun ds R => ∃ q, q ∈ qs ∧ ds = [.str (word q)] ∧ R = fun d => d = .lst [.lst [.str (word q)]]
theorem ok_split (F : Fun K "split_rows" "split_rows" sSplit f fd) : FnOk P w K mg base CX0 (k + 1) f fd ["text"] (spD K aSplit) := by
  refine fnD F scSplit (fun ds R h => ?_) (by decide) (fun cdv A' outer s H0 E0 hr ds R h => ?_)
  · obtain ⟨q, _, rfl, _⟩ := h; rfl
  · obtain ⟨q, hq, rfl, rfl⟩ := h
    have Q := qf hq
    have nd := scSplit.nd
    have h32 : (word q).length + 2 ≤ sizeLine := Nat.le_trans (Nat.add_le_add_right Q.z30 2) (by decide)
    refine s_ret ((x_lc [("row", 1)] rfl nd (blkOk_by (by kernel_rfl)) (l_all (xs := [0]) (enc := fun _ : Int => .str (word q)) (f := fun _ => .lst [.str (word q)]) (i_list ((x_split (x_var 0) x_str (by decide +kernel) h32).to (by rw [Q.sp1]; rfl))) (by decide) (js := [1]) (by decide) (fun x hx s0 H0 C cl' fp => g_name 1 nd)
      (fun x hx s0 H0 C cl' fp => (x_split (x_var 1) x_str (by decide +kernel) h32).to (by rw [Q.sp2]; rfl)))).to rfl) rfl

abbrev sShape : Stmt := topS 43
theorem scShape : FnScope ["rows", "row"] ["rows"] (defScope sShape) := ⟨rfl, rfl, rfl, by decide +kernel, rfl, by decide +kernel, by decide +kernel⟩
def aShape : AdP := fun ds R => ∃ x, ds = [.lst [.lst [x]]] ∧ R = fun d => d = .non
theorem ok_shape (F : Fun K "_check_shape" "_check_shape" sShape f fd) (T : Bt mg) : FnOk P w K mg base CX0 (k + 1) f fd ["rows"] (spD K aShape) := by
  refine fnD F scShape (fun ds R h => ?_) (by decide) (fun cdv A' outer s H0 E0 hr ds R h => ?_)
  · obtain ⟨q, rfl, _⟩ := h; rfl
  · obtain ⟨x, rfl, rfl⟩ := h
    have nd := scShape.nd
    have h_len := T.len
    have h_isi := T.isi
    have h_list := T.list
    have h_tuple := T.tuple
    refine s_ifF ((t_or (k := false) (t_not (t_val (x_isi2 (x_var 0) (T := "list") (T1 := "list") (T2 := "tuple") rfl (x_ty (by rfl) h_list (by decide +kernel)) (x_ty (by rfl) h_tuple (by decide +kernel)) (k1 := true) (k2 := false) (by decide +kernel) (by decide +kernel)))) (fun _ => (t_eq (x_len (x_var 0) rfl) x_int).to rfl)).to rfl) (s_nil ?_)
    refine s_for (ds := [.lst [x]]) (fun i env => ∃ s1, env = [.dat (.lst [.lst [x]]), s1]) PassesOwn.never rfl (i_list (x_var 0)) ⟨_, rfl⟩ ?_ ?_
    · intro i d env1 hd ⟨s1, he1⟩
      subst he1
      match i, hd with
      | 0, hd =>
        cases hd
        refine ⟨_, _, g_name 1 nd, ?_⟩
        refine s_ifF ((t_or (k := false) (t_not (t_val (x_isi2 (x_var 1) (T := "list") (T1 := "list") (T2 := "tuple") rfl (x_ty (by rfl) h_list (by decide +kernel)) (x_ty (by rfl) h_tuple (by decide +kernel)) (k1 := true) (k2 := false) (by decide +kernel) (by decide +kernel)))) (fun _ => (t_eq (x_len (x_var 1) rfl) x_int).to rfl)).to rfl) (s_nil ?_)
        refine s_ifF ((t_ne (x_len (x_var 1) rfl) (x_len (x_ixL (x_var 0) x_int (d := .lst [x]) rfl) rfl)).to rfl) (s_nil (s_nil ⟨_, rfl⟩))
    · intro env1 ⟨s1, he1⟩
      subst he1
      exact s_nil rfl

abbrev sItem : Stmt := topS 44
theorem scItem : FnScope ["item"] ["item"] (defScope sItem) := ⟨rfl, rfl, rfl, by decide +kernel, rfl, by decide +kernel, by decide +kernel⟩
theorem ok_item (F : Fun K "_read_item" "_read_item" sItem f fd) (dRd : Dn P w K mg base k "read_fraction" (spD K aRead)) : FnOk P w K mg base CX0 (k + 1) f fd ["item"] (spD K aRead) := by
  refine fnD F scItem (fun ds R h => ?_) (by decide) (fun cdv A' outer s H0 E0 hr ds R h => ?_)
  · rcases h with ⟨q, _, rfl, _⟩ | ⟨q, rfl, _⟩ <;> rfl
  · refine s_tryT ?_
    rcases h with ⟨q, hq, rfl, rfl⟩ | ⟨q, rfl, h0, h1, rfl⟩
    · exact s_ret (x_call dRd hr (a_cons (x_var 0) a_nil) (.inl ⟨q, hq, rfl, rfl⟩) (fun d' h => h)) rfl
    · exact s_ret (x_call dRd hr (a_cons (x_var 0) a_nil) (.inr ⟨q, rfl, h0, h1, rfl⟩) (fun d' h => h)) rfl

abbrev sRows : Stmt := topS 45
theorem scRows : FnScope ["value", "rows", "words", "word", "others", "item", "row"] ["value"] (defScope sRows) := ⟨rfl, rfl, rfl, by decide +kernel, rfl, by decide +kernel, by decide +kernel⟩
def rowsD (p : Int × Int) : D := .tup [.tup [fr p]]
def aRows : AdP := fun ds R => (∃ q, q ∈ qs ∧ ds = [.str (word q)] ∧ R = fun d => d = rowsD q) ∨ ∃ q : Int × Int, ds = [.lst [.lst [fr q]]] ∧ 0 < q.2 ∧ q.2.natAbs < 2 ^ 4000 ∧ R = fun d => d = rowsD (lowP q)
theorem ok_rows (F : Fun K "_read_rows" "_read_rows" sRows f fd) (T : Bt mg) (dCl : Dn P w K mg base k "check_length" (spD K aCheckLength)) (dSp : Dn P w K mg base k "split_rows" (spD K aSplit)) (dSh : Dn P w K mg base k "_check_shape" (spD K aShape))
    (dIf : Dn P w K mg base k "is_fraction" (spD K aIsFraction)) (dIt : Dn P w K mg base k "_read_item" (spD K aRead)) (dCf : Dn P w K mg base k "check_figures" (spD K aCheckFigures)) : FnOk P w K mg base CX0 (k + 1) f fd ["value"] (spD K aRows) := by
  refine fnD F scRows (fun ds R h => ?_) (by decide) (fun cdv A' outer s H0 E0 hr ds R h => ?_)
  · rcases h with ⟨q, _, rfl, _⟩ | ⟨q, rfl, _⟩ <;> rfl
  · have nd := scRows.nd
    have h_isi := T.isi
    have h_str := T.str
    have h_tuple := T.tuple
    rcases h with ⟨q, hq, rfl, rfl⟩ | ⟨q, rfl, h0, h1, rfl⟩
    · have Q := qf hq
      refine s_set 1 (x_var 0) ?_
      refine s_ifT (t_val (x_isi (x_var 0) (T := "str") (T' := "str") rfl (x_ty (by rfl) h_str (by decide +kernel)) (k := true) (by decide +kernel))) ?_
      refine s_expr (x_call dCl hr (a_cons (x_var 0) a_nil) ⟨_, rfl, Q.z30, rfl⟩ (fun d' h => h)) ?_
      refine s_set 1 (x_call dSp hr (a_cons (x_var 0) a_nil) ⟨q, hq, rfl, rfl⟩ (fun d' h => h)) (s_nil ?_)
      refine s_expr (x_call dSh hr (a_cons (x_var 1) a_nil) ⟨_, rfl, rfl⟩ (fun d' h => h)) ?_
      refine s_setLc2 2 [("row", 6), ("item", 5)] [5] (by decide) rfl nd (blkOk_by (by kernel_rfl)) ((l_if2 (xs := [0]) (enc := fun _ : Int => .lst [.str (word q)]) (b := fun _ => true) (ys := fun _ => [0]) (enc2 := fun _ _ : Int => .str (word q)) (b2 := fun _ _ => true) (f := fun _ _ => .str (word q)) (i_list (x_var 1)) (by show 1 < sizeLine; decide) (js := [6]) (js1 := [5]) (by decide) (by decide) (by decide)
          (fun x hx s0 H0 C cl' fp => g_name 6 nd) (fun x hx s0 H0 C cl' fp => ts_nil) (fun x hx _ s0 H0 C cl' fp => i_list (x_var 6)) (fun x hx _ y hy s0 H0 C cl' fp => g_name 5 nd)
          (fun x hx _ y hy s0 H0 C cl' fp => ts_one (t_val (x_isi (x_var 5) (T := "str") (T' := "str") rfl (x_ty (by rfl) h_str (by decide +kernel)) (k := true) (by decide +kernel)))) (fun x hx _ y hy _ s0 H0 C cl' fp => x_var 5)).to rfl) ?_ rfl
      refine s_for (ds := [.str (word q)]) (fun i env => ∃ s3, env = [.dat (.str (word q)), .dat (.lst [.lst [.str (word q)]]), .dat (.lst [.str (word q)]), s3, .un, .un, .un]) PassesOwn.never rfl (i_list (x_var 2)) ⟨_, rfl⟩ ?_ ?_
      · intro i d env1 hd ⟨s1, he1⟩
        subst he1
        match i, hd with
        | 0, hd =>
          cases hd
          refine ⟨_, _, g_name 3 nd, ?_⟩
          refine s_expr (x_call dCl hr (a_cons (x_var 3) a_nil) ⟨_, rfl, Q.z30, rfl⟩ (fun d' h => h)) ?_
          exact s_ifF ((t_not (t_val (x_call dIf hr (a_cons (x_var 3) a_nil) ⟨q, hq, rfl, rfl⟩ (fun d' h => h)))).to rfl) (s_nil (s_nil ⟨_, rfl⟩))
      · intro env1 ⟨s1, he1⟩
        subst he1
        refine s_setLc 4 [("row", 6)] rfl nd (blkOk_by (by kernel_rfl)) (l_all (xs := [0]) (enc := fun _ : Int => .lst [.str (word q)]) (f := fun _ => .lst [.str (word q)]) (i_list (x_var 1)) (by decide) (js := [6]) (by decide) (fun x hx s0 H0 C cl' fp => g_name 6 nd)
          (fun x hx s0 H0 C cl' fp => (x_lc [("item", 5)] rfl nd (blkOk_by (by kernel_rfl)) (l_all (xs := [0]) (enc := fun _ : Int => .str (word q)) (f := fun _ => .str (word q)) (i_list (x_var 6)) (by decide) (js := [5]) (by decide) (fun x hx s0 H0 C cl' fp => g_name 5 nd)
            (fun x hx s0 H0 C cl' fp => x_ifT (t_val (x_isi (x_var 5) (T := "str") (T' := "str") rfl (x_ty (by rfl) h_str (by decide +kernel)) (k := true) (by decide +kernel))) (x_var 5)))).to rfl)) ?_ rfl
        refine s_expr (x_call dCf hr (a_cons (x_var 2) a_nil) ⟨[q], rfl, fun x hx => by rw [List.mem_singleton.mp hx]; exact hq, Nat.le_of_ble_eq_true rfl, rfl⟩ (fun d' h => h)) ?_
        refine s_ret (x_tuple ((x_lc [("row", 6)] rfl nd (blkOk_by (by kernel_rfl)) (l_all (xs := [0]) (enc := fun _ : Int => .lst [.str (word q)]) (f := fun _ => .tup [fr q]) (i_list (x_var 4)) (by decide) (js := [6]) (by decide) (fun x hx s0 H0 C cl' fp => g_name 6 nd)
          (fun x hx s0 H0 C cl' fp => x_tuple ((x_lc [("item", 5)] rfl nd (blkOk_by (by kernel_rfl)) (l_all (xs := [0]) (enc := fun _ : Int => .str (word q)) (f := fun _ => fr q) (i_list (x_var 6)) (by decide) (js := [5]) (by decide) (fun x hx s0 H0 C cl' fp => g_name 5 nd)
            (fun x hx s0 H0 C cl' fp => x_ifT (t_val (x_isi (x_var 5) (T := "str") (T' := "str") rfl (x_ty (by rfl) h_str (by decide +kernel)) (k := true) (by decide +kernel))) (x_call dIt hr (a_cons (x_var 5) a_nil) (.inl ⟨q, hq, rfl, rfl⟩) (fun d' h => h))))).to rfl)))).to rfl)) rfl
    · refine s_set 1 (x_var 0) ?_
      refine s_ifF (t_val (x_isi (x_var 0) (T := "list") (T' := "str") rfl (x_ty (by rfl) h_str (by decide +kernel)) (k := false) (by decide +kernel))) (s_nil ?_)
      refine s_expr (x_call dSh hr (a_cons (x_var 1) a_nil) ⟨_, rfl, rfl⟩ (fun d' h => h)) ?_
      refine s_setLc2 2 [("row", 6), ("item", 5)] [5] (by decide) rfl nd (blkOk_by (by kernel_rfl)) ((l_if2 (xs := [0]) (enc := fun _ : Int => .lst [fr q]) (b := fun _ => true) (ys := fun _ => [0]) (enc2 := fun _ _ : Int => fr q) (b2 := fun _ _ => false) (f := fun _ _ => fr q) (i_list (x_var 1)) (by show 0 < sizeLine; decide) (js := [6]) (js1 := [5]) (by decide) (by decide) (by decide)
          (fun x hx s0 H0 C cl' fp => g_name 6 nd) (fun x hx s0 H0 C cl' fp => ts_nil) (fun x hx _ s0 H0 C cl' fp => i_list (x_var 6)) (fun x hx _ y hy s0 H0 C cl' fp => g_name 5 nd)
          (fun x hx _ y hy s0 H0 C cl' fp => ts_one (t_val (x_isi (x_var 5) (T := "tuple") (T' := "str") rfl (x_ty (by rfl) h_str (by decide +kernel)) (k := false) (by decide +kernel)))) (fun x hx _ y hy h s0 H0 C cl' fp => by cases h)).to (d' := .lst []) rfl) ?_ rfl
      refine s_for (ds := []) (fun i env => env = [.dat (.lst [.lst [fr q]]), .dat (.lst [.lst [fr q]]), .dat (.lst []), .un, .un, .un, .un]) PassesOwn.never rfl (i_list (x_var 2)) rfl ?_ ?_
      · intro i d env1 hd
        cases hd
      · intro env1 he1
        subst he1
        refine s_setLc 4 [("row", 6)] rfl nd (blkOk_by (by kernel_rfl)) (l_all (xs := [0]) (enc := fun _ : Int => .lst [fr q]) (f := fun _ => .lst [fr (lowP q)]) (i_list (x_var 1)) (by decide) (js := [6]) (by decide) (fun x hx s0 H0 C cl' fp => g_name 6 nd)
          (fun x hx s0 H0 C cl' fp => (x_lc [("item", 5)] rfl nd (blkOk_by (by kernel_rfl)) (l_all (xs := [0]) (enc := fun _ : Int => fr q) (f := fun _ => fr (lowP q)) (i_list (x_var 6)) (by decide) (js := [5]) (by decide) (fun x hx s0 H0 C cl' fp => g_name 5 nd)
            (fun x hx s0 H0 C cl' fp => x_ifF (t_val (x_isi (x_var 5) (T := "tuple") (T' := "str") rfl (x_ty (by rfl) h_str (by decide +kernel)) (k := false) (by decide +kernel))) (x_call dIt hr (a_cons (x_var 5) a_nil) (.inr ⟨q, rfl, h0, h1, rfl⟩) (fun d' h => h))))).to rfl)) ?_ rfl
        refine s_expr (x_call dCf hr (a_cons (x_var 2) a_nil) ⟨[], rfl, (fun x hx => absurd hx List.not_mem_nil), Nat.zero_le _, rfl⟩ (fun d' h => h)) ?_
        refine s_ret (x_tuple ((x_lc [("row", 6)] rfl nd (blkOk_by (by kernel_rfl)) (l_all (xs := [0]) (enc := fun _ : Int => .lst [fr (lowP q)]) (f := fun _ => .tup [fr (lowP q)]) (i_list (x_var 4)) (by decide) (js := [6]) (by decide) (fun x hx s0 H0 C cl' fp => g_name 6 nd)
          (fun x hx s0 H0 C cl' fp => x_tuple ((x_lc [("item", 5)] rfl nd (blkOk_by (by kernel_rfl)) (l_all (xs := [0]) (enc := fun _ : Int => fr (lowP q)) (f := fun _ => fr (lowP q)) (i_list (x_var 6)) (by decide) (js := [5]) (by decide) (fun x hx s0 H0 C cl' fp => g_name 5 nd)
            (fun x hx s0 H0 C cl' fp => x_ifF (t_val (x_isi (x_var 5) (T := "tuple") (T' := "str") rfl (x_ty (by rfl) h_str (by decide +kernel)) (k := false) (by decide +kernel))) (x_var 5)))).to rfl)))).to rfl)) rfl
end
end K48

namespace K48
open PySem L2 Y
section
variable {P : Program} {w : World} {K : PySem.W.Frag} {mg : Str → Option Value} {base : Heap} {f : Addr} {fd : FuncData} {k : Nat}
abbrev sWr : Stmt := topS 46
theorem scWr : FnScope ["rows", "bottom", "row", "fraction"] ["rows"] (defScope sWr) := ⟨rfl, rfl, rfl, by decide +kernel, rfl, by decide +kernel, by decide +kernel⟩
def aWr : AdP := fun ds R => ∃ q : Int × Int, ds = [rowsD q] ∧ small 100 q ∧ R = fun d => d = .tup [.lst [.lst [.int q.1]], .int q.2]
theorem ok_wr (F : Fun K "whole_rows" "whole_rows" sWr f fd) (T : Bt mg) : FnOk P w K mg base CX0 (k + 1) f fd ["rows"] (spD K aWr) := by
  refine fnD F scWr (fun ds R h => ?_) (by decide) (fun cdv A' outer s H0 E0 hr ds R h => ?_)
  · obtain ⟨q, rfl, _⟩ := h; rfl
  · obtain ⟨q, rfl, hq, rfl⟩ := h
    have nd := scWr.nd
    have h_lcm := T.lcm
    refine s_set 1 x_int ?_
    refine s_for (ds := [.tup [fr q]]) (fun i env => ∃ s2 s3, env = [.dat (rowsD q), .dat (.int (match i with | 0 => 1 | _ => wL q)), s2, s3]) PassesOwn.never rfl (i_tup (x_var 0)) ⟨_, _, rfl⟩ ?_ ?_
    · intro i d env1 hd ⟨s2, s3, he1⟩
      subst he1
      match i, hd with
      | 0, hd =>
        cases hd
        refine ⟨_, _, g_name 2 nd, ?_⟩
        refine s_for (ds := [fr q]) (fun i env => ∃ s3, env = [.dat (rowsD q), .dat (.int (match i with | 0 => 1 | _ => wL q)), .dat (.tup [fr q]), s3]) PassesOwn.never rfl (i_tup (x_var 2)) ⟨_, rfl⟩ ?_ ?_
        · intro i d env1 hd ⟨s3, he1⟩
          subst he1
          match i, hd with
          | 0, hd =>
            cases hd
            refine ⟨_, _, g_name 3 nd, ?_⟩
            exact s_set 1 (x_lcm (i := 1) (j := q.2) (x_var 1) (x_ixT (x_var 3) x_int rfl) (by decide) (Nat.lt_of_lt_of_le hq.2.2 (Nat.pow_le_pow_right (by decide) (by decide)))) (s_nil ⟨_, rfl⟩)
        · intro env1 ⟨s3, he1⟩
          subst he1
          exact s_nil ⟨_, _, rfl⟩
    · intro env1 ⟨s2, s3, he1⟩
      subst he1
      have e1 : wL q = q.2 := wL_eq hq.2.1
      show XS _ _ [.dat (rowsD q), .dat (.int (wL q)), s2, s3] _ _
      rw [e1]
      have dv : CDivW q.2 q.2 := wide_div (b := 100) hq.2.1 hq.2.2 (by decide) (by decide)
      have e2 : q.1 * (q.2 / q.2) = q.1 := by rw [Int.ediv_self (by have := hq.2.1; omega), Int.mul_one]
      have ml : CMulW q.1 (q.2 / q.2) := wide_mul (a := 100) (b := 1) hq.1 (by rw [Int.ediv_self (by have := hq.2.1; omega)]; decide) (by decide) (by decide) (by decide)
      refine s_ret (x_tup (a_cons (d := .lst [.lst [.int q.1]]) ?_ (a_cons (x_var 1) a_nil)) (by show 2 ≤ sizeLine; decide)) rfl
      exact (x_lc [("row", 2)] rfl nd (blkOk_by (by kernel_rfl)) (l_all (xs := [0]) (enc := fun _ : Int => .tup [fr q]) (f := fun _ => .lst [.int q.1]) (i_tup (x_var 0)) (by decide) (js := [2]) (by decide) (fun x hx s0 H0 C cl' fp => g_name 2 nd)
        (fun x hx s0 H0 C cl' fp => (x_lc [("fraction", 3)] rfl nd (blkOk_by (by kernel_rfl)) (l_all (xs := [0]) (enc := fun _ : Int => fr q) (f := fun _ => .int q.1) (i_tup (x_var 2)) (by decide) (js := [3]) (by decide) (fun x hx s0 H0 C cl' fp => g_name 3 nd)
          (fun x hx s0 H0 C cl' fp => (x_mul (i := q.1) (x_ixT (x_var 3) x_int rfl) (x_fdiv (x_var 1) (x_ixT (x_var 3) x_int (d := .int q.2) rfl) dv) ml).to (by rw [e2])))).to rfl))).to rfl

abbrev sDot : Stmt := topS 47
theorem scDot : FnScope ["one", "other", "top", "more"] ["one", "other"] (defScope sDot) := ⟨rfl, rfl, rfl, by decide +kernel, rfl, by decide +kernel, by decide +kernel⟩
def aDot : AdP := fun ds R => ∃ a b : Int, ds = [.lst [.int a], .lst [.int b]] ∧ a.natAbs < 2 ^ 1000 ∧ b.natAbs < 2 ^ 1000 ∧ R = fun d => d = .int (a * b)
theorem ok_dot (F : Fun K "dot" "dot" sDot f fd) (T : Bt mg) : FnOk P w K mg base CX0 (k + 1) f fd ["one", "other"] (spD K aDot) := by
  refine fnD F scDot (fun ds R h => ?_) (by decide) (fun cdv A' outer s H0 E0 hr ds R h => ?_)
  · obtain ⟨a, b, rfl, _⟩ := h; rfl
  · obtain ⟨a, b, rfl, ha, hb, rfl⟩ := h
    have nd := scDot.nd
    have h_sum := T.sum
    have h_zip := T.zip
    refine s_ret ((x_sum (ns := [a * b]) rfl ((x_lc [("top", 2), ("more", 3)] rfl nd (blkOk_by (by kernel_rfl)) (l_all (xs := [0]) (enc := fun _ : Int => .tup [.int a, .int b]) (f := fun _ => .int (a * b)) (i_zip (xs := [.int a]) (ys := [.int b]) (x_var 0) (x_var 1)) (by decide) (js := [2, 3]) (by decide) (fun x hx s0 H0 C cl' fp => g_tup rfl (g_cons (g_name 2 nd) (g_cons (g_name 3 nd) g_nil)) rfl)
      (fun x hx s0 H0 C cl' fp => x_mul (x_var 2) (x_var 3) (wide_mul ha hb (by decide) (by decide) (by decide))))).to rfl)).to (by rw [List.sum_cons, List.sum_nil, Int.add_zero])) rfl

abbrev sProd : Stmt := topS 48
theorem scProd : FnScope ["ones", "others", "columns", "at", "row", "column"] ["ones", "others"] (defScope sProd) := ⟨rfl, rfl, rfl, by decide +kernel, rfl, by decide +kernel, by decide +kernel⟩
def aProd : AdP := fun ds R => ∃ a b : Int, ds = [.lst [.lst [.int a]], .lst [.lst [.int b]]] ∧ a.natAbs < 2 ^ 1000 ∧ b.natAbs < 2 ^ 1000 ∧ R = fun d => d = .lst [.lst [.int (a * b)]]
theorem ok_prod (F : Fun K "whole_product" "whole_product" sProd f fd) (T : Bt mg) (dDot : Dn P w K mg base k "dot" (spD K aDot)) : FnOk P w K mg base CX0 (k + 1) f fd ["ones", "others"] (spD K aProd) := by
  refine fnD F scProd (fun ds R h => ?_) (by decide) (fun cdv A' outer s H0 E0 hr ds R h => ?_)
  · obtain ⟨a, b, rfl, _⟩ := h; rfl
  · obtain ⟨a, b, rfl, ha, hb, rfl⟩ := h
    have nd := scProd.nd
    have h_len := T.len
    have h_range := T.range
    refine s_set 2 (x_lc [("at", 3)] rfl nd (blkOk_by (by kernel_rfl)) (l_all (xs := [0]) (enc := fun i : Int => .int i) (f := fun _ => .lst [.int b]) (i_range1 (n := 1) (x_len (x_ixL (x_var 1) x_int (d := .lst [.int b]) rfl) rfl) (by decide)) (by decide) (js := [3]) (by decide) (fun x hx s0 H0 C cl' fp => g_name 3 nd)
      (fun x hx s0 H0 C cl' fp => by
        obtain rfl := List.mem_singleton.mp hx
        exact (x_lc [("row", 4)] rfl nd (blkOk_by (by kernel_rfl)) (l_all (xs := [0]) (enc := fun i : Int => .lst [.int b]) (f := fun _ => .int b) (i_list (x_var 1)) (by decide) (js := [4]) (by decide) (fun x hx s0 H0 C cl' fp => g_name 4 nd)
          (fun x hx s0 H0 C cl' fp => x_ixL (x_var 4) (x_var 3) rfl))).to rfl))) ?_
    refine s_ret ((x_lc [("row", 4)] rfl nd (blkOk_by (by kernel_rfl)) (l_all (xs := [0]) (enc := fun i : Int => .lst [.int a]) (f := fun _ => .lst [.int (a * b)]) (i_list (x_var 0)) (by decide) (js := [4]) (by decide) (fun x hx s0 H0 C cl' fp => g_name 4 nd)
      (fun x hx s0 H0 C cl' fp => (x_lc [("column", 5)] rfl nd (blkOk_by (by kernel_rfl)) (l_all (xs := [0]) (enc := fun i : Int => .lst [.int b]) (f := fun _ => .int (a * b)) (i_list (x_var 2)) (by decide) (js := [5]) (by decide) (fun x hx s0 H0 C cl' fp => g_name 5 nd)
          (fun x hx s0 H0 C cl' fp => x_call dDot hr (a_cons (x_var 4) (a_cons (x_var 5) a_nil)) ⟨a, b, rfl, ha, hb, rfl⟩ (fun d' h => h)))).to rfl))).to rfl) rfl

abbrev sOver : Stmt := topS 49
theorem scOver : FnScope ["rows", "bottom", "row", "top"] ["rows", "bottom"] (defScope sOver) := ⟨rfl, rfl, rfl, by decide +kernel, rfl, by decide +kernel, by decide +kernel⟩
def aOver : AdP := fun ds R => ∃ a b : Int, ds = [.lst [.lst [.int a]], .int b] ∧ 0 < b ∧ b.natAbs < 2 ^ 4000 ∧ R = fun d => d = .lst [.lst [fr (low a b)]]
theorem ok_over (F : Fun K "fractions_over" "fractions_over" sOver f fd) (dLow : Dn P w K mg base k "lowest" (spD K aLowest)) : FnOk P w K mg base CX0 (k + 1) f fd ["rows", "bottom"] (spD K aOver) := by
  refine fnD F scOver (fun ds R h => ?_) (by decide) (fun cdv A' outer s H0 E0 hr ds R h => ?_)
  · obtain ⟨a, b, rfl, _⟩ := h; rfl
  · obtain ⟨a, b, rfl, h0, h1, rfl⟩ := h
    have nd := scOver.nd
    refine s_ret ((x_lc [("row", 2)] rfl nd (blkOk_by (by kernel_rfl)) (l_all (xs := [0]) (enc := fun i : Int => .lst [.int a]) (f := fun _ => .lst [fr (low a b)]) (i_list (x_var 0)) (by decide) (js := [2]) (by decide) (fun x hx s0 H0 C cl' fp => g_name 2 nd)
      (fun x hx s0 H0 C cl' fp => (x_lc [("top", 3)] rfl nd (blkOk_by (by kernel_rfl)) (l_all (xs := [0]) (enc := fun i : Int => .int a) (f := fun _ => fr (low a b)) (i_list (x_var 2)) (by decide) (js := [3]) (by decide) (fun x hx s0 H0 C cl' fp => g_name 3 nd)
          (fun x hx s0 H0 C cl' fp => x_call dLow hr (a_cons (x_var 3) (a_cons (x_var 1) a_nil)) ⟨a, b, rfl, h0, h1, rfl⟩ (fun d' h => h)))).to rfl))).to rfl) rfl

abbrev sInit : Stmt := inClass (topS 50) 0
theorem scInit : FnScope ["self", "rows"] ["self", "rows"] (defScope sInit) := ⟨rfl, rfl, rfl, by decide +kernel, rfl, by decide +kernel, by decide +kernel⟩
def aInit : AdI := fun ds R => ∃ R', aRows ds R' ∧ R = fun fs => ∃ d, R' d ∧ fs = [(("rows" : Str), d)]
theorem aRows_det {ds : List D} {R : D → Prop} (h : aRows ds R) {d d' : D} (h1 : R d) (h2 : R d') : d' = d := by
  rcases h with ⟨q, _, _, rfl⟩ | ⟨q, _, _, _, rfl⟩ <;> exact h2.trans h1.symm
theorem aRows_one {ds : List D} {R : D → Prop} (h : aRows ds R) : ∃ d, R d ∧ ∀ d', R d' → d' = d := by
  rcases h with ⟨q, _, _, rfl⟩ | ⟨q, _, _, _, rfl⟩ <;> exact ⟨_, rfl, fun d' h => h⟩
theorem ok_init {C : Addr} (F : Fun K "__init__" "Matrix.__init__" sInit f fd) (cl : Cls K C) (na : NoAttr K C "rows") (dRo : Dn P w K mg base k "_read_rows" (spD K aRows)) : FnOk P w K mg base CX0 (k + 1) f fd ["self", "rows"] (spI K C aInit) := by
  refine fnI1 F scInit rfl cl na rfl (by decide) (by decide) (fun ds R h => ?_) (by decide) (fun cdv A' outer s H0 E0 => ⟨Or.inl rfl, rfl⟩) (fun cdv A' outer s H0 E0 hr ds R h => ?_)
  · obtain ⟨R', h, _⟩ := h
    rcases h with ⟨q, _, rfl, _⟩ | ⟨q, rfl, _⟩ <;> rfl
  · obtain ⟨R', h, rfl⟩ := h
    obtain ⟨d, hd, hu⟩ := aRows_one h
    have hds : ∃ x, ds = [x] := by
      rcases h with ⟨q, _, rfl, _⟩ | ⟨q, rfl, _⟩ <;> exact ⟨_, rfl⟩
    obtain ⟨x, rfl⟩ := hds
    exact ⟨d, x_call dRo hr (a_cons (x_var 1) a_nil) h hu, d, hd, rfl⟩

abbrev sSquare : Stmt := inClass (topS 50) 6
theorem scSquare : FnScope ["self"] ["self"] (defScope sSquare) := ⟨rfl, rfl, rfl, by decide +kernel, rfl, by decide +kernel, by decide +kernel⟩
def aSquare (C : Addr) : AdP := fun ds R => ∃ q, ds = [powD C q] ∧ R = fun d => d = .non
theorem ok_square {C : Addr} (F : Fun K "check_square" "Matrix.check_square" sSquare f fd) (T : Bt mg) (cl : Cls K C) (na : NoAttr K C "rows") : FnOk P w K mg base CX0 (k + 1) f fd ["self"] (spD K (aSquare C)) := by
  refine fnD F scSquare (fun ds R h => ?_) (by decide) (fun cdv A' outer s H0 E0 hr ds R h => ?_)
  · obtain ⟨a, rfl, _⟩ := h; rfl
  · obtain ⟨q, rfl, rfl⟩ := h
    have h_len := T.len
    exact s_ifF ((t_ne (x_len (x_ixT (x_fld (x_var 0) cl na rfl) x_int (d := .tup [fr q]) rfl) rfl) (x_len (x_fld (x_var 0) cl na rfl) rfl)).to rfl) (s_nil (s_nil rfl))

abbrev sPower : Stmt := inClass (topS 50) 7
theorem scPower : FnScope ["self", "count", "square", "bottom", "found", "below", "at", "place"] ["self", "count"] (defScope sPower) := ⟨rfl, rfl, rfl, by decide +kernel, rfl, by decide +kernel, by decide +kernel⟩
theorem pow_lt {a : Int} {i : Nat} (h : a.natAbs < 2 ^ 100) (hi : i ≤ 4) : (a ^ i).natAbs < 2 ^ 1000 := by
  rw [Int.natAbs_pow]
  have h1 : a.natAbs ^ i ≤ (2 ^ 100) ^ i := Nat.pow_le_pow_left (Nat.le_of_lt h) i
  rw [← Nat.pow_mul] at h1
  exact Nat.lt_of_le_of_lt h1 (Nat.pow_lt_pow_right (by decide) (by omega))
def aPower (C : Addr) : AdP := fun ds R => ∃ (a p : Int × Int) (m : Nat), ds = [powD C a, .int m] ∧ small 100 a ∧ 1 ≤ m ∧ m ≤ 4 ∧ low (a.1 ^ m) (a.2 ^ m) = p ∧ lowP p = p ∧ R = fun d => d = powD C p
def pwE (C : Addr) (a : Int × Int) (c i j : Nat) : En := [.dat (powD C a), .dat (.int c), .dat (.lst [.lst [.int (a.1 ^ j)]]), .dat (.int (a.2 ^ j)), .dat (.lst [.lst [.int (a.1 ^ i)]]), .dat (.int (a.2 ^ i)), .un, .un]
theorem ok_power {C : Addr} (F : Fun K "power" "Matrix.power" sPower f fd) (T : Bt mg) (cl : Cls K C) (na : NoAttr K C "rows") (dSq : Dm P w K mg base k "check_square" C (spD K (aSquare C))) (dWr : Dn P w K mg base k "whole_rows" (spD K aWr)) (dPr : Dn P w K mg base k "whole_product" (spD K aProd))
    (dOv : Dn P w K mg base k "fractions_over" (spD K aOver)) (mM : Mki P w K mg base k "Matrix" C aInit) : FnOk P w K mg base CX0 (k + 1 + 1) f fd ["self", "count"] (spD K (aPower C)) := by
  refine fnD F scPower (fun ds R h => ?_) (by decide) (fun cdv A' outer s H0 E0 hr1 ds R h => ?_)
  · obtain ⟨a, p, m, rfl, _⟩ := h; rfl
  · obtain ⟨a, p, m, rfl, ha, hm1, hm4, rfl, hpp, rfl⟩ := h
    have nd := scPower.nd
    have h_len := T.len
    have h_range := T.range
    have h_int := T.int
    have hr := hr1.mono (Nat.le_succ k)
    refine s_expr (x_meth0 dSq hr (x_var 0) rfl ⟨a, rfl, rfl⟩ (fun d' h => h)) ?_
    refine s_asgT (x_call dWr hr (a_cons (x_fld (x_var 0) cl na rfl) a_nil) ⟨a, rfl, ha, rfl⟩ (fun d' h => h)) (g_tup rfl (g_cons (g_name 2 nd) (g_cons (g_name 3 nd) g_nil)) rfl) ?_
    refine s_par 4 5 (x := .lst [.lst [.int 1]]) (y := .int 1) (a_cons ((x_lc [("at", 6)] rfl nd (blkOk_by (by kernel_rfl)) (l_all (xs := [0]) (enc := fun i : Int => .int i) (f := fun _ => .lst [.int 1]) (i_range1 (n := 1) (x_len (x_var 2) rfl) (by decide)) (by decide) (js := [6]) (by decide) (fun x hx s0 H0 C cl' fp => g_name 6 nd)
      (fun x hx s0 H0 C cl' fp => by
        obtain rfl := List.mem_singleton.mp hx
        exact (x_lc [("place", 7)] rfl nd (blkOk_by (by kernel_rfl)) (l_all (xs := [0]) (enc := fun i : Int => .int i) (f := fun _ => .int 1) (i_range1 (n := 1) (x_len (x_var 2) rfl) (by decide)) (by decide) (js := [7]) (by decide) (fun x hx s0 H0 C cl' fp => g_name 7 nd)
          (fun x hx s0 H0 C cl' fp => by
            obtain rfl := List.mem_singleton.mp hx
            exact (x_intB (x_eq (x_var 6) (x_var 7))).to rfl))).to rfl))).to rfl) (a_cons x_int a_nil)) ?_ rfl rfl
    refine s_while (fun μ env => ∃ c i j : Nat, μ = c ∧ i + j * c = m ∧ env = pwE C a c i j) m PassesOwn.never ⟨m, 0, 1, rfl, by omega, ?_⟩ (fun c env1 ⟨c', i, j, hμ, hij, he1⟩ => ?_)
    · unfold pwE
      rw [Int.pow_zero, Int.pow_zero, Int.pow_succ, Int.pow_zero, Int.one_mul, Int.pow_succ, Int.pow_zero, Int.one_mul]
      rfl
    · subst he1
      subst hμ
      refine ⟨decide ((0 : Int) < c), t_gt (x_var 1) x_int, fun hc => ?_, fun hc => ?_⟩
      · have hc0 : 0 < c := by have := of_decide_eq_true hc; omega
        have hjc : j ≤ j * c := Nat.le_mul_of_pos_right j hc0
        have hj4 : j ≤ 4 := by omega
        have hi4 : i ≤ 4 := by omega
        have b1 : ∀ {i : Nat}, i ≤ 4 → (a.1 ^ i).natAbs < 2 ^ 1000 := fun h => pow_lt ha.1 h
        have b2 : ∀ {i : Nat}, i ≤ 4 → (a.2 ^ i).natAbs < 2 ^ 1000 := fun h => pow_lt ha.2.2 h
        have e : j * c = 2 * j * (c / 2) + j * (c % 2) := by
          have h := Nat.div_add_mod c 2
          have h2 : j * (2 * (c / 2) + c % 2) = 2 * j * (c / 2) + j * (c % 2) := by rw [Nat.mul_add, ← Nat.mul_assoc, Nat.mul_comm j 2]
          rw [h] at h2
          exact h2
        refine s_if (t_eq (x_mod (x_var 1) x_int (by decide)) x_int) (fun h1 => s_par 4 5 (x := .lst [.lst [.int (a.1 ^ (i + j))]]) (y := .int (a.2 ^ (i + j))) (a_cons ((x_call dPr hr (a_cons (x_var 4) (a_cons (x_var 2) a_nil)) ⟨_, _, rfl, b1 hi4, b1 hj4, rfl⟩ (fun d' h => h)).to (by rw [← Int.pow_add]))
          (a_cons ((x_mul (x_var 5) (x_var 3) (wide_mul (b2 hi4) (b2 hj4) (by decide) (by decide) (by decide))).to (by rw [← Int.pow_add])) a_nil)) (s_nil ?_) rfl rfl) (fun h1 => s_nil ?_)
        · have hi' : (i + j) + 2 * j * (c / 2) = m := by
            have h2 : c % 2 = 1 := by have := of_decide_eq_true h1; omega
            rw [h2, Nat.mul_one] at e
            omega
          show XS _ _ (pwE C a c (i + j) j) _ _
          generalize i + j = i' at hi' ⊢
          refine s_set 1 (d := .int ((c / 2 : Nat) : Int)) ((x_fdiv (x_var 1) x_int ⟨by decide, by decide⟩).to rfl) ?_
          refine s_if (t_gt (x_var 1) x_int) (fun h2 => ?_) (fun h2 => s_nil (s_nil ⟨c / 2, Nat.div_lt_self hc0 (by decide), c / 2, i', j, rfl, ?_, rfl⟩))
          · refine s_asgT (x_tup (a_cons (d := .lst [.lst [.int (a.1 ^ (2 * j))]]) ((x_call dPr hr (a_cons (x_var 2) (a_cons (x_var 2) a_nil)) ⟨_, _, rfl, b1 hj4, b1 hj4, rfl⟩ (fun d' h => h)).to (by rw [← Int.pow_add, Nat.two_mul])) (a_cons (d := .int (a.2 ^ (2 * j))) ((x_mul (x_var 3) (x_var 3) (wide_mul (b2 hj4) (b2 hj4) (by decide) (by decide) (by decide))).to (by rw [← Int.pow_add, Nat.two_mul])) a_nil)) (by show 2 ≤ sizeLine; decide)) (g_tup rfl (g_cons (g_name 2 nd) (g_cons (g_name 3 nd) g_nil)) rfl) ?_
            exact s_nil (s_nil ⟨c / 2, Nat.div_lt_self hc0 (by decide), c / 2, i', 2 * j, rfl, hi', rfl⟩)
          · have h3 : c / 2 = 0 := by have := of_decide_eq_false h2; omega
            rw [h3, Nat.mul_zero] at hi' ⊢
            omega
        · have hi' : i + 2 * j * (c / 2) = m := by
            have h2 : c % 2 = 0 := by have := of_decide_eq_false h1; omega
            rw [h2, Nat.mul_zero] at e
            omega
          show XS _ _ (pwE C a c i j) _ _
          refine s_set 1 (d := .int ((c / 2 : Nat) : Int)) ((x_fdiv (x_var 1) x_int ⟨by decide, by decide⟩).to rfl) ?_
          refine s_if (t_gt (x_var 1) x_int) (fun h2 => ?_) (fun h2 => s_nil (s_nil ⟨c / 2, Nat.div_lt_self hc0 (by decide), c / 2, i, j, rfl, ?_, rfl⟩))
          · refine s_asgT (x_tup (a_cons (d := .lst [.lst [.int (a.1 ^ (2 * j))]]) ((x_call dPr hr (a_cons (x_var 2) (a_cons (x_var 2) a_nil)) ⟨_, _, rfl, b1 hj4, b1 hj4, rfl⟩ (fun d' h => h)).to (by rw [← Int.pow_add, Nat.two_mul])) (a_cons (d := .int (a.2 ^ (2 * j))) ((x_mul (x_var 3) (x_var 3) (wide_mul (b2 hj4) (b2 hj4) (by decide) (by decide) (by decide))).to (by rw [← Int.pow_add, Nat.two_mul])) a_nil)) (by show 2 ≤ sizeLine; decide)) (g_tup rfl (g_cons (g_name 2 nd) (g_cons (g_name 3 nd) g_nil)) rfl) ?_
            exact s_nil (s_nil ⟨c / 2, Nat.div_lt_self hc0 (by decide), c / 2, i, 2 * j, rfl, hi', rfl⟩)
          · have h3 : c / 2 = 0 := by have := of_decide_eq_false h2; omega
            rw [h3, Nat.mul_zero] at hi' ⊢
            omega
      · have hc0 : c = 0 := by have := of_decide_eq_false hc; omega
        subst hc0
        have hi : i = m := by omega
        subst hi
        have p2 : 0 < a.2 ^ i := Int.pow_pos ha.2.1
        have q2 : (a.2 ^ i).natAbs < 2 ^ 4000 := Nat.lt_of_lt_of_le (pow_lt ha.2.2 hm4) (Nat.pow_le_pow_right (by decide) (by decide))
        refine s_ret (x_make (fs := [(("rows" : Str), rowsD (low (a.1 ^ i) (a.2 ^ i)))]) mM hr1 (a_cons (x_call dOv hr (a_cons (x_var 4) (a_cons (x_var 5) a_nil)) ⟨_, _, rfl, p2, q2, rfl⟩ (fun d' h => h)) a_nil) ⟨_, .inr ⟨_, rfl, ?_, ?_, rfl⟩, rfl⟩ (fun fs' h => ?_)) ?_
        · exact (small_low (n := 4000) (a := a.1 ^ i) (b := a.2 ^ i) ⟨Nat.lt_of_lt_of_le (pow_lt ha.1 hm4) (Nat.pow_le_pow_right (by decide) (by decide)), p2, q2⟩).2.1
        · exact (small_low (n := 4000) (a := a.1 ^ i) (b := a.2 ^ i) ⟨Nat.lt_of_lt_of_le (pow_lt ha.1 hm4) (Nat.pow_le_pow_right (by decide) (by decide)), p2, q2⟩).2.2
        · obtain ⟨d, hd, e⟩ := h
          rw [e, hd, hpp]
        · rfl
end
end K48

namespace K48
open PySem L2 Y
def bxD (cs : List Int) (at' : Nat) (cell left mixed count : Int) : List D := [.lst (cs.map .int), .int at', .int cell, .int left, .int mixed, .int count]
def BoxOk (bx : List D) : Prop := ∃ (cs : List Int) (at' : Nat) (cell left mixed count : Int), bx = bxD cs at' cell left mixed count ∧ cs.length ≤ 63 ∧ 0 ≤ mixed ∧ mixed < 2147483647
section
variable {P : Program} {w : World} {K : PySem.W.Frag} {mg : Str → Option Value} {base : Heap} {f : Addr} {fd : FuncData} {k : Nat}
abbrev sOpen : Stmt := topS 53
theorem scOpen : FnScope ["script", "mixed", "cell"] ["script"] (defScope sOpen) := ⟨rfl, rfl, rfl, by decide +kernel, rfl, by decide +kernel, by decide +kernel⟩
def aOpen : AdO := fun ds R => ∃ ns : List Int, ds = [.lst (ns.map .int)] ∧ ns.length ≤ 63 ∧ R = BoxOk
theorem cut63 (ns : List Int) (h : ns.length ≤ 63) : cutD (ns.map D.int) none (some 63) = ns.map D.int := by
  refine cut_all _ _ _ ⟨rfl, ?_⟩
  rw [List.length_map]
  have e := HT.sIx_nat ns.length ns.length 63
  refine Eq.trans e ?_
  omega
theorem erase_perm : ∀ {l : List D} {k : Nat} (h : k < l.length), (l[k] :: l.eraseIdx k).Perm l
  | a :: l, 0, _ => List.Perm.refl _
  | a :: l, k + 1, h => (List.Perm.swap a (l[k]'(by simpa using h)) (l.eraseIdx k)).trans (List.Perm.cons a (erase_perm (by simpa using h)))
theorem atI_nat {xs : List D} {j : Nat} {d : D} (h : xs[j]? = some d) : atI xs (j : Int) = some d := by
  have hj := (List.getElem?_eq_some_iff.mp h).1
  unfold atI
  rw [Evl.ixN_nat hj]
  exact h
theorem ok_open (F : Fun K "_law_open" "_law_open" sOpen f fd) (T : Bt mg) : FnOk P w K mg base CX0 (k + 1) f fd ["script"] (spO K aOpen) := by
  refine fnO F scOpen (fun ds R h => ?_) (by decide) (fun cdv A' outer s H0 E0 hr ds R h => ?_)
  · obtain ⟨q, rfl, _⟩ := h; rfl
  · obtain ⟨ns, rfl, hl, rfl⟩ := h
    have nd := scOpen.nd
    have h_int := T.int
    have h_list := T.list
    refine s_set 1 x_int ?_
    have cut : ∀ {X : Cx} {env : En} {a : Expr} {p1 p2 p3 : Pos} {n : Nat}, XV X env a (.lst (ns.map .int)) → XV X env (.Subscript a (.Slice none (some (.Constant (.int 63) n p1)) none p2) p3) (.lst (ns.map .int)) := fun h => (x_sliceL (l := none) (h := some 63) h o_none (o_some x_int)).to (by rw [cut63 ns hl])
    refine s_for (fun i env => ∃ (m : Int) (s2 : Slot), env = [.dat (.lst (ns.map .int)), .dat (.int m), s2] ∧ 0 ≤ m ∧ m < 2147483647) PassesOwn.never rfl (i_list (cut (x_var 0))) ⟨_, _, rfl, by decide, by decide⟩ ?_ ?_
    · intro i d env1 hd ⟨m, s2, he1, h0, h1⟩
      subst he1
      obtain ⟨c, rfl⟩ : ∃ c, d = .int c := by
        obtain ⟨c, _, e⟩ := List.mem_map.mp (List.mem_of_getElem? hd)
        exact ⟨c, e.symm⟩
      refine ⟨_, _, g_name 2 nd, ?_⟩
      refine s_set 1 (x_mod (x_intI (x_add (x_add (x_mulS (x_var 1) x_int (.inr (by decide))) (x_mod (x_intI (x_var 2)) x_int (by decide))) x_int)) x_int (by decide)) (s_nil ⟨_, _, rfl, ?_, ?_⟩)
      · exact Int.emod_nonneg _ (by decide)
      · exact Int.emod_lt_of_pos _ (by decide)
    · intro env1 ⟨m, s2, he1, h0, h1⟩
      subst he1
      exact s_retO (a_cons (x_list (cut (x_var 0)) rfl) (a_cons x_int (a_cons x_int (a_cons x_int (a_cons (x_var 1) (a_cons x_int a_nil)))))) (by show 6 ≤ sizeLine; decide) ⟨ns, 0, 0, 0, m, 0, rfl, hl, h0, h1⟩

abbrev sDraw : Stmt := topS 54
abbrev nDraw : List Str := ["box", "many", "cell", "digit"]
theorem scDraw : FnScope nDraw ["box", "many"] (defScope sDraw) := ⟨rfl, rfl, rfl, by decide +kernel, rfl, by decide +kernel, by decide +kernel⟩
def aDraw : AdB := fun bx ds R => ∃ many : Int, BoxOk bx ∧ ds = [.int many] ∧ 0 < many ∧ many < 2 ^ 29 ∧ R = fun d bx' => BoxOk bx' ∧ ∃ k : Nat, d = .int k ∧ (k : Int) < many
theorem ok_draw (F : Fun K "_law_draw" "_law_draw" sDraw f fd) (T : Bt mg) : FnOk P w K mg base CX0 (k + 1) f fd ["box", "many"] (spB K aDraw) := by
  refine fnB F scDraw (fun bx ds R h => ?_) (by decide) (fun cdv A' outer s H0 E0 hr p bx ds R h => ?_)
  · obtain ⟨q, _, rfl, _⟩ := h; rfl
  · obtain ⟨many, ⟨cs, at0, cell, left, mixed, count, rfl, hcs, hm0, hm1⟩, rfl, hk0, hk1, rfl⟩ := h
    have nd := scDraw.nd
    have h_int := T.int
    have h_len := T.len
    refine s_setM 0 (j := 5) (d := .int (count + 1)) (s := .ext (bxD cs at0 cell left mixed count)) (s' := .ext (bxD cs at0 cell left mixed (count + 1))) rfl (.inr ⟨rfl, rfl⟩) (x_add (x_ixM 0 (ds := bxD cs at0 cell left mixed count) (.inr rfl) x_int (j := 5) rfl) x_int) x_int (Nat.le_of_ble_eq_true rfl) ?_
    generalize count + 1 = count
    have rest : ∀ (cell left mixed : Int) (at0 : Nat) (s2 : Slot), 0 ≤ mixed → mixed < 2147483647 → XS (fnX K P w mg base nDraw "_law_draw" sDraw f cdv A' outer s H0 E0) ⟨fun a => a = p, H0⟩ [.ext (bxD cs at0 cell left mixed count), .dat (.int many), s2, .un] ((defBody sDraw).drop 2)
      { nx := fun env => ∃ bx', env[0]? = some (.ext bx') ∧ (BoxOk bx' ∧ ∃ k : Nat, D.non = .int k ∧ (k : Int) < many), rt := fun d env => ∃ bx', env[0]? = some (.ext bx') ∧ (BoxOk bx' ∧ ∃ k : Nat, d = .int k ∧ (k : Int) < many) } := by
      intro cell left mixed at0 s2 hm0 hm1
      have hdig : ∀ c : Int, ∃ k : Nat, c % many = k ∧ (k : Int) < many := fun c => ⟨(c % many).toNat, by have := Int.emod_nonneg c (by omega : many ≠ 0); omega, by have := Int.emod_nonneg c (by omega : many ≠ 0); have := Int.emod_lt_of_pos c hk0; omega⟩
      refine s_if (t_gt (x_ixM 0 (ds := bxD cs at0 cell left mixed count) (.inr rfl) x_int (j := 3) rfl) x_int) (fun h1 => ?_) (fun h1 => s_nil ?_)
      · refine s_set 3 (x_mod (x_intI (x_ixM 0 (ds := bxD cs at0 cell left mixed count) (.inr rfl) x_int (j := 2) rfl)) (x_var 1) hk0) ?_
        refine s_setM 0 (j := 2) (d := .int (cell.fdiv many)) (s := .ext (bxD cs at0 cell left mixed count)) (s' := .ext (bxD cs at0 (cell.fdiv many) left mixed count)) rfl (.inr ⟨rfl, rfl⟩) (x_fdivN (x_ixM 0 (ds := bxD cs at0 cell left mixed count) (.inr rfl) x_int (j := 2) rfl) (x_var 1) ⟨by omega, by omega⟩) x_int (Nat.le_of_ble_eq_true rfl) ?_
        generalize cell.fdiv many = cell2
        refine s_setM 0 (j := 3) (d := .int (if decide ((0 : Int) < cell2) = true then left - 1 else 0)) (s := .ext (bxD cs at0 cell2 left mixed count)) (s' := .ext (bxD cs at0 cell2 (if decide ((0 : Int) < cell2) = true then left - 1 else 0) mixed count)) rfl (.inr ⟨rfl, rfl⟩)
          ((x_if (t_gt (x_ixM 0 (ds := bxD cs at0 cell2 left mixed count) (.inr rfl) x_int (j := 2) rfl) x_int) (fun _ => x_sub (x_ixM 0 (ds := bxD cs at0 cell2 left mixed count) (.inr rfl) x_int (j := 3) rfl) x_int) (fun _ => x_int)).to (by split <;> rfl)) x_int (Nat.le_of_ble_eq_true rfl) ?_
        generalize (if decide ((0 : Int) < cell2) = true then left - 1 else 0) = left2
        obtain ⟨k, e1, e2⟩ := hdig cell
        exact s_ret (x_var 3) ⟨_, rfl, ⟨cs, at0, cell2, left2, mixed, count, rfl, hcs, hm0, hm1⟩, k, by rw [e1], e2⟩
      · have mm : CMul mixed mixed := .inl (by omega)
        refine s_setM 0 (j := 4) (d := .int ((mixed * mixed * 48271 + mixed * 69621 + count * 7919 + 12343) % 2147483647)) (s := .ext (bxD cs at0 cell left mixed count)) (s' := .ext (bxD cs at0 cell left ((mixed * mixed * 48271 + mixed * 69621 + count * 7919 + 12343) % 2147483647) count)) rfl (.inr ⟨rfl, rfl⟩)
          (x_mod (x_intI (x_add (x_add (x_add (x_mulS (x_mulS (x_ixM 0 (ds := bxD cs at0 cell left mixed count) (.inr rfl) x_int (j := 4) rfl) (x_ixM 0 (ds := bxD cs at0 cell left mixed count) (.inr rfl) x_int (j := 4) rfl) mm) x_int (.inr (by decide)))
            (x_mulS (x_ixM 0 (ds := bxD cs at0 cell left mixed count) (.inr rfl) x_int (j := 4) rfl) x_int (.inr (by decide)))) (x_mulS (x_ixM 0 (ds := bxD cs at0 cell left mixed count) (.inr rfl) x_int (j := 5) rfl) x_int (.inr (by decide)))) x_int)) x_int (by decide)) x_int (Nat.le_of_ble_eq_true rfl) ?_
        have n0 : 0 ≤ (mixed * mixed * 48271 + mixed * 69621 + count * 7919 + 12343) % 2147483647 := Int.emod_nonneg _ (by decide)
        have n1 : (mixed * mixed * 48271 + mixed * 69621 + count * 7919 + 12343) % 2147483647 < 2147483647 := Int.emod_lt_of_pos _ (by decide)
        generalize (mixed * mixed * 48271 + mixed * 69621 + count * 7919 + 12343) % 2147483647 = mix2 at n0 n1 ⊢
        obtain ⟨k, e1, e2⟩ := hdig (mix2 / 41 + mix2 % 7001 * 101)
        refine s_ret (x_mod (x_intI (x_add (x_fdiv (x_ixM 0 (ds := bxD cs at0 cell left mix2 count) (.inr rfl) x_int (j := 4) rfl) x_int ⟨by decide, by decide⟩) (x_mulS (x_mod (x_intI (x_ixM 0 (ds := bxD cs at0 cell left mix2 count) (.inr rfl) x_int (j := 4) rfl)) x_int (by decide)) x_int (.inr (by decide))))) (x_var 1) hk0) ⟨_, rfl, ⟨cs, at0, cell, left, mix2, count, rfl, hcs, n0, n1⟩, k, by rw [e1], e2⟩
    refine s_if (k := (decide (left = 0) && decide ((at0 : Int) < (cs.map D.int).length))) (t_and (t_eq (x_ixM 0 (ds := bxD cs at0 cell left mixed count) (.inr rfl) x_int (j := 3) rfl) x_int) (fun _ => t_lt (x_ixM 0 (ds := bxD cs at0 cell left mixed count) (.inr rfl) x_int (j := 1) rfl) (x_len (x_ixM 0 (ds := bxD cs at0 cell left mixed count) (.inr rfl) x_int (j := 0) (d := .lst (cs.map .int)) rfl) rfl))) (fun h1 => ?_) (fun h1 => s_nil (rest cell left mixed at0 _ hm0 hm1))
    have hat : at0 < cs.length := by
      rw [Bool.and_eq_true, decide_eq_true_eq, decide_eq_true_eq, List.length_map] at h1
      omega
    have hc : atI (cs.map D.int) (at0 : Int) = some (.int (cs[at0]'hat)) := atI_nat (by rw [List.getElem?_map, List.getElem?_eq_getElem hat]; rfl)
    refine s_set 2 (x_intI (x_ixL (x_ixM 0 (ds := bxD cs at0 cell left mixed count) (.inr rfl) x_int (j := 0) (d := .lst (cs.map .int)) rfl) (x_ixM 0 (ds := bxD cs at0 cell left mixed count) (.inr rfl) x_int (j := 1) rfl) hc)) ?_
    generalize cs[at0]'hat = c
    refine s_setM 0 (j := 1) (d := .int ((at0 + 1 : Nat) : Int)) (s := .ext (bxD cs at0 cell left mixed count)) (s' := .ext (bxD cs (at0 + 1) cell left mixed count)) rfl (.inr ⟨rfl, rfl⟩) ((x_add (x_ixM 0 (ds := bxD cs at0 cell left mixed count) (.inr rfl) x_int (j := 1) rfl) x_int).to rfl) x_int (Nat.le_of_ble_eq_true rfl) ?_
    generalize at0 + 1 = at1
    refine s_if (t_ge (x_var 2) (x_pow x_int x_int ⟨by decide, by decide, by decide⟩)) (fun h2 => ?_) (fun h2 => ?_)
    · refine s_setM 0 (j := 2) (d := .int c) (s := .ext (bxD cs at1 cell left mixed count)) (s' := .ext (bxD cs at1 c left mixed count)) rfl (.inr ⟨rfl, rfl⟩) (x_var 2) x_int (Nat.le_of_ble_eq_true rfl) ?_
      refine s_setM 0 (j := 3) (d := .int 60) (s := .ext (bxD cs at1 c left mixed count)) (s' := .ext (bxD cs at1 c 60 mixed count)) rfl (.inr ⟨rfl, rfl⟩) x_int x_int (Nat.le_of_ble_eq_true rfl) ?_
      exact s_nil (s_nil (rest _ _ _ _ _ hm0 hm1))
    · refine s_setM 0 (j := 4) (d := .int ((mixed * 16807 + c % 2147483587 + 1009) % 2147483647)) (s := .ext (bxD cs at1 cell left mixed count)) (s' := .ext (bxD cs at1 cell left ((mixed * 16807 + c % 2147483587 + 1009) % 2147483647) count)) rfl (.inr ⟨rfl, rfl⟩)
        (x_mod (x_intI (x_add (x_add (x_mulS (x_ixM 0 (ds := bxD cs at1 cell left mixed count) (.inr rfl) x_int (j := 4) rfl) x_int (.inr (by decide))) (x_mod (x_intI (x_var 2)) x_int (by decide))) x_int)) x_int (by decide)) x_int (Nat.le_of_ble_eq_true rfl) ?_
      exact s_nil (s_nil (rest _ _ _ _ _ (Int.emod_nonneg _ (by decide)) (Int.emod_lt_of_pos _ (by decide))))

abbrev sPick : Stmt := topS 55
theorem scPick : FnScope ["box", "menu"] ["box", "menu"] (defScope sPick) := ⟨rfl, rfl, rfl, by decide +kernel, rfl, by decide +kernel, by decide +kernel⟩
def aPick : AdB := fun bx ds R => ∃ xs : List D, BoxOk bx ∧ ds = [.lst xs] ∧ 0 < xs.length ∧ xs.length < 1000 ∧ R = fun d bx' => BoxOk bx' ∧ d ∈ xs
theorem ok_pick (F : Fun K "_law_pick" "_law_pick" sPick f fd) (T : Bt mg) (dDr : Dn P w K mg base k "_law_draw" (spB K aDraw)) : FnOk P w K mg base CX0 (k + 1) f fd ["box", "menu"] (spB K aPick) := by
  refine fnB F scPick (fun bx ds R h => ?_) (by decide) (fun cdv A' outer s H0 E0 hr p bx ds R h => ?_)
  · obtain ⟨q, _, rfl, _⟩ := h; rfl
  · obtain ⟨xs, hb, rfl, h0, h1, rfl⟩ := h
    have h_len := T.len
    refine s_retE (e_ixL (e_v (x_var 1) ⟨xs, rfl, e_callB 0 dDr hr (.inr rfl) (a_cons (x_len (x_var 1) rfl) a_nil) (R := fun d bx' => BoxOk bx' ∧ ∃ k : Nat, d = .int k ∧ (k : Int) < (xs.length : Int)) ⟨(xs.length : Int), hb, rfl, by omega, by omega, rfl⟩ (fun d bx' ⟨hb', k, e, hk⟩ => ⟨fun h => (by cases h), fun _ => ?_⟩)⟩))
    have hk' : k < xs.length := by omega
    exact ⟨k, xs[k], e, atI_nat (List.getElem?_eq_getElem hk'), bx', rfl, hb', List.getElem_mem hk'⟩

abbrev sMixed : Stmt := topS 56
theorem scMixed : FnScope ["box", "row", "left", "made", "turn"] ["box", "row"] (defScope sMixed) := ⟨rfl, rfl, rfl, by decide +kernel, rfl, by decide +kernel, by decide +kernel⟩
def aMixed : AdB := fun bx ds R => ∃ xs : List D, BoxOk bx ∧ ds = [.lst xs] ∧ xs.length < 1000 ∧ R = fun d bx' => BoxOk bx' ∧ ∃ ys, d = .lst ys ∧ ys.Perm xs
theorem ok_mixed (F : Fun K "_law_mixed" "_law_mixed" sMixed f fd) (T : Bt mg) (dDr : Dn P w K mg base k "_law_draw" (spB K aDraw)) : FnOk P w K mg base CX0 (k + 1) f fd ["box", "row"] (spB K aMixed) := by
  refine fnB F scMixed (fun bx ds R h => ?_) (by decide) (fun cdv A' outer s H0 E0 hr p bx ds R h => ?_)
  · obtain ⟨q, _, rfl, _⟩ := h; rfl
  · obtain ⟨xs, hb, rfl, h1, rfl⟩ := h
    have nd := scMixed.nd
    have h_len := T.len
    have h_list := T.list
    have h_range := T.range
    have hz : (1000 : Nat) < sizeLine := by decide
    refine s_setOl 2 (x_var 1) rfl (Nat.le_of_ble_eq_true rfl) ?_
    refine s_setO 3 (x_lst a_nil (by decide)) a_nil (by decide) (Nat.le_of_ble_eq_true rfl) ?_
    refine s_for (fun i env => ∃ (ls ms bx' : List D) (s4 : Slot), env = [.ext bx', .dat (.lst xs), .own ls, .own ms, s4] ∧ BoxOk bx' ∧ (ms ++ ls).Perm xs ∧ ms.length = i) PassesOwn.never rfl (i_range1 (x_len (x_var 1) rfl) (by omega)) ⟨xs, [], bx, .un, rfl, hb, List.Perm.refl _, rfl⟩ ?_ ?_
    · intro i d env1 hd ⟨ls, ms, bx', s4, he1, hb', hp, hi⟩
      subst he1
      have hi' : i < xs.length := by
        have := (List.getElem?_eq_some_iff.mp hd).1
        simpa using this
      have hlen : ms.length + ls.length = xs.length := by rw [← List.length_append]; exact hp.length_eq
      refine ⟨_, _, g_name 4 nd, ?_⟩
      refine s_appE 3 rfl (e_popAt 2 rfl (e_callB 0 dDr hr (.inr rfl) (a_cons (x_lenO 2 (.inl rfl)) a_nil) (R := fun d bx' => BoxOk bx' ∧ ∃ k : Nat, d = .int k ∧ (k : Int) < (ls.length : Int)) ⟨(ls.length : Int), hb', rfl, by omega, by omega, rfl⟩ (fun d bx2 ⟨hb2, k, e, hk⟩ => ⟨fun h => (by cases h), fun _ => ?_⟩)))
      have hk' : k < ls.length := by omega
      refine ⟨ls, k, ls[k], rfl, e, by omega, List.getElem?_eq_getElem hk', ms, rfl, by omega, s_nil ⟨ls.eraseIdx k, ms ++ [ls[k]], bx2, _, rfl, hb2, ?_, ?_⟩⟩
      · refine List.Perm.trans ?_ hp
        rw [List.append_assoc]
        exact List.Perm.append_left ms (erase_perm hk')
      · rw [List.length_append, hi]; rfl
    · intro env1 ⟨ls, ms, bx', s4, he1, hb', hp, hi⟩
      subst he1
      rw [List.length_map, List.length_range] at hi
      have hlen : ms.length + ls.length = xs.length := by rw [← List.length_append]; exact hp.length_eq
      have hi2 : ms.length = xs.length := by omega
      have hnil : ls = [] := List.eq_nil_of_length_eq_zero (by omega)
      subst hnil
      rw [List.append_nil] at hp
      exact s_freeze 3 rfl (s_ret (x_var 3) ⟨bx', rfl, hb', ms, rfl, hp⟩)
end
end K48

namespace K48
open PySem L2 Y
theorem gcd_step {x y i B : Nat} (hy : 0 < y) (h : y < x) (hB : x * y * 2 ^ i ≤ B) : y * (x % y) * 2 ^ (i + 1) ≤ B := by
  have h1 : x % y < y := Nat.mod_lt _ hy
  have h2 : y * (x / y) + x % y = x := Nat.div_add_mod x y
  have h3 : 1 ≤ x / y := Nat.div_pos (Nat.le_of_lt h) hy
  have h4 : y * 1 ≤ y * (x / y) := Nat.mul_le_mul_left y h3
  have h5 : 2 * (x % y) ≤ x := by omega
  refine Nat.le_trans ?_ hB
  rw [Nat.pow_succ]
  have : y * (x % y) * (2 ^ i * 2) = y * (2 * (x % y)) * 2 ^ i := by
    rw [Nat.mul_comm (2 ^ i) 2, ← Nat.mul_assoc, Nat.mul_assoc y (x % y) 2, Nat.mul_comm (x % y) 2]
  rw [this, Nat.mul_comm x y]
  exact Nat.mul_le_mul_right _ (Nat.mul_le_mul_left y h5)
section
variable {P : Program} {w : World} {K : PySem.W.Frag} {mg : Str → Option Value} {base : Heap} {f : Addr} {fd : FuncData} {k : Nat}
abbrev sGcd : Stmt := topS 57
theorem scGcd : FnScope ["a", "b", "turn"] ["a", "b"] (defScope sGcd) := ⟨rfl, rfl, rfl, by decide +kernel, rfl, by decide +kernel, by decide +kernel⟩
def aGcd : AdP := fun ds R => ∃ a b : Int, ds = [.int a, .int b] ∧ b.natAbs < 2 ^ 100 ∧ R = fun d => d = .int ((Nat.gcd a.natAbs b.natAbs : Nat) : Int)
theorem ok_gcd (F : Fun K "_law_gcd" "_law_gcd" sGcd f fd) (T : Bt mg) : FnOk P w K mg base CX0 (k + 1) f fd ["a", "b"] (spD K aGcd) := by
  refine fnD F scGcd (fun ds R h => ?_) (by decide) (fun cdv A' outer s H0 E0 hr ds R h => ?_)
  · obtain ⟨a, b, rfl, _⟩ := h; rfl
  · obtain ⟨a, b, rfl, hb, rfl⟩ := h
    have nd := scGcd.nd
    have h_abs := T.abs
    have h_range := T.range
    have h_int := T.int
    refine s_set 0 (x_abs (x_var 0)) ?_
    refine s_set 1 (x_abs (x_var 1)) ?_
    generalize a.natAbs = x0
    generalize b.natAbs = y0 at hb ⊢
    refine s_for (fun i env => ∃ (x y : Nat) (s2 : Slot), env = [.dat (.int x), .dat (.int y), s2] ∧ Nat.gcd x y = Nat.gcd x0 y0 ∧ ((i = 0 ∧ y = y0) ∨ (y < x ∧ x * y * 2 ^ i ≤ 2 * (y0 * y0)))) PassesOwn.never rfl (i_range1 x_int (by decide)) ⟨x0, y0, _, rfl, rfl, .inl ⟨rfl, rfl⟩⟩ ?_ ?_
    · intro i d env1 hd ⟨x, y, s2, he1, hg, hc⟩
      subst he1
      clear hd
      refine ⟨_, _, g_name 2 nd, ?_⟩
      refine s_if (t_eq (x_var 1) x_int) (fun h1 => ?_) (fun h1 => s_nil ?_)
      · have hy : y = 0 := by have := of_decide_eq_true h1; omega
        subst hy
        rw [Nat.gcd_zero_right] at hg
        exact s_ret (x_var 0) (by rw [hg])
      · have hy : 0 < y := by have := of_decide_eq_false h1; omega
        refine s_par 0 1 (x := .int y) (y := .int ((x % y : Nat) : Int)) (a_cons (x_var 1) (a_cons ((x_mod (x_intI (x_var 0)) (x_var 1) (by omega)).to (by rw [Int.natCast_emod])) a_nil)) ?_ rfl rfl
        refine s_nil ⟨y, x % y, _, rfl, by rw [← hg, Nat.gcd_comm x y, Nat.gcd_rec y x, Nat.gcd_comm], .inr ⟨Nat.mod_lt _ hy, ?_⟩⟩
        rcases hc with ⟨rfl, rfl⟩ | ⟨h2, h3⟩
        · have h4 : x % y ≤ y := Nat.le_of_lt (Nat.mod_lt _ hy)
          have h5 : y * (x % y) ≤ y * y := Nat.mul_le_mul_left y h4
          rw [Nat.zero_add, Nat.pow_one]
          omega
        · exact gcd_step hy h2 h3
    · intro env1 ⟨x, y, s2, he1, hg, hc⟩
      subst he1
      rw [List.length_map, List.length_range] at hc
      have hy : y = 0 := by
        rcases hc with ⟨h0, _⟩ | ⟨h2, h3⟩
        · exact absurd h0 (by decide)
        · by_cases hy : y = 0
          · exact hy
          · exfalso
            have h4 : 1 ≤ x * y := Nat.mul_pos (by omega) (by omega)
            have h5 : 1 * 2 ^ (99999 : Int).toNat ≤ x * y * 2 ^ (99999 : Int).toNat := Nat.mul_le_mul_right _ h4
            have h6 : 2 ^ 201 ≤ 2 ^ (99999 : Int).toNat := Nat.pow_le_pow_right (by decide) (by decide)
            have h7 : y0 * y0 < 2 ^ 100 * 2 ^ 100 := Nat.mul_lt_mul'' hb hb
            generalize 2 ^ (99999 : Int).toNat = Z at h3 h5 h6
            omega
      subst hy
      rw [Nat.gcd_zero_right] at hg
      exact s_ret (x_var 0) (by rw [hg])

abbrev sLow : Stmt := topS 58
theorem scLow : FnScope ["top", "under", "part"] ["top", "under"] (defScope sLow) := ⟨rfl, rfl, rfl, by decide +kernel, rfl, by decide +kernel, by decide +kernel⟩
def aLow : AdP := fun ds R => ∃ a b : Int, ds = [.int a, .int b] ∧ 0 < b ∧ b.natAbs < 2 ^ 100 ∧ R = fun d => d = fr (low a b)
theorem ok_llow (F : Fun K "_law_low" "_law_low" sLow f fd) (dG : Dn P w K mg base k "_law_gcd" (spD K aGcd)) : FnOk P w K mg base CX0 (k + 1) f fd ["top", "under"] (spD K aLow) := by
  refine fnD F scLow (fun ds R h => ?_) (by decide) (fun cdv A' outer s H E hr ds R h => ?_)
  · obtain ⟨a, b, rfl, _⟩ := h; rfl
  · obtain ⟨a, b, rfl, h0, h1, rfl⟩ := h
    have nd := scLow.nd
    refine s_set 2 (x_call dG hr (a_cons (x_var 0) (a_cons (x_var 1) a_nil)) ⟨a, b, rfl, h1, rfl⟩ (fun d' h => h)) ?_
    refine s_set 2 (x_ifF ((t_lt (x_var 1) x_int).to (decide_eq_false (by omega))) (x_var 2)) ?_
    have h2 : b.natAbs < 2 ^ 4000 := Nat.lt_of_lt_of_le h1 (Nat.pow_le_pow_right (by decide) (by decide))
    exact s_ret (x_tup (a_cons (x_fdiv (x_var 0) (x_var 2) (gcd_div h0 h2)) (a_cons (x_fdiv (x_var 1) (x_var 2) (gcd_div h0 h2)) a_nil)) (by show 2 ≤ sizeLine; decide)) rfl

abbrev sMul : Stmt := topS 59
theorem scMul : FnScope ["p", "q"] ["p", "q"] (defScope sMul) := ⟨rfl, rfl, rfl, by decide +kernel, rfl, by decide +kernel, by decide +kernel⟩
def aMul : AdP := fun ds R => ∃ p q : Int × Int, ds = [fr p, fr q] ∧ small 40 p ∧ small 40 q ∧ R = fun d => d = fr (low (p.1 * q.1) (p.2 * q.2))
theorem ok_lmul (F : Fun K "_law_mul" "_law_mul" sMul f fd) (dL : Dn P w K mg base k "_law_low" (spD K aLow)) : FnOk P w K mg base CX0 (k + 1) f fd ["p", "q"] (spD K aMul) := by
  refine fnD F scMul (fun ds R h => ?_) (by decide) (fun cdv A' outer s H E hr ds R h => ?_)
  · obtain ⟨a, b, rfl, _⟩ := h; rfl
  · obtain ⟨p, q, rfl, hp, hq, rfl⟩ := h
    have hm := small_mono (small_mul hp hq) (by decide : 40 + 40 ≤ 100)
    have mm : ∀ {i j : Int}, i.natAbs < 2 ^ 40 → j.natAbs < 2 ^ 40 → CMulW i j := fun h1 h2 => wide_mul h1 h2 (by decide) (by decide) (by decide)
    exact s_ret (x_call dL hr (a_cons (x_mul (x_ixT (x_var 0) x_int (d := .int p.1) rfl) (x_ixT (x_var 1) x_int (d := .int q.1) rfl) (mm hp.1 hq.1)) (a_cons (x_mul (x_ixT (x_var 0) x_int (d := .int p.2) rfl) (x_ixT (x_var 1) x_int (d := .int q.2) rfl) (mm hp.2.2 hq.2.2)) a_nil)) ⟨_, _, rfl, hm.2.1, hm.2.2, rfl⟩ (fun d' h => h)) rfl

abbrev sDiv : Stmt := topS 60
theorem scDiv : FnScope ["p", "q"] ["p", "q"] (defScope sDiv) := ⟨rfl, rfl, rfl, by decide +kernel, rfl, by decide +kernel, by decide +kernel⟩
def aDiv : AdP := fun ds R => ∃ p q : Int × Int, ds = [fr p, fr q] ∧ small 40 p ∧ small 40 q ∧ 0 < q.1 ∧ R = fun d => d = fr (low (p.1 * q.2) (p.2 * q.1))
theorem ok_ldiv (F : Fun K "_law_div" "_law_div" sDiv f fd) (dL : Dn P w K mg base k "_law_low" (spD K aLow)) : FnOk P w K mg base CX0 (k + 1) f fd ["p", "q"] (spD K aDiv) := by
  refine fnD F scDiv (fun ds R h => ?_) (by decide) (fun cdv A' outer s H E hr ds R h => ?_)
  · obtain ⟨a, b, rfl, _⟩ := h; rfl
  · obtain ⟨p, q, rfl, hp, hq, hq1, rfl⟩ := h
    have hm : small 100 (p.1 * q.2, p.2 * q.1) := small_mono (small_mul hp (⟨hq.2.2, hq1, hq.1⟩ : small 40 (q.2, q.1))) (by decide : 40 + 40 ≤ 100)
    have mm : ∀ {i j : Int}, i.natAbs < 2 ^ 40 → j.natAbs < 2 ^ 40 → CMulW i j := fun h1 h2 => wide_mul h1 h2 (by decide) (by decide) (by decide)
    exact s_ret (x_call dL hr (a_cons (x_mul (x_ixT (x_var 0) x_int (d := .int p.1) rfl) (x_ixT (x_var 1) x_int (d := .int q.2) rfl) (mm hp.1 hq.2.2)) (a_cons (x_mul (x_ixT (x_var 0) x_int (d := .int p.2) rfl) (x_ixT (x_var 1) x_int (d := .int q.1) rfl) (mm hp.2.2 hq.1)) a_nil)) ⟨_, _, rfl, hm.2.1, hm.2.2, rfl⟩ (fun d' h => h)) rfl

abbrev sSize : Stmt := topS 61
theorem scSize : FnScope ["p"] ["p"] (defScope sSize) := ⟨rfl, rfl, rfl, by decide +kernel, rfl, by decide +kernel, by decide +kernel⟩
def aSize : AdP := fun ds R => ∃ p : Int × Int, ds = [fr p] ∧ R = fun d => d = fr ((p.1.natAbs : Int), p.2)
theorem ok_lsize (F : Fun K "_law_size" "_law_size" sSize f fd) (T : Bt mg) : FnOk P w K mg base CX0 (k + 1) f fd ["p"] (spD K aSize) := by
  refine fnD F scSize (fun ds R h => ?_) (by decide) (fun cdv A' outer s H E hr ds R h => ?_)
  · obtain ⟨a, rfl, _⟩ := h; rfl
  · obtain ⟨p, rfl, rfl⟩ := h
    have h_abs := T.abs
    exact s_ret (x_tup (a_cons (x_abs (x_ixT (x_var 0) x_int (d := .int p.1) rfl)) (a_cons (x_ixT (x_var 0) x_int (d := .int p.2) rfl) a_nil)) (by show 2 ≤ sizeLine; decide)) rfl

abbrev sWord : Stmt := topS 62
theorem scWord : FnScope ["p"] ["p"] (defScope sWord) := ⟨rfl, rfl, rfl, by decide +kernel, rfl, by decide +kernel, by decide +kernel⟩
def aWord : AdP := fun ds R => ∃ p : Int × Int, p ∈ qs ∧ ds = [fr p] ∧ R = fun d => d = .str (word p)
theorem log17 {n : Nat} (h : n < 100000) : n.log2 < 1920 := by
  have := PySem.Flt.log2_lt_of (n := n) (k := 17) (by decide) (by omega)
  omega
theorem q_len : ∀ p ∈ qs, (Str.ofString (toString p.1)).length + (Str.ofString "/").length ≤ sizeLine ∧ (Str.ofString (toString p.1) ++ Str.ofString "/").length + (Str.ofString (toString p.2)).length ≤ sizeLine := by decide +kernel
theorem ok_lword (F : Fun K "_law_word" "_law_word" sWord f fd) (T : Bt mg) : FnOk P w K mg base CX0 (k + 1) f fd ["p"] (spD K aWord) := by
  refine fnD F scWord (fun ds R h => ?_) (by decide) (fun cdv A' outer s H E hr ds R h => ?_)
  · obtain ⟨a, _, rfl, _⟩ := h; rfl
  · obtain ⟨p, hp, rfl, rfl⟩ := h
    have Q := qf hp
    have h_str := T.str
    have z30 := Q.z30
    refine s_ret ((x_if (t_eq (x_ixT (x_var 0) x_int (d := .int p.2) rfl) x_int) (fun _ => x_strI (x_ixT (x_var 0) x_int (d := .int p.1) rfl) (log17 Q.b1))
      (fun h => x_addS (x_addS (x_strI (x_ixT (x_var 0) x_int (d := .int p.1) rfl) (log17 Q.b1)) x_str ?_) (x_strI (x_ixT (x_var 0) x_int (d := .int p.2) rfl) (log17 Q.b2)) ?_)).to (d' := .str (word p)) ?_) rfl
    · exact (q_len p hp).1
    · exact (q_len p hp).2
    · unfold word
      split <;> simp_all

abbrev sLWhole : Stmt := topS 63
theorem scLWhole : FnScope ["told"] ["told"] (defScope sLWhole) := ⟨rfl, rfl, rfl, by decide +kernel, rfl, by decide +kernel, by decide +kernel⟩
def aLWhole : AdP := fun ds R => ∃ i : Int, ds = [.int i] ∧ R = fun d => d = .bl true
theorem ok_lwhole (F : Fun K "_law_whole" "_law_whole" sLWhole f fd) (T : Bt mg) : FnOk P w K mg base CX0 (k + 1) f fd ["told"] (spD K aLWhole) := by
  refine fnD F scLWhole (fun ds R h => ?_) (by decide) (fun cdv A' outer s H E hr ds R h => ?_)
  · obtain ⟨a, rfl, _⟩ := h; rfl
  · obtain ⟨i, rfl, rfl⟩ := h
    have h_isi := T.isi
    have h_int := T.int
    have h_bool := T.bool
    exact s_ret ((x_and (x_isi (x_var 0) (T := "int") (T' := "int") rfl (x_ty (by rfl) h_int (by decide +kernel)) (k := true) (by decide +kernel)) (fun _ => x_not (x_isi (x_var 0) (T := "int") (T' := "bool") rfl (x_ty (by rfl) h_bool (by decide +kernel)) (k := false) (by decide +kernel)))).to rfl) rfl

abbrev sLine : Stmt := topS 64
theorem scLine : FnScope ["ratio", "offset", "last", "begin", "k"] ["ratio", "offset"] (defScope sLine) := ⟨rfl, rfl, rfl, by decide +kernel, rfl, by decide +kernel, by decide +kernel⟩
def dHi (r : Int × Int) (o : Int) : Int := (r.1 + (1 - o) * r.2 - 1) / (2 * r.2)
def dLo (r : Int × Int) (o : Int) : Int := (0 - r.1 - (1 + o) * r.2) / (2 * r.2) + 1
def RtOk (r : Int × Int) : Prop := 0 < r.1 ∧ 0 < r.2 ∧ r.1 < 50000 ∧ r.2 < 50000
def aLine : AdP := fun ds R => ∃ (r : Int × Int) (o : Int), ds = [fr r, .int o] ∧ (o = 0 ∨ o = 1) ∧ RtOk r ∧ dHi r o - dLo r o < 60000 ∧ (dLo r o).natAbs < 2 ^ 50 ∧ (dHi r o).natAbs < 2 ^ 50 ∧ R = fun d => d = cellsD (dLo r o) (dHi r o)
theorem ok_line (F : Fun K "_law_line" "_law_line" sLine f fd) (T : Bt mg) : FnOk P w K mg base CX0 (k + 1) f fd ["ratio", "offset"] (spD K aLine) := by
  refine fnD F scLine (fun ds R h => ?_) (by decide) (fun cdv A' outer s H E hr ds R h => ?_)
  · obtain ⟨a, o, rfl, _⟩ := h; rfl
  · obtain ⟨r, o, rfl, ho, ⟨h1, h2, h3, h4⟩, h5, h6, h7, rfl⟩ := h
    have nd := scLine.nd
    have h_range := T.range
    have m1 : ∀ {i : Int}, i.natAbs < 2 ^ 30 → CMul i r.2 := fun h => .inl (by omega)
    have dv : ∀ c, CDivW c (2 * r.2) := fun c => wide_div (b := 40) (by omega) (by omega) (by decide) (by decide)
    have R1 : ∀ {X : Cx} {env : En} {e : Expr} {n : Nat} {p1 p2 : Pos}, XV X env e (fr r) → XV X env (.Subscript e (.Constant (.int 0) n p1) p2) (.int r.1) := fun h => x_ixT h x_int rfl
    have R2 : ∀ {X : Cx} {env : En} {e : Expr} {n : Nat} {p1 p2 : Pos}, XV X env e (fr r) → XV X env (.Subscript e (.Constant (.int 1) n p1) p2) (.int r.2) := fun h => x_ixT h x_int rfl
    refine s_set 2 (d := .int (dHi r o)) (x_fdiv (x_sub (x_add (R1 (x_var 0)) (x_mulS (x_sub x_int (x_var 1)) (R2 (x_var 0)) (m1 (by omega)))) x_int) (x_mulS x_int (R2 (x_var 0)) (.inl (by decide))) (dv _)) ?_
    refine s_set 3 (d := .int (dLo r o)) (x_add (x_fdiv (x_sub (x_sub x_int (R1 (x_var 0))) (x_mulS (x_add x_int (x_var 1)) (R2 (x_var 0)) (m1 (by omega)))) (x_mulS x_int (R2 (x_var 0)) (.inl (by decide))) (dv _)) x_int) ?_
    generalize dHi r o = hi at h5 h7 ⊢
    generalize dLo r o = lo at h5 h6 ⊢
    refine s_ret ((x_lc [("k", 4)] rfl nd (blkOk_by (by kernel_rfl)) (l_all (xs := List.range (hi + 1 - lo).toNat) (enc := fun (i : Nat) => .int (lo + i)) (f := fun (i : Nat) => .tup [.int (lo + i)]) (i_range2 (x_var 3) (x_add (x_var 2) x_int) (by omega)) ?_ (js := [4]) (by decide) (fun x hx s0 H0 C cl' fp => g_name 4 nd)
      (fun x hx s0 H0 C cl' fp => x_tup (a_cons (x_var 4) a_nil) (by show 1 ≤ sizeLine; decide)))).to ?_) rfl
    · rw [List.length_range]
      exact Nat.lt_of_lt_of_le (by omega : (hi + 1 - lo).toNat < 60002) (by decide)
    · unfold cellsD cells
      rw [List.map_map]
      rfl
end
end K48

namespace K48
open PySem L2 Y
theorem floor_eq {X Y X' Y' : Int} (h : 0 < Y) (h' : 0 < Y') (e : X * Y' = X' * Y) : X / Y = X' / Y' := by
  have h1 := Int.mul_ediv_mul_of_pos_left X Y h'
  have h2 := Int.mul_ediv_mul_of_pos_left X' Y' h
  rw [e, Int.mul_comm Y Y'] at h1
  exact h1.symm.trans h2
theorem neg_floor {X Y : Int} (h : 0 < Y) : (-X) / Y = -((X - 1) / Y) - 1 := by
  have h1 := Int.mul_ediv_add_emod (X - 1) Y
  have h2 := Int.emod_nonneg (X - 1) (by omega : Y ≠ 0)
  have h3 := Int.emod_lt_of_pos (X - 1) h
  generalize (X - 1) / Y = c at h1 ⊢
  generalize (X - 1) % Y = r at h1 h2 h3
  have h4 : -X = (Y - 1 - r) + Y * (-c - 1) := by
    rw [Int.mul_sub, Int.mul_neg, Int.mul_one]
    omega
  rw [h4, Int.add_mul_ediv_left _ _ (by omega : Y ≠ 0), Int.ediv_eq_zero_of_lt (by omega) (by omega)]
  omega
theorem half_floor' {X q : Int} (h : 0 < q) : X / (2 * q) = X / q / 2 := by
  rw [Int.mul_comm, Int.ediv_ediv_of_nonneg (by omega)]
theorem line_eq {r : Int × Int} (h1 : 0 < r.1) (h2 : 0 < r.2) : ∃ d : Int, 0 ≤ d ∧ d = (r.1 - 1) / r.2 ∧ (r.1 + r.2 - 1) / r.2 = d + 1 ∧ dHi r 0 = (d + 1) / 2 ∧ dLo r 0 = -((d + 1) / 2) ∧ dHi r 1 = d / 2 ∧ dLo r 1 = -(d / 2) - 1 := by
  have e1 : (r.1 + r.2 - 1) / r.2 = (r.1 - 1) / r.2 + 1 := by
    rw [show r.1 + r.2 - 1 = (r.1 - 1) + r.2 * 1 by omega, Int.add_mul_ediv_left _ _ (by omega : r.2 ≠ 0)]
  refine ⟨_, Int.ediv_nonneg (by omega) (by omega), rfl, e1, ?_, ?_, ?_, ?_⟩
  · unfold dHi
    rw [show r.1 + (1 - 0) * r.2 - 1 = r.1 + r.2 - 1 by omega, half_floor' h2, e1]
  · unfold dLo
    rw [show 0 - r.1 - (1 + 0) * r.2 = -(r.1 + r.2) by omega, neg_floor (by omega), half_floor' h2, e1]
    omega
  · unfold dHi
    rw [show r.1 + (1 - 1) * r.2 - 1 = r.1 - 1 by omega, half_floor' h2]
  · unfold dLo
    rw [show 0 - r.1 - (1 + 1) * r.2 = -(r.1 + 2 * r.2) by omega, neg_floor (by omega), show r.1 + 2 * r.2 - 1 = (r.1 - 1) + (2 * r.2) * 1 by omega, Int.add_mul_ediv_left _ _ (by omega : 2 * r.2 ≠ 0), half_floor' h2]
    omega
theorem low_dvd (a b : Int) (h : 0 < b) : ∃ g : Int, 0 < g ∧ (low a b).1 * g = a ∧ (low a b).2 * g = b := by
  have g0 : 0 < Nat.gcd a.natAbs b.natAbs := Nat.gcd_pos_of_pos_right _ (by omega)
  have ga : ((Nat.gcd a.natAbs b.natAbs : Nat) : Int) ∣ a := Int.natAbs_dvd_natAbs.mp (by rw [Int.natAbs_natCast]; exact Nat.gcd_dvd_left _ _)
  have gb : ((Nat.gcd a.natAbs b.natAbs : Nat) : Int) ∣ b := Int.natAbs_dvd_natAbs.mp (by rw [Int.natAbs_natCast]; exact Nat.gcd_dvd_right _ _)
  exact ⟨_, by omega, Int.ediv_mul_cancel ga, Int.ediv_mul_cancel gb⟩
theorem low_cross {a b : Int} (h : 0 < b) : (low a b).1 * b = a * (low a b).2 := by
  obtain ⟨g, h0, h1, h2⟩ := low_dvd a b h
  generalize (low a b).1 = x at h1 ⊢
  generalize (low a b).2 = y at h2 ⊢
  grind
theorem low_idem {a b : Int} (h : 0 < b) : lowP (low a b) = low a b := by
  have g0 : 0 < Int.gcd a b := Nat.gcd_pos_of_pos_right _ (by omega)
  have h1 := Int.gcd_ediv_gcd_ediv_gcd g0
  have h2 : Nat.gcd (low a b).1.natAbs (low a b).2.natAbs = 1 := h1
  have h3 : lowP (low a b) = ((low a b).1 / ((Nat.gcd (low a b).1.natAbs (low a b).2.natAbs : Nat) : Int), (low a b).2 / ((Nat.gcd (low a b).1.natAbs (low a b).2.natAbs : Nat) : Int)) := rfl
  rw [h3, h2]
  exact Prod.ext (Int.ediv_one _) (Int.ediv_one _)
theorem low_pos {a b : Int} (ha : 0 < a) (hb : 0 < b) : 0 < (low a b).1 ∧ 0 < (low a b).2 ∧ (low a b).1 ≤ a ∧ (low a b).2 ≤ b := by
  obtain ⟨g, h0, h1, h2⟩ := low_dvd a b hb
  generalize (low a b).1 = x at h1 ⊢
  generalize (low a b).2 = y at h2 ⊢
  have hx : 0 < x := by
    rcases Int.lt_trichotomy x 0 with h | h | h
    · have := Int.mul_neg_of_neg_of_pos h h0; omega
    · subst h; omega
    · exact h
  have hy : 0 < y := by
    rcases Int.lt_trichotomy y 0 with h | h | h
    · have := Int.mul_neg_of_neg_of_pos h h0; omega
    · subst h; omega
    · exact h
  have h3 : x * 1 ≤ x * g := Int.mul_le_mul_of_nonneg_left (by omega) (by omega)
  have h4 : y * 1 ≤ y * g := Int.mul_le_mul_of_nonneg_left (by omega) (by omega)
  omega
theorem cross_cancel {a b c : Int} (h : 0 < c) (e : a * c = b * c) : a = b := Int.eq_of_mul_eq_mul_right (by omega) e
/-- the frame's line is the ratio's -/
theorem frame_eq {q wd r : Int × Int} (hq2 : 0 < q.2) (hw1 : 0 < wd.1) (hw2 : 0 < wd.2) (hr1 : 0 < r.1) (hr2 : 0 < r.2) {s h : Int × Int} (hs : s = low ((q.1.natAbs : Int) * wd.1) (q.2 * wd.2)) (hh : h = low (s.1 * r.2) (s.2 * r.1)) :
    ((wE (edge q wd) h).natAbs : Int) * r.2 = wH (edge q wd) h * r.1 := by
  have B0 : 0 < q.2 * wd.2 := Int.mul_pos hq2 hw2
  have e2 : 0 < (edge q wd).2 := by
    obtain ⟨g, h0, h1, h2⟩ := low_dvd (q.1 * wd.1) (q.2 * wd.2) B0
    rcases Int.lt_trichotomy (edge q wd).2 0 with h | h | h
    · have := Int.mul_neg_of_neg_of_pos h h0; have : (edge q wd).2 * g = q.2 * wd.2 := h2; omega
    · have : (edge q wd).2 * g = q.2 * wd.2 := h2; rw [h] at this; omega
    · exact h
  have s2 : 0 < s.2 := by
    obtain ⟨g, h0, h1, h2⟩ := low_dvd ((q.1.natAbs : Int) * wd.1) (q.2 * wd.2) B0
    rw [← hs] at h2
    rcases Int.lt_trichotomy s.2 0 with h | h | h
    · have := Int.mul_neg_of_neg_of_pos h h0; omega
    · rw [h] at h2; omega
    · exact h
  have C0 : 0 < s.2 * r.1 := Int.mul_pos s2 hr1
  have h2 : 0 < h.2 := by
    obtain ⟨g, h0, h1, h2⟩ := low_dvd (s.1 * r.2) (s.2 * r.1) C0
    rw [← hh] at h2
    rcases Int.lt_trichotomy h.2 0 with h' | h' | h'
    · have := Int.mul_neg_of_neg_of_pos h' h0; omega
    · rw [h'] at h2; omega
    · exact h'
  have c1 : (edge q wd).1 * (q.2 * wd.2) = q.1 * wd.1 * (edge q wd).2 := low_cross B0
  have c2 : s.1 * (q.2 * wd.2) = (q.1.natAbs : Int) * wd.1 * s.2 := by rw [hs]; exact low_cross B0
  have c3 : h.1 * (s.2 * r.1) = s.1 * r.2 * h.2 := by rw [hh]; exact low_cross C0
  have m1 : (wM (edge q wd) h / (edge q wd).2) * (edge q wd).2 = wM (edge q wd) h := Int.ediv_mul_cancel (by rw [wM_eq e2 h2]; exact (dvd_lcm e2 h2).1)
  have m2 : (wM (edge q wd) h / h.2) * h.2 = wM (edge q wd) h := Int.ediv_mul_cancel (by rw [wM_eq e2 h2]; exact (dvd_lcm e2 h2).2)
  have M0 : 0 ≤ wM (edge q wd) h := by unfold wM; omega
  unfold wE wH
  have u0 : 0 ≤ wM (edge q wd) h / (edge q wd).2 := Int.ediv_nonneg M0 (by omega)
  rw [Int.natAbs_mul]
  have u1 : ((wM (edge q wd) h / (edge q wd).2).natAbs : Int) = wM (edge q wd) h / (edge q wd).2 := by omega
  rw [Int.natCast_mul, u1]
  have a1 : ((edge q wd).1.natAbs : Int) * (q.2 * wd.2) = (q.1.natAbs : Int) * wd.1 * (edge q wd).2 := by
    have z := congrArg Int.natAbs c1
    rw [Int.natAbs_mul, Int.natAbs_mul, Int.natAbs_mul, Int.natAbs_mul] at z
    have z2 := congrArg (fun n : Nat => (n : Int)) z
    simp only [Int.natCast_mul] at z2
    rw [show (q.2.natAbs : Int) = q.2 by omega, show (wd.2.natAbs : Int) = wd.2 by omega, show (wd.1.natAbs : Int) = wd.1 by omega, show ((edge q wd).2.natAbs : Int) = (edge q wd).2 by omega] at z2
    exact z2
  generalize wM (edge q wd) h / (edge q wd).2 = u at m1 u0 u1 ⊢
  generalize wM (edge q wd) h / h.2 = v at m2 ⊢
  generalize wM (edge q wd) h = M at m1 m2 M0
  generalize (edge q wd).2 = e2' at m1 a1 e2
  generalize ((edge q wd).1.natAbs : Int) = e1' at a1 ⊢
  generalize (q.1.natAbs : Int) * wd.1 = A at a1 c2
  generalize q.2 * wd.2 = B at a1 c2 B0
  obtain ⟨h1, h2'⟩ := h
  obtain ⟨s1, s2'⟩ := s
  obtain ⟨r1, r2⟩ := r
  simp only at *
  refine cross_cancel (c := B * e2' * h2' * s2') (Int.mul_pos (Int.mul_pos (Int.mul_pos B0 e2) h2) s2) ?_
  have k1 : e1' * u * r2 * (B * e2' * h2' * s2') = A * e2' * (M * r2 * h2' * s2') := by grind
  have k2 : h1 * v * r1 * (B * e2' * h2' * s2') = A * e2' * (M * r2 * h2' * s2') := by grind
  rw [k1, k2]
theorem frame_lo {E H o : Int} {r : Int × Int} (hH : 0 < H) (hr2 : 0 < r.2) (e : (E.natAbs : Int) * r.2 = H * r.1) : hLo E H o = dLo r o ∧ hHi E H o = dHi r o := by
  unfold hLo hHi dLo dHi
  generalize (E.natAbs : Int) = a at e ⊢
  constructor
  · refine congrArg (fun z => z + 1) (floor_eq (by omega) (by omega) ?_)
    grind
  · have n1 := neg_floor (X := a + H - o * H) (Y := 2 * H) (by omega)
    have n2 := neg_floor (X := r.1 + (1 - o) * r.2) (Y := 2 * r.2) (by omega)
    have f : (-(a + H - o * H)) / (2 * H) = (-(r.1 + (1 - o) * r.2)) / (2 * r.2) := floor_eq (by omega) (by omega) (by grind)
    omega
end K48

namespace K48
open PySem L2 Y
abbrev sLaw : Stmt := topS 65
abbrev nLaw : List Str := ["script", "box", "asked", "turn", "a", "many", "q", "wide", "again", "ratio", "edge", "beside", "one", "half", "power", "counts", "offset", "due", "count", "told", "e", "least", "cell"]
theorem scLaw : FnScope nLaw ["script"] (defScope sLaw) := ⟨rfl, rfl, rfl, by decide +kernel, rfl, by decide +kernel, by decide +kernel⟩
def aLaw : AdP := fun ds R => ∃ ns : List Int, ds = [.lst (ns.map .int)] ∧ ns.length ≤ 63 ∧ R = fun d => d = .bl true
def As : List (Int × Int) := [(3, 2), (-2, 1), (9, 8), (1, 3), (-5, 4), (7, 1)]
def Ws : List (Int × Int) := [(1, 1), (10, 1), (7, 3), (1, 5), (25, 2)]
def qI (a : Int × Int) : Nat → Int × Int
  | 0 => (1, 1)
  | n + 1 => low ((qI a n).1 * a.1) ((qI a n).2 * a.2)
theorem a_dec : ∀ a ∈ As, ∀ m ∈ [0, 1, 2, 3, 4], ((qI a m).1.natAbs < 2 ^ 20 ∧ 0 < (qI a m).2 ∧ (qI a m).2.natAbs < 2 ^ 20) ∧ (m = 0 ∨ (qI a m ∈ qs ∧ low (a.1 ^ m) (a.2 ^ m) = qI a m)) := by decide +kernel
theorem a_dec2 : ∀ a ∈ As, (a.1.natAbs < 2 ^ 20 ∧ 0 < a.2 ∧ a.2.natAbs < 2 ^ 20) ∧ lowP a = a := by decide +kernel
theorem w_dec : ∀ a ∈ Ws, (a.1.natAbs < 2 ^ 20 ∧ 0 < a.2 ∧ a.2.natAbs < 2 ^ 20) ∧ lowP a = a ∧ 0 < a.1 := by decide +kernel
theorem qI_ok {a : Int × Int} (ha : a ∈ As) {m : Nat} (hm : m ≤ 4) : small 20 (qI a m) ∧ (1 ≤ m → qI a m ∈ qs ∧ low (a.1 ^ m) (a.2 ^ m) = qI a m) := by
  have hm' : m ∈ [0, 1, 2, 3, 4] := by
    match m, hm with
    | 0, _ => decide
    | 1, _ => decide
    | 2, _ => decide
    | 3, _ => decide
    | 4, _ => decide
  have h := a_dec a ha m hm'
  exact ⟨h.1, fun h1 => h.2.resolve_left (by omega)⟩
def RtG (r : Int × Int) : Prop := 0 < r.1 ∧ 0 < r.2 ∧ r.1 ≤ 28008 ∧ r.2 ≤ 9 ∧ r.1 ≤ 4002 * r.2
structure AskR (a : Int × Int) (m : Nat) (wd r : Int × Int) : Prop where
  ha : a ∈ As
  h1 : 1 ≤ m
  h4 : m ≤ 4
  hw : wd ∈ Ws
  hr : RtG r
def askD (a : Int × Int) (m : Nat) (wd r : Int × Int) : D := .tup [fr a, .int m, fr (qI a m), fr wd, fr r]
def AskOk (d : D) : Prop := ∃ a m wd r, d = askD a m wd r ∧ AskR a m wd r
structure Dp (P : Program) (w : World) (K : PySem.W.Frag) (mg : Str → Option Value) (base : Heap) (k : Nat) (C CT : Addr) : Prop where
  T : Bt mg
  cl : Cls K C
  na : NoAttr K C "rows"
  dOpen : Dn P w K mg base k "_law_open" (spO K aOpen)
  dDraw : Dn P w K mg base k "_law_draw" (spB K aDraw)
  dPick : Dn P w K mg base k "_law_pick" (spB K aPick)
  dMixed : Dn P w K mg base k "_law_mixed" (spB K aMixed)
  dLow : Dn P w K mg base k "_law_low" (spD K aLow)
  dMul : Dn P w K mg base k "_law_mul" (spD K aMul)
  dDiv : Dn P w K mg base k "_law_div" (spD K aDiv)
  dSize : Dn P w K mg base k "_law_size" (spD K aSize)
  dWord : Dn P w K mg base k "_law_word" (spD K aWord)
  dWhole : Dn P w K mg base k "_law_whole" (spD K aLWhole)
  dLine : Dn P w K mg base k "_law_line" (spD K aLine)
  dCount : Dn P w K mg base k "hull_count" (spD K (aCount C))
  dCells : Dx P w K mg base k "cells_met" (spX K (aCells C CT))
  dPow : Dm P w K mg base k "power" C (spD K (aPower C))
  mM : Mki P w K mg base k "Matrix" C aInit
  ox : OexC K CT
  xf : XfC K CT
  xm : PySem.W.exmOne K (.ref CT) (.ref CT) = some true
  hT : mg "TooMany" = some (.ref CT)
  xn1 : PySem.W.findIn K (.ref CT) "what" = some none
  xn2 : PySem.W.findIn K (.ref CT) "count" = some none
def forB : Stmt → List Stmt
  | .For _ _ b _ _ => b
  | _ => []
abbrev lawB : List Stmt := defBody sLaw
abbrev turnB : List Stmt := forB (lawB.getD 2 (.Pass ⟨0, 0, 0, 0⟩))
abbrev oneB : List Stmt := forB (lawB.getD 6 (.Pass ⟨0, 0, 0, 0⟩))
abbrev offB : List Stmt := forB (oneB.getD 4 (.Pass ⟨0, 0, 0, 0⟩))
section
variable {P : Program} {w : World} {K : PySem.W.Frag} {mg : Str → Option Value} {base : Heap} {f : Addr} {fd : FuncData} {k : Nat} {C CT : Addr} {cdv : Value} {A' : Around} {outer : List Env} {s0 : Shared} {H0 : Hp} {E0 : XK} {M : Wd} {R : Rs} {env : En} {bx xs : List D} {e2 : Expr} {p pn pos : Pos}
abbrev LX (P : Program) (w : World) (K : PySem.W.Frag) (mg : Str → Option Value) (base : Heap) (f : Addr) (cdv : Value) (A' : Around) (outer : List Env) (s0 : Shared) (H0 : Hp) (E0 : XK) : Cx := fnX K P w mg base nLaw "law" sLaw f cdv A' outer s0 H0 E0
abbrev LR (f : Addr) (k : Nat) (cdv : Value) (A' : Around) (s0 : Shared) : Prop := Room k (A'.deeper (PyProof.Rows.envOfC "law" (defScope sLaw) s0.heap.objs.size f cdv))
theorem e_draw (D : Dp P w K mg base k C CT) (hr : LR f k cdv A' s0) {many : Int} (hb : BoxOk bx) (e0 : env[1]? = some (.own bx)) (h0 : 0 < many) (h1 : many < 2 ^ 29) (ha : XV (LX P w K mg base f cdv A' outer s0 H0 E0) env e2 (.int many)) {Q : Y.D → En → Prop} (hQ : ∀ (bx' : List Y.D) (k : Nat), BoxOk bx' → (k : Int) < many → Q (.int k) (env.set 1 (.own bx')))
    (he : starEach [e2] (LX P w K mg base f cdv A' outer s0 H0 E0).env = (false, eval e2 (LX P w K mg base f cdv A' outer s0 H0 E0).env) :: starEach [] (LX P w K mg base f cdv A' outer s0 H0 E0).env := by rfl) (hpl : (backTo pos (starEach [e2] (LX P w K mg base f cdv A' outer s0 H0 E0).env)).any (·.1) = false := by rfl) :
    XE (LX P w K mg base f cdv A' outer s0 H0 E0) M env (.Call (.Name "_law_draw" p) [.Name "box" pn, e2] [] pos) Q :=
  e_callB 1 D.dDraw hr (.inl e0) (a_cons ha a_nil he) (R := fun d bx' => BoxOk bx' ∧ ∃ k : Nat, d = .int k ∧ (k : Int) < many) ⟨many, hb, rfl, h0, h1, rfl⟩ (fun d bx' ⟨hb', k, e, hk⟩ => ⟨fun _ => by rw [e]; exact hQ bx' k hb' hk, fun h => by rw [e0] at h; cases h⟩) (hpl := hpl)
theorem e_pick (D : Dp P w K mg base k C CT) (hr : LR f k cdv A' s0) {ys : List Y.D} (hb : BoxOk bx) (e0 : env[1]? = some (.own bx)) (h0 : 0 < ys.length) (h1 : ys.length < 1000) (ha : XV (LX P w K mg base f cdv A' outer s0 H0 E0) env e2 (.lst ys)) {Q : Y.D → En → Prop} (hQ : ∀ (bx' : List Y.D) (d : Y.D), BoxOk bx' → d ∈ ys → Q d (env.set 1 (.own bx')))
    (he : starEach [e2] (LX P w K mg base f cdv A' outer s0 H0 E0).env = (false, eval e2 (LX P w K mg base f cdv A' outer s0 H0 E0).env) :: starEach [] (LX P w K mg base f cdv A' outer s0 H0 E0).env := by rfl) (hpl : (backTo pos (starEach [e2] (LX P w K mg base f cdv A' outer s0 H0 E0).env)).any (·.1) = false := by rfl) :
    XE (LX P w K mg base f cdv A' outer s0 H0 E0) M env (.Call (.Name "_law_pick" p) [.Name "box" pn, e2] [] pos) Q :=
  e_callB 1 D.dPick hr (.inl e0) (a_cons ha a_nil he) (R := fun d bx' => BoxOk bx' ∧ d ∈ ys) ⟨ys, hb, rfl, h0, h1, rfl⟩ (fun d bx' ⟨hb', hd⟩ => ⟨fun _ => hQ bx' d hb' hd, fun h => by rw [e0] at h; cases h⟩) (hpl := hpl)
theorem e_mixed (D : Dp P w K mg base k C CT) (hr : LR f k cdv A' s0) {ys : List Y.D} (hb : BoxOk bx) (e0 : env[1]? = some (.own bx)) (h1 : ys.length < 1000) (ha : XV (LX P w K mg base f cdv A' outer s0 H0 E0) env e2 (.lst ys)) {Q : Y.D → En → Prop} (hQ : ∀ (bx' : List Y.D) (zs : List Y.D), BoxOk bx' → zs.Perm ys → Q (.lst zs) (env.set 1 (.own bx')))
    (he : starEach [e2] (LX P w K mg base f cdv A' outer s0 H0 E0).env = (false, eval e2 (LX P w K mg base f cdv A' outer s0 H0 E0).env) :: starEach [] (LX P w K mg base f cdv A' outer s0 H0 E0).env := by rfl) (hpl : (backTo pos (starEach [e2] (LX P w K mg base f cdv A' outer s0 H0 E0).env)).any (·.1) = false := by rfl) :
    XE (LX P w K mg base f cdv A' outer s0 H0 E0) M env (.Call (.Name "_law_mixed" p) [.Name "box" pn, e2] [] pos) Q :=
  e_callB 1 D.dMixed hr (.inl e0) (a_cons ha a_nil he) (R := fun d bx' => BoxOk bx' ∧ ∃ zs, d = .lst zs ∧ zs.Perm ys) ⟨ys, hb, rfl, h1, rfl⟩ (fun d bx' ⟨hb', zs, e, hd⟩ => ⟨fun _ => by rw [e]; exact hQ bx' zs hb' hd, fun h => by rw [e0] at h; cases h⟩) (hpl := hpl)
/-! the first part: what is asked -/
abbrev env1 (sc : Y.D) (bx xs : List Y.D) (s3 s4 s5 s6 s7 s8 s9 : Y.Slot) : En := [.dat sc, .own bx, .own xs, s3, s4, s5, s6, s7, s8, s9, .un, .un, .un, .un, .un, .un, .un, .un, .un, .un, .un, .un, .un]
theorem ask_app {sc : Y.D} {s3 s8 : Y.Slot} {a wd r : Int × Int} {m : Nat} (hx : xs.length < 100) (h : R.nx (env1 sc bx (xs ++ [askD a m wd r]) s3 (.dat (fr a)) (.dat (.int m)) (.dat (fr (qI a m))) (.dat (fr wd)) s8 (.dat (fr r)))) :
    XS (LX P w K mg base f cdv A' outer s0 H0 E0) M (env1 sc bx xs s3 (.dat (fr a)) (.dat (.int m)) (.dat (fr (qI a m))) (.dat (fr wd)) s8 (.dat (fr r))) (turnB.drop 7) R := by
  exact s_app 2 (x_tup (a_cons (x_var 4) (a_cons (x_var 5) (a_cons (x_var 6) (a_cons (x_var 7) (a_cons (x_var 9) a_nil))))) (by show 5 ≤ sizeLine; decide)) rfl (Nat.lt_of_lt_of_le hx (by decide)) (s_nil h)
theorem ask_clip (D : Dp P w K mg base k C CT) (hr : LR f k cdv A' s0) {sc : Y.D} {s3 s8 : Y.Slot} {a wd r : Int × Int} {m : Nat} (hx : xs.length < 100) (r1 : 0 < r.1) (r2 : 0 < r.2) (r3 : r.1 ≤ 400) (r4 : r.2 ≤ 9)
    (h : ∀ r, RtG r → R.nx (env1 sc bx (xs ++ [askD a m wd r]) s3 (.dat (fr a)) (.dat (.int m)) (.dat (fr (qI a m))) (.dat (fr wd)) s8 (.dat (fr r)))) :
    XS (LX P w K mg base f cdv A' outer s0 H0 E0) M (env1 sc bx xs s3 (.dat (fr a)) (.dat (.int m)) (.dat (fr (qI a m))) (.dat (fr wd)) s8 (.dat (fr r))) (turnB.drop 6) R := by
  have nd := scLaw.nd
  have R1 : ∀ {X : Cx} {env : En} {e : Expr} {n : Nat} {p1 p2 : Pos} {r : Int × Int}, XV X env e (fr r) → XV X env (.Subscript e (.Constant (.int 0) n p1) p2) (.int r.1) := fun h => x_ixT h x_int rfl
  have R2 : ∀ {X : Cx} {env : En} {e : Expr} {n : Nat} {p1 p2 : Pos} {r : Int × Int}, XV X env e (fr r) → XV X env (.Subscript e (.Constant (.int 1) n p1) p2) (.int r.2) := fun h => x_ixT h x_int rfl
  refine s_if (t_gt (R1 (x_var 9)) (x_mulS x_int (R2 (x_var 9)) (.inl (by decide)))) (fun h1 => ?_) (fun h1 => s_nil ?_)
  · refine s_set 9 (d := fr (60, r.2)) (x_tup (a_cons x_int (a_cons (R2 (r := r) (x_var 9)) a_nil)) (by show 2 ≤ sizeLine; decide)) ?_
    have lp := low_pos (a := 60) (b := r.2) (by decide) r2
    refine s_set 9 (x_call D.dLow hr (a_cons (R1 (x_var 9)) (a_cons (R2 (x_var 9)) a_nil)) ⟨60, r.2, rfl, r2, by show r.2.natAbs < 2 ^ 100; omega, rfl⟩ (fun d' h => h)) (s_nil ?_)
    exact ask_app hx (h _ ⟨lp.1, lp.2.1, by omega, by omega, by omega⟩)
  · have h2 := of_decide_eq_false h1
    exact ask_app hx (h _ ⟨r1, r2, by omega, by omega, by omega⟩)
end
end K48

namespace K48
open PySem L2 Y
section
variable {P : Program} {w : World} {K : PySem.W.Frag} {mg : Str → Option Value} {base : Heap} {f : Addr} {fd : FuncData} {k : Nat} {C CT : Addr} {cdv : Value} {A' : Around} {outer : List Env} {s0 : Shared} {H0 : Hp} {E0 : XK} {M : Wd} {R : Rs} {env : En} {bx xs : List D} {e2 : Expr} {p pn pos : Pos}
theorem ask_turn (D : Dp P w K mg base k C CT) (hr : LR f k cdv A' s0) {sc : Y.D} {s3 s4 s5 s6 s7 s8 s9 : Y.Slot} (hx : xs.length < 100) (hb : BoxOk bx)
    (h : ∀ bx' a m wd r s8, BoxOk bx' → AskR a m wd r → R.nx (env1 sc bx' (xs ++ [askD a m wd r]) s3 (.dat (fr a)) (.dat (.int m)) (.dat (fr (qI a m))) (.dat (fr wd)) s8 (.dat (fr r)))) :
    XS (LX P w K mg base f cdv A' outer s0 H0 E0) M (env1 sc bx xs s3 s4 s5 s6 s7 s8 s9) turnB R := by
  have nd := scLaw.nd
  have h_range := D.T.range
  have t2 : ∀ {X : Cx} {env : En} {i j : Int} {n1 n2 n3 : Nat} {p1 p2 p3 : Pos}, XV X env (.Tuple [.Constant (.int i) n1 p1, .Constant (.int j) n2 p2] n3 p3) (fr (i, j)) := x_tup (a_cons x_int (a_cons x_int a_nil)) (by show 2 ≤ sizeLine; decide)
  have t2n : ∀ {X : Cx} {env : En} {i j : Int} {n1 n2 n3 : Nat} {p1 p2 p3 p4 : Pos}, XV X env (.Tuple [.UnaryOp .USub (.Constant (.int i) n1 p1) p4, .Constant (.int j) n2 p2] n3 p3) (fr (-i, j)) := x_tup (a_cons (x_neg x_int) (a_cons x_int a_nil)) (by show 2 ≤ sizeLine; decide)
  refine s_setE 4 (e_pick D hr hb rfl (ys := As.map fr) (by decide) (by decide) ((x_lst (a_cons t2 (a_cons t2n (a_cons t2 (a_cons t2 (a_cons t2n (a_cons t2 a_nil)))))) (by show 6 ≤ sizeLine; decide)).to rfl) (fun bx1 d hb1 hd => ?_))
  obtain ⟨a, ha, rfl⟩ := List.mem_map.mp hd
  refine s_setE 5 (e_bin op_add (e_v x_int (e_draw D hr hb1 rfl (by decide) (by decide) x_int (fun bx2 n hb2 hn => ⟨.int (1 + n), od_I0 (fun _ => rfl), ?_⟩))))
  rw [show (1 + (n : Int)) = ((n + 1 : Nat) : Int) by omega]
  have hm4 : n + 1 ≤ 4 := by omega
  have hm1 : 1 ≤ n + 1 := by omega
  generalize n + 1 = m at hm4 hm1 ⊢
  refine s_set 6 (d := fr (1, 1)) t2 ?_
  refine s_for (fun i env => ∃ s8, env = env1 sc bx2 xs s3 (.dat (fr a)) (.dat (.int m)) (.dat (fr (qI a i))) s7 s8 s9) PassesOwn.never rfl (i_range1 (x_var 5) (by omega)) ⟨_, rfl⟩ ?_ ?_
  · intro i d env1' hd' ⟨s8', he1⟩
    subst he1
    have hi : i < m := by
      have := (List.getElem?_eq_some_iff.mp hd').1
      simpa using this
    have q1 := (qI_ok ha (by omega : i ≤ 4)).1
    have a1 := (a_dec2 a ha).1
    exact ⟨_, _, g_name 8 nd, s_set 6 (x_call D.dMul hr (a_cons (x_var 6) (a_cons (x_var 4) a_nil)) ⟨qI a i, a, rfl, small_mono q1 (by decide), small_mono (n := 40) (⟨a1.1, a1.2.1, a1.2.2⟩ : small 20 a) (by decide), rfl⟩ (fun d' h => h)) (s_nil ⟨_, rfl⟩)⟩
  · intro env1' ⟨s8', he1⟩
    subst he1
    rw [List.length_map, List.length_range, Int.toNat_natCast]
    refine s_setE 7 (e_pick D hr hb2 rfl (ys := Ws.map fr) (by decide) (by decide) ((x_lst (a_cons t2 (a_cons t2 (a_cons t2 (a_cons t2 (a_cons t2 a_nil))))) (by show 5 ≤ sizeLine; decide)).to rfl) (fun bx3 d hb3 hd3 => ?_))
    obtain ⟨wd, hw, rfl⟩ := List.mem_map.mp hd3
    refine s_setE 9 (e_if (q_cmp op_gt (nomark _) (e_draw D hr hb3 rfl (by decide) (by decide) x_int (fun bx4 n4 hb4 hn4 => e_v x_int ⟨decide ((0 : Int) < n4), od_I0 (fun _ => rfl), fun _ => ?_, fun _ => ?_⟩))))
    · refine e_call (R := fun _ => True) D.dLow hr (ae_cons (e_bin op_add (e_v x_int (e_draw D hr hb4 rfl (by decide) (by decide) x_int (fun bx5 n5 hb5 hn5 => ⟨.int (1 + n5), od_I0 (fun _ => rfl), ?_⟩)))))
      refine ae_cons (e_bin op_add (e_v x_int (e_draw D hr hb5 rfl (by decide) (by decide) x_int (fun bx6 n6 hb6 hn6 => ⟨.int (1 + n6), od_I0 (fun _ => rfl), ?_⟩))))
      refine ae_nil ⟨_, ⟨1 + n5, 1 + n6, rfl, by omega, by omega, rfl⟩, fun d hd => ?_⟩
      subst hd
      have lp := low_pos (a := 1 + n5) (b := 1 + n6) (by omega) (by omega)
      exact ask_clip D hr hx lp.1 lp.2.1 (by omega) (by omega) (fun r hr' => h bx6 a m wd r _ hb6 ⟨ha, hm1, hm4, hw, hr'⟩)
    · refine e_tup (ae_cons (e_bin op_add (e_v x_int (e_draw D hr hb4 rfl (by decide) (by decide) x_int (fun bx5 n5 hb5 hn5 => ⟨.int (1 + n5), od_I0 (fun _ => rfl), ae_a (a_cons x_int a_nil) ⟨by show 2 ≤ sizeLine; decide, ?_⟩⟩)))))
      exact ask_clip (r := (1 + n5, 1)) D hr hx (by show (0 : Int) < 1 + n5; omega) (by show (0 : Int) < 1; decide) (by show 1 + (n5 : Int) ≤ 400; omega) (by show (1 : Int) ≤ 9; decide) (fun r hr' => h bx5 a m wd r _ hb5 ⟨ha, hm1, hm4, hw, hr'⟩)
end
end K48

namespace K48
open PySem L2 Y
theorem t_dec2 : True := trivial
/-- what one asked thing is told by -/
structure Fin4 (a : Int × Int) (m : Nat) (wd r h : Int × Int) : Prop where
  eq : h = low ((low (((qI a m).1.natAbs : Int) * wd.1) ((qI a m).2 * wd.2)).1 * r.2) ((low (((qI a m).1.natAbs : Int) * wd.1) ((qI a m).2 * wd.2)).2 * r.1)
  i4 : ∀ o : Int, o = 0 ∨ o = 1 → In4 (qI a m) wd h o
  lo : ∀ o : Int, o = 0 ∨ o = 1 → cLo (qI a m) wd h o = dLo r o
  hi : ∀ o : Int, o = 0 ∨ o = 1 → cHi (qI a m) wd h o = dHi r o
theorem fin4 {a : Int × Int} {m : Nat} {wd r h : Int × Int} (A : AskR a m wd r) (eq : h = low ((low (((qI a m).1.natAbs : Int) * wd.1) ((qI a m).2 * wd.2)).1 * r.2) ((low (((qI a m).1.natAbs : Int) * wd.1) ((qI a m).2 * wd.2)).2 * r.1)) : Fin4 a m wd r h := by
  obtain ⟨q1, q2⟩ := qI_ok A.ha A.h4
  obtain ⟨q3, q4⟩ := q2 A.h1
  have Q := qf q3
  obtain ⟨w1, w2, w3⟩ := w_dec wd A.hw
  obtain ⟨r1, r2, r3, r4, r5⟩ := A.hr
  have w1' : small 20 wd := w1
  have B0 : 0 < (qI a m).2 * wd.2 := Int.mul_pos q1.2.1 w1.2.1
  have A0 : 0 < ((qI a m).1.natAbs : Int) * wd.1 := Int.mul_pos (by have := Q.ne; omega) w3
  have sq : small 20 (((qI a m).1.natAbs : Int), (qI a m).2) := ⟨by show ((qI a m).1.natAbs : Int).natAbs < 2 ^ 20; rw [Int.natAbs_natCast]; exact q1.1, q1.2.1, q1.2.2⟩
  have ss : small 40 (low (((qI a m).1.natAbs : Int) * wd.1) ((qI a m).2 * wd.2)) := small_low (small_mul sq w1')
  have lp := low_pos A0 B0
  generalize hs : low (((qI a m).1.natAbs : Int) * wd.1) ((qI a m).2 * wd.2) = s at eq ss lp
  have rr : small 20 (r.2, r.1) := ⟨by show r.2.natAbs < 2 ^ 20; omega, r1, by show r.1.natAbs < 2 ^ 20; omega⟩
  have C0 : 0 < s.2 * r.1 := Int.mul_pos lp.2.1 r1
  have C1 : 0 < s.1 * r.2 := Int.mul_pos lp.1 r2
  have sh : small 200 h := by
    rw [eq]
    exact small_mono (small_low (small_mul ss rr)) (by decide)
  have i4 : ∀ o : Int, o = 0 ∨ o = 1 → In4 (qI a m) wd h o := fun o ho => ⟨small_mono q1 (by decide), small_mono w1' (by decide), sh, w2, by rw [eq]; exact low_idem C0, by rw [eq]; exact (low_pos C1 C0).1, ho⟩
  have fe := frame_eq (q := qI a m) (wd := wd) (r := r) q1.2.1 w3 w1.2.1 r1 r2 hs.symm eq
  refine ⟨by rw [hs]; exact eq, i4, fun o ho => ?_, fun o ho => ?_⟩
  · have I := i4 o ho
    exact (frame_lo (wH_pos (small_edge I.sq I.sw) I.sh I.h1) r2 fe).1
  · have I := i4 o ho
    exact (frame_lo (wH_pos (small_edge I.sq I.sw) I.sh I.h1) r2 fe).2
/-- the line of a ratio -/
theorem line_b {r : Int × Int} (h : RtG r) {o : Int} (ho : o = 0 ∨ o = 1) : dLo r o ≤ dHi r o ∧ dHi r o - dLo r o < 5000 ∧ (dLo r o).natAbs < 2 ^ 50 ∧ (dHi r o).natAbs < 2 ^ 50 := by
  obtain ⟨r1, r2, r3, r4, r5⟩ := h
  obtain ⟨d, d0, d1, d2, e1, e2, e3, e4⟩ := line_eq r1 r2
  have hd : d ≤ 4001 := by
    rw [d1]
    have := Int.ediv_lt_of_lt_mul r2 (by omega : r.1 - 1 < 4002 * r.2)
    omega
  rcases ho with rfl | rfl
  · rw [e1, e2]; omega
  · rw [e3, e4]; omega
def cnt (r : Int × Int) (o : Int) : Int := dHi r o - dLo r o + 1
theorem cnt_b {r : Int × Int} (h : RtG r) : min (cnt r 0) (cnt r 1) = (r.1 + r.2 - 1) / r.2 ∧ max (cnt r 0) (cnt r 1) ≤ (r.1 + r.2 - 1) / r.2 + 1 := by
  obtain ⟨r1, r2, r3, r4, r5⟩ := h
  obtain ⟨d, d0, d1, d2, e1, e2, e3, e4⟩ := line_eq r1 r2
  unfold cnt
  rw [d2, e1, e2, e3, e4]
  omega
theorem perm2 {α : Type} {x y : α} {ys : List α} (h : ys.Perm [x, y]) : ys = [x, y] ∨ ys = [y, x] := by
  have hl := h.length_eq
  match ys, hl with
  | [a, b], _ =>
    have ha : a ∈ [x, y] := h.subset List.mem_cons_self
    rcases List.mem_cons.mp ha with rfl | ha
    · exact .inl (by rw [List.perm_singleton.mp ((List.perm_cons a).mp h)])
    · obtain rfl := List.mem_singleton.mp ha
      have h2 : [a, b].Perm [a, x] := h.trans (List.Perm.swap a x [])
      exact .inr (by rw [List.perm_singleton.mp ((List.perm_cons a).mp h2)])
end K48

namespace K48
open PySem L2 Y
theorem cells_len (lo hi : Int) : ((cells lo hi).map fun t => Y.D.tup (t.map Y.D.int)).length = (hi + 1 - lo).toNat := by
  unfold cells
  rw [List.length_map, List.length_map, List.length_range]
section
variable {P : Program} {w : World} {K : PySem.W.Frag} {mg : Str → Option Value} {base : Heap} {f : Addr} {fd : FuncData} {k : Nat} {C CT : Addr} {cdv : Value} {A' : Around} {outer : List Env} {s0 : Shared} {H0 : Hp} {E0 : XK} {M : Wd} {R : Rs} {env : En} {bx xs : List D} {e2 : Expr} {p pn pos : Pos}
abbrev env2 (sc : Y.D) (bx : List Y.D) (C : Addr) (a : Int × Int) (m : Nat) (wd r h : Int × Int) (cs : List Y.D) (s2 s3 s8 s10 s11 s12 s16 s17 s18 s19 s21 s22 : Y.Slot) : En :=
  [.dat sc, .own bx, s2, s3, .dat (fr a), .dat (.int m), .dat (fr (qI a m)), .dat (fr wd), s8, .dat (fr r), s10, s11, s12, .dat (fr h), .dat (powD C (qI a m)), .own cs, s16, s17, s18, s19, .un, s21, s22]
def fsT : List (Str × Y.D) := [(("count" : Str), .int 4000), (("what" : Str), .str "cells")]
theorem off_try (D : Dp P w K mg base k C CT) (hr : LR f k cdv A' s0) (hM : ∀ a, ¬ M.m a) {sc : Y.D} {a wd r h : Int × Int} {m : Nat} {cs : List Y.D} {o : Int} {s2 s3 s8 s10 s11 s12 s18 s19 s21 s22 : Y.Slot} (A : AskR a m wd r) (Fi : Fin4 a m wd r h) (ho : o = 0 ∨ o = 1)
    (hn : ∀ s19, R.nx (env2 sc bx C a m wd r h cs s2 s3 s8 s10 s11 s12 (.dat (.int o)) (.dat (cellsD (dLo r o) (dHi r o))) s18 s19 s21 s22)) :
    XS (LX P w K mg base f cdv A' outer s0 H0 E0) M (env2 sc bx C a m wd r h cs s2 s3 s8 s10 s11 s12 (.dat (.int o)) (.dat (cellsD (dLo r o) (dHi r o))) s18 s19 s21 s22) (offB.drop 4) R := by
  have nd := scLaw.nd
  have h_len := D.T.len
  have h_all := D.T.all
  have h_isi := D.T.isi
  have h_tuple := D.T.tuple
  have I := Fi.i4 o ho
  have lo := Fi.lo o ho
  have hi := Fi.hi o ho
  obtain ⟨b1, b2, b3, b4⟩ := line_b A.hr ho
  have cl := cells_len (dLo r o) (dHi r o)
  by_cases hc : dHi r o - dLo r o + 1 ≤ 4000
  · refine s_tryT ?_
    refine s_set 19 (d := cellsD (dLo r o) (dHi r o)) (x_callX D.dCells hr (a_cons (x_var 14) (a_cons (x_lst (a_cons (x_var 7) a_nil) (by show 1 ≤ sizeLine; decide)) (a_cons (x_lst (a_cons (x_var 13) a_nil) (by show 1 ≤ sizeLine; decide)) (a_cons (x_var 16) a_nil)))) ⟨qI a m, wd, h, o, rfl, I, .inl ⟨by rw [lo, hi]; exact hc, by rw [lo, hi]; exact b1, by rw [lo]; exact b3, rfl, rfl⟩⟩ (fun d' hd => by rw [hd, lo, hi])) ?_
    refine s_ifF ((t_or3 (k := false) (l := false) (m := false) ((t_gt (x_len (x_var 17) rfl) x_int).to (decide_eq_false (by rw [cl]; omega))) (fun _ => (t_neD hr.units (toPy_tups _) (toPy_tups _) (shaped_tups _) (shaped_tups _) (x_var 19) (x_var 17)).to (by rw [eqv_tups]; rfl)) (fun _ _ => (t_not (t_val (x_all (bs := (cells (dLo r o) (dHi r o)).map fun _ => true) rfl
      ((x_lc [("cell", 22)] rfl nd (blkOk_by (by kernel_rfl)) (l_all (xs := cells (dLo r o) (dHi r o)) (enc := fun t => .tup (t.map Y.D.int)) (f := fun _ => .bl true) (i_list (x_var 19)) (by rw [← List.length_map (fun t => Y.D.tup (t.map Y.D.int)), cl]; exact Nat.lt_of_lt_of_le (by omega : (dHi r o + 1 - dLo r o).toNat < 6000) (by decide)) (js := [22]) (by decide) (fun x hx s0 H0 C cl' fp => g_name 22 nd)
        (fun x hx s0 H0 C cl' fp => x_isi (x_var 22) (T := "tuple") (T' := "tuple") rfl (x_ty (by rfl) h_tuple (by decide +kernel)) (k := true) (by decide +kernel)))).to (by rw [List.map_map]; rfl))))).to (by rw [List.all_map]; simp))).to rfl) (s_nil (s_nil (s_nil (hn _))))
  · refine s_tryR (RE := fun c v => c = Value.ref CT ∧ v = [(("count" : Str), V.int 4000), (("what" : Str), V.str "cells")]) (fsD := fsT) 20 D.dCells hr (fun pn xe => a_cons (x_var 14) (a_cons (x_lst (a_cons (x_var 7) a_nil) (by show 1 ≤ sizeLine; decide)) (a_cons (x_lst (a_cons (x_var 13) a_nil) (by show 1 ≤ sizeLine; decide)) (a_cons (x_var 16) a_nil)))) ⟨qI a m, wd, h, o, rfl, I, .inr ⟨by rw [lo, hi]; omega, rfl, rfl⟩⟩ (fun F => ⟨_, _, rfl, rfl, _, _, rfl, rfl, rfl⟩) D.xm hM ⟨rfl, by decide, .inl D.hT⟩ (fun a' oe dd pn hz hfl => ?_) (j := 19)
    refine s_ifF ((t_or3 (k := false) (l := false) (m := false) ((t_le (x_len (x_var 17) rfl) x_int).to (decide_eq_false (by rw [cl]; omega))) (fun _ => (t_neV rfl rfl rfl (x_xf D.xf D.xn1 hz hfl (x_var 20) (d := .str "cells") rfl) x_str).to rfl) (fun _ _ => (t_ne (x_xf D.xf D.xn2 hz hfl (x_var 20) (d := .int 4000) rfl) x_int).to rfl)).to rfl) (s_nil (s_nil (s_nil (hn _))))
theorem off_body (D : Dp P w K mg base k C CT) (hr : LR f k cdv A' s0) (hM : ∀ a, ¬ M.m a) {sc : Y.D} {a wd r h : Int × Int} {m : Nat} {cs : List Y.D} {o : Int} {s2 s3 s8 s10 s11 s12 s17 s18 s19 s21 s22 : Y.Slot} (A : AskR a m wd r) (Fi : Fin4 a m wd r h) (ho : o = 0 ∨ o = 1) (hcs : cs.length < 100)
    (hn : ∀ s17 s18 s19, R.nx (env2 sc bx C a m wd r h (cs ++ [.int (cnt r o)]) s2 s3 s8 s10 s11 s12 (.dat (.int o)) s17 s18 s19 s21 s22)) :
    XS (LX P w K mg base f cdv A' outer s0 H0 E0) M (env2 sc bx C a m wd r h cs s2 s3 s8 s10 s11 s12 (.dat (.int o)) s17 s18 s19 s21 s22) offB R := by
  have nd := scLaw.nd
  have h_len := D.T.len
  have I := Fi.i4 o ho
  have lo := Fi.lo o ho
  have hi := Fi.hi o ho
  obtain ⟨b1, b2, b3, b4⟩ := line_b A.hr ho
  have cl := cells_len (dLo r o) (dHi r o)
  obtain ⟨g1, g2, g3, g4, g5⟩ := A.hr
  refine s_set 17 (x_call D.dLine hr (a_cons (x_var 9) (a_cons (x_var 16) a_nil)) ⟨r, o, rfl, ho, ⟨g1, g2, by omega, by omega⟩, by omega, b3, b4, rfl⟩ (fun d' hd => hd)) ?_
  refine s_set 18 (d := .int (cnt r o)) (x_call D.dCount hr (a_cons (x_var 14) (a_cons (x_lst (a_cons (x_var 7) a_nil) (by show 1 ≤ sizeLine; decide)) (a_cons (x_tup (a_cons (x_var 13) a_nil) (by show 1 ≤ sizeLine; decide)) (a_cons (x_var 16) a_nil)))) ⟨qI a m, wd, h, o, rfl, I, rfl⟩ (fun d' hd => by rw [hd, lo, hi]; rfl)) ?_
  refine s_ifF ((t_or (k := false) (l := false) ((t_not (t_val (x_call D.dWhole hr (a_cons (x_var 18) a_nil) ⟨_, rfl, rfl⟩ (fun d' h => h)))).to rfl) (fun _ => (t_ne (x_var 18) (x_len (x_var 17) rfl)).to (by rw [cl, decide_eq_true (by unfold cnt; omega)]; rfl))).to rfl) (s_nil ?_)
  exact s_app 15 (x_var 18) rfl (Nat.lt_of_lt_of_le hcs (by decide)) (off_try D hr hM A Fi ho (fun s19 => hn _ _ s19))
end
end K48

namespace K48
open PySem L2 Y
theorem minL2 (x y : Int) : minL [x, y] = min x y := by
  unfold minL
  simp only [List.foldr, List.headD]
  omega
theorem maxL2 (x y : Int) : maxL [x, y] = max x y := by
  unfold maxL
  simp only [List.foldr, List.headD]
  omega
section
variable {P : Program} {w : World} {K : PySem.W.Frag} {mg : Str → Option Value} {base : Heap} {f : Addr} {fd : FuncData} {k : Nat} {C CT : Addr} {cdv : Value} {A' : Around} {outer : List Env} {s0 : Shared} {H0 : Hp} {E0 : XK} {M : Wd} {R : Rs} {env : En} {bx xs : List D} {e2 : Expr} {p pn pos : Pos}
abbrev env3 (sc : Y.D) (bx : List Y.D) (s2 s3 s4 s5 s6 s7 s8 s9 s10 s11 s12 s13 s14 s15 s16 s17 s18 s19 s21 s22 : Y.Slot) : En :=
  [.dat sc, .own bx, s2, s3, s4, s5, s6, s7, s8, s9, s10, s11, s12, s13, s14, s15, s16, s17, s18, s19, .un, s21, s22]
def Ef (sc : Y.D) (e : En) : Prop := ∃ (bx : List Y.D) (s2 s3 s4 s5 s6 s7 s8 s9 s10 s11 s12 s13 s14 s15 s16 s17 s18 s19 s21 s22 : Y.Slot), BoxOk bx ∧ e = env3 sc bx s2 s3 s4 s5 s6 s7 s8 s9 s10 s11 s12 s13 s14 s15 s16 s17 s18 s19 s21 s22
theorem one_tail (D : Dp P w K mg base k C CT) (hr : LR f k cdv A' s0) (hM : ∀ a, ¬ M.m a) {sc : Y.D} {a wd r h : Int × Int} {m : Nat} {s2 s3 s8 s10 s11 s12 s15 s16 s17 s18 s19 s21 s22 : Y.Slot} (hb : BoxOk bx) (A : AskR a m wd r) (Fi : Fin4 a m wd r h) (hn : ∀ e, Ef sc e → R.nx e) :
    XS (LX P w K mg base f cdv A' outer s0 H0 E0) M (env3 sc bx s2 s3 (.dat (fr a)) (.dat (.int m)) (.dat (fr (qI a m))) (.dat (fr wd)) s8 (.dat (fr r)) s10 s11 s12 (.dat (fr h)) (.dat (powD C (qI a m))) s15 s16 s17 s18 s19 s21 s22) (oneB.drop 3) R := by
  have nd := scLaw.nd
  have h_min := D.T.min
  have h_max := D.T.max
  refine s_setO 15 (x_lst a_nil (by decide)) a_nil (by decide) (Nat.le_of_ble_eq_true rfl) ?_
  refine s_forE PassesOwn.never rfl (e_mixed D hr hb rfl (ys := [.int 0, .int 1]) (by decide) (x_lst (a_cons x_int (a_cons x_int a_nil)) (by show 2 ≤ sizeLine; decide)) (fun bx' zs hb' hz => ?_))
  have gen : ∃ o1 o2 : Int, zs = [.int o1, .int o2] ∧ (o1 = 0 ∨ o1 = 1) ∧ (o2 = 0 ∨ o2 = 1) ∧ min (cnt r o1) (cnt r o2) = (r.1 + r.2 - 1) / r.2 ∧ max (cnt r o1) (cnt r o2) ≤ (r.1 + r.2 - 1) / r.2 + 1 := by
    obtain ⟨c1, c2⟩ := cnt_b A.hr
    rcases perm2 hz with rfl | rfl
    · exact ⟨0, 1, rfl, .inl rfl, .inr rfl, c1, c2⟩
    · exact ⟨1, 0, rfl, .inr rfl, .inl rfl, by omega, by omega⟩
  obtain ⟨o1, o2, rfl, ho1, ho2, c1, c2⟩ := gen
  obtain ⟨g1, g2, g3, g4, g5⟩ := A.hr
  refine ⟨[.int o1, .int o2], fun i e => ∃ s16 s17 s18 s19, e = env2 sc bx' C a m wd r h (match i with | 0 => [] | 1 => [.int (cnt r o1)] | _ => [.int (cnt r o1), .int (cnt r o2)]) s2 s3 s8 s10 s11 s12 s16 s17 s18 s19 s21 s22, rfl, ⟨_, _, _, _, rfl⟩, ?_, ?_⟩
  · intro i d env1' hd ⟨s16', s17', s18', s19', he1⟩
    subst he1
    match i, hd with
    | 0, hd =>
      cases hd
      exact ⟨_, _, g_name 16 nd, off_body D hr hM A Fi ho1 (by show 0 < 100; decide) (fun s17 s18 s19 => ⟨_, _, _, _, rfl⟩)⟩
    | 1, hd =>
      cases hd
      exact ⟨_, _, g_name 16 nd, off_body D hr hM A Fi ho2 (by show 1 < 100; decide) (fun s17 s18 s19 => ⟨_, _, _, _, rfl⟩)⟩
  · intro env1' ⟨s16', s17', s18', s19', he1⟩
    subst he1
    have R1 : ∀ {X : Cx} {env : En} {e : Expr} {n : Nat} {p1 p2 : Pos} {r : Int × Int}, XV X env e (fr r) → XV X env (.Subscript e (.Constant (.int 0) n p1) p2) (.int r.1) := fun h => x_ixT h x_int rfl
    have R2 : ∀ {X : Cx} {env : En} {e : Expr} {n : Nat} {p1 p2 : Pos} {r : Int × Int}, XV X env e (fr r) → XV X env (.Subscript e (.Constant (.int 1) n p1) p2) (.int r.2) := fun h => x_ixT h x_int rfl
    refine s_set 21 (d := .int ((r.1 + r.2 - 1) / r.2)) (x_fdiv (x_sub (x_add (R1 (x_var 9)) (R2 (x_var 9))) x_int) (R2 (x_var 9)) (wide_div (b := 40) g2 (by omega) (by decide) (by decide))) ?_
    refine s_freeze 15 (ds := [.int (cnt r o1), .int (cnt r o2)]) rfl ?_
    refine s_ifF ((t_or (k := false) (l := false) ((t_ne (x_minL (ns := [cnt r o1, cnt r o2]) rfl (x_var 15) (Nat.le_of_ble_eq_true rfl)) (x_var 21)).to (by rw [minL2, c1, decide_eq_true rfl]; rfl)) (fun _ => (t_gt (x_maxL (ns := [cnt r o1, cnt r o2]) rfl (x_var 15) (Nat.le_of_ble_eq_true rfl)) (x_add (x_var 21) x_int)).to (decide_eq_false (by rw [maxL2]; omega)))).to rfl) (s_nil (s_nil (hn _ ?_)))
    exact ⟨_, _, _, _, _, _, _, _, _, _, _, _, _, _, _, _, _, _, _, _, _, hb', rfl⟩
theorem one_body (D : Dp P w K mg base k C CT) (hr1 : LR f (k + 1) cdv A' s0) (hM : ∀ a, ¬ M.m a) {sc : Y.D} {a wd r : Int × Int} {m : Nat} {s2 s3 s4 s5 s6 s7 s8 s9 s10 s11 s13 s14 s15 s16 s17 s18 s19 s21 s22 : Y.Slot} (hb : BoxOk bx) (A : AskR a m wd r) (hn : ∀ e, Ef sc e → R.nx e) :
    XS (LX P w K mg base f cdv A' outer s0 H0 E0) M (env3 sc bx s2 s3 s4 s5 s6 s7 s8 s9 s10 s11 (.dat (askD a m wd r)) s13 s14 s15 s16 s17 s18 s19 s21 s22) oneB R := by
  have nd := scLaw.nd
  have hr : LR f k cdv A' s0 := Room.mono hr1 (Nat.le_succ k)
  obtain ⟨q1, q2⟩ := qI_ok A.ha A.h4
  obtain ⟨q3, q4⟩ := q2 A.h1
  have Q := qf q3
  obtain ⟨w1, w2, w3⟩ := w_dec wd A.hw
  obtain ⟨a1, a2⟩ := a_dec2 a A.ha
  obtain ⟨r1, r2, r3, r4, r5⟩ := A.hr
  have w1' : small 20 wd := w1
  have sq : small 20 (((qI a m).1.natAbs : Int), (qI a m).2) := ⟨by show ((qI a m).1.natAbs : Int).natAbs < 2 ^ 20; rw [Int.natAbs_natCast]; exact q1.1, q1.2.1, q1.2.2⟩
  have ss : small 40 (low (((qI a m).1.natAbs : Int) * wd.1) ((qI a m).2 * wd.2)) := small_low (small_mul sq w1')
  have rr : small 40 r := ⟨by omega, r2, by omega⟩
  refine s_asgT (x_var 12) (g_tup rfl (g_cons (g_name 4 nd) (g_cons (g_name 5 nd) (g_cons (g_name 6 nd) (g_cons (g_name 7 nd) (g_cons (g_name 9 nd) g_nil))))) rfl) ?_
  refine s_set 13 (x_call D.dDiv hr (a_cons (x_call D.dMul hr (a_cons (x_call D.dSize hr (a_cons (x_var 6) a_nil) ⟨qI a m, rfl, rfl⟩ (fun d' h => h)) (a_cons (x_var 7) a_nil)) ⟨_, wd, rfl, small_mono sq (by decide), small_mono w1' (by decide), rfl⟩ (fun d' h => h)) (a_cons (x_var 9) a_nil)) ⟨_, r, rfl, ss, rr, r1, rfl⟩ (fun d' h => h)) ?_
  have Fi := fin4 A rfl
  generalize low ((low (((qI a m).1.natAbs : Int) * wd.1) ((qI a m).2 * wd.2)).1 * r.2) ((low (((qI a m).1.natAbs : Int) * wd.1) ((qI a m).2 * wd.2)).2 * r.1) = h at Fi ⊢
  refine s_setE 14 (e_if (q_cmp op_eq (nomark _) (e_draw D hr hb rfl (by decide) (by decide) x_int (fun bx1 n hb1 hn1 => e_v x_int ⟨_, od_eq rfl rfl rfl, fun _ => e_v (d := powD C (qI a m)) ?_ ?_, fun _ => e_v (d := powD C (qI a m)) ?_ ?_⟩))))
  · refine x_meth D.dPow hr (x_make (fs := [(("rows" : Str), rowsD a)]) D.mM hr1 (a_cons (x_lst (a_cons (x_lst (a_cons (x_var 4) a_nil) (by show 1 ≤ sizeLine; decide)) a_nil) (by show 1 ≤ sizeLine; decide)) a_nil) ⟨_, .inr ⟨a, rfl, a1.2.1, Nat.lt_of_lt_of_le a1.2.2 (Nat.pow_le_pow_right (by decide) (by decide)), rfl⟩, rfl⟩ (fun fs' h => ?_)) rfl (a_cons (x_var 5) a_nil) ⟨a, qI a m, m, rfl, small_mono (⟨a1.1, a1.2.1, a1.2.2⟩ : small 20 a) (by decide), A.h1, A.h4, q4, Q.low, rfl⟩ (fun d' h => h)
    obtain ⟨d, hd, e⟩ := h
    rw [e, hd, a2]
  · exact one_tail D hr hM hb1 A Fi hn
  · refine x_make (fs := [(("rows" : Str), rowsD (qI a m))]) D.mM hr1 (a_cons (x_call D.dWord hr (a_cons (x_var 6) a_nil) ⟨_, q3, rfl, rfl⟩ (fun d' h => h)) a_nil) ⟨_, .inl ⟨_, q3, rfl, rfl⟩, rfl⟩ (fun fs' h => ?_)
    obtain ⟨d, hd, e⟩ := h
    rw [e, hd]
  · exact one_tail D hr hM hb1 A Fi hn
end
end K48

namespace K48
open PySem L2 Y
section
variable {P : Program} {w : World} {K : PySem.W.Frag} {mg : Str → Option Value} {base : Heap} {f : Addr} {fd : FuncData} {k : Nat} {C CT : Addr} {cdv : Value} {A' : Around} {outer : List Env} {s0 : Shared} {H0 : Hp} {E0 : XK} {M : Wd} {R : Rs} {env : En} {bx xs : List D} {e2 : Expr} {p pn pos : Pos}
theorem law_tail (D : Dp P w K mg base k C CT) (hr1 : LR f (k + 1) cdv A' s0) (hM : ∀ a, ¬ M.m a) {sc : Y.D} {s3 s4 s5 s6 s7 s8 s9 s10 s11 : Y.Slot} (hb : BoxOk bx) (hx : ∀ x ∈ xs, AskOk x) (hl : xs.length < 100) (hn : R.rt (.bl true) = fun _ => True) :
    XS (LX P w K mg base f cdv A' outer s0 H0 E0) M (env3 sc bx (.own xs) s3 s4 s5 s6 s7 s8 s9 s10 s11 .un .un .un .un .un .un .un .un .un .un) (lawB.drop 6) R := by
  have nd := scLaw.nd
  have hr : LR f k cdv A' s0 := Room.mono hr1 (Nat.le_succ k)
  refine s_freeze 2 rfl ?_
  refine s_forE PassesOwn.never rfl (e_mixed D hr hb rfl (ys := xs) (by omega) (x_var 2) (fun bx' zs hb' hz => ?_))
  refine ⟨zs, fun i e => Ef sc e, rfl, ⟨_, _, _, _, _, _, _, _, _, _, _, _, _, _, _, _, _, _, _, _, _, hb', rfl⟩, ?_, ?_⟩
  · intro i d env1' hd he
    obtain ⟨bx2, t2, t3, t4, t5, t6, t7, t8, t9, t10, t11, t12, t13, t14, t15, t16, t17, t18, t19, t21, t22, hb2, he1⟩ := he
    subst he1
    obtain ⟨a, m, wd, r, rfl, A⟩ := hx d (hz.subset (List.mem_of_getElem? hd))
    exact ⟨_, _, g_name 12 nd, one_body D hr1 hM hb2 A (fun e he => he)⟩
  · intro env1' he
    exact s_ret x_bl (by rw [hn]; trivial)
theorem ok_law' (D : Dp P w K mg base k C CT) (F : Fun K "law" "law" sLaw f fd) : FnOk P w K mg base CX0 (k + 1 + 1) f fd ["script"] (spD K aLaw) := by
  refine fnD F scLaw (fun ds R h => ?_) (by decide) (fun cdv A' outer s0 H0 E0 hr1 ds R h => ?_)
  · obtain ⟨q, rfl, _⟩ := h; rfl
  · obtain ⟨ns, rfl, hl, rfl⟩ := h
    have nd := scLaw.nd
    have h_range := D.T.range
    have hr : LR f k cdv A' s0 := Room.mono hr1 (Nat.le_succ k)
    refine s_callO 1 D.dOpen hr (a_cons (x_var 0) a_nil) ⟨ns, rfl, hl, rfl⟩ (Nat.le_of_ble_eq_true rfl) (fun bx hb => ?_)
    refine s_setO 2 (x_lst a_nil (by decide)) a_nil (by decide) (Nat.le_of_ble_eq_true rfl) ?_
    refine s_for (fun i e => ∃ (bx xs : List Y.D) (s3 s4 s5 s6 s7 s8 s9 : Y.Slot), BoxOk bx ∧ xs.length = i ∧ (∀ x ∈ xs, AskOk x) ∧ e = env1 (.lst (ns.map .int)) bx xs s3 s4 s5 s6 s7 s8 s9) PassesOwn.never rfl (i_range1 x_int (by decide)) ⟨bx, [], _, _, _, _, _, _, _, hb, rfl, (fun x hx => absurd hx List.not_mem_nil), rfl⟩ ?_ ?_
    · intro i d env1' hd ⟨bx1, xs, s3, s4, s5, s6, s7, s8, s9, hb1, hlen, hx, he1⟩
      subst he1
      have hi : i < 4 := by
        have := (List.getElem?_eq_some_iff.mp hd).1
        simpa using this
      refine ⟨_, _, g_name 3 nd, ask_turn D hr (by omega) hb1 (fun bx' a m wd r s8 hb' A => ⟨bx', _, _, _, _, _, _, _, _, hb', ?_, ?_, rfl⟩)⟩
      · rw [List.length_append, hlen]; rfl
      · intro x hx'
        rcases List.mem_append.mp hx' with h | h
        · exact hx x h
        · rw [List.mem_singleton.mp h]
          exact ⟨a, m, wd, r, rfl, A⟩
    · intro env1' ⟨bx1, xs, s3, s4, s5, s6, s7, s8, s9, hb1, hlen, hx, he1⟩
      subst he1
      have hlen4 : xs.length = 4 := hlen
      refine s_setE 10 (e_pick D hr hb1 rfl (ys := ([3999, 4000, 4001] : List Int).map .int) (by decide) (by decide) ((x_lst (a_cons x_int (a_cons x_int (a_cons x_int a_nil))) (by show 3 ≤ sizeLine; decide)).to rfl) (fun bx2 d hb2 hd => ?_))
      obtain ⟨ed, hed, rfl⟩ := List.mem_map.mp hd
      have hed' : 3999 ≤ ed ∧ ed ≤ 4001 := by
        simp only [List.mem_cons, List.not_mem_nil, or_false] at hed
        omega
      refine s_setE 11 (e_call (R := fun _ => True) D.dLow hr (ae_cons (e_bin op_add (e_v (x_mulS (x_var 10) x_int (.inr (by decide))) (e_pick D hr hb2 rfl (ys := ([0, 0, 1, -1] : List Int).map .int) (by decide) (by decide) ((x_lst (a_cons x_int (a_cons x_int (a_cons x_int (a_cons (x_neg x_int) a_nil)))) (by show 4 ≤ sizeLine; decide)).to rfl) (fun bx3 d3 hb3 hd3 => ?_))))))
      obtain ⟨t, ht, rfl⟩ := List.mem_map.mp hd3
      have ht' : -1 ≤ t ∧ t ≤ 1 := by
        simp only [List.mem_cons, List.not_mem_nil, or_false] at ht
        omega
      refine ⟨.int (ed * 7 + t), od_I0 (fun _ => rfl), ae_a (a_cons x_int a_nil) ⟨_, ⟨ed * 7 + t, 7, rfl, by decide, by decide, rfl⟩, fun d hd => ?_⟩⟩
      subst hd
      have lp := low_pos (a := ed * 7 + t) (b := 7) (by omega) (by decide)
      have lb : RtG (low (ed * 7 + t) 7) := by
        obtain ⟨g, g0, e1, e2⟩ := low_dvd (ed * 7 + t) 7 (by decide)
        refine ⟨lp.1, lp.2.1, by omega, by omega, ?_⟩
        generalize (low (ed * 7 + t) 7).1 = x at e1 ⊢
        generalize (low (ed * 7 + t) 7).2 = y at e2 ⊢
        have h1 : x * g ≤ (4002 * y) * g := by
          rw [e1, Int.mul_assoc, e2]
          omega
        exact Int.le_of_mul_le_mul_right h1 g0
      generalize low (ed * 7 + t) 7 = bs at lb ⊢
      refine s_ifE (q_cmp op_eq (nomark _) (e_draw D hr hb3 rfl (by decide) (by decide) x_int (fun bx4 n hb4 hn4 => e_v x_int ⟨_, od_eq rfl rfl rfl, fun _ => ?_, fun _ => s_nil ?_⟩)))
      · obtain ⟨x0, hx0⟩ : ∃ x0, xs[0]? = some x0 := ⟨xs[0], List.getElem?_eq_getElem (by omega)⟩
        obtain ⟨a, m, wd, r, rfl, A⟩ := hx x0 (List.mem_of_getElem? hx0)
        have h0 : atI xs 0 = some (askD a m wd r) := atI_nat (j := 0) hx0
        refine s_app 2 (d := askD a m wd bs) (x_tup (a_cons (x_ixT (x_ixM 2 (ds := xs) (.inl rfl) x_int h0) x_int rfl) (a_cons (x_ixT (x_ixM 2 (ds := xs) (.inl rfl) x_int h0) x_int rfl) (a_cons (x_ixT (x_ixM 2 (ds := xs) (.inl rfl) x_int h0) x_int rfl) (a_cons (x_ixT (x_ixM 2 (ds := xs) (.inl rfl) x_int h0) x_int rfl) (a_cons (x_var 11) a_nil))))) (by show 5 ≤ sizeLine; decide)) rfl (Nat.lt_of_lt_of_le (by omega : xs.length < 100) (by decide)) (s_nil ?_)
        refine law_tail D hr1 (fun a h => h) hb4 (fun x hx' => ?_) (by rw [List.length_append, hlen4]; show 4 + 1 < 100; decide) ?_
        · rcases List.mem_append.mp hx' with h | h
          · exact hx x h
          · rw [List.mem_singleton.mp h]
            exact ⟨a, m, wd, bs, rfl, ⟨A.ha, A.h1, A.h4, A.hw, lb⟩⟩
        · funext _; simp
      · refine law_tail D hr1 (fun a h => h) hb4 hx (by omega) ?_
        funext _; simp
theorem ok_law (F : Fun K "law" "law" sLaw f fd) (T : Bt mg) (cl : Cls K C) (na : NoAttr K C "rows") (dOpen : Dn P w K mg base k "_law_open" (spO K aOpen)) (dDraw : Dn P w K mg base k "_law_draw" (spB K aDraw)) (dPick : Dn P w K mg base k "_law_pick" (spB K aPick)) (dMixed : Dn P w K mg base k "_law_mixed" (spB K aMixed))
    (dLow : Dn P w K mg base k "_law_low" (spD K aLow)) (dMul : Dn P w K mg base k "_law_mul" (spD K aMul)) (dDiv : Dn P w K mg base k "_law_div" (spD K aDiv)) (dSize : Dn P w K mg base k "_law_size" (spD K aSize)) (dWord : Dn P w K mg base k "_law_word" (spD K aWord)) (dWhole : Dn P w K mg base k "_law_whole" (spD K aLWhole)) (dLine : Dn P w K mg base k "_law_line" (spD K aLine))
    (dCount : Dn P w K mg base k "hull_count" (spD K (aCount C))) (dCells : Dx P w K mg base k "cells_met" (spX K (aCells C CT))) (dPow : Dm P w K mg base k "power" C (spD K (aPower C))) (mM : Mki P w K mg base k "Matrix" C aInit) (ox : OexC K CT) (xf : XfC K CT) (xm : PySem.W.exmOne K (.ref CT) (.ref CT) = some true) (hT : mg "TooMany" = some (.ref CT))
    (xn1 : PySem.W.findIn K (.ref CT) "what" = some none) (xn2 : PySem.W.findIn K (.ref CT) "count" = some none) : FnOk P w K mg base CX0 (k + 1 + 1) f fd ["script"] (spD K aLaw) :=
  ok_law' ⟨T, cl, na, dOpen, dDraw, dPick, dMixed, dLow, dMul, dDiv, dSize, dWord, dWhole, dLine, dCount, dCells, dPow, mM, ox, xf, xm, hT, xn1, xn2⟩ F
end
end K48

namespace K48
open PySem L2 Y
section
variable {P : Program} {w : World} {K : PySem.W.Frag} {mg : Str → Option Value} {base : Heap} {f : Addr} {fd : FuncData} {k : Nat}
abbrev sTm : Stmt := inClass (topS 5) 0
theorem scTm : FnScope ["self", "what", "count"] ["self", "what", "count"] (defScope sTm) := ⟨rfl, rfl, rfl, by decide +kernel, rfl, by decide +kernel, by decide +kernel⟩
theorem ok_tm {CT : Addr} (F : Fun K "__init__" "TooMany.__init__" sTm f fd) (T : OexC K CT) (n1 : PySem.W.findIn K (.ref CT) "what" = some none) (n2 : PySem.W.findIn K (.ref CT) "count" = some none) : FnOk P w K mg base CX0 (k + 1) f fd ["self", "what", "count"] (spI2 CT "what" "count") :=
  fnI2 F scTm rfl T n1 n2 rfl rfl ⟨by decide, by decide⟩ ⟨by decide, by decide⟩ ⟨by decide, by decide⟩ (fun cdv A' outer s H E => ⟨Or.inl rfl, Or.inl rfl, Or.inl rfl, rfl, rfl⟩)
theorem exm_self {K : PySem.W.Frag} {S : Addr} (h1 : PySem.W.subIn K (.ref S) (.type "BaseException") = some true) (h2 : PySem.W.isClsIn K S = true) (h3 : PySem.W.typeIn K (.ref S) = some (.type "type")) (h4 : PySem.W.subIn K (.ref S) (.ref S) = some true) :
    PySem.W.exmOne K (.ref S) (.ref S) = some true := by
  have e1 : (PySem.W.subIn K (.ref S) (.type "BaseException") == some true) = true := by rw [h1] <;> rfl
  have e2 : ((PySem.W.clsIn K S).isSome && PySem.W.typeIn K (.ref S) == some (.type "type")) = true := by
    have h2' : (PySem.W.clsIn K S).isSome = true := h2
    rw [h2', h3] <;> rfl
  show (if (PySem.W.subIn K (.ref S) (.type "BaseException") == some true) = true then (if ((PySem.W.clsIn K S).isSome && PySem.W.typeIn K (.ref S) == some (.type "type")) = true then PySem.W.subIn K (.ref S) (.ref S) else none) else none) = some true
  rw [if_pos e1, if_pos e2]
  exact h4
end
end K48

namespace K48
open PySem L2 Y
open Evl (Ex)
theorem all_mk {l : PySem.W.OpenLaw} {w : World} {K : PySem.W.Frag} {h : Heap} {mg : Str → Option Value} {fa C CT f0 f1 f2 f3 f4 f5 f6 f7 f8 f9 f10 f11 f12 f13 f14 f15 f16 f17 f18 f19 f20 f21 f22 f23 f24 f25 f26 f27 f28 f29 f30 f31 f32 f33 f34 f35 f36 f37 f38 f39 f40 f41 f42 f43 f44 f45 f46 : Addr} (X : K.In h) (G : h.Ns mainGlobals mg) (hfa : mg "law" = some (.ref fa))
    {nm q : Str} {N : Addr} {bs : List Value} {sn : List Str} {sub : List Value} {ab : Bool} {col : Option Bool} {dd : Option Addr} {m0 m1 m2 m3 m5 : Option Value} {tk1 tk2 tk3 : Tok}
    {od0 an0 od1 an1 od2 an2 od3 an3 od4 an4 od5 an5 od6 an6 od7 an7 od8 an8 od9 an9 od10 an10 od11 an11 od12 an12 od13 an13 od14 an14 od15 an15 od16 an16 od17 an17 od18 an18 od19 an19 od20 an20 od21 an21 od22 an22 od23 an23 od24 an24 od25 an25 od26 an26 od27 an27 od28 an28 od29 an29 od30 an30 od31 an31 od32 an32 od33 an33 od34 an34 od35 an35 od36 an36 od37 an37 od38 an38 od39 an39 od40 an40 od41 an41 od42 an42 od43 an43 od44 an44 od45 an45 od46 an46 : Option Addr} {sl0 sl1 sl2 sl3 sl4 sl5 sl6 sl7 sl8 sl9 sl10 sl11 sl12 sl13 sl14 sl15 sl16 sl17 sl18 sl19 sl20 sl21 sl22 sl23 sl24 sl25 sl26 sl27 sl28 sl29 sl30 sl31 sl32 sl33 sl34 sl35 sl36 sl37 sl38 sl39 sl40 sl41 sl42 sl43 sl44 sl45 sl46 : Array (Option Value)} {oc0 kV0 dc0 pm0 cd0 ct0 oc1 kV1 dc1 pm1 cd1 ct1 oc2 kV2 dc2 pm2 cd2 ct2 oc3 kV3 dc3 pm3 cd3 ct3 oc4 kV4 dc4 pm4 cd4 ct4 oc5 kV5 dc5 pm5 cd5 ct5 oc6 kV6 dc6 pm6 cd6 ct6 oc7 kV7 dc7 pm7 cd7 ct7 oc8 kV8 dc8 pm8 cd8 ct8 oc9 kV9 dc9 pm9 cd9 ct9 oc10 kV10 dc10 pm10 cd10 ct10 oc11 kV11 dc11 pm11 cd11 ct11 oc12 kV12 dc12 pm12 cd12 ct12 oc13 kV13 dc13 pm13 cd13 ct13 oc14 kV14 dc14 pm14 cd14 ct14 oc15 kV15 dc15 pm15 cd15 ct15 oc16 kV16 dc16 pm16 cd16 ct16 oc17 kV17 dc17 pm17 cd17 ct17 oc18 kV18 dc18 pm18 cd18 ct18 oc19 kV19 dc19 pm19 cd19 ct19 oc20 kV20 dc20 pm20 cd20 ct20 oc21 kV21 dc21 pm21 cd21 ct21 oc22 kV22 dc22 pm22 cd22 ct22 oc23 kV23 dc23 pm23 cd23 ct23 oc24 kV24 dc24 pm24 cd24 ct24 oc25 kV25 dc25 pm25 cd25 ct25 oc26 kV26 dc26 pm26 cd26 ct26 oc27 kV27 dc27 pm27 cd27 ct27 oc28 kV28 dc28 pm28 cd28 ct28 oc29 kV29 dc29 pm29 cd29 ct29 oc30 kV30 dc30 pm30 cd30 ct30 oc31 kV31 dc31 pm31 cd31 ct31 oc32 kV32 dc32 pm32 cd32 ct32 oc33 kV33 dc33 pm33 cd33 ct33 oc34 kV34 dc34 pm34 cd34 ct34 oc35 kV35 dc35 pm35 cd35 ct35 oc36 kV36 dc36 pm36 cd36 ct36 oc37 kV37 dc37 pm37 cd37 ct37 oc38 kV38 dc38 pm38 cd38 ct38 oc39 kV39 dc39 pm39 cd39 ct39 oc40 kV40 dc40 pm40 cd40 ct40 oc41 kV41 dc41 pm41 cd41 ct41 oc42 kV42 dc42 pm42 cd42 ct42 oc43 kV43 dc43 pm43 cd43 ct43 oc44 kV44 dc44 pm44 cd44 ct44 oc45 kV45 dc45 pm45 cd45 ct45 oc46 kV46 dc46 pm46 cd46 ct46 : Value}
    (aC : PySem.W.nsIn K mainGlobals "Matrix" = some (some (.ref C)))
    (aT : PySem.W.nsIn K mainGlobals "TooMany" = some (some (.ref CT)))
    (a0 : PySem.W.nsIn K mainGlobals "check_length" = some (some (.ref f0)))
    (l0 : K.lookup f0 = some ⟨oc0, od0, .func (PySem.W.fnOf "check_length" "check_length" (defArgs sCheckLength) (defBody sCheckLength) (defScope sCheckLength) .none kV0 dc0 pm0 an0 cd0 ct0), sl0⟩)
    (c0 : PySem.W.codeIn K cd0 "check_length" = true)
    (k0 : PySem.W.keepIn K (.ref f0) = true)
    (a1 : PySem.W.nsIn K mainGlobals "is_fraction" = some (some (.ref f1)))
    (l1 : K.lookup f1 = some ⟨oc1, od1, .func (PySem.W.fnOf "is_fraction" "is_fraction" (defArgs sIsFraction) (defBody sIsFraction) (defScope sIsFraction) .none kV1 dc1 pm1 an1 cd1 ct1), sl1⟩)
    (c1 : PySem.W.codeIn K cd1 "is_fraction" = true)
    (k1 : PySem.W.keepIn K (.ref f1) = true)
    (a2 : PySem.W.nsIn K mainGlobals "is_long" = some (some (.ref f2)))
    (l2 : K.lookup f2 = some ⟨oc2, od2, .func (PySem.W.fnOf "is_long" "is_long" (defArgs sIsLong) (defBody sIsLong) (defScope sIsLong) .none kV2 dc2 pm2 an2 cd2 ct2), sl2⟩)
    (c2 : PySem.W.codeIn K cd2 "is_long" = true)
    (k2 : PySem.W.keepIn K (.ref f2) = true)
    (a3 : PySem.W.nsIn K mainGlobals "check_figures" = some (some (.ref f3)))
    (l3 : K.lookup f3 = some ⟨oc3, od3, .func (PySem.W.fnOf "check_figures" "check_figures" (defArgs sCheckFigures) (defBody sCheckFigures) (defScope sCheckFigures) .none kV3 dc3 pm3 an3 cd3 ct3), sl3⟩)
    (c3 : PySem.W.codeIn K cd3 "check_figures" = true)
    (k3 : PySem.W.keepIn K (.ref f3) = true)
    (a4 : PySem.W.nsIn K mainGlobals "is_integer" = some (some (.ref f4)))
    (l4 : K.lookup f4 = some ⟨oc4, od4, .func (PySem.W.fnOf "is_integer" "is_integer" (defArgs sIsInteger) (defBody sIsInteger) (defScope sIsInteger) .none kV4 dc4 pm4 an4 cd4 ct4), sl4⟩)
    (c4 : PySem.W.codeIn K cd4 "is_integer" = true)
    (k4 : PySem.W.keepIn K (.ref f4) = true)
    (a5 : PySem.W.nsIn K mainGlobals "is_pair" = some (some (.ref f5)))
    (l5 : K.lookup f5 = some ⟨oc5, od5, .func (PySem.W.fnOf "is_pair" "is_pair" (defArgs sIsPair) (defBody sIsPair) (defScope sIsPair) .none kV5 dc5 pm5 an5 cd5 ct5), sl5⟩)
    (c5 : PySem.W.codeIn K cd5 "is_pair" = true)
    (k5 : PySem.W.keepIn K (.ref f5) = true)
    (a6 : PySem.W.nsIn K mainGlobals "lowest" = some (some (.ref f6)))
    (l6 : K.lookup f6 = some ⟨oc6, od6, .func (PySem.W.fnOf "lowest" "lowest" (defArgs sLowest) (defBody sLowest) (defScope sLowest) .none kV6 dc6 pm6 an6 cd6 ct6), sl6⟩)
    (c6 : PySem.W.codeIn K cd6 "lowest" = true)
    (k6 : PySem.W.keepIn K (.ref f6) = true)
    (a7 : PySem.W.nsIn K mainGlobals "pair_of" = some (some (.ref f7)))
    (l7 : K.lookup f7 = some ⟨oc7, od7, .func (PySem.W.fnOf "pair_of" "pair_of" (defArgs sPairOf) (defBody sPairOf) (defScope sPairOf) .none kV7 dc7 pm7 an7 cd7 ct7), sl7⟩)
    (c7 : PySem.W.codeIn K cd7 "pair_of" = true)
    (k7 : PySem.W.keepIn K (.ref f7) = true)
    (a8 : PySem.W.nsIn K mainGlobals "written_fraction" = some (some (.ref f8)))
    (l8 : K.lookup f8 = some ⟨oc8, od8, .func (PySem.W.fnOf "written_fraction" "written_fraction" (defArgs sWritten) (defBody sWritten) (defScope sWritten) .none kV8 dc8 pm8 an8 cd8 ct8), sl8⟩)
    (c8 : PySem.W.codeIn K cd8 "written_fraction" = true)
    (k8 : PySem.W.keepIn K (.ref f8) = true)
    (a9 : PySem.W.nsIn K mainGlobals "read_fraction" = some (some (.ref f9)))
    (l9 : K.lookup f9 = some ⟨oc9, od9, .func (PySem.W.fnOf "read_fraction" "read_fraction" (defArgs sRead) (defBody sRead) (defScope sRead) .none kV9 dc9 pm9 an9 cd9 ct9), sl9⟩)
    (c9 : PySem.W.codeIn K cd9 "read_fraction" = true)
    (k9 : PySem.W.keepIn K (.ref f9) = true)
    (a10 : PySem.W.nsIn K mainGlobals "times" = some (some (.ref f10)))
    (l10 : K.lookup f10 = some ⟨oc10, od10, .func (PySem.W.fnOf "times" "times" (defArgs sTimes) (defBody sTimes) (defScope sTimes) .none kV10 dc10 pm10 an10 cd10 ct10), sl10⟩)
    (c10 : PySem.W.codeIn K cd10 "times" = true)
    (k10 : PySem.W.keepIn K (.ref f10) = true)
    (a11 : PySem.W.nsIn K mainGlobals "fractions_of" = some (some (.ref f11)))
    (l11 : K.lookup f11 = some ⟨oc11, od11, .func (PySem.W.fnOf "fractions_of" "fractions_of" (defArgs sFractionsOf) (defBody sFractionsOf) (defScope sFractionsOf) .none kV11 dc11 pm11 an11 cd11 ct11), sl11⟩)
    (c11 : PySem.W.codeIn K cd11 "fractions_of" = true)
    (k11 : PySem.W.keepIn K (.ref f11) = true)
    (a12 : PySem.W.nsIn K mainGlobals "whole_frame" = some (some (.ref f12)))
    (l12 : K.lookup f12 = some ⟨oc12, od12, .func (PySem.W.fnOf "whole_frame" "whole_frame" (defArgs sWhole) (defBody sWhole) (defScope sWhole) .none kV12 dc12 pm12 an12 cd12 ct12), sl12⟩)
    (c12 : PySem.W.codeIn K cd12 "whole_frame" = true)
    (k12 : PySem.W.keepIn K (.ref f12) = true)
    (a13 : PySem.W.nsIn K mainGlobals "hull_ranges" = some (some (.ref f13)))
    (l13 : K.lookup f13 = some ⟨oc13, od13, .func (PySem.W.fnOf "hull_ranges" "hull_ranges" (defArgs sHullRanges) (defBody sHullRanges) (defScope sHullRanges) .none kV13 dc13 pm13 an13 cd13 ct13), sl13⟩)
    (c13 : PySem.W.codeIn K cd13 "hull_ranges" = true)
    (k13 : PySem.W.keepIn K (.ref f13) = true)
    (a14 : PySem.W.nsIn K mainGlobals "hull_size" = some (some (.ref f14)))
    (l14 : K.lookup f14 = some ⟨oc14, od14, .func (PySem.W.fnOf "hull_size" "hull_size" (defArgs sHullSize) (defBody sHullSize) (defScope sHullSize) .none kV14 dc14 pm14 an14 cd14 ct14), sl14⟩)
    (c14 : PySem.W.codeIn K cd14 "hull_size" = true)
    (k14 : PySem.W.keepIn K (.ref f14) = true)
    (a15 : PySem.W.nsIn K mainGlobals "slant_axes" = some (some (.ref f15)))
    (l15 : K.lookup f15 = some ⟨oc15, od15, .func (PySem.W.fnOf "slant_axes" "slant_axes" (defArgs sSlant) (defBody sSlant) (defScope sSlant) .none kV15 dc15 pm15 an15 cd15 ct15), sl15⟩)
    (c15 : PySem.W.codeIn K cd15 "slant_axes" = true)
    (k15 : PySem.W.keepIn K (.ref f15) = true)
    (a16 : PySem.W.nsIn K mainGlobals "axis_bounds" = some (some (.ref f16)))
    (l16 : K.lookup f16 = some ⟨oc16, od16, .func (PySem.W.fnOf "axis_bounds" "axis_bounds" (defArgs sAxisB) (defBody sAxisB) (defScope sAxisB) .none kV16 dc16 pm16 an16 cd16 ct16), sl16⟩)
    (c16 : PySem.W.codeIn K cd16 "axis_bounds" = true)
    (k16 : PySem.W.keepIn K (.ref f16) = true)
    (a17 : PySem.W.nsIn K mainGlobals "outer_rows" = some (some (.ref f17)))
    (l17 : K.lookup f17 = some ⟨oc17, od17, .func (PySem.W.fnOf "outer_rows" "outer_rows" (defArgs sOuter) (defBody sOuter) (defScope sOuter) .none kV17 dc17 pm17 an17 cd17 ct17), sl17⟩)
    (c17 : PySem.W.codeIn K cd17 "outer_rows" = true)
    (k17 : PySem.W.keepIn K (.ref f17) = true)
    (a18 : PySem.W.nsIn K mainGlobals "met_runs" = some (some (.ref f18)))
    (l18 : K.lookup f18 = some ⟨oc18, od18, .func (PySem.W.fnOf "met_runs" "met_runs" (defArgs sMetRuns) (defBody sMetRuns) (defScope sMetRuns) .none kV18 dc18 pm18 an18 cd18 ct18), sl18⟩)
    (c18 : PySem.W.codeIn K cd18 "met_runs" = true)
    (k18 : PySem.W.keepIn K (.ref f18) = true)
    (a19 : PySem.W.nsIn K mainGlobals "met_rows" = some (some (.ref f19)))
    (l19 : K.lookup f19 = some ⟨oc19, od19, .func (PySem.W.fnOf "met_rows" "met_rows" (defArgs sMetRows) (defBody sMetRows) (defScope sMetRows) .none kV19 dc19 pm19 an19 cd19 ct19), sl19⟩)
    (c19 : PySem.W.codeIn K cd19 "met_rows" = true)
    (k19 : PySem.W.keepIn K (.ref f19) = true)
    (a20 : PySem.W.nsIn K mainGlobals "cells_met" = some (some (.ref f20)))
    (l20 : K.lookup f20 = some ⟨oc20, od20, .func (PySem.W.fnOf "cells_met" "cells_met" (defArgs sCells) (defBody sCells) (defScope sCells) .none kV20 dc20 pm20 an20 cd20 ct20), sl20⟩)
    (c20 : PySem.W.codeIn K cd20 "cells_met" = true)
    (k20 : PySem.W.keepIn K (.ref f20) = true)
    (a21 : PySem.W.nsIn K mainGlobals "hull_count" = some (some (.ref f21)))
    (l21 : K.lookup f21 = some ⟨oc21, od21, .func (PySem.W.fnOf "hull_count" "hull_count" (defArgs sCount) (defBody sCount) (defScope sCount) .none kV21 dc21 pm21 an21 cd21 ct21), sl21⟩)
    (c21 : PySem.W.codeIn K cd21 "hull_count" = true)
    (k21 : PySem.W.keepIn K (.ref f21) = true)
    (a22 : PySem.W.nsIn K mainGlobals "split_rows" = some (some (.ref f22)))
    (l22 : K.lookup f22 = some ⟨oc22, od22, .func (PySem.W.fnOf "split_rows" "split_rows" (defArgs sSplit) (defBody sSplit) (defScope sSplit) .none kV22 dc22 pm22 an22 cd22 ct22), sl22⟩)
    (c22 : PySem.W.codeIn K cd22 "split_rows" = true)
    (k22 : PySem.W.keepIn K (.ref f22) = true)
    (a23 : PySem.W.nsIn K mainGlobals "_check_shape" = some (some (.ref f23)))
    (l23 : K.lookup f23 = some ⟨oc23, od23, .func (PySem.W.fnOf "_check_shape" "_check_shape" (defArgs sShape) (defBody sShape) (defScope sShape) .none kV23 dc23 pm23 an23 cd23 ct23), sl23⟩)
    (c23 : PySem.W.codeIn K cd23 "_check_shape" = true)
    (k23 : PySem.W.keepIn K (.ref f23) = true)
    (a24 : PySem.W.nsIn K mainGlobals "_read_item" = some (some (.ref f24)))
    (l24 : K.lookup f24 = some ⟨oc24, od24, .func (PySem.W.fnOf "_read_item" "_read_item" (defArgs sItem) (defBody sItem) (defScope sItem) .none kV24 dc24 pm24 an24 cd24 ct24), sl24⟩)
    (c24 : PySem.W.codeIn K cd24 "_read_item" = true)
    (k24 : PySem.W.keepIn K (.ref f24) = true)
    (a25 : PySem.W.nsIn K mainGlobals "_read_rows" = some (some (.ref f25)))
    (l25 : K.lookup f25 = some ⟨oc25, od25, .func (PySem.W.fnOf "_read_rows" "_read_rows" (defArgs sRows) (defBody sRows) (defScope sRows) .none kV25 dc25 pm25 an25 cd25 ct25), sl25⟩)
    (c25 : PySem.W.codeIn K cd25 "_read_rows" = true)
    (k25 : PySem.W.keepIn K (.ref f25) = true)
    (a26 : PySem.W.nsIn K mainGlobals "whole_rows" = some (some (.ref f26)))
    (l26 : K.lookup f26 = some ⟨oc26, od26, .func (PySem.W.fnOf "whole_rows" "whole_rows" (defArgs sWr) (defBody sWr) (defScope sWr) .none kV26 dc26 pm26 an26 cd26 ct26), sl26⟩)
    (c26 : PySem.W.codeIn K cd26 "whole_rows" = true)
    (k26 : PySem.W.keepIn K (.ref f26) = true)
    (a27 : PySem.W.nsIn K mainGlobals "dot" = some (some (.ref f27)))
    (l27 : K.lookup f27 = some ⟨oc27, od27, .func (PySem.W.fnOf "dot" "dot" (defArgs sDot) (defBody sDot) (defScope sDot) .none kV27 dc27 pm27 an27 cd27 ct27), sl27⟩)
    (c27 : PySem.W.codeIn K cd27 "dot" = true)
    (k27 : PySem.W.keepIn K (.ref f27) = true)
    (a28 : PySem.W.nsIn K mainGlobals "whole_product" = some (some (.ref f28)))
    (l28 : K.lookup f28 = some ⟨oc28, od28, .func (PySem.W.fnOf "whole_product" "whole_product" (defArgs sProd) (defBody sProd) (defScope sProd) .none kV28 dc28 pm28 an28 cd28 ct28), sl28⟩)
    (c28 : PySem.W.codeIn K cd28 "whole_product" = true)
    (k28 : PySem.W.keepIn K (.ref f28) = true)
    (a29 : PySem.W.nsIn K mainGlobals "fractions_over" = some (some (.ref f29)))
    (l29 : K.lookup f29 = some ⟨oc29, od29, .func (PySem.W.fnOf "fractions_over" "fractions_over" (defArgs sOver) (defBody sOver) (defScope sOver) .none kV29 dc29 pm29 an29 cd29 ct29), sl29⟩)
    (c29 : PySem.W.codeIn K cd29 "fractions_over" = true)
    (k29 : PySem.W.keepIn K (.ref f29) = true)
    (a30 : PySem.W.findIn K (.ref C) "__init__" = some (some (.ref f30)))
    (l30 : K.lookup f30 = some ⟨oc30, od30, .func (PySem.W.fnOf "__init__" "Matrix.__init__" (defArgs sInit) (defBody sInit) (defScope sInit) .none kV30 dc30 pm30 an30 cd30 ct30), sl30⟩)
    (c30 : PySem.W.codeIn K cd30 "Matrix.__init__" = true)
    (k30 : PySem.W.keepIn K (.ref f30) = true)
    (i30 : PySem.W.isFn K (.ref f30) = true)
    (a31 : PySem.W.findIn K (.ref C) "check_square" = some (some (.ref f31)))
    (l31 : K.lookup f31 = some ⟨oc31, od31, .func (PySem.W.fnOf "check_square" "Matrix.check_square" (defArgs sSquare) (defBody sSquare) (defScope sSquare) .none kV31 dc31 pm31 an31 cd31 ct31), sl31⟩)
    (c31 : PySem.W.codeIn K cd31 "Matrix.check_square" = true)
    (k31 : PySem.W.keepIn K (.ref f31) = true)
    (i31 : PySem.W.isFn K (.ref f31) = true)
    (a32 : PySem.W.findIn K (.ref C) "power" = some (some (.ref f32)))
    (l32 : K.lookup f32 = some ⟨oc32, od32, .func (PySem.W.fnOf "power" "Matrix.power" (defArgs sPower) (defBody sPower) (defScope sPower) .none kV32 dc32 pm32 an32 cd32 ct32), sl32⟩)
    (c32 : PySem.W.codeIn K cd32 "Matrix.power" = true)
    (k32 : PySem.W.keepIn K (.ref f32) = true)
    (i32 : PySem.W.isFn K (.ref f32) = true)
    (a33 : PySem.W.nsIn K mainGlobals "_law_open" = some (some (.ref f33)))
    (l33 : K.lookup f33 = some ⟨oc33, od33, .func (PySem.W.fnOf "_law_open" "_law_open" (defArgs sOpen) (defBody sOpen) (defScope sOpen) .none kV33 dc33 pm33 an33 cd33 ct33), sl33⟩)
    (c33 : PySem.W.codeIn K cd33 "_law_open" = true)
    (k33 : PySem.W.keepIn K (.ref f33) = true)
    (a34 : PySem.W.nsIn K mainGlobals "_law_draw" = some (some (.ref f34)))
    (l34 : K.lookup f34 = some ⟨oc34, od34, .func (PySem.W.fnOf "_law_draw" "_law_draw" (defArgs sDraw) (defBody sDraw) (defScope sDraw) .none kV34 dc34 pm34 an34 cd34 ct34), sl34⟩)
    (c34 : PySem.W.codeIn K cd34 "_law_draw" = true)
    (k34 : PySem.W.keepIn K (.ref f34) = true)
    (a35 : PySem.W.nsIn K mainGlobals "_law_pick" = some (some (.ref f35)))
    (l35 : K.lookup f35 = some ⟨oc35, od35, .func (PySem.W.fnOf "_law_pick" "_law_pick" (defArgs sPick) (defBody sPick) (defScope sPick) .none kV35 dc35 pm35 an35 cd35 ct35), sl35⟩)
    (c35 : PySem.W.codeIn K cd35 "_law_pick" = true)
    (k35 : PySem.W.keepIn K (.ref f35) = true)
    (a36 : PySem.W.nsIn K mainGlobals "_law_mixed" = some (some (.ref f36)))
    (l36 : K.lookup f36 = some ⟨oc36, od36, .func (PySem.W.fnOf "_law_mixed" "_law_mixed" (defArgs sMixed) (defBody sMixed) (defScope sMixed) .none kV36 dc36 pm36 an36 cd36 ct36), sl36⟩)
    (c36 : PySem.W.codeIn K cd36 "_law_mixed" = true)
    (k36 : PySem.W.keepIn K (.ref f36) = true)
    (a37 : PySem.W.nsIn K mainGlobals "_law_gcd" = some (some (.ref f37)))
    (l37 : K.lookup f37 = some ⟨oc37, od37, .func (PySem.W.fnOf "_law_gcd" "_law_gcd" (defArgs sGcd) (defBody sGcd) (defScope sGcd) .none kV37 dc37 pm37 an37 cd37 ct37), sl37⟩)
    (c37 : PySem.W.codeIn K cd37 "_law_gcd" = true)
    (k37 : PySem.W.keepIn K (.ref f37) = true)
    (a38 : PySem.W.nsIn K mainGlobals "_law_low" = some (some (.ref f38)))
    (l38 : K.lookup f38 = some ⟨oc38, od38, .func (PySem.W.fnOf "_law_low" "_law_low" (defArgs sLow) (defBody sLow) (defScope sLow) .none kV38 dc38 pm38 an38 cd38 ct38), sl38⟩)
    (c38 : PySem.W.codeIn K cd38 "_law_low" = true)
    (k38 : PySem.W.keepIn K (.ref f38) = true)
    (a39 : PySem.W.nsIn K mainGlobals "_law_mul" = some (some (.ref f39)))
    (l39 : K.lookup f39 = some ⟨oc39, od39, .func (PySem.W.fnOf "_law_mul" "_law_mul" (defArgs sMul) (defBody sMul) (defScope sMul) .none kV39 dc39 pm39 an39 cd39 ct39), sl39⟩)
    (c39 : PySem.W.codeIn K cd39 "_law_mul" = true)
    (k39 : PySem.W.keepIn K (.ref f39) = true)
    (a40 : PySem.W.nsIn K mainGlobals "_law_div" = some (some (.ref f40)))
    (l40 : K.lookup f40 = some ⟨oc40, od40, .func (PySem.W.fnOf "_law_div" "_law_div" (defArgs sDiv) (defBody sDiv) (defScope sDiv) .none kV40 dc40 pm40 an40 cd40 ct40), sl40⟩)
    (c40 : PySem.W.codeIn K cd40 "_law_div" = true)
    (k40 : PySem.W.keepIn K (.ref f40) = true)
    (a41 : PySem.W.nsIn K mainGlobals "_law_size" = some (some (.ref f41)))
    (l41 : K.lookup f41 = some ⟨oc41, od41, .func (PySem.W.fnOf "_law_size" "_law_size" (defArgs sSize) (defBody sSize) (defScope sSize) .none kV41 dc41 pm41 an41 cd41 ct41), sl41⟩)
    (c41 : PySem.W.codeIn K cd41 "_law_size" = true)
    (k41 : PySem.W.keepIn K (.ref f41) = true)
    (a42 : PySem.W.nsIn K mainGlobals "_law_word" = some (some (.ref f42)))
    (l42 : K.lookup f42 = some ⟨oc42, od42, .func (PySem.W.fnOf "_law_word" "_law_word" (defArgs sWord) (defBody sWord) (defScope sWord) .none kV42 dc42 pm42 an42 cd42 ct42), sl42⟩)
    (c42 : PySem.W.codeIn K cd42 "_law_word" = true)
    (k42 : PySem.W.keepIn K (.ref f42) = true)
    (a43 : PySem.W.nsIn K mainGlobals "_law_whole" = some (some (.ref f43)))
    (l43 : K.lookup f43 = some ⟨oc43, od43, .func (PySem.W.fnOf "_law_whole" "_law_whole" (defArgs sLWhole) (defBody sLWhole) (defScope sLWhole) .none kV43 dc43 pm43 an43 cd43 ct43), sl43⟩)
    (c43 : PySem.W.codeIn K cd43 "_law_whole" = true)
    (k43 : PySem.W.keepIn K (.ref f43) = true)
    (a44 : PySem.W.nsIn K mainGlobals "_law_line" = some (some (.ref f44)))
    (l44 : K.lookup f44 = some ⟨oc44, od44, .func (PySem.W.fnOf "_law_line" "_law_line" (defArgs sLine) (defBody sLine) (defScope sLine) .none kV44 dc44 pm44 an44 cd44 ct44), sl44⟩)
    (c44 : PySem.W.codeIn K cd44 "_law_line" = true)
    (k44 : PySem.W.keepIn K (.ref f44) = true)
    (a45 : PySem.W.nsIn K mainGlobals "law" = some (some (.ref f45)))
    (l45 : K.lookup f45 = some ⟨oc45, od45, .func (PySem.W.fnOf "law" "law" (defArgs sLaw) (defBody sLaw) (defScope sLaw) .none kV45 dc45 pm45 an45 cd45 ct45), sl45⟩)
    (c45 : PySem.W.codeIn K cd45 "law" = true)
    (k45 : PySem.W.keepIn K (.ref f45) = true)
    (a46 : PySem.W.findIn K (.ref CT) "__init__" = some (some (.ref f46)))
    (l46 : K.lookup f46 = some ⟨oc46, od46, .func (PySem.W.fnOf "__init__" "TooMany.__init__" (defArgs sTm) (defBody sTm) (defScope sTm) .none kV46 dc46 pm46 an46 cd46 ct46), sl46⟩)
    (c46 : PySem.W.codeIn K cd46 "TooMany.__init__" = true)
    (k46 : PySem.W.keepIn K (.ref f46) = true)
    (tT : PySem.W.typeIn K (.ref f46) = some (.type "function"))
    (pg : PySem.W.plainGet K C Str.empty = true)
    (hd : PySem.W.hasDictIn K C = true)
    (po : PySem.W.plainOver K C = true)
    (sa : PySem.W.findIn K (.ref C) "__setattr__" = some (some (.builtin "object.__setattr__")))
    (mk : PySem.W.makesIn K C = true)
    (kc : PySem.W.keepIn K (.ref C) = true)
    (nR : PySem.W.findIn K (.ref C) "rows" = some none)
    (xL : K.lookup CT = some (excClassObj nm q CT N bs [.type "ValueError", .type "Exception", .type "BaseException", .type "object"] true sn sub ab col dd m0 m1 m2 m3 m5 "ValueError.__new__"))
    (xsa : PySem.W.findIn K (.ref CT) "__setattr__" = some (some (.builtin "object.__setattr__")))
    (xga : PySem.W.findIn K (.ref CT) "__getattribute__" = some (some (.builtin "BaseException.__getattribute__")))
    (xgg : PySem.W.findIn K (.ref CT) "__getattr__" = some none)
    (xn1 : PySem.W.findIn K (.ref CT) "what" = some none)
    (xn2 : PySem.W.findIn K (.ref CT) "count" = some none)
    (xk : PySem.W.keepIn K (.ref CT) = true)
    (xe : PySem.W.subIn K (.ref CT) (.type "BaseException") = some true)
    (xt : PySem.W.typeIn K (.ref CT) = some (.type "type"))
    (xh : PySem.W.hasDictIn K CT = true)
    (xi : PySem.W.isClsIn K CT = true)
    (xs : PySem.W.subIn K (.ref CT) (.ref CT) = some true)
    (gG : PySem.W.nsIn K mainGlobals "gcd" = some (some (.builtin "math.gcd")))
    (gL : PySem.W.nsIn K mainGlobals "lcm" = some (some (.builtin "math.lcm")))
    (gTx : PySem.W.nsIn K mainGlobals "TEXT_BOUND" = some (some (.int 40000 tk1)))
    (gFi : PySem.W.nsIn K mainGlobals "FIGURES_BOUND" = some (some (.int 400 tk2)))
    (gCe : PySem.W.nsIn K mainGlobals "CELLS" = some (some (.int 4000 tk3)))
    (z_len : PySem.W.nsIn K mainGlobals "len" = some none)
    (z_isi : PySem.W.nsIn K mainGlobals "isinstance" = some none)
    (z_int : PySem.W.nsIn K mainGlobals "int" = some none)
    (z_str : PySem.W.nsIn K mainGlobals "str" = some none)
    (z_tuple : PySem.W.nsIn K mainGlobals "tuple" = some none)
    (z_list : PySem.W.nsIn K mainGlobals "list" = some none)
    (z_bool : PySem.W.nsIn K mainGlobals "bool" = some none)
    (z_max : PySem.W.nsIn K mainGlobals "max" = some none)
    (z_min : PySem.W.nsIn K mainGlobals "min" = some none)
    (z_any : PySem.W.nsIn K mainGlobals "any" = some none)
    (z_all : PySem.W.nsIn K mainGlobals "all" = some none)
    (z_sum : PySem.W.nsIn K mainGlobals "sum" = some none)
    (z_abs : PySem.W.nsIn K mainGlobals "abs" = some none)
    (z_range : PySem.W.nsIn K mainGlobals "range" = some none)
    (z_zip : PySem.W.nsIn K mainGlobals "zip" = some none)
    (z_enumerate : PySem.W.nsIn K mainGlobals "enumerate" = some none)
    (z_sorted : PySem.W.nsIn K mainGlobals "sorted" = some none)
    : ∃ fd : FuncData, (∀ (s : Shared) (v : Value), BindsTo s fd ⟨[v], []⟩ [("script", v)]) ∧ ∀ base : Heap, K.In base → base.Ns mainGlobals mg → FnOk l.prog w K mg base CX0 10 fa fd ["script"] (spD K aLaw) := by
  have e := hfa.symm.trans (PySem.W.mg_of X G a45)
  cases e
  have T : Bt mg := ⟨PySem.W.mg_none_of X G z_len, PySem.W.mg_none_of X G z_isi, PySem.W.mg_none_of X G z_int, PySem.W.mg_none_of X G z_str, PySem.W.mg_none_of X G z_tuple, PySem.W.mg_none_of X G z_list, PySem.W.mg_none_of X G z_bool, PySem.W.mg_none_of X G z_max, PySem.W.mg_none_of X G z_min, PySem.W.mg_none_of X G z_any, PySem.W.mg_none_of X G z_all, PySem.W.mg_none_of X G z_sum, PySem.W.mg_none_of X G z_abs, PySem.W.mg_none_of X G z_range, PySem.W.mg_none_of X G z_zip, PySem.W.mg_none_of X G z_enumerate, PySem.W.mg_none_of X G z_sorted, PySem.W.mg_of X G gG, PySem.W.mg_of X G gL⟩
  have cl : Cls K C := ⟨pg, hd, po, sa⟩
  have na : NoAttr K C "rows" := nR
  have ox : OexC K CT := ⟨⟨nm, q, N, bs, _, sn, sub, ab, col, dd, m0, m1, m2, m3, m5, xL, by decide +kernel⟩, xsa, xe, xt, xk⟩
  have xf : XfC K CT := ⟨xga, xgg, xe, xh⟩
  have xm : PySem.W.exmOne K (.ref CT) (.ref CT) = some true := exm_self xe xi xt xs
  have hT := PySem.W.mg_of X G aT
  have cText : ∃ t, mg "TEXT_BOUND" = some (.int 40000 t) := ⟨_, PySem.W.mg_of X G gTx⟩
  have cFig : ∃ t, mg "FIGURES_BOUND" = some (.int 400 t) := ⟨_, PySem.W.mg_of X G gFi⟩
  have cCells : ∃ t, mg "CELLS" = some (.int 4000 t) := ⟨_, PySem.W.mg_of X G gCe⟩
  have F0 := fun_mk (st := sCheckLength) l0 c0 k0
  have b0 := F0.binds (ps := ["text"]) fun _ _ _ _ _ _ us hl => match us, hl with | [_], _ => rfl
  have F1 := fun_mk (st := sIsFraction) l1 c1 k1
  have b1 := F1.binds (ps := ["word"]) fun _ _ _ _ _ _ us hl => match us, hl with | [_], _ => rfl
  have F2 := fun_mk (st := sIsLong) l2 c2 k2
  have b2 := F2.binds (ps := ["word"]) fun _ _ _ _ _ _ us hl => match us, hl with | [_], _ => rfl
  have F3 := fun_mk (st := sCheckFigures) l3 c3 k3
  have b3 := F3.binds (ps := ["words"]) fun _ _ _ _ _ _ us hl => match us, hl with | [_], _ => rfl
  have F4 := fun_mk (st := sIsInteger) l4 c4 k4
  have b4 := F4.binds (ps := ["value"]) fun _ _ _ _ _ _ us hl => match us, hl with | [_], _ => rfl
  have F5 := fun_mk (st := sIsPair) l5 c5 k5
  have b5 := F5.binds (ps := ["value"]) fun _ _ _ _ _ _ us hl => match us, hl with | [_], _ => rfl
  have F6 := fun_mk (st := sLowest) l6 c6 k6
  have b6 := F6.binds (ps := ["top", "bottom"]) fun _ _ _ _ _ _ us hl => match us, hl with | [_, _], _ => rfl
  have F7 := fun_mk (st := sPairOf) l7 c7 k7
  have b7 := F7.binds (ps := ["fraction"]) fun _ _ _ _ _ _ us hl => match us, hl with | [_], _ => rfl
  have F8 := fun_mk (st := sWritten) l8 c8 k8
  have b8 := F8.binds (ps := ["word"]) fun _ _ _ _ _ _ us hl => match us, hl with | [_], _ => rfl
  have F9 := fun_mk (st := sRead) l9 c9 k9
  have b9 := F9.binds (ps := ["value"]) fun _ _ _ _ _ _ us hl => match us, hl with | [_], _ => rfl
  have F10 := fun_mk (st := sTimes) l10 c10 k10
  have b10 := F10.binds (ps := ["one", "other"]) fun _ _ _ _ _ _ us hl => match us, hl with | [_, _], _ => rfl
  have F11 := fun_mk (st := sFractionsOf) l11 c11 k11
  have b11 := F11.binds (ps := ["values"]) fun _ _ _ _ _ _ us hl => match us, hl with | [_], _ => rfl
  have F12 := fun_mk (st := sWhole) l12 c12 k12
  have b12 := F12.binds (ps := ["power", "widths", "halves"]) fun _ _ _ _ _ _ us hl => match us, hl with | [_, _, _], _ => rfl
  have F13 := fun_mk (st := sHullRanges) l13 c13 k13
  have b13 := F13.binds (ps := ["edges", "halves", "offset"]) fun _ _ _ _ _ _ us hl => match us, hl with | [_, _, _], _ => rfl
  have F14 := fun_mk (st := sHullSize) l14 c14 k14
  have b14 := F14.binds (ps := ["ranges"]) fun _ _ _ _ _ _ us hl => match us, hl with | [_], _ => rfl
  have F15 := fun_mk (st := sSlant) l15 c15 k15
  have b15 := F15.binds (ps := ["edges"]) fun _ _ _ _ _ _ us hl => match us, hl with | [_], _ => rfl
  have F16 := fun_mk (st := sAxisB) l16 c16 k16
  have b16 := F16.binds (ps := ["edges", "halves"]) fun _ _ _ _ _ _ us hl => match us, hl with | [_, _], _ => rfl
  have F17 := fun_mk (st := sOuter) l17 c17 k17
  have b17 := F17.binds (ps := ["ranges", "inner"]) fun _ _ _ _ _ _ us hl => match us, hl with | [_, _], _ => rfl
  have F18 := fun_mk (st := sMetRuns) l18 c18 k18
  have b18 := F18.binds (ps := ["edges", "halves", "offset"]) fun _ _ _ _ _ _ us hl => match us, hl with | [_, _, _], _ => rfl
  have F19 := fun_mk (st := sMetRows) l19 c19 k19
  have b19 := F19.binds (ps := ["edges", "halves", "offset"]) fun _ _ _ _ _ _ us hl => match us, hl with | [_, _, _], _ => rfl
  have F20 := fun_mk (st := sCells) l20 c20 k20
  have b20 := F20.binds (ps := ["power", "widths", "halves", "offset"]) fun _ _ _ _ _ _ us hl => match us, hl with | [_, _, _, _], _ => rfl
  have F21 := fun_mk (st := sCount) l21 c21 k21
  have b21 := F21.binds (ps := ["power", "widths", "halves", "offset"]) fun _ _ _ _ _ _ us hl => match us, hl with | [_, _, _, _], _ => rfl
  have F22 := fun_mk (st := sSplit) l22 c22 k22
  have b22 := F22.binds (ps := ["text"]) fun _ _ _ _ _ _ us hl => match us, hl with | [_], _ => rfl
  have F23 := fun_mk (st := sShape) l23 c23 k23
  have b23 := F23.binds (ps := ["rows"]) fun _ _ _ _ _ _ us hl => match us, hl with | [_], _ => rfl
  have F24 := fun_mk (st := sItem) l24 c24 k24
  have b24 := F24.binds (ps := ["item"]) fun _ _ _ _ _ _ us hl => match us, hl with | [_], _ => rfl
  have F25 := fun_mk (st := sRows) l25 c25 k25
  have b25 := F25.binds (ps := ["value"]) fun _ _ _ _ _ _ us hl => match us, hl with | [_], _ => rfl
  have F26 := fun_mk (st := sWr) l26 c26 k26
  have b26 := F26.binds (ps := ["rows"]) fun _ _ _ _ _ _ us hl => match us, hl with | [_], _ => rfl
  have F27 := fun_mk (st := sDot) l27 c27 k27
  have b27 := F27.binds (ps := ["one", "other"]) fun _ _ _ _ _ _ us hl => match us, hl with | [_, _], _ => rfl
  have F28 := fun_mk (st := sProd) l28 c28 k28
  have b28 := F28.binds (ps := ["ones", "others"]) fun _ _ _ _ _ _ us hl => match us, hl with | [_, _], _ => rfl
  have F29 := fun_mk (st := sOver) l29 c29 k29
  have b29 := F29.binds (ps := ["rows", "bottom"]) fun _ _ _ _ _ _ us hl => match us, hl with | [_, _], _ => rfl
  have F30 := fun_mk (st := sInit) l30 c30 k30
  have b30 := F30.binds (ps := ["self", "rows"]) fun _ _ _ _ _ _ us hl => match us, hl with | [_, _], _ => rfl
  have F31 := fun_mk (st := sSquare) l31 c31 k31
  have b31 := F31.binds (ps := ["self"]) fun _ _ _ _ _ _ us hl => match us, hl with | [_], _ => rfl
  have F32 := fun_mk (st := sPower) l32 c32 k32
  have b32 := F32.binds (ps := ["self", "count"]) fun _ _ _ _ _ _ us hl => match us, hl with | [_, _], _ => rfl
  have F33 := fun_mk (st := sOpen) l33 c33 k33
  have b33 := F33.binds (ps := ["script"]) fun _ _ _ _ _ _ us hl => match us, hl with | [_], _ => rfl
  have F34 := fun_mk (st := sDraw) l34 c34 k34
  have b34 := F34.binds (ps := ["box", "many"]) fun _ _ _ _ _ _ us hl => match us, hl with | [_, _], _ => rfl
  have F35 := fun_mk (st := sPick) l35 c35 k35
  have b35 := F35.binds (ps := ["box", "menu"]) fun _ _ _ _ _ _ us hl => match us, hl with | [_, _], _ => rfl
  have F36 := fun_mk (st := sMixed) l36 c36 k36
  have b36 := F36.binds (ps := ["box", "row"]) fun _ _ _ _ _ _ us hl => match us, hl with | [_, _], _ => rfl
  have F37 := fun_mk (st := sGcd) l37 c37 k37
  have b37 := F37.binds (ps := ["a", "b"]) fun _ _ _ _ _ _ us hl => match us, hl with | [_, _], _ => rfl
  have F38 := fun_mk (st := sLow) l38 c38 k38
  have b38 := F38.binds (ps := ["top", "under"]) fun _ _ _ _ _ _ us hl => match us, hl with | [_, _], _ => rfl
  have F39 := fun_mk (st := sMul) l39 c39 k39
  have b39 := F39.binds (ps := ["p", "q"]) fun _ _ _ _ _ _ us hl => match us, hl with | [_, _], _ => rfl
  have F40 := fun_mk (st := sDiv) l40 c40 k40
  have b40 := F40.binds (ps := ["p", "q"]) fun _ _ _ _ _ _ us hl => match us, hl with | [_, _], _ => rfl
  have F41 := fun_mk (st := sSize) l41 c41 k41
  have b41 := F41.binds (ps := ["p"]) fun _ _ _ _ _ _ us hl => match us, hl with | [_], _ => rfl
  have F42 := fun_mk (st := sWord) l42 c42 k42
  have b42 := F42.binds (ps := ["p"]) fun _ _ _ _ _ _ us hl => match us, hl with | [_], _ => rfl
  have F43 := fun_mk (st := sLWhole) l43 c43 k43
  have b43 := F43.binds (ps := ["told"]) fun _ _ _ _ _ _ us hl => match us, hl with | [_], _ => rfl
  have F44 := fun_mk (st := sLine) l44 c44 k44
  have b44 := F44.binds (ps := ["ratio", "offset"]) fun _ _ _ _ _ _ us hl => match us, hl with | [_, _], _ => rfl
  have F45 := fun_mk (st := sLaw) l45 c45 k45
  have b45 := F45.binds (ps := ["script"]) fun _ _ _ _ _ _ us hl => match us, hl with | [_], _ => rfl
  have F46 := fun_mk (st := sTm) l46 c46 k46
  have b46 := F46.binds (ps := ["self", "what", "count"]) fun _ _ _ _ _ _ us hl => match us, hl with | [_, _, _], _ => rfl
  refine ⟨PySem.W.fnOf "law" "law" (defArgs sLaw) (defBody sLaw) (defScope sLaw) .none kV45 dc45 pm45 an45 cd45 ct45, fun s v => .of_eq rfl, fun base _ _ => ?_⟩
  have gT : FnOk l.prog w K mg base CX0 1 f46 _ ["self", "what", "count"] (spI2 CT "what" "count") := ok_tm F46 ox xn1 xn2
  have hTm : ∀ k, 1 ≤ k → Tm l.prog w K mg base k CT := fun k hk => ⟨ox, hT, f46, _, _, a46, tT, gT.mono hk, b46⟩
  have d0 : Dn l.prog w K mg base 1 "check_length" (spD K aCheckLength) := ⟨⟨f0, _, ["text"], ok_check_length (k := 0) F0 T cText, PySem.W.mg_of X G a0, k0, b0⟩⟩
  have d1 : Dn l.prog w K mg base 1 "is_fraction" (spD K aIsFraction) := ⟨⟨f1, _, ["word"], ok_is_fraction (k := 0) F1 , PySem.W.mg_of X G a1, k1, b1⟩⟩
  have d2 : Dn l.prog w K mg base 1 "is_long" (spD K aIsLong) := ⟨⟨f2, _, ["word"], ok_is_long (k := 0) F2 T cFig, PySem.W.mg_of X G a2, k2, b2⟩⟩
  have d3 : Dn l.prog w K mg base 2 "check_figures" (spD K aCheckFigures) := ⟨⟨f3, _, ["words"], ok_check_figures (k := 1) F3 T (d2.mono (by decide : 1 ≤ 1)), PySem.W.mg_of X G a3, k3, b3⟩⟩
  have d4 : Dn l.prog w K mg base 1 "is_integer" (spD K aIsInteger) := ⟨⟨f4, _, ["value"], ok_is_integer (k := 0) F4 T, PySem.W.mg_of X G a4, k4, b4⟩⟩
  have d5 : Dn l.prog w K mg base 2 "is_pair" (spD K aIsPair) := ⟨⟨f5, _, ["value"], ok_is_pair (k := 1) F5 T (d4.mono (by decide : 1 ≤ 1)), PySem.W.mg_of X G a5, k5, b5⟩⟩
  have d6 : Dn l.prog w K mg base 1 "lowest" (spD K aLowest) := ⟨⟨f6, _, ["top", "bottom"], ok_lowest (k := 0) F6 T, PySem.W.mg_of X G a6, k6, b6⟩⟩
  have d7 : Dn l.prog w K mg base 1 "pair_of" (spD K aPairOf) := ⟨⟨f7, _, ["fraction"], ok_pair_of (k := 0) F7 T, PySem.W.mg_of X G a7, k7, b7⟩⟩
  have d8 : Dn l.prog w K mg base 2 "written_fraction" (spD K aWritten) := ⟨⟨f8, _, ["word"], ok_written (k := 1) F8 T (d6.mono (by decide : 1 ≤ 1)), PySem.W.mg_of X G a8, k8, b8⟩⟩
  have d9 : Dn l.prog w K mg base 3 "read_fraction" (spD K aRead) := ⟨⟨f9, _, ["value"], ok_read (k := 2) F9 T (d6.mono (by decide : 1 ≤ 2)) (d0.mono (by decide : 1 ≤ 2)) (d1.mono (by decide : 1 ≤ 2)) (d3.mono (by decide : 2 ≤ 2)) (d8.mono (by decide : 2 ≤ 2)) (d4.mono (by decide : 1 ≤ 2)) (d5.mono (by decide : 2 ≤ 2)), PySem.W.mg_of X G a9, k9, b9⟩⟩
  have d10 : Dn l.prog w K mg base 2 "times" (spD K aTimes) := ⟨⟨f10, _, ["one", "other"], ok_times (k := 1) F10 (d6.mono (by decide : 1 ≤ 1)) (d7.mono (by decide : 1 ≤ 1)), PySem.W.mg_of X G a10, k10, b10⟩⟩
  have d11 : Dn l.prog w K mg base 4 "fractions_of" (spD K aFractionsOf) := ⟨⟨f11, _, ["values"], ok_fractions_of (k := 3) F11 T (d9.mono (by decide : 3 ≤ 3)), PySem.W.mg_of X G a11, k11, b11⟩⟩
  have d12 : Dn l.prog w K mg base 3 "whole_frame" (spD K (aWhole C)) := ⟨⟨f12, _, ["power", "widths", "halves"], ok_whole (k := 2) F12 T cl na (d10.mono (by decide : 2 ≤ 2)), PySem.W.mg_of X G a12, k12, b12⟩⟩
  have d13 : Dn l.prog w K mg base 1 "hull_ranges" (spD K aHull) := ⟨⟨f13, _, ["edges", "halves", "offset"], ok_hull (k := 0) F13 T, PySem.W.mg_of X G a13, k13, b13⟩⟩
  have d14 : Dn l.prog w K mg base 1 "hull_size" (spD K aHullSize) := ⟨⟨f14, _, ["ranges"], ok_hullsize (k := 0) F14 , PySem.W.mg_of X G a14, k14, b14⟩⟩
  have d15 : Dn l.prog w K mg base 1 "slant_axes" (spD K aSlant) := ⟨⟨f15, _, ["edges"], ok_slant (k := 0) F15 T, PySem.W.mg_of X G a15, k15, b15⟩⟩
  have d16 : Dn l.prog w K mg base 2 "axis_bounds" (spD K aAxisB) := ⟨⟨f16, _, ["edges", "halves"], ok_axisb (k := 1) F16 T (d15.mono (by decide : 1 ≤ 1)), PySem.W.mg_of X G a16, k16, b16⟩⟩
  have d17 : Dn l.prog w K mg base 1 "outer_rows" (spD K aOuter) := ⟨⟨f17, _, ["ranges", "inner"], ok_outer (k := 0) F17 T, PySem.W.mg_of X G a17, k17, b17⟩⟩
  have d18 : Dn l.prog w K mg base 3 "met_runs" (spD K aMetRuns) := ⟨⟨f18, _, ["edges", "halves", "offset"], ok_metruns (k := 2) F18 T (d13.mono (by decide : 1 ≤ 2)) (d16.mono (by decide : 2 ≤ 2)) (d17.mono (by decide : 1 ≤ 2)), PySem.W.mg_of X G a18, k18, b18⟩⟩
  have d19 : Dn l.prog w K mg base 4 "met_rows" (spD K aMetRows) := ⟨⟨f19, _, ["edges", "halves", "offset"], ok_metrows (k := 3) F19 T (d18.mono (by decide : 3 ≤ 3)), PySem.W.mg_of X G a19, k19, b19⟩⟩
  have d20 : Dx l.prog w K mg base 6 "cells_met" (spX K (aCells C CT)) := ⟨⟨f20, _, ["power", "widths", "halves", "offset"], ok_cells (k := 4) F20 (hTm 4 (by decide)) cCells (d11.mono (by decide : 4 ≤ 4)) (d12.mono (by decide : 3 ≤ 4)) (d14.mono (by decide : 1 ≤ 4)) (d13.mono (by decide : 1 ≤ 4)) (d19.mono (by decide : 4 ≤ 4)), PySem.W.mg_of X G a20, k20, b20⟩⟩
  have d21 : Dn l.prog w K mg base 5 "hull_count" (spD K (aCount C)) := ⟨⟨f21, _, ["power", "widths", "halves", "offset"], ok_count (k := 4) F21 (d11.mono (by decide : 4 ≤ 4)) (d12.mono (by decide : 3 ≤ 4)) (d14.mono (by decide : 1 ≤ 4)) (d13.mono (by decide : 1 ≤ 4)), PySem.W.mg_of X G a21, k21, b21⟩⟩
  have d22 : Dn l.prog w K mg base 1 "split_rows" (spD K aSplit) := ⟨⟨f22, _, ["text"], ok_split (k := 0) F22 , PySem.W.mg_of X G a22, k22, b22⟩⟩
  have d23 : Dn l.prog w K mg base 1 "_check_shape" (spD K aShape) := ⟨⟨f23, _, ["rows"], ok_shape (k := 0) F23 T, PySem.W.mg_of X G a23, k23, b23⟩⟩
  have d24 : Dn l.prog w K mg base 4 "_read_item" (spD K aRead) := ⟨⟨f24, _, ["item"], ok_item (k := 3) F24 (d9.mono (by decide : 3 ≤ 3)), PySem.W.mg_of X G a24, k24, b24⟩⟩
  have d25 : Dn l.prog w K mg base 5 "_read_rows" (spD K aRows) := ⟨⟨f25, _, ["value"], ok_rows (k := 4) F25 T (d0.mono (by decide : 1 ≤ 4)) (d22.mono (by decide : 1 ≤ 4)) (d23.mono (by decide : 1 ≤ 4)) (d1.mono (by decide : 1 ≤ 4)) (d24.mono (by decide : 4 ≤ 4)) (d3.mono (by decide : 2 ≤ 4)), PySem.W.mg_of X G a25, k25, b25⟩⟩
  have d26 : Dn l.prog w K mg base 1 "whole_rows" (spD K aWr) := ⟨⟨f26, _, ["rows"], ok_wr (k := 0) F26 T, PySem.W.mg_of X G a26, k26, b26⟩⟩
  have d27 : Dn l.prog w K mg base 1 "dot" (spD K aDot) := ⟨⟨f27, _, ["one", "other"], ok_dot (k := 0) F27 T, PySem.W.mg_of X G a27, k27, b27⟩⟩
  have d28 : Dn l.prog w K mg base 2 "whole_product" (spD K aProd) := ⟨⟨f28, _, ["ones", "others"], ok_prod (k := 1) F28 T (d27.mono (by decide : 1 ≤ 1)), PySem.W.mg_of X G a28, k28, b28⟩⟩
  have d29 : Dn l.prog w K mg base 2 "fractions_over" (spD K aOver) := ⟨⟨f29, _, ["rows", "bottom"], ok_over (k := 1) F29 (d6.mono (by decide : 1 ≤ 1)), PySem.W.mg_of X G a29, k29, b29⟩⟩
  have d30 : Mki l.prog w K mg base 6 "Matrix" C aInit := ⟨⟨f30, _, ["self", "rows"], ok_init (k := 5) F30 cl na (d25.mono (by decide : 5 ≤ 5)), ⟨mk, a30, i30, kc⟩, b30⟩, PySem.W.mg_of X G aC⟩
  have d31 : Dm l.prog w K mg base 1 "check_square" C (spD K (aSquare C)) := ⟨⟨f31, _, ["self"], ok_square (k := 0) F31 T cl na, ⟨a31, i31, k31⟩, b31⟩, cl⟩
  have d32 : Dm l.prog w K mg base 8 "power" C (spD K (aPower C)) := ⟨⟨f32, _, ["self", "count"], ok_power (k := 6) F32 T cl na (d31.mono (by decide : 1 ≤ 6)) (d26.mono (by decide : 1 ≤ 6)) (d28.mono (by decide : 2 ≤ 6)) (d29.mono (by decide : 2 ≤ 6)) (d30.mono (by decide : 6 ≤ 6)), ⟨a32, i32, k32⟩, b32⟩, cl⟩
  have d33 : Dn l.prog w K mg base 1 "_law_open" (spO K aOpen) := ⟨⟨f33, _, ["script"], ok_open (k := 0) F33 T, PySem.W.mg_of X G a33, k33, b33⟩⟩
  have d34 : Dn l.prog w K mg base 1 "_law_draw" (spB K aDraw) := ⟨⟨f34, _, ["box", "many"], ok_draw (k := 0) F34 T, PySem.W.mg_of X G a34, k34, b34⟩⟩
  have d35 : Dn l.prog w K mg base 2 "_law_pick" (spB K aPick) := ⟨⟨f35, _, ["box", "menu"], ok_pick (k := 1) F35 T (d34.mono (by decide : 1 ≤ 1)), PySem.W.mg_of X G a35, k35, b35⟩⟩
  have d36 : Dn l.prog w K mg base 2 "_law_mixed" (spB K aMixed) := ⟨⟨f36, _, ["box", "row"], ok_mixed (k := 1) F36 T (d34.mono (by decide : 1 ≤ 1)), PySem.W.mg_of X G a36, k36, b36⟩⟩
  have d37 : Dn l.prog w K mg base 1 "_law_gcd" (spD K aGcd) := ⟨⟨f37, _, ["a", "b"], ok_gcd (k := 0) F37 T, PySem.W.mg_of X G a37, k37, b37⟩⟩
  have d38 : Dn l.prog w K mg base 2 "_law_low" (spD K aLow) := ⟨⟨f38, _, ["top", "under"], ok_llow (k := 1) F38 (d37.mono (by decide : 1 ≤ 1)), PySem.W.mg_of X G a38, k38, b38⟩⟩
  have d39 : Dn l.prog w K mg base 3 "_law_mul" (spD K aMul) := ⟨⟨f39, _, ["p", "q"], ok_lmul (k := 2) F39 (d38.mono (by decide : 2 ≤ 2)), PySem.W.mg_of X G a39, k39, b39⟩⟩
  have d40 : Dn l.prog w K mg base 3 "_law_div" (spD K aDiv) := ⟨⟨f40, _, ["p", "q"], ok_ldiv (k := 2) F40 (d38.mono (by decide : 2 ≤ 2)), PySem.W.mg_of X G a40, k40, b40⟩⟩
  have d41 : Dn l.prog w K mg base 1 "_law_size" (spD K aSize) := ⟨⟨f41, _, ["p"], ok_lsize (k := 0) F41 T, PySem.W.mg_of X G a41, k41, b41⟩⟩
  have d42 : Dn l.prog w K mg base 1 "_law_word" (spD K aWord) := ⟨⟨f42, _, ["p"], ok_lword (k := 0) F42 T, PySem.W.mg_of X G a42, k42, b42⟩⟩
  have d43 : Dn l.prog w K mg base 1 "_law_whole" (spD K aLWhole) := ⟨⟨f43, _, ["told"], ok_lwhole (k := 0) F43 T, PySem.W.mg_of X G a43, k43, b43⟩⟩
  have d44 : Dn l.prog w K mg base 1 "_law_line" (spD K aLine) := ⟨⟨f44, _, ["ratio", "offset"], ok_line (k := 0) F44 T, PySem.W.mg_of X G a44, k44, b44⟩⟩
  exact ok_law (k := 8) F45 T cl na (d33.mono (by decide : 1 ≤ 8)) (d34.mono (by decide : 1 ≤ 8)) (d35.mono (by decide : 2 ≤ 8)) (d36.mono (by decide : 2 ≤ 8)) (d38.mono (by decide : 2 ≤ 8)) (d39.mono (by decide : 3 ≤ 8)) (d40.mono (by decide : 3 ≤ 8)) (d41.mono (by decide : 1 ≤ 8)) (d42.mono (by decide : 1 ≤ 8)) (d43.mono (by decide : 1 ≤ 8)) (d44.mono (by decide : 1 ≤ 8)) (d21.mono (by decide : 5 ≤ 8)) (d20.mono (by decide : 6 ≤ 8)) (d32.mono (by decide : 8 ≤ 8)) (d30.mono (by decide : 6 ≤ 8)) ox xf xm hT xn1 xn2

theorem walk {l : PySem.W.OpenLaw} {q : Program} {loose : List Str} {XP : (Str → Option Value) → Heap → Prop} {YP : World → Heap → Prop} {d : DefRec} {K : Params → PySem.W.Frag} (hn : l.most = some 63) (hdf : d.params.defaults = [])
    (hY : ∀ (w : World) (h : Heap), YP w h → (K w.params).In h)
    (F : ∀ (w : World) (mg : Str → Option Value) (fa : Addr) (h : Heap), (K w.params).In h → h.Ns mainGlobals mg → mg d.name = some (.ref fa) →
      ∃ fd : FuncData, (∀ (s : Shared) (u : Value), BindsTo s fd ⟨[u], []⟩ [("script", u)]) ∧ ∀ base : Heap, (K w.params).In base → base.Ns mainGlobals mg → FnOk l.prog w (K w.params) mg base CX0 10 fa fd ["script"] (spD (K w.params) aLaw)) :
    PySem.W.WalkO q loose XP YP l.row.toRowW d [] (fun f vs => PySem.call f vs) :=
  L2.walk_of (n := 63) (k := 10) (x := "script") (CX := fun _ => CX0) (sp := fun w => spD (K w.params) aLaw) hn (by decide) hdf ⟨rfl, by decide, by decide⟩ hY F
    (fun _ H a ns hl _ hS => ⟨H, [.lst (ns.map .int)], _, ⟨ns, rfl, hl, rfl⟩, Ex.refl _, ⟨_, _, rfl, ⟨a, _, rfl, hS, Reps.of_ints⟩, rfl⟩, fun v F' H' d hd _ hr => by subst hd; exact hr⟩) fun _ _ _ _ _ z => z

end K48


open PySem PySem.W PyProof.Rows in
set_option maxRecDepth 100000 in
set_option maxHeartbeats 0 in
theorem PySem.Challenge.cw_wirehelm_k48_one_number_cells_holds : PySem.Challenge.rw_wirehelm_k48_one_number_cells.Holds := by
  w_on; o_law; k_head; (case hw => w_witness2)
  k_fill
  refine K48.walk (l := PySem.Challenge.rw_wirehelm_k48_one_number_cells) rfl rfl (fun w h Y => PySem.W.kIn_of Y) ?F
  case F =>
    intro w mg fa h KX G hmg
    refine' K48.all_mk KX G hmg ?aC ?aT ?a0 ?l0 ?c0 ?k0 ?a1 ?l1 ?c1 ?k1 ?a2 ?l2 ?c2 ?k2 ?a3 ?l3 ?c3 ?k3 ?a4 ?l4 ?c4 ?k4 ?a5 ?l5 ?c5 ?k5 ?a6 ?l6 ?c6 ?k6 ?a7 ?l7 ?c7 ?k7 ?a8 ?l8 ?c8 ?k8 ?a9 ?l9 ?c9 ?k9 ?a10 ?l10 ?c10 ?k10 ?a11 ?l11 ?c11 ?k11 ?a12 ?l12 ?c12 ?k12 ?a13 ?l13 ?c13 ?k13 ?a14 ?l14 ?c14 ?k14 ?a15 ?l15 ?c15 ?k15 ?a16 ?l16 ?c16 ?k16 ?a17 ?l17 ?c17 ?k17 ?a18 ?l18 ?c18 ?k18 ?a19 ?l19 ?c19 ?k19 ?a20 ?l20 ?c20 ?k20 ?a21 ?l21 ?c21 ?k21 ?a22 ?l22 ?c22 ?k22 ?a23 ?l23 ?c23 ?k23 ?a24 ?l24 ?c24 ?k24 ?a25 ?l25 ?c25 ?k25 ?a26 ?l26 ?c26 ?k26 ?a27 ?l27 ?c27 ?k27 ?a28 ?l28 ?c28 ?k28 ?a29 ?l29 ?c29 ?k29 ?a30 ?l30 ?c30 ?k30 ?i30 ?a31 ?l31 ?c31 ?k31 ?i31 ?a32 ?l32 ?c32 ?k32 ?i32 ?a33 ?l33 ?c33 ?k33 ?a34 ?l34 ?c34 ?k34 ?a35 ?l35 ?c35 ?k35 ?a36 ?l36 ?c36 ?k36 ?a37 ?l37 ?c37 ?k37 ?a38 ?l38 ?c38 ?k38 ?a39 ?l39 ?c39 ?k39 ?a40 ?l40 ?c40 ?k40 ?a41 ?l41 ?c41 ?k41 ?a42 ?l42 ?c42 ?k42 ?a43 ?l43 ?c43 ?k43 ?a44 ?l44 ?c44 ?k44 ?a45 ?l45 ?c45 ?k45 ?a46 ?l46 ?c46 ?k46 ?tT ?pg ?hd ?po ?sa ?mk ?kc ?nR ?xL ?xsa ?xga ?xgg ?xn1 ?xn2 ?xk ?xe ?xt ?xh ?xi ?xs ?gG ?gL ?gTx ?gFi ?gCe ?z_len ?z_isi ?z_int ?z_str ?z_tuple ?z_list ?z_bool ?z_max ?z_min ?z_any ?z_all ?z_sum ?z_abs ?z_range ?z_zip ?z_enumerate ?z_sorted
    (case aC => k_is)
    (case aT => k_is)
    (case a0 => k_is)
    (case l0 => k_is)
    (case c0 => k_is)
    (case k0 => k_is)
    (case a1 => k_is)
    (case l1 => k_is)
    (case c1 => k_is)
    (case k1 => k_is)
    (case a2 => k_is)
    (case l2 => k_is)
    (case c2 => k_is)
    (case k2 => k_is)
    (case a3 => k_is)
    (case l3 => k_is)
    (case c3 => k_is)
    (case k3 => k_is)
    (case a4 => k_is)
    (case l4 => k_is)
    (case c4 => k_is)
    (case k4 => k_is)
    (case a5 => k_is)
    (case l5 => k_is)
    (case c5 => k_is)
    (case k5 => k_is)
    (case a6 => k_is)
    (case l6 => k_is)
    (case c6 => k_is)
    (case k6 => k_is)
    (case a7 => k_is)
    (case l7 => k_is)
    (case c7 => k_is)
    (case k7 => k_is)
    (case a8 => k_is)
    (case l8 => k_is)
    (case c8 => k_is)
    (case k8 => k_is)
    (case a9 => k_is)
    (case l9 => k_is)
    (case c9 => k_is)
    (case k9 => k_is)
    (case a10 => k_is)
    (case l10 => k_is)
    (case c10 => k_is)
    (case k10 => k_is)
    (case a11 => k_is)
    (case l11 => k_is)
    (case c11 => k_is)
    (case k11 => k_is)
    (case a12 => k_is)
    (case l12 => k_is)
    (case c12 => k_is)
    (case k12 => k_is)
    (case a13 => k_is)
    (case l13 => k_is)
    (case c13 => k_is)
    (case k13 => k_is)
    (case a14 => k_is)
    (case l14 => k_is)
    (case c14 => k_is)
    (case k14 => k_is)
    (case a15 => k_is)
    (case l15 => k_is)
    (case c15 => k_is)
    (case k15 => k_is)
    (case a16 => k_is)
    (case l16 => k_is)
    (case c16 => k_is)
    (case k16 => k_is)
    (case a17 => k_is)
    (case l17 => k_is)
    (case c17 => k_is)
    (case k17 => k_is)
    (case a18 => k_is)
    (case l18 => k_is)
    (case c18 => k_is)
    (case k18 => k_is)
    (case a19 => k_is)
    (case l19 => k_is)
    (case c19 => k_is)
    (case k19 => k_is)
    (case a20 => k_is)
    (case l20 => k_is)
    (case c20 => k_is)
    (case k20 => k_is)
    (case a21 => k_is)
    (case l21 => k_is)
    (case c21 => k_is)
    (case k21 => k_is)
    (case a22 => k_is)
    (case l22 => k_is)
    (case c22 => k_is)
    (case k22 => k_is)
    (case a23 => k_is)
    (case l23 => k_is)
    (case c23 => k_is)
    (case k23 => k_is)
    (case a24 => k_is)
    (case l24 => k_is)
    (case c24 => k_is)
    (case k24 => k_is)
    (case a25 => k_is)
    (case l25 => k_is)
    (case c25 => k_is)
    (case k25 => k_is)
    (case a26 => k_is)
    (case l26 => k_is)
    (case c26 => k_is)
    (case k26 => k_is)
    (case a27 => k_is)
    (case l27 => k_is)
    (case c27 => k_is)
    (case k27 => k_is)
    (case a28 => k_is)
    (case l28 => k_is)
    (case c28 => k_is)
    (case k28 => k_is)
    (case a29 => k_is)
    (case l29 => k_is)
    (case c29 => k_is)
    (case k29 => k_is)
    (case a30 => k_is)
    (case l30 => k_is)
    (case c30 => k_is)
    (case k30 => k_is)
    (case i30 => k_is)
    (case a31 => k_is)
    (case l31 => k_is)
    (case c31 => k_is)
    (case k31 => k_is)
    (case i31 => k_is)
    (case a32 => k_is)
    (case l32 => k_is)
    (case c32 => k_is)
    (case k32 => k_is)
    (case i32 => k_is)
    (case a33 => k_is)
    (case l33 => k_is)
    (case c33 => k_is)
    (case k33 => k_is)
    (case a34 => k_is)
    (case l34 => k_is)
    (case c34 => k_is)
    (case k34 => k_is)
    (case a35 => k_is)
    (case l35 => k_is)
    (case c35 => k_is)
    (case k35 => k_is)
    (case a36 => k_is)
    (case l36 => k_is)
    (case c36 => k_is)
    (case k36 => k_is)
    (case a37 => k_is)
    (case l37 => k_is)
    (case c37 => k_is)
    (case k37 => k_is)
    (case a38 => k_is)
    (case l38 => k_is)
    (case c38 => k_is)
    (case k38 => k_is)
    (case a39 => k_is)
    (case l39 => k_is)
    (case c39 => k_is)
    (case k39 => k_is)
    (case a40 => k_is)
    (case l40 => k_is)
    (case c40 => k_is)
    (case k40 => k_is)
    (case a41 => k_is)
    (case l41 => k_is)
    (case c41 => k_is)
    (case k41 => k_is)
    (case a42 => k_is)
    (case l42 => k_is)
    (case c42 => k_is)
    (case k42 => k_is)
    (case a43 => k_is)
    (case l43 => k_is)
    (case c43 => k_is)
    (case k43 => k_is)
    (case a44 => k_is)
    (case l44 => k_is)
    (case c44 => k_is)
    (case k44 => k_is)
    (case a45 => k_is)
    (case l45 => k_is)
    (case c45 => k_is)
    (case k45 => k_is)
    (case a46 => k_is)
    (case l46 => k_is)
    (case c46 => k_is)
    (case k46 => k_is)
    (case tT => k_is)
    (case pg => k_is)
    (case hd => k_is)
    (case po => k_is)
    (case sa => k_is)
    (case mk => k_is)
    (case kc => k_is)
    (case nR => k_is)
    (case xL => k_is)
    (case xsa => k_is)
    (case xga => k_is)
    (case xgg => k_is)
    (case xn1 => k_is)
    (case xn2 => k_is)
    (case xk => k_is)
    (case xe => k_is)
    (case xt => k_is)
    (case xh => k_is)
    (case xi => k_is)
    (case xs => first | rfl | k_is)
    (case gG => k_is)
    (case gL => k_is)
    (case gTx => k_is)
    (case gFi => k_is)
    (case gCe => k_is)
    (case z_len => k_is)
    (case z_isi => k_is)
    (case z_int => k_is)
    (case z_str => k_is)
    (case z_tuple => k_is)
    (case z_list => k_is)
    (case z_bool => k_is)
    (case z_max => k_is)
    (case z_min => k_is)
    (case z_any => k_is)
    (case z_all => k_is)
    (case z_sum => k_is)
    (case z_abs => k_is)
    (case z_range => k_is)
    (case z_zip => k_is)
    (case z_enumerate => k_is)
    (case z_sorted => k_is)


