import PyProof.Rows.All
import Wide.All
import OpenK.AllK
import Wide.FinOn
import HandS.ForMost
import HandS.ForExc
import HandS.ClsMeth
import HandS.IsInst
import HandS.Style
import HandS.SortRule
import PyProof.Rows.StrMul
import HandS.SortKw
import HandS.Star
import HandS.Zip
import KE.DataMinMax
import KE.DataEq
import KE.GoesMore
import PyProof.EnumMake
import HandS.Codes
import HandS.Nested
import HandS.NestedK
import HandS.More
import KE.KSuper
import PySem.Challenge.RW_sheetsofcells_k76_open_stairs_hold_all
import PyProof.SumWalkG
import PyProof.WalksMore
import HandS.FStr
import HandS.ExcInit
import HandS.ExcInitHot
import HandS.ExcField
import KE.KExcSuper
import KE.RegKSuper
set_option Elab.async false
set_option linter.all false
set_option maxRecDepth 100000
set_option maxHeartbeats 2000000
/-! Dt: a layer of data over HandS: what a Python value is as data, what an expression gives as data, what a block does to the names' data. -/
namespace Dt
open PySem PySem.Spec PyProof.Rows L2

/-- data: what a value is, whatever its addresses -/
inductive D where
  | non | bl (b : Bool) | int (i : Int) | str (s : Str) | ty (n : String) | cls (a : Addr) | rng (lo hi : Int)
  | lst (xs : List D) | tup (xs : List D) | obj (C : Addr) (fs : List (Str × D))

inductive Rep (K : PySem.W.Frag) (H : Hp) : V → D → Prop
  | non : Rep K H .non .non
  | bl (b : Bool) : Rep K H (.bl b) (.bl b)
  | int (i : Int) : Rep K H (.int i) (.int i)
  | str (s : Str) : Rep K H (.str s) (.str s)
  | ty (n : String) : Rep K H (.ty n) (.ty n)
  | cls (a : Addr) : Rep K H (.ref a) (.cls a)
  | rng {a : Addr} {lo hi : Int} : H a = some (.rng lo hi) → Rep K H (.ref a) (.rng lo hi)
  | lst {a : Addr} {xs : List V} {ds : List D} : SqL K H a xs → xs.length = ds.length → (∀ (i : Nat) (x : V) (d : D), xs[i]? = some x → ds[i]? = some d → Rep K H x d) → Rep K H (.ref a) (.lst ds)
  | tup {a : Addr} {xs : List V} {ds : List D} : SqT K H a xs → xs.length = ds.length → (∀ (i : Nat) (x : V) (d : D), xs[i]? = some x → ds[i]? = some d → Rep K H x d) → Rep K H (.ref a) (.tup ds)
  | obj {a C dx : Addr} {fs : List (Str × V)} {gs : List (Str × D)} : H a = some (.ins C dx fs) → fs.map (·.1) = gs.map (·.1) →
      (∀ (i : Nat) (x : Str × V) (d : Str × D), fs[i]? = some x → gs[i]? = some d → Rep K H x.2 d.2) → Rep K H (.ref a) (.obj C gs)

structure Reps (K : PySem.W.Frag) (H : Hp) (xs : List V) (ds : List D) : Prop where
  len : xs.length = ds.length
  at_ : ∀ (i : Nat) (x : V) (d : D), xs[i]? = some x → ds[i]? = some d → Rep K H x d
structure FReps (K : PySem.W.Frag) (H : Hp) (fs : List (Str × V)) (gs : List (Str × D)) : Prop where
  nm : fs.map (·.1) = gs.map (·.1)
  at_ : ∀ (i : Nat) (x : Str × V) (d : Str × D), fs[i]? = some x → gs[i]? = some d → Rep K H x.2 d.2

section
variable {K : PySem.W.Frag} {H H' : Hp} {v : V} {d : D} {a : Addr} {xs ys : List V} {ds es : List D}
theorem Rep.mono (e : Same H H') (r : Rep K H v d) : Rep K H' v d := by
  induction r with
  | non => exact .non
  | bl b => exact .bl b
  | int i => exact .int i
  | str s => exact .str s
  | ty n => exact .ty n
  | cls a => exact .cls a
  | rng h => exact .rng (e _ _ h)
  | lst h l _ ih => exact .lst (e.seq h) l ih
  | tup h l _ ih =>
    refine .tup ?_ l ih
    rcases h with (h | ⟨o, h⟩) | h
    · exact .inl (.inl (e _ _ h))
    · exact .inl (.inr ⟨o, e _ _ h⟩)
    · exact .inr h
  | obj h l _ ih => exact .obj (e _ _ h) l ih
theorem Reps.mono (e : Same H H') (r : Reps K H xs ds) : Reps K H' xs ds := ⟨r.len, fun i x d h1 h2 => (r.at_ i x d h1 h2).mono e⟩
theorem FReps.mono {fs : List (Str × V)} {gs : List (Str × D)} (e : Same H H') (r : FReps K H fs gs) : FReps K H' fs gs := ⟨r.nm, fun i x d h1 h2 => (r.at_ i x d h1 h2).mono e⟩
theorem Reps.nil : Reps K H [] [] := ⟨rfl, fun i x d h _ => by simp at h⟩
theorem Reps.cons (r : Rep K H v d) (t : Reps K H xs ds) : Reps K H (v :: xs) (d :: ds) := by
  refine ⟨by simp [t.len], fun i x e h1 h2 => ?_⟩
  cases i with
  | zero =>
    simp at h1 h2
    subst h1 h2
    exact r
  | succ i => exact t.at_ i x e (by simpa using h1) (by simpa using h2)
theorem Reps.snoc (t : Reps K H xs ds) (r : Rep K H v d) : Reps K H (xs ++ [v]) (ds ++ [d]) := by
  refine ⟨by simp [t.len], fun i x e h1 h2 => ?_⟩
  by_cases hi : i < xs.length
  · rw [List.getElem?_append_left hi] at h1
    rw [List.getElem?_append_left (by rw [← t.len]; exact hi)] at h2
    exact t.at_ i x e h1 h2
  · rw [List.getElem?_append_right (by omega)] at h1
    rw [List.getElem?_append_right (by rw [← t.len]; omega)] at h2
    rw [← t.len] at h2
    cases hk : i - xs.length with
    | zero =>
      rw [hk] at h1 h2
      simp at h1 h2
      subst h1 h2
      exact r
    | succ k =>
      rw [hk] at h1
      simp at h1
theorem Reps.append (t : Reps K H xs ds) (u : Reps K H ys es) : Reps K H (xs ++ ys) (ds ++ es) := by
  refine ⟨by simp [t.len, u.len], fun i x e h1 h2 => ?_⟩
  by_cases hi : i < xs.length
  · rw [List.getElem?_append_left hi] at h1
    rw [List.getElem?_append_left (by rw [← t.len]; exact hi)] at h2
    exact t.at_ i x e h1 h2
  · rw [List.getElem?_append_right (by omega)] at h1
    rw [List.getElem?_append_right (by rw [← t.len]; omega)] at h2
    rw [← t.len] at h2
    exact u.at_ _ x e h1 h2
theorem Reps.set (t : Reps K H xs ds) (r : Rep K H v d) (j : Nat) : Reps K H (xs.set j v) (ds.set j d) := by
  refine ⟨by simp [t.len], fun i x e h1 h2 => ?_⟩
  by_cases hij : j = i
  · subst hij
    by_cases hj : j < xs.length
    · rw [List.getElem?_set_self hj] at h1
      rw [List.getElem?_set_self (by rw [← t.len]; exact hj)] at h2
      cases h1
      cases h2
      exact r
    · rw [List.getElem?_eq_none (by simp; omega)] at h1
      cases h1
  · rw [List.getElem?_set_ne hij] at h1 h2
    exact t.at_ i x e h1 h2
theorem Reps.get (t : Reps K H xs ds) {i : Nat} (h : ds[i]? = some d) : ∃ x, xs[i]? = some x ∧ Rep K H x d := by
  have hi : i < ds.length := (List.getElem?_eq_some_iff.mp h).1
  have hx : i < xs.length := by rw [t.len]; exact hi
  exact ⟨xs[i], List.getElem?_eq_getElem hx, t.at_ i _ d (List.getElem?_eq_getElem hx) h⟩
theorem Reps.inv_nil (t : Reps K H xs []) : xs = [] := List.eq_nil_of_length_eq_zero (by rw [t.len]; rfl)
theorem Reps.inv_cons (t : Reps K H xs (d :: ds)) : ∃ v ys, xs = v :: ys ∧ Rep K H v d ∧ Reps K H ys ds := by
  cases xs with
  | nil => exact absurd t.len (by simp)
  | cons v ys => exact ⟨v, ys, rfl, t.at_ 0 v d rfl rfl, ⟨by simpa using t.len, fun i x e h1 h2 => t.at_ (i + 1) x e (by simpa using h1) (by simpa using h2)⟩⟩
theorem Rep.lst_of (h : SqL K H a xs) (r : Reps K H xs ds) : Rep K H (.ref a) (.lst ds) := .lst h r.len r.at_
theorem Rep.tup_of (h : SqT K H a xs) (r : Reps K H xs ds) : Rep K H (.ref a) (.tup ds) := .tup h r.len r.at_
theorem Rep.obj_of {C dx : Addr} {fs : List (Str × V)} {gs : List (Str × D)} (h : H a = some (.ins C dx fs)) (r : FReps K H fs gs) : Rep K H (.ref a) (.obj C gs) := .obj h r.nm r.at_
theorem Rep.inv_non (r : Rep K H v .non) : v = .non := by cases r; rfl
theorem Rep.inv_bl {b : Bool} (r : Rep K H v (.bl b)) : v = .bl b := by cases r; rfl
theorem Rep.inv_int {i : Int} (r : Rep K H v (.int i)) : v = .int i := by cases r; rfl
theorem Rep.inv_str {s : Str} (r : Rep K H v (.str s)) : v = .str s := by cases r; rfl
theorem Rep.inv_ty {n : String} (r : Rep K H v (.ty n)) : v = .ty n := by cases r; rfl
theorem Rep.inv_cls {C : Addr} (r : Rep K H v (.cls C)) : v = .ref C := by cases r; rfl
theorem Rep.inv_rng {lo hi : Int} (r : Rep K H v (.rng lo hi)) : ∃ a, v = .ref a ∧ H a = some (.rng lo hi) := by
  cases r with
  | rng h => exact ⟨_, rfl, h⟩
theorem Rep.inv_lst (r : Rep K H v (.lst ds)) : ∃ a xs, v = .ref a ∧ SqL K H a xs ∧ Reps K H xs ds := by
  cases r with
  | lst h l q => exact ⟨_, _, rfl, h, l, q⟩
theorem Rep.inv_tup (r : Rep K H v (.tup ds)) : ∃ a xs, v = .ref a ∧ SqT K H a xs ∧ Reps K H xs ds := by
  cases r with
  | tup h l q => exact ⟨_, _, rfl, h, l, q⟩
theorem Rep.inv_obj {C : Addr} {gs : List (Str × D)} (r : Rep K H v (.obj C gs)) : ∃ a dx fs, v = .ref a ∧ H a = some (.ins C dx fs) ∧ FReps K H fs gs := by
  cases r with
  | obj h l q => exact ⟨_, _, _, rfl, h, l, q⟩
theorem FReps.nil : FReps K H [] [] := ⟨rfl, fun i x d h _ => by simp at h⟩
theorem FReps.cons {f : Str} {fs : List (Str × V)} {gs : List (Str × D)} (r : Rep K H v d) (t : FReps K H fs gs) : FReps K H ((f, v) :: fs) ((f, d) :: gs) := by
  refine ⟨by simp [t.nm], fun i x e h1 h2 => ?_⟩
  cases i with
  | zero =>
    simp at h1 h2
    subst h1 h2
    exact r
  | succ i => exact t.at_ i x e (by simpa using h1) (by simpa using h2)
theorem FReps.inv_nil {fs : List (Str × V)} (t : FReps K H fs []) : fs = [] := by
  have q := t.nm
  cases fs with
  | nil => rfl
  | cons x r => simp at q
theorem FReps.inv_cons {f : Str} {fs : List (Str × V)} {gs : List (Str × D)} (t : FReps K H fs ((f, d) :: gs)) : ∃ v hs, fs = (f, v) :: hs ∧ Rep K H v d ∧ FReps K H hs gs := by
  have q := t.nm
  cases fs with
  | nil => simp at q
  | cons x r =>
    obtain ⟨g, v⟩ := x
    simp only [List.map_cons, List.cons.injEq] at q
    obtain ⟨q1, q2⟩ := q
    have q1 : g = f := q1
    subst q1
    exact ⟨v, r, rfl, t.at_ 0 (g, v) (g, d) rfl rfl, q2, fun i x e h1 h2 => t.at_ (i + 1) x e (by simpa using h1) (by simpa using h2)⟩
/-- a field's data -/
theorem FReps.look {fs : List (Str × V)} {gs : List (Str × D)} (t : FReps K H fs gs) {f : Str} (h : gs.lookup f = some d) : ∃ v, fs.lookup f = some v ∧ Rep K H v d := by
  induction gs generalizing fs with
  | nil => simp at h
  | cons g r ih =>
    obtain ⟨g, e⟩ := g
    obtain ⟨v, hs, rfl, q, t'⟩ := t.inv_cons
    rw [List.lookup_cons] at h ⊢
    cases hb : f == g with
    | true =>
      rw [hb] at h
      cases h
      exact ⟨v, rfl, q⟩
    | false =>
      rw [hb] at h
      exact ih t' h
theorem FReps.nolook {fs : List (Str × V)} {gs : List (Str × D)} (t : FReps K H fs gs) {f : Str} (h : gs.lookup f = none) : fs.lookup f = none := by
  induction gs generalizing fs with
  | nil => rw [t.inv_nil]; rfl
  | cons g r ih =>
    obtain ⟨g, e⟩ := g
    obtain ⟨v, hs, rfl, q, t'⟩ := t.inv_cons
    rw [List.lookup_cons] at h ⊢
    cases hb : f == g with
    | true =>
      rw [hb] at h
      cases h
    | false =>
      rw [hb] at h
      exact ih t' h
/-- a field is stored -/
def putD (f : Str) (d : D) : List (Str × D) → List (Str × D)
  | [] => [(f, d)]
  | (g, e) :: r => if g = f then (g, d) :: r else (g, e) :: putD f d r
end
end Dt
set_option maxHeartbeats 2000000
namespace Dt
open PySem PySem.Spec PyProof.Rows L2
abbrev St := L2.St

/-- from a frozen part Hf of a heap H to a frozen part Hf' of a heap H': all that stood stands, and what is frozen anew is new -/
structure Grow (Hf H Hf' H' : Hp) : Prop where
  f : Same Hf Hf'
  h : Same H H'
  s : Same Hf' H'
  n : ∀ a, Hf a = none → H a ≠ none → Hf' a = none
section
variable {Hf H Hf1 H1 Hf2 H2 : Hp} {p : Addr} {o : HO}
theorem Grow.refl (s : Same Hf H) : Grow Hf H Hf H := ⟨Same.refl _, Same.refl _, s, fun _ h _ => h⟩
theorem Grow.trans (a : Grow Hf H Hf1 H1) (b : Grow Hf1 H1 Hf2 H2) : Grow Hf H Hf2 H2 := ⟨a.f.trans b.f, a.h.trans b.h, b.s, fun x h1 h2 => b.n x (a.n x h1 h2) (by
  cases e : H x with
  | none => exact absurd e h2
  | some o => rw [a.h x o e]; simp)⟩
theorem same_upd (h : H p = none) : Same H (upd H p o) := fun a u e => by rw [upd_ne (ne_of_none e h)]; exact e
theorem same_both (s : Same Hf H) : Same (upd Hf p o) (upd H p o) := fun a u e => by
  by_cases ha : a = p
  · subst ha
    rw [upd_same] at e ⊢
    exact e
  · rw [upd_ne ha] at e ⊢
    exact s a u e
/-- a new object, frozen at once -/
theorem Grow.new (s : Same Hf H) (h : H p = none) : Grow Hf H (upd Hf p o) (upd H p o) := ⟨same_upd (s.free h), same_upd h, same_both s, fun a h1 h2 => by
  rw [upd_ne (fun e => h2 (by rw [e]; exact h))]
  exact h1⟩
/-- the heap grows, nothing is frozen -/
theorem Grow.heap (s : Same Hf H) (h : Same H H1) : Grow Hf H Hf H1 := ⟨Same.refl _, h, s.trans h, fun _ h _ => h⟩
end

/-- what is known of a name: nothing; its data; it is a list of its own; it is an instance of its own -/
inductive Cell where
  | junk | frz (d : D) | own (ds : List D) | ins (p C : Addr) (fs : List (Str × D))
abbrev CEnv := List Cell
def addrAt (env : CEnv) (σ : St) (i : Nat) : Option Addr := match env[i]?, σ[i]? with
  | some (.own _), some (some (.ref p)) => some p
  | some (.ins _ _ _), some (some (.ref p)) => some p
  | _, _ => none
def COk (K : PySem.W.Frag) (H0 Hf H : Hp) (ov : Option V) : Cell → Prop
  | .junk => True
  | .frz d => ∃ v, ov = some v ∧ Rep K Hf v d
  | .own ds => ∃ p xs, ov = some (.ref p) ∧ H0 p = none ∧ Hf p = none ∧ H p = some (.lst xs) ∧ Reps K Hf xs ds
  | .ins p C fs => ∃ dx vs, ov = some (.ref p) ∧ H0 p = none ∧ Hf p = none ∧ H p = some (.ins C dx vs) ∧ FReps K Hf vs fs
/-- the names' data env at the slots σ, in the heap H with the frozen part Hf; B: the frozen part and the heap at the entry -/
structure Stt (K : PySem.W.Frag) (B : Hp × Hp) (Hf H : Hp) (σ : St) (env : CEnv) : Prop where
  g : Grow B.1 B.2 Hf H
  len : σ.length = env.length
  cell : ∀ (i : Nat) (c : Cell), env[i]? = some c → COk K B.2 Hf H (σ[i]?).join c
  sep : ∀ (i j : Nat) (p : Addr), i ≠ j → addrAt env σ i = some p → addrAt env σ j ≠ some p
section
variable {K : PySem.W.Frag} {B : Hp × Hp} {Hf H Hf' H' : Hp} {σ : St} {env : CEnv} {i : Nat} {v : V} {d : D}
theorem COk.grow {H0 : Hp} {ov : Option V} {c : Cell} (g : Grow Hf H Hf' H') (h : COk K H0 Hf H ov c) : COk K H0 Hf' H' ov c := by
  cases c with
  | junk => exact True.intro
  | frz d =>
    obtain ⟨v, e, r⟩ := h
    exact ⟨v, e, r.mono g.f⟩
  | own ds =>
    obtain ⟨p, xs, e, h0, hf, hp, r⟩ := h
    exact ⟨p, xs, e, h0, g.n p hf (by rw [hp]; simp), g.h _ _ hp, r.mono g.f⟩
  | ins p C fs =>
    obtain ⟨dx, vs, e, h0, hf, hp, r⟩ := h
    exact ⟨dx, vs, e, h0, g.n p hf (by rw [hp]; simp), g.h _ _ hp, r.mono g.f⟩
theorem Stt.grow (st : Stt K B Hf H σ env) (g : Grow Hf H Hf' H') : Stt K B Hf' H' σ env :=
  ⟨st.g.trans g, st.len, fun i c e => (st.cell i c e).grow g, st.sep⟩
theorem Stt.s (st : Stt K B Hf H σ env) : Same Hf H := st.g.s
theorem slot_of {v : V} (h : (σ[i]?).join = some v) : σ[i]? = some (some v) := by
  cases e : σ[i]? with
  | none => rw [e] at h; cases h
  | some o =>
    rw [e] at h
    cases o with
    | none => cases h
    | some w => cases h; rfl
theorem Stt.frz (st : Stt K B Hf H σ env) (h : env[i]? = some (.frz d)) : ∃ v, σ[i]? = some (some v) ∧ Rep K Hf v d := by
  obtain ⟨v, e, r⟩ := st.cell i _ h
  exact ⟨v, slot_of e, r⟩
theorem Stt.own {ds : List D} (st : Stt K B Hf H σ env) (h : env[i]? = some (.own ds)) : ∃ p xs, σ[i]? = some (some (.ref p)) ∧ B.2 p = none ∧ Hf p = none ∧ H p = some (.lst xs) ∧ Reps K Hf xs ds := by
  obtain ⟨p, xs, e, r⟩ := st.cell i _ h
  exact ⟨p, xs, slot_of e, r⟩
theorem Stt.ins {p C : Addr} {fs : List (Str × D)} (st : Stt K B Hf H σ env) (h : env[i]? = some (.ins p C fs)) : ∃ dx vs, σ[i]? = some (some (.ref p)) ∧ B.2 p = none ∧ Hf p = none ∧ H p = some (.ins C dx vs) ∧ FReps K Hf vs fs := by
  obtain ⟨dx, vs, e, r⟩ := st.cell i _ h
  exact ⟨dx, vs, slot_of e, r⟩
theorem get_set (l : List α) (i j : Nat) (x : α) : (l.set i x)[j]? = if i = j then (if i < l.length then some x else none) else l[j]? := by
  by_cases h : i = j
  · subst h
    rw [if_pos rfl]
    by_cases hi : i < l.length
    · rw [if_pos hi, List.getElem?_set_self hi]
    · rw [if_neg hi, List.getElem?_eq_none (by simp; omega)]
  · rw [if_neg h, List.getElem?_set_ne h]
theorem addr_set_ne {c : Cell} {o : Option V} {j : Nat} (h : i ≠ j) : addrAt (env.set i c) (σ.set i o) j = addrAt env σ j := by
  unfold addrAt
  rw [List.getElem?_set_ne h, List.getElem?_set_ne h]
theorem addr_env_ne {c : Cell} {j : Nat} (h : i ≠ j) : addrAt (env.set i c) σ j = addrAt env σ j := by
  unfold addrAt
  rw [List.getElem?_set_ne h]
theorem addr_frz {d : D} {σ' : St} : addrAt (env.set i (.frz d)) σ' i = none := by
  unfold addrAt
  rw [get_set, if_pos rfl]
  by_cases hi : i < env.length
  · rw [if_pos hi]
  · rw [if_neg hi]
theorem addr_junk {σ' : St} : addrAt (env.set i .junk) σ' i = none := by
  unfold addrAt
  rw [get_set, if_pos rfl]
  by_cases hi : i < env.length
  · rw [if_pos hi]
  · rw [if_neg hi]
theorem sep_none {env' : CEnv} {σ' : St} (hsep : ∀ (i j : Nat) (p : Addr), i ≠ j → addrAt env σ i = some p → addrAt env σ j ≠ some p) (hi : addrAt env' σ' i = none) (hne : ∀ j, i ≠ j → addrAt env' σ' j = addrAt env σ j) :
    ∀ (a b : Nat) (p : Addr), a ≠ b → addrAt env' σ' a = some p → addrAt env' σ' b ≠ some p := fun a b p hab ha hb => by
  by_cases h1 : i = a
  · subst h1; rw [hi] at ha; cases ha
  · by_cases h2 : i = b
    · subst h2; rw [hi] at hb; cases hb
    · rw [hne a h1] at ha
      rw [hne b h2] at hb
      exact hsep a b p hab ha hb
/-- a name gets data -/
theorem Stt.set (st : Stt K B Hf H σ env) (r : Rep K Hf v d) : Stt K B Hf H (σ.set i (some v)) (env.set i (.frz d)) := by
  refine ⟨st.g, by simp [st.len], fun j c e => ?_, sep_none (i := i) st.sep addr_frz fun j h => addr_set_ne h⟩
  rw [get_set] at e
  by_cases h : i = j
  · subst h
    rw [if_pos rfl] at e
    by_cases hi : i < env.length
    · rw [if_pos hi] at e
      cases e
      refine ⟨v, ?_, r⟩
      rw [List.getElem?_set_self (by rw [st.len]; exact hi)]
      rfl
    · rw [if_neg hi] at e
      cases e
  · rw [if_neg h] at e
    rw [List.getElem?_set_ne h]
    exact st.cell j c e
theorem Stt.forget (st : Stt K B Hf H σ env) (i : Nat) : Stt K B Hf H σ (env.set i .junk) := by
  refine ⟨st.g, by simp [st.len], fun j c e => ?_, sep_none (i := i) st.sep addr_junk fun j h => addr_env_ne h⟩
  rw [get_set] at e
  by_cases h : i = j
  · subst h
    rw [if_pos rfl] at e
    by_cases hi : i < env.length
    · rw [if_pos hi] at e
      cases e
      exact True.intro
    · rw [if_neg hi] at e
      cases e
  · rw [if_neg h] at e
    exact st.cell j c e
/-- a name gets any value, nothing is known of it -/
theorem Stt.setJunk (st : Stt K B Hf H σ env) (i : Nat) (o : Option V) : Stt K B Hf H (σ.set i o) (env.set i .junk) := by
  refine ⟨st.g, by simp [st.len], fun j c e => ?_, sep_none (i := i) st.sep addr_junk fun j h => addr_set_ne h⟩
  rw [get_set] at e
  by_cases h : i = j
  · subst h
    rw [if_pos rfl] at e
    by_cases hi : i < env.length
    · rw [if_pos hi] at e
      cases e
      exact True.intro
    · rw [if_neg hi] at e
      cases e
  · rw [if_neg h] at e
    rw [List.getElem?_set_ne h]
    exact st.cell j c e
theorem addr_cell (st : Stt K B Hf H σ env) {j : Nat} {q : Addr} (h : addrAt env σ j = some q) : H q ≠ none := by
  unfold addrAt at h
  cases hc : env[j]? with
  | none => rw [hc] at h; cases h
  | some c =>
    cases c with
    | junk => rw [hc] at h; cases h
    | frz d => rw [hc] at h; cases h
    | own ds =>
      obtain ⟨p, xs, e, _, _, hp, _⟩ := st.own hc
      rw [hc, e] at h
      cases h
      rw [hp]
      simp
    | ins p C fs =>
      obtain ⟨dx, vs, e, _, _, hp, _⟩ := st.ins hc
      rw [hc, e] at h
      cases h
      rw [hp]
      simp
/-- a name gets a new list of its own -/
theorem Stt.setOwn {p : Addr} {xs : List V} {ds : List D} (st : Stt K B Hf H σ env) (hp : H p = none) (r : Reps K Hf xs ds) : Stt K B Hf (upd H p (.lst xs)) (σ.set i (some (.ref p))) (env.set i (.own ds)) := by
  have g := Grow.heap st.s (same_upd (o := .lst xs) hp)
  have st2 := st.grow g
  have h0 : B.2 p = none := st.g.h.free hp
  have hf : Hf p = none := st.s.free hp
  refine ⟨st2.g, by simp [st.len], fun j c e => ?_, fun a b q hab ha hb => ?_⟩
  · rw [get_set] at e
    by_cases h : i = j
    · subst h
      rw [if_pos rfl] at e
      by_cases hi : i < env.length
      · rw [if_pos hi] at e
        cases e
        refine ⟨p, xs, ?_, h0, hf, upd_same, r⟩
        rw [List.getElem?_set_self (by rw [st.len]; exact hi)]
        rfl
      · rw [if_neg hi] at e
        cases e
    · rw [if_neg h] at e
      rw [List.getElem?_set_ne h]
      exact st2.cell j c e
  · have at_i : ∀ q, addrAt (env.set i (.own ds)) (σ.set i (some (.ref p))) i = some q → q = p := fun q z => by
      unfold addrAt at z
      rw [get_set, get_set, if_pos rfl, if_pos rfl] at z
      by_cases hi : i < env.length
      · rw [if_pos hi, if_pos (by rw [st.len]; exact hi)] at z
        cases z
        rfl
      · rw [if_neg hi] at z
        cases z
    by_cases h1 : i = a
    · subst h1
      have e := at_i q ha
      subst e
      rw [addr_set_ne hab] at hb
      exact addr_cell st hb hp
    · by_cases h2 : i = b
      · subst h2
        have e := at_i q hb
        subst e
        rw [addr_set_ne h1] at ha
        exact addr_cell st ha hp
      · rw [addr_set_ne h1] at ha
        rw [addr_set_ne h2] at hb
        exact st.sep a b q hab ha hb
/-- an own list changes -/
theorem Stt.mutOwn {p : Addr} {ys : List V} {ds es : List D} (st : Stt K B Hf H σ env) (h : env[i]? = some (.own ds)) (hs : σ[i]? = some (some (.ref p))) (r : Reps K Hf ys es) : Stt K B Hf (upd H p (.lst ys)) σ (env.set i (.own es)) := by
  obtain ⟨p', xs', e, h0, hf, hp, _⟩ := st.own h
  rw [hs] at e
  cases e
  have hi : i < env.length := (List.getElem?_eq_some_iff.mp h).1
  have ai : addrAt env σ i = some p := by unfold addrAt; rw [h, hs]
  have s1 : ∀ {G : Hp}, Same G H → G p = none → Same G (upd H p (.lst ys)) := fun s hn a u e => by
    rw [upd_ne (ne_of_none e hn)]
    exact s a u e
  refine ⟨⟨st.g.f, s1 st.g.h h0, s1 st.s hf, st.g.n⟩, by simp [st.len], fun j c e => ?_, fun a b q hab ha hb => ?_⟩
  · rw [get_set] at e
    by_cases hj : i = j
    · subst hj
      rw [if_pos rfl, if_pos hi] at e
      cases e
      exact ⟨p, ys, by rw [hs]; rfl, h0, hf, upd_same, r⟩
    · rw [if_neg hj] at e
      have q := st.cell j c e
      cases c with
      | junk => exact True.intro
      | frz d => exact q
      | own ds' =>
        obtain ⟨p2, xs2, e2, r2⟩ := q
        have aj : addrAt env σ j = some p2 := by unfold addrAt; rw [e, slot_of e2]
        have ne : p2 ≠ p := fun z => st.sep i j p hj ai (by rw [aj, z])
        exact ⟨p2, xs2, e2, r2.1, r2.2.1, by rw [upd_ne ne]; exact r2.2.2.1, r2.2.2.2⟩
      | ins p2 C fs =>
        obtain ⟨dx, vs, e2, r2⟩ := q
        have aj : addrAt env σ j = some p2 := by unfold addrAt; rw [e, slot_of e2]
        have ne : p2 ≠ p := fun z => st.sep i j p hj ai (by rw [aj, z])
        exact ⟨dx, vs, e2, r2.1, r2.2.1, by rw [upd_ne ne]; exact r2.2.2.1, r2.2.2.2⟩
  · have same : ∀ j, addrAt (env.set i (.own es)) σ j = addrAt env σ j := fun j => by
      by_cases hj : i = j
      · subst hj
        rw [ai]
        unfold addrAt
        rw [get_set, if_pos rfl, if_pos hi, hs]
      · exact addr_env_ne hj
    rw [same] at ha hb
    exact st.sep a b q hab ha hb
theorem Stt.mutIns {p C dx : Addr} {vs : List (Str × V)} {fs gs : List (Str × D)} (st : Stt K B Hf H σ env) (h : env[i]? = some (.ins p C fs)) (r : FReps K Hf vs gs) : Stt K B Hf (upd H p (.ins C dx vs)) σ (env.set i (.ins p C gs)) := by
  obtain ⟨dx', vs', hs, h0, hf, hp, _⟩ := st.ins h
  have hi : i < env.length := (List.getElem?_eq_some_iff.mp h).1
  have ai : addrAt env σ i = some p := by unfold addrAt; rw [h, hs]
  have s1 : ∀ {G : Hp}, Same G H → G p = none → Same G (upd H p (.ins C dx vs)) := fun s hn a u e => by
    rw [upd_ne (ne_of_none e hn)]
    exact s a u e
  refine ⟨⟨st.g.f, s1 st.g.h h0, s1 st.s hf, st.g.n⟩, by simp [st.len], fun j c e => ?_, fun a b q hab ha hb => ?_⟩
  · rw [get_set] at e
    by_cases hj : i = j
    · subst hj
      rw [if_pos rfl, if_pos hi] at e
      cases e
      exact ⟨dx, vs, by rw [hs]; rfl, h0, hf, upd_same, r⟩
    · rw [if_neg hj] at e
      have q := st.cell j c e
      cases c with
      | junk => exact True.intro
      | frz d => exact q
      | own ds' =>
        obtain ⟨p2, xs2, e2, r2⟩ := q
        have aj : addrAt env σ j = some p2 := by unfold addrAt; rw [e, slot_of e2]
        have ne : p2 ≠ p := fun z => st.sep i j p hj ai (by rw [aj, z])
        exact ⟨p2, xs2, e2, r2.1, r2.2.1, by rw [upd_ne ne]; exact r2.2.2.1, r2.2.2.2⟩
      | ins p2 C2 fs =>
        obtain ⟨dx, vs, e2, r2⟩ := q
        have aj : addrAt env σ j = some p2 := by unfold addrAt; rw [e, slot_of e2]
        have ne : p2 ≠ p := fun z => st.sep i j p hj ai (by rw [aj, z])
        exact ⟨dx, vs, e2, r2.1, r2.2.1, by rw [upd_ne ne]; exact r2.2.2.1, r2.2.2.2⟩
  · have same : ∀ j, addrAt (env.set i (.ins p C gs)) σ j = addrAt env σ j := fun j => by
      by_cases hj : i = j
      · subst hj
        rw [ai]
        unfold addrAt
        rw [get_set, if_pos rfl, if_pos hi, hs]
      · exact addr_env_ne hj
    rw [same] at ha hb
    exact st.sep a b q hab ha hb
/-- an own list is frozen -/
theorem Stt.freeze {ds : List D} (st : Stt K B Hf H σ env) (h : env[i]? = some (.own ds)) : ∃ Hf', Same Hf Hf' ∧ Stt K B Hf' H σ (env.set i (.frz (.lst ds))) := by
  obtain ⟨p, xs, hs, h0, hf, hp, r⟩ := st.own h
  have hi : i < env.length := (List.getElem?_eq_some_iff.mp h).1
  have ai : addrAt env σ i = some p := by unfold addrAt; rw [h, hs]
  have sf : Same Hf (upd Hf p (.lst xs)) := same_upd hf
  refine ⟨upd Hf p (.lst xs), sf, ⟨st.g.f.trans sf, st.g.h, fun a u e => ?_, fun a h1 h2 => ?_⟩, by simp [st.len], fun j c e => ?_, sep_none (i := i) st.sep addr_frz fun j hj => addr_env_ne hj⟩
  · by_cases ha : a = p
    · subst ha
      rw [upd_same] at e
      cases e
      exact hp
    · rw [upd_ne ha] at e
      exact st.s a u e
  · rw [upd_ne (fun z => h2 (by rw [z]; exact h0))]
    exact st.g.n a h1 h2
  · rw [get_set] at e
    by_cases hj : i = j
    · subst hj
      rw [if_pos rfl, if_pos hi] at e
      cases e
      exact ⟨.ref p, by rw [hs]; rfl, .lst_of (SqL.of upd_same) (r.mono sf)⟩
    · rw [if_neg hj] at e
      have q := st.cell j c e
      cases c with
      | junk => exact True.intro
      | frz d =>
        obtain ⟨v, e2, r2⟩ := q
        exact ⟨v, e2, r2.mono sf⟩
      | own ds' =>
        obtain ⟨p2, xs2, e2, r2⟩ := q
        have aj : addrAt env σ j = some p2 := by unfold addrAt; rw [e, slot_of e2]
        have ne : p2 ≠ p := fun z => st.sep i j p hj ai (by rw [aj, z])
        exact ⟨p2, xs2, e2, r2.1, by rw [upd_ne ne]; exact r2.2.1, r2.2.2.1, r2.2.2.2.mono sf⟩
      | ins p2 C2 fs =>
        obtain ⟨dx, vs, e2, r2⟩ := q
        have aj : addrAt env σ j = some p2 := by unfold addrAt; rw [e, slot_of e2]
        have ne : p2 ≠ p := fun z => st.sep i j p hj ai (by rw [aj, z])
        exact ⟨dx, vs, e2, r2.1, by rw [upd_ne ne]; exact r2.2.1, r2.2.2.1, r2.2.2.2.mono sf⟩
end

/-! ### what a piece of syntax asks, by itself -/
def wpE (X : Cx) (e : Expr) : TE := fun σ H Q => ∀ (pins : List (Addr × Obj)) (s : Shared), Inv X pins σ H s → wpAny (model X.prog X.w) X.A (eval e X.env) (EP X pins σ Q) X.xe s
def wpT (X : Cx) (e : Expr) : TT := fun σ H Q => ∀ (pins : List (Addr × Obj)) (s : Shared), Inv X pins σ H s → wpAny (model X.prog X.w) X.A (isTrue e X.env (eval e X.env)) (TP X pins σ Q) X.xe s
def wpW (X : Cx) (e : Expr) : TT := fun σ H Q => ∀ (whole : Sem Value) (pins : List (Addr × Obj)) (s : Shared), Inv X pins σ H s → wpAny (model X.prog X.w) X.A (isTrue e X.env whole) (TP X pins σ Q) X.xe s
def wpA (X : Cx) (es : List Expr) : TA := fun σ H Q => ∀ (pos : Pos) (pins : List (Addr × Obj)) (s : Shared), Inv X pins σ H s → wpAny (model X.prog X.w) X.A (spliced (backTo pos (starEach es X.env))) (AP X pins σ Q) X.xe s
def wpS (X : Cx) (st : Stmt) : TS := fun D σ H => ∀ (pins : List (Addr × Obj)) (s : Shared), Inv X pins σ H s → wpAny (model X.prog X.w) X.A (exec st X.env) (SP X pins D) X.xe s
def wpSs (X : Cx) (sts : List Stmt) : TS := fun D σ H => ∀ (pins : List (Addr × Obj)) (s : Shared), Inv X pins σ H s → wpAny (model X.prog X.w) X.A (execs sts X.env) (SP X pins D) X.xe s
def wpI (X : Cx) (tg iter : Expr) : TI := fun σ H R => ∀ (pins : List (Addr × Obj)) (s : Shared), Inv X pins σ H s → wpAny (model X.prog X.w) X.A (eval iter X.env) (fun v s1 => wpAny (model X.prog X.w) X.A (pyIter v) (PIE X pins σ tg R) X.xe s1) X.xe s
section
variable {X : Cx} {e tg : Expr} {es : List Expr} {st : Stmt} {sts : List Stmt}
theorem pe_wp : PE X e (wpE X e) := ⟨fun pins s _ _ _ I h => h pins s I⟩
theorem pt_wp : PT X e (wpT X e) := ⟨fun pins s _ _ _ I h => h pins s I⟩
theorem pw_wp : PW X e (wpW X e) := ⟨fun whole pins s _ _ _ I h => h whole pins s I⟩
theorem pa_wp : PA X es (wpA X es) := ⟨fun pos pins s _ _ _ I h => h pos pins s I⟩
theorem ps_wp : PS X st (wpS X st) := ⟨fun pins s _ _ _ I h => h pins s I⟩
theorem pss_wp : PSs X sts (wpSs X sts) := ⟨fun pins s _ _ _ I h => h pins s I⟩
theorem pi_wp : PI X tg e (wpI X tg e) := ⟨fun pins s _ _ _ I h => h pins s I⟩
theorem wpE.of {t : TE} (h : PE X e t) {σ : St} {H : Hp} {Q : VK} (q : t σ H Q) : wpE X e σ H Q := fun pins s I => h.run pins s σ H Q I q
theorem wpT.of {t : TT} (h : PT X e t) {σ : St} {H : Hp} {Q : Bool → Hp → Prop} (q : t σ H Q) : wpT X e σ H Q := fun pins s I => h.run pins s σ H Q I q
theorem wpW.of {t : TT} (h : PW X e t) {σ : St} {H : Hp} {Q : Bool → Hp → Prop} (q : t σ H Q) : wpW X e σ H Q := fun whole pins s I => h.run whole pins s σ H Q I q
theorem wpA.of {t : TA} (h : PA X es t) {σ : St} {H : Hp} {Q : List V → Hp → Prop} (q : t σ H Q) : wpA X es σ H Q := fun pos pins s I => h.run pos pins s σ H Q I q
theorem wpS.of {t : TS} (h : PS X st t) {σ : St} {H : Hp} {D : Ends} (q : t D σ H) : wpS X st D σ H := fun pins s I => h.run pins s σ H D I q
theorem wpSs.of {t : TS} (h : PSs X sts t) {σ : St} {H : Hp} {D : Ends} (q : t D σ H) : wpSs X sts D σ H := fun pins s I => h.run pins s σ H D I q
theorem wpI.of {t : TI} (h : PI X tg e t) {σ : St} {H : Hp} {R : It → Hp → Prop} (q : t σ H R) : wpI X tg e σ H R := fun pins s I => h.run pins s σ H R I q
end

/-! ### judgements over data -/
abbrev RV := Hp → Hp → V → Prop
/-- e gives a value of which R says what it is; the heap only grows -/
abbrev EvX (X : Cx) (e : Expr) (env : CEnv) (R : RV) : Prop := ∀ B Hf H σ, Stt X.K B Hf H σ env → ∀ Q : VK, (∀ v Hf' H', Grow Hf H Hf' H' → R Hf' H' v → Q v H') → wpE X e σ H Q
abbrev isD (K : PySem.W.Frag) (d : D) : RV := fun Hf _ v => Rep K Hf v d
abbrev isL (K : PySem.W.Frag) (ds : List D) : RV := fun Hf H v => ∃ p xs, v = .ref p ∧ SqL K H p xs ∧ Reps K Hf xs ds
abbrev isM (K : PySem.W.Frag) (ds : List D) : RV := fun Hf H v => ∃ p xs, v = .ref p ∧ H p = some (.lst xs) ∧ Reps K Hf xs ds
/-- e gives the data d -/
abbrev EvD (X : Cx) (e : Expr) (env : CEnv) (d : D) : Prop := EvX X e env (isD X.K d)
/-- e gives a list to be read, of the data ds -/
abbrev EvL (X : Cx) (e : Expr) (env : CEnv) (ds : List D) : Prop := EvX X e env (isL X.K ds)
abbrev EvT (X : Cx) (e : Expr) (env : CEnv) (b : Bool) : Prop := ∀ B Hf H σ, Stt X.K B Hf H σ env → ∀ Q : Bool → Hp → Prop, (∀ Hf' H', Grow Hf H Hf' H' → Q b H') → wpT X e σ H Q
abbrev EvW (X : Cx) (e : Expr) (env : CEnv) (b : Bool) : Prop := ∀ B Hf H σ, Stt X.K B Hf H σ env → ∀ Q : Bool → Hp → Prop, (∀ Hf' H', Grow Hf H Hf' H' → Q b H') → wpW X e σ H Q
abbrev EvA (X : Cx) (es : List Expr) (env : CEnv) (ds : List D) : Prop := ∀ B Hf H σ, Stt X.K B Hf H σ env → ∀ Q : List V → Hp → Prop, (∀ vs Hf' H', Grow Hf H Hf' H' → Reps X.K Hf' vs ds → Q vs H') → wpA X es σ H Q
abbrev Stable (R : RV) : Prop := ∀ Hf H Hf' H' v, Grow Hf H Hf' H' → R Hf H v → R Hf' H' v
theorem Same.seqT {K : PySem.W.Frag} {H H' : Hp} {a : Addr} {xs : List V} (e : Same H H') (h : SqT K H a xs) : SqT K H' a xs := by
  rcases h with (h | ⟨o, h⟩) | h
  · exact .inl (.inl (e _ _ h))
  · exact .inl (.inr ⟨o, e _ _ h⟩)
  · exact .inr h
theorem stable_D {K : PySem.W.Frag} {d : D} : Stable (isD K d) := fun _ _ _ _ _ g r => r.mono g.f
theorem stable_L {K : PySem.W.Frag} {ds : List D} : Stable (isL K ds) := fun _ _ _ _ _ g ⟨p, xs, e, h, r⟩ => ⟨p, xs, e, g.h.seq h, r.mono g.f⟩

section
variable {X : Cx} {a b e : Expr} {es : List Expr} {env : CEnv} {pos : Pos} {Ra Rb Rc : RV} {d x y z : D} {ds : List D} {i j : Int}
theorem EvX.imp (h : EvX X e env Ra) (k : ∀ Hf H v, Same Hf H → Ra Hf H v → Rb Hf H v) : EvX X e env Rb := fun B Hf H σ st Q q => h B Hf H σ st Q fun v Hf' H' g r => q v Hf' H' g (k Hf' H' v g.s r)
theorem EvD.to (h : EvD X e env x) (k : x = y) : EvD X e env y := k ▸ h
theorem EvT.to {b c : Bool} (h : EvT X e env b) (k : b = c) : EvT X e env c := k ▸ h
theorem EvL.to {es : List D} (h : EvL X e env ds) (k : ds = es) : EvL X e env es := k ▸ h
theorem evl_of (h : EvD X e env (.lst ds)) : EvL X e env ds := EvX.imp h fun Hf H v s r => by
  obtain ⟨p, xs, e, q, t⟩ := r.inv_lst
  exact ⟨p, xs, e, s.seq q, t⟩
/-- what is known by a reading that grows nothing -/
theorem evx_pure {t : TE} (hp : PE X e t) (h : ∀ B Hf H σ, Stt X.K B Hf H σ env → ∀ Q : VK, (∀ v, Ra Hf H v → Q v H) → t σ H Q) : EvX X e env Ra := fun B Hf H σ st Q q =>
  wpE.of hp (h B Hf H σ st Q fun v r => q v Hf H (Grow.refl st.s) r)
theorem evd_var (i : Nat) {x : Str} (h : env[i]? = some (.frz d)) (hN : X.N[i]? = some x) (hv : Vis X.env.scope x) (hd : (x == ("__debug__" : Str)) = false := by decide) (hcd : (x == ("__classdict__" : Str)) = false := by decide) : EvD X (.Name x pos) env d :=
  evx_pure (pe_var hN hv hd hcd) fun B Hf H σ st Q q => by
    obtain ⟨v, e, r⟩ := st.frz h
    exact ⟨v, e, q v r⟩
theorem evl_var (i : Nat) {x : Str} (h : env[i]? = some (.own ds)) (hN : X.N[i]? = some x) (hv : Vis X.env.scope x) (hd : (x == ("__debug__" : Str)) = false := by decide) (hcd : (x == ("__classdict__" : Str)) = false := by decide) : EvL X (.Name x pos) env ds :=
  evx_pure (pe_var hN hv hd hcd) fun B Hf H σ st Q q => by
    obtain ⟨p, xs, e, _, _, hp, r⟩ := st.own h
    exact ⟨.ref p, e, q _ ⟨p, xs, rfl, SqL.of hp, r⟩⟩
theorem evd_int {j : Nat} {i : Int} : EvD X (.Constant (.int i) j pos) env (.int i) := evx_pure pe_int fun _ _ _ _ _ _ q => q _ (.int i)
theorem evd_bl {j : Nat} {b : Bool} : EvD X (.Constant (.bool b) j pos) env (.bl b) := evx_pure pe_bl fun _ _ _ _ _ _ q => q _ (.bl b)
theorem evd_non {j : Nat} : EvD X (.Constant .none j pos) env .non := evx_pure pe_non fun _ _ _ _ _ _ q => q _ .non
theorem evd_str {j : Nat} {s : Str} : EvD X (.Constant (.str s) j pos) env (.str s) := evx_pure pe_str fun _ _ _ _ _ _ q => q _ (.str s)
/-- a module's name -/
theorem evd_glob {x : Str} {v : V} {u : Value} (hg : Gl X x) (hm : X.mg x = some u) (r : RelV v u) (hr : ∀ Hf, Rep X.K Hf v d) (hd : (x == ("__debug__" : Str)) = false := by decide) : EvD X (.Name x pos) env d :=
  evx_pure (pe_glob hg hm r hd) fun _ Hf _ _ _ _ q => q _ (hr Hf)
/-- an operator of two values -/
abbrev R2D (K : PySem.W.Frag) (r : R2) (Ra Rb Rc : RV) : Prop := ∀ Hf H vx vy (Q : VK), Same Hf H → Ra Hf H vx → Rb Hf H vy → (∀ v Hf' H', Grow Hf H Hf' H' → Rc Hf' H' v → Q v H') → r vx vy H Q
theorem run2 {r : R2} (sa : Stable Ra) (ha : EvX X a env Ra) (hb : EvX X b env Rb) (hr : R2D X.K r Ra Rb Rc) : ∀ B Hf H σ, Stt X.K B Hf H σ env → ∀ Q : VK, (∀ v Hf' H', Grow Hf H Hf' H' → Rc Hf' H' v → Q v H') → tOp r (wpE X a) (wpE X b) σ H Q := by
  intro B Hf H σ st Q q
  show wpE X a σ H fun x H1 => wpE X b σ H1 fun y H2 => r x y H2 Q
  refine ha B Hf H σ st _ fun v1 Hf1 H1 g1 r1 => ?_
  refine hb B Hf1 H1 σ (st.grow g1) _ fun v2 Hf2 H2 g2 r2 => ?_
  exact hr Hf2 H2 v1 v2 Q g2.s (sa _ _ _ _ _ g2 r1) r2 fun v3 Hf3 H3 g3 r3 => q v3 Hf3 H3 ((g1.trans g2).trans g3) r3
theorem evx_op {op : Operator} {r : R2} (ho : OpR X (binaryOp op) r) (sa : Stable Ra) (ha : EvX X a env Ra) (hb : EvX X b env Rb) (hr : R2D X.K r Ra Rb Rc) : EvX X (.BinOp a op b pos) env Rc := fun B Hf H σ st Q q =>
  wpE.of (pe_op ho pe_wp pe_wp) (run2 sa ha hb hr B Hf H σ st Q q)
theorem evx_cmp {op : CmpOp} {r : R2} (ho : OpR X (compareOp op) r) (hm : behindInMarks op b = false) (sa : Stable Ra) (ha : EvX X a env Ra) (hb : EvX X b env Rb) (hr : R2D X.K r Ra Rb Rc) : EvX X (.Compare a [op] [b] pos) env Rc := fun B Hf H σ st Q q =>
  wpE.of (pe_cmpR ho pe_wp pe_wp hm) (run2 sa ha hb hr B Hf H σ st Q q)
theorem evt_cmp {op : CmpOp} {r : R2} {k : Bool} (ho : OpR X (compareOp op) r) (hm : behindInMarks op b = false) (sa : Stable Ra) (ha : EvX X a env Ra) (hb : EvX X b env Rb) (hr : R2D X.K r Ra Rb (isD X.K (.bl k))) : EvT X (.Compare a [op] [b] pos) env k := fun B Hf H σ st Q q =>
  wpT.of (pt_cmpR ho pe_wp pe_wp hm) (run2 sa ha hb hr B Hf H σ st _ fun v Hf' H' g r => ⟨k, r.inv_bl, q Hf' H' g⟩)
theorem r2_pure {K : PySem.W.Frag} {r : R2} (h : ∀ Hf H vx vy (Q : VK), Same Hf H → Ra Hf H vx → Rb Hf H vy → (∀ v, Rc Hf H v → Q v H) → r vx vy H Q) : R2D K r Ra Rb Rc := fun Hf H vx vy Q s h1 h2 q => h Hf H vx vy Q s h1 h2 fun v r => q v Hf H (Grow.refl s) r
theorem r2_I0 {K : PySem.W.Frag} {g : Int → Int → V} (h : ∀ Hf, Rep K Hf (g i j) z) : R2D K (rI0 g) (isD K (.int i)) (isD K (.int j)) (isD K z) := r2_pure fun Hf H vx vy Q s h1 h2 q => ⟨i, j, h1.inv_int, h2.inv_int, q _ (h Hf)⟩
theorem r2_I {K : PySem.W.Frag} {C : Int → Int → Prop} {g : Int → Int → V} (hc : C i j) (h : ∀ Hf, Rep K Hf (g i j) z) : R2D K (rI C g) (isD K (.int i)) (isD K (.int j)) (isD K z) := r2_pure fun Hf H vx vy Q s h1 h2 q => ⟨i, j, h1.inv_int, h2.inv_int, hc, q _ (h Hf)⟩
theorem evd_add (ha : EvD X a env (.int i)) (hb : EvD X b env (.int j)) : EvD X (.BinOp a .Add b pos) env (.int (i + j)) := evx_op op_add stable_D ha hb (r2_I0 fun _ => .int _)
theorem evd_sub (ha : EvD X a env (.int i)) (hb : EvD X b env (.int j)) : EvD X (.BinOp a .Sub b pos) env (.int (i - j)) := evx_op op_sub stable_D ha hb (r2_I0 fun _ => .int _)
theorem evd_mul (ha : EvD X a env (.int i)) (hb : EvD X b env (.int j)) (h : CMul i j) : EvD X (.BinOp a .Mult b pos) env (.int (i * j)) := evx_op op_mul stable_D ha hb (r2_I h fun _ => .int _)
theorem evd_fdiv (ha : EvD X a env (.int i)) (hb : EvD X b env (.int j)) (h : CDiv i j) : EvD X (.BinOp a .FloorDiv b pos) env (.int (i / j)) := evx_op op_fdiv stable_D ha hb (r2_I h fun _ => .int _)
theorem evd_mod (ha : EvD X a env (.int i)) (hb : EvD X b env (.int j)) (h : 0 < j) : EvD X (.BinOp a .Mod b pos) env (.int (i % j)) := evx_op op_mod stable_D ha hb (r2_I h fun _ => .int _)
theorem evd_pow (ha : EvD X a env (.int i)) (hb : EvD X b env (.int j)) (h : CPow i j) : EvD X (.BinOp a .Pow b pos) env (.int (i ^ j.toNat)) := evx_op op_pow stable_D ha hb (r2_I h fun _ => .int _)
theorem evt_lt (ha : EvD X a env (.int i)) (hb : EvD X b env (.int j)) : EvT X (.Compare a [.Lt] [b] pos) env (decide (i < j)) := evt_cmp op_lt (nomark _) stable_D ha hb (r2_I0 fun _ => .bl _)
theorem evt_le (ha : EvD X a env (.int i)) (hb : EvD X b env (.int j)) : EvT X (.Compare a [.LtE] [b] pos) env (decide (i ≤ j)) := evt_cmp op_le (nomark _) stable_D ha hb (r2_I0 fun _ => .bl _)
theorem evt_gt (ha : EvD X a env (.int i)) (hb : EvD X b env (.int j)) : EvT X (.Compare a [.Gt] [b] pos) env (decide (j < i)) := evt_cmp op_gt (nomark _) stable_D ha hb (r2_I0 fun _ => .bl _)
theorem evt_ge (ha : EvD X a env (.int i)) (hb : EvD X b env (.int j)) : EvT X (.Compare a [.GtE] [b] pos) env (decide (j ≤ i)) := evt_cmp op_ge (nomark _) stable_D ha hb (r2_I0 fun _ => .bl _)
theorem evd_lt (ha : EvD X a env (.int i)) (hb : EvD X b env (.int j)) : EvD X (.Compare a [.Lt] [b] pos) env (.bl (decide (i < j))) := evx_cmp op_lt (nomark _) stable_D ha hb (r2_I0 fun _ => .bl _)
theorem evd_le (ha : EvD X a env (.int i)) (hb : EvD X b env (.int j)) : EvD X (.Compare a [.LtE] [b] pos) env (.bl (decide (i ≤ j))) := evx_cmp op_le (nomark _) stable_D ha hb (r2_I0 fun _ => .bl _)
theorem evd_gt (ha : EvD X a env (.int i)) (hb : EvD X b env (.int j)) : EvD X (.Compare a [.Gt] [b] pos) env (.bl (decide (j < i))) := evx_cmp op_gt (nomark _) stable_D ha hb (r2_I0 fun _ => .bl _)
theorem evd_ge (ha : EvD X a env (.int i)) (hb : EvD X b env (.int j)) : EvD X (.Compare a [.GtE] [b] pos) env (.bl (decide (j ≤ i))) := evx_cmp op_ge (nomark _) stable_D ha hb (r2_I0 fun _ => .bl _)
/-- == and != of ints, bools, texts -/
inductive SEq : D → D → Bool → Prop
  | int (i j : Int) : SEq (.int i) (.int j) (i == j)
  | bl (i j : Bool) : SEq (.bl i) (.bl j) (i == j)
  | str (i j : Str) : SEq (.str i) (.str j) (i == j)
theorem r2_eq {K : PySem.W.Frag} {k : Bool} (h : SEq x y k) : R2D K rEq (isD K x) (isD K y) (isD K (.bl k)) := r2_pure fun Hf H vx vy Q s h1 h2 q => by
  cases h with
  | int i j =>
    have e1 := h1.inv_int
    have e2 := h2.inv_int
    subst e1 e2
    exact ⟨rfl, q _ (by show Rep K Hf (.bl (decide (V.int i = V.int j))) _; rw [dec_int]; exact .bl _)⟩
  | bl i j =>
    have e1 := h1.inv_bl
    have e2 := h2.inv_bl
    subst e1 e2
    exact ⟨rfl, q _ (by show Rep K Hf (.bl (decide (V.bl i = V.bl j))) _; rw [dec_bl]; exact .bl _)⟩
  | str i j =>
    have e1 := h1.inv_str
    have e2 := h2.inv_str
    subst e1 e2
    exact ⟨rfl, q _ (by show Rep K Hf (.bl (decide (V.str i = V.str j))) _; rw [dec_str]; exact .bl _)⟩
theorem r2_ne {K : PySem.W.Frag} {k : Bool} (h : SEq x y k) : R2D K rNe (isD K x) (isD K y) (isD K (.bl (!k))) := r2_pure fun Hf H vx vy Q s h1 h2 q => by
  cases h with
  | int i j =>
    have e1 := h1.inv_int
    have e2 := h2.inv_int
    subst e1 e2
    exact ⟨rfl, q _ (by show Rep K Hf (.bl (!decide (V.int i = V.int j))) _; rw [dec_int]; exact .bl _)⟩
  | bl i j =>
    have e1 := h1.inv_bl
    have e2 := h2.inv_bl
    subst e1 e2
    exact ⟨rfl, q _ (by show Rep K Hf (.bl (!decide (V.bl i = V.bl j))) _; rw [dec_bl]; exact .bl _)⟩
  | str i j =>
    have e1 := h1.inv_str
    have e2 := h2.inv_str
    subst e1 e2
    exact ⟨rfl, q _ (by show Rep K Hf (.bl (!decide (V.str i = V.str j))) _; rw [dec_str]; exact .bl _)⟩
theorem evt_eq {k : Bool} (ha : EvD X a env x) (hb : EvD X b env y) (h : SEq x y k) : EvT X (.Compare a [.Eq] [b] pos) env k := evt_cmp op_eq (nomark _) stable_D ha hb (r2_eq h)
theorem evd_eq {k : Bool} (ha : EvD X a env x) (hb : EvD X b env y) (h : SEq x y k) : EvD X (.Compare a [.Eq] [b] pos) env (.bl k) := evx_cmp op_eq (nomark _) stable_D ha hb (r2_eq h)
theorem evt_ne {k : Bool} (ha : EvD X a env x) (hb : EvD X b env y) (h : SEq x y k) : EvT X (.Compare a [.NotEq] [b] pos) env (!k) := evt_cmp op_ne (nomark _) stable_D ha hb (r2_ne h)
theorem evd_ne {k : Bool} (ha : EvD X a env x) (hb : EvD X b env y) (h : SEq x y k) : EvD X (.Compare a [.NotEq] [b] pos) env (.bl (!k)) := evx_cmp op_ne (nomark _) stable_D ha hb (r2_ne h)
/-- is None -/
def D.isNon : D → Bool
  | .non => true
  | _ => false
theorem Rep.dnon {K : PySem.W.Frag} {H : Hp} {v : V} (r : Rep K H v x) : decide (v = .non) = x.isNon := by
  cases r <;> rfl
theorem r2_isN {K : PySem.W.Frag} : R2D K (fun x y H Q => y = .non ∧ Q (.bl (decide (x = .non))) H) (isD K x) (isD K .non) (isD K (.bl x.isNon)) := r2_pure fun Hf H vx vy Q s h1 h2 q => ⟨h2.inv_non, q _ (by rw [h1.dnon]; exact .bl _)⟩
theorem r2_notN {K : PySem.W.Frag} : R2D K (fun x y H Q => y = .non ∧ Q (.bl (!decide (x = .non))) H) (isD K x) (isD K .non) (isD K (.bl (!x.isNon))) := r2_pure fun Hf H vx vy Q s h1 h2 q => ⟨h2.inv_non, q _ (by rw [h1.dnon]; exact .bl _)⟩
theorem evt_isN (ha : EvD X a env x) (hb : EvD X b env .non) : EvT X (.Compare a [.Is] [b] pos) env x.isNon := evt_cmp op_isN (nomark _) stable_D ha hb r2_isN
theorem evd_isN (ha : EvD X a env x) (hb : EvD X b env .non) : EvD X (.Compare a [.Is] [b] pos) env (.bl x.isNon) := evx_cmp op_isN (nomark _) stable_D ha hb r2_isN
theorem evt_notN (ha : EvD X a env x) (hb : EvD X b env .non) : EvT X (.Compare a [.IsNot] [b] pos) env (!x.isNon) := evt_cmp op_notN (nomark _) stable_D ha hb r2_notN
/-- tests -/
theorem evt_val {k : Bool} (h : EvD X e env (.bl k)) (he : ∀ whole, isTrue e X.env whole = (do let v ← whole; standAt e.pos; holding [v] (truthy v)) := by intro _; rfl) : EvT X e env k := fun B Hf H σ st Q q =>
  wpT.of (pt_val pe_wp he) (h B Hf H σ st _ fun v Hf' H' g r => ⟨k, r.inv_bl, q Hf' H' g⟩)
theorem evw_and1 {k : Bool} (h : EvT X a env k) : EvW X (.BoolOp .And [a] pos) env k := fun B Hf H σ st Q q => wpW.of (pw_and1 pt_wp) (h B Hf H σ st Q q)
theorem evw_or1 {k : Bool} (h : EvT X a env k) : EvW X (.BoolOp .Or [a] pos) env k := fun B Hf H σ st Q q => wpW.of (pw_or1 pt_wp) (h B Hf H σ st Q q)
theorem evw_and {k l : Bool} {rest : List Expr} (h : EvT X a env k) (h2 : k = true → EvW X (.BoolOp .And (b :: rest) pos) env l) : EvW X (.BoolOp .And (a :: b :: rest) pos) env (k && l) := fun B Hf H σ st Q q =>
  wpW.of (pw_and pt_wp pw_wp) (h B Hf H σ st _ fun Hf1 H1 g1 => by
    cases k with
    | true =>
      show wpW X (.BoolOp .And (b :: rest) pos) σ H1 Q
      exact h2 rfl B Hf1 H1 σ (st.grow g1) Q fun Hf2 H2 g2 => q Hf2 H2 (g1.trans g2)
    | false =>
      show Q false H1
      exact q Hf1 H1 g1)
theorem evw_or {k l : Bool} {rest : List Expr} (h : EvT X a env k) (h2 : k = false → EvW X (.BoolOp .Or (b :: rest) pos) env l) : EvW X (.BoolOp .Or (a :: b :: rest) pos) env (k || l) := fun B Hf H σ st Q q =>
  wpW.of (pw_or pt_wp pw_wp) (h B Hf H σ st _ fun Hf1 H1 g1 => by
    cases k with
    | false =>
      show wpW X (.BoolOp .Or (b :: rest) pos) σ H1 Q
      exact h2 rfl B Hf1 H1 σ (st.grow g1) Q fun Hf2 H2 g2 => q Hf2 H2 (g1.trans g2)
    | true =>
      show Q true H1
      exact q Hf1 H1 g1)
theorem evt_w {k : Bool} (h : EvW X e env k) : EvT X e env k := fun B Hf H σ st Q q => wpT.of (PW.pt pw_wp) (h B Hf H σ st Q q)
theorem evt_not {k : Bool} (h : EvT X a env k) : EvT X (.UnaryOp .Not a pos) env (!k) := fun B Hf H σ st Q q => wpT.of (pt_not pt_wp) (h B Hf H σ st _ fun Hf1 H1 g1 => q Hf1 H1 g1)
theorem evd_not {k : Bool} (h : EvD X a env (.bl k)) : EvD X (.UnaryOp .Not a pos) env (.bl (!k)) := fun B Hf H σ st Q q => wpE.of (pe_not pe_wp) (h B Hf H σ st _ fun v Hf1 H1 g1 r => ⟨k, r.inv_bl, q _ Hf1 H1 g1 (.bl _)⟩)
theorem evd_and1 (h : EvD X a env d) {op : BoolOp} : EvD X (.BoolOp op [a] pos) env d := fun B Hf H σ st Q q => wpE.of (pe_one pe_wp) (h B Hf H σ st Q q)
theorem evd_and {k l : Bool} {rest : List Expr} (h : EvD X a env (.bl k)) (h2 : k = true → EvD X (.BoolOp .And (b :: rest) pos) env (.bl l)) : EvD X (.BoolOp .And (a :: b :: rest) pos) env (.bl (k && l)) := fun B Hf H σ st Q q =>
  wpE.of (pe_and pe_wp pe_wp) (h B Hf H σ st _ fun v Hf1 H1 g1 r => ⟨k, r.inv_bl, by
    cases k with
    | true =>
      show wpE X (.BoolOp .And (b :: rest) pos) σ H1 Q
      exact h2 rfl B Hf1 H1 σ (st.grow g1) Q fun v Hf2 H2 g2 r2 => q v Hf2 H2 (g1.trans g2) r2
    | false =>
      show Q (.bl false) H1
      exact q _ Hf1 H1 g1 (.bl _)⟩)
theorem evd_or {k l : Bool} {rest : List Expr} (h : EvD X a env (.bl k)) (h2 : k = false → EvD X (.BoolOp .Or (b :: rest) pos) env (.bl l)) : EvD X (.BoolOp .Or (a :: b :: rest) pos) env (.bl (k || l)) := fun B Hf H σ st Q q =>
  wpE.of (pe_or pe_wp pe_wp) (h B Hf H σ st _ fun v Hf1 H1 g1 r => ⟨k, r.inv_bl, by
    cases k with
    | false =>
      show wpE X (.BoolOp .Or (b :: rest) pos) σ H1 Q
      exact h2 rfl B Hf1 H1 σ (st.grow g1) Q fun v Hf2 H2 g2 r2 => q v Hf2 H2 (g1.trans g2) r2
    | true =>
      show Q (.bl true) H1
      exact q _ Hf1 H1 g1 (.bl _)⟩)
theorem evx_if {c : Expr} {k : Bool} (h : EvT X c env k) (h1 : k = true → EvX X a env Ra) (h2 : k = false → EvX X b env Ra) : EvX X (.IfExp c a b pos) env Ra := fun B Hf H σ st Q q =>
  wpE.of (pe_ifExp pt_wp pe_wp pe_wp) (h B Hf H σ st _ fun Hf1 H1 g1 => by
    cases k with
    | true =>
      show wpE X a σ H1 Q
      exact h1 rfl B Hf1 H1 σ (st.grow g1) Q fun v Hf2 H2 g2 r2 => q v Hf2 H2 (g1.trans g2) r2
    | false =>
      show wpE X b σ H1 Q
      exact h2 rfl B Hf1 H1 σ (st.grow g1) Q fun v Hf2 H2 g2 r2 => q v Hf2 H2 (g1.trans g2) r2)
/-- truth of a list, a text, an int -/
theorem evt_truL (h : EvL X e env ds) (he : ∀ whole, isTrue e X.env whole = (do let v ← whole; standAt e.pos; holding [v] (truthy v)) := by intro _; rfl) : EvT X e env (!ds.isEmpty) := fun B Hf H σ st Q q =>
  wpT.of (pt_truth pe_wp he) (h B Hf H σ st _ fun v Hf' H' g r => by
    obtain ⟨p, xs, rfl, hs, t⟩ := r
    refine ⟨!ds.isEmpty, .inl ⟨xs, hs, ?_⟩, q Hf' H' g⟩
    have := t.len
    cases xs <;> cases ds <;> simp_all)
theorem evt_truU (h : EvD X e env (.tup ds)) (he : ∀ whole, isTrue e X.env whole = (do let v ← whole; standAt e.pos; holding [v] (truthy v)) := by intro _; rfl) : EvT X e env (!ds.isEmpty) := fun B Hf H σ st Q q =>
  wpT.of (pt_truth pe_wp he) (h B Hf H σ st _ fun v Hf' H' g r => by
    obtain ⟨p, xs, rfl, hs, t⟩ := r.inv_tup
    refine ⟨!ds.isEmpty, .inr (.inl ⟨xs, Same.seqT g.s hs, ?_⟩), q Hf' H' g⟩
    have := t.len
    cases xs <;> cases ds <;> simp_all)
/-- argument lists -/
theorem eva_nil : EvA X [] env [] := fun B Hf H σ st Q q => wpA.of pa_nil (q [] Hf H (Grow.refl st.s) .nil)
theorem eva_cons (h : EvD X e env d) (t : EvA X es env ds) (hs : starEach (e :: es) X.env = (false, eval e X.env) :: starEach es X.env := by rfl) : EvA X (e :: es) env (d :: ds) := fun B Hf H σ st Q q =>
  wpA.of (pa_cons pe_wp pa_wp hs) (h B Hf H σ st _ fun v Hf1 H1 g1 r1 => t B Hf1 H1 σ (st.grow g1) _ fun vs Hf2 H2 g2 r2 => q (v :: vs) Hf2 H2 (g1.trans g2) (.cons (r1.mono g2.f) r2))
theorem evd_tup {x1 : Nat} (h : EvA X es env ds) (hl : ds.length ≤ 1000) : EvD X (.Tuple es x1 pos) env (.tup ds) := fun B Hf H σ st Q q =>
  wpE.of (pe_tup pa_wp) (h B Hf H σ st _ fun vs Hf1 H1 g1 r1 => ⟨by rw [r1.len]; exact Nat.le_of_lt (small1000 hl), fun p hp => q (.ref p) _ _ (g1.trans (Grow.new (o := .tup vs) g1.s hp)) (.tup_of (SqT.of upd_same) (r1.mono (same_upd (g1.s.free hp))))⟩)
theorem evd_lst (h : EvA X es env ds) (hl : ds.length ≤ 1000) : EvD X (.List es pos) env (.lst ds) := fun B Hf H σ st Q q =>
  wpE.of (pe_lst pa_wp) (h B Hf H σ st _ fun vs Hf1 H1 g1 r1 => ⟨by rw [r1.len]; exact Nat.le_of_lt (small1000 hl), fun p hp => q (.ref p) _ _ (g1.trans (Grow.new (o := .lst vs) g1.s hp)) (.lst_of (SqL.of upd_same) (r1.mono (same_upd (g1.s.free hp))))⟩)
end
end Dt
set_option maxHeartbeats 2000000
namespace Dt
open PySem PySem.Spec PyProof.Rows L2

section
variable {X : Cx} {a b e : Expr} {es : List Expr} {env : CEnv} {pos : Pos} {Ra Rb Rc : RV} {d x y z : D} {ds : List D} {i j : Int}

/-! ### calls of built-ins -/
abbrev C1D (r : List V → Hp → VK → Prop) (Ra Rb : RV) : Prop := ∀ Hf H v (Q : VK), Same Hf H → Ra Hf H v → (∀ w Hf' H', Grow Hf H Hf' H' → Rb Hf' H' w → Q w H') → r [v] H Q
abbrev C2D (r : List V → Hp → VK → Prop) (Ra Rb Rc : RV) : Prop := ∀ Hf H v u (Q : VK), Same Hf H → Ra Hf H v → Rb Hf H u → (∀ w Hf' H', Grow Hf H Hf' H' → Rc Hf' H' w → Q w H') → r [v, u] H Q
theorem run_c1 {r : List V → Hp → VK → Prop} (h : EvX X e env Ra) (hr : C1D r Ra Rb) : ∀ B Hf H σ, Stt X.K B Hf H σ env → ∀ Q : VK, (∀ v Hf' H', Grow Hf H Hf' H' → Rb Hf' H' v → Q v H') → tCB r (tCons (wpE X e) tNil) σ H Q := fun B Hf H σ st Q q => by
  show wpE X e σ H fun x H1 => r [x] H1 Q
  exact h B Hf H σ st _ fun v Hf1 H1 g1 r1 => hr Hf1 H1 v Q g1.s r1 fun w Hf2 H2 g2 r2 => q w Hf2 H2 (g1.trans g2) r2
theorem run_c2 {r : List V → Hp → VK → Prop} (sa : Stable Ra) (h : EvX X a env Ra) (h2 : EvX X b env Rb) (hr : C2D r Ra Rb Rc) : ∀ B Hf H σ, Stt X.K B Hf H σ env → ∀ Q : VK, (∀ v Hf' H', Grow Hf H Hf' H' → Rc Hf' H' v → Q v H') → tCB r (tCons (wpE X a) (tCons (wpE X b) tNil)) σ H Q := fun B Hf H σ st Q q => by
  show wpE X a σ H fun x H1 => wpE X b σ H1 fun y H2 => r [x, y] H2 Q
  exact h B Hf H σ st _ fun v Hf1 H1 g1 r1 => h2 B Hf1 H1 σ (st.grow g1) _ fun u Hf2 H2 g2 r2 => hr Hf2 H2 v u Q g2.s (sa _ _ _ _ _ g2 r1) r2 fun w Hf3 H3 g3 r3 => q w Hf3 H3 ((g1.trans g2).trans g3) r3
variable {f : Str} {p : Pos} {id : String}
theorem evx_cb1 {r : List V → Hp → VK → Prop} (hc : CallR X (.builtin id) r) (hg : Gl X f) (hm : X.mg f = none) (hv : bootBuiltins f = some (.builtin id)) (h : EvX X e env Ra) (hr : C1D r Ra Rb) (hn : f ≠ "__name__" := by decide) (hdb : (f == ("__debug__" : Str)) = false := by decide)
    (he : starEach [e] X.env = (false, eval e X.env) :: starEach [] X.env := by rfl) : EvX X (.Call (.Name f p) [e] [] pos) env Rb := fun B Hf H σ st Q q =>
  wpE.of (pe_callB hc hg hm hv (pa_cons pe_wp pa_nil he) hn hdb he) (run_c1 h hr B Hf H σ st Q q)
theorem evx_cb2 {r : List V → Hp → VK → Prop} (hc : CallR X (.builtin id) r) (hg : Gl X f) (hm : X.mg f = none) (hv : bootBuiltins f = some (.builtin id)) (sa : Stable Ra) (h : EvX X a env Ra) (h2 : EvX X b env Rb) (hr : C2D r Ra Rb Rc) (hn : f ≠ "__name__" := by decide) (hdb : (f == ("__debug__" : Str)) = false := by decide)
    (he : starEach [a, b] X.env = (false, eval a X.env) :: starEach [b] X.env := by rfl) (he2 : starEach [b] X.env = (false, eval b X.env) :: starEach [] X.env := by rfl) (hpl : (backTo pos (starEach [b] X.env)).any (·.1) = false := by rfl) : EvX X (.Call (.Name f p) [a, b] [] pos) env Rc := fun B Hf H σ st Q q =>
  wpE.of (pe_callB hc hg hm hv (pa_cons pe_wp (pa_cons pe_wp pa_nil he2) he) hn hdb he hpl) (run_c2 sa h h2 hr B Hf H σ st Q q)
theorem evx_ct1 {r : List V → Hp → VK → Prop} (hc : CallR X (.type id) r) (hg : Gl X f) (hm : X.mg f = none) (hv : bootBuiltins f = some (.type id)) (h : EvX X e env Ra) (hr : C1D r Ra Rb) (hn : f ≠ "__name__" := by decide) (hdb : (f == ("__debug__" : Str)) = false := by decide)
    (he : starEach [e] X.env = (false, eval e X.env) :: starEach [] X.env := by rfl) : EvX X (.Call (.Name f p) [e] [] pos) env Rb := fun B Hf H σ st Q q =>
  wpE.of (pe_callTy hc hg hm hv (pa_cons pe_wp pa_nil he) hn hdb he) (run_c1 h hr B Hf H σ st Q q)
theorem c1_pure {r : List V → Hp → VK → Prop} (h : ∀ Hf H v (Q : VK), Same Hf H → Ra Hf H v → (∀ w, Rb Hf H w → Q w H) → r [v] H Q) : C1D r Ra Rb := fun Hf H v Q s h1 q => h Hf H v Q s h1 fun w r => q w Hf H (Grow.refl s) r
theorem c2_pure {r : List V → Hp → VK → Prop} (h : ∀ Hf H v u (Q : VK), Same Hf H → Ra Hf H v → Rb Hf H u → (∀ w, Rc Hf H w → Q w H) → r [v, u] H Q) : C2D r Ra Rb Rc := fun Hf H v u Q s h1 h2 q => h Hf H v u Q s h1 h2 fun w r => q w Hf H (Grow.refl s) r
theorem small_size {n : Nat} (h : n ≤ 1000000) : n ≤ sizeLine := Nat.le_trans h (by rw [sizeLine_eq]; decide)
-- len
theorem evd_lenL (hg : Gl X "len") (hm : X.mg "len" = none) (h : EvL X e env ds) (he : starEach [e] X.env = (false, eval e X.env) :: starEach [] X.env := by rfl) : EvD X (.Call (.Name "len" p) [e] [] pos) env (.int (ds.length : Nat)) :=
  evx_cb1 call_len_seq hg hm PySem.boot_len h (c1_pure fun Hf H v Q s ⟨l, xs, e, hl, r⟩ q => by
    subst e
    exact ⟨l, xs, rfl, .inl hl, q _ (by rw [r.len]; exact .int _)⟩) (by decide) (by decide) he
theorem evd_lenU (hg : Gl X "len") (hm : X.mg "len" = none) (h : EvD X e env (.tup ds)) (he : starEach [e] X.env = (false, eval e X.env) :: starEach [] X.env := by rfl) : EvD X (.Call (.Name "len" p) [e] [] pos) env (.int (ds.length : Nat)) :=
  evx_cb1 call_len_seq hg hm PySem.boot_len h (c1_pure fun Hf H v Q s r0 q => by
    obtain ⟨l, xs, e, hl, r⟩ := r0.inv_tup
    subst e
    exact ⟨l, xs, rfl, .inr (Same.seqT s hl), q _ (by rw [r.len]; exact .int _)⟩) (by decide) (by decide) he
theorem evd_lenS {t : Str} (hg : Gl X "len") (hm : X.mg "len" = none) (h : EvD X e env (.str t)) (hl : t.length ≤ 1000000) (he : starEach [e] X.env = (false, eval e X.env) :: starEach [] X.env := by rfl) : EvD X (.Call (.Name "len" p) [e] [] pos) env (.int (t.length : Nat)) :=
  evx_cb1 call_len_str hg hm PySem.boot_len h (c1_pure fun Hf H v Q s r0 q => ⟨t, by rw [r0.inv_str], small_size hl, q _ (.int _)⟩) (by decide) (by decide) he
-- abs, max, min of two ints, int of an int
theorem evd_abs (hg : Gl X "abs") (hm : X.mg "abs" = none) (h : EvD X e env (.int i)) (he : starEach [e] X.env = (false, eval e X.env) :: starEach [] X.env := by rfl) : EvD X (.Call (.Name "abs" p) [e] [] pos) env (.int (if i < 0 then -i else i)) :=
  evx_cb1 call_abs hg hm (by decide +kernel) h (c1_pure fun Hf H v Q s r0 q => ⟨i, by rw [r0.inv_int], q _ (.int _)⟩) (by decide) (by decide) he
theorem evd_max2 (hc : X.calm = true) (hg : Gl X "max") (hm : X.mg "max" = none) (h : EvD X a env (.int i)) (h2 : EvD X b env (.int j)) (he : starEach [a, b] X.env = (false, eval a X.env) :: starEach [b] X.env := by rfl) (he2 : starEach [b] X.env = (false, eval b X.env) :: starEach [] X.env := by rfl) (hpl : (backTo pos (starEach [b] X.env)).any (·.1) = false := by rfl) : EvD X (.Call (.Name "max" p) [a, b] [] pos) env (.int (max i j)) :=
  evx_cb2 (call_max2 hc) hg hm (by decide +kernel) stable_D h h2 (c2_pure fun Hf H v u Q s r1 r2 q => ⟨i, j, by rw [r1.inv_int, r2.inv_int], q _ (by
    have e : (if j > i then j else i) = max i j := by split <;> omega
    rw [e]
    exact .int _)⟩) (by decide) (by decide) he he2 hpl
theorem evd_min2 (hc : X.calm = true) (hg : Gl X "min") (hm : X.mg "min" = none) (h : EvD X a env (.int i)) (h2 : EvD X b env (.int j)) (he : starEach [a, b] X.env = (false, eval a X.env) :: starEach [b] X.env := by rfl) (he2 : starEach [b] X.env = (false, eval b X.env) :: starEach [] X.env := by rfl) (hpl : (backTo pos (starEach [b] X.env)).any (·.1) = false := by rfl) : EvD X (.Call (.Name "min" p) [a, b] [] pos) env (.int (min i j)) :=
  evx_cb2 (call_min2 hc) hg hm (by decide +kernel) stable_D h h2 (c2_pure fun Hf H v u Q s r1 r2 q => ⟨i, j, by rw [r1.inv_int, r2.inv_int], q _ (by
    have e : (if j < i then j else i) = min i j := by split <;> omega
    rw [e]
    exact .int _)⟩) (by decide) (by decide) he he2 hpl
theorem evd_toint (hg : Gl X "int") (hm : X.mg "int" = none) (h : EvD X e env (.int i)) (he : starEach [e] X.env = (false, eval e X.env) :: starEach [] X.env := by rfl) : EvD X (.Call (.Name "int" p) [e] [] pos) env (.int i) :=
  evx_ct1 call_int1 hg hm (by decide +kernel) h (c1_pure fun Hf H v Q s r0 q => .inl ⟨i, by rw [r0.inv_int], q _ (.int _)⟩) (by decide) (by decide) he
-- list(..), tuple(..)
theorem evd_listL (hg : Gl X "list") (hm : X.mg "list" = none) (h : EvL X e env ds) (he : starEach [e] X.env = (false, eval e X.env) :: starEach [] X.env := by rfl) : EvD X (.Call (.Name "list" p) [e] [] pos) env (.lst ds) :=
  evx_ct1 call_list_of hg hm (by decide +kernel) h (fun Hf H v Q s ⟨l, xs, e, hl, r⟩ q => by
    subst e
    exact ⟨l, xs, rfl, .inl hl, fun m hm => q _ _ _ (Grow.new s hm) (.lst_of (SqL.of upd_same) (r.mono (same_upd (s.free hm))))⟩) (by decide) (by decide) he
theorem evd_listU (hg : Gl X "list") (hm : X.mg "list" = none) (h : EvD X e env (.tup ds)) (he : starEach [e] X.env = (false, eval e X.env) :: starEach [] X.env := by rfl) : EvD X (.Call (.Name "list" p) [e] [] pos) env (.lst ds) :=
  evx_ct1 call_list_of hg hm (by decide +kernel) h (fun Hf H v Q s r0 q => by
    obtain ⟨l, xs, e, hl, r⟩ := r0.inv_tup
    subst e
    exact ⟨l, xs, rfl, .inr (Same.seqT s hl), fun m hm => q _ _ _ (Grow.new s hm) (.lst_of (SqL.of upd_same) (r.mono (same_upd (s.free hm))))⟩) (by decide) (by decide) he
theorem evd_tupleL (hg : Gl X "tuple") (hm : X.mg "tuple" = none) (h : EvL X e env ds) (he : starEach [e] X.env = (false, eval e X.env) :: starEach [] X.env := by rfl) : EvD X (.Call (.Name "tuple" p) [e] [] pos) env (.tup ds) :=
  evx_ct1 call_tuple_of hg hm (by decide +kernel) h (fun Hf H v Q s ⟨l, xs, e, hl, r⟩ q => by
    subst e
    exact ⟨l, xs, rfl, .inl ⟨hl, fun m hm => q _ _ _ (Grow.new s hm) (.tup_of (SqT.of upd_same) (r.mono (same_upd (s.free hm))))⟩⟩) (by decide) (by decide) he
theorem evd_tupleU (hg : Gl X "tuple") (hm : X.mg "tuple" = none) (h : EvD X e env (.tup ds)) (he : starEach [e] X.env = (false, eval e X.env) :: starEach [] X.env := by rfl) : EvD X (.Call (.Name "tuple" p) [e] [] pos) env (.tup ds) :=
  evx_ct1 call_tuple_of hg hm (by decide +kernel) h (c1_pure fun Hf H v Q s r0 q => by
    obtain ⟨l, xs, e, hl, r⟩ := r0.inv_tup
    subst e
    exact ⟨l, xs, rfl, .inr ⟨Same.seqT s hl, q _ (.tup_of hl r)⟩⟩) (by decide) (by decide) he
-- sum, max, min of a list of ints
abbrev dInts (ns : List Int) : List D := ns.map D.int
theorem Reps.ints {K : PySem.W.Frag} {H : Hp} {xs : List V} : ∀ {ns : List Int}, Reps K H xs (dInts ns) → xs = ns.map V.int := by
  intro ns
  induction ns generalizing xs with
  | nil => intro r; exact r.inv_nil
  | cons n t ih =>
    intro r
    obtain ⟨v, ys, rfl, rv, rt⟩ := r.inv_cons
    rw [rv.inv_int, ih rt]
    rfl
theorem reps_ints {K : PySem.W.Frag} {H : Hp} : ∀ (ns : List Int), Reps K H (ns.map V.int) (dInts ns)
  | [] => .nil
  | n :: t => .cons (.int n) (reps_ints t)
theorem evd_sumL {ns : List Int} (hc : X.calm = true) (hg : Gl X "sum") (hm : X.mg "sum" = none) (h : EvL X e env (dInts ns)) (he : starEach [e] X.env = (false, eval e X.env) :: starEach [] X.env := by rfl) : EvD X (.Call (.Name "sum" p) [e] [] pos) env (.int ns.sum) :=
  evx_cb1 (cr_sum hc) hg hm (by decide +kernel) h (c1_pure fun Hf H v Q s ⟨l, xs, e, hl, r⟩ q => by
    subst e
    rw [r.ints] at hl
    exact ⟨l, ns, rfl, hl, q _ (.int _)⟩) (by decide) (by decide) he
theorem evd_maxL {ns : List Int} {m : Int} (hc : X.calm = true) (hg : Gl X "max") (hm : X.mg "max" = none) (h : EvL X e env (dInts ns)) (h1 : m ∈ ns) (h2 : ∀ y ∈ ns, y ≤ m) (he : starEach [e] X.env = (false, eval e X.env) :: starEach [] X.env := by rfl) : EvD X (.Call (.Name "max" p) [e] [] pos) env (.int m) :=
  evx_cb1 (cr_max hc) hg hm (by decide +kernel) h (c1_pure fun Hf H v Q s ⟨l, xs, e, hl, r⟩ q => by
    subst e
    rw [r.ints] at hl
    exact ⟨l, ns, rfl, hl, List.length_pos_of_mem h1, fun k hk hle => by
      have := h2 k hk
      have := hle m h1
      have : k = m := by omega
      subst this
      exact q _ (.int _)⟩) (by decide) (by decide) he
theorem evd_minL {ns : List Int} {m : Int} (hc : X.calm = true) (hg : Gl X "min") (hm : X.mg "min" = none) (h : EvL X e env (dInts ns)) (h1 : m ∈ ns) (h2 : ∀ y ∈ ns, m ≤ y) (he : starEach [e] X.env = (false, eval e X.env) :: starEach [] X.env := by rfl) : EvD X (.Call (.Name "min" p) [e] [] pos) env (.int m) :=
  evx_cb1 (cr_min hc) hg hm (by decide +kernel) h (c1_pure fun Hf H v Q s ⟨l, xs, e, hl, r⟩ q => by
    subst e
    rw [r.ints] at hl
    exact ⟨l, ns, rfl, hl, List.length_pos_of_mem h1, fun k hk hle => by
      have := h2 k hk
      have := hle m h1
      have : k = m := by omega
      subst this
      exact q _ (.int _)⟩) (by decide) (by decide) he

/-! ### subscripts, slices -/
theorem Reps.atI {K : PySem.W.Frag} {H : Hp} {xs : List V} {ds : List D} (r : Reps K H xs ds) {i : Int} {d : D} (h : L2.atI ds i = some d) : ∃ v, L2.atI xs i = some v ∧ Rep K H v d := by
  unfold L2.atI at h ⊢
  rw [r.len]
  cases e : ixN ds.length i with
  | none => rw [e] at h; cases h
  | some j =>
    rw [e] at h
    exact r.get h
theorem evx_ix {r : R2} (hr : IxR X r) (sa : Stable Ra) (ha : EvX X a env Ra) (hb : EvX X b env Rb) (h2 : R2D X.K r Ra Rb Rc) (hs : PlainIx b := by exact fun _ _ => rfl) : EvX X (.Subscript a b pos) env Rc := fun B Hf H σ st Q q =>
  wpE.of (pe_ix hr pe_wp pe_wp hs) (run2 sa ha hb h2 B Hf H σ st Q q)
theorem evd_ixL (ha : EvL X a env ds) (hb : EvD X b env (.int i)) (h : L2.atI ds i = some d) (hs : PlainIx b := by exact fun _ _ => rfl) : EvD X (.Subscript a b pos) env d :=
  evx_ix ix_list stable_L ha hb (r2_pure fun Hf H vx vy Q s ⟨l, xs, e, hl, r⟩ r2 q => by
    subst e
    obtain ⟨v, e1, e2⟩ := r.atI h
    exact ⟨l, xs, i, v, rfl, r2.inv_int, hl, e1, q _ e2⟩) hs
theorem evd_ixU (ha : EvD X a env (.tup ds)) (hb : EvD X b env (.int i)) (h : L2.atI ds i = some d) (hs : PlainIx b := by exact fun _ _ => rfl) : EvD X (.Subscript a b pos) env d :=
  evx_ix ix_tup stable_D ha hb (r2_pure fun Hf H vx vy Q s r0 r2 q => by
    obtain ⟨l, xs, e, hl, r⟩ := r0.inv_tup
    subst e
    obtain ⟨v, e1, e2⟩ := r.atI h
    exact ⟨l, xs, i, v, rfl, r2.inv_int, Same.seqT s hl, e1, q _ e2⟩) hs
theorem evd_ixS {t : Str} {c : Nat} (ha : EvD X a env (.str t)) (hb : EvD X b env (.int i)) (hl : t.length ≤ 1000000) (h : L2.atI t.cps.toList i = some c) (hs : PlainIx b := by exact fun _ _ => rfl) : EvD X (.Subscript a b pos) env (.str ⟨#[c]⟩) :=
  evx_ix ix_str stable_D ha hb (r2_pure fun Hf H vx vy Q s r0 r2 q => ⟨t, i, c, r0.inv_str, r2.inv_int, small_size hl, h, q _ (.str _)⟩) hs
theorem cut_reps {K : PySem.W.Frag} {H : Hp} {xs : List V} {ds : List D} (r : Reps K H xs ds) (lo hi : Option Int) : Reps K H (cutV xs lo hi) ((ds.drop (HT.sIx ds.length 0 lo)).take (HT.sIx ds.length ds.length hi - HT.sIx ds.length 0 lo)) := by
  unfold cutV
  rw [r.len]
  refine ⟨by simp [r.len], fun i x d h1 h2 => ?_⟩
  rw [List.getElem?_take] at h1 h2
  split at h1
  · rename_i hlt
    rw [if_pos hlt] at h2
    rw [List.getElem?_drop] at h1 h2
    exact r.at_ _ x d h1 h2
  · cases h1
theorem evd_slFromL {lo : Expr} {p2 : Pos} {n : Nat} (ha : EvL X a env ds) (hb : EvD X lo env (.int (n : Nat))) : EvD X (.Subscript a (.Slice (some lo) none none p2) pos) env (.lst (ds.drop n)) := fun B Hf H σ st Q q =>
  wpE.of (pe_slice sl_list pe_wp (po_some pe_wp) po_none) (ha B Hf H σ st _ fun v Hf1 H1 g1 ⟨l, xs, e, hl, r⟩ => hb B Hf1 H1 σ (st.grow g1) _ fun w Hf2 H2 g2 r2 => by
    subst e
    refine ⟨(n : Nat), r2.inv_int, l, xs, rfl, g2.h.seq hl, fun m hm => ?_⟩
    have r' := cut_reps (r.mono g2.f) (some ((n : Nat) : Int)) none
    rw [HT.sIx_nat, HT.sIx_none] at r'
    have e : (ds.drop (min n ds.length)).take (ds.length - min n ds.length) = ds.drop n := by
      by_cases h : n ≤ ds.length
      · rw [Nat.min_eq_left h]
        exact List.take_of_length_le (by simp)
      · rw [Nat.min_eq_right (by omega), List.drop_of_length_le (Nat.le_refl _), List.drop_of_length_le (by omega)]
        simp
    rw [e] at r'
    exact q (.ref m) _ _ ((g1.trans g2).trans (Grow.new g2.s hm)) (.lst_of (SqL.of upd_same) (r'.mono (same_upd (g2.s.free hm)))))

/-! ### texts -/
theorem evd_addS {s t : Str} (ha : EvD X a env (.str s)) (hb : EvD X b env (.str t)) (h : s.length + t.length ≤ 1000000) : EvD X (.BinOp a .Add b pos) env (.str (s ++ t)) :=
  evx_op op_add_str stable_D ha hb (r2_pure fun Hf H vx vy Q _ r1 r2 q => ⟨s, t, r1.inv_str, r2.inv_str, small_size h, q _ (.str _)⟩)
theorem evt_inS {s : Str} {c : Nat} (ha : EvD X a env (.str ⟨#[c]⟩)) (hb : EvD X b env (.str s)) (hm : behindInMarks .In b = false := by rfl) : EvT X (.Compare a [.In] [b] pos) env (decide (c ∈ s.cps.toList)) :=
  evt_cmp op_in_sign hm stable_D ha hb (r2_pure fun Hf H vx vy Q _ r1 r2 q => ⟨c, s, r1.inv_str, r2.inv_str, q _ (.bl _)⟩)
theorem evt_notInS {s : Str} {c : Nat} (ha : EvD X a env (.str ⟨#[c]⟩)) (hb : EvD X b env (.str s)) (hm : behindInMarks .NotIn b = false := by rfl) : EvT X (.Compare a [.NotIn] [b] pos) env (!decide (c ∈ s.cps.toList)) :=
  evt_cmp op_notIn_sign hm stable_D ha hb (r2_pure fun Hf H vx vy Q _ r1 r2 q => ⟨c, s, r1.inv_str, r2.inv_str, q _ (.bl _)⟩)

/-! ### lists that stand in the heap by themselves -/
theorem evm_var (i : Nat) {x : Str} (h : env[i]? = some (.own ds)) (hN : X.N[i]? = some x) (hv : Vis X.env.scope x) (hd : (x == ("__debug__" : Str)) = false := by decide) (hcd : (x == ("__classdict__" : Str)) = false := by decide) : EvX X (.Name x pos) env (isM X.K ds) :=
  evx_pure (pe_var hN hv hd hcd) fun B Hf H σ st Q q => by
    obtain ⟨p, xs, e, _, _, hp, r⟩ := st.own h
    exact ⟨.ref p, e, q _ ⟨p, xs, rfl, hp, r⟩⟩
theorem evm_lst (h : EvA X es env ds) (hl : ds.length ≤ 1000) : EvX X (.List es pos) env (isM X.K ds) := fun B Hf H σ st Q q =>
  wpE.of (pe_lst pa_wp) (h B Hf H σ st _ fun vs Hf1 H1 g1 r1 => ⟨by rw [r1.len]; exact Nat.le_of_lt (small1000 hl), fun p hp => q (.ref p) _ _ (g1.trans (Grow.new (o := .lst vs) g1.s hp)) ⟨p, vs, rfl, upd_same, r1.mono (same_upd (g1.s.free hp))⟩⟩)
theorem stable_M {K : PySem.W.Frag} {ds : List D} : Stable (isM K ds) := fun _ _ _ _ _ g ⟨p, xs, e, h, r⟩ => ⟨p, xs, e, g.h _ _ h, r.mono g.f⟩
theorem evd_cat {es' : List D} (ha : EvX X a env (isM X.K ds)) (hb : EvX X b env (isM X.K es')) (h : ds.length + es'.length ≤ 1000000) : EvD X (.BinOp a .Add b pos) env (.lst (ds ++ es')) :=
  evx_op op_cat stable_M ha hb (fun Hf H vx vy Q s r1 r2 q => by
    obtain ⟨l, xs, e1, h1, t1⟩ := r1
    obtain ⟨m, ys, e2, h2, t2⟩ := r2
    exact ⟨l, m, xs, ys, e1, e2, h1, h2, by rw [t1.len, t2.len]; exact small_size h, fun p hp => q _ _ _ (Grow.new s hp) (.lst_of (SqL.of upd_same) ((t1.append t2).mono (same_upd (s.free hp))))⟩)

/-! ### attributes -/
theorem evd_fld {f : Str} {C : Addr} {gs : List (Str × D)} (h : EvD X e env (.obj C gs)) (c : Cls X.K C) (n : NoAttr X.K C f) (hl : gs.lookup f = some d) (hb : attributeBase e f X.env (eval e X.env) = eval e X.env := by rfl) : EvD X (.Attribute e f pos) env d := fun B Hf H σ st Q q =>
  wpE.of (pe_fld pe_wp hb) (h B Hf H σ st _ fun v Hf1 H1 g1 r1 => by
    obtain ⟨a, dx, fs, e1, ha, t⟩ := r1.inv_obj
    obtain ⟨w, e2, e3⟩ := t.look hl
    exact ⟨a, C, dx, fs, w, e1, g1.s _ _ ha, c, n, e2, q w Hf1 H1 g1 e3⟩)
/-- a constant of the class through an instance -/
theorem evd_con {f : Str} {C : Addr} {gs : List (Str × D)} {v : V} {u : Value} (h : EvD X e env (.obj C gs)) (c : Cls X.K C) (n : Con X.K C f v u) (hl : gs.lookup f = none) (hr : ∀ Hf, Rep X.K Hf v d) (hb : attributeBase e f X.env (eval e X.env) = eval e X.env := by rfl) : EvD X (.Attribute e f pos) env d := fun B Hf H σ st Q q =>
  wpE.of (pe_con pe_wp hb) (h B Hf H σ st _ fun w Hf1 H1 g1 r1 => by
    obtain ⟨a, dx, fs, e1, ha, t⟩ := r1.inv_obj
    exact ⟨a, C, dx, fs, v, u, e1, g1.s _ _ ha, c, n, t.nolook hl, q v Hf1 H1 g1 (hr Hf1)⟩)
/-- a constant read off the class -/
theorem evd_cval {f : Str} {C : Addr} {mc : Value} {v : V} {u : Value} (h : EvD X e env (.cls C)) (c : ClX.CRead X.K C mc) (n : ClX.CVal X.K C mc f v u) (hr : ∀ Hf, Rep X.K Hf v d) (hb : attributeBase e f X.env (eval e X.env) = eval e X.env := by rfl) : EvD X (.Attribute e f pos) env d := fun B Hf H σ st Q q =>
  wpE.of (ClX.pe_cval pe_wp hb) (h B Hf H σ st _ fun w Hf1 H1 g1 r1 => ⟨C, mc, v, u, r1.inv_cls, c, n, q v Hf1 H1 g1 (hr Hf1)⟩)

/-! ### calls of the text's own defs -/
/-- a promise over data: R tells the arguments and the answer -/
def spD (K : PySem.W.Frag) (R : List D → D → Prop) : Sp := fun vs H Q _ => ∃ ds d Hf, Same Hf H ∧ Reps K Hf vs ds ∧ R ds d ∧ ∀ v Hf' H', Grow Hf H Hf' H' → Rep K Hf' v d → Q v H'
theorem spD_imp {K : PySem.W.Frag} {R R' : List D → D → Prop} (h : ∀ ds d, R' ds d → R ds d) {vs : List V} {H : Hp} {Q : VK} {E : XK} (q : spD K R' vs H Q E) : spD K R vs H Q E := by
  obtain ⟨ds, d, Hf, s, r, hR, k⟩ := q
  exact ⟨ds, d, Hf, s, r, h _ _ hR, k⟩
variable {CX : CXT} {k : Nat} {g : Addr} {fd : FuncData} {ps : List Str} {R : List D → D → Prop} {E : XK} {m : Str} {apos : Pos} {o : Expr} {C : Addr} {gs : List (Str × D)}
theorem evd_call (F : FnOk X.prog X.w X.K X.mg X.base CX k g fd ps (spD X.K R)) (hr : Room k X.A) (hg : Gl X f) (hm : X.mg f = some (.ref g)) (hk : PySem.W.keepIn X.K (.ref g) = true) (hb : Binds X.K fd ps []) (hx : Passes CX X E) (ha : EvA X (e :: es) env ds) (h : R ds d)
    (hdb : (f == ("__debug__" : Str)) = false := by decide) (he : starEach (e :: es) X.env = (false, eval e X.env) :: starEach es X.env := by rfl) (hpl : (backTo pos (starEach es X.env)).any (·.1) = false := by rfl) : EvD X (.Call (.Name f p) (e :: es) [] pos) env d := fun B Hf H σ st Q q =>
  wpE.of (pe_call (E := E) F hr hg hm hk hb .nil hx pa_wp hdb he hpl) (ha B Hf H σ st _ fun vs Hf1 H1 g1 r1 => by
    rw [List.append_nil]
    exact ⟨ds, d, Hf1, g1.s, r1, h, fun v Hf2 H2 g2 r2 => q v Hf2 H2 (g1.trans g2) r2⟩)
theorem evd_meth {pl : Sem Bool} (ho : EvD X o env (.obj C gs)) (c : Cls X.K C) (hm : Meth X.K C m g) (F : FnOk X.prog X.w X.K X.mg X.base CX k g fd ps (spD X.K R)) (hr : Room k X.A) (hb : Binds X.K fd ps []) (hx : Passes CX X E) (hl : gs.lookup m = none) (ha : EvA X (e :: es) env ds) (h : R (.obj C gs :: ds) d)
    (hst : starEach (e :: es) X.env = (false, eval e X.env) :: starEach es X.env := by rfl) (hpl : (backTo pos (starEach es X.env)).any (·.1) = false := by rfl)
    (ht : eval (.Call (.Attribute o m apos) (e :: es) [] pos) X.env = (do
      let ov ← eval o X.env
      standAt apos.atName
      let (f, first) ← holding [ov] (getMethod ov m pl)
      callWith pos f first (backTo pos (starEach (e :: es) X.env)) (backToKw pos (keywordEach [] X.env))) := by rfl) : EvD X (.Call (.Attribute o m apos) (e :: es) [] pos) env d := fun B Hf H σ st Q q =>
  wpE.of (pe_meth (E := E) (pl := pl) pe_wp c hm F hr hb .nil hx pa_wp hst hpl ht) (ho B Hf H σ st _ fun v Hf1 H1 g1 r1 => by
    obtain ⟨a, dx, fs, e1, hA, t⟩ := r1.inv_obj
    refine ⟨a, dx, fs, e1, g1.s _ _ hA, t.nolook hl, ?_⟩
    refine ha B Hf1 H1 σ (st.grow g1) _ fun vs Hf2 H2 g2 r2 => ?_
    rw [List.append_nil]
    exact ⟨.obj C gs :: ds, d, Hf2, g2.s, .cons (r1.mono g2.f) r2, h, fun v Hf3 H3 g3 r3 => q v Hf3 H3 ((g1.trans g2).trans g3) r3⟩)
theorem evd_meth0 {pl : Sem Bool} (ho : EvD X o env (.obj C gs)) (c : Cls X.K C) (hm : Meth X.K C m g) (F : FnOk X.prog X.w X.K X.mg X.base CX k g fd ps (spD X.K R)) (hr : Room k X.A) (hb : Binds X.K fd ps []) (hx : Passes CX X E) (hl : gs.lookup m = none) (h : R [.obj C gs] d)
    (ht : eval (.Call (.Attribute o m apos) [] [] pos) X.env = (do
      let ov ← eval o X.env
      standAt apos.atName
      let (f, first) ← holding [ov] (getMethod ov m pl)
      callWith pos f first (backTo pos (starEach [] X.env)) (backToKw pos (keywordEach [] X.env))) := by rfl) : EvD X (.Call (.Attribute o m apos) [] [] pos) env d := fun B Hf H σ st Q q =>
  wpE.of (pe_meth0 (E := E) (pl := pl) pe_wp c hm F hr hb .nil hx ht) (ho B Hf H σ st _ fun v Hf1 H1 g1 r1 => by
    obtain ⟨a, dx, fs, e1, hA, t⟩ := r1.inv_obj
    refine ⟨a, dx, fs, e1, g1.s _ _ hA, t.nolook hl, ?_⟩
    show spD X.K R [v] H1 _ E
    exact ⟨[.obj C gs], d, Hf1, g1.s, .cons r1 .nil, h, fun v Hf2 H2 g2 r2 => q v Hf2 H2 (g1.trans g2) r2⟩)
/-- the promise of an __init__: R tells the arguments, the fields ahead and behind -/
def minusP (H : Hp) (p : Addr) : Hp := fun a => if a = p then none else H a
def spI (K : PySem.W.Frag) (C : Addr) (R : List D → List (Str × D) → List (Str × D) → Prop) : Sp := fun vs H Q _ => ∃ p us ds Hf dx fs gs gs', vs = .ref p :: us ∧ Same Hf H ∧ Hf p = none ∧ H p = some (.ins C dx fs) ∧ FReps K Hf fs gs ∧ Reps K Hf us ds ∧ R ds gs gs' ∧
  ∀ dx' fs' Hf' H', Grow Hf (minusP H p) Hf' H' → Hf' p = none → H' p = some (.ins C dx' fs') → FReps K Hf' fs' gs' → Q .non H'
variable {RI : List D → List (Str × D) → List (Str × D) → Prop}
theorem make_run {K : PySem.W.Frag} {vs : List V} {Hf H : Hp} {Q : VK} (s : Same Hf H) (r : Reps K Hf vs ds) (h : RI ds [] gs) (q : ∀ v Hf' H', Grow Hf H Hf' H' → Rep K Hf' v (.obj C gs) → Q v H') :
    ∀ x dx, H x = none → H dx = none → dx ≠ x → spI K C RI (.ref x :: (vs ++ [])) (upd (upd H dx (.own x)) x (.ins C dx [])) (fun v H2 => v = .non ∧ Q (.ref x) H2) E := by
  intro x dx nx ndx ne
  have fx := s.free nx
  have s1 : Same H (upd (upd H dx (.own x)) x (.ins C dx [])) := fun b o e => by
    rw [upd_ne (ne_of_none e nx), upd_ne (ne_of_none e ndx)]
    exact e
  have sm : Same H (minusP (upd (upd H dx (.own x)) x (.ins C dx [])) x) := fun b o e => by
    unfold minusP
    rw [if_neg (ne_of_none e nx)]
    exact s1 b o e
  rw [List.append_nil]
  refine ⟨x, vs, ds, Hf, dx, [], [], gs, rfl, s.trans s1, fx, upd_same, .nil, r, h, fun dx' fs' Hf' H' g hn hx rf => ⟨rfl, ?_⟩⟩
  have sx : Same (upd Hf' x (.ins C dx' fs')) H' := fun b o e => by
    by_cases hb : b = x
    · subst hb
      rw [upd_same] at e
      cases e
      exact hx
    · rw [upd_ne hb] at e
      exact g.s b o e
  refine q (.ref x) (upd Hf' x (.ins C dx' fs')) H' ⟨g.f.trans (same_upd hn), sm.trans g.h, sx, fun b h1 h2 => ?_⟩ (.obj_of upd_same (rf.mono (same_upd hn)))
  have hb : b ≠ x := fun z => h2 (by rw [z]; exact nx)
  rw [upd_ne hb]
  refine g.n b h1 fun z => ?_
  cases e : H b with
  | none => exact h2 e
  | some o =>
    rw [sm b o e] at z
    cases z
theorem evd_make (M : Mk X.K C g) (F : FnOk X.prog X.w X.K X.mg X.base CX k g fd ps (spI X.K C RI)) (hr : Room (k + 1) X.A) (hg : Gl X f) (hm : X.mg f = some (.ref C)) (hb : Binds X.K fd ps []) (hx : Passes CX X E) (ha : EvA X (e :: es) env ds) (h : RI ds [] gs)
    (hdb : (f == ("__debug__" : Str)) = false := by decide) (he : starEach (e :: es) X.env = (false, eval e X.env) :: starEach es X.env := by rfl) (hpl : (backTo pos (starEach es X.env)).any (·.1) = false := by rfl) : EvD X (.Call (.Name f p) (e :: es) [] pos) env (.obj C gs) := fun B Hf H σ st Q q =>
  wpE.of (pe_make (E := E) M F hr hg hm hb .nil hx pa_wp hdb he hpl) (ha B Hf H σ st _ fun vs Hf1 H1 g1 r1 => make_run g1.s r1 h fun v Hf2 H2 g2 r2 => q v Hf2 H2 (g1.trans g2) r2)
end
end Dt
set_option maxHeartbeats 2000000
namespace Dt
open PySem PySem.Spec PyProof.Rows L2

/-! ### blocks -/
/-- what is wanted behind a block: of the names' data, of the data handed back -/
structure Post where
  nx : CEnv → Prop
  rt : D → Prop := fun _ => False
  bk : CEnv → Prop := fun _ => False
  ct : CEnv → Prop := fun _ => False
structure Fit (K : PySem.W.Frag) (B : Hp × Hp) (Hf0 : Hp) (E : Ends) (P : Post) : Prop where
  nx : ∀ (env : CEnv) (Hf H : Hp) (σ : St), P.nx env → Same Hf0 Hf → Stt K B Hf H σ env → E.nx σ H
  rt : ∀ (d : D) (v : V) (Hf H : Hp), P.rt d → Grow B.1 B.2 Hf H → Rep K Hf v d → E.rt v H
  bk : ∀ (env : CEnv) (Hf H : Hp) (σ : St), P.bk env → Same Hf0 Hf → Stt K B Hf H σ env → E.bk σ H
  ct : ∀ (env : CEnv) (Hf H : Hp) (σ : St), P.ct env → Same Hf0 Hf → Stt K B Hf H σ env → E.ct σ H
theorem Fit.later {K : PySem.W.Frag} {B : Hp × Hp} {Hf0 Hf1 : Hp} {E : Ends} {P : Post} (f : Fit K B Hf0 E P) (s : Same Hf0 Hf1) : Fit K B Hf1 E P :=
  ⟨fun env Hf H σ p q => f.nx env Hf H σ p (s.trans q), f.rt, fun env Hf H σ p q => f.bk env Hf H σ p (s.trans q), fun env Hf H σ p q => f.ct env Hf H σ p (s.trans q)⟩
/-- the block runs from env to what P wants -/
abbrev ExD (X : Cx) (sts : List Stmt) (env : CEnv) (P : Post) : Prop := ∀ B Hf H σ, Stt X.K B Hf H σ env → ∀ E : Ends, Fit X.K B Hf E P → wpSs X sts E σ H
abbrev ExS (X : Cx) (st : Stmt) (env : CEnv) (P : Post) : Prop := ∀ B Hf H σ, Stt X.K B Hf H σ env → ∀ E : Ends, Fit X.K B Hf E P → wpS X st E σ H
section
variable {X : Cx} {a b e tg o value : Expr} {es : List Expr} {env : CEnv} {pos pos' : Pos} {Ra Rb Rc : RV} {d x y z : D} {ds : List D} {i j : Int} {st : Stmt} {rest body : List Stmt} {P : Post}
theorem exd_nil (h : P.nx env) : ExD X [] env P := fun B Hf H σ st E f => wpSs.of pss_nil (f.nx env Hf H σ h (Same.refl _) st)
theorem exd_cons (h : ExS X st env { P with nx := fun env' => ExD X rest env' P }) : ExD X (st :: rest) env P := fun B Hf H σ s E f =>
  wpSs.of (pss_cons ps_wp pss_wp) (h B Hf H σ s { E with nx := wpSs X rest E } ⟨fun env' Hf' H' σ' h' q s' => h' B Hf' H' σ' s' E (f.later q), f.rt, f.bk, f.ct⟩)
theorem ExS.imp {P' : Post} (h : ExS X st env P') (h1 : ∀ env, P'.nx env → P.nx env) (h2 : ∀ d, P'.rt d → P.rt d) (h3 : ∀ env, P'.bk env → P.bk env) (h4 : ∀ env, P'.ct env → P.ct env) : ExS X st env P := fun B Hf H σ s E f =>
  h B Hf H σ s E ⟨fun env Hf H σ q => f.nx env Hf H σ (h1 env q), fun d v Hf H q => f.rt d v Hf H (h2 d q), fun env Hf H σ q => f.bk env Hf H σ (h3 env q), fun env Hf H σ q => f.ct env Hf H σ (h4 env q)⟩
theorem ExD.imp {P' : Post} (h : ExD X rest env P') (h1 : ∀ env, P'.nx env → P.nx env) (h2 : ∀ d, P'.rt d → P.rt d) (h3 : ∀ env, P'.bk env → P.bk env) (h4 : ∀ env, P'.ct env → P.ct env) : ExD X rest env P := fun B Hf H σ s E f =>
  h B Hf H σ s E ⟨fun env Hf H σ q => f.nx env Hf H σ (h1 env q), fun d v Hf H q => f.rt d v Hf H (h2 d q), fun env Hf H σ q => f.bk env Hf H σ (h3 env q), fun env Hf H σ q => f.ct env Hf H σ (h4 env q)⟩
/-- an own list is from now on data like any other -/
theorem exd_freeze (i : Nat) (h : env[i]? = some (.own ds)) (k : ExD X rest (env.set i (.frz (.lst ds))) P) : ExD X rest env P := fun B Hf H σ s E f => by
  obtain ⟨Hf', s1, s2⟩ := s.freeze h
  exact k B Hf' H σ s2 E (f.later s1)
theorem exd_forget (i : Nat) (k : ExD X rest (env.set i .junk) P) : ExD X rest env P := fun B Hf H σ s E f => k B Hf H σ (s.forget i) E f
theorem exs_pass (h : P.nx env) : ExS X (.Pass pos) env P := fun B Hf H σ s E f => wpS.of ps_pass (f.nx env Hf H σ h (Same.refl _) s)
theorem exs_break (h : P.bk env) : ExS X (.Break pos) env P := fun B Hf H σ s E f => wpS.of ps_break (f.bk env Hf H σ h (Same.refl _) s)
theorem exs_continue (h : P.ct env) : ExS X (.Continue pos) env P := fun B Hf H σ s E f => wpS.of ps_continue (f.ct env Hf H σ h (Same.refl _) s)
/-- name = e -/
theorem exs_set (i : Nat) {x : Str} (hN : X.N.Nodup) (hi : X.N[i]? = some x) (hx : Loc X.env.scope x) (he : EvD X e env d) (k : P.nx (env.set i (.frz d))) (hs : swapsWith e (some (.Name x pos')) pos.line X.env = pure false := by rfl) (hf : X.fn x = true ∨ X.env.scope.names.lookup x = some .local := by first | exact .inl rfl | exact .inr rfl | assumption) :
    ExS X (.Assign [.Name x pos'] e pos) env P := fun B Hf H σ s E f =>
  wpS.of (ps_set (i := i) hN hi hx pe_wp hs hf) (he B Hf H σ s _ fun v Hf1 H1 g1 r1 => f.nx _ Hf1 H1 _ k g1.f ((s.grow g1).set r1))
/-- name = [..], a list of the name's own -/
theorem exs_setM (i : Nat) {x : Str} (hN : X.N.Nodup) (hi : X.N[i]? = some x) (hx : Loc X.env.scope x) (he : EvA X es env ds) (hl : ds.length ≤ 1000) (k : P.nx (env.set i (.own ds))) (hs : swapsWith (.List es pos'') (some (.Name x pos')) pos.line X.env = pure false := by rfl) (hf : X.fn x = true ∨ X.env.scope.names.lookup x = some .local := by first | exact .inl rfl | exact .inr rfl | assumption) :
    ExS X (.Assign [.Name x pos'] (.List es pos'') pos) env P := fun B Hf H σ s E f =>
  wpS.of (ps_set (i := i) hN hi hx (pe_lst pa_wp) hs hf) (he B Hf H σ s _ fun vs Hf1 H1 g1 r1 => ⟨by rw [r1.len]; exact Nat.le_of_lt (small1000 hl), fun p hp => f.nx _ Hf1 _ _ k g1.f ((s.grow g1).setOwn hp r1)⟩)
/-- xs.append(e), xs a list of the name's own -/
theorem exs_append (i : Nat) {x : Str} {apos cpos npos : Pos} (h : env[i]? = some (.own ds)) (hN : X.N[i]? = some x) (hv : Vis X.env.scope x) (he : EvD X e env d) (hl : ds.length ≤ 1000000) (k : P.nx (env.set i (.own (ds ++ [d]))))
    (hd : (x == ("__debug__" : Str)) = false := by decide) (hcd : (x == ("__classdict__" : Str)) = false := by decide) (hbase : attributeBase (.Name x npos) "append" X.env (eval (.Name x npos) X.env) = eval (.Name x npos) X.env := by rfl)
    (hfew : ((backTo cpos (starEach [e] X.env)).all (fun x => !x.1) && (backToKw cpos (keywordEach [] X.env)).all (fun x => x.1.isSome) && decide ([e].length + ([] : List Keyword).length + (if ([] : List Keyword).isEmpty then 0 else 1) < 30)) = true := by rfl)
    (hline : (apos.endLine == cpos.line) = true := by rfl) (hst : starEach [e] X.env = (false, eval e X.env) :: starEach [] X.env := by rfl) (hs : swapsWith (.Call (.Attribute (.Name x npos) "append" apos) [e] [] cpos) none pos.line X.env = pure false := by rfl) :
    ExS X (.Expr (.Call (.Attribute (.Name x npos) "append" apos) [e] [] cpos) pos) env P := fun B Hf H σ s E f =>
  wpS.of (ps_expr (pe_bm PySem.F.plainAttrs_list PySem.F.slot_list_append PySem.F.type_list_append mt_append (pe_var hN hv hd hcd) (pa_cons pe_wp pa_nil hst) hbase hfew hline hst) hs) (by
    obtain ⟨p, xs, e1, h0, hf, hp, r⟩ := s.own h
    refine ⟨_, e1, .inl ⟨rfl, _, SqL.of hp⟩, ?_⟩
    refine he B Hf H σ s _ fun v Hf1 H1 g1 r1 => ?_
    have s1 := s.grow g1
    have hp1 := g1.h _ _ hp
    refine ⟨p, xs, v, rfl, rfl, hp1, ?_, ?_⟩
    · have := r.len
      rw [sizeLine_eq]
      omega
    · exact f.nx _ Hf1 _ _ k g1.f (s1.mutOwn h e1 ((r.mono g1.f).snoc r1)))
/-- xs[i] = e, xs a list of the name's own -/
theorem exs_setItem (i : Nat) {x : Str} {ix : Expr} {npos : Pos} {n : Int} {j : Nat} (h : env[i]? = some (.own ds)) (hN : X.N[i]? = some x) (hv : Vis X.env.scope x) (he : EvD X e env d) (hi : EvD X ix env (.int n)) (hj : ixN ds.length n = some j) (k : P.nx (env.set i (.own (ds.set j d))))
    (hd : (x == ("__debug__" : Str)) = false := by decide) (hcd : (x == ("__classdict__" : Str)) = false := by decide) (hs : swapsWithSole [.Subscript (.Name x npos) ix pos'] e pos.line X.env = pure false := by rfl) (hw : swappedStores [.Subscript (.Name x npos) ix pos'] e X.env = pure none := by rfl)
    (hasg : ∀ v, assign (.Subscript (.Name x npos) ix pos') X.env v = (do
      let ov ← holding [v] (eval (.Name x npos) X.env)
      let iv ← holding [v, ov] (eval ix X.env)
      standAt pos'
      holding [v, ov, iv] (setItem ov iv v)
      release [v, ov, iv] []) := by intro _; rfl) :
    ExS X (.Assign [.Subscript (.Name x npos) ix pos'] e pos) env P := fun B Hf H σ s E f =>
  wpS.of (ps_asg pe_wp (pg_sub (pe_var hN hv hd hcd) pe_wp set_list hasg) hs hw) (he B Hf H σ s _ fun v Hf1 H1 g1 r1 => by
    have s1 := s.grow g1
    obtain ⟨p, xs, e1, h0, hf, hp, r⟩ := s1.own h
    refine ⟨_, e1, ?_⟩
    refine hi B Hf1 H1 σ s1 _ fun w Hf2 H2 g2 r2 => ?_
    have s2 := s1.grow g2
    refine ⟨p, xs, n, j, rfl, r2.inv_int, g2.h _ _ hp, by rw [r.len]; exact hj, ?_⟩
    exact f.nx _ Hf2 _ _ k (g1.f.trans g2.f) (s2.mutOwn h e1 ((r.mono g2.f).set (r1.mono g2.f) j)))
theorem exs_expr (he : EvX X e env Ra) (k : P.nx env) (hs : swapsWith e none pos.line X.env = pure false := by rfl) : ExS X (.Expr e pos) env P := fun B Hf H σ s E f =>
  wpS.of (ps_expr pe_wp hs) (he B Hf H σ s _ fun v Hf1 H1 g1 r1 => f.nx _ Hf1 H1 _ k g1.f (s.grow g1))
theorem exs_ret (he : EvD X e env d) (k : P.rt d) : ExS X (.Return (some e) pos) env P := fun B Hf H σ s E f =>
  wpS.of (ps_ret pe_wp) (he B Hf H σ s _ fun v Hf1 H1 g1 r1 => f.rt d v Hf1 H1 k (s.grow g1).g r1)
theorem exs_retN (k : P.rt .non) : ExS X (.Return none pos) env P := fun B Hf H σ s E f => wpS.of ps_retN (f.rt .non _ Hf H k s.g .non)
theorem exs_if {c : Expr} {u v : List Stmt} {k : Bool} (hc : EvT X c env k) (h1 : k = true → ExD X u env P) (h2 : k = false → ExD X v env P) : ExS X (.If c u v pos) env P := fun B Hf H σ s E f =>
  wpS.of (ps_if pt_wp pss_wp pss_wp) (hc B Hf H σ s _ fun Hf1 H1 g1 => by
    cases k with
    | true => exact iteT (h1 rfl B Hf1 H1 σ (s.grow g1) E (f.later g1.f))
    | false => exact iteF (h2 rfl B Hf1 H1 σ (s.grow g1) E (f.later g1.f)))
/-- self.f = e, within __init__ -/
theorem len_putD (f : Str) (d : D) : ∀ gs : List (Str × D), (putD f d gs).length ≤ gs.length + 1
  | [] => Nat.le_refl _
  | (g, e) :: r => by
    unfold putD
    split
    · simp
    · have := len_putD f d r
      simp
      omega
theorem FReps.put {K : PySem.W.Frag} {H : Hp} {v : V} {d : D} {f : Str} (r : Rep K H v d) : ∀ {fs : List (Str × V)} {gs : List (Str × D)}, FReps K H fs gs → FReps K H (putF f v fs) (putD f d gs) := by
  intro fs gs
  induction gs generalizing fs with
  | nil =>
    intro t
    rw [t.inv_nil]
    exact .cons r .nil
  | cons g gr ih =>
    intro t
    obtain ⟨g, e⟩ := g
    obtain ⟨w, hs, rfl, rw', t'⟩ := t.inv_cons
    unfold putF putD
    by_cases h : g = f
    · rw [if_pos h, if_pos h]
      exact .cons r t'
    · rw [if_neg h, if_neg h]
      exact .cons rw' (ih t')
theorem exs_fld (i : Nat) {x f : Str} {npos : Pos} {p C : Addr} {gs : List (Str × D)} (h : env[i]? = some (.ins p C gs)) (hN : X.N[i]? = some x) (hv : Vis X.env.scope x) (he : EvD X e env d) (c : Cls X.K C) (n : NoAttr X.K C f) (hl : gs.length ≤ 900) (k : P.nx (env.set i (.ins p C (putD f d gs))))
    (hd : (x == ("__debug__" : Str)) = false := by decide) (hcd : (x == ("__classdict__" : Str)) = false := by decide) (hs : swapsWith e (some (.Attribute (.Name x npos) f pos')) pos.line X.env = pure false := by rfl) :
    ExS X (.Assign [.Attribute (.Name x npos) f pos'] e pos) env P := fun B Hf H σ s E ft =>
  wpS.of (ps_fld (pe_var hN hv hd hcd) pe_wp hs) (he B Hf H σ s _ fun v Hf1 H1 g1 r1 => by
    have s1 := s.grow g1
    obtain ⟨dx, vs, e1, h0, hf, hp, r⟩ := s1.ins h
    refine ⟨_, e1, p, C, dx, vs, rfl, hp, c, n, ?_, ?_⟩
    · have := congrArg List.length r.nm
      simp only [List.length_map] at this
      omega
    · exact ft.nx _ Hf1 _ _ k g1.f (s1.mutIns h (r.put r1)))

/-! ### targets -/
def wpG (X : Cx) (tg : Expr) : TG := fun v σ H Q => ∀ (pins : List (Addr × Obj)) (s : Shared) (u : Value), Inv X pins σ H s → RelV v u → wpAny (model X.prog X.w) X.A (assign tg X.env u) (fun _ s' => ∃ σ' H', Inv X pins σ' H' s' ∧ Q σ' H') X.xe s
def wpGs (X : Cx) (ts : List Expr) : TGs := fun vs σ H Q => ∀ (pins : List (Addr × Obj)) (s : Shared) (us : List Value), Inv X pins σ H s → Vals vs us → wpAny (model X.prog X.w) X.A (assignInOrder ((assignEach ts X.env).map (·.2)) us) (fun _ s' => ∃ σ' H', Inv X pins σ' H' s' ∧ Q σ' H') X.xe s
theorem pg_wp : PG X tg (wpG X tg) := ⟨fun pins s _ _ _ u _ I r h => h pins s u I r⟩
theorem pgs_wp : PGs X es (wpGs X es) := ⟨fun pins s _ _ _ us _ I r h => h pins s us I r⟩
theorem wpG.of {t : TG} (h : PG X tg t) {v : V} {σ : St} {H : Hp} {Q : St → Hp → Prop} (q : t v σ H Q) : wpG X tg v σ H Q := fun pins s u I r => h.run pins s σ H v u Q I r q
theorem wpGs.of {t : TGs} (h : PGs X es t) {vs : List V} {σ : St} {H : Hp} {Q : St → Hp → Prop} (q : t vs σ H Q) : wpGs X es vs σ H Q := fun pins s us I r => h.run pins s σ H vs us Q I r q
def setAll : St → List Nat → List V → St
  | σ, i :: is, v :: vs => setAll (σ.set i (some v)) is vs
  | σ, _, _ => σ
def bindE : CEnv → List (Nat × D) → CEnv
  | env, (i, d) :: r => bindE (env.set i (.frz d)) r
  | env, [] => env
theorem setAll_app : ∀ {is js : List Nat} {vs ws : List V} {σ : St}, is.length = vs.length → setAll σ (is ++ js) (vs ++ ws) = setAll (setAll σ is vs) js ws
  | [], _, [], _, _, _ => rfl
  | _ :: is, js, _ :: vs, ws, _, h => setAll_app (is := is) (js := js) (vs := vs) (ws := ws) (by simpa using h)
  | [], _, _ :: _, _, _, h => by simp at h
  | _ :: _, _, [], _, _, h => by simp at h
theorem Stt.bind {K : PySem.W.Frag} {B : Hp × Hp} {Hf H : Hp} : ∀ {bs : List (Nat × D)} {vs : List V} {σ : St} {env : CEnv}, Stt K B Hf H σ env → Reps K Hf vs (bs.map (·.2)) → Stt K B Hf H (setAll σ (bs.map (·.1)) vs) (bindE env bs)
  | [], vs, σ, env, st, r => by
    rw [r.inv_nil]
    exact st
  | (i, d) :: bs, vs, σ, env, st, r => by
    obtain ⟨v, ys, rfl, rv, rt⟩ := r.inv_cons
    exact Stt.bind (bs := bs) (st.set rv) rt
/-- the data d at the target: the names' data bs -/
abbrev TgB (X : Cx) (tg : Expr) (d : D) (bs : List (Nat × D)) : Prop := ∀ Hf H σ v, Same Hf H → Rep X.K Hf v d → ∀ Q : St → Hp → Prop, (∀ vs, Reps X.K Hf vs (bs.map (·.2)) → Q (setAll σ (bs.map (·.1)) vs) H) → wpG X tg v σ H Q
abbrev TgBs (X : Cx) (ts : List Expr) (ds : List D) (bs : List (Nat × D)) : Prop := ∀ Hf H σ vs, Same Hf H → Reps X.K Hf vs ds → ∀ Q : St → Hp → Prop, (∀ ws, Reps X.K Hf ws (bs.map (·.2)) → Q (setAll σ (bs.map (·.1)) ws) H) → wpGs X ts vs σ H Q
theorem tgb_name (i : Nat) {x : Str} (hN : X.N.Nodup) (hi : X.N[i]? = some x) (hx : Loc X.env.scope x) (hf : X.fn x = true ∨ X.env.scope.names.lookup x = some .local := by first | exact .inl rfl | exact .inr rfl | assumption) : TgB X (.Name x pos) d [(i, d)] := fun Hf H σ v s r Q q =>
  wpG.of (pg_name (i := i) hN hi hx hf) (q [v] (.cons r .nil))
theorem tgbs_nil : TgBs X [] [] [] := fun Hf H σ vs s r Q q => wpGs.of pgs_nil ⟨r.inv_nil, q [] .nil⟩
theorem tgbs_cons {bs cs : List (Nat × D)} (h : TgB X e d bs) (t : TgBs X es ds cs) (hs : (assignEach (e :: es) X.env).map (·.2) = assign e X.env :: (assignEach es X.env).map (·.2) := by rfl) : TgBs X (e :: es) (d :: ds) (bs ++ cs) := fun Hf H σ vs s r Q q => by
  obtain ⟨v, ys, rfl, rv, rt⟩ := r.inv_cons
  refine wpGs.of (pgs_cons pg_wp pgs_wp hs) ⟨v, ys, rfl, h Hf H σ v s rv _ fun w1 r1 => t Hf H _ ys s rt _ fun w2 r2 => ?_⟩
  have q' := q (w1 ++ w2) (by rw [List.map_append]; exact r1.append r2)
  rw [List.map_append, setAll_app (by rw [r1.len]; simp)] at q'
  exact q'
theorem tgb_tup {k n : Nat} {bs : List (Nat × D)} (hc : X.calm = true) (h : TgBs X es ds bs) (hl : ds.length = n) (hn : (assignEach es X.env).length = n := by rfl) (hst : (assignEach es X.env).findIdx? (·.1) = none := by rfl) : TgB X (.Tuple es k pos) (.tup ds) bs := fun Hf H σ v s r Q q => by
  obtain ⟨a, xs, rfl, hq, rt⟩ := r.inv_tup
  exact wpG.of (pg_tup hc pgs_wp hn hst) ⟨a, xs, rfl, Same.seqT s hq, by rw [rt.len, hl], h Hf H σ xs s rt Q q⟩
/-- a, b = e -/
theorem exs_asg {bs : List (Nat × D)} (he : EvD X e env d) (hg : TgB X tg d bs) (k : P.nx (bindE env bs)) (hs : swapsWithSole [tg] e pos.line X.env = pure false := by rfl) (hw : swappedStores [tg] e X.env = pure none := by rfl)
    (h1 : (assignEach [tg] X.env).map (·.2) = [assign tg X.env] := by rfl) : ExS X (.Assign [tg] e pos) env P := fun B Hf H σ s E f =>
  wpS.of (ps_asg pe_wp pg_wp hs hw h1) (he B Hf H σ s _ fun v Hf1 H1 g1 r1 => hg Hf1 H1 σ v g1.s r1 _ fun vs r2 => f.nx _ Hf1 H1 _ k g1.f ((s.grow g1).bind r2))

/-! ### loops -/
/-- an iterator that gives the data ds, one after another -/
def ItD (K : PySem.W.Frag) (J : It) (Hf0 : Hp) (ds : List D) : Prop := ∀ Hf H, Same Hf0 Hf → Same Hf H → J.stop ds.length H ∧ ∀ i d, ds[i]? = some d → J.go i H ∧ ∀ x H', J.yld i H x H' → ∃ Hf', Grow Hf H Hf' H' ∧ Rep K Hf' x d
abbrev EvI (X : Cx) (tg it : Expr) (env : CEnv) (ds : List D) : Prop := ∀ B Hf H σ, Stt X.K B Hf H σ env → ∀ R : It → Hp → Prop, (∀ J Hf' H', Grow Hf H Hf' H' → ItD X.K J Hf' ds → R J H') → wpI X tg it σ H R
theorem itd_list {K : PySem.W.Frag} {Hf : Hp} {p : Addr} {xs : List V} (h : SqL K Hf p xs) (r : Reps K Hf xs ds) : ItD K (Itl K p) Hf ds := fun Hf1 H1 s1 s2 => by
  have h1 : SqL K H1 p xs := s2.seq (s1.seq h)
  refine ⟨⟨xs, h1, by rw [r.len]; exact Nat.le_refl _⟩, fun i d hd => ?_⟩
  obtain ⟨x, hx, rx⟩ := r.get hd
  refine ⟨⟨xs, x, h1, hx⟩, fun y H' hy => ?_⟩
  obtain ⟨rfl, hy⟩ := hy
  have := hy xs h1
  rw [hx] at this
  cases this
  exact ⟨Hf1, Grow.refl s2, rx.mono s1⟩
theorem itd_tup {K : PySem.W.Frag} {Hf : Hp} {p : Addr} {xs : List V} (h : SqT K Hf p xs) (r : Reps K Hf xs ds) : ItD K (Itt K p) Hf ds := fun Hf1 H1 s1 s2 => by
  have h1 : SqT K H1 p xs := Same.seqT s2 (Same.seqT s1 h)
  refine ⟨⟨xs, h1, by rw [r.len]; exact Nat.le_refl _⟩, fun i d hd => ?_⟩
  obtain ⟨x, hx, rx⟩ := r.get hd
  refine ⟨⟨xs, x, h1, hx⟩, fun y H' hy => ?_⟩
  obtain ⟨rfl, hy⟩ := hy
  have := hy xs h1
  rw [hx] at this
  cases this
  exact ⟨Hf1, Grow.refl s2, rx.mono s1⟩
def dRange (lo : Int) (n : Nat) : List D := (List.range n).map fun (k : Nat) => D.int (lo + k)
theorem dRange_len (lo : Int) (n : Nat) : (dRange lo n).length = n := by simp [dRange]
theorem dRange_get {lo : Int} {n i : Nat} {d : D} (h : (dRange lo n)[i]? = some d) : i < n ∧ d = .int (lo + i) := by
  unfold dRange at h
  rw [List.getElem?_map] at h
  by_cases hi : i < n
  · rw [List.getElem?_range hi] at h
    cases h
    exact ⟨hi, rfl⟩
  · rw [List.getElem?_eq_none (by simp; omega)] at h
    cases h
theorem itd_range {K : PySem.W.Frag} {Hf : Hp} {lo : Int} {n : Nat} : ItD K (Itr lo n) Hf (dRange lo n) := fun Hf1 H1 s1 s2 => by
  refine ⟨by rw [dRange_len]; exact Nat.le_refl n, fun i d hd => ?_⟩
  obtain ⟨hi, rfl⟩ := dRange_get hd
  refine ⟨hi, fun y H' hy => ?_⟩
  obtain ⟨rfl, rfl⟩ := hy
  exact ⟨Hf1, Grow.refl s2, .int _⟩
theorem itd_enum {K : PySem.W.Frag} {Hf : Hp} {p : Addr} {xs : List V} (h : SqL K Hf p xs) (r : Reps K Hf xs ds) : ItD K (Ite K p) Hf (ds.zipIdx.map fun x => .tup [.int (x.2 : Nat), x.1]) := fun Hf1 H1 s1 s2 => by
  have h1 : SqL K H1 p xs := s2.seq (s1.seq h)
  refine ⟨⟨xs, h1, by rw [r.len]; simp⟩, fun i d hd => ?_⟩
  rw [List.getElem?_map, List.getElem?_zipIdx] at hd
  cases he : ds[i]? with
  | none => rw [he] at hd; cases hd
  | some d0 =>
    rw [he] at hd
    cases hd
    obtain ⟨x, hx, rx⟩ := r.get he
    refine ⟨⟨xs, x, h1, hx⟩, fun y H' hy => ?_⟩
    obtain ⟨T, x', rfl, hT, rfl, hy⟩ := hy
    have := hy xs h1
    rw [hx] at this
    cases this
    refine ⟨upd Hf1 T (.tup [.int (i : Nat), x]), Grow.new s2 hT, .tup_of (SqT.of upd_same) ?_⟩
    have e : (0 + i) = i := by omega
    exact .cons (by simpa using Rep.int _) (.cons (rx.mono (s1.trans (same_upd (s2.free hT)))) .nil)
theorem itd_zip {K : PySem.W.Frag} {Hf : Hp} {p q : Addr} {xs ys : List V} {es' : List D} (h : SqL K Hf p xs) (r : Reps K Hf xs ds) (h' : SqL K Hf q ys) (r' : Reps K Hf ys es') : ItD K (Itz K p q) Hf ((ds.zip es').map fun x => .tup [x.1, x.2]) := fun Hf1 H1 s1 s2 => by
  have h1 : SqL K H1 p xs := s2.seq (s1.seq h)
  have h2 : SqL K H1 q ys := s2.seq (s1.seq h')
  refine ⟨⟨xs, ys, h1, h2, by rw [r.len, r'.len]; simp; omega⟩, fun i d hd => ?_⟩
  rw [List.getElem?_map] at hd
  cases he : (ds.zip es')[i]? with
  | none => rw [he] at hd; cases hd
  | some d0 =>
    rw [he] at hd
    cases hd
    obtain ⟨d1, d2⟩ := d0
    rw [List.getElem?_zip_eq_some] at he
    obtain ⟨x, hx, rx⟩ := r.get he.1
    obtain ⟨y, hy, ry⟩ := r'.get he.2
    refine ⟨⟨xs, ys, x, y, h1, h2, hx, hy⟩, fun z H' hz => ?_⟩
    obtain ⟨T, x', y', rfl, hT, rfl, hz1, hz2⟩ := hz
    have z1 := hz1 xs h1
    have z2 := hz2 ys h2
    rw [hx] at z1
    rw [hy] at z2
    cases z1
    cases z2
    exact ⟨upd Hf1 T (.tup [x, y]), Grow.new s2 hT, .tup_of (SqT.of upd_same) (.cons (rx.mono (s1.trans (same_upd (s2.free hT)))) (.cons (ry.mono (s1.trans (same_upd (s2.free hT)))) .nil))⟩
theorem evi_list (he : EvD X e env (.lst ds)) : EvI X tg e env ds := fun B Hf H σ st R q => wpI.of (pi_list pe_wp) (he B Hf H σ st _ fun v Hf1 H1 g1 r1 => by
  obtain ⟨p, xs, rfl, hs, r⟩ := r1.inv_lst
  exact ⟨p, rfl, ⟨xs, g1.s.seq hs⟩, q _ Hf1 H1 g1 (itd_list hs r)⟩)
theorem evi_tup (he : EvD X e env (.tup ds)) : EvI X tg e env ds := fun B Hf H σ st R q => wpI.of (pi_tup pe_wp) (he B Hf H σ st _ fun v Hf1 H1 g1 r1 => by
  obtain ⟨p, xs, rfl, hs, r⟩ := r1.inv_tup
  exact ⟨p, rfl, ⟨xs, Same.seqT g1.s hs⟩, q _ Hf1 H1 g1 (itd_tup hs r)⟩)
theorem evi_range1 {p : Pos} {n : Int} (hg : Gl X "range") (hm : X.mg "range" = none) (he : EvD X e env (.int n)) (h1 : -(2 ^ 62) ≤ n) (h2 : n < 2 ^ 62) (hs : starEach [e] X.env = [(false, eval e X.env)] := by rfl) : EvI X tg (.Call (.Name "range" p) [e] [] pos) env (dRange 0 n.toNat) := fun B Hf H σ st R q =>
  wpI.of (pi_range1 hg hm (pa_cons pe_wp pa_nil hs) hs) (he B Hf H σ st _ fun v Hf1 H1 g1 r1 => ⟨n, by rw [r1.inv_int], h1, h2, q _ Hf1 H1 g1 itd_range⟩)
theorem evi_range2 {p : Pos} {m n : Int} (hg : Gl X "range") (hm : X.mg "range" = none) (ha : EvD X a env (.int m)) (hb : EvD X b env (.int n)) (h1 : -(2 ^ 62) ≤ m ∧ m < 2 ^ 62 ∧ -(2 ^ 62) ≤ n ∧ n < 2 ^ 62) (hs : starEach [a, b] X.env = [(false, eval a X.env), (false, eval b X.env)] := by rfl) (hs2 : starEach [b] X.env = [(false, eval b X.env)] := by rfl)
    : EvI X tg (.Call (.Name "range" p) [a, b] [] pos) env (dRange m (n - m).toNat) := fun B Hf H σ st R q =>
  wpI.of (pi_range2 hg hm (pa_cons pe_wp (pa_cons pe_wp pa_nil hs2) (by rw [hs, hs2])) hs hs2) (ha B Hf H σ st _ fun v Hf1 H1 g1 r1 => hb B Hf1 H1 σ (st.grow g1) _ fun w Hf2 H2 g2 r2 => ⟨m, n, by rw [r1.inv_int, r2.inv_int], h1, q _ Hf2 H2 (g1.trans g2) itd_range⟩)
theorem evi_enum {p tpos : Pos} {elts : List Expr} {kk : Nat} (hg : Gl X "enumerate") (hm : X.mg "enumerate" = none) (he : EvD X e env (.lst ds)) (hs : starEach [e] X.env = [(false, eval e X.env)] := by rfl) : EvI X (.Tuple elts kk tpos) (.Call (.Name "enumerate" p) [e] [] pos) env (ds.zipIdx.map fun x => .tup [.int (x.2 : Nat), x.1]) := fun B Hf H σ st R q =>
  wpI.of (pi_enum hg hm (pa_cons pe_wp pa_nil hs) hs) (he B Hf H σ st _ fun v Hf1 H1 g1 r1 => by
    obtain ⟨l, xs, rfl, hl, r⟩ := r1.inv_lst
    exact ⟨l, xs, rfl, g1.s.seq hl, q _ Hf1 H1 g1 (itd_enum hl r)⟩)
theorem evi_zip {p tpos : Pos} {elts : List Expr} {kk : Nat} {es' : List D} (hg : Gl X "zip") (hm : X.mg "zip" = none) (ha : EvD X a env (.lst ds)) (hb : EvD X b env (.lst es')) (hs : starEach [a, b] X.env = (false, eval a X.env) :: starEach [b] X.env := by rfl) (hs2 : starEach [b] X.env = (false, eval b X.env) :: starEach [] X.env := by rfl) (hpl : (backTo pos (starEach [b] X.env)).any (·.1) = false := by rfl) :
    EvI X (.Tuple elts kk tpos) (.Call (.Name "zip" p) [a, b] [] pos) env ((ds.zip es').map fun x => .tup [x.1, x.2]) := fun B Hf H σ st R q =>
  wpI.of (pi_zip hg hm (pa_cons pe_wp (pa_cons pe_wp pa_nil hs2) hs) hs hpl) (ha B Hf H σ st _ fun v Hf1 H1 g1 r1 => hb B Hf1 H1 σ (st.grow g1) _ fun w Hf2 H2 g2 r2 => by
    obtain ⟨l, xs, rfl, hl, r⟩ := r1.inv_lst
    obtain ⟨m, ys, rfl, hm', r'⟩ := r2.inv_lst
    exact ⟨l, m, xs, ys, rfl, (g2.h.seq (g1.s.seq hl)), g2.s.seq hm', q _ Hf2 H2 (g1.trans g2) (itd_zip (g2.f.seq hl) (r.mono g2.f) hm' r')⟩)
/-- for target in iter: body -/
theorem exs_for {it : Expr} (Iv : Nat → CEnv → Prop) (hc : X.calm = true) (hi : EvI X tg it env ds) (h0 : Iv 0 env)
    (hs : ∀ i d env1, ds[i]? = some d → Iv i env1 → ∃ bs, TgB X tg d bs ∧ ExD X body (bindE env1 bs) { nx := Iv (i + 1), ct := Iv (i + 1), rt := P.rt, bk := P.nx }) (hd : ∀ env1, Iv ds.length env1 → P.nx env1)
    (hp : PassesOwn (model X.prog X.w) X.A X.env X.xe := by exact PassesOwn.never) (hset : ∀ x, foldedSetIterable it X.env x = pure x := by intro _; rfl) : ExS X (.For tg it body [] pos) env P := fun B Hf H σ s E f =>
  wpS.of (ps_for hp hc pi_wp pg_wp pss_wp hset) (hi B Hf H σ s _ fun J Hf1 H1 g1 hJ => by
    refine ⟨fun i m σ' H' => m = ds.length - i ∧ i ≤ ds.length ∧ ∃ env1 Hf', Iv i env1 ∧ Same Hf1 Hf' ∧ Stt X.K B Hf' H' σ' env1, ⟨ds.length, by simp, Nat.zero_le _, env, Hf1, h0, Same.refl _, s.grow g1⟩, ?_⟩
    rintro i m σ' H' ⟨rfl, hle, env1, Hf', hI, s1, st1⟩
    obtain ⟨j1, j2⟩ := hJ Hf' H' s1 st1.s
    by_cases hlt : i < ds.length
    · obtain ⟨j3, j4⟩ := j2 i _ (List.getElem?_eq_getElem hlt)
      refine .inr ⟨j3, fun σ'' H'' => ∃ env2 Hf'', Iv (i + 1) env2 ∧ Same Hf1 Hf'' ∧ Stt X.K B Hf'' H'' σ'' env2, fun σ'' H'' ⟨env2, Hf'', a, b, c⟩ => ⟨ds.length - (i + 1), by omega, rfl, hlt, env2, Hf'', a, b, c⟩, fun x H'' hy => ?_⟩
      obtain ⟨Hf2, g2, r2⟩ := j4 x H'' hy
      obtain ⟨bs, hg, hb⟩ := hs i _ env1 (List.getElem?_eq_getElem hlt) hI
      refine hg Hf2 H'' σ' x g2.s r2 _ fun vs rv => ?_
      have st2 := (st1.grow g2).bind rv
      have sf : Same Hf1 Hf2 := s1.trans g2.f
      have f2 := f.later (g1.f.trans sf)
      exact hb B Hf2 H'' _ st2 _ ⟨fun env' Hf' H' σ' q t s' => ⟨env', Hf', q, sf.trans t, s'⟩, f2.rt, f2.nx, fun env' Hf' H' σ' q t s' => ⟨env', Hf', q, sf.trans t, s'⟩⟩
    · have e : i = ds.length := by omega
      subst e
      exact .inl ⟨j1, f.nx env1 Hf' H' σ' (hd env1 hI) (g1.f.trans s1) st1⟩)
/-- while test: body; Iv by a measure -/
theorem exs_while {c : Expr} (Iv : Nat → CEnv → Prop) (m0 : Nat) (h0 : Iv m0 env)
    (hs : ∀ m env1, Iv m env1 → ∃ k, EvT X c env1 k ∧ (k = true → ExD X body env1 { nx := fun e => ∃ m', m' < m ∧ Iv m' e, ct := fun e => ∃ m', m' < m ∧ Iv m' e, rt := P.rt, bk := P.nx }) ∧ (k = false → P.nx env1))
    (hp : PassesOwn (model X.prog X.w) X.A X.env X.xe := by exact PassesOwn.never) : ExS X (.While c body [] pos) env P := fun B Hf H σ s E f =>
  wpS.of (ps_while hp pt_wp pss_wp) (by
    refine ⟨fun m σ' H' => ∃ env1 Hf', Iv m env1 ∧ Same Hf Hf' ∧ Stt X.K B Hf' H' σ' env1, ⟨m0, env, Hf, h0, Same.refl _, s⟩, ?_⟩
    rintro m σ' H' ⟨env1, Hf', hI, s1, st1⟩
    obtain ⟨k, hc, h1, h2⟩ := hs m env1 hI
    refine hc B Hf' H' σ' st1 _ fun Hf2 H2 g2 => ?_
    have sf := s1.trans g2.f
    have f2 := f.later sf
    cases k with
    | true =>
      refine iteT ⟨fun σ'' H'' => ∃ m', m' < m ∧ ∃ env2 Hf'', Iv m' env2 ∧ Same Hf Hf'' ∧ Stt X.K B Hf'' H'' σ'' env2, fun σ'' H'' q => q, ?_⟩
      exact h1 rfl B Hf2 H2 σ' (st1.grow g2) _ ⟨fun env' Hf' H' σ' ⟨m', l, q⟩ t s' => ⟨m', l, env', Hf', q, sf.trans t, s'⟩, f2.rt, f2.nx, fun env' Hf' H' σ' ⟨m', l, q⟩ t s' => ⟨m', l, env', Hf', q, sf.trans t, s'⟩⟩
    | false => exact iteF (f2.nx env1 Hf2 H2 σ' (h2 rfl) (Same.refl _) (st1.grow g2)))
end
end Dt
set_option maxHeartbeats 2000000
namespace Dt
open PySem PySem.Spec PyProof.Rows L2
/-! ### comprehensions -/
def wpTs (X : Cx) (ifs : List Expr) : TT := fun σ H Q => ∀ (pins : List (Addr × Obj)) (s : Shared), Inv X pins σ H s →
  wpAny (model X.prog X.w) X.A (forIn ifs true fun c r => if r = true then do let ok ← isTrue c X.env (eval c X.env); pure (ForInStep.yield ok) else pure (ForInStep.yield r)) (TP X pins σ Q) X.xe s
abbrev EvTs (X : Cx) (ifs : List Expr) (env : CEnv) (b : Bool) : Prop := ∀ B Hf H σ, Stt X.K B Hf H σ env → ∀ Q : Bool → Hp → Prop, (∀ Hf' H', Grow Hf H Hf' H' → Q b H') → wpTs X ifs σ H Q
def wipeE (env : CEnv) : List Nat → CEnv
  | [] => env
  | v :: vs => (wipeE env vs).set v .junk
section
variable {X : Cx} {a b e tg it elt : Expr} {es ifs : List Expr} {env : CEnv} {pos pos' : Pos} {d x y z : D} {ds : List D} {i j : Int}
theorem wpTs.of {t : TT} (h : PTs X ifs t) {σ : St} {H : Hp} {Q : Bool → Hp → Prop} (q : t σ H Q) : wpTs X ifs σ H Q := fun pins s I => h.run pins s σ H Q I q
theorem evts_nil : EvTs X [] env true := fun B Hf H σ st Q q => wpTs.of pts_nil (q Hf H (Grow.refl st.s))
theorem evts_one {c : Expr} {k : Bool} (h : EvT X c env k) : EvTs X [c] env k := fun B Hf H σ st Q q => wpTs.of (pts_one pt_wp) (h B Hf H σ st Q q)
theorem Stt.wipe {K : PySem.W.Frag} {B : Hp × Hp} {Hf H : Hp} {σ : St} (st : Stt K B Hf H σ env) : ∀ vs : List Nat, Stt K B Hf H (wipe σ vs) (wipeE env vs)
  | [] => st
  | v :: vs => (Stt.wipe st vs).setJunk v none
theorem wipe_set {σ : St} {i : Nat} {o : Option V} : ∀ {vs : List Nat}, i ∈ vs → wipe (σ.set i o) vs = wipe σ vs
  | [], h => by simp at h
  | v :: vs, h => by
    unfold wipe
    by_cases hi : i ∈ vs
    · rw [wipe_set hi]
    · have hv : i = v := by
        rcases List.mem_cons.mp h with e | e
        · exact e
        · exact absurd e hi
      subst hv
      have k : ∀ {ws : List Nat}, i ∉ ws → wipe (σ.set i o) ws = (wipe σ ws).set i o := by
        intro ws
        induction ws with
        | nil => intro _; rfl
        | cons w ws ih =>
          intro hn
          unfold wipe
          rw [ih (fun z => hn (List.mem_cons_of_mem _ z)), List.set_comm _ _ (fun z => hn (by rw [z]; exact List.mem_cons_self))]
      rw [k hi, List.set_set]
theorem wipe_all {vs : List Nat} : ∀ {is : List Nat} {ws : List V} {σ : St}, (∀ i ∈ is, i ∈ vs) → wipe (setAll σ is ws) vs = wipe σ vs
  | [], _, _, _ => by unfold setAll; rfl
  | i :: is, [], _, _ => by unfold setAll; rfl
  | i :: is, w :: ws, σ, h => by
    unfold setAll
    rw [wipe_all (is := is) (ws := ws) fun j hj => h j (List.mem_cons_of_mem _ hj), wipe_set (h i List.mem_cons_self)]
theorem wipe_idem {σ : St} : ∀ vs : List Nat, wipe (wipe σ vs) vs = wipe σ vs := by
  intro vs
  have k : ∀ (us ws : List Nat) (τ : St), (∀ u ∈ us, u ∈ ws) → wipe (wipe τ us) ws = wipe τ ws := by
    intro us
    induction us with
    | nil => intro ws τ _; rfl
    | cons u us ih =>
      intro ws τ h
      show wipe ((wipe τ us).set u none) ws = _
      rw [wipe_set (h u List.mem_cons_self)]
      exact ih ws τ fun v hv => h v (List.mem_cons_of_mem _ hv)
  exact k vs vs σ fun u hu => hu
theorem reps_none {K : PySem.W.Frag} {H : Hp} {xs : List V} {ys : List (Option D)} {i : Nat} (r : Reps K H xs ((ys.take i).filterMap id)) (h : ys[i]? = some none) : Reps K H xs ((ys.take (i + 1)).filterMap id) := by
  rw [List.take_add_one, h]
  simpa using r
theorem reps_some {K : PySem.W.Frag} {H : Hp} {xs : List V} {ys : List (Option D)} {i : Nat} {v : V} {d : D} (r : Reps K H xs ((ys.take i).filterMap id)) (h : ys[i]? = some (some d)) (rv : Rep K H v d) : Reps K H (xs ++ [v]) ((ys.take (i + 1)).filterMap id) := by
  rw [List.take_add_one, h]
  simpa using r.snoc rv
variable {scope : Scope} {own : List (Str × Nat)}
/-- what the element, the tests, the target are to do at each item -/
abbrev LcItem (X : Cx) (tg elt : Expr) (ifs : List Expr) (scope : Scope) (own : List (Str × Nat)) (env : CEnv) (d : D) (o : Option D) : Prop :=
  ∃ bs : List (Nat × D), (∀ p ∈ bs, p.1 ∈ own.map (·.2)) ∧ (∀ s H C cl fp, TgB (X.blk s H scope (compEnvC scope cl C X.env) fp) tg d bs) ∧
    (∀ s H C cl fp, EvTs (X.blk s H scope (compEnvC scope cl C X.env) fp) ifs (bindE (wipeE env (own.map (·.2))) bs) o.isSome) ∧
    (∀ y, o = some y → ∀ s H C cl fp, EvD (X.blk s H scope (compEnvC scope cl C X.env) fp) elt (bindE (wipeE env (own.map (·.2))) bs) y)
def gB (X : Cx) (scope : Scope) (tg : Expr) : TG := fun v σ H Q => ∀ s H0 C cl fp, wpG (X.blk s H0 scope (compEnvC scope cl C X.env) fp) tg v σ H Q
def tB' (X : Cx) (scope : Scope) (ifs : List Expr) : TT := fun σ H Q => ∀ s H0 C cl fp, wpTs (X.blk s H0 scope (compEnvC scope cl C X.env) fp) ifs σ H Q
def eB (X : Cx) (scope : Scope) (elt : Expr) : TE := fun σ H Q => ∀ s H0 C cl fp, wpE (X.blk s H0 scope (compEnvC scope cl C X.env) fp) elt σ H Q
theorem run_lc {ys : List (Option D)} (hi : EvI X tg it env ds) (hy : ys.length = ds.length) (hL : ds.length ≤ 1000000) (hel : ∀ (i : Nat) (d : D) (o : Option D), ds[i]? = some d → ys[i]? = some o → LcItem X tg elt ifs scope own env d o) :
    ∀ B Hf H σ, Stt X.K B Hf H σ env → ∀ Q : VK, (∀ v Hf' H', Grow Hf H Hf' H' → Rep X.K Hf' v (.lst (ys.filterMap id)) → Q v H') → tLc (wpI X tg it) (gB X scope tg) (tB' X scope ifs) (eB X scope elt) (own.map (·.2)) σ H Q := by
  intro B Hf H σ st Q q
  refine hi B Hf H σ st _ fun J Hf1 H1 g1 hJ D hD => ?_
  have fD : Hf1 D = none := g1.s.free hD
  refine ⟨fun i m H' => m = ds.length - i ∧ i ≤ ds.length ∧ ∃ Hf' acc, Grow Hf1 H1 Hf' H' ∧ Hf' D = none ∧ H' D = some (.lst acc) ∧ Reps X.K Hf' acc ((ys.take i).filterMap id), ⟨ds.length, by simp, Nat.zero_le _, Hf1, [], Grow.heap g1.s (same_upd hD), fD, upd_same, by simpa using Reps.nil⟩, ?_⟩
  rintro i m H' ⟨rfl, hle, Hf', acc, g2, f2, a2, r2⟩
  obtain ⟨j1, j2⟩ := hJ Hf' H' g2.f g2.s
  by_cases hlt : i < ds.length
  · have hyi : i < ys.length := by rw [hy]; exact hlt
    obtain ⟨j3, j4⟩ := j2 i _ (List.getElem?_eq_getElem hlt)
    refine .inr ⟨j3, fun H'' => ∃ Hf'' acc, Grow Hf1 H1 Hf'' H'' ∧ Hf'' D = none ∧ H'' D = some (.lst acc) ∧ Reps X.K Hf'' acc ((ys.take (i + 1)).filterMap id), fun H'' ⟨Hf'', acc, a, b, c, d⟩ => ⟨ds.length - (i + 1), by omega, rfl, hlt, Hf'', acc, a, b, c, d⟩, fun x H'' hx => ?_⟩
    obtain ⟨Hf3, g3, r3⟩ := j4 x H'' hx
    have f3 : Hf3 D = none := g3.n D f2 (by rw [a2]; simp)
    have a3 := g3.h _ _ a2
    have hyo := List.getElem?_eq_getElem hyi
    obtain ⟨bs, hb1, hb2, hb3, hb4⟩ := hel i _ _ (List.getElem?_eq_getElem hlt) hyo
    have st3 := (((st.grow g1).grow g2).grow g3).wipe (own.map (·.2))
    intro s0 H0 C0 cl0 fp0
    refine hb2 s0 H0 C0 cl0 fp0 Hf3 H'' _ x g3.s r3 _ fun vs rv => ⟨?_, ?_⟩
    · rw [wipe_all fun k hk => by
        obtain ⟨p, hp, e⟩ := List.mem_map.mp hk
        rw [← e]
        exact hb1 p hp]
      exact wipe_idem _
    · have st4 := st3.bind rv
      intro s1 H1' C1 cl1 fp1
      refine hb3 s1 H1' C1 cl1 fp1 B Hf3 H'' _ st4 _ fun Hf4 H4 g4 => ?_
      have f4 : Hf4 D = none := g4.n D f3 (by rw [a3]; simp)
      have a4 := g4.h _ _ a3
      cases ho : ys[i] with
      | none =>
        rw [ho] at hyo
        exact iteF ⟨Hf4, acc, (g2.trans g3).trans g4, f4, a4, reps_none (r2.mono (g3.f.trans g4.f)) hyo⟩
      | some y =>
        rw [ho] at hyo
        refine iteT ?_
        intro s2 H2' C2 cl2 fp2
        refine hb4 y ho s2 H2' C2 cl2 fp2 B Hf4 H4 _ (st4.grow g4) _ fun v Hf5 H5 g5 r5 => ?_
        have f5 : Hf5 D = none := g5.n D f4 (by rw [a4]; simp)
        have a5 := g5.h _ _ a4
        refine ⟨acc, a5, ?_, Hf5, acc ++ [v], ?_, f5, upd_same, reps_some (r2.mono ((g3.f.trans g4.f).trans g5.f)) hyo r5⟩
        · have l1 := r2.len
          have l2 : ((ys.take i).filterMap id).length ≤ (ys.take i).length := List.length_filterMap_le _ _
          rw [List.length_take] at l2
          rw [sizeLine_eq]
          omega
        · have gg := ((g2.trans g3).trans g4).trans g5
          refine ⟨gg.f, fun b o e => ?_, fun b o e => ?_, gg.n⟩
          · rw [upd_ne (ne_of_none e hD)]
            exact gg.h b o e
          · rw [upd_ne (ne_of_none e f5)]
            exact gg.s b o e
  · have e : i = ds.length := by omega
    subst e
    refine .inl ⟨j1, ?_⟩
    have s1 : Same (upd Hf' D (.lst acc)) H' := fun b o e => by
      by_cases hb : b = D
      · subst hb
        rw [upd_same] at e
        cases e
        exact a2
      · rw [upd_ne hb] at e
        exact g2.s b o e
    refine q (.ref D) (upd Hf' D (.lst acc)) H' (g1.trans ⟨g2.f.trans (same_upd f2), g2.h, s1, fun b h1 h2 => ?_⟩) (.lst_of (SqL.of upd_same) ?_)
    · rw [upd_ne (fun z => h2 (by rw [z]; exact hD))]
      exact g2.n b h1 h2
    · rw [← hy, List.take_length] at r2
      exact r2.mono (same_upd f2)
theorem pg_B : ∀ (s : Shared) (H : Hp) (C : Addr) (cl : List (Str × Addr)) (fp : List Addr), PG (X.blk s H scope (compEnvC scope cl C X.env) fp) tg (gB X scope tg) := fun s H C cl fp => ⟨fun pins s' _ _ _ u _ I r h => h s H C cl fp pins s' u I r⟩
theorem pt_B : ∀ (s : Shared) (H : Hp) (C : Addr) (cl : List (Str × Addr)) (fp : List Addr), PTs (X.blk s H scope (compEnvC scope cl C X.env) fp) ifs (tB' X scope ifs) := fun s H C cl fp => ⟨fun pins s' _ _ _ I h => h s H C cl fp pins s' I⟩
theorem pe_B : ∀ (s : Shared) (H : Hp) (C : Addr) (cl : List (Str × Addr)) (fp : List Addr), PE (X.blk s H scope (compEnvC scope cl C X.env) fp) elt (eB X scope elt) := fun s H C cl fp => ⟨fun pins s' _ _ _ I h => h s H C cl fp pins s' I⟩
/-- [elt for tg in it if ..] -/
theorem evd_lcG {ys : List (Option D)} (hc : X.calm = true) (hN : X.N.Nodup) (hi : EvI X tg it env ds) (ok : BlkOk X.N X.env.scope scope own) (hy : ys.length = ds.length) (hL : ds.length ≤ 1000000) (hel : ∀ (i : Nat) (d : D) (o : Option D), ds[i]? = some d → ys[i]? = some o → LcItem X tg elt ifs scope own env d o)
    (hs : ∀ x, foldedSetIterable it X.env x = pure x := by intro _; rfl) : EvD X (.ListComp elt [⟨tg, it, ifs, 0⟩] scope pos) env (.lst (ys.filterMap id)) := fun B Hf H σ st Q q =>
  wpE.of (pe_lc hc hN pi_wp ok pg_B pt_B pe_B hs) (run_lc hi hy hL hel B Hf H σ st Q q)
/-- y = [elt for tg in it if ..] -/
theorem exs_setLcG {P : Post} {i : Nat} {yn : Str} {py spos : Pos} {ys : List (Option D)} (hc : X.calm = true) (hN : X.N.Nodup) (hyn : X.N[i]? = some yn) (hyl : X.env.scope.names.lookup yn = some .local) (hi : EvI X tg it env ds) (ok : BlkOk X.N X.env.scope scope own) (hy : ys.length = ds.length) (hL : ds.length ≤ 1000000) (hel : ∀ (i : Nat) (d : D) (o : Option D), ds[i]? = some d → ys[i]? = some o → LcItem X tg elt ifs scope own env d o)
    (k : P.nx (env.set i (.frz (.lst (ys.filterMap id)))))
    (hsw : swapsWith (.ListComp elt [⟨tg, it, ifs, 0⟩] scope pos) (some (.Name yn py)) spos.line X.env = pure true) (hs : ∀ x, foldedSetIterable it X.env x = pure x := by intro _; rfl) :
    ExS X (.Assign [.Name yn py] (.ListComp elt [⟨tg, it, ifs, 0⟩] scope pos) spos) env P := fun B Hf H σ st E f =>
  wpS.of (ps_setLc hc hN hyn hyl hsw pi_wp ok pg_B pt_B pe_B hs) (run_lc hi hy hL hel B Hf H σ st _ fun v Hf1 H1 g1 r1 => f.nx _ Hf1 H1 _ k g1.f ((st.grow g1).set r1))

theorem filterMap_map_some {α : Type} (l : List α) (f : α → D) : (l.map fun x => some (f x)).filterMap id = l.map f := by
  induction l with
  | nil => rfl
  | cons a l ih => simp [ih]
theorem filterMap_map_if {α : Type} (l : List α) (p : α → Bool) (f : α → D) : (l.map fun x => if p x then some (f x) else none).filterMap id = (l.filter p).map f := by
  induction l with
  | nil => rfl
  | cons a l ih =>
    cases h : p a with
    | true => simp [h, ih]
    | false => simp [h, ih]
theorem get_map2 {α β γ : Type} {l : List α} {f : α → β} {g : α → γ} {i : Nat} {b : β} {c : γ} (h1 : (l.map f)[i]? = some b) (h2 : (l.map g)[i]? = some c) : ∃ x, l[i]? = some x ∧ b = f x ∧ c = g x := by
  rw [List.getElem?_map] at h1 h2
  cases e : l[i]? with
  | none => rw [e] at h1; cases h1
  | some x =>
    rw [e] at h1 h2
    exact ⟨x, rfl, (Option.some.inj h1).symm, (Option.some.inj h2).symm⟩
/-- [elt for tg in it], the items the data en x of the x in l -/
theorem evd_lcM {α : Type} {l : List α} {en fn : α → D} (hc : X.calm = true) (hN : X.N.Nodup) (hi : EvI X tg it env (l.map en)) (ok : BlkOk X.N X.env.scope scope own) (hL : l.length ≤ 1000000)
    (hel : ∀ x ∈ l, ∃ bs : List (Nat × D), (∀ p ∈ bs, p.1 ∈ own.map (·.2)) ∧ (∀ s H C cl fp, TgB (X.blk s H scope (compEnvC scope cl C X.env) fp) tg (en x) bs) ∧ ∀ s H C cl fp, EvD (X.blk s H scope (compEnvC scope cl C X.env) fp) elt (bindE (wipeE env (own.map (·.2))) bs) (fn x))
    (hs : ∀ x, foldedSetIterable it X.env x = pure x := by intro _; rfl) : EvD X (.ListComp elt [⟨tg, it, [], 0⟩] scope pos) env (.lst (l.map fn)) := by
  rw [← filterMap_map_some]
  refine evd_lcG hc hN hi ok (by simp) (by simpa using hL) (fun i d o h1 h2 => ?_) hs
  obtain ⟨x, hx, rfl, rfl⟩ := get_map2 h1 h2
  obtain ⟨bs, b1, b2, b3⟩ := hel x (List.mem_of_getElem? hx)
  exact ⟨bs, b1, b2, fun s H C cl fp => evts_nil, fun y hy s H C cl fp => by
    cases hy
    exact b3 s H C cl fp⟩
/-- [elt for tg in it if c] -/
theorem evd_lcF {α : Type} {l : List α} {en fn : α → D} {p : α → Bool} {c : Expr} (hc : X.calm = true) (hN : X.N.Nodup) (hi : EvI X tg it env (l.map en)) (ok : BlkOk X.N X.env.scope scope own) (hL : l.length ≤ 1000000)
    (hel : ∀ x ∈ l, ∃ bs : List (Nat × D), (∀ p ∈ bs, p.1 ∈ own.map (·.2)) ∧ (∀ s H C cl fp, TgB (X.blk s H scope (compEnvC scope cl C X.env) fp) tg (en x) bs) ∧ (∀ s H C cl fp, EvT (X.blk s H scope (compEnvC scope cl C X.env) fp) c (bindE (wipeE env (own.map (·.2))) bs) (p x)) ∧
      (p x = true → ∀ s H C cl fp, EvD (X.blk s H scope (compEnvC scope cl C X.env) fp) elt (bindE (wipeE env (own.map (·.2))) bs) (fn x)))
    (hs : ∀ x, foldedSetIterable it X.env x = pure x := by intro _; rfl) : EvD X (.ListComp elt [⟨tg, it, [c], 0⟩] scope pos) env (.lst ((l.filter p).map fn)) := by
  rw [← filterMap_map_if]
  refine evd_lcG hc hN hi ok (by simp) (by simpa using hL) (fun i d o h1 h2 => ?_) hs
  obtain ⟨x, hx, rfl, rfl⟩ := get_map2 h1 h2
  obtain ⟨bs, b1, b2, b3, b4⟩ := hel x (List.mem_of_getElem? hx)
  refine ⟨bs, b1, b2, fun s H C cl fp => evts_one ?_, fun y hy s H C cl fp => ?_⟩
  · have := b3 s H C cl fp
    cases hp : p x with
    | true => rw [hp] at this; simpa [hp] using this
    | false => rw [hp] at this; simpa [hp] using this
  · cases hp : p x with
    | true =>
      rw [hp] at hy
      cases hy
      exact b4 hp s H C cl fp
    | false =>
      rw [hp] at hy
      cases hy
/-- y = [elt for tg in it] -/
theorem exs_setLcM {P : Post} {i : Nat} {yn : Str} {py spos : Pos} {α : Type} {l : List α} {en fn : α → D} (hc : X.calm = true) (hN : X.N.Nodup) (hyn : X.N[i]? = some yn) (hyl : X.env.scope.names.lookup yn = some .local) (hi : EvI X tg it env (l.map en)) (ok : BlkOk X.N X.env.scope scope own) (hL : l.length ≤ 1000000)
    (hel : ∀ x ∈ l, ∃ bs : List (Nat × D), (∀ p ∈ bs, p.1 ∈ own.map (·.2)) ∧ (∀ s H C cl fp, TgB (X.blk s H scope (compEnvC scope cl C X.env) fp) tg (en x) bs) ∧ ∀ s H C cl fp, EvD (X.blk s H scope (compEnvC scope cl C X.env) fp) elt (bindE (wipeE env (own.map (·.2))) bs) (fn x))
    (k : P.nx (env.set i (.frz (.lst (l.map fn)))))
    (hsw : swapsWith (.ListComp elt [⟨tg, it, [], 0⟩] scope pos) (some (.Name yn py)) spos.line X.env = pure true) (hs : ∀ x, foldedSetIterable it X.env x = pure x := by intro _; rfl) :
    ExS X (.Assign [.Name yn py] (.ListComp elt [⟨tg, it, [], 0⟩] scope pos) spos) env P := by
  refine exs_setLcG (ys := l.map fun x => some (fn x)) hc hN hyn hyl hi ok (by simp) (by simpa using hL) (fun i d o h1 h2 => ?_) (by rw [filterMap_map_some]; exact k) hsw hs
  obtain ⟨x, hx, rfl, rfl⟩ := get_map2 h1 h2
  obtain ⟨bs, b1, b2, b3⟩ := hel x (List.mem_of_getElem? hx)
  exact ⟨bs, b1, b2, fun s H C cl fp => evts_nil, fun y hy s H C cl fp => by
    cases hy
    exact b3 s H C cl fp⟩
end

/-! ### defs -/
section
variable {P : Program} {w : World} {K : PySem.W.Frag} {mg : Str → Option Value} {base : Heap}
abbrev envD (N : List Str) (ds : List D) : CEnv := ds.map Cell.frz ++ List.replicate (N.length - ds.length) Cell.junk
theorem get_start {α β : Type} {f : α → β} {l : List α} {n : Nat} {z : β} {i : Nat} {c : β} (h : (l.map f ++ List.replicate n z)[i]? = some c) : (∃ x, l[i]? = some x ∧ c = f x) ∨ (l.length ≤ i ∧ c = z) := by
  by_cases hi : i < l.length
  · rw [List.getElem?_append_left (by simpa using hi), List.getElem?_map, List.getElem?_eq_getElem hi] at h
    exact .inl ⟨_, List.getElem?_eq_getElem hi, (Option.some.inj h).symm⟩
  · rw [List.getElem?_append_right (by simpa using hi), List.getElem?_replicate] at h
    split at h
    · exact .inr ⟨by omega, (Option.some.inj h).symm⟩
    · cases h
theorem addr_none {env : CEnv} {σ : St} {i : Nat} (h : ∀ c, env[i]? = some c → c = .junk ∨ ∃ d, c = .frz d) : addrAt env σ i = none := by
  unfold addrAt
  cases e : env[i]? with
  | none => rfl
  | some c =>
    rcases h c e with rfl | ⟨d, rfl⟩ <;> rfl
theorem stt_start {N : List Str} {Hf H H0 : Hp} {vs : List V} {ds : List D} (g : Grow Hf H0 Hf H) (r : Reps K Hf vs ds) : Stt K (Hf, H0) Hf H (L2.start N vs) (envD N ds) := by
  have key : ∀ (i : Nat) (c : Cell), (envD N ds)[i]? = some c → c = .junk ∨ ∃ d, c = .frz d := fun i c h => by
    rcases get_start h with ⟨x, _, rfl⟩ | ⟨_, rfl⟩
    · exact .inr ⟨x, rfl⟩
    · exact .inl rfl
  refine ⟨g, ?_, fun i c h => ?_, fun i j p hij h => ?_⟩
  · unfold L2.start envD
    simp [r.len]
  · rcases get_start h with ⟨x, hx, rfl⟩ | ⟨_, rfl⟩
    · obtain ⟨v, hv, rv⟩ := r.get hx
      refine ⟨v, ?_, rv⟩
      unfold L2.start
      have hi := (List.getElem?_eq_some_iff.mp hv).1
      rw [List.getElem?_append_left (by simpa using hi), List.getElem?_map, hv]
      rfl
    · exact True.intro
  · rw [addr_none (key i)] at h
    cases h
theorem fnD {x qual : Str} {st : Stmt} {f : Addr} {fd : FuncData} {N ps : List Str} {k : Nat} (F : Fun K x qual st f fd) (S : FnScope N ps (defScope st)) (R : List D → D → Prop) (hl : ∀ ds d, R ds d → ds.length = ps.length)
    (hb : ∀ (cdv : Value) (A : Around) (outer : List Env) (s : Shared) (H : Hp) (E : XK) (ds : List D) (d : D), Room k (A.deeper (envOfC qual (defScope st) s.heap.objs.size f cdv)) → R ds d →
      ExD (cxOf CX0 P w K mg base N qual (defScope st) f cdv A outer s H E).nox (defBody st) (envD N ds) { nx := fun _ => d = .non, rt := fun d' => d' = d }) : FnOk P w K mg base CX0 (k + 1) f fd ps (spD K R) := by
  refine F.ok S (fun vs H Q E h => ?_) (fun cdv A outer s H vs Q E hr h => ?_)
  · obtain ⟨ds, d, Hf, _, r, hR, _⟩ := h
    rw [r.len]
    exact hl ds d hR
  · obtain ⟨ds, d, Hf, sm, r, hR, q⟩ := h
    refine ⟨_, pss_wp, ?_⟩
    refine hb cdv A outer s H E ds d hr hR (Hf, H) Hf H (L2.start N vs) (stt_start (Grow.refl sm) r) _ ⟨fun env' Hf' H' σ' e _ st' => ?_, fun d' v Hf' H' e g r' => ?_, fun _ _ _ _ z => z.elim, fun _ _ _ _ z => z.elim⟩
    · have e : d = .non := e
      subst e
      exact q .non Hf' H' st'.g .non
    · have e : d' = d := e
      subst e
      exact q v Hf' H' g r'
/-- an __init__ -/
theorem fnI {x qual : Str} {st : Stmt} {f C : Addr} {fd : FuncData} {N ps : List Str} {k : Nat} (F : Fun K x qual st f fd) (S : FnScope N ps (defScope st)) (R : List D → List (Str × D) → List (Str × D) → Prop) (hl : ∀ ds gs gs', R ds gs gs' → ds.length + 1 = ps.length)
    (hb : ∀ (cdv : Value) (A : Around) (outer : List Env) (s : Shared) (H : Hp) (E : XK) (p : Addr) (ds : List D) (gs gs' : List (Str × D)), Room k (A.deeper (envOfC qual (defScope st) s.heap.objs.size f cdv)) → R ds gs gs' →
      ExD (cxOf CX0 P w K mg base N qual (defScope st) f cdv A outer s H E).nox (defBody st) (.ins p C gs :: (ds.map Cell.frz ++ List.replicate (N.length - (ds.length + 1)) Cell.junk)) { nx := fun env' => env'[0]? = some (.ins p C gs'), rt := fun _ => False }) :
    FnOk P w K mg base CX0 (k + 1) f fd ps (spI K C R) := by
  refine F.ok S (fun vs H Q E h => ?_) (fun cdv A outer s H vs Q E hr h => ?_)
  · obtain ⟨p, us, ds, Hf, dx, fs, gs, gs', rfl, _, _, _, _, r, hR, _⟩ := h
    rw [List.length_cons, r.len]
    exact hl ds gs gs' hR
  · obtain ⟨p, us, ds, Hf, dx, fs, gs, gs', rfl, sm, hfp, hp, rf, r, hR, q⟩ := h
    refine ⟨_, pss_wp, ?_⟩
    have sM : Same (minusP H p) H := fun a o e => by
      unfold minusP at e
      split at e
      · cases e
      · exact e
    have pM : minusP H p p = none := by unfold minusP; rw [if_pos rfl]
    have key : ∀ (i : Nat) (c : Cell), (ds.map Cell.frz ++ List.replicate (N.length - (ds.length + 1)) Cell.junk)[i]? = some c → c = .junk ∨ ∃ d, c = .frz d := fun i c h => by
      rcases get_start h with ⟨x, _, rfl⟩ | ⟨_, rfl⟩
      · exact .inr ⟨x, rfl⟩
      · exact .inl rfl
    have st0 : Stt K (Hf, minusP H p) Hf H (L2.start N (.ref p :: us)) (.ins p C gs :: (ds.map Cell.frz ++ List.replicate (N.length - (ds.length + 1)) Cell.junk)) := by
      refine ⟨⟨Same.refl _, sM, sm, fun a h _ => h⟩, ?_, fun i c h => ?_, fun i j a hij h1 h2 => ?_⟩
      · unfold L2.start
        simp [r.len]
      · cases i with
        | zero =>
          cases h
          exact ⟨dx, fs, rfl, pM, hfp, hp, rf⟩
        | succ i =>
          rcases get_start (show (ds.map Cell.frz ++ List.replicate (N.length - (ds.length + 1)) Cell.junk)[i]? = some c from h) with ⟨x, hx, rfl⟩ | ⟨_, rfl⟩
          · obtain ⟨v, hv, rv⟩ := r.get hx
            refine ⟨v, ?_, rv⟩
            unfold L2.start
            have hi := (List.getElem?_eq_some_iff.mp hv).1
            rw [List.map_cons, List.cons_append, List.getElem?_cons_succ, List.getElem?_append_left (by simpa using hi), List.getElem?_map, hv]
            rfl
          · exact True.intro
      · have z : ∀ n, addrAt (.ins p C gs :: (ds.map Cell.frz ++ List.replicate (N.length - (ds.length + 1)) Cell.junk)) (L2.start N (.ref p :: us)) (n + 1) = none := fun n => addr_none fun c hc => key n c hc
        cases i with
        | zero =>
          cases j with
          | zero => exact hij rfl
          | succ j => rw [z j] at h2; cases h2
        | succ i => rw [z i] at h1; cases h1
    refine hb cdv A outer s H E p ds gs gs' hr hR (Hf, minusP H p) Hf H _ st0 _ ⟨fun env' Hf' H' σ' e _ st' => ?_, fun _ _ _ _ z => z.elim, fun _ _ _ _ z => z.elim, fun _ _ _ _ z => z.elim⟩
    obtain ⟨dx', vs', _, _, f', h', r'⟩ := st'.ins e
    exact q dx' vs' Hf' H' st'.g f' h' r'
end
end Dt
set_option maxHeartbeats 2000000
namespace Dt
open PySem PySem.Spec PyProof.Rows L2

/-! ### C.m(..), m a staticmethod -/
structure SMet (K : PySem.W.Frag) (C : Addr) (mc : Value) (m : Str) (p g : Addr) : Prop where
  at_ : PySem.W.findCls K (.ref C) mc m = some (.get (.builtin "staticmethod.__get__") (.ref p) .none (.ref C))
  rc : ∃ rest, PySem.W.recIn K p "staticmethod" = some (.ref g :: rest)
  kp : PySem.W.keepIn K (.ref g) = true
section
variable {X : Cx} {pins : List (Addr × Obj)} {σ : L2.St} {H : Hp} {s : Shared} {C p g : Addr} {mc : Value} {m : Str} {E : Value → Shared → Prop} {A : Around}
theorem getmethsm_ok {pl : Sem Bool} {Q : Value × List Value → Shared → Prop} (I : Inv X pins σ H s) (r : ClX.CRead X.K C mc) (k : SMet X.K C mc m p g)
    (h : ∀ s', Inv X pins σ H s' → Q (.ref g, []) s') : wpAny (model X.prog X.w) A (getMethod (.ref C) m pl) Q E s := by
  obtain ⟨rest, hp⟩ := k.rc
  refine PySem.W.method_cls I.kIn r.ga ?_
  refine PySem.W.cls_bind I.kIn r.rd k.at_ ?_
  exact wpAny_call (PySem.W.sm_get (s := { s with toks := s.toks + 1 }) I.kIn hp (PySem.W.handed_on rfl (h _ (I.tok _))))
def tSMeth (C : Addr) (sp : Sp) (E : XK) (ta : TE) (t : TA) : TE := fun σ H Q => ta σ H fun x H1 => x = .ref C ∧ t σ H1 fun vs H2 => sp vs H2 Q E
theorem pe_smeth {CX : CXT} {k : Nat} {fd : FuncData} {ps : List Str} {sp : Sp} {E : XK} {o e : Expr} {es : List Expr} {pos apos : Pos} {ta : TE} {t : TA} {pl : Sem Bool} (he : PE X o ta) (r : ClX.CRead X.K C mc) (c : SMet X.K C mc m p g) (F : FnOk X.prog X.w X.K X.mg X.base CX k g fd ps sp) (hr : Room k X.A) (hb : Binds X.K fd ps []) (hx : Passes CX X E) (ha : PA X (e :: es) t)
    (hst : starEach (e :: es) X.env = (false, eval e X.env) :: starEach es X.env := by rfl) (hpl : (backTo pos (starEach es X.env)).any (·.1) = false := by rfl)
    (ht : eval (.Call (.Attribute o m apos) (e :: es) [] pos) X.env = (do
      let ov ← eval o X.env
      standAt apos.atName
      let (f, first) ← holding [ov] (getMethod ov m pl)
      callWith pos f first (backTo pos (starEach (e :: es) X.env)) (backToKw pos (keywordEach [] X.env))) := by rfl) :
    PE X (.Call (.Attribute o m apos) (e :: es) [] pos) (tSMeth C sp E ta t) := by
  refine ⟨fun pins s σ H Q I h => ?_⟩
  refine PySem.W.methodCall_KW (pl := pl) (thn (he.run pins s σ H _ I h) fun u s1 ⟨x, H1, I1, rx, ex, q⟩ => ?_) ht
  subst ex
  obtain rfl : u = Value.ref C := rx
  refine getmethsm_ok I1 r c fun s2 I2 => ?_
  refine PySem.W.callWith_K (h₀ := X.base) I.ok.mod.kin c.kp (thn (ha.run pos _ s2 σ H1 _ I2 q) fun us s3 ⟨vs, H2, I3, rv, q2⟩ => ⟨I3.kIn, ?_⟩) hst hpl
  exact run_fn F hr hb .nil hx I3 rv (by rw [List.append_nil]; exact q2)
end

/-! ### in, not in by an own __contains__ -/
section
variable {X : Cx}
theorem contains_own {prog : Program} {w : World} {A : Around} {E : Value → Shared → Prop} {s : Shared} {K : PySem.W.Frag} {x C f : Addr} {ox : Obj} {od : Option Obj} {v : Value} {Q : Bool → Shared → Prop} (X : K.In s.heap) (I : PySem.W.InstAt s.heap x ox C od)
    (hs : PySem.W.findIn K (.ref C) "__contains__" = some (some (.ref f))) (hf : PySem.W.isFn K (.ref f) = true)
    (h : wpAny (model prog w) A (call (.ref f) [.ref x, v]) (fun r s' => ∃ b, r = .bool b ∧ Q b s') E s) : wpAny (model prog w) A (contains (.ref x) v) Q E s := by
  have sp : PySem.W.Looks (model prog w) s.heap (specialOf (.ref x) "__contains__") (some (.ref f)) := I.type.andThen (PySem.W.looks_findIn X hs)
  unfold contains
  refine wpAny_holding ?_
  show wpAny _ _ (specialOf (.ref x) "__contains__" >>= fun y => _) _ _ _
  refine wpAny_bind (sp.here ?_)
  show wpAny _ _ (callSpecialUnlessNone? (.ref x) "__contains__" [v] _ >>= fun y => _) _ _ _
  unfold callSpecialUnlessNone?
  refine wpAny_bind (wpAny_bind (sp.here ?_))
  refine wpAny_holding (wpAny_bind ((PySem.W.bind_fn X _ (beq_iff_eq.mp hf)).here ?_))
  show wpAny _ _ (call (.ref f) ([.ref x] ++ [v]) >>= fun r => pure (some r)) _ _ _
  refine wpAny_bind (wpAny_mono h (fun r s' q => ?_) fun _ _ z => z)
  obtain ⟨b, rfl, q⟩ := q
  exact wpAny_pure (wpAny_truthy_bool q)
def rInOwn (C : Addr) (sp : Sp) (E : XK) : R2 := fun v x H Q => ∃ a dx fs, x = .ref a ∧ H a = some (.ins C dx fs) ∧ sp [x, v] H (fun r H' => ∃ b, r = .bl b ∧ Q (.bl b) H') E
def rNotInOwn (C : Addr) (sp : Sp) (E : XK) : R2 := fun v x H Q => ∃ a dx fs, x = .ref a ∧ H a = some (.ins C dx fs) ∧ sp [x, v] H (fun r H' => ∃ b, r = .bl b ∧ Q (.bl (!b)) H') E
variable {CX : CXT} {k : Nat} {g C : Addr} {fd : FuncData} {ps : List Str} {sp : Sp} {E : XK}
theorem in_own {pins : List (Addr × Obj)} {s : Shared} {σ : L2.St} {H : Hp} {a dx : Addr} {fs : List (Str × V)} {v : V} {u : Value} {Q : Bool → Shared → Prop} (F : FnOk X.prog X.w X.K X.mg X.base CX k g fd ps sp) (hr : Room k X.A) (hb : Binds X.K fd ps []) (hx : Passes CX X E)
    (hs : PySem.W.findIn X.K (.ref C) "__contains__" = some (some (.ref g))) (hf : PySem.W.isFn X.K (.ref g) = true) (I : Inv X pins σ H s) (rv : RelV v u) (ha : H a = some (.ins C dx fs))
    (q : sp [.ref a, v] H (fun r H' => ∃ b, r = .bl b ∧ ∀ s', Inv X pins σ H' s' → Q b s') E) : wpAny (model X.prog X.w) X.A (contains (.ref a) u) Q X.xe s := by
  obtain ⟨mA, J, _⟩ := ins_get I.hok ha
  obtain ⟨od, J, _⟩ := J.look
  refine contains_own I.kIn J hs hf ?_
  refine thn (run_fn (us := [.ref a, u]) (vs := [.ref a, v]) F hr hb .nil hx I (.cons rfl (.cons rv .nil)) q) fun r s' ⟨w, H', I', rw', b, e, q'⟩ => ?_
  subst e
  obtain rfl : r = Value.bool b := rw'
  exact ⟨b, rfl, q' s' I'⟩
theorem op_inOwn (F : FnOk X.prog X.w X.K X.mg X.base CX k g fd ps sp) (hr : Room k X.A) (hb : Binds X.K fd ps []) (hx : Passes CX X E)
    (hs : PySem.W.findIn X.K (.ref C) "__contains__" = some (some (.ref g))) (hf : PySem.W.isFn X.K (.ref g) = true) (hm : ∀ vs H Q Q', sp vs H Q E → (∀ r H', Q r H' → Q' r H') → sp vs H Q' E) : OpR X (compareOp .In) (rInOwn C sp E) := by
  intro pins s σ H x y v u Q I rx ry h
  obtain ⟨a, dx, fs, rfl, ha, q⟩ := h
  obtain rfl : u = Value.ref a := ry
  show wpAny _ _ (contains (.ref a) v >>= fun b => pure (Value.bool b)) _ _ _
  refine wpAny_bind (in_own F hr hb hx hs hf I rx ha (hm _ _ _ _ q fun r H' ⟨b, e, q'⟩ => ⟨b, e, fun s' I' => wpAny_pure ⟨.bl b, H', I', rfl, q'⟩⟩))
theorem op_notInOwn (F : FnOk X.prog X.w X.K X.mg X.base CX k g fd ps sp) (hr : Room k X.A) (hb : Binds X.K fd ps []) (hx : Passes CX X E)
    (hs : PySem.W.findIn X.K (.ref C) "__contains__" = some (some (.ref g))) (hf : PySem.W.isFn X.K (.ref g) = true) (hm : ∀ vs H Q Q', sp vs H Q E → (∀ r H', Q r H' → Q' r H') → sp vs H Q' E) : OpR X (compareOp .NotIn) (rNotInOwn C sp E) := by
  intro pins s σ H x y v u Q I rx ry h
  obtain ⟨a, dx, fs, rfl, ha, q⟩ := h
  obtain rfl : u = Value.ref a := ry
  show wpAny _ _ (contains (.ref a) v >>= fun b => pure (Value.bool (!b))) _ _ _
  refine wpAny_bind (in_own F hr hb hx hs hf I rx ha (hm _ _ _ _ q fun r H' ⟨b, e, q'⟩ => ⟨b, e, fun s' I' => wpAny_pure ⟨.bl (!b), H', I', rfl, q'⟩⟩))
end
theorem spD_mono {K : PySem.W.Frag} {R : List D → D → Prop} {E : XK} : ∀ vs H Q Q', spD K R vs H Q E → (∀ r H', Q r H' → Q' r H') → spD K R vs H Q' E := fun vs H Q Q' ⟨ds, d, Hf, s, r, h, q⟩ k => ⟨ds, d, Hf, s, r, h, fun v Hf' H' g r' => k _ _ (q v Hf' H' g r')⟩

section
variable {X : Cx} {a b e : Expr} {es : List Expr} {env : CEnv} {pos : Pos} {Ra Rb Rc : RV} {d x y z : D} {ds : List D} {i j : Int}
variable {CX : CXT} {k : Nat} {g C : Addr} {fd : FuncData} {ps : List Str} {R : List D → D → Prop} {E : XK} {gs : List (Str × D)}
theorem evd_smeth {p : Addr} {mc : Value} {m : Str} {apos : Pos} {o : Expr} {pl : Sem Bool} (ho : EvD X o env (.cls C)) (r : ClX.CRead X.K C mc) (c : SMet X.K C mc m p g) (F : FnOk X.prog X.w X.K X.mg X.base CX k g fd ps (spD X.K R)) (hr : Room k X.A) (hb : Binds X.K fd ps []) (hx : Passes CX X E) (ha : EvA X (e :: es) env ds) (h : R ds d)
    (hst : starEach (e :: es) X.env = (false, eval e X.env) :: starEach es X.env := by rfl) (hpl : (backTo pos (starEach es X.env)).any (·.1) = false := by rfl)
    (ht : eval (.Call (.Attribute o m apos) (e :: es) [] pos) X.env = (do
      let ov ← eval o X.env
      standAt apos.atName
      let (f, first) ← holding [ov] (getMethod ov m pl)
      callWith pos f first (backTo pos (starEach (e :: es) X.env)) (backToKw pos (keywordEach [] X.env))) := by rfl) : EvD X (.Call (.Attribute o m apos) (e :: es) [] pos) env d := fun B Hf H σ st Q q =>
  wpE.of (pe_smeth (E := E) (pl := pl) pe_wp r c F hr hb hx pa_wp hst hpl ht) (ho B Hf H σ st _ fun v Hf1 H1 g1 r1 => ⟨r1.inv_cls, ha B Hf1 H1 σ (st.grow g1) _ fun vs Hf2 H2 g2 r2 =>
    ⟨ds, d, Hf2, g2.s, r2, h, fun v Hf3 H3 g3 r3 => q v Hf3 H3 ((g1.trans g2).trans g3) r3⟩⟩)
theorem evt_inOwn {l : Bool} (F : FnOk X.prog X.w X.K X.mg X.base CX k g fd ps (spD X.K R)) (hr : Room k X.A) (hb : Binds X.K fd ps []) (hx : Passes CX X E)
    (hs : PySem.W.findIn X.K (.ref C) "__contains__" = some (some (.ref g))) (hf : PySem.W.isFn X.K (.ref g) = true) (ha : EvD X a env x) (hb' : EvD X b env (.obj C gs)) (h : R [.obj C gs, x] (.bl l)) (hm : behindInMarks .In b = false := by rfl) : EvT X (.Compare a [.In] [b] pos) env l :=
  evt_cmp (op_inOwn (E := E) F hr hb hx hs hf spD_mono) hm stable_D ha hb' (fun Hf H vx vy Q s r1 r2 q => by
    obtain ⟨a, dx, fs, rfl, hA, t⟩ := r2.inv_obj
    exact ⟨a, dx, fs, rfl, s _ _ hA, [.obj C gs, x], .bl l, Hf, s, .cons r2 (.cons r1 .nil), h, fun v Hf' H' g r => ⟨l, r.inv_bl, q _ Hf' H' g (.bl _)⟩⟩)
theorem evt_notInOwn {l : Bool} (F : FnOk X.prog X.w X.K X.mg X.base CX k g fd ps (spD X.K R)) (hr : Room k X.A) (hb : Binds X.K fd ps []) (hx : Passes CX X E)
    (hs : PySem.W.findIn X.K (.ref C) "__contains__" = some (some (.ref g))) (hf : PySem.W.isFn X.K (.ref g) = true) (ha : EvD X a env x) (hb' : EvD X b env (.obj C gs)) (h : R [.obj C gs, x] (.bl l)) (hm : behindInMarks .NotIn b = false := by rfl) : EvT X (.Compare a [.NotIn] [b] pos) env (!l) :=
  evt_cmp (op_notInOwn (E := E) F hr hb hx hs hf spD_mono) hm stable_D ha hb' (fun Hf H vx vy Q s r1 r2 q => by
    obtain ⟨a, dx, fs, rfl, hA, t⟩ := r2.inv_obj
    exact ⟨a, dx, fs, rfl, s _ _ hA, [.obj C gs, x], .bl l, Hf, s, .cons r2 (.cons r1 .nil), h, fun v Hf' H' g r => ⟨l, r.inv_bl, q _ Hf' H' g (.bl _)⟩⟩)
theorem evd_inOwn {l : Bool} (F : FnOk X.prog X.w X.K X.mg X.base CX k g fd ps (spD X.K R)) (hr : Room k X.A) (hb : Binds X.K fd ps []) (hx : Passes CX X E)
    (hs : PySem.W.findIn X.K (.ref C) "__contains__" = some (some (.ref g))) (hf : PySem.W.isFn X.K (.ref g) = true) (ha : EvD X a env x) (hb' : EvD X b env (.obj C gs)) (h : R [.obj C gs, x] (.bl l)) (hm : behindInMarks .In b = false := by rfl) : EvD X (.Compare a [.In] [b] pos) env (.bl l) :=
  evx_cmp (op_inOwn (E := E) F hr hb hx hs hf spD_mono) hm stable_D ha hb' (fun Hf H vx vy Q s r1 r2 q => by
    obtain ⟨a, dx, fs, rfl, hA, t⟩ := r2.inv_obj
    exact ⟨a, dx, fs, rfl, s _ _ hA, [.obj C gs, x], .bl l, Hf, s, .cons r2 (.cons r1 .nil), h, fun v Hf' H' g r => ⟨l, r.inv_bl, q _ Hf' H' g (.bl _)⟩⟩)
theorem evd_notInOwn {l : Bool} (F : FnOk X.prog X.w X.K X.mg X.base CX k g fd ps (spD X.K R)) (hr : Room k X.A) (hb : Binds X.K fd ps []) (hx : Passes CX X E)
    (hs : PySem.W.findIn X.K (.ref C) "__contains__" = some (some (.ref g))) (hf : PySem.W.isFn X.K (.ref g) = true) (ha : EvD X a env x) (hb' : EvD X b env (.obj C gs)) (h : R [.obj C gs, x] (.bl l)) (hm : behindInMarks .NotIn b = false := by rfl) : EvD X (.Compare a [.NotIn] [b] pos) env (.bl (!l)) :=
  evx_cmp (op_notInOwn (E := E) F hr hb hx hs hf spD_mono) hm stable_D ha hb' (fun Hf H vx vy Q s r1 r2 q => by
    obtain ⟨a, dx, fs, rfl, hA, t⟩ := r2.inv_obj
    exact ⟨a, dx, fs, rfl, s _ _ hA, [.obj C gs, x], .bl l, Hf, s, .cons r2 (.cons r1 .nil), h, fun v Hf' H' g r => ⟨l, r.inv_bl, q _ Hf' H' g (.bl _)⟩⟩)

/-! ### is True, is False -/
inductive IsB : D → Bool → Bool → Prop
  | bl (i j : Bool) : IsB (.bl i) j (i == j)
  | int (i : Int) (j : Bool) : IsB (.int i) j false
  | str (s : Str) (j : Bool) : IsB (.str s) j false
  | lst (l : List D) (j : Bool) : IsB (.lst l) j false
  | tup (l : List D) (j : Bool) : IsB (.tup l) j false
  | obj (C : Addr) (l : List (Str × D)) (j : Bool) : IsB (.obj C l) j false
  | non (j : Bool) : IsB .non j false
def rIsB' : R2 := fun x y H Q => ∃ b : Bool, y = .bl b ∧ Q (.bl (decide (x = .bl b))) H
theorem op_isB' : OpR X (compareOp .Is) rIsB' := by
  intro pins s σ H x y v u Q I rx ry h
  obtain ⟨b, rfl, q⟩ := h
  cases (show u = Value.bool b from ry)
  have other : ∀ {v : Value}, plainIs v (.bool b) = true → v ≠ .bool b → x ≠ .bl b → wpAny (model X.prog X.w) X.A (compareOp .Is v (.bool b)) (EP X pins σ Q) X.xe s := fun hp hn hx => wpAny_is_other hp hn ⟨.bl false, H, I, rfl, by rw [decide_eq_false hx] at q; exact q⟩
  cases x with
  | bl a =>
    cases (show v = Value.bool a from rx)
    by_cases e : a = b
    · subst e
      exact wpAny_is_self rfl ⟨.bl true, H, I, rfl, by simpa using q⟩
    · exact other rfl (fun z => e (Value.bool.inj z)) (fun z => e (V.bl.inj z))
  | non => cases (show v = Value.none from rx); exact other rfl (fun z => nomatch z) (fun z => nomatch z)
  | int i => obtain ⟨t, rfl⟩ := rx; exact other rfl (fun z => nomatch z) (fun z => nomatch z)
  | str i => obtain ⟨t, rfl⟩ := rx; exact other rfl (fun z => nomatch z) (fun z => nomatch z)
  | byt i => obtain ⟨t, rfl⟩ := rx; exact other rfl (fun z => nomatch z) (fun z => nomatch z)
  | flt i => obtain ⟨t, rfl⟩ := rx; exact other rfl (fun z => nomatch z) (fun z => nomatch z)
  | ref i => cases (show v = Value.ref i from rx); exact other rfl (fun z => nomatch z) (fun z => nomatch z)
  | ty i => cases (show v = Value.type i from rx); exact other rfl (fun z => nomatch z) (fun z => nomatch z)
theorem r2_isB {K : PySem.W.Frag} {j l : Bool} (h : IsB x j l) : R2D K rIsB' (isD K x) (isD K (.bl j)) (isD K (.bl l)) := r2_pure fun Hf H vx vy Q s h1 h2 q => ⟨j, h2.inv_bl, q _ (by
  have e : decide (vx = .bl j) = l := by
    cases h with
    | bl i j =>
      rw [h1.inv_bl, dec_bl]
    | int => rw [h1.inv_int]; simp
    | str => rw [h1.inv_str]; simp
    | non => rw [h1.inv_non]; simp
    | lst => obtain ⟨a, xs, e, _⟩ := h1.inv_lst; rw [e]; simp
    | tup => obtain ⟨a, xs, e, _⟩ := h1.inv_tup; rw [e]; simp
    | obj => obtain ⟨a, _, xs, e, _⟩ := h1.inv_obj; rw [e]; simp
  rw [e]
  exact .bl _)⟩
theorem evt_isB {j l : Bool} (ha : EvD X a env x) (hb : EvD X b env (.bl j)) (h : IsB x j l) : EvT X (.Compare a [.Is] [b] pos) env l := evt_cmp op_isB' (nomark _) stable_D ha hb (r2_isB h)
theorem evd_isB {j l : Bool} (ha : EvD X a env x) (hb : EvD X b env (.bl j)) (h : IsB x j l) : EvD X (.Compare a [.Is] [b] pos) env (.bl l) := evx_cmp op_isB' (nomark _) stable_D ha hb (r2_isB h)
end
end Dt
set_option maxHeartbeats 2000000
namespace Dt
open PySem PySem.Spec PyProof.Rows L2
section
variable {X : Cx} {a b e tg : Expr} {es : List Expr} {env : CEnv} {pos p : Pos} {Ra Rb Rc : RV} {d x y z : D} {ds : List D} {i j : Int}

/-! ### range(a, b) as a value -/
theorem evx_ct2 {f : Str} {id : String} {r : List V → Hp → VK → Prop} (hc : CallR X (.type id) r) (hg : Gl X f) (hm : X.mg f = none) (hv : bootBuiltins f = some (.type id)) (sa : Stable Ra) (h : EvX X a env Ra) (h2 : EvX X b env Rb) (hr : C2D r Ra Rb Rc) (hn : f ≠ "__name__" := by decide) (hdb : (f == ("__debug__" : Str)) = false := by decide)
    (he : starEach [a, b] X.env = (false, eval a X.env) :: starEach [b] X.env := by rfl) (he2 : starEach [b] X.env = (false, eval b X.env) :: starEach [] X.env := by rfl) (hpl : (backTo pos (starEach [b] X.env)).any (·.1) = false := by rfl) : EvX X (.Call (.Name f p) [a, b] [] pos) env Rc := fun B Hf H σ st Q q =>
  wpE.of (pe_callTy hc hg hm hv (pa_cons pe_wp (pa_cons pe_wp pa_nil he2) he) hn hdb he hpl) (run_c2 sa h h2 hr B Hf H σ st Q q)
theorem evd_range2 (hg : Gl X "range") (hm : X.mg "range" = none) (ha : EvD X a env (.int i)) (hb : EvD X b env (.int j)) (he : starEach [a, b] X.env = (false, eval a X.env) :: starEach [b] X.env := by rfl) (he2 : starEach [b] X.env = (false, eval b X.env) :: starEach [] X.env := by rfl) (hpl : (backTo pos (starEach [b] X.env)).any (·.1) = false := by rfl) : EvD X (.Call (.Name "range" p) [a, b] [] pos) env (.rng i j) :=
  evx_ct2 cr_range2 hg hm (by decide +kernel) stable_D ha hb (fun Hf H v u Q s r1 r2 q => by
    rw [r1.inv_int, r2.inv_int]
    exact ⟨i, j, rfl, fun m hm => q _ _ _ (Grow.new s hm) (.rng upd_same)⟩) (by decide) (by decide) he he2 hpl
def iRngV (tl : TE) : TI := fun σ H R => tl σ H fun x H1 => ∃ a lo hi, x = .ref a ∧ H1 a = some (.rng lo hi) ∧ (-(2 ^ 62) ≤ lo ∧ lo < 2 ^ 62 ∧ -(2 ^ 62) ≤ hi ∧ hi < 2 ^ 62) ∧ R (Itr lo (hi - lo).toNat) H1
theorem pi_rngV {l : Expr} {tl : TE} (hl : PE X l tl) : PI X tg l (iRngV tl) := by
  refine ⟨fun pins s σ H R I h => ?_⟩
  refine thn (hl.run pins s σ H _ I h) fun v s1 ⟨x, H1, I1, r1, q1⟩ => ?_
  obtain ⟨a, lo, hi, e, ha, ⟨b1, b2, b3, b4⟩, q⟩ := q1
  subst e
  cases r1
  obtain ⟨t, u, w, ho⟩ := I1.hok _ _ ha
  refine wpAny_pyIter_range ho (small_one b1 b2 b3 b4) ?_
  refine ⟨s1.heap.objs.size, [s1.heap.objs.size], _, _, H1, rfl, I1.kept (t' := s1.toks) fun b o e => Heap.get?_push_of_some _ e, turn_range _ lo (hi - lo).toNat, ?_, fun b hb => ?_, q⟩
  · have e1 : lo + ((0 : Nat) : Int) * 1 = lo := by simp
    have e2 : (((hi - lo).toNat : Nat) : Int) - ((0 : Nat) : Int) = Builtin.Range.rangeSize lo hi 1 := by rw [rangeSize_one]; split <;> omega
    show IsRangeIter _ _ (lo + ((0 : Nat) : Int) * 1) ((((hi - lo).toNat : Nat) : Int) - ((0 : Nat) : Int)) 1
    rw [e1, e2]
    exact Heap.get?_push_size _ rfl
  · have e : b = s1.heap.objs.size := by simpa using hb
    subst e
    exact I1.fpOk (Nat.le_refl _) (I1.hok.fresh (Nat.le_refl _))
theorem evi_rng {lo hi : Int} (he : EvD X e env (.rng lo hi)) (h : -(2 ^ 62) ≤ lo ∧ lo < 2 ^ 62 ∧ -(2 ^ 62) ≤ hi ∧ hi < 2 ^ 62) : EvI X tg e env (dRange lo (hi - lo).toNat) := fun B Hf H σ st R q => wpI.of (pi_rngV pe_wp) (he B Hf H σ st _ fun v Hf1 H1 g1 r1 => by
  obtain ⟨a, rfl, ha⟩ := r1.inv_rng
  exact ⟨a, lo, hi, rfl, g1.s _ _ ha, h, q _ Hf1 H1 g1 itd_range⟩)

/-! ### *xs in a display or a call -/
theorem eva_starU {xs : List D} (h : EvD X e env (.tup xs)) (t : EvA X es env ds) (hs : starEach (.Starred e p :: es) X.env = (true, eval e X.env) :: starEach es X.env := by rfl) : EvA X (.Starred e p :: es) env (xs ++ ds) := fun B Hf H σ st Q q =>
  wpA.of (StX.pa_star pe_wp pa_wp hs) (h B Hf H σ st _ fun v Hf1 H1 g1 r1 => by
    obtain ⟨l, vs, rfl, hl, r⟩ := r1.inv_tup
    refine ⟨l, vs, rfl, .inl (Same.seqT g1.s hl), ?_⟩
    exact t B Hf1 H1 σ (st.grow g1) _ fun ws Hf2 H2 g2 r2 => q (vs ++ ws) Hf2 H2 (g1.trans g2) ((r.mono g2.f).append r2))
theorem eva_starL {xs : List D} (h : EvL X e env xs) (t : EvA X es env ds) (hs : starEach (.Starred e p :: es) X.env = (true, eval e X.env) :: starEach es X.env := by rfl) : EvA X (.Starred e p :: es) env (xs ++ ds) := fun B Hf H σ st Q q =>
  wpA.of (StX.pa_star pe_wp pa_wp hs) (h B Hf H σ st _ fun v Hf1 H1 g1 r1 => by
    obtain ⟨l, vs, rfl, hl, r⟩ := r1
    refine ⟨l, vs, rfl, .inr hl, ?_⟩
    exact t B Hf1 H1 σ (st.grow g1) _ fun ws Hf2 H2 g2 r2 => q (vs ++ ws) Hf2 H2 (g1.trans g2) ((r.mono g2.f).append r2))

/-! ### text * number -/
theorem op_mulS : OpR X (binaryOp .Mult) (fun x y H Q => ∃ (t : Str) (n : Int), x = .str t ∧ y = .int n ∧ MulOk t n ∧ Q (.str (Txt.mul t n)) H) := by
  intro pins s σ H x y v u Q I rx ry h
  obtain ⟨t, n, rfl, rfl, ok, q⟩ := h
  obtain ⟨t1, rfl⟩ := rx
  obtain ⟨t2, rfl⟩ := ry
  exact SB.mul ok fun t' k => ⟨.str _, H, I.tok k, ⟨t', rfl⟩, q⟩
theorem evd_mulS {t : Str} {n : Int} (ha : EvD X a env (.str t)) (hb : EvD X b env (.int n)) (h1 : t.length ≤ 100) (h2 : -1000 ≤ n ∧ n ≤ 10000) : EvD X (.BinOp a .Mult b pos) env (.str (Txt.mul t n)) :=
  evx_op op_mulS stable_D ha hb (r2_pure fun Hf H vx vy Q _ r1 r2 q => ⟨t, n, r1.inv_str, r2.inv_int, mulOk_of 100 10000 h1 (by omega) (by omega) (by decide) (by decide), q _ (.str _)⟩)

/-! ### enumerate over a tuple -/
/-! ### == and != of data -/
mutual
def D.py : D → PyData
  | .bl b => .bool b
  | .int i => .int i
  | .str s => .str s
  | .lst xs => .list (D.pys xs)
  | .tup xs => .tuple (D.pys xs)
  | _ => .none
def D.pys : List D → List PyData
  | [] => []
  | x :: xs => x.py :: D.pys xs
end
mutual
def D.isPy : D → Bool
  | .non | .bl _ | .int _ | .str _ => true
  | .lst xs | .tup xs => D.isPys xs
  | _ => false
def D.isPys : List D → Bool
  | [] => true
  | x :: xs => x.isPy && D.isPys xs
end
section
variable {K : PySem.W.Frag} {H : Hp}
mutual
theorem Rep.dp : ∀ (d : D) (v : V), d.isPy = true → Rep K H v d → Dp K H v d.py
  | .non, _, _, r => by rw [r.inv_non]; unfold D.py; exact .non
  | .bl b, _, _, r => by rw [r.inv_bl]; unfold D.py; exact .bl b
  | .int i, _, _, r => by rw [r.inv_int]; unfold D.py; exact .int i
  | .str s, _, _, r => by rw [r.inv_str]; unfold D.py; exact .str s
  | .lst xs, _, h, r => by
    obtain ⟨a, vs, rfl, hs, rs⟩ := r.inv_lst
    unfold D.isPy at h
    unfold D.py
    exact .lst hs (Reps.dp xs vs h rs)
  | .tup xs, _, h, r => by
    obtain ⟨a, vs, rfl, hs, rs⟩ := r.inv_tup
    unfold D.isPy at h
    unfold D.py
    exact .tup hs (Reps.dp xs vs h rs)
  | .ty _, _, h, _ => by unfold D.isPy at h; cases h
  | .cls _, _, h, _ => by unfold D.isPy at h; cases h
  | .rng _ _, _, h, _ => by unfold D.isPy at h; cases h
  | .obj _ _, _, h, _ => by unfold D.isPy at h; cases h
theorem Reps.dp : ∀ (ds : List D) (vs : List V), D.isPys ds = true → Reps K H vs ds → DpAll K H vs (D.pys ds)
  | [], _, _, r => by rw [r.inv_nil]; unfold D.pys; exact .nil
  | d :: ds, _, h, r => by
    obtain ⟨v, ws, rfl, r1, r2⟩ := r.inv_cons
    unfold D.isPys at h
    rw [Bool.and_eq_true] at h
    unfold D.pys
    exact .cons (Rep.dp d v h.1 r1) (Reps.dp ds ws h.2 r2)
end
end

mutual
theorem plain_of : ∀ d : D, d.py.plain = true
  | .non => by unfold D.py; rfl
  | .bl b => by unfold D.py; rfl
  | .int i => by unfold D.py; rfl
  | .str s => by unfold D.py; rfl
  | .lst xs => by unfold D.py PyData.plain; exact plains_of xs
  | .tup xs => by unfold D.py PyData.plain; exact plains_of xs
  | .ty _ => by unfold D.py; rfl
  | .cls _ => by unfold D.py; rfl
  | .rng _ _ => by unfold D.py; rfl
  | .obj _ _ => by unfold D.py; rfl
theorem plains_of : ∀ ds : List D, PyData.plainAll (D.pys ds) = true
  | [] => by unfold D.pys PyData.plainAll; rfl
  | d :: ds => by unfold D.pys PyData.plainAll; rw [plain_of d, plains_of ds]; rfl
end
def rEqP (K : PySem.W.Frag) (x' y' : D) (g : Bool → Bool) : R2 := fun x y H Q => x'.isPy = true ∧ y'.isPy = true ∧ x'.py.depth ≤ 60 ∧ Rep K H x x' ∧ Rep K H y y' ∧ Q (.bl (g (PyData.eqv x'.py y'.py))) H
theorem op_eqP (hu : X.A.units + 64 < cLine) : OpR X (compareOp .Eq) (rEqP X.K x y id) := by
  intro pins s σ H v1 v2 v u Q I rx ry h
  obtain ⟨p1, p2, hd, r1, r2, q⟩ := h
  obtain ⟨as, q1⟩ := Dp.reads I _ _ v (Rep.dp x v1 p1 r1) rx
  obtain ⟨bs, q2⟩ := Dp.reads I _ _ u (Rep.dp y v2 p2 r2) ry
  exact SeqAt.eq_plain q1 q2 (plain_of x) (plain_of y) (by omega) ⟨.bl _, H, I, rfl, q⟩
theorem op_neP (hu : X.A.units + 64 < cLine) : OpR X (compareOp .NotEq) (rEqP X.K x y not) := by
  intro pins s σ H v1 v2 v u Q I rx ry h
  obtain ⟨p1, p2, hd, r1, r2, q⟩ := h
  obtain ⟨as, q1⟩ := Dp.reads I _ _ v (Rep.dp x v1 p1 r1) rx
  obtain ⟨bs, q2⟩ := Dp.reads I _ _ u (Rep.dp y v2 p2 r2) ry
  exact SeqAt.ne_plain q1 q2 (plain_of x) (plain_of y) (by omega) ⟨.bl _, H, I, rfl, q⟩
theorem r2_eqP {K : PySem.W.Frag} {g : Bool → Bool} (h1 : x.isPy = true) (h2 : y.isPy = true) (hd : x.py.depth ≤ 60) : R2D K (rEqP K x y g) (isD K x) (isD K y) (isD K (.bl (g (PyData.eqv x.py y.py)))) := r2_pure fun Hf H vx vy Q s r1 r2 q =>
  ⟨h1, h2, hd, r1.mono s, r2.mono s, q _ (.bl _)⟩
theorem evt_neD (hu : X.A.units + 64 < cLine) (ha : EvD X a env x) (hb : EvD X b env y) (h1 : x.isPy = true) (h2 : y.isPy = true) (hd : x.py.depth ≤ 60) : EvT X (.Compare a [.NotEq] [b] pos) env (!PyData.eqv x.py y.py) := evt_cmp (op_neP hu) (nomark _) stable_D ha hb (r2_eqP h1 h2 hd)
theorem evt_eqD (hu : X.A.units + 64 < cLine) (ha : EvD X a env x) (hb : EvD X b env y) (h1 : x.isPy = true) (h2 : y.isPy = true) (hd : x.py.depth ≤ 60) : EvT X (.Compare a [.Eq] [b] pos) env (PyData.eqv x.py y.py) := evt_cmp (op_eqP hu) (nomark _) stable_D ha hb (r2_eqP h1 h2 hd)
theorem evd_eqD (hu : X.A.units + 64 < cLine) (ha : EvD X a env x) (hb : EvD X b env y) (h1 : x.isPy = true) (h2 : y.isPy = true) (hd : x.py.depth ≤ 60) : EvD X (.Compare a [.Eq] [b] pos) env (.bl (PyData.eqv x.py y.py)) := evx_cmp (op_eqP hu) (nomark _) stable_D ha hb (r2_eqP h1 h2 hd)

/-! ### max(xs, default=d) -/
theorem dpAll_ints {K : PySem.W.Frag} {H : Hp} : ∀ ns : List Int, DpAll K H (ns.map V.int) (ns.map PyData.int)
  | [] => .nil
  | n :: ns => .cons (.int n) (dpAll_ints ns)
def rMaxDf (K : PySem.W.Frag) : List V → List V → Hp → VK → Prop := fun vs zs H Q => ∃ (a : Addr) (ns : List Int) (d : Int), vs = [V.ref a] ∧ zs = [.int d] ∧ SqL K H a (ns.map V.int) ∧ ∀ m, (ns = [] → m = d) → (ns ≠ [] → m ∈ ns ∧ ∀ y ∈ ns, y ≤ m) → Q (.int m) H
theorem alike_ints (ns : List Int) : PySem.W.AlikeAll (ns.map PyData.int) := by
  refine ⟨fun x hx y hy => ?_, fun x hx => ?_⟩
  · obtain ⟨i, _, rfl⟩ := List.mem_map.mp hx
    obtain ⟨j, _, rfl⟩ := List.mem_map.mp hy
    rfl
  · obtain ⟨i, _, rfl⟩ := List.mem_map.mp hx
    intro z
    cases z
theorem depth_ints : ∀ ns : List Int, PyData.depthAll (ns.map PyData.int) ≤ 1
  | [] => by show PyData.depthAll [] ≤ 1; unfold PyData.depthAll; omega
  | n :: ns => by
    show PyData.depthAll (PyData.int n :: ns.map PyData.int) ≤ 1
    unfold PyData.depthAll PyData.depth
    have := depth_ints ns
    omega
theorem foldl_max : ∀ (ns : List Int) (n : Int), ns.foldl max n ∈ n :: ns ∧ ∀ y ∈ n :: ns, y ≤ ns.foldl max n
  | [], n => by simp
  | k :: ns, n => by
    obtain ⟨h1, h2⟩ := foldl_max ns (max n k)
    rw [List.foldl_cons]
    refine ⟨?_, fun y hy => ?_⟩
    · rcases List.mem_cons.mp h1 with e | h
      · rw [e]
        rcases Int.le_total n k with q | q
        · rw [Int.max_eq_right q]; simp
        · rw [Int.max_eq_left q]; simp
      · exact List.mem_cons_of_mem _ (List.mem_cons_of_mem _ h)
    · have h3 := h2 (max n k) List.mem_cons_self
      rcases List.mem_cons.mp hy with e | hy
      · omega
      · rcases List.mem_cons.mp hy with e | hy
        · omega
        · exact h2 y (List.mem_cons_of_mem _ hy)
theorem cr_maxDf (hc : X.calm = true) (hu : X.A.units + 64 < cLine) : CallRK X (.builtin "max") [Str.ofString "default"] (rMaxDf X.K) := by
  intro pins s σ H vs zs us ws Q I r rz h
  obtain ⟨a, ns, d, rfl, rfl, hs, q⟩ := h
  obtain rfl := Vals.ref1 r
  obtain ⟨w1, rfl, e1⟩ := vals1 rz
  obtain ⟨t, rfl⟩ := e1
  obtain ⟨its, rv, hl, _⟩ := I.list hs
  obtain ⟨as, hr⟩ := Dp.readsAll I (ns.map PyData.int) _ its (dpAll_ints ns) rv
  have hd := depth_ints ns
  refine PySem.W.max_list_default (I.ok.hd hc) hl.isList (by simpa using hr) (alike_ints ns) (by omega) (fun e h' tk hk => ?_) (fun y ys i v h' tk bs e hv rd hk => ?_)
  · have e' : ns = [] := by simpa using e
    exact ⟨.int d, H, I.kept hk, ⟨t, rfl⟩, q d (fun _ => rfl) (fun z => absurd e' z)⟩
  · cases ns with
    | nil => cases e
    | cons n ns =>
      obtain ⟨e1, e2⟩ := List.cons.inj e
      rw [← e1, ← e2, PySem.W.maxD_ints] at rd
      cases rd with
      | int i2 t2 =>
        obtain ⟨m1, m2⟩ := foldl_max ns n
        exact ⟨.int _, H, I.kept hk, ⟨t2, rfl⟩, q _ (fun z => by cases z) (fun _ => ⟨m1, m2⟩)⟩
theorem evd_maxDf {ns : List Int} {m dflt : Int} {kpos kp : Pos} {ed : Expr} (hc : X.calm = true) (hu : X.A.units + 64 < cLine) (hg : Gl X "max") (hm : X.mg "max" = none) (h : EvL X e env (dInts ns)) (hd : EvD X ed env (.int dflt)) (h1 : ns = [] → m = dflt) (h2 : ns ≠ [] → m ∈ ns ∧ ∀ y ∈ ns, y ≤ m)
    (he : backTo pos (starEach [e] X.env) = (false, eval e X.env) :: backTo pos (starEach [] X.env) := by rfl) (he' : starEach [e] X.env = (false, eval e X.env) :: starEach [] X.env := by rfl) (hpl : (backTo pos (starEach [e] X.env)).any (·.1) = false := by rfl)
    (hall : (backToKw pos (keywordEach [⟨some (Str.ofString "default"), ed, kpos⟩] X.env)).all (·.1.isSome) = true := by rfl) (hnone : (backToKw pos (keywordEach [⟨some (Str.ofString "default"), ed, kpos⟩] X.env)).any (·.1.isNone) = false := by rfl) (hks : (backToKw pos (keywordEach [⟨some (Str.ofString "default"), ed, kpos⟩] X.env)).filterMap (·.1) = [Str.ofString "default"] := by rfl) :
    EvD X (.Call (.Name "max" p) [e] [⟨some (Str.ofString "default"), ed, kpos⟩] pos) env (.int m) := fun B Hf H σ st Q q =>
  wpE.of (pe_callBK (cr_maxDf hc hu) hg hm (by decide +kernel) (pa_cons pe_wp pa_nil he') (pk_cons pe_wp pk_nil) (by decide) (by decide) he hpl hall hnone hks) (h B Hf H σ st _ fun v Hf1 H1 g1 r1 => hd B Hf1 H1 σ (st.grow g1) _ fun w Hf2 H2 g2 r2 => by
    obtain ⟨l, xs, e, hl, r⟩ := r1
    subst e
    rw [r.ints] at hl
    rw [r2.inv_int]
    refine ⟨l, ns, dflt, rfl, rfl, g2.h.seq hl, fun k hk1 hk2 => ?_⟩
    have : k = m := by
      by_cases z : ns = []
      · rw [hk1 z, h1 z]
      · obtain ⟨a1, a2⟩ := hk2 z
        obtain ⟨b1, b2⟩ := h2 z
        have := a2 m b1
        have := b2 k a1
        omega
    subst this
    exact q _ _ _ (g1.trans g2) (.int _))
end
end Dt
set_option maxHeartbeats 2000000

namespace Dt
open PySem PySem.Spec PyProof.Rows L2
/-! ### enumerate over a tuple -/
section
open Sem (wp)
open AutoSeq1 (wpAny_loadPart')
theorem meets_enumT (l : Addr) (items : Array Value) (n : Nat) (dct : Option Addr) (sl : Array (Option Value)) :
    Meets (Builtin.«enumerate.__new__» ⟨[.type "enumerate", .ref l], []⟩) (fun _ R s => s.heap.get? l = some { cls := .type "tuple", dict := dct, data := .seq items n, slots := sl } ∧
      R (.ok (.ret (.ref (s.heap.push { cls := .type "tuple_iterator", data := .fields #[.ref l, .int 0 0] }).objs.size)))
        { s with heap := (s.heap.push { cls := .type "tuple_iterator", data := .fields #[.ref l, .int 0 0] }).push { cls := .type "enumerate", data := .fields #[.none, .bool false, .ref s.heap.objs.size, rawInt 0, .none, .none] } }) :=
  .of_wp fun prog w A R s h => by
    obtain ⟨hp, g, d, tk, os⟩ := s
    obtain ⟨hl, h⟩ := h
    have hsub := sub_enumerate
    have hT : Heap.IsTuple (Shared.heap ⟨hp, g, d, tk, os⟩) l items := ⟨_, hl, rfl, n, rfl⟩
    wp_walk using wpAny_loadPart' hl
    refine wpAny_stack_any fun st => wpAny_pure ?_
    split
    · rename_i c _ _ _ _ _
      cases (c == Value.type "enumerate")
      all_goals
        wp_walk using wpAny_loadPart' hl, wpAny_pyIter_tuple hT
        exact ⟨_, rfl, h⟩
    · wp_walk using wpAny_loadPart' hl, wpAny_pyIter_tuple hT
      exact ⟨_, rfl, h⟩
theorem call_enumT {prog : Program} {w : World} {A : Around} {E : Value → Shared → Prop} {s : Shared} {l : Addr} {items : Array Value} {Q : Value → Shared → Prop} (hL : s.heap.IsTuple l items)
    (h : ∀ h', IsEnum h' (s.heap.objs.size + 1) s.heap.objs.size 0 .none → h'.IsTupleIter s.heap.objs.size l 0 → (∀ b o, s.heap.get? b = some o → h'.get? b = some o) → Q (.ref (s.heap.objs.size + 1)) { s with heap := h' }) :
    wpAny (model prog w) A (call (.type "enumerate") [.ref l]) Q E s := by
  obtain ⟨⟨c, dct, dt, sl⟩, hl, hc, n, hd⟩ := hL
  replace hc : c = .type "tuple" := hc
  replace hd : dt = .seq items n := hd
  subst hc hd
  refine callType_new F.called_enumerate (by decide) (F.typeCall_enumerate_1 _) (F.newCall_enumerate_1 _) (fun obj => F.args_object_init_2 obj _) F.entry_enumerate_new (meets_enumT l items n dct sl) ⟨hl, ?_⟩
  have hz : (s.heap.push { cls := .type "tuple_iterator", data := .fields #[.ref l, .int 0 0] }).objs.size = s.heap.objs.size + 1 := Heap.size_push ..
  show _ ∧ _
  rw [hz]
  have he : IsEnum ((s.heap.push { cls := .type "tuple_iterator", data := .fields #[.ref l, .int 0 0] }).push
      { cls := .type "enumerate", data := .fields #[.none, .bool false, .ref s.heap.objs.size, rawInt 0, .none, .none] }) (s.heap.objs.size + 1) s.heap.objs.size 0 .none := by
    have q := Heap.get?_push_size (s.heap.push { cls := .type "tuple_iterator", data := .fields #[.ref l, .int 0 0] }) (o := { cls := .type "enumerate", data := .fields #[.none, .bool false, .ref s.heap.objs.size, rawInt 0, .none, .none] }) rfl
    rw [hz] at q
    exact q
  exact ⟨⟨_, he, rfl⟩, h _ he ⟨_, Heap.get?_push_of_some _ (Heap.get?_push_size _ rfl), rfl, rfl⟩ fun b o x => Heap.get?_push_of_some _ (Heap.get?_push_of_some _ x)⟩
end
/-- the tuple at a, the items in new pairs -/
def IteT (K : PySem.W.Frag) (a : Addr) : It :=
  ⟨fun i H => ∃ (xs : List V) (x : V), SqT K H a xs ∧ xs[i]? = some x, fun i H v H' => ∃ T x, v = .ref T ∧ H T = none ∧ H' = upd H T (.tup [.int (i : Nat), x]) ∧ ∀ xs, SqT K H a xs → xs[i]? = some x, fun i H => ∃ xs : List V, SqT K H a xs ∧ xs.length ≤ i⟩

theorem tup_ne {h : Heap} {a b : Addr} {its : Array Value} {T : String} (ht : h.IsTuple a its) (hb : ∃ o, h.get? b = some o ∧ o.cls = .type T) (hT : T ≠ "tuple") : a ≠ b := fun z => by
  subst z
  obtain ⟨o, e, c, _⟩ := ht
  obtain ⟨o', e', c'⟩ := hb
  rw [e] at e'
  cases e'
  rw [c] at c'
  exact hT (Value.type.inj c').symm
theorem turn_enumT {P : Program} {w : World} {K : PySem.W.Frag} {elts : List Expr} {kk : Nat} {tpos : Pos} (a e it : Addr) :
    Turn P w K (.Tuple elts kk tpos) (IteT K a) [e, it] e (fun i h => (∃ old, IsEnum h e it ((i : Nat) : Int) old) ∧ h.IsTupleIter it a i ∧ e ≠ it) where
  mem := by simp
  obj := fun i h st b hb => by
    obtain ⟨⟨old, he⟩, ⟨o, ho, hc, hd⟩, _⟩ := st
    have e' : b = e ∨ b = it := by simpa using hb
    rcases e' with z | z
    · rw [z]; exact ⟨_, he, fun v q => nomatch q⟩
    · rw [z]; exact ⟨o, ho, fun v q => by rw [hd] at q; cases q⟩
  keep := fun i h h' st k => let ⟨⟨old, he⟩, hi, hne⟩ := st; ⟨⟨old, k e (by simp) _ he⟩, hi.at fun o q => k it (by simp) o q, hne⟩
  item := by
    intro X hP hw hK hc i pins s σ H E I hf st hg
    subst hP hw hK
    obtain ⟨⟨old, he⟩, hit, hne⟩ := st
    obtain ⟨xs, x, hq, hx⟩ := hg
    obtain ⟨its, rv, p, hz⟩ := I.tuple hq
    obtain ⟨u, hu, ru⟩ := rv.get hx
    have pT : s.heap.IsTuple a its.toArray := p
    have hel : e < s.heap.objs.size := Heap.lt_size he
    have hil : it < s.heap.objs.size := by obtain ⟨_, q, _⟩ := hit; exact Heap.lt_size q
    have ae : a ≠ e := tup_ne pT ⟨_, he, rfl⟩ (by decide)
    have ai : a ≠ it := tup_ne pT (by obtain ⟨o, q, c, _⟩ := hit; exact ⟨o, q, c⟩) (by decide)
    have hlen : i < its.toArray.size := by
      have := (List.getElem?_eq_some_iff.mp hu).1
      simpa using this
    refine wpAny_pyNext_enum_itemD (Draws.tuple (A := X.A.in1) (I.ok.hd hc) it a ai its.toArray) he ⟨hit, pT⟩ hlen hne (by simp only [List.mem_cons, List.mem_nil_iff, or_false, not_or]; exact ⟨hne, fun z => ae z.symm⟩) fun x' h' tk hx' ho hit' hT hsz hk => ?_
    have ex : x' = u := by
      have h1 : its[i]? = some x' := by simpa using hx'
      rw [hu] at h1
      exact (Option.some.inj h1).symm
    subst ex
    refine ⟨_, rfl, wpAny_letOwnedTupleGo_enum (s := { s with heap := h', toks := tk + 1 }) ho fun h'' he' sb => ?_⟩
    have hT2 : h''.get? s.heap.objs.size = some { cls := .type "tuple", data := .seq #[.int i tk, x'] } := (sb.2 _ (Nat.ne_of_gt hel)).trans hT
    have new : ObjOk X.prog X.w (upd H s.heap.objs.size (.tup [.int (i : Nat), x])) h'' s.heap.objs.size (.tup [.int (i : Nat), x]) :=
      ⟨by show 2 ≤ sizeLine; decide, [.int i tk, x'], .cons ⟨_, rfl⟩ (.cons ru .nil), ⟨_, hT2, rfl, _, rfl⟩⟩
    have I1 : Inv X pins σ (upd H s.heap.objs.size (.tup [.int (i : Nat), x])) { s with heap := h'', toks := tk + 1 } :=
      I.turnedNew (ch := [e, it]) (fun b ob hb q => (sb.2 b (fun z => hb (by simp [z]))).trans (hk b ob (fun z => hb (by simp [z])) (fun z => hb (by simp [z])) q)) hf (Nat.le_refl _) new
    refine ⟨.ref s.heap.objs.size, _, I1, rfl, ⟨_, x, rfl, I.hok.fresh (Nat.le_refl _), rfl, fun ys hy => by rw [I.tuple_inj hy hq]; exact hx⟩, ⟨⟨x', ?_⟩, hit'.1.at fun o q => (sb.2 it (Ne.symm hne)).trans q, hne⟩, fun b hb => ?_⟩
    · have e1 : ((i + 1 : Nat) : Int) = (i : Int) + 1 := by omega
      rw [e1]
      exact he'
    · have hb' : b < s.heap.objs.size := by
        have e' : b = e ∨ b = it := by simpa using hb
        rcases e' with z | z
        · rw [z]; exact hel
        · rw [z]; exact hil
      rw [upd_ne (Nat.ne_of_lt hb')]
      exact (hf b hb).1
  done := by
    intro X hP hw hK hc i pins s σ H E I hf st hg
    subst hP hw hK
    obtain ⟨⟨old, he⟩, hit, hne⟩ := st
    obtain ⟨xs, hq, hx⟩ := hg
    obtain ⟨its, rv, p, hz⟩ := I.tuple hq
    have pT : s.heap.IsTuple a its.toArray := p
    obtain ⟨f0, f1, f2, f3, f4, f5⟩ := hf it (by simp)
    have hl := rv.length
    have hT : s.TypeIs (.ref e) "enumerate" := ⟨_, he, rfl⟩
    unfold pyNext
    refine wpAny_bind (wpAny_attempt (wpAny_callSpecial?_slot (name := Str.ofString "__next__") hT F.slot_enumerate_next (wpAny_call_entry F.slot_enumerate_next hT F.entry_enumerate_next ?_ (F.args_enumerate_next_1 _))))
    show wpAny _ _ (field (.ref e) 2 >>= _) _ _ _
    refine wpAny_bind (wpAny_field he rfl (x := .ref it) rfl ?_)
    refine wpAny_bind (wpAny_nextOf_tuple_end (A := X.A.in1) (I.ok.hd hc) hit pT (by simp; omega) fun h' x he' hx' => ?_)
    obtain ⟨o, ho, hc'⟩ := hx'
    refine wpAny_bind (wpAny_isInstance (T := "StopIteration") (b := true) ⟨o, ho, hc'⟩ isSubtype_stop ?_)
    exact wpAny_pure ⟨rfl, I.turned (t' := s.toks) (fun b o hb q => he' b o hb q) f0 f1 f3 f4 f5⟩
  self := fun A i s Q E st h => let ⟨⟨_, he⟩, _⟩ := st; wpAny_pyIter_enum he h
def iEnumT (K : PySem.W.Frag) (ta : TA) : TI := fun σ H R => ta σ H fun vs H1 => ∃ a xs, vs = [.ref a] ∧ SqT K H1 a xs ∧ R (IteT K a) H1
theorem pi_enumT {X : Cx} {e : Expr} {ta : TA} {p pos tpos : Pos} {elts : List Expr} {kk : Nat} (hg : Gl X "enumerate") (hm : X.mg "enumerate" = none) (ha : PA X [e] ta) (hs : starEach [e] X.env = [(false, eval e X.env)] := by rfl) :
    PI X (.Tuple elts kk tpos) (.Call (.Name "enumerate" p) [e] [] pos) (iEnumT X.K ta) := by
  refine ⟨fun pins s σ H R I h => ?_⟩
  refine Call_ (ld_blt I hg hm boot_enumerate (PyProof.Rows.callWith_type1 (thn (ha.run pos pins s σ H _ I h) fun us s1 ⟨vs, H1, I1, r1, q1⟩ => ?_) hs rfl))
  obtain ⟨a, xs, ex, hq, q⟩ := q1
  subst ex
  cases r1 with
  | cons r rr =>
    cases rr
    cases r
    obtain ⟨its, rv, p', hz⟩ := I1.tuple hq
    refine call_enumT (show s1.heap.IsTuple a its.toArray from p') fun h' he hit hk => wpAny_pyIter_enum he ?_
    have I2 : Inv X pins σ H1 { s1 with heap := h' } := I1.kept (t' := s1.toks) hk
    refine ⟨s1.heap.objs.size + 1, [s1.heap.objs.size + 1, s1.heap.objs.size], _, _, H1, rfl, I2, turn_enumT a (s1.heap.objs.size + 1) s1.heap.objs.size, ⟨⟨.none, he⟩, hit, Nat.succ_ne_self _⟩, fun b hb => ?_, q⟩
    have e' : b = s1.heap.objs.size + 1 ∨ b = s1.heap.objs.size := by simpa using hb
    have hle : s1.heap.objs.size ≤ b := by
      rcases e' with z | z
      · rw [z]; exact Nat.le_add_right _ _
      · rw [z]; exact Nat.le_refl _
    exact I1.fpOk hle (I1.hok.fresh hle)
theorem itd_enumT {K : PySem.W.Frag} {Hf : Hp} {p : Addr} {xs : List V} {ds : List D} (h : SqT K Hf p xs) (r : Reps K Hf xs ds) : ItD K (IteT K p) Hf (ds.zipIdx.map fun x => .tup [.int (x.2 : Nat), x.1]) := fun Hf1 H1 s1 s2 => by
  have h1 : SqT K H1 p xs := Same.seqT s2 (Same.seqT s1 h)
  refine ⟨⟨xs, h1, by rw [r.len]; simp⟩, fun i d hd => ?_⟩
  rw [List.getElem?_map, List.getElem?_zipIdx] at hd
  cases he : ds[i]? with
  | none => rw [he] at hd; cases hd
  | some d0 =>
    rw [he] at hd
    cases hd
    obtain ⟨x, hx, rx⟩ := r.get he
    refine ⟨⟨xs, x, h1, hx⟩, fun y H' hy => ?_⟩
    obtain ⟨T, x', rfl, hT, rfl, hy⟩ := hy
    have := hy xs h1
    rw [hx] at this
    cases this
    refine ⟨upd Hf1 T (.tup [.int (i : Nat), x]), Grow.new s2 hT, .tup_of (SqT.of upd_same) ?_⟩
    have e : (0 + i) = i := by omega
    exact .cons (by simpa using Rep.int _) (.cons (rx.mono (s1.trans (same_upd (s2.free hT)))) .nil)
section
variable {X : Cx} {a b e tg : Expr} {es : List Expr} {env : CEnv} {pos p : Pos} {d x y z : D} {ds : List D} {i j : Int}
theorem evi_enumU {tpos : Pos} {elts : List Expr} {kk : Nat} (hg : Gl X "enumerate") (hm : X.mg "enumerate" = none) (he : EvD X e env (.tup ds)) (hs : starEach [e] X.env = [(false, eval e X.env)] := by rfl) : EvI X (.Tuple elts kk tpos) (.Call (.Name "enumerate" p) [e] [] pos) env (ds.zipIdx.map fun x => .tup [.int (x.2 : Nat), x.1]) := fun B Hf H σ st R q =>
  wpI.of (pi_enumT hg hm (pa_cons pe_wp pa_nil hs) hs) (he B Hf H σ st _ fun v Hf1 H1 g1 r1 => by
    obtain ⟨l, xs, rfl, hl, r⟩ := r1.inv_tup
    exact ⟨l, xs, rfl, Same.seqT g1.s hl, q _ Hf1 H1 g1 (itd_enumT hl r)⟩)

/-! ### the signs of a text -/
def signsD (t : Str) : List D := t.cps.toList.map fun c => D.str ⟨#[c]⟩
theorem itd_str {K : PySem.W.Frag} {Hf : Hp} (t : Str) : ItD K (Its t) Hf (signsD t) := fun Hf1 H1 s1 s2 => by
  refine ⟨by show t.cps.size ≤ (signsD t).length; unfold signsD; simp, fun i d hd => ?_⟩
  unfold signsD at hd
  rw [List.getElem?_map] at hd
  cases he : t.cps.toList[i]? with
  | none => rw [he] at hd; cases hd
  | some c =>
    rw [he] at hd
    cases hd
    have hi : i < t.cps.size := by simpa using (List.getElem?_eq_some_iff.mp he).1
    refine ⟨hi, fun y H' hy => ?_⟩
    obtain ⟨rfl, c', hc', rfl⟩ := hy
    have : c' = c := by
      have e2 : t.cps.toList[i]? = some c' := by simpa using hc'
      rw [he] at e2
      exact (Option.some.inj e2).symm
    subst this
    exact ⟨Hf1, Grow.refl s2, .str _⟩
theorem evi_str {t : Str} (he : EvD X e env (.str t)) : EvI X tg e env (signsD t) := fun B Hf H σ st R q => wpI.of (pi_str pe_wp) (he B Hf H σ st _ fun v Hf1 H1 g1 r1 => ⟨t, r1.inv_str, q _ Hf1 H1 g1 (itd_str t)⟩)

/-! ### join, split -/
theorem Reps.strs {K : PySem.W.Frag} {H : Hp} {xs : List V} : ∀ {ns : List Str}, Reps K H xs (ns.map D.str) → xs = ns.map V.str := by
  intro ns
  induction ns generalizing xs with
  | nil => intro r; exact r.inv_nil
  | cons n t ih =>
    intro r
    obtain ⟨v, ys, rfl, rv, rt⟩ := r.inv_cons
    rw [rv.inv_str, ih rt]
    rfl
theorem reps_strs {K : PySem.W.Frag} {H : Hp} : ∀ (ns : List Str), Reps K H (ns.map V.str) (ns.map D.str)
  | [] => .nil
  | n :: t => .cons (.str n) (reps_strs t)
theorem evd_joinL {t : Str} {ys : List Str} {apos : Pos} {o : Expr} (ho : EvD X o env (.str t)) (he : EvL X e env (ys.map D.str)) (hl : (ys.map (·.length)).sum + ys.length * t.length ≤ 1000000) (hs : starEach [e] X.env = [(false, eval e X.env)] := by rfl) (hbase : attributeBase o "join" X.env (eval o X.env) = eval o X.env := by rfl) (hline : (apos.endLine == pos.line) = true := by rfl) :
    EvD X (.Call (.Attribute o "join" apos) [e] [] pos) env (.str (Txt.join t ys)) := fun B Hf H σ st Q q =>
  wpE.of (pe_join pe_wp pe_wp hs hbase hline) (ho B Hf H σ st _ fun v Hf1 H1 g1 r1 => ⟨⟨t, r1.inv_str⟩, he B Hf1 H1 σ (st.grow g1) _ fun w Hf2 H2 g2 r2 => by
    obtain ⟨l, xs, e, hl', r⟩ := r2
    subst e
    rw [r.strs] at hl'
    exact ⟨t, l, ys, r1.inv_str, rfl, .inl hl', by omega, q _ _ _ (g1.trans g2) (.str _)⟩⟩)
theorem evd_split {t s : Str} {apos : Pos} {o : Expr} (ho : EvD X o env (.str t)) (he : EvD X e env (.str s)) (hn : (s.length == 0) = false) (hl : t.length ≤ 100000) (hs : starEach [e] X.env = [(false, eval e X.env)] := by rfl) (hbase : attributeBase o "split" X.env (eval o X.env) = eval o X.env := by rfl) (hline : (apos.endLine == pos.line) = true := by rfl) :
    EvD X (.Call (.Attribute o "split" apos) [e] [] pos) env (.lst ((Txt.split t s).map D.str)) := fun B Hf H σ st Q q =>
  wpE.of (pe_split pe_wp pe_wp hs hbase hline) (ho B Hf H σ st _ fun v Hf1 H1 g1 r1 => ⟨⟨t, r1.inv_str⟩, he B Hf1 H1 σ (st.grow g1) _ fun w Hf2 H2 g2 r2 => by
    refine ⟨t, s, r1.inv_str, by rw [r2.inv_str], hn, by have := small_size (n := t.length + 2) (by omega); exact this, fun l hl' => q _ _ _ ((g1.trans g2).trans (Grow.new g2.s hl')) (.lst_of (SqL.of upd_same) (reps_strs _))⟩⟩)

/-! ### isinstance -/
structure ClI (K : PySem.W.Frag) (C : Addr) : Prop where
  cl : Cls K C
  ha : PySem.W.findIn K (.ref C) "__class__" = some (some (.builtin "object.__class__"))
  hn : PySem.W.specialIn K (.builtin "object.__class__") "__get__" = some (some (.builtin "getset_descriptor.__get__"))
  htk : PySem.W.takesIn K (.builtin "object.__class__") = some true
  hm : PySem.W.mroIn K C (.type "object") = some true
inductive TyD (K : PySem.W.Frag) : D → Value → Prop
  | non : TyD K .non (.type "NoneType")
  | bl (b : Bool) : TyD K (.bl b) (.type "bool")
  | int (i : Int) : TyD K (.int i) (.type "int")
  | str (s : Str) : TyD K (.str s) (.type "str")
  | lst (ds : List D) : TyD K (.lst ds) (.type "list")
  | tup (ds : List D) : TyD K (.tup ds) (.type "tuple")
  | obj {C : Addr} (gs : List (Str × D)) : ClI K C → TyD K (.obj C gs) (.ref C)
theorem TyD.tyx {K : PySem.W.Frag} {H : Hp} {d : D} {t : Value} {v : V} (h : TyD K d t) (r : Rep K H v d) : TyX K H v t := by
  cases h with
  | non => rw [r.inv_non]; exact .base .non
  | bl b => rw [r.inv_bl]; exact .base (.bl b)
  | int i => rw [r.inv_int]; exact .base (.int i)
  | str s => rw [r.inv_str]; exact .base (.str s)
  | lst ds =>
    obtain ⟨a, xs, rfl, hs, _⟩ := r.inv_lst
    rcases hs with (hs | ⟨o, hs⟩) | ⟨o, its, n, hk, hc, _⟩
    · exact .base (.lst hs)
    · exact .base (.frz hs)
    · exact .kList hk hc
  | tup ds =>
    obtain ⟨a, xs, rfl, hs, _⟩ := r.inv_tup
    rcases hs with (hs | ⟨o, hs⟩) | ⟨o, its, n, hk, hc, _⟩
    · exact .base (.tup hs)
    · exact .fTuple hs
    · exact .kTuple hk hc
  | obj gs c =>
    obtain ⟨a, dx, fs, rfl, hs, _⟩ := r.inv_obj
    exact .base (.ins hs c.cl c.ha c.hn c.htk c.hm)
inductive ClD : D → Value → Prop
  | ty (n : String) : ClD (.ty n) (.type n)
  | cls (C : Addr) : ClD (.cls C) (.ref C)
theorem evd_isi {c : D} {t u : Value} {l : Bool} (hg : Gl X "isinstance") (hm : X.mg "isinstance" = none) (ha : EvD X a env d) (hb : EvD X b env c) (ht : TyD X.K d t) (hc : ClD c u) (hk : PySem.W.kitOne X.K t u = some l)
    (he : starEach [a, b] X.env = (false, eval a X.env) :: starEach [b] X.env := by rfl) (he2 : starEach [b] X.env = (false, eval b X.env) :: starEach [] X.env := by rfl) (hpl : (backTo pos (starEach [b] X.env)).any (·.1) = false := by rfl) : EvD X (.Call (.Name "isinstance" p) [a, b] [] pos) env (.bl l) :=
  evx_cb2 call_isi hg hm (by decide +kernel) stable_D ha hb (c2_pure fun Hf H v w Q s r1 r2 q => by
    cases hc with
    | ty n =>
      rw [r2.inv_ty]
      exact ⟨v, .ty n, t, .type n, l, rfl, .ty n, ht.tyx (r1.mono s), hk, q _ (.bl l)⟩
    | cls C =>
      rw [r2.inv_cls]
      exact ⟨v, .ref C, t, .ref C, l, rfl, .own C, ht.tyx (r1.mono s), hk, q _ (.bl l)⟩) (by decide) (by decide) he he2 hpl
theorem evt_isi {c : D} {t u : Value} {l : Bool} (hg : Gl X "isinstance") (hm : X.mg "isinstance" = none) (ha : EvD X a env d) (hb : EvD X b env c) (ht : TyD X.K d t) (hc : ClD c u) (hk : PySem.W.kitOne X.K t u = some l)
    (he : starEach [a, b] X.env = (false, eval a X.env) :: starEach [b] X.env := by rfl) (he2 : starEach [b] X.env = (false, eval b X.env) :: starEach [] X.env := by rfl) (hpl : (backTo pos (starEach [b] X.env)).any (·.1) = false := by rfl) : EvT X (.Call (.Name "isinstance" p) [a, b] [] pos) env l := evt_val (evd_isi hg hm ha hb ht hc hk he he2 hpl)
/-- a built-in type's name -/
theorem evd_ty {n : Str} {t : String} (hg : Gl X n) (hm : X.mg n = none) (hv : bootBuiltins n = some (.type t)) (hn : n ≠ "__name__" := by decide) (hdb : (n == ("__debug__" : Str)) = false := by decide) : EvD X (.Name n p) env (.ty t) :=
  evx_pure (pe_bltn (v := .ty t) hg hm hv rfl hn hdb) fun B Hf H σ st Q q => q _ (.ty t)

/-! ### sorted of pairs of ints -/
abbrev prD (q : Int × Int) : D := .tup [.int q.1, .int q.2]
def lexLe (p q : Int × Int) : Prop := p.1 < q.1 ∨ (p.1 = q.1 ∧ p.2 ≤ q.2)
theorem lex_uniq : ∀ {l m : List (Int × Int)}, l.Perm m → l.Pairwise lexLe → m.Pairwise lexLe → l = m
  | [], m, h, _, _ => (List.Perm.eq_nil h.symm).symm
  | x :: l, [], h, _, _ => absurd h.length_eq (by simp)
  | x :: l, y :: m, h, h1, h2 => by
    obtain ⟨a1, a2⟩ := List.pairwise_cons.mp h1
    obtain ⟨b1, b2⟩ := List.pairwise_cons.mp h2
    have e : x = y := by
      rcases List.mem_cons.mp (h.mem_iff.mp List.mem_cons_self) with e | e
      · exact e
      · rcases List.mem_cons.mp (h.mem_iff.mpr (List.mem_cons_self (a := y) (l := m))) with e' | e'
        · exact e'.symm
        · have c1 := a1 y e'
          have c2 := b1 x e
          obtain ⟨x1, x2⟩ := x
          obtain ⟨y1, y2⟩ := y
          simp only [lexLe] at c1 c2
          have d1 : x1 = y1 := by omega
          have d2 : x2 = y2 := by omega
          rw [d1, d2]
    subst e
    rw [lex_uniq h.cons_inv a2 b2]
def rSortP (K : PySem.W.Frag) : List V → Hp → VK → Prop := fun vs H Q => ∃ (a : Addr) (xs : List V) (ps : List (Int × Int)), vs = [V.ref a] ∧ SqL K H a xs ∧ xs.length = ps.length ∧ (∀ (i : Nat) (x : V) (q : Int × Int), xs[i]? = some x → ps[i]? = some q → ∃ t, x = V.ref t ∧ SqT K H t [.int q.1, .int q.2]) ∧
  ∀ (ys : List V) (qs : List (Int × Int)) (p : Addr), ys.length = qs.length → (∀ (i : Nat) (y : V) (q : Int × Int), ys[i]? = some y → qs[i]? = some q → ∃ j : Nat, xs[j]? = some y ∧ ps[j]? = some q) → qs.Perm ps → qs.Pairwise lexLe → H p = none → Q (.ref p) (upd H p (.lst ys))
theorem call_sortP : CallR X (.builtin "sorted") (rSortP X.K) := by
  intro pins s σ H vs us Q I r h
  obtain ⟨a, xs, ps, rfl, hs, hlen, hx, q⟩ := h
  obtain ⟨its, rv, hl, hz⟩ := I.list hs
  obtain ⟨u, rfl, ru⟩ := vals1 r
  obtain rfl : u = Value.ref a := ru
  have mem : ∀ x ∈ xs, ∃ (j : Nat) (z : Int × Int) (t : Addr), xs[j]? = some x ∧ ps[j]? = some z ∧ x = V.ref t ∧ SqT X.K H t [.int z.1, .int z.2] := fun x m => by
    obtain ⟨j, hj, e⟩ := List.getElem_of_mem m
    have h1 : xs[j]? = some x := by rw [List.getElem?_eq_getElem hj, e]
    have h2 := List.getElem?_eq_getElem (by omega : j < ps.length)
    obtain ⟨t, e1, e2⟩ := hx j x _ h1 h2
    exact ⟨j, _, t, h1, h2, e1, e2⟩
  obtain ⟨e1, e2⟩ := refs_back rv fun x m => by
    obtain ⟨_, _, t, _, _, e, _⟩ := mem x m
    exact ⟨t, e⟩
  classical
  let k : V → Int × Int := fun v => if h : ∃ (z : Int × Int) (t : Addr), v = V.ref t ∧ SqT X.K H t [.int z.1, .int z.2] then h.choose else (0, 0)
  have kv : ∀ (z : Int × Int) (t : Addr), SqT X.K H t [.int z.1, .int z.2] → k (.ref t) = z := fun z t ht => by
    have ex : ∃ (z : Int × Int) (t' : Addr), V.ref t = V.ref t' ∧ SqT X.K H t' [.int z.1, .int z.2] := ⟨z, t, rfl, ht⟩
    have e : k (.ref t) = ex.choose := dif_pos ex
    obtain ⟨t', e3, h3⟩ := ex.choose_spec
    cases e3
    have e4 := I.tuple_inj h3 ht
    simp only [List.cons.injEq, V.int.injEq, and_true] at e4
    rw [e]
    exact Prod.ext e4.1 e4.2
  have kx : ∀ (i : Nat) (x : V) (z : Int × Int), xs[i]? = some x → ps[i]? = some z → k x = z := fun i x z h1 h2 => by
    obtain ⟨t, rfl, ht⟩ := hx i x z h1 h2
    exact kv z t ht
  have kmap : xs.map k = ps := by
    refine List.ext_getElem? fun i => ?_
    rw [List.getElem?_map]
    cases hi : xs[i]? with
    | none =>
      have : xs.length ≤ i := List.getElem?_eq_none_iff.mp hi
      rw [List.getElem?_eq_none (by omega)]
      rfl
    | some x =>
      have hi2 := (List.getElem?_eq_some_iff.mp hi).1
      have h2 := List.getElem?_eq_getElem (by omega : i < ps.length)
      rw [h2]
      exact congrArg some (kx i x _ hi h2)
  refine SrtO.sorted_pairsO (k := fun u => k (backV u)) hl.isList (by rw [← rv.length]; exact hz) (fun v hv => ?_) fun h' d out h1 h2 kp hd hn => ?_
  · obtain ⟨t, rfl⟩ := e2 v hv
    have hm : V.ref t ∈ xs := by rw [e1]; exact List.mem_map.mpr ⟨_, hv, rfl⟩
    obtain ⟨_, z, t', _, _, e, ht⟩ := mem _ hm
    cases e
    obtain ⟨its2, r2, ⟨o, ho, hc, n, hd⟩, _⟩ := I.tuple ht
    obtain ⟨u1, u2, rfl, ri, rj⟩ := vals2 r2
    obtain ⟨t1, rfl⟩ := ri
    obtain ⟨t2, rfl⟩ := rj
    have ek : k (backV (.ref t)) = z := kv z t ht
    rw [ek]
    exact ⟨t, o, t1, t2, n, rfl, ho, hc, hd⟩
  · have h3 : ∀ u ∈ out, ∃ a, u = Value.ref a := fun u hu => e2 u (h2.perm.mem_iff.mp hu)
    obtain ⟨n, hn⟩ := hn
    have hb : SrtO.Stb (ltP k) (out.map backV) xs := by
      rw [e1]
      exact SrtO.Stb.map (ltP_swo k) backV h2
    have hsr := SrtO.srtd_map (lt := ltP k) (f := backV) h1
    refine ⟨.ref d, upd H d (.lst (out.map backV)), I.laid (t' := s.toks) kp hd ⟨?_, out, n, vals_back h3, hn⟩, rfl, q _ ((out.map backV).map k) d (by simp) (fun i y z hy hz => ?_) ?_ ?_ (I.hok.fresh hd)⟩
    · rw [hb.len]
      exact hz
    · rw [List.getElem?_map, hy] at hz
      cases hz
      obtain ⟨j, z, t, m1, m2, m3, m4⟩ := mem y (hb.perm.mem_iff.mp (List.mem_of_getElem? hy))
      refine ⟨j, m1, ?_⟩
      rw [kx j y z m1 m2]
      exact m2
    · rw [← kmap]
      exact hb.perm.map k
    · rw [List.pairwise_map]
      refine List.Pairwise.imp (fun {x y} hxy => ?_) hsr
      have hxy : ltP k y x = false := hxy
      have := SrtO.lexB_no.mp hxy
      unfold lexLe
      omega
theorem evd_sortP {ps qs : List (Int × Int)} (hg : Gl X "sorted") (hm : X.mg "sorted" = none) (h : EvL X e env (ps.map prD)) (h1 : qs.Perm ps) (h2 : qs.Pairwise lexLe) (he : starEach [e] X.env = (false, eval e X.env) :: starEach [] X.env := by rfl) : EvD X (.Call (.Name "sorted" p) [e] [] pos) env (.lst (qs.map prD)) :=
  evx_cb1 call_sortP hg hm (by decide +kernel) h (fun Hf H v Q s ⟨l, xs, e, hl, r⟩ q => by
    subst e
    have hlen : xs.length = ps.length := by rw [r.len]; simp
    -- the pairs stand in the frozen part
    have at_ : ∀ (i : Nat) (x : V) (z : Int × Int), xs[i]? = some x → ps[i]? = some z → Rep X.K Hf x (prD z) := fun i x z hx hz => r.at_ i x (prD z) hx (by rw [List.getElem?_map, hz]; rfl)
    refine ⟨l, xs, ps, rfl, hl, hlen, fun i x z hx hz => ?_, fun ys zs m hyl hy hp hs hmn => ?_⟩
    · obtain ⟨t, vs, rfl, ht, rs⟩ := (at_ i x z hx hz).inv_tup
      obtain ⟨v1, vs1, rfl, r1, rs1⟩ := rs.inv_cons
      obtain ⟨v2, vs2, rfl, r2, rs2⟩ := rs1.inv_cons
      rw [r1.inv_int, r2.inv_int, rs2.inv_nil] at ht
      exact ⟨t, rfl, Same.seqT s ht⟩
    · have e : zs = qs := lex_uniq (hp.trans h1.symm) hs h2
      subst e
      refine q _ _ _ (Grow.new s hmn) (.lst_of (SqL.of upd_same) (Reps.mono (same_upd (s.free hmn)) ⟨by rw [hyl]; simp, fun i y d hy1 hd => ?_⟩))
      rw [List.getElem?_map] at hd
      cases hz : zs[i]? with
      | none => rw [hz] at hd; cases hd
      | some z =>
        rw [hz] at hd
        cases hd
        obtain ⟨j, j1, j2⟩ := hy i y z hy1 hz
        exact at_ j y z j1 j2) (by decide) (by decide) he
end
end Dt
set_option maxHeartbeats 2000000
/-! Dat9: super().__init__(..) in an __init__ -/
namespace Dt
open PySem PySem.Spec PyProof.Rows L2

/-- the facts of an __init__ at f of the class at C that names super(): cc its cell, cda its code, g the base's __init__ -/
structure Sup (P : Program) (K : PySem.W.Frag) (mg : Str → Option Value) (C f cc cda g : Addr) (m : Str) (F : NdefX.NF) (fd : FuncData) : Prop where
  ex : ∃ (oc : Value) (od : Option Addr) (dV kV doc pm ct : Value) (an : Option Addr) (osl : Array (Option Value)), fd = PySem.W.fnX F.name F.qual F.params F.body F.scope [(("__class__" : Str), cc)] dV kV doc pm an (.ref cda) ct ∧ K.lookup f = some ⟨oc, od, .func fd, osl⟩
  hcl : F.cl = [(("__class__" : Str), cc)]
  hc : F.c = cda
  hcd : PySem.W.codeIn K (.ref cda) F.qual = true
  cell : ∃ (cl : Value) (cld : Option Addr) (csl : Array (Option Value)), K.lookup cc = some ⟨cl, cld, .cell (some (.ref C)), csl⟩
  code : ∃ (ccl : Value) (cdd : Option Addr) (vs : Array Value) (ccs : Array (Option Value)) (file : Str) (tf : Tok), K.lookup cda = some ⟨ccl, cdd, .fields vs, ccs⟩ ∧ vs[2]? = some (.str file tf) ∧ ((P.main.file : Str) == file) = true
  cls : ∃ cd, PySem.W.clsIn K C = some cd
  sub : PySem.W.mroIn K C (.ref C) = some true
  mgs : mg "super" = none
  hks : F.scope.names.lookup ("super" : Str) = some .globalImplicit
  hkc : F.scope.names.lookup ("__class__" : Str) = some .free
  hka : F.scope.names.lookup ("self" : Str) = some .local
  hp : ((F.params.posonlyargs ++ F.params.args).head?.map (·.arg)) = some ("self" : Str)
  htop : (P.main.scope.names.lookup ("super" : Str)).isSome = false
  hm : PySem.W.ks_superIn K C C m = some (some (.ref g))
  ht : PySem.W.typeIn K (.ref g) = some (.type "function")
  fg : PySem.W.fnIn K g = true
  ho : PySem.W.nsIn K cStatics "thirdparty.any" = some none
  kind : F.scope.kind = .function

def wpSsA (X : Cx) (body sts : List Stmt) : TS := fun D σ H => ∀ (pins : List (Addr × Obj)) (s : Shared), Inv X pins σ H s → _root_.PySem.wpAt (model X.prog X.w) X.A (.func body X.env) (execs sts X.env) (SP X pins D) X.xe s
section
variable {X : Cx} {st : Stmt} {body rest sts : List Stmt} {D : Ends} {σ : St} {H : Hp}
theorem wpSsA.of (h : wpSs X sts D σ H) : wpSsA X body sts D σ H := fun pins s I => wpAt_of_wpAny (h pins s I)
theorem wpSsA.cons (h : wpS X st { D with nx := wpSsA X body rest D } σ H) : wpSsA X body (st :: rest) D σ H := fun pins s I =>
  ks_wpAt_execs_cons (ks_wpAt_mono (wpAt_of_wpAny (h pins s I)) (fun f s' hs => by
    cases f with
    | next =>
      obtain ⟨σ', H', I', q⟩ := hs
      exact q pins s' I'
    | ret v => exact hs
    | brk => exact hs
    | cont => exact hs) fun _ _ z => z)
end
/-- super().m(e, ..) as a statement -/
theorem wpSsA.super {X : Cx} {CX : CXT} {C f cc cda g : Addr} {m : Str} {F : NdefX.NF} {fd fd0 : FuncData} {ps0 : List Str} {k : Nat} {sp : Sp} {E : XK} {body rest : List Stmt} {D : Ends} {σ : St} {H : Hp} {p0 p1 apos cpos spos : Pos} {e : Expr} {es : List Expr} {x dx : Addr} {fs : List (Str × V)} {pl : Sem Bool}
    (T : Sup X.prog X.K X.mg C f cc cda g m F fd) (henv : X.env = NdefX.envF F f X.env.locals) (hN : X.N[0]? = some ("self" : Str)) (hs : σ[0]? = some (some (.ref x))) (hx : H x = some (.ins C dx fs))
    (Fo : FnOk X.prog X.w X.K X.mg X.base CX k g fd0 ps0 sp) (hr : Room k X.A) (hb : Binds X.K fd0 ps0 []) (hpx : Passes CX X E)
    (q : ∀ b, H b = none → wpA X (e :: es) σ (upd H b (.met g x)) fun vs H2 => H2 b = some (.met g x) ∧ sp (.ref x :: vs) H2 (fun _ H3 => wpSsA X body rest D σ H3) E)
    (hm : (m == ("__class__" : Str)) = false := by decide)
    (hsw : swapsWith (.Call (.Attribute (.Call (.Name "super" p0) [] [] p1) m apos) (e :: es) [] cpos) none spos.line X.env = pure false := by rfl) (hint : interactive X.env = false := by rfl)
    (he : starEach (e :: es) X.env = (false, eval e X.env) :: starEach es X.env := by rfl) (hpl : (backTo cpos (starEach (e :: es) X.env)).any (·.1) = false := by rfl)
    (hev : eval (.Call (.Attribute (.Call (.Name "super" p0) [] [] p1) m apos) (e :: es) [] cpos) X.env = (do
      let ov ← attributeBase (.Call (.Name "super" p0) [] [] p1) m X.env (eval (.Call (.Name "super" p0) [] [] p1) X.env)
      standAt apos.atName
      let (f, first) ← holding [ov] (getMethod ov m pl)
      callWith cpos f first (backTo cpos (starEach (e :: es) X.env)) []) := by rfl) :
    wpSsA X body (.Expr (.Call (.Attribute (.Call (.Name "super" p0) [] [] p1) m apos) (e :: es) [] cpos) spos :: rest) D σ H := by
  intro pins s I
  refine ks_wpAt_execs_cons (ks_wpAt_Expr_any (ks_wpAt_MethodCall (pl := pl) ?_ hev) hint hsw)
  obtain ⟨oc, od, dV, kV, doc, pm, ct, an, osl, efd, hf⟩ := T.ex
  obtain ⟨cl, cld, csl, hcell⟩ := T.cell
  obtain ⟨ccl, cdd, vs, ccs, file, tf, hcode, hvs, hfile⟩ := T.code
  obtain ⟨cdD, hD⟩ := T.cls
  have KX := I.kIn
  obtain ⟨ar, har, harg⟩ : ∃ ar, (F.params.posonlyargs ++ F.params.args).head? = some ar ∧ ar.arg = ("self" : Str) := by
    have hp := T.hp
    cases z : (F.params.posonlyargs ++ F.params.args).head? with
    | none => rw [z] at hp; cases hp
    | some ar => rw [z] at hp; exact ⟨ar, rfl, Option.some.inj hp⟩
  obtain ⟨oD, hD1, hD2⟩ : ∃ oD, s.heap.get? C = some oD ∧ oD.data = .cls cdD := by
    unfold PySem.W.clsIn at hD
    split at hD
    · rename_i c d cd' sl ho
      cases hD
      exact ⟨_, KX _ _ ho, rfl⟩
    · cases hD
  have hks' : X.env.kindOf "super" = some .globalImplicit := by rw [henv]; exact T.hks
  have hkc' : X.env.kindOf "__class__" = some .free := by rw [henv]; exact T.hkc
  have hka' : X.env.kindOf "self" = some .local := by rw [henv]; exact T.hka
  have hcells : X.env.cells.lookup ("__class__" : Str) = some cc := by
    rw [henv]
    show F.cl.lookup ("__class__" : Str) = some cc
    rw [T.hcl]
    rfl
  refine ks_wpAt_super_base (f := f) (cc := cda) (fd := fd) (ar := ar) (file := file) (tf := tf) hks' hkc' hm (by rw [henv]) (KX _ _ hf) rfl (by rw [efd]; exact har) (by rw [henv]; exact congrArg Value.ref T.hc) (KX _ _ hcode) rfl hvs hfile T.htop ?_

  obtain ⟨mb, hb1, hb2⟩ := I.mod.blt
  refine PySem.W.ks_loadName_global I.ok.kind hks' (Calls.loadGlobal_builtin (by rw [I.ok.glob]; exact I.mod.glob.keeps I.bk) T.mgs (by rw [I.ok.blt]; exact hb1.keeps I.bk) ((hb2 "super" (by decide)).trans (show bootBuiltins "super" = some (.type "super") by decide +kernel)) ⟨rfl, ?_⟩)
  refine wpAny_loadName_free I.ok.kind hkc' hcells ⟨_, KX _ _ hcell, rfl⟩ ?_
  obtain ⟨ml, hns, hl⟩ := I.loc
  obtain ⟨u, ru, lk⟩ := hl 0 "self" (.ref x) hN hs (.inl hka')
  cases ru
  rcases lk with ⟨_, hml⟩ | ⟨hk, _⟩
  rotate_left
  · rw [hka'] at hk
    rcases hk with hk | hk <;> cases hk
  rw [harg]
  refine wpAny_loadName_local I.ok.kind hka' hns hml ?_
  obtain ⟨hh, g0, d0, t0, os0⟩ := s
  refine ks_wpAny_isType_cls hD1 hD2 ⟨rfl, ?_⟩
  obtain ⟨mA, O, _⟩ := ins_get I.hok hx
  obtain ⟨odx, J, _⟩ := O.look
  refine ks_wpAny_call_super hD1 hD2 J.at_ J.cls (fun c e => ?_) (PySem.W.looks_mroIn KX T.sub) (fun h' e1 k1 => ?_)
  · have no := J.no
    unfold PySem.W.notCls at no
    rw [e] at no
    exact Bool.noConfusion no
  have I1 : Inv X pins σ H ⟨h', g0, d0, t0, os0⟩ := I.kept (t' := t0) k1
  have KX1 := I1.kIn
  obtain ⟨of, hof, hofc⟩ : ∃ of, h'.get? g = some of ∧ of.cls = .type "function" := by
    have ht' : (X.K.lookup g).map (·.cls) = some (.type "function") := T.ht
    cases z : X.K.lookup g with
    | none => rw [z] at ht'; cases ht'
    | some of => rw [z] at ht'; exact ⟨of, KX1 _ _ z, Option.some.inj ht'⟩
  have hms := T.hm
  unfold PySem.W.ks_superIn at hms
  rw [hD] at hms
  refine ks_wpAny_getMethod_super e1 (PySem.W.looks_opaque KX1 T.ho) (l₀ := cdD.mro) ?_ rfl KX1 hms hof hofc (PySem.W.ks_ne KX J hD) hm ?_
  · exact fun A Q E s k q => wpAny_bind ((PySem.W.looks_clsIn KX1 hD) A _ E s k (wpAny_pure q))
  have hbn : H h'.objs.size = none := I1.hok.fresh (Nat.le_refl _)
  have I2 : Inv X pins σ (upd H h'.objs.size (.met g x)) ⟨h'.push { cls := .type "method", data := .fields #[.ref g, .ref x] }, g0, d0, t0 + 1, os0⟩ :=
    I1.laid (t' := t0 + 1) (a := h'.objs.size) (o := .met g x) (fun b u z => Heap.get?_push_of_some _ z) (Nat.le_refl _) (Heap.get?_push_at rfl rfl)
  refine callwith_met (a := x) (by simpa using hpl) T.fg (FK.evalArgs_any hpl (thn (q h'.objs.size hbn cpos pins _ I2) fun us s3 ⟨vs3, H3, I3, r3, hq3, q3⟩ => ⟨met_P I3 hq3, ?_⟩))
  have r4 : Vals (V.ref x :: vs3) (Value.ref x :: us) := .cons rfl r3
  have hl4 : (Value.ref x :: us).length = ps0.length := by rw [← r4.length]; exact Fo.len _ _ _ _ q3
  refine wpAny_call (call_met I3 hq3 (codeAny_mono (Fo.run X.A X.stack s3 H3 ⟨Value.ref x :: us, []⟩ (Value.ref x :: us) (V.ref x :: vs3) _ E hr I3.env0 ?_ r4 q3) fun r s' hq => ?_))
  · have := hb s3 (Value.ref x :: us) I3.kIn (by simpa using hl4)
    simpa using this
  · cases r with
    | error e => exact hpx pins σ H3 s3 e s' I3 hq
    | ok fl =>
      cases fl with
      | ret u =>
        obtain ⟨v, H5, I5, _, q5⟩ := I3.after hq
        exact q5 pins s' I5
      | next => exact False.elim hq
      | brk => exact False.elim hq
      | cont => exact False.elim hq

abbrev ExDA (X : Cx) (body sts : List Stmt) (env : CEnv) (P : Post) : Prop := ∀ B Hf H σ, Stt X.K B Hf H σ env → ∀ E : Ends, Fit X.K B Hf E P → wpSsA X body sts E σ H
section
variable {X : Cx} {env : CEnv} {st : Stmt} {body rest sts : List Stmt} {P : Post} {es : List Expr} {e : Expr} {ds : List D}
theorem exa_of (h : ExD X sts env P) : ExDA X body sts env P := fun B Hf H σ s E f => wpSsA.of (h B Hf H σ s E f)
theorem exa_cons (h : ExS X st env { P with nx := fun env' => ExDA X body rest env' P }) : ExDA X body (st :: rest) env P := fun B Hf H σ s E f =>
  wpSsA.cons (h B Hf H σ s { E with nx := wpSsA X body rest E } ⟨fun env' Hf' H' σ' h' q s' => h' B Hf' H' σ' s' E (f.later q), f.rt, f.bk, f.ct⟩)
/-- an own instance after a call that wrote its fields -/
theorem Stt.written {K : PySem.W.Frag} {B : Hp × Hp} {Hf H Hf' H' : Hp} {σ : St} {i : Nat} {p C dx' : Addr} {gs gs' : List (Str × D)} {fs' : List (Str × V)} (st : Stt K B Hf H σ env) (h : env[i]? = some (.ins p C gs)) (g : Grow Hf (minusP H p) Hf' H') (hf : Hf' p = none) (hp : H' p = some (.ins C dx' fs')) (r : FReps K Hf' fs' gs') : Stt K B Hf' H' σ (env.set i (.ins p C gs')) := by
  obtain ⟨dx, vs, hs, h0, hf0, hp0, _⟩ := st.ins h
  have hi : i < env.length := (List.getElem?_eq_some_iff.mp h).1
  have ai : addrAt env σ i = some p := by unfold addrAt; rw [h, hs]
  have keep : ∀ a o, a ≠ p → H a = some o → H' a = some o := fun a o ha e => g.h a o (by unfold minusP; rw [if_neg ha]; exact e)
  have newn : ∀ a, a ≠ p → Hf a = none → H a ≠ none → Hf' a = none := fun a ha h1 h2 => g.n a h1 (by unfold minusP; rw [if_neg ha]; exact h2)
  refine ⟨⟨st.g.f.trans g.f, fun a o e => keep a o (ne_of_none e h0) (st.g.h a o e), g.s, fun a h1 h2 => ?_⟩, by simp [st.len], fun j c e => ?_, fun a b q hab ha hb => ?_⟩
  · have ha : a ≠ p := fun z => h2 (by rw [z]; exact h0)
    refine newn a ha (st.g.n a h1 h2) fun z => ?_
    cases e : B.2 a with
    | none => exact h2 e
    | some o => rw [st.g.h a o e] at z; cases z
  · rw [get_set] at e
    by_cases hj : i = j
    · subst hj
      rw [if_pos rfl, if_pos hi] at e
      cases e
      exact ⟨dx', fs', by rw [hs]; rfl, h0, hf, hp, r⟩
    · rw [if_neg hj] at e
      have q := st.cell j c e
      cases c with
      | junk => exact True.intro
      | frz d =>
        obtain ⟨v, e2, r2⟩ := q
        exact ⟨v, e2, r2.mono g.f⟩
      | own ds' =>
        obtain ⟨p2, xs2, e2, q0, q1, q2, q3⟩ := q
        have aj : addrAt env σ j = some p2 := by unfold addrAt; rw [e, slot_of e2]
        have ne : p2 ≠ p := fun z => st.sep i j p hj ai (by rw [aj, z])
        exact ⟨p2, xs2, e2, q0, newn p2 ne q1 (by rw [q2]; simp), keep p2 _ ne q2, q3.mono g.f⟩
      | ins p2 C2 fs =>
        obtain ⟨dx2, vs2, e2, q0, q1, q2, q3⟩ := q
        have aj : addrAt env σ j = some p2 := by unfold addrAt; rw [e, slot_of e2]
        have ne : p2 ≠ p := fun z => st.sep i j p hj ai (by rw [aj, z])
        exact ⟨dx2, vs2, e2, q0, newn p2 ne q1 (by rw [q2]; simp), keep p2 _ ne q2, q3.mono g.f⟩
  · have same : ∀ j, addrAt (env.set i (.ins p C gs')) σ j = addrAt env σ j := fun j => by
      by_cases hj : i = j
      · subst hj
        rw [ai]
        unfold addrAt
        rw [get_set, if_pos rfl, if_pos hi, hs]
      · exact addr_env_ne hj
    rw [same] at ha hb
    exact st.sep a b q hab ha hb
/-- super().__init__(e, ..) -/
theorem exa_super {CX : CXT} {C f cc cda g p : Addr} {m : Str} {F : NdefX.NF} {fd fd0 : FuncData} {ps0 : List Str} {k : Nat} {R : List D → List (Str × D) → List (Str × D) → Prop} {E0' : XK} {p0 p1 apos cpos spos : Pos} {gs gs' : List (Str × D)} {pl : Sem Bool}
    (T : Sup X.prog X.K X.mg C f cc cda g m F fd) (henv : X.env = NdefX.envF F f X.env.locals) (hN : X.N[0]? = some ("self" : Str)) (h0 : env[0]? = some (.ins p C gs))
    (Fo : FnOk X.prog X.w X.K X.mg X.base CX k g fd0 ps0 (spI X.K C R)) (hr : Room k X.A) (hb : Binds X.K fd0 ps0 []) (hpx : Passes CX X E0')
    (ha : EvA X (e :: es) env ds) (hR : R ds gs gs') (k2 : ExDA X body rest (env.set 0 (.ins p C gs')) P)
    (hm : (m == ("__class__" : Str)) = false := by decide)
    (hsw : swapsWith (.Call (.Attribute (.Call (.Name "super" p0) [] [] p1) m apos) (e :: es) [] cpos) none spos.line X.env = pure false := by rfl) (hint : interactive X.env = false := by rfl)
    (he : starEach (e :: es) X.env = (false, eval e X.env) :: starEach es X.env := by rfl) (hpl : (backTo cpos (starEach (e :: es) X.env)).any (·.1) = false := by rfl)
    (hev : eval (.Call (.Attribute (.Call (.Name "super" p0) [] [] p1) m apos) (e :: es) [] cpos) X.env = (do
      let ov ← attributeBase (.Call (.Name "super" p0) [] [] p1) m X.env (eval (.Call (.Name "super" p0) [] [] p1) X.env)
      standAt apos.atName
      let (f, first) ← holding [ov] (getMethod ov m pl)
      callWith cpos f first (backTo cpos (starEach (e :: es) X.env)) []) := by rfl) :
    ExDA X body (.Expr (.Call (.Attribute (.Call (.Name "super" p0) [] [] p1) m apos) (e :: es) [] cpos) spos :: rest) env P := fun B Hf H σ st E ft => by
  obtain ⟨dx, vs, hs, h00, hf0, hp0, rf⟩ := st.ins h0
  refine wpSsA.super (E := E0') (pl := pl) T henv hN hs hp0 Fo hr hb hpx (fun b hbn => ?_) hm hsw hint he hpl hev
  have g0 : Grow Hf H Hf (upd H b (.met g p)) := Grow.heap st.s (same_upd hbn)
  refine ha B Hf _ σ (st.grow g0) _ fun us Hf1 H1 g1 r1 => ?_
  have st1 := (st.grow g0).grow g1
  obtain ⟨dx1, vs1, hs1, h01, hf1, hp1, rf1⟩ := st1.ins h0
  have e1 := g1.h _ _ (upd_same (H := H) (a := b))
  refine ⟨e1, p, us, ds, Hf1, dx1, vs1, gs, gs', rfl, st1.s, hf1, hp1, rf1, r1, hR, fun dx' fs' Hf' H' gg hn hp' rf' => ?_⟩
  exact k2 B Hf' H' σ (st1.written h0 gg hn hp' rf') E (ft.later (g1.f.trans gg.f))
end
section
variable {P : Program} {w : World} {K : PySem.W.Frag} {mg : Str → Option Value} {base : Heap}
theorem startF_eq {N : List Str} {vs : List V} (h : vs.length < N.length) : NdefX.startF N vs [none] = L2.start N vs := by
  unfold NdefX.startF L2.start
  congr 1
  obtain ⟨n, hn⟩ : ∃ n, N.length - vs.length = n + 1 := ⟨N.length - vs.length - 1, by omega⟩
  rw [hn, List.replicate_succ]
  show [none] ++ List.replicate (n + 1 - [none].length) none = _
  rfl
theorem stt_init {N : List Str} {Hf H : Hp} {p C dx : Addr} {us : List V} {ds : List D} {fs : List (Str × V)} {gs : List (Str × D)} (sm : Same Hf H) (hfp : Hf p = none) (hp : H p = some (.ins C dx fs)) (rf : FReps K Hf fs gs) (r : Reps K Hf us ds) :
    Stt K (Hf, minusP H p) Hf H (L2.start N (.ref p :: us)) (.ins p C gs :: (ds.map Cell.frz ++ List.replicate (N.length - (ds.length + 1)) Cell.junk)) := by
  have sM : Same (minusP H p) H := fun a o e => by
    unfold minusP at e
    split at e
    · cases e
    · exact e
  have pM : minusP H p p = none := by unfold minusP; rw [if_pos rfl]
  have key : ∀ (i : Nat) (c : Cell), (ds.map Cell.frz ++ List.replicate (N.length - (ds.length + 1)) Cell.junk)[i]? = some c → c = .junk ∨ ∃ d, c = .frz d := fun i c h => by
    rcases get_start h with ⟨x, _, rfl⟩ | ⟨_, rfl⟩
    · exact .inr ⟨x, rfl⟩
    · exact .inl rfl
  refine ⟨⟨Same.refl _, sM, sm, fun a h _ => h⟩, ?_, fun i c h => ?_, fun i j a hij h1 h2 => ?_⟩
  · unfold L2.start
    simp [r.len]
  · cases i with
    | zero =>
      cases h
      exact ⟨dx, fs, rfl, pM, hfp, hp, rf⟩
    | succ i =>
      rcases get_start (show (ds.map Cell.frz ++ List.replicate (N.length - (ds.length + 1)) Cell.junk)[i]? = some c from h) with ⟨x, hx, rfl⟩ | ⟨_, rfl⟩
      · obtain ⟨v, hv, rv⟩ := r.get hx
        refine ⟨v, ?_, rv⟩
        unfold L2.start
        have hi := (List.getElem?_eq_some_iff.mp hv).1
        rw [List.map_cons, List.cons_append, List.getElem?_cons_succ, List.getElem?_append_left (by simpa using hi), List.getElem?_map, hv]
        rfl
      · exact True.intro
  · have z : ∀ n, addrAt (.ins p C gs :: (ds.map Cell.frz ++ List.replicate (N.length - (ds.length + 1)) Cell.junk)) (L2.start N (.ref p :: us)) (n + 1) = none := fun n => addr_none fun c hc => key n c hc
    cases i with
    | zero =>
      cases j with
      | zero => exact hij rfl
      | succ j => rw [z j] at h2; cases h2
    | succ i => rw [z i] at h1; cases h1
/-- an __init__ that names super() -/
theorem fnIS {C f cc cda g : Addr} {m : Str} {F : NdefX.NF} {fd : FuncData} {N ps : List Str} {k : Nat} (T : Sup P K mg C f cc cda g m F fd) (S : NdefX.NScope N ps [("__class__" : Str)] F.scope) (R : List D → List (Str × D) → List (Str × D) → Prop) (hl : ∀ ds gs gs', R ds gs gs' → ds.length + 1 = ps.length)
    (hb : ∀ (A : Around) (outer : List Env) (s : Shared) (H : Hp) (E : XK) (p : Addr) (ds : List D) (gs gs' : List (Str × D)), Room k (A.deeper (NdefX.envF F f s.heap.objs.size)) → R ds gs gs' →
      ExDA (NdefX.ncx CX0 P w K mg base N F f A outer s H E) F.body F.body (.ins p C gs :: (ds.map Cell.frz ++ List.replicate (N.length - (ds.length + 1)) Cell.junk)) { nx := fun env' => env'[0]? = some (.ins p C gs'), rt := fun _ => False }) :
    FnOk P w K mg base CX0 (k + 1) f fd ps (spI K C R) := by
  obtain ⟨oc, od, dV, kV, doc, pm, ct, an, osl, efd, lk⟩ := T.ex
  have len : ∀ vs H Q E, spI K C R vs H Q E → vs.length = ps.length := fun vs H Q E h => by
    obtain ⟨p, us, ds, Hf, dx, fs, gs, gs', rfl, _, _, _, _, r, hR, _⟩ := h
    rw [List.length_cons, r.len]
    exact hl ds gs gs' hR
  refine ⟨len, fun A outer s H args us vs Q E hr e0 hbi r hsp => ?_⟩
  have hlen := len _ _ _ _ hsp
  have KX : K.In s.heap := e0.mod.kin.keeps fun b o e => (e0.bs b o e).1
  have lim : s.heap.NoLimit := e0.mod.nolimit.keeps fun b o e => (e0.bs b o e).1
  have hcd : PySem.W.codeIn K (.ref cda) F.qual = true := T.hcd
  subst efd
  refine codeAny_call_function hr.depth (KX _ _ lk) rfl S.co S.gen rfl (PySem.W.codeRec_of KX hcd) (hbi _ _ _ _ ?_)
  refine wpAny_newFunctionEnv S.nocell (fun ⟨n, _⟩ hy => S.par n (List.of_mem_zip hy).1) (fun h₁ hns hsb => ⟨lim.fresh _ hsb, ?_⟩) S.kind
  have eenv : newEnv F.scope s.heap.objs.size mainGlobals [(("__class__" : Str), cc)] (F.qual ++ ".<locals>.") (some f) (.ref cda) none builtinsNs = NdefX.envF F f s.heap.objs.size := by
    show _ = PySem.W.envX F.qual F.scope s.heap.objs.size f (.ref F.c) F.cl
    rw [T.hcl, T.hc]
    rfl
  show codeAny _ _ (.func F.body (newEnv F.scope s.heap.objs.size mainGlobals [(("__class__" : Str), cc)] (F.qual ++ ".<locals>.") (some f) (.ref cda) none builtinsNs)) _ _
  rw [eenv]
  refine ks_codeAny_funcAt ?_
  have kp : ∀ b o, s.heap.get? b = some o → h₁.get? b = some o := fun b o e => hsb.extBut b o (Nat.ne_of_lt (Heap.lt_size e)) (Heap.get?_push_of_some _ e)
  obtain ⟨cl, cld, csl, hcell⟩ := T.cell
  have Cs : NdefX.CellsAt F.cl [("__class__" : Str)] [none] s.heap H := by
    have look : ∀ y c, F.cl.lookup y = some c → y = ("__class__" : Str) ∧ c = cc := fun y c e => by
      rw [T.hcl] at e
      simp only [List.lookup] at e
      split at e
      · rename_i hy
        exact ⟨by simpa using hy, (Option.some.inj e).symm⟩
      · cases e
    refine ⟨rfl, fun y c e => ?_, fun x y c e1 e2 => by rw [(look x c e1).1, (look y c e2).1], fun i y e => ?_⟩
    · rw [(look y c e).2]
      exact ⟨(e0.bs _ _ (e0.mod.kin _ _ hcell)).2, _, ⟨_, KX _ _ hcell, rfl⟩⟩
    · cases i with
      | zero =>
        cases e
        exact ⟨cc, by rw [T.hcl]; rfl, fun v z => by cases z⟩
      | succ i => cases e
  have hpl : vs.length < N.length := by
    have q := congrArg List.length S.pre
    rw [List.length_take, List.length_append] at q
    simp only [List.length_cons, List.length_nil] at q
    omega
  have I := NdefX.inv_startN (CX := CX0) (N := N) (f := f) (E := E) (tk := s.toks + (ps.zip us).length) S hr.hd e0 hlen r Cs hns kp
  rw [startF_eq hpl] at I
  obtain ⟨p, us', ds, Hf, dx, fs, gs, gs', rfl, sm, hfp, hp, rf, rr, hR, q⟩ := hsp
  have z := hb A outer s H E p ds gs gs' (hr.deeper _) hR (Hf, minusP H p) Hf H _ (stt_init (N := N) sm hfp hp rf rr) { nx := fun _ H' => Q .non H', rt := Q } ⟨fun env' Hf' H' σ' e _ st' => by
      obtain ⟨dx', vs', _, _, f', h', r'⟩ := st'.ins e
      exact q dx' vs' Hf' H' st'.g f' h' r', fun _ _ _ _ z => z.elim, fun _ _ _ _ z => z.elim, fun _ _ _ _ z => z.elim⟩
  refine ks_wpAt_mono (z [] _ I) (fun fl s' hs => ?_) fun e s' hs => hs
  have fin : ∀ {σ' : L2.St} {H' : Hp} {v : V} {u : Value}, Inv (NdefX.ncx CX0 P w K mg base N F f A outer s H E) [] σ' H' s' → L2.RelV v u → Q v H' → CE outer P w H s Q u s' :=
    fun {σ' H' v u} J rv q => ⟨v, H', J.os, J.bare, J.base, J.hok, rv, q⟩
  cases fl with
  | ret u =>
    obtain ⟨v, σ', H', J, rv, q⟩ := hs
    exact fin J rv q
  | next =>
    obtain ⟨σ', H', J, q⟩ := hs
    exact fin (v := V.non) (u := Value.none) J rfl q
  | brk =>
    obtain ⟨_, _, _, q⟩ := hs
    exact False.elim q
  | cont =>
    obtain ⟨_, _, _, q⟩ := hs
    exact False.elim q
end
end Dt
set_option maxHeartbeats 2000000
/-! chains of comparisons, promises with an answer of the callee's choice, calls by bundles, try -/
namespace Dt
open PySem PySem.Spec PyProof.Rows L2
section
variable {X : Cx} {a b c e : Expr} {es : List Expr} {env : CEnv} {pos p : Pos} {d x y z : D} {ds : List D} {i j k : Int} {P : Post}
/-- a < b <= c and its like, of ints -/
theorem run_chain {o1 o2 : Int → Int → Bool} (ha : EvD X a env (.int i)) (hb : EvD X b env (.int j)) (hc : EvD X c env (.int k)) : ∀ B Hf H σ, Stt X.K B Hf H σ env → ∀ Q : VK, (∀ v Hf' H', Grow Hf H Hf' H' → Rep X.K Hf' v (.bl (o1 i j && o2 j k)) → Q v H') →
    tChain (rI0 fun i j => .bl (o1 i j)) (rI0 fun i j => .bl (o2 i j)) (wpE X a) (wpE X b) (wpE X c) σ H Q := fun B Hf H σ st Q q => by
  refine ha B Hf H σ st _ fun v1 Hf1 H1 g1 r1 => hb B Hf1 H1 σ (st.grow g1) _ fun v2 Hf2 H2 g2 r2 => ?_
  refine ⟨i, j, r1.inv_int, r2.inv_int, o1 i j, rfl, ?_⟩
  cases h : o1 i j with
  | false =>
    rw [h] at q
    exact q _ Hf2 H2 (g1.trans g2) (.bl _)
  | true =>
    rw [h] at q
    show wpE X c σ H2 _
    exact hc B Hf2 H2 σ ((st.grow g1).grow g2) _ fun v3 Hf3 H3 g3 r3 => ⟨j, k, r2.inv_int, r3.inv_int, q _ Hf3 H3 ((g1.trans g2).trans g3) (.bl _)⟩
theorem evt_lt_le (ha : EvD X a env (.int i)) (hb : EvD X b env (.int j)) (hc : EvD X c env (.int k)) (hm : lastMarks [.Lt, .LtE] [b, c] = false := by with_unfolding_all rfl) : EvT X (.Compare a [.Lt, .LtE] [b, c] pos) env (decide (i < j) && decide (j ≤ k)) := fun B Hf H σ st Q q =>
  wpT.of (pt_chain op_lt op_le pe_wp pe_wp pe_wp hm) (run_chain (o1 := fun i j => decide (i < j)) (o2 := fun i j => decide (i ≤ j)) ha hb hc B Hf H σ st _ fun v Hf' H' g r => ⟨_, r.inv_bl, q Hf' H' g⟩)
theorem evt_le_le (ha : EvD X a env (.int i)) (hb : EvD X b env (.int j)) (hc : EvD X c env (.int k)) (hm : lastMarks [.LtE, .LtE] [b, c] = false := by with_unfolding_all rfl) : EvT X (.Compare a [.LtE, .LtE] [b, c] pos) env (decide (i ≤ j) && decide (j ≤ k)) := fun B Hf H σ st Q q =>
  wpT.of (pt_chain op_le op_le pe_wp pe_wp pe_wp hm) (run_chain (o1 := fun i j => decide (i ≤ j)) (o2 := fun i j => decide (i ≤ j)) ha hb hc B Hf H σ st _ fun v Hf' H' g r => ⟨_, r.inv_bl, q Hf' H' g⟩)
theorem evd_lt_le (ha : EvD X a env (.int i)) (hb : EvD X b env (.int j)) (hc : EvD X c env (.int k)) (hm : lastMarks [.Lt, .LtE] [b, c] = false := by with_unfolding_all rfl) : EvD X (.Compare a [.Lt, .LtE] [b, c] pos) env (.bl (decide (i < j) && decide (j ≤ k))) := fun B Hf H σ st Q q =>
  wpE.of (pe_chain op_lt op_le pe_wp pe_wp pe_wp hm) (run_chain (o1 := fun i j => decide (i < j)) (o2 := fun i j => decide (i ≤ j)) ha hb hc B Hf H σ st Q q)
theorem evd_le_le (ha : EvD X a env (.int i)) (hb : EvD X b env (.int j)) (hc : EvD X c env (.int k)) (hm : lastMarks [.LtE, .LtE] [b, c] = false := by with_unfolding_all rfl) : EvD X (.Compare a [.LtE, .LtE] [b, c] pos) env (.bl (decide (i ≤ j) && decide (j ≤ k))) := fun B Hf H σ st Q q =>
  wpE.of (pe_chain op_le op_le pe_wp pe_wp pe_wp hm) (run_chain (o1 := fun i j => decide (i ≤ j)) (o2 := fun i j => decide (i ≤ j)) ha hb hc B Hf H σ st Q q)
/-- a try whose body raises nothing -/
theorem exs_try0 {body : List Stmt} {h₀ : ExceptHandler} {hs : List ExceptHandler} (h : ExD X.nox body env P) : ExS X (.Try body (h₀ :: hs) [] [] pos) env P := fun B Hf H σ s E f =>
  wpS.of (ps_try_thru0 pss_wp) (h B Hf H σ s E f)

/-! ### promises whose answer the callee chooses -/
def spE (K : PySem.W.Frag) (Pre : List D → Prop) (Po : List D → D → Prop) : Sp := fun vs H Q _ => ∃ ds Hf, Same Hf H ∧ Reps K Hf vs ds ∧ Pre ds ∧ ∀ d v Hf' H', Po ds d → Grow Hf H Hf' H' → Rep K Hf' v d → Q v H'
abbrev isE (K : PySem.W.Frag) (R : D → Prop) : RV := fun Hf _ v => ∃ d, R d ∧ Rep K Hf v d
/-- name = e, e's data is one of which R tells -/
theorem exs_setE {R : D → Prop} (i : Nat) {x : Str} (hN : X.N.Nodup) (hi : X.N[i]? = some x) (hx : Loc X.env.scope x) (he : EvX X e env (isE X.K R)) (k : ∀ d, R d → P.nx (env.set i (.frz d))) (hs : swapsWith e (some (.Name x pos')) pos.line X.env = pure false := by rfl) (hf : X.fn x = true ∨ X.env.scope.names.lookup x = some .local := by first | exact .inl rfl | exact .inr rfl | assumption) :
    ExS X (.Assign [.Name x pos'] e pos) env P := fun B Hf H σ s E f =>
  wpS.of (ps_set (i := i) hN hi hx pe_wp hs hf) (he B Hf H σ s _ fun v Hf1 H1 g1 ⟨d, hd, r1⟩ => f.nx _ Hf1 H1 _ (k d hd) g1.f ((s.grow g1).set r1))
section
variable {R : List D → D → Prop} {Pre : List D → Prop} {Po : List D → D → Prop} {n m : Nat} {f : Str} {C : Addr} {gs : List (Str × D)} {RI : List D → List (Str × D) → List (Str × D) → Prop} {apos : Pos} {o : Expr}
theorem evd_c (c : C8.Cal X.prog X.w X.K X.mg X.base n f (spD X.K R) []) (hr : Room m X.A) (hk : n ≤ m) (hg : Gl X f) (ha : EvA X (e :: es) env ds) (h : R ds d)
    (hdb : (f == ("__debug__" : Str)) = false := by decide) (he : starEach (e :: es) X.env = (false, eval e X.env) :: starEach es X.env := by rfl) (hpl : (backTo pos (starEach es X.env)).any (·.1) = false := by rfl) : EvD X (.Call (.Name f p) (e :: es) [] pos) env d := fun B Hf H σ st Q q =>
  wpE.of (C8.pe_c c hr hk hg pa_wp hdb he hpl) (ha B Hf H σ st _ fun vs Hf1 H1 g1 r1 => by
    rw [List.append_nil]
    exact ⟨ds, d, Hf1, g1.s, r1, h, fun v Hf2 H2 g2 r2 => q v Hf2 H2 (g1.trans g2) r2⟩)
theorem evx_cE (c : C8.Cal X.prog X.w X.K X.mg X.base n f (spE X.K Pre Po) []) (hr : Room m X.A) (hk : n ≤ m) (hg : Gl X f) (ha : EvA X (e :: es) env ds) (h : Pre ds)
    (hdb : (f == ("__debug__" : Str)) = false := by decide) (he : starEach (e :: es) X.env = (false, eval e X.env) :: starEach es X.env := by rfl) (hpl : (backTo pos (starEach es X.env)).any (·.1) = false := by rfl) : EvX X (.Call (.Name f p) (e :: es) [] pos) env (isE X.K (Po ds)) := fun B Hf H σ st Q q =>
  wpE.of (C8.pe_c c hr hk hg pa_wp hdb he hpl) (ha B Hf H σ st _ fun vs Hf1 H1 g1 r1 => by
    rw [List.append_nil]
    exact ⟨ds, Hf1, g1.s, r1, h, fun d v Hf2 H2 hP g2 r2 => q v Hf2 H2 (g1.trans g2) ⟨d, hP, r2⟩⟩)
theorem evd_mk (c : C8.Mak X.prog X.w X.K X.mg X.base n f C (spI X.K C RI) []) (hr : Room m X.A) (hk : n + 1 ≤ m) (hg : Gl X f) (ha : EvA X (e :: es) env ds) (h : RI ds [] gs)
    (hdb : (f == ("__debug__" : Str)) = false := by decide) (he : starEach (e :: es) X.env = (false, eval e X.env) :: starEach es X.env := by rfl) (hpl : (backTo pos (starEach es X.env)).any (·.1) = false := by rfl) : EvD X (.Call (.Name f p) (e :: es) [] pos) env (.obj C gs) := by
  obtain ⟨g, fd, ps, dsv, M, F, hm, b, dv⟩ := c.ex
  cases dv
  exact evd_make M F (hr.mono hk) hg hm b pass0 ha h hdb he hpl
theorem evd_mt {mn : Str} {pl : Sem Bool} (c : C8.Met X.prog X.w X.K X.mg X.base n C mn (spD X.K R) []) (hr : Room m X.A) (hk : n ≤ m) (ho : EvD X o env (.obj C gs)) (hl : gs.lookup mn = none) (ha : EvA X (e :: es) env ds) (h : R (.obj C gs :: ds) d)
    (hst : starEach (e :: es) X.env = (false, eval e X.env) :: starEach es X.env := by rfl) (hpl : (backTo pos (starEach es X.env)).any (·.1) = false := by rfl)
    (ht : eval (.Call (.Attribute o mn apos) (e :: es) [] pos) X.env = (do
      let ov ← eval o X.env
      standAt apos.atName
      let (f, first) ← holding [ov] (getMethod ov mn pl)
      callWith pos f first (backTo pos (starEach (e :: es) X.env)) (backToKw pos (keywordEach [] X.env))) := by rfl) : EvD X (.Call (.Attribute o mn apos) (e :: es) [] pos) env d := by
  obtain ⟨g, fd, ps, dsv, hc, hm, F, b, dv⟩ := c.ex
  cases dv
  exact evd_meth (pl := pl) ho hc hm F (hr.mono hk) b pass0 hl ha h hst hpl ht
theorem evd_mt0 {mn : Str} {pl : Sem Bool} (c : C8.Met X.prog X.w X.K X.mg X.base n C mn (spD X.K R) []) (hr : Room m X.A) (hk : n ≤ m) (ho : EvD X o env (.obj C gs)) (hl : gs.lookup mn = none) (h : R [.obj C gs] d)
    (ht : eval (.Call (.Attribute o mn apos) [] [] pos) X.env = (do
      let ov ← eval o X.env
      standAt apos.atName
      let (f, first) ← holding [ov] (getMethod ov mn pl)
      callWith pos f first (backTo pos (starEach [] X.env)) (backToKw pos (keywordEach [] X.env))) := by rfl) : EvD X (.Call (.Attribute o mn apos) [] [] pos) env d := by
  obtain ⟨g, fd, ps, dsv, hc, hm, F, b, dv⟩ := c.ex
  cases dv
  exact evd_meth0 (pl := pl) ho hc hm F (hr.mono hk) b pass0 hl h ht
end
end
section
variable {P : Program} {w : World} {K : PySem.W.Frag} {mg : Str → Option Value} {base : Heap}
theorem fnE {x qual : Str} {st : Stmt} {f : Addr} {fd : FuncData} {N ps : List Str} {k : Nat} (F : Fun K x qual st f fd) (S : FnScope N ps (defScope st)) (Pre : List D → Prop) (Po : List D → D → Prop) (hl : ∀ ds, Pre ds → ds.length = ps.length)
    (hb : ∀ (cdv : Value) (A : Around) (outer : List Env) (s : Shared) (H : Hp) (E : XK) (ds : List D), Room k (A.deeper (envOfC qual (defScope st) s.heap.objs.size f cdv)) → Pre ds →
      ExD (cxOf CX0 P w K mg base N qual (defScope st) f cdv A outer s H E).nox (defBody st) (envD N ds) { nx := fun _ => Po ds .non, rt := fun d' => Po ds d' }) : FnOk P w K mg base CX0 (k + 1) f fd ps (spE K Pre Po) := by
  refine F.ok S (fun vs H Q E h => ?_) (fun cdv A outer s H vs Q E hr h => ?_)
  · obtain ⟨ds, Hf, _, r, hR, _⟩ := h
    rw [r.len]
    exact hl ds hR
  · obtain ⟨ds, Hf, sm, r, hR, q⟩ := h
    refine ⟨_, pss_wp, ?_⟩
    exact hb cdv A outer s H E ds hr hR (Hf, H) Hf H (L2.start N vs) (stt_start (Grow.refl sm) r) _ ⟨fun env' Hf' H' σ' e _ st' => q .non .non Hf' H' e st'.g .non, fun d' v Hf' H' e g r' => q d' v Hf' H' e g r', fun _ _ _ _ z => z.elim, fun _ _ _ _ z => z.elim⟩
end
end Dt
set_option maxHeartbeats 2000000
namespace Dt
open PySem PySem.Spec PyProof.Rows L2
def top (i : Nat) : Stmt := PySem.Challenge.pw_sheetsofcells_k76_open_stairs_hold_all.main.body.getD i (.Pass ⟨0, 0, 0, 0⟩)
section
variable {X : Cx} {env : CEnv} {pos : Pos} {d : D} {ds : List D}
theorem v (i : Nat) {x : Str} (hN : X.N[i]? = some x := by rfl) (h : env[i]? = some (.frz d) := by rfl) (hv : Vis X.env.scope x := by first | exact Or.inl rfl | exact Or.inr (Or.inl rfl) | exact Or.inr (Or.inr rfl)) (hd : (x == ("__debug__" : Str)) = false := by decide) (hcd : (x == ("__classdict__" : Str)) = false := by decide) : EvD X (.Name x pos) env d := evd_var i h hN hv hd hcd
theorem lv (i : Nat) {x : Str} (hN : X.N[i]? = some x := by rfl) (h : env[i]? = some (.own ds) := by rfl) (hv : Vis X.env.scope x := by first | exact Or.inl rfl | exact Or.inr (Or.inl rfl) | exact Or.inr (Or.inr rfl)) (hd : (x == ("__debug__" : Str)) = false := by decide) (hcd : (x == ("__classdict__" : Str)) = false := by decide) : EvL X (.Name x pos) env ds := evl_var i h hN hv hd hcd
end
section
variable {X : Cx} {env : CEnv} {pos pos' : Pos} {d : D} {ds : List D} {e : Expr} {es : List Expr} {P : Post} {bs : List (Nat × D)}
theorem sv (i : Nat) (hN : X.N.Nodup) (he : EvD X e env d) (k : P.nx (env.set i (.frz d))) {x : Str} (hi : X.N[i]? = some x := by rfl) (hx : Loc X.env.scope x := by first | exact Or.inl rfl | exact Or.inr rfl) (hs : swapsWith e (some (.Name x pos')) pos.line X.env = pure false := by rfl) (hf : X.fn x = true ∨ X.env.scope.names.lookup x = some .local := by first | exact .inl rfl | exact .inr rfl) : ExS X (.Assign [.Name x pos'] e pos) env P := exs_set i hN hi hx he k hs hf
theorem sM (i : Nat) (hN : X.N.Nodup) (he : EvA X es env ds) (k : P.nx (env.set i (.own ds))) (hl : ds.length ≤ 1000 := by decide) {x : Str} (hi : X.N[i]? = some x := by rfl) (hx : Loc X.env.scope x := by first | exact Or.inl rfl | exact Or.inr rfl) (hs : swapsWith (.List es pos'') (some (.Name x pos')) pos.line X.env = pure false := by rfl) (hf : X.fn x = true ∨ X.env.scope.names.lookup x = some .local := by first | exact .inl rfl | exact .inr rfl) : ExS X (.Assign [.Name x pos'] (.List es pos'') pos) env P := exs_setM i hN hi hx he hl k hs hf
theorem tn (i : Nat) (hN : X.N.Nodup) {x : Str} (hi : X.N[i]? = some x := by rfl) (hx : Loc X.env.scope x := by first | exact Or.inl rfl | exact Or.inr rfl) (hf : X.fn x = true ∨ X.env.scope.names.lookup x = some .local := by first | exact .inl rfl | exact .inr rfl) : TgB X (.Name x pos) d [(i, d)] := tgb_name i hN hi hx hf
end
/-- the built-in names that the module leaves alone -/
structure Bt (mg : Str → Option Value) : Prop where
  len : mg "len" = none
  max : mg "max" = none
  min : mg "min" = none
  sum : mg "sum" = none
  abs : mg "abs" = none
  int : mg "int" = none
  range : mg "range" = none
  enumerate : mg "enumerate" = none
  zip : mg "zip" = none
  sorted : mg "sorted" = none
  tuple : mg "tuple" = none
  list : mg "list" = none
  isinstance : mg "isinstance" = none
  str : mg "str" = none
  bool : mg "bool" = none
section
variable {X : Cx} {a c e tg : Expr} {es : List Expr} {env : CEnv} {pos p : Pos} {d x y z : D} {ds : List D} {i j : Int} {f : Str} {n m : Nat}
theorem blen (b : Bt X.mg) (h : EvL X e env ds) (hg : Gl X "len" := by rfl) (he : starEach [e] X.env = (false, eval e X.env) :: starEach [] X.env := by rfl) : EvD X (.Call (.Name "len" p) [e] [] pos) env (.int (ds.length : Nat)) := evd_lenL hg b.len h he
theorem blenU (b : Bt X.mg) (h : EvD X e env (.tup ds)) (hg : Gl X "len" := by rfl) (he : starEach [e] X.env = (false, eval e X.env) :: starEach [] X.env := by rfl) : EvD X (.Call (.Name "len" p) [e] [] pos) env (.int (ds.length : Nat)) := evd_lenU hg b.len h he
theorem blenS {t : Str} (b : Bt X.mg) (h : EvD X e env (.str t)) (hl : t.length ≤ 1000000) (hg : Gl X "len" := by rfl) (he : starEach [e] X.env = (false, eval e X.env) :: starEach [] X.env := by rfl) : EvD X (.Call (.Name "len" p) [e] [] pos) env (.int (t.length : Nat)) := evd_lenS hg b.len h hl he
theorem babs (b : Bt X.mg) (h : EvD X e env (.int i)) (hg : Gl X "abs" := by rfl) (he : starEach [e] X.env = (false, eval e X.env) :: starEach [] X.env := by rfl) : EvD X (.Call (.Name "abs" p) [e] [] pos) env (.int (if i < 0 then -i else i)) := evd_abs hg b.abs h he
theorem bint (b : Bt X.mg) (h : EvD X e env (.int i)) (hg : Gl X "int" := by rfl) (he : starEach [e] X.env = (false, eval e X.env) :: starEach [] X.env := by rfl) : EvD X (.Call (.Name "int" p) [e] [] pos) env (.int i) := evd_toint hg b.int h he
theorem bmax (b : Bt X.mg) (h : EvD X a env (.int i)) (h2 : EvD X c env (.int j)) (hc : X.calm = true := by rfl) (hg : Gl X "max" := by rfl) (he : starEach [a, c] X.env = (false, eval a X.env) :: starEach [c] X.env := by rfl) (he2 : starEach [c] X.env = (false, eval c X.env) :: starEach [] X.env := by rfl) (hpl : (backTo pos (starEach [c] X.env)).any (·.1) = false := by rfl) : EvD X (.Call (.Name "max" p) [a, c] [] pos) env (.int (max i j)) := evd_max2 hc hg b.max h h2 he he2 hpl
theorem bmin (b : Bt X.mg) (h : EvD X a env (.int i)) (h2 : EvD X c env (.int j)) (hc : X.calm = true := by rfl) (hg : Gl X "min" := by rfl) (he : starEach [a, c] X.env = (false, eval a X.env) :: starEach [c] X.env := by rfl) (he2 : starEach [c] X.env = (false, eval c X.env) :: starEach [] X.env := by rfl) (hpl : (backTo pos (starEach [c] X.env)).any (·.1) = false := by rfl) : EvD X (.Call (.Name "min" p) [a, c] [] pos) env (.int (min i j)) := evd_min2 hc hg b.min h h2 he he2 hpl
theorem blist (b : Bt X.mg) (h : EvL X e env ds) (hg : Gl X "list" := by rfl) (he : starEach [e] X.env = (false, eval e X.env) :: starEach [] X.env := by rfl) : EvD X (.Call (.Name "list" p) [e] [] pos) env (.lst ds) := evd_listL hg b.list h he
theorem btuple (b : Bt X.mg) (h : EvL X e env ds) (hg : Gl X "tuple" := by rfl) (he : starEach [e] X.env = (false, eval e X.env) :: starEach [] X.env := by rfl) : EvD X (.Call (.Name "tuple" p) [e] [] pos) env (.tup ds) := evd_tupleL hg b.tuple h he
theorem bsum {ns : List Int} (b : Bt X.mg) (h : EvL X e env (dInts ns)) (hc : X.calm = true := by rfl) (hg : Gl X "sum" := by rfl) (he : starEach [e] X.env = (false, eval e X.env) :: starEach [] X.env := by rfl) : EvD X (.Call (.Name "sum" p) [e] [] pos) env (.int ns.sum) := evd_sumL hc hg b.sum h he
theorem bmaxL {ns : List Int} {m : Int} (b : Bt X.mg) (h : EvL X e env (dInts ns)) (h1 : m ∈ ns) (h2 : ∀ y ∈ ns, y ≤ m) (hc : X.calm = true := by rfl) (hg : Gl X "max" := by rfl) (he : starEach [e] X.env = (false, eval e X.env) :: starEach [] X.env := by rfl) : EvD X (.Call (.Name "max" p) [e] [] pos) env (.int m) := evd_maxL hc hg b.max h h1 h2 he
theorem bminL {ns : List Int} {m : Int} (b : Bt X.mg) (h : EvL X e env (dInts ns)) (h1 : m ∈ ns) (h2 : ∀ y ∈ ns, m ≤ y) (hc : X.calm = true := by rfl) (hg : Gl X "min" := by rfl) (he : starEach [e] X.env = (false, eval e X.env) :: starEach [] X.env := by rfl) : EvD X (.Call (.Name "min" p) [e] [] pos) env (.int m) := evd_minL hc hg b.min h h1 h2 he
theorem brange2 (b : Bt X.mg) (ha : EvD X a env (.int i)) (hb : EvD X c env (.int j)) (hg : Gl X "range" := by rfl) (he : starEach [a, c] X.env = (false, eval a X.env) :: starEach [c] X.env := by rfl) (he2 : starEach [c] X.env = (false, eval c X.env) :: starEach [] X.env := by rfl) (hpl : (backTo pos (starEach [c] X.env)).any (·.1) = false := by rfl) : EvD X (.Call (.Name "range" p) [a, c] [] pos) env (.rng i j) := evd_range2 hg b.range ha hb he he2 hpl
theorem irange (b : Bt X.mg) (he : EvD X e env (.int i)) (h : -(2 ^ 62) ≤ i ∧ i < 2 ^ 62) (hg : Gl X "range" := by rfl) (hs : starEach [e] X.env = [(false, eval e X.env)] := by rfl) : EvI X tg (.Call (.Name "range" p) [e] [] pos) env (dRange 0 i.toNat) := evi_range1 hg b.range he h.1 h.2 hs
theorem irange2 (b : Bt X.mg) (ha : EvD X a env (.int i)) (hb : EvD X c env (.int j)) (h : -(2 ^ 62) ≤ i ∧ i < 2 ^ 62 ∧ -(2 ^ 62) ≤ j ∧ j < 2 ^ 62) (hg : Gl X "range" := by rfl) (hs : starEach [a, c] X.env = [(false, eval a X.env), (false, eval c X.env)] := by rfl) (hs2 : starEach [c] X.env = [(false, eval c X.env)] := by rfl) : EvI X tg (.Call (.Name "range" p) [a, c] [] pos) env (dRange i (j - i).toNat) := evi_range2 hg b.range ha hb h hs hs2
theorem ienum {tpos : Pos} {elts : List Expr} {kk : Nat} (b : Bt X.mg) (he : EvD X e env (.lst ds)) (hg : Gl X "enumerate" := by rfl) (hs : starEach [e] X.env = [(false, eval e X.env)] := by rfl) : EvI X (.Tuple elts kk tpos) (.Call (.Name "enumerate" p) [e] [] pos) env (ds.zipIdx.map fun x => .tup [.int (x.2 : Nat), x.1]) := evi_enum hg b.enumerate he hs
theorem ienumU {tpos : Pos} {elts : List Expr} {kk : Nat} (b : Bt X.mg) (he : EvD X e env (.tup ds)) (hg : Gl X "enumerate" := by rfl) (hs : starEach [e] X.env = [(false, eval e X.env)] := by rfl) : EvI X (.Tuple elts kk tpos) (.Call (.Name "enumerate" p) [e] [] pos) env (ds.zipIdx.map fun x => .tup [.int (x.2 : Nat), x.1]) := evi_enumU hg b.enumerate he hs
theorem EvI.to {es' : List D} (h : EvI X tg e env ds) (k : ds = es') : EvI X tg e env es' := k ▸ h
theorem bk {N ps : List Str} {sc scope : Scope} {own : List (Str × Nat)} (S : FnScope N ps sc) (h : blkC N sc scope own = true) : BlkOk N sc scope own := blkOk_by h
theorem ng (h : EvD X e env (.int i)) : EvD X (.UnaryOp .USub e pos) env (.int (-i)) := fun B Hf H σ st Q q => wpE.of (pe_un un_neg pe_wp) (h B Hf H σ st _ fun v Hf1 H1 g1 r1 => ⟨i, r1.inv_int, q _ Hf1 H1 g1 (.int _)⟩)
theorem ap (i : Nat) {x : Str} {apos cpos npos : Pos} {P : Post} (he : EvD X e env d) (k : P.nx (env.set i (.own (ds ++ [d])))) (hl : ds.length ≤ 1000000) (hN : X.N[i]? = some x := by rfl) (h : env[i]? = some (.own ds) := by rfl) (hv : Vis X.env.scope x := by first | exact Or.inl rfl | exact Or.inr (Or.inl rfl) | exact Or.inr (Or.inr rfl))
    (hd : (x == ("__debug__" : Str)) = false := by decide) (hcd : (x == ("__classdict__" : Str)) = false := by decide) (hbase : attributeBase (.Name x npos) "append" X.env (eval (.Name x npos) X.env) = eval (.Name x npos) X.env := by rfl)
    (hfew : ((backTo cpos (starEach [e] X.env)).all (fun x => !x.1) && (backToKw cpos (keywordEach [] X.env)).all (fun x => x.1.isSome) && decide ([e].length + ([] : List Keyword).length + (if ([] : List Keyword).isEmpty then 0 else 1) < 30)) = true := by rfl)
    (hline : (apos.endLine == cpos.line) = true := by rfl) (hst : starEach [e] X.env = (false, eval e X.env) :: starEach [] X.env := by rfl) (hs : swapsWith (.Call (.Attribute (.Name x npos) "append" apos) [e] [] cpos) none pos.line X.env = pure false := by rfl) :
    ExS X (.Expr (.Call (.Attribute (.Name x npos) "append" apos) [e] [] cpos) pos) env P := exs_append i h hN hv he hl k hd hcd hbase hfew hline hst hs
theorem at_nat {ds : List D} {j : Nat} (h : ds[j]? = some d) : L2.atI ds ((j : Nat) : Int) = some d := atI_nat h
theorem at_int {ds : List D} {i : Int} {j : Nat} (hi : i = j) (h : ds[j]? = some d) : L2.atI ds i = some d := by rw [hi]; exact atI_nat h
theorem at_last {ds : List D} (h : ds.getLast? = some d) : L2.atI ds (-1) = some d := by
  unfold L2.atI ixN
  have hne : ds ≠ [] := fun z => by rw [z] at h; cases h
  have hl : 0 < ds.length := List.length_pos_iff.mpr hne
  rw [if_neg (by omega), if_pos (by omega)]
  rw [List.getLast?_eq_getElem?] at h
  show ds[(-1 + (ds.length : Int)).toNat]? = some d
  have e : (-1 + (ds.length : Int)).toNat = ds.length - 1 := by omega
  rw [e]
  exact h
theorem enum_get {α : Type} {l : List α} {f : α → D} {i : Nat} {d : D} (h : ((l.map f).zipIdx.map fun x => D.tup [.int (x.2 : Nat), x.1])[i]? = some d) : ∃ x, l[i]? = some x ∧ d = .tup [.int (i : Nat), f x] := by
  rw [List.getElem?_map, List.getElem?_zipIdx, List.getElem?_map] at h
  cases e : l[i]? with
  | none => rw [e] at h; cases h
  | some x =>
    rw [e] at h
    refine ⟨x, rfl, ?_⟩
    have := Option.some.inj h
    simpa using this.symm
theorem map_get {α : Type} {l : List α} {f : α → D} {i : Nat} {d : D} (h : (l.map f)[i]? = some d) : ∃ x, l[i]? = some x ∧ d = f x := by
  rw [List.getElem?_map] at h
  cases e : l[i]? with
  | none => rw [e] at h; cases h
  | some x => rw [e] at h; exact ⟨x, rfl, (Option.some.inj h).symm⟩
/-- (a, b, ..) as a target -/
theorem tt {k n : Nat} {bs : List (Nat × D)} (h : TgBs X es ds bs) (hl : ds.length = n) (hc : X.calm = true := by rfl) (hn : (assignEach es X.env).length = n := by rfl) (hst : (assignEach es X.env).findIdx? (·.1) = none := by rfl) : TgB X (.Tuple es k pos) (.tup ds) bs := tgb_tup hc h hl hn hst
theorem exd_join {P : Post} {st : Stmt} {rest : List Stmt} (J : CEnv → Prop) (h : ExS X st env { P with nx := J }) (k : ∀ env', J env' → ExD X rest env' P) : ExD X (st :: rest) env P := exd_cons (h.imp k (fun _ z => z) (fun _ z => z) fun _ z => z)
/-- a call of a def of the module -/
theorem cl {R : List D → D → Prop} (c : C8.Cal X.prog X.w X.K X.mg X.base n f (spD X.K R) []) (hr : Room m X.A) (ha : EvA X (e :: es) env ds) (h : R ds d) (hk : n ≤ m := by decide) (hg : Gl X f := by rfl)
    (hdb : (f == ("__debug__" : Str)) = false := by decide) (he : starEach (e :: es) X.env = (false, eval e X.env) :: starEach es X.env := by rfl) (hpl : (backTo pos (starEach es X.env)).any (·.1) = false := by rfl) : EvD X (.Call (.Name f p) (e :: es) [] pos) env d := evd_c c hr hk hg ha h hdb he hpl
theorem a1 (h : EvD X e env d) (hs : starEach [e] X.env = (false, eval e X.env) :: starEach [] X.env := by rfl) : EvA X [e] env [d] := eva_cons h eva_nil hs
theorem ac (h : EvD X e env d) (t : EvA X es env ds) (hs : starEach (e :: es) X.env = (false, eval e X.env) :: starEach es X.env := by rfl) : EvA X (e :: es) env (d :: ds) := eva_cons h t hs
end
section
variable {P : Program} {w : World} {K : PySem.W.Frag} {mg : Str → Option Value} {base : Heap}

/-! ### lines_after, lines_with -/
def linesAfter (n f l w : Int) : Int := if n = 0 then 0 else if l = 1 then (max (n - f / 2) 0 + (w + 1) / 2 - 1) / ((w + 1) / 2) else if 2 * n - 1 - max f 1 < 0 then 0 else 1 + (2 * n - 1 - max f 1) / w
def R_lines_after : List D → D → Prop := fun ds d => ∃ n f l w : Int, ds = [.int n, .int f, .int l, .int w] ∧ (0 ≤ n ∧ n ≤ 1000 ∧ 0 ≤ f ∧ f ≤ 1000 ∧ (n ≠ 0 → 1 ≤ w ∧ w ≤ 1000)) ∧ d = .int (linesAfter n f l w)
theorem sc_lines_after : FnScope ["letters", "free", "longest", "width", "most", "beyond"] ["letters", "free", "longest", "width"] (defScope (top 24)) := ⟨rfl, rfl, rfl, by decide +kernel, rfl, by decide +kernel, by decide +kernel⟩
theorem ok_lines_after (b : Bt mg) {f : Addr} {fd : FuncData} (F : Fun K "lines_after" "lines_after" (top 24) f fd) : FnOk P w K mg base CX0 1 f fd ["letters", "free", "longest", "width"] (spD K R_lines_after) := by
  refine fnD F sc_lines_after _ (fun ds d ⟨_, _, _, _, h, _⟩ => by rw [h]; rfl) fun cdv A outer s H E ds d hr hR => ?_
  obtain ⟨n, f, l, w, rfl, hp, rfl⟩ := hR
  refine exd_cons (exs_if (evt_eq (v 0) evd_int (.int _ _)) (fun h => exd_cons (exs_ret evd_int ?_)) (fun h => exd_nil ?_))
  · show D.int 0 = _
    rw [beq_iff_eq] at h
    simp [linesAfter, h]
  have hn : n ≠ 0 := by simpa using h
  refine exd_cons (exs_if (evt_eq (v 2) evd_int (.int _ _)) (fun h2 => ?_) (fun h2 => exd_nil ?_))
  · rw [beq_iff_eq] at h2
    refine exd_cons (sv 4 sc_lines_after.nd (evd_fdiv (evd_add (v 3) evd_int) evd_int (by unfold CDiv; omega)) ?_)
    refine exd_cons (exs_ret (evd_fdiv (evd_sub (evd_add (bmax b (evd_sub (v 0) (evd_fdiv (v 1) evd_int (by unfold CDiv; omega))) evd_int) (v 4)) evd_int) (v 4) (by unfold CDiv; omega)) ?_)
    show D.int _ = _
    simp [linesAfter, hn, h2]
  · have hl : l ≠ 1 := by simpa using h2
    refine exd_cons (sv 5 sc_lines_after.nd (evd_sub (evd_sub (evd_mul evd_int (v 0) (by unfold CMul; omega)) evd_int) (bmax b (v 1) evd_int)) ?_)
    refine exd_cons (exs_if (evt_lt (v 5) evd_int) (fun h3 => exd_cons (exs_ret evd_int ?_)) (fun h3 => exd_nil (exd_cons (exs_ret (evd_add evd_int (evd_fdiv (v 5) (v 3) (by unfold CDiv; omega))) ?_))))
    · show D.int 0 = _
      rw [decide_eq_true_eq] at h3
      simp only [linesAfter, if_neg hn, if_neg hl, if_pos h3]
    · show D.int _ = _
      rw [decide_eq_false_iff_not] at h3
      simp only [linesAfter, if_neg hn, if_neg hl, if_neg h3]
end
end Dt
set_option maxHeartbeats 2000000
namespace Dt
open PySem PySem.Spec PyProof.Rows L2
section
variable {P : Program} {w : World} {K : PySem.W.Frag} {mg : Str → Option Value} {base : Heap}
def linesWith (m n f l w : Int) : Int := if m < f then linesAfter (n - m) (f - m - 1) l w else 1 + linesAfter (n - m) (w - m) l w
def preA (n f l w : Int) : Prop := 0 ≤ n ∧ n ≤ 1000 ∧ 0 ≤ f ∧ f ≤ 1000 ∧ 1 ≤ l ∧ l ≤ 1000 ∧ 0 ≤ w ∧ w ≤ 1000 ∧ min n l ≤ w
def R_lines_with : List D → D → Prop := fun ds d => ∃ m n f l w : Int, ds = [.int m, .int n, .int f, .int l, .int w] ∧ (preA n f l w ∧ 1 ≤ m ∧ m ≤ min n l) ∧ d = .int (linesWith m n f l w)
theorem sc_lines_with : FnScope ["length", "letters", "free", "longest", "width"] ["length", "letters", "free", "longest", "width"] (defScope (top 25)) := ⟨rfl, rfl, rfl, by decide +kernel, rfl, by decide +kernel, by decide +kernel⟩
theorem ok_lines_with (b : Bt mg) (c1 : C8.Cal P w K mg base 1 "lines_after" (spD K R_lines_after) []) {f : Addr} {fd : FuncData} (F : Fun K "lines_with" "lines_with" (top 25) f fd) : FnOk P w K mg base CX0 2 f fd ["length", "letters", "free", "longest", "width"] (spD K R_lines_with) := by
  refine fnD F sc_lines_with _ (fun ds d ⟨_, _, _, _, _, h, _⟩ => by rw [h]; rfl) fun cdv A outer s H E ds d hr hR => ?_
  obtain ⟨m, n, f, l, w, rfl, hp, rfl⟩ := hR
  unfold preA at hp
  refine exd_cons (exs_if (evt_lt (v 0) (v 2)) (fun h => exd_cons (exs_ret (cl c1 hr (ac (evd_sub (v 1) (v 0)) (ac (evd_sub (evd_sub (v 2) (v 0)) evd_int) (ac (v 3) (a1 (v 4))))) ⟨_, _, _, _, rfl, ?_, rfl⟩) ?_)) (fun h => exd_nil (exd_cons (exs_ret (evd_add evd_int (cl c1 hr (ac (evd_sub (v 1) (v 0)) (ac (evd_sub (v 4) (v 0)) (ac (v 3) (a1 (v 4))))) ⟨_, _, _, _, rfl, ?_, rfl⟩)) ?_))))
  · rw [decide_eq_true_eq] at h
    omega
  · rw [decide_eq_true_eq] at h
    show D.int _ = D.int _
    simp only [linesWith, if_pos h]
  · rw [decide_eq_false_iff_not] at h
    omega
  · rw [decide_eq_false_iff_not] at h
    show D.int _ = D.int _
    simp only [linesWith, if_neg h]
/-! ### worst_lines -/
def R_worst_lines : List D → D → Prop := fun ds d => ∃ n l w : Int, ds = [.int n, .int l, .int w] ∧ preA n 0 l w ∧ d = .int (linesAfter n 0 l w)
theorem sc_worst_lines : FnScope ["letters", "longest", "width"] ["letters", "longest", "width"] (defScope (top 26)) := ⟨rfl, rfl, rfl, by decide +kernel, rfl, by decide +kernel, by decide +kernel⟩
theorem ok_worst_lines (b : Bt mg) (c1 : C8.Cal P w K mg base 1 "lines_after" (spD K R_lines_after) []) {f : Addr} {fd : FuncData} (F : Fun K "worst_lines" "worst_lines" (top 26) f fd) : FnOk P w K mg base CX0 2 f fd ["letters", "longest", "width"] (spD K R_worst_lines) := by
  refine fnD F sc_worst_lines _ (fun ds d ⟨_, _, _, h, _⟩ => by rw [h]; rfl) fun cdv A outer s H E ds d hr hR => ?_
  obtain ⟨n, l, w, rfl, hp, rfl⟩ := hR
  unfold preA at hp
  refine exd_cons (exs_if (evt_lt (v 2) (bmin b (v 0) (v 1))) (fun h => ?_) (fun h => exd_nil (exd_cons (exs_ret (cl c1 hr (ac (v 0) (ac evd_int (ac (v 1) (a1 (v 2))))) ⟨_, _, _, _, rfl, ?_, rfl⟩) rfl))))
  · rw [decide_eq_true_eq] at h
    omega
  · omega
/-! ### next_length -/
def IsNL (n f l w m : Int) : Prop := 1 ≤ m ∧ m ≤ min n l ∧ linesWith m n f l w = linesAfter n f l w ∧ ∀ k, 1 ≤ k → k < m → linesWith k n f l w ≠ linesAfter n f l w
def R_next_length : List D → D → Prop := fun ds d => ∃ n f l w m : Int, ds = [.int n, .int f, .int l, .int w] ∧ (preA n f l w ∧ IsNL n f l w m) ∧ d = .int m
abbrev N_next_length : List Str := ["letters", "free", "longest", "width", "most", "lengths", "length"]
theorem sc_next_length : FnScope N_next_length ["letters", "free", "longest", "width"] (defScope (top 27)) := ⟨rfl, rfl, rfl, by decide +kernel, rfl, by decide +kernel, by decide +kernel⟩
theorem ok_next_length (b : Bt mg) (c1 : C8.Cal P w K mg base 1 "lines_after" (spD K R_lines_after) []) (c2 : C8.Cal P w K mg base 2 "lines_with" (spD K R_lines_with) []) {f : Addr} {fd : FuncData} (F : Fun K "next_length" "next_length" (top 27) f fd) : FnOk P w K mg base CX0 3 f fd ["letters", "free", "longest", "width"] (spD K R_next_length) := by
  refine fnD F sc_next_length _ (fun ds d ⟨_, _, _, _, _, h, _⟩ => by rw [h]; rfl) fun cdv A outer s H E ds d hr hR => ?_
  obtain ⟨n, f, l, w, m, rfl, ⟨hp, hm⟩, rfl⟩ := hR
  have hp' := hp
  unfold preA at hp
  unfold IsNL at hm
  refine exd_cons (sv 4 sc_next_length.nd (cl c1 hr (ac (v 0) (ac (v 1) (ac (v 2) (a1 (v 3))))) ⟨_, _, _, _, rfl, by omega, rfl⟩) ?_)
  refine exd_cons (sv 5 sc_next_length.nd (brange2 b evd_int (evd_add (bmin b (v 0) (v 2)) evd_int)) ?_)
  refine exd_cons (exs_ret (bminL (ns := ((List.range (min n l).toNat).filter fun (k : Nat) => decide (linesWith (1 + k) n f l w = linesAfter n f l w)).map fun (k : Nat) => (1 + (k : Int))) b (evl_of (EvD.to (evd_lcF (own := [("length", 6)]) (l := List.range (min n l).toNat) (en := fun (k : Nat) => D.int (1 + k)) (fn := fun (k : Nat) => D.int (1 + k)) (p := fun k => decide (linesWith (1 + k) n f l w = linesAfter n f l w)) rfl sc_next_length.nd ?_ (blkOk_by (N := N_next_length) (sc := defScope (top 27)) (by decide +kernel)) (by simp; omega) ?_) ?_)) ?_ ?_) rfl)
  · exact EvI.to (evi_rng (v 5) (by omega)) (by unfold dRange; congr 3; omega)
  · intro k hk
    rw [List.mem_range] at hk
    refine ⟨[(6, .int (1 + k))], by simp, fun s H C cl fp => tn 6 sc_next_length.nd, fun s H C cl' fp => ?_, fun _ s H C cl fp => v 6⟩
    exact evt_eq (cl c2 hr (ac (v 6) (ac (v 0) (ac (v 1) (ac (v 2) (a1 (v 3)))))) ⟨_, _, _, _, _, rfl, ⟨hp', by omega, by omega⟩, rfl⟩) (v 4) (.int _ _)
  · simp [dInts]
  · simp only [List.mem_map, List.mem_filter, List.mem_range, decide_eq_true_eq]
    exact ⟨(m - 1).toNat, ⟨by omega, by have e : (1 : Int) + ((m - 1).toNat : Int) = m := by omega
                                        rw [e]; exact hm.2.2.1⟩, by omega⟩
  · intro y hy
    simp only [List.mem_map, List.mem_filter, List.mem_range, decide_eq_true_eq] at hy
    obtain ⟨k, ⟨hk, he⟩, rfl⟩ := hy
    rcases Int.lt_or_le (1 + (k : Int)) m with h | h
    · exact absurd he (hm.2.2.2 _ (by omega) h)
    · exact h
end
end Dt
set_option maxHeartbeats 2000000
namespace Dt
open PySem PySem.Spec PyProof.Rows L2
section
variable {P : Program} {w : World} {K : PySem.W.Frag} {mg : Str → Option Value} {base : Heap}
/-! ### worst_lengths -/
inductive WL (l w : Int) : Int → Int → List Int → Prop
  | nil (f : Int) : WL l w 0 f []
  | cons {n f m : Int} {t : List Int} : 1 ≤ n → IsNL n f l w m → WL l w (n - m) (if m < f then f - m - 1 else w - m) t → WL l w n f (m :: t)
def R_worst_lengths : List D → D → Prop := fun ds d => ∃ (n l w : Int) (lens : List Int), ds = [.int n, .int l, .int w] ∧ (preA n 0 l w ∧ WL l w n 0 lens ∧ lens.length ≤ 1000) ∧ d = .tup (dInts lens)
abbrev N_worst_lengths : List Str := ["letters", "longest", "width", "lengths", "free", "length"]
theorem sc_worst_lengths : FnScope N_worst_lengths ["letters", "longest", "width"] (defScope (top 28)) := ⟨rfl, rfl, rfl, by decide +kernel, rfl, by decide +kernel, by decide +kernel⟩
theorem ok_worst_lengths (b : Bt mg) (c1 : C8.Cal P w K mg base 3 "next_length" (spD K R_next_length) []) {f : Addr} {fd : FuncData} (F : Fun K "worst_lengths" "worst_lengths" (top 28) f fd) : FnOk P w K mg base CX0 4 f fd ["letters", "longest", "width"] (spD K R_worst_lengths) := by
  refine fnD F sc_worst_lengths _ (fun ds d ⟨_, _, _, _, h, _⟩ => by rw [h]; rfl) fun cdv A outer s H E ds d hr hR => ?_
  obtain ⟨n, l, w, lens, rfl, ⟨hp, hw, hl⟩, rfl⟩ := hR
  have hp' := hp
  unfold preA at hp
  refine exd_cons (exs_if (evt_lt (v 2) (bmin b (v 0) (v 1))) (fun h => ?_) (fun h => exd_nil ?_))
  · rw [decide_eq_true_eq] at h
    omega
  refine exd_cons (sM 3 sc_worst_lengths.nd eva_nil ?_)
  refine exd_cons (sv 4 sc_worst_lengths.nd evd_int ?_)
  refine exd_cons (exs_while (fun m env => ∃ (n' f' : Int) (done rest : List Int) (x : Cell), env = [.frz (.int n'), .frz (.int l), .frz (.int w), .own (dInts done), .frz (.int f'), x] ∧ WL l w n' f' rest ∧ preA n' f' l w ∧ lens = done ++ rest ∧ m = rest.length) lens.length ⟨n, 0, [], lens, _, rfl, hw, hp', rfl, rfl⟩ fun m env1 hI => ?_)
  obtain ⟨n', f', done, rest, x, rfl, hw', hp2, hd, rfl⟩ := hI
  have hp3 := hp2
  unfold preA at hp2
  refine ⟨_, evt_gt (v 0) evd_int, fun h => ?_, fun h => ?_⟩
  · rw [decide_eq_true_eq] at h
    cases hw' with
    | nil => omega
    | @cons _ _ m t h1 h2 h3 =>
      have h2' := h2
      unfold IsNL at h2
      refine exd_cons (sv 5 sc_worst_lengths.nd (cl c1 hr (ac (v 0) (ac (v 4) (ac (v 1) (a1 (v 2))))) ⟨_, _, _, _, _, rfl, ⟨hp3, h2'⟩, rfl⟩) ?_)
      refine exd_cons (exs_if (evt_lt (v 5) (v 4)) (fun h4 => ?_) (fun h4 => ?_))
      · rw [decide_eq_true_eq] at h4
        rw [if_pos h4] at h3
        refine exd_cons (sv 4 sc_worst_lengths.nd (evd_sub (evd_sub (v 4) (v 5)) evd_int) (exd_nil ?_))
        refine exd_cons (sv 0 sc_worst_lengths.nd (evd_sub (v 0) (v 5)) ?_)
        refine exd_cons (ap 3 (v 5) (exd_nil ?_) ?_)
        · exact ⟨t.length, by simp, n' - m, f' - m - 1, done ++ [m], t, .frz (.int m), by simp [dInts], h3, by unfold preA; omega, by rw [hd]; simp, rfl⟩
        · have := congrArg List.length hd
          simp at this ⊢
          omega
      · rw [decide_eq_false_iff_not] at h4
        rw [if_neg h4] at h3
        refine exd_cons (sv 4 sc_worst_lengths.nd (evd_sub (v 2) (v 5)) (exd_nil ?_))
        refine exd_cons (sv 0 sc_worst_lengths.nd (evd_sub (v 0) (v 5)) ?_)
        refine exd_cons (ap 3 (v 5) (exd_nil ?_) ?_)
        · exact ⟨t.length, by simp, n' - m, w - m, done ++ [m], t, .frz (.int m), by simp [dInts], h3, by unfold preA; omega, by rw [hd]; simp, rfl⟩
        · have := congrArg List.length hd
          simp at this ⊢
          omega
  · rw [decide_eq_false_iff_not] at h
    cases hw' with
    | cons h1 _ _ => omega
    | nil =>
      rw [List.append_nil] at hd
      subst hd
      exact exd_cons (exs_ret (btuple b (lv 3)) rfl)
/-! ### worst_words -/
abbrev xsS (m : Int) : D := .str (Txt.mul "x" m)
def R_worst_words : List D → D → Prop := fun ds d => ∃ (n l w : Int) (lens : List Int), ds = [.int n, .int l, .int w] ∧ (preA n 0 l w ∧ WL l w n 0 lens ∧ lens.length ≤ 1000 ∧ ∀ m ∈ lens, 0 ≤ m ∧ m ≤ 1000) ∧ d = .lst (lens.map xsS)
abbrev N_worst_words : List Str := ["letters", "longest", "width", "length"]
theorem sc_worst_words : FnScope N_worst_words ["letters", "longest", "width"] (defScope (top 29)) := ⟨rfl, rfl, rfl, by decide +kernel, rfl, by decide +kernel, by decide +kernel⟩
theorem ok_worst_words (b : Bt mg) (c1 : C8.Cal P w K mg base 4 "worst_lengths" (spD K R_worst_lengths) []) {f : Addr} {fd : FuncData} (F : Fun K "worst_words" "worst_words" (top 29) f fd) : FnOk P w K mg base CX0 5 f fd ["letters", "longest", "width"] (spD K R_worst_words) := by
  refine fnD F sc_worst_words _ (fun ds d ⟨_, _, _, _, h, _⟩ => by rw [h]; rfl) fun cdv A outer s H E ds d hr hR => ?_
  obtain ⟨n, l, w, lens, rfl, ⟨hp, hw, hl, hm⟩, rfl⟩ := hR
  refine exd_cons (exs_ret (evd_lcM (own := [("length", 3)]) (l := lens) (en := D.int) (fn := xsS) rfl sc_worst_words.nd (evi_tup (cl c1 hr (ac (v 0) (ac (v 1) (a1 (v 2)))) ⟨_, _, _, lens, rfl, ⟨hp, hw, hl⟩, rfl⟩)) (blkOk_by (N := N_worst_words) (sc := defScope (top 29)) (by decide +kernel)) (by omega) ?_) rfl)
  intro m hm'
  have := hm m hm'
  exact ⟨[(3, .int m)], by simp, fun s H C cl fp => tn 3 sc_worst_words.nd, fun s H C cl' fp => evd_mulS evd_str (v 3) (by decide) (by omega)⟩
/-! ### first_bad -/
abbrev pD (ps : List (Int × Int)) : List D := ps.map prD
structure IsSt (ps : List (Int × Int)) : Prop where
  ne : ps ≠ []
  pos : ∀ q ∈ ps, 0 ≤ q.1 ∧ 0 ≤ q.2
  up : ps.Pairwise fun q r => q.1 < r.1 ∧ r.2 < q.2
theorem IsSt.next {ps : List (Int × Int)} (h : IsSt ps) {i : Nat} {q r : Int × Int} (h1 : ps[i]? = some q) (h2 : ps[i + 1]? = some r) : q.1 < r.1 ∧ r.2 < q.2 := by
  obtain ⟨a1, b1⟩ := List.getElem?_eq_some_iff.mp h1
  obtain ⟨a2, b2⟩ := List.getElem?_eq_some_iff.mp h2
  have := List.pairwise_iff_getElem.mp h.up i (i + 1) a1 a2 (by omega)
  rw [b1, b2] at this
  exact this
theorem prev {ps : List (Int × Int)} {i : Nat} {q : Int × Int} (hq : ps[i]? = some q) (hk : 0 < i) : L2.atI (pD ps) ((i : Int) - 1) = some (D.tup [D.int (ps.getD (i - 1) (0, 0)).1, D.int (ps.getD (i - 1) (0, 0)).2]) := by
  have hj : i - 1 < ps.length := by
    have := (List.getElem?_eq_some_iff.mp hq).1
    omega
  have e := List.getElem?_eq_getElem hj
  refine at_int (j := i - 1) (by omega) ?_
  rw [List.getElem?_map, e]
  simp only [List.getD, e, Option.getD_some]
  rfl
def R_first_bad : List D → D → Prop := fun ds d => ∃ ps : List (Int × Int), ds = [.lst (pD ps)] ∧ IsSt ps ∧ d = .non
abbrev N_first_bad : List Str := ["corners", "k", "width", "height"]
theorem sc_first_bad : FnScope N_first_bad ["corners"] (defScope (top 8)) := ⟨rfl, rfl, rfl, by decide +kernel, rfl, by decide +kernel, by decide +kernel⟩
theorem ok_first_bad (b : Bt mg) {f : Addr} {fd : FuncData} (F : Fun K "first_bad" "first_bad" (top 8) f fd) : FnOk P w K mg base CX0 1 f fd ["corners"] (spD K R_first_bad) := by
  refine fnD F sc_first_bad _ (fun ds d ⟨_, h, _⟩ => by rw [h]; rfl) fun cdv A outer s H E ds d hr hR => ?_
  obtain ⟨ps, rfl, hps, rfl⟩ := hR
  refine exd_cons (exs_if (evt_not (evt_truL (evl_of (v 0)))) (fun h => ?_) (fun h => exd_nil ?_))
  · have := hps.ne
    cases ps with
    | nil => exact absurd rfl this
    | cons q t => simp at h
  refine exd_cons (exs_for (fun i env => ∃ x y z : Cell, env = [.frz (.lst (pD ps)), x, y, z]) rfl (ienum b (v 0)) ⟨_, _, _, rfl⟩ (fun i d env1 hd hI => ?_) fun env1 hI => ?_)
  · obtain ⟨x, y, z, rfl⟩ := hI
    obtain ⟨q, hq, rfl⟩ := enum_get hd
    have hq' := hps.pos q (List.mem_of_getElem? hq)
    refine ⟨_, tt (tgbs_cons (tn 1 sc_first_bad.nd) (tgbs_cons (tt (tgbs_cons (tn 2 sc_first_bad.nd) (tgbs_cons (tn 3 sc_first_bad.nd) tgbs_nil)) rfl) tgbs_nil)) rfl, ?_⟩
    refine exd_cons (exs_if (evt_w (evw_or (evt_lt (v 2) evd_int) fun _ => evw_or1 (evt_lt (v 3) evd_int))) (fun h => ?_) (fun h => exd_nil ?_))
    · simp at h
      omega
    refine exd_cons (exs_if (evt_w (evw_and (evt_gt (v 1) evd_int) fun hk => evw_and1 (evt_w (evw_or (evt_le (v 2) (evd_ixU (evd_ixL (evl_of (v 0)) (evd_sub (v 1) evd_int) (d := .tup [.int (ps.getD (i - 1) (0, 0)).1, .int (ps.getD (i - 1) (0, 0)).2]) ?_) evd_int rfl)) fun _ => evw_or1 (evt_ge (v 3) (evd_ixU (evd_ixL (evl_of (v 0)) (evd_sub (v 1) evd_int) (d := .tup [.int (ps.getD (i - 1) (0, 0)).1, .int (ps.getD (i - 1) (0, 0)).2]) ?_) evd_int rfl)))))) (fun h => ?_) (fun h => exd_nil (exd_nil ⟨_, _, _, rfl⟩)))
    · simp only [decide_eq_true_eq] at hk
      exact prev hq (by omega)
    · simp only [decide_eq_true_eq] at hk
      exact prev hq (by omega)
    · simp only [Bool.and_eq_true, Bool.or_eq_true, decide_eq_true_eq] at h
      obtain ⟨h1, h2⟩ := h
      cases i with
      | zero => simp at h1
      | succ j =>
        have hj : j < ps.length := by
          have := (List.getElem?_eq_some_iff.mp hq).1
          omega
        have e := List.getElem?_eq_getElem hj
        have := hps.next e hq
        simp only [Nat.add_sub_cancel, List.getD, e, Option.getD_some] at h2
        omega
  · obtain ⟨x, y, z, rfl⟩ := hI
    exact exd_cons (exs_ret evd_non rfl)

/-! ### hull_of -/
def keepB (acc : List (Int × Int)) (q : Int × Int) : Bool := match acc.getLast? with
  | none => true
  | some r => decide (q.2 < r.2)
def hullF : List (Int × Int) → List (Int × Int) → List (Int × Int)
  | acc, [] => acc
  | acc, q :: t => hullF (if keepB acc q then acc ++ [q] else acc) t
theorem hullF_snoc (q : Int × Int) : ∀ (l acc : List (Int × Int)), hullF acc (l ++ [q]) = if keepB (hullF acc l) q then hullF acc l ++ [q] else hullF acc l
  | [], acc => rfl
  | r :: l, acc => hullF_snoc q l _
theorem hullF_len : ∀ (l acc : List (Int × Int)), (hullF acc l).length ≤ acc.length + l.length
  | [], acc => by simp [hullF]
  | r :: l, acc => by
    have := hullF_len l (if keepB acc r then acc ++ [r] else acc)
    unfold hullF
    split at this <;> simp_all <;> omega
def R_hull_of : List D → D → Prop := fun ds d => ∃ ps : List (Int × Int), ds = [.lst (pD ps)] ∧ (ps.Pairwise lexLe ∧ ps.length ≤ 100000) ∧ d = .lst (pD (hullF [] ps))
abbrev N_hull_of : List Str := ["pairs", "kept", "width", "height"]
theorem sc_hull_of : FnScope N_hull_of ["pairs"] (defScope (top 9)) := ⟨rfl, rfl, rfl, by decide +kernel, rfl, by decide +kernel, by decide +kernel⟩
theorem take_snoc {α : Type} {l : List α} {i : Nat} {x : α} (h : l[i]? = some x) : l.take (i + 1) = l.take i ++ [x] := by
  rw [List.take_add_one, h]
  rfl
theorem ok_hull_of (b : Bt mg) {f : Addr} {fd : FuncData} (F : Fun K "hull_of" "hull_of" (top 9) f fd) : FnOk P w K mg base CX0 1 f fd ["pairs"] (spD K R_hull_of) := by
  refine fnD F sc_hull_of _ (fun ds d ⟨_, h, _⟩ => by rw [h]; rfl) fun cdv A outer s H E ds d hr hR => ?_
  obtain ⟨ps, rfl, ⟨hps, hpl⟩, rfl⟩ := hR
  refine exd_cons (sM 1 sc_hull_of.nd eva_nil ?_)
  refine exd_cons (exs_for (fun i env => ∃ x y : Cell, env = [.frz (.lst (pD ps)), .own (pD (hullF [] (ps.take i))), x, y]) rfl (evi_list (evd_sortP rfl b.sorted (evl_of (v 0)) (List.Perm.refl _) hps)) ⟨.junk, .junk, rfl⟩ (fun i d env1 hd hI => ?_) fun env1 hI => ?_)
  · obtain ⟨x, y, rfl⟩ := hI
    obtain ⟨q, hq, rfl⟩ := map_get hd
    refine ⟨_, tt (tgbs_cons (tn 2 sc_hull_of.nd) (tgbs_cons (tn 3 sc_hull_of.nd) tgbs_nil)) rfl, ?_⟩
    have hlen := hullF_len (ps.take i) []
    have hi := (List.getElem?_eq_some_iff.mp hq).1
    simp only [List.length_take, List.length_nil] at hlen
    have key : EvT (cxOf CX0 P w K mg base N_hull_of "hull_of" (defScope (top 9)) f cdv A outer s H E).nox (.BoolOp .Or [.UnaryOp .Not (.Name "kept" ⟨41, 15, 41, 19⟩) ⟨41, 11, 41, 19⟩, .Compare (.Name "height" ⟨41, 23, 41, 29⟩) [.Lt] [.Subscript (.Subscript (.Name "kept" ⟨41, 32, 41, 36⟩) (.UnaryOp .USub (.Constant (.int 1) 0 ⟨41, 38, 41, 39⟩) ⟨41, 37, 41, 39⟩) ⟨41, 32, 41, 40⟩) (.Constant (.int 1) 0 ⟨41, 41, 41, 42⟩) ⟨41, 32, 41, 43⟩] ⟨41, 23, 41, 43⟩] ⟨41, 11, 41, 43⟩) [.frz (.lst (pD ps)), .own (pD (hullF [] (ps.take i))), .frz (.int q.1), .frz (.int q.2)] (keepB (hullF [] (ps.take i)) q) := by
      cases hk : (hullF [] (ps.take i)).getLast? with
      | none =>
        have hn : hullF [] (ps.take i) = [] := List.getLast?_eq_none_iff.mp hk
        rw [hn]
        exact EvT.to (evt_w (evw_or (l := true) (evt_not (evt_truL (lv 1))) fun z => by simp [pD] at z)) rfl
      | some r =>
        refine EvT.to (evt_w (evw_or (l := decide (q.2 < r.2)) (evt_not (evt_truL (lv 1))) fun _ => evw_or1 (evt_lt (v 3) (evd_ixU (evd_ixL (lv 1) (ng evd_int) (d := prD r) (at_last ?_)) evd_int rfl)))) ?_
        · rw [List.getLast?_map, hk]
          rfl
        · unfold keepB
          rw [hk]
          cases hh : hullF [] (ps.take i) with
          | nil => rw [hh] at hk; cases hk
          | cons a t => simp
    refine exd_cons (exs_if key (fun h => exd_cons (ap 1 (evd_tup (ac (v 2) (a1 (v 3))) (by simp)) (exd_nil (exd_nil ⟨.frz (.int q.1), .frz (.int q.2), ?_⟩)) ?_)) (fun h => exd_nil (exd_nil ⟨.frz (.int q.1), .frz (.int q.2), ?_⟩)))
    · rw [take_snoc hq, hullF_snoc, if_pos h]
      show [_, Cell.own (pD (hullF [] (ps.take i)) ++ [.tup [.int q.1, .int q.2]]), _, _] = _
      simp [pD]
    · simp [pD]
      omega
    · rw [take_snoc hq, hullF_snoc, if_neg (by rw [h]; decide)]
      exact rfl
  · obtain ⟨x, y, rfl⟩ := hI
    refine exd_freeze 1 rfl (exd_cons (exs_ret (v 1) ?_))
    simp [pD]
end
end Dt
set_option maxHeartbeats 2000000
namespace Dt
open PySem PySem.Spec PyProof.Rows L2
/-- statement i of the class at statement c -/
def mth (c i : Nat) : Stmt := match top c with
  | .ClassDef _ _ _ body .. => body.getD i (.Pass ⟨0, 0, 0, 0⟩)
  | _ => .Pass ⟨0, 0, 0, 0⟩
section
variable {P : Program} {w : World} {K : PySem.W.Frag} {mg : Str → Option Value} {base : Heap}
/-! ### Stairs -/
structure StT (K : PySem.W.Frag) (C : Addr) : Prop where
  cl : Cls K C
  nc : NoAttr K C "corners"
abbrev stD (C : Addr) (ps : List (Int × Int)) : D := .obj C [(("corners" : Str), D.tup (pD ps))]
def RI_stairs : List D → List (Str × D) → List (Str × D) → Prop := fun ds gs gs' => ∃ ps : List (Int × Int), ds = [.lst (pD ps)] ∧ gs = [] ∧ (IsSt ps ∧ ps.length ≤ 100000) ∧ gs' = [(("corners" : Str), D.tup (pD ps))]
abbrev N_st_init : List Str := ["self", "corners", "rows", "place", "width", "height"]
theorem sc_st_init : FnScope N_st_init ["self", "corners"] (defScope (mth 10 0)) := ⟨rfl, rfl, rfl, by decide +kernel, rfl, by decide +kernel, by decide +kernel⟩
theorem ok_st_init (b : Bt mg) {C : Addr} (T : StT K C) (c1 : C8.Cal P w K mg base 1 "first_bad" (spD K R_first_bad) []) {f : Addr} {fd : FuncData} {qual : Str} (F : Fun K "__init__" qual (mth 10 0) f fd) : FnOk P w K mg base CX0 2 f fd ["self", "corners"] (spI K C RI_stairs) := by
  refine fnI F sc_st_init _ (fun ds gs gs' ⟨_, h, _⟩ => by rw [h]; rfl) fun cdv A outer s H E p ds gs gs' hr hR => ?_
  obtain ⟨ps, rfl, rfl, ⟨hps, hpl⟩, rfl⟩ := hR
  refine exd_cons (exs_setLcM (i := 2) (own := [("width", 4), ("height", 5)]) (l := ps) (en := prD) (fn := prD) rfl sc_st_init.nd rfl rfl (evi_list (v 1)) (blkOk_by (N := N_st_init) (sc := defScope (mth 10 0)) (by decide +kernel)) (by omega) (fun q hq => ?_) ?_ (sw_true rfl rfl rfl (by decide +kernel)))
  · exact ⟨_, by simp, fun s H C cl fp => tt (tgbs_cons (tn 4 sc_st_init.nd) (tgbs_cons (tn 5 sc_st_init.nd) tgbs_nil)) rfl, fun s H C cl' fp => evd_tup (ac (v 4) (a1 (v 5))) (by simp)⟩
  refine exd_cons (sv 3 sc_st_init.nd (cl c1 hr (a1 (v 2)) ⟨ps, rfl, hps, rfl⟩) ?_)
  refine exd_cons (exs_if (evt_notN (v 3) evd_non) (fun h => ?_) (fun h => exd_nil ?_))
  · cases h
  exact exd_cons (exs_fld 0 rfl rfl (.inl rfl) (btuple b (evl_of (v 2))) T.cl T.nc (by simp) (exd_nil rfl))

/-! ### what hullF is -/
abbrev up2 (q r : Int × Int) : Prop := q.1 < r.1 ∧ r.2 < q.2
theorem keep_none {q : Int × Int} : keepB [] q = true := rfl
theorem keep_snoc {acc : List (Int × Int)} {r q : Int × Int} : keepB (acc ++ [r]) q = decide (q.2 < r.2) := by
  unfold keepB
  rw [List.getLast?_append]
  simp
theorem snoc_cases {α : Type} (l : List α) : l = [] ∨ ∃ m x, l = m ++ [x] := by
  cases h : l.getLast? with
  | none => exact .inl (List.getLast?_eq_none_iff.mp h)
  | some x =>
    obtain ⟨m, e⟩ := List.getLast?_eq_some_iff.mp h
    exact .inr ⟨m, x, e⟩
theorem hull_up : ∀ (l acc : List (Int × Int)), acc.Pairwise up2 → (∀ q ∈ acc, ∀ r ∈ l, lexLe q r) → l.Pairwise lexLe → (hullF acc l).Pairwise up2
  | [], acc, h, _, _ => h
  | q :: t, acc, h, h2, h3 => by
    unfold hullF
    obtain ⟨h4, h5⟩ := List.pairwise_cons.mp h3
    cases hk : keepB acc q with
    | false => exact hull_up t acc h (fun a ha r hr => h2 a ha r (List.mem_cons_of_mem _ hr)) h5
    | true =>
      refine hull_up t (acc ++ [q]) ?_ (fun a ha r hr => ?_) h5
      · rw [List.pairwise_append]
        refine ⟨h, List.pairwise_singleton _ _, fun a ha b hb => ?_⟩
        obtain rfl := List.mem_singleton.mp hb
        rcases snoc_cases acc with e | ⟨m, r, e⟩
        · rw [e] at ha; cases ha
        · subst e
          rw [keep_snoc, decide_eq_true_eq] at hk
          have hr := h2 r (by simp) b List.mem_cons_self
          unfold lexLe at hr
          rcases List.mem_append.mp ha with ha | ha
          · have := (List.pairwise_append.mp h).2.2 a ha r (by simp)
            unfold up2 at this ⊢
            omega
          · obtain rfl := List.mem_singleton.mp ha
            unfold up2
            omega
      · rcases List.mem_append.mp ha with ha | ha
        · exact h2 a ha r (List.mem_cons_of_mem _ hr)
        · obtain rfl := List.mem_singleton.mp ha
          exact h4 r hr
theorem hull_mem : ∀ (l acc : List (Int × Int)) (q : Int × Int), q ∈ hullF acc l → q ∈ acc ∨ q ∈ l
  | [], acc, q, h => .inl h
  | r :: t, acc, q, h => by
    unfold hullF at h
    rcases hull_mem t _ q h with h | h
    · split at h
      · rcases List.mem_append.mp h with h | h
        · exact .inl h
        · exact .inr (by rw [List.mem_singleton.mp h]; exact List.mem_cons_self)
      · exact .inl h
    · exact .inr (List.mem_cons_of_mem _ h)
theorem hull_sub : ∀ (l acc : List (Int × Int)) (q : Int × Int), q ∈ acc → q ∈ hullF acc l
  | [], acc, q, h => h
  | r :: t, acc, q, h => by
    unfold hullF
    refine hull_sub t _ q ?_
    split
    · exact List.mem_append_left _ h
    · exact h
theorem hull_ne {l : List (Int × Int)} (h : l ≠ []) : hullF [] l ≠ [] := by
  cases l with
  | nil => exact absurd rfl h
  | cons q t =>
    intro z
    have : q ∈ hullF [q] t := hull_sub t [q] q (by simp)
    have e : hullF [] (q :: t) = hullF [q] t := rfl
    rw [← e, z] at this
    cases this
theorem hull_st {l : List (Int × Int)} (h : l ≠ []) (hp : ∀ q ∈ l, 0 ≤ q.1 ∧ 0 ≤ q.2) (hs : l.Pairwise lexLe) : IsSt (hullF [] l) :=
  ⟨hull_ne h, fun q hq => (hull_mem l [] q hq).elim (fun z => by cases z) (hp q), hull_up l [] .nil (fun _ z => by cases z) hs⟩
/-- a room is let in by the hull exactly if it is by one of the pairs -/
theorem hull_any (w h : Int) : ∀ (l acc : List (Int × Int)), acc.Pairwise up2 → (∀ q ∈ acc, ∀ r ∈ l, lexLe q r) → l.Pairwise lexLe → (((hullF acc l).any fun q => decide (q.1 ≤ w) && decide (q.2 ≤ h)) = ((acc ++ l).any fun q => decide (q.1 ≤ w) && decide (q.2 ≤ h)))
  | [], acc, _, _, _ => by simp [hullF]
  | q :: t, acc, h1, h2, h3 => by
    obtain ⟨h4, h5⟩ := List.pairwise_cons.mp h3
    have hu := hull_up (q :: []) acc h1 (fun a ha r hr => by
      obtain rfl := List.mem_singleton.mp hr
      exact h2 a ha r List.mem_cons_self) (List.pairwise_singleton _ _)
    unfold hullF
    cases hk : keepB acc q with
    | true =>
      have e : hullF acc [q] = acc ++ [q] := by unfold hullF; rw [hk]; rfl
      rw [e] at hu
      rw [if_pos rfl, hull_any w h t (acc ++ [q]) hu (fun a ha r hr => ?_) h5]
      · simp [Bool.or_assoc]
      · rcases List.mem_append.mp ha with ha | ha
        · exact h2 a ha r (List.mem_cons_of_mem _ hr)
        · obtain rfl := List.mem_singleton.mp ha
          exact h4 r hr
    | false =>
      rw [if_neg (by decide), hull_any w h t acc h1 (fun a ha r hr => h2 a ha r (List.mem_cons_of_mem _ hr)) h5]
      rcases snoc_cases acc with e | ⟨m, r, e⟩
      · rw [e] at hk; cases hk
      · rw [e, keep_snoc, decide_eq_false_iff_not] at hk
        have hr := h2 r (by rw [e]; simp) q List.mem_cons_self
        unfold lexLe at hr
        rw [e]
        simp only [List.any_append, List.any_cons, List.any_nil, Bool.or_false]
        by_cases hq : q.1 ≤ w ∧ q.2 ≤ h
        · have : r.1 ≤ w ∧ r.2 ≤ h := by omega
          simp [hq, this]
        · have : (decide (q.1 ≤ w) && decide (q.2 ≤ h)) = false := by
            simp only [Bool.and_eq_false_iff, decide_eq_false_iff_not]
            omega
          rw [this]
          simp
/-! ### Stairs.hull -/
def R_hull (C : Addr) : List D → D → Prop := fun ds d => ∃ ps : List (Int × Int), ds = [.lst (pD ps)] ∧ (ps ≠ [] ∧ (∀ q ∈ ps, 0 ≤ q.1 ∧ 0 ≤ q.2) ∧ ps.Pairwise lexLe ∧ ps.length ≤ 100000) ∧ d = stD C (hullF [] ps)
abbrev N_hull : List Str := ["pairs", "rows", "k", "width", "height"]
theorem sc_hull : FnScope N_hull ["pairs"] (defScope (mth 10 1)) := ⟨rfl, rfl, rfl, by decide +kernel, rfl, by decide +kernel, by decide +kernel⟩
theorem ok_hull (b : Bt mg) {C : Addr} (c1 : C8.Cal P w K mg base 1 "hull_of" (spD K R_hull_of) []) (c2 : C8.Mak P w K mg base 2 "Stairs" C (spI K C RI_stairs) []) {f : Addr} {fd : FuncData} {qual : Str} (F : Fun K "hull" qual (mth 10 1) f fd) : FnOk P w K mg base CX0 4 f fd ["pairs"] (spD K (R_hull C)) := by
  refine fnD F sc_hull _ (fun ds d ⟨_, h, _⟩ => by rw [h]; rfl) fun cdv A outer s H E ds d hr hR => ?_
  obtain ⟨ps, rfl, ⟨hne, hpos, hps, hpl⟩, rfl⟩ := hR
  refine exd_cons (exs_setLcM (i := 1) (own := [("width", 3), ("height", 4)]) (l := ps) (en := prD) (fn := prD) rfl sc_hull.nd rfl rfl (evi_list (v 0)) (blkOk_by (N := N_hull) (sc := defScope (mth 10 1)) (by decide +kernel)) (by omega) (fun q hq => ?_) ?_ (sw_true rfl rfl rfl (by decide +kernel)))
  · exact ⟨_, by simp, fun s H C cl fp => tt (tgbs_cons (tn 3 sc_hull.nd) (tgbs_cons (tn 4 sc_hull.nd) tgbs_nil)) rfl, fun s H C cl' fp => evd_tup (ac (v 3) (a1 (v 4))) (by simp)⟩
  refine exd_cons (exs_if (evt_not (evt_truL (evl_of (v 1)))) (fun h => ?_) (fun h => exd_nil ?_))
  · cases ps with
    | nil => exact absurd rfl hne
    | cons q t => simp at h
  refine exd_cons (exs_for (fun i env => ∃ x y z : Cell, env = [.frz (.lst (pD ps)), .frz (.lst (pD ps)), x, y, z]) rfl (ienum b (v 1)) ⟨_, _, _, rfl⟩ (fun i d env1 hd hI => ?_) fun env1 hI => ?_)
  · obtain ⟨x, y, z, rfl⟩ := hI
    obtain ⟨q, hq, rfl⟩ := enum_get hd
    have hq' := hpos q (List.mem_of_getElem? hq)
    refine ⟨_, tt (tgbs_cons (tn 2 sc_hull.nd) (tgbs_cons (tt (tgbs_cons (tn 3 sc_hull.nd) (tgbs_cons (tn 4 sc_hull.nd) tgbs_nil)) rfl) tgbs_nil)) rfl, ?_⟩
    refine exd_cons (exs_if (evt_w (evw_or (evt_lt (v 3) evd_int) fun _ => evw_or1 (evt_lt (v 4) evd_int))) (fun h => ?_) (fun h => exd_nil (exd_nil ⟨_, _, _, rfl⟩)))
    simp at h
    omega
  · obtain ⟨x, y, z, rfl⟩ := hI
    have := hullF_len ps []
    refine exd_cons (exs_ret (evd_mk c2 hr (by decide) rfl (a1 (cl c1 hr (a1 (v 1)) ⟨ps, rfl, ⟨hps, hpl⟩, rfl⟩)) ⟨hullF [] ps, rfl, rfl, ⟨hull_st hne hpos hps, by simp at this; omega⟩, rfl⟩) rfl)
/-! ### place_at, height_at, __contains__ -/
abbrev cntW (ps : List (Int × Int)) (w : Int) : Nat := (ps.takeWhile fun q => decide (q.1 ≤ w)).length
def R_place_at (C : Addr) : List D → D → Prop := fun ds d => ∃ (ps : List (Int × Int)) (w : Int), ds = [stD C ps, .int w] ∧ d = if cntW ps w = 0 then .non else .int ((cntW ps w : Int) - 1)
abbrev N_place_at : List Str := ["self", "width", "found", "k", "wide", "_"]
theorem sc_place_at : FnScope N_place_at ["self", "width"] (defScope (mth 10 2)) := ⟨rfl, rfl, rfl, by decide +kernel, rfl, by decide +kernel, by decide +kernel⟩
theorem tw_le {α : Type} {p : α → Bool} {l : List α} {i : Nat} {x : α} (h : l[i]? = some x) (hp : p x = false) : (l.takeWhile p).length ≤ i := by
  induction l generalizing i with
  | nil => simp at h
  | cons a t ih =>
    rw [List.takeWhile_cons]
    cases i with
    | zero =>
      simp at h
      subst h
      rw [hp]
      simp
    | succ i =>
      split
      · have := ih (i := i) (by simpa using h)
        simpa using this
      · simp
theorem tw_ge {α : Type} {p : α → Bool} {l : List α} {i : Nat} (h : ∀ j x, j < i → l[j]? = some x → p x = true) (hi : i ≤ l.length) : i ≤ (l.takeWhile p).length := by
  induction l generalizing i with
  | nil => simp at hi; omega
  | cons a t ih =>
    rw [List.takeWhile_cons]
    cases i with
    | zero => omega
    | succ i =>
      rw [if_pos (h 0 a (by omega) rfl)]
      have := ih (i := i) (fun j x hj hx => h (j + 1) x (by omega) (by simpa using hx)) (by simpa using hi)
      simpa using this
theorem tw_len {α : Type} {p : α → Bool} {l : List α} : (l.takeWhile p).length ≤ l.length := (List.takeWhile_sublist p).length_le
theorem ok_place_at (b : Bt mg) {C : Addr} (T : StT K C) {f : Addr} {fd : FuncData} {qual : Str} (F : Fun K "place_at" qual (mth 10 2) f fd) : FnOk P w K mg base CX0 1 f fd ["self", "width"] (spD K (R_place_at C)) := by
  refine fnD F sc_place_at _ (fun ds d ⟨_, _, h, _⟩ => by rw [h]; rfl) fun cdv A outer s H E ds d hr hR => ?_
  obtain ⟨ps, w, rfl, rfl⟩ := hR
  refine exd_cons (sv 2 sc_place_at.nd evd_non ?_)
  refine exd_cons (exs_for (fun i env => ∃ x y z : Cell, env = [.frz (stD C ps), .frz (.int w), .frz (if i = 0 then .non else .int ((i : Int) - 1)), x, y, z] ∧ ∀ j q, j < i → ps[j]? = some q → q.1 ≤ w) rfl (ienumU b (evd_fld (v 0) T.cl T.nc rfl)) ⟨.junk, .junk, .junk, rfl, fun j q hj => by omega⟩ (fun i d env1 hd hI => ?_) fun env1 hI => ?_)
  · obtain ⟨x, y, z, rfl, hall⟩ := hI
    obtain ⟨q, hq, rfl⟩ := enum_get hd
    have hi := (List.getElem?_eq_some_iff.mp hq).1
    refine ⟨_, tt (tgbs_cons (tn 3 sc_place_at.nd) (tgbs_cons (tt (tgbs_cons (tn 4 sc_place_at.nd) (tgbs_cons (tn 5 sc_place_at.nd) tgbs_nil)) rfl) tgbs_nil)) rfl, ?_⟩
    refine exd_cons (exs_if (evt_gt (v 4) (v 1)) (fun h => exd_cons (exs_break ?_)) (fun h => exd_nil (exd_cons (sv 2 sc_place_at.nd (v 3) (exd_nil ?_)))))
    · rw [decide_eq_true_eq] at h
      have e : cntW ps w = i := by
        have h1 := tw_le (p := fun q : Int × Int => decide (q.1 ≤ w)) hq (by simp; omega)
        have h2 := tw_ge (p := fun q : Int × Int => decide (q.1 ≤ w)) (l := ps) (i := i) (fun j q hj hq => by simpa using hall j q hj hq) (by omega)
        unfold cntW
        omega
      refine exd_cons (exs_ret (v 2) ?_)
      rw [e]
    · rw [decide_eq_false_iff_not] at h
      refine ⟨.frz (.int (i : Nat)), .frz (.int q.1), .frz (.int q.2), ?_, fun j q' hj hq' => ?_⟩
      · have e : ((i + 1 : Nat) : Int) - 1 = i := by omega
        simp only [Nat.add_one_ne_zero, if_false]
        rw [e]
        exact rfl
      · rcases Nat.lt_or_ge j i with hl | hl
        · exact hall j q' hl hq'
        · have : j = i := by omega
          subst this
          rw [hq] at hq'
          cases hq'
          omega
  · obtain ⟨x, y, z, rfl, hall⟩ := hI
    simp only [List.length_map, List.length_zipIdx] at hall
    have e : cntW ps w = ps.length := by
      have h2 := tw_ge (p := fun q : Int × Int => decide (q.1 ≤ w)) (l := ps) (i := ps.length) (fun j q hj hq => by simpa using hall j q hj hq) (by omega)
      have := tw_len (p := fun q : Int × Int => decide (q.1 ≤ w)) (l := ps)
      unfold cntW
      omega
    refine exd_cons (exs_ret (v 2) ?_)
    rw [e]
    simp
def R_height_at (C : Addr) : List D → D → Prop := fun ds d => ∃ (ps : List (Int × Int)) (w : Int) (q : Int × Int), ds = [stD C ps, .int w] ∧ (cntW ps w ≠ 0 ∧ ps[cntW ps w - 1]? = some q) ∧ d = .int q.2
abbrev N_height_at : List Str := ["self", "width", "place"]
theorem sc_height_at : FnScope N_height_at ["self", "width"] (defScope (mth 10 3)) := ⟨rfl, rfl, rfl, by decide +kernel, rfl, by decide +kernel, by decide +kernel⟩
theorem ok_height_at (b : Bt mg) {C : Addr} (T : StT K C) (c1 : C8.Met P w K mg base 1 C "place_at" (spD K (R_place_at C)) []) {f : Addr} {fd : FuncData} {qual : Str} (F : Fun K "height_at" qual (mth 10 3) f fd) : FnOk P w K mg base CX0 2 f fd ["self", "width"] (spD K (R_height_at C)) := by
  refine fnD F sc_height_at _ (fun ds d ⟨_, _, _, h, _⟩ => by rw [h]; rfl) fun cdv A outer s H E ds d hr hR => ?_
  obtain ⟨ps, w, q, rfl, ⟨hn, hq⟩, rfl⟩ := hR
  refine exd_cons (sv 2 sc_height_at.nd (evd_mt c1 hr (by decide) (v 0) rfl (a1 (v 1)) ⟨ps, w, rfl, rfl⟩) ?_)
  rw [if_neg hn]
  refine exd_cons (exs_if (evt_isN (v 2) evd_non) (fun h => ?_) (fun h => exd_nil ?_))
  · cases h
  exact exd_cons (exs_ret (evd_ixU (evd_ixU (evd_fld (v 0) T.cl T.nc rfl) (v 2) (d := prD q) (at_int (j := cntW ps w - 1) (by omega) (by rw [List.getElem?_map, hq]; rfl))) evd_int rfl) rfl)
def R_contains (C : Addr) : List D → D → Prop := fun ds d => ∃ (ps : List (Int × Int)) (w h : Int), ds = [stD C ps, .tup [.int w, .int h]] ∧ d = .bl (ps.any fun q => decide (q.1 ≤ w) && decide (q.2 ≤ h))
abbrev N_contains : List Str := ["self", "room", "width", "height", "wide", "high"]
theorem sc_contains : FnScope N_contains ["self", "room"] (defScope (mth 10 9)) := ⟨rfl, rfl, rfl, by decide +kernel, rfl, by decide +kernel, by decide +kernel⟩
theorem ok_contains (b : Bt mg) {C : Addr} (T : StT K C) {f : Addr} {fd : FuncData} {qual : Str} (F : Fun K "__contains__" qual (mth 10 9) f fd) : FnOk P w K mg base CX0 1 f fd ["self", "room"] (spD K (R_contains C)) := by
  refine fnD F sc_contains _ (fun ds d ⟨_, _, _, h, _⟩ => by rw [h]; rfl) fun cdv A outer s H E ds d hr hR => ?_
  obtain ⟨ps, w, h, rfl, rfl⟩ := hR
  refine exd_cons (exs_asg (v 1) (tt (tgbs_cons (tn 2 sc_contains.nd) (tgbs_cons (tn 3 sc_contains.nd) tgbs_nil)) rfl) ?_)
  refine exd_cons (exs_for (fun i env => ∃ x y : Cell, env = [.frz (stD C ps), .frz (.tup [.int w, .int h]), .frz (.int w), .frz (.int h), x, y] ∧ ((ps.take i).any fun q => decide (q.1 ≤ w) && decide (q.2 ≤ h)) = false) rfl (evi_tup (evd_fld (v 0) T.cl T.nc rfl)) ⟨.junk, .junk, rfl, by simp⟩ (fun i d env1 hd hI => ?_) fun env1 hI => ?_)
  · obtain ⟨x, y, rfl, hall⟩ := hI
    obtain ⟨q, hq, rfl⟩ := map_get hd
    refine ⟨_, tt (tgbs_cons (tn 4 sc_contains.nd) (tgbs_cons (tn 5 sc_contains.nd) tgbs_nil)) rfl, ?_⟩
    refine exd_cons (exs_if (evt_w (evw_and (evt_le (v 4) (v 2)) fun _ => evw_and1 (evt_le (v 5) (v 3)))) (fun hh => exd_cons (exs_ret evd_bl ?_)) (fun hh => exd_nil (exd_nil ⟨.frz (.int q.1), .frz (.int q.2), rfl, ?_⟩)))
    · have : (ps.any fun q => decide (q.1 ≤ w) && decide (q.2 ≤ h)) = true := List.any_eq_true.mpr ⟨q, List.mem_of_getElem? hq, hh⟩
      rw [this]
    · rw [take_snoc hq, List.any_append, hall]
      simpa using hh
  · obtain ⟨x, y, rfl, hall⟩ := hI
    rw [List.length_map, List.take_length] at hall
    exact exd_cons (exs_ret evd_bl (by rw [hall]))
end
end Dt
set_option maxHeartbeats 2000000
namespace Dt
open PySem PySem.Spec PyProof.Rows L2
section
variable {P : Program} {w : World} {K : PySem.W.Frag} {mg : Str → Option Value} {base : Heap}
/-- a staticmethod that may be called through its class -/
structure SCal (P : Program) (w : World) (K : PySem.W.Frag) (mg : Str → Option Value) (base : Heap) (k : Nat) (C : Addr) (m : Str) (R : List D → D → Prop) : Prop where
  ex : ∃ (mc : Value) (p g : Addr) (fd : FuncData) (ps : List Str), ClX.CRead K C mc ∧ SMet K C mc m p g ∧ FnOk P w K mg base CX0 k g fd ps (spD K R) ∧ Binds K fd ps []
theorem scl {X : Cx} {C : Addr} {k j : Nat} {m : Str} {R : List D → D → Prop} {e o : Expr} {es : List Expr} {env : CEnv} {ds : List D} {d : D} {pos apos : Pos} {pl : Sem Bool} (c : SCal X.prog X.w X.K X.mg X.base k C m R) (hr : Room j X.A) (hk : k ≤ j) (ho : EvD X o env (.cls C)) (ha : EvA X (e :: es) env ds) (h : R ds d)
    (hst : starEach (e :: es) X.env = (false, eval e X.env) :: starEach es X.env := by rfl) (hpl : (backTo pos (starEach es X.env)).any (·.1) = false := by rfl)
    (ht : eval (.Call (.Attribute o m apos) (e :: es) [] pos) X.env = (do
      let ov ← eval o X.env
      standAt apos.atName
      let (f, first) ← holding [ov] (getMethod ov m pl)
      callWith pos f first (backTo pos (starEach (e :: es) X.env)) (backToKw pos (keywordEach [] X.env))) := by rfl) : EvD X (.Call (.Attribute o m apos) (e :: es) [] pos) env d := by
  obtain ⟨mc, p, g, fd, ps, cr, sm, F, b⟩ := c.ex
  exact evd_smeth (pl := pl) ho cr sm F (hr.mono hk) b pass0 ha h hst hpl ht
/-- a class of the module, by its name -/
theorem gcls {X : Cx} {C : Addr} {x : Str} {env : CEnv} {pos : Pos} (hm : X.mg x = some (.ref C)) (hg : Gl X x := by rfl) (hd : (x == ("__debug__" : Str)) = false := by decide) : EvD X (.Name x pos) env (.cls C) := evd_glob (v := .ref C) hg hm rfl (fun _ => .cls C) hd
/-! ### worst_stairs -/
theorem linesAfter_nonneg {n f l w : Int} (hn : 0 ≤ n) (h : n ≠ 0 → 1 ≤ w) : 0 ≤ linesAfter n f l w := by
  unfold linesAfter
  split
  · omega
  · rename_i h0
    have hw := h h0
    split
    · refine Int.ediv_nonneg ?_ ?_
      · omega
      · omega
    · split
      · omega
      · have := Int.ediv_nonneg (a := 2 * n - 1 - max f 1) (b := w) (by omega) (by omega)
        omega
abbrev wsN (n l : Int) : Nat := (max (2 * n) 1 - min n l).toNat
def wsP (n l : Int) : List (Int × Int) := (List.range (wsN n l)).map fun (k : Nat) => (min n l + k, linesAfter n 0 l (min n l + k))
theorem wsP_ok {n l : Int} (hn : 0 ≤ n) (hn2 : n ≤ 400) (hl : 1 ≤ l) : wsP n l ≠ [] ∧ (∀ q ∈ wsP n l, 0 ≤ q.1 ∧ 0 ≤ q.2) ∧ (wsP n l).Pairwise lexLe ∧ (wsP n l).length ≤ 100000 := by
  refine ⟨fun z => ?_, fun q hq => ?_, ?_, by simp [wsP, wsN]; omega⟩
  · have := congrArg List.length z
    simp [wsP, wsN] at this
    omega
  · simp only [wsP, List.mem_map, List.mem_range] at hq
    obtain ⟨k, hk, rfl⟩ := hq
    refine ⟨by show 0 ≤ min n l + (k : Int); omega, linesAfter_nonneg hn fun h => by omega⟩
  · unfold wsP
    rw [List.pairwise_map]
    refine List.Pairwise.imp (fun {a b} hab => ?_) (List.pairwise_lt_range (n := wsN n l))
    unfold lexLe
    omega
def R_worst_stairs (C : Addr) : List D → D → Prop := fun ds d => ∃ n l : Int, ds = [.int n, .int l] ∧ (0 ≤ n ∧ n ≤ 400 ∧ 1 ≤ l ∧ l ≤ 400) ∧ d = stD C (hullF [] (wsP n l))
abbrev N_worst_stairs : List Str := ["letters", "longest", "widths", "width"]
theorem sc_worst_stairs : FnScope N_worst_stairs ["letters", "longest"] (defScope (top 30)) := ⟨rfl, rfl, rfl, by decide +kernel, rfl, by decide +kernel, by decide +kernel⟩
theorem ok_worst_stairs (b : Bt mg) {C : Addr} (hC : mg "Stairs" = some (.ref C)) (c1 : C8.Cal P w K mg base 2 "worst_lines" (spD K R_worst_lines) []) (c2 : SCal P w K mg base 4 C "hull" (R_hull C)) {f : Addr} {fd : FuncData} (F : Fun K "worst_stairs" "worst_stairs" (top 30) f fd) : FnOk P w K mg base CX0 5 f fd ["letters", "longest"] (spD K (R_worst_stairs C)) := by
  refine fnD F sc_worst_stairs _ (fun ds d ⟨_, _, h, _⟩ => by rw [h]; rfl) fun cdv A outer s H E ds d hr hR => ?_
  obtain ⟨n, l, rfl, hp, rfl⟩ := hR
  refine exd_cons (sv 2 sc_worst_stairs.nd (brange2 b (bmin b (v 0) (v 1)) (bmax b (evd_mul evd_int (v 0) (by unfold CMul; omega)) evd_int)) ?_)
  refine exd_cons (exs_ret (scl c2 hr (by decide) (gcls hC) (a1 (EvD.to (evd_lcM (own := [("width", 3)]) (l := List.range (wsN n l)) (en := fun (k : Nat) => D.int (min n l + k)) (fn := fun (k : Nat) => prD (min n l + k, linesAfter n 0 l (min n l + k))) rfl sc_worst_stairs.nd ?_ (blkOk_by (N := N_worst_stairs) (sc := defScope (top 30)) (by decide +kernel)) (by simp [wsN]; omega) ?_) ?_)) ⟨wsP n l, rfl, wsP_ok hp.1 hp.2.1 hp.2.2.1, rfl⟩) rfl)
  · exact EvI.to (evi_rng (v 2) (by omega)) rfl
  · intro k hk
    rw [List.mem_range] at hk
    unfold wsN at hk
    exact ⟨[(3, .int (min n l + k))], by simp, fun s H C cl fp => tn 3 sc_worst_stairs.nd, fun s H C cl' fp => evd_tup (ac (v 3) (a1 (cl c1 hr (ac (v 0) (ac (v 1) (a1 (v 3)))) ⟨n, l, _, rfl, by unfold preA; omega, rfl⟩))) (by simp)⟩
  · simp [wsP, pD]
/-! ### letters_for -/
structure AtC (K : PySem.W.Frag) (mg : Str → Option Value) (C : Addr) : Prop where
  mgc : mg "AnyText" = some (.ref C)
  cr : ∃ mc, ClX.CRead K C mc ∧ (∃ u, ClX.CVal K C mc "MOST_LETTERS" (.int 60) u) ∧ ∃ u, ClX.CVal K C mc "MOST_LONGEST" (.int 20) u
theorem mostL {X : Cx} {C : Addr} {env : CEnv} {pos p : Pos} (T : AtC X.K X.mg C) (hg : Gl X "AnyText" := by rfl) (hb : attributeBase (.Name "AnyText" p) "MOST_LETTERS" X.env (eval (.Name "AnyText" p) X.env) = eval (.Name "AnyText" p) X.env := by rfl) : EvD X (.Attribute (.Name "AnyText" p) "MOST_LETTERS" pos) env (.int 60) := by
  obtain ⟨mc, h1, ⟨u, h2⟩, _⟩ := T.cr
  exact evd_cval (gcls T.mgc hg) h1 h2 (fun _ => .int 60) hb
theorem mostG {X : Cx} {C : Addr} {env : CEnv} {pos p : Pos} (T : AtC X.K X.mg C) (hg : Gl X "AnyText" := by rfl) (hb : attributeBase (.Name "AnyText" p) "MOST_LONGEST" X.env (eval (.Name "AnyText" p) X.env) = eval (.Name "AnyText" p) X.env := by rfl) : EvD X (.Attribute (.Name "AnyText" p) "MOST_LONGEST" pos) env (.int 20) := by
  obtain ⟨mc, h1, _, ⟨u, h2⟩⟩ := T.cr
  exact evd_cval (gcls T.mgc hg) h1 h2 (fun _ => .int 20) hb
def lettersFor (l w h : Int) : Int := min (if w < l then min (if l = 1 then (w + 1) / 2 * h else (w * h + 1) / 2) w else (if l = 1 then (w + 1) / 2 * h else (w * h + 1) / 2)) 60
def R_letters_for : List D → D → Prop := fun ds d => ∃ l wd h : Int, ds = [.int l, .int wd, .int h] ∧ (0 ≤ wd ∧ wd ≤ 1000 ∧ 0 ≤ h ∧ h ≤ 1000) ∧ d = .int (lettersFor l wd h)
abbrev N_letters_for : List Str := ["longest", "width", "height", "letters"]
theorem sc_letters_for : FnScope N_letters_for ["longest", "width", "height"] (defScope (top 31)) := ⟨rfl, rfl, rfl, by decide +kernel, rfl, by decide +kernel, by decide +kernel⟩
theorem ok_letters_for (b : Bt mg) {C : Addr} (T : AtC K mg C) {f : Addr} {fd : FuncData} (F : Fun K "letters_for" "letters_for" (top 31) f fd) : FnOk P w K mg base CX0 1 f fd ["longest", "width", "height"] (spD K R_letters_for) := by
  refine fnD F sc_letters_for _ (fun ds d ⟨_, _, _, h, _⟩ => by rw [h]; rfl) fun cdv A outer s H E ds d hr hR => ?_
  obtain ⟨l, wd, h, rfl, hp, rfl⟩ := hR
  refine exd_join (fun env' => env' = [.frz (.int l), .frz (.int wd), .frz (.int h), .frz (.int (if l = 1 then (wd + 1) / 2 * h else (wd * h + 1) / 2))]) (exs_if (evt_eq (v 0) evd_int (.int _ _)) (fun h1 => exd_cons (sv 3 sc_letters_for.nd (evd_mul (evd_fdiv (evd_add (v 1) evd_int) evd_int (by unfold CDiv; omega)) (v 2) (by unfold CMul; omega)) (exd_nil ?_))) (fun h1 => exd_cons (sv 3 sc_letters_for.nd (evd_fdiv (evd_add (evd_mul (v 1) (v 2) (by unfold CMul; omega)) evd_int) evd_int (by unfold CDiv; omega)) (exd_nil ?_)))) ?_
  · rw [beq_iff_eq] at h1
    rw [if_pos h1]
    rfl
  · rw [if_neg (by simpa using h1)]
    rfl
  rintro _ rfl
  refine exd_join (fun env' => env' = [.frz (.int l), .frz (.int wd), .frz (.int h), .frz (.int (if wd < l then min (if l = 1 then (wd + 1) / 2 * h else (wd * h + 1) / 2) wd else (if l = 1 then (wd + 1) / 2 * h else (wd * h + 1) / 2)))]) (exs_if (evt_lt (v 1) (v 0)) (fun h1 => exd_cons (sv 3 sc_letters_for.nd (bmin b (v 3) (v 1)) (exd_nil ?_))) (fun h1 => exd_nil ?_)) ?_
  · rw [decide_eq_true_eq] at h1
    rw [if_pos h1]
    rfl
  · rw [decide_eq_false_iff_not] at h1
    rw [if_neg h1]
  rintro _ rfl
  exact exd_cons (exs_ret (bmin b (v 3) (mostL T)) rfl)
end
end Dt
set_option maxHeartbeats 2000000
namespace Dt
open PySem PySem.Spec PyProof.Rows L2
section
variable {P : Program} {w : World} {K : PySem.W.Frag} {mg : Str → Option Value} {base : Heap}
abbrev LET : Str := "abcdefghijklmnopqrstuvwxyz0123456789"
structure Gb (mg : Str → Option Value) : Prop where
  letters : ∃ t, mg "LETTERS" = some (.str LET t)
  most_letters : ∃ t, mg "MOST_LETTERS" = some (.int 40 t)
  most_words : ∃ t, mg "MOST_WORDS" = some (.int 60 t)
theorem gint {X : Cx} {x : Str} {i : Int} {env : CEnv} {pos : Pos} (hm : ∃ t, X.mg x = some (.int i t)) (hg : Gl X x := by rfl) (hd : (x == ("__debug__" : Str)) = false := by decide) : EvD X (.Name x pos) env (.int i) := by
  obtain ⟨t, hm⟩ := hm
  exact evd_glob (v := .int i) hg hm ⟨t, rfl⟩ (fun _ => .int i) hd
theorem gstr {X : Cx} {x i : Str} {env : CEnv} {pos : Pos} (hm : ∃ t, X.mg x = some (.str i t)) (hg : Gl X x := by rfl) (hd : (x == ("__debug__" : Str)) = false := by decide) : EvD X (.Name x pos) env (.str i) := by
  obtain ⟨t, hm⟩ := hm
  exact evd_glob (v := .str i) hg hm ⟨t, rfl⟩ (fun _ => .str i) hd
/-! ### check_words -/
abbrev wsD (ws : List Str) : List D := ws.map D.str
structure VW (t : Str) : Prop where
  pos : 0 < t.length
  le : t.length ≤ 40
  let_ : ∀ c ∈ t.cps.toList, c ∈ LET.cps.toList
def R_check_words : List D → D → Prop := fun ds d => ∃ ws : List Str, ds = [.lst (wsD ws)] ∧ (ws.length ≤ 60 ∧ ∀ t ∈ ws, VW t) ∧ d = .non
abbrev N_check_words : List Str := ["words", "k", "word", "letter"]
theorem sc_check_words : FnScope N_check_words ["words"] (defScope (top 15)) := ⟨rfl, rfl, rfl, by decide +kernel, rfl, by decide +kernel, by decide +kernel⟩
theorem ok_check_words (b : Bt mg) (g : Gb mg) {f : Addr} {fd : FuncData} (F : Fun K "check_words" "check_words" (top 15) f fd) : FnOk P w K mg base CX0 1 f fd ["words"] (spD K R_check_words) := by
  refine fnD F sc_check_words _ (fun ds d ⟨_, h, _⟩ => by rw [h]; rfl) fun cdv A outer s H E ds d hr hR => ?_
  obtain ⟨ws, rfl, ⟨hl, hw⟩, rfl⟩ := hR
  refine exd_cons (exs_if (evt_gt (blen b (evl_of (v 0))) (gint g.most_words)) (fun h => ?_) (fun h => exd_nil ?_))
  · rw [decide_eq_true_eq, List.length_map] at h
    omega
  refine exd_cons (exs_for (fun i env => ∃ x y z : Cell, env = [.frz (.lst (wsD ws)), x, y, z]) rfl (ienum b (v 0)) ⟨_, _, _, rfl⟩ (fun i d env1 hd hI => ?_) fun env1 hI => exd_nil rfl)
  obtain ⟨x, y, z, rfl⟩ := hI
  obtain ⟨t, ht, rfl⟩ := enum_get hd
  have hv := hw t (List.mem_of_getElem? ht)
  refine ⟨_, tt (tgbs_cons (tn 1 sc_check_words.nd) (tgbs_cons (tn 2 sc_check_words.nd) tgbs_nil)) rfl, ?_⟩
  refine exd_cons (exs_if (evt_not (evt_lt_le evd_int (blenS b (v 2) (by have := hv.le; omega)) (gint g.most_letters))) (fun h => ?_) (fun h => exd_nil ?_))
  · have h1 := hv.pos
    have h2 := hv.le
    simp only [Bool.not_eq_true', Bool.and_eq_false_iff, decide_eq_false_iff_not] at h
    omega
  refine exd_cons (exs_for (fun j env => ∃ z : Cell, env = [.frz (.lst (wsD ws)), .frz (.int (i : Nat)), .frz (.str t), z]) rfl (evi_str (v 2)) ⟨_, rfl⟩ (fun j d env1 hd hI => ?_) fun env1 hI => ?_)
  · obtain ⟨z, rfl⟩ := hI
    obtain ⟨c, hc, rfl⟩ := map_get hd
    refine ⟨_, tn 3 sc_check_words.nd, ?_⟩
    refine exd_cons (exs_if (evt_notInS (v 3) (gstr g.letters)) (fun h => ?_) (fun h => exd_nil (exd_nil ⟨_, rfl⟩)))
    have := hv.let_ c (List.mem_of_getElem? hc)
    simp [this] at h
  · obtain ⟨z, rfl⟩ := hI
    exact exd_nil ⟨_, _, _, rfl⟩
/-! ### break_lines -/
abbrev SP : Str := " "
def brkS (wd : Int) (ls : List Str) (t : Str) : List Str := match ls.getLast? with
  | none => ls ++ [t]
  | some l => if (l.length : Int) + 1 + t.length ≤ wd then ls.dropLast ++ [l ++ SP ++ t] else ls ++ [t]
def brk (wd : Int) (ws : List Str) : List Str := ws.foldl (brkS wd) []
theorem len_app (a c : Str) : (a ++ c).length = a.length + c.length := by
  show (a.cps ++ c.cps).size = _
  rw [Array.size_append]
  rfl
theorem brk_snoc (wd : Int) (ws : List Str) (t : Str) : brk wd (ws ++ [t]) = brkS wd (brk wd ws) t := by
  unfold brk
  rw [List.foldl_append]
  rfl
theorem brkS_len {wd : Int} {ls : List Str} {t : Str} {M : Nat} (h : ∀ l ∈ ls, l.length ≤ M) (ht : t.length ≤ M) (hM : wd ≤ M) : ∀ l ∈ brkS wd ls t, l.length ≤ M := by
  intro l hl
  unfold brkS at hl
  split at hl
  · rcases List.mem_append.mp hl with hl | hl
    · exact h l hl
    · rw [List.mem_singleton.mp hl]
      exact ht
  · split at hl
    · rename_i l0 hl0 hle
      rcases List.mem_append.mp hl with hl | hl
      · exact h l (List.dropLast_subset _ hl)
      · rw [List.mem_singleton.mp hl, len_app, len_app]
        have e : SP.length = 1 := by decide
        omega
    · rcases List.mem_append.mp hl with hl | hl
      · exact h l hl
      · rw [List.mem_singleton.mp hl]
        exact ht
theorem brk_len {wd : Int} {M : Nat} (hM : wd ≤ M) {ws : List Str} (h : ∀ t ∈ ws, t.length ≤ M) : ∀ l ∈ brk wd ws, l.length ≤ M := by
  have key : ∀ (us ls : List Str), (∀ l ∈ ls, l.length ≤ M) → (∀ t ∈ us, t.length ≤ M) → ∀ l ∈ us.foldl (brkS wd) ls, l.length ≤ M := by
    intro us
    induction us with
    | nil => intro ls h1 _ l hl; exact h1 l hl
    | cons t us ih => intro ls h1 h2; exact ih _ (brkS_len h1 (h2 t List.mem_cons_self) hM) fun x hx => h2 x (List.mem_cons_of_mem _ hx)
  exact key ws [] (fun _ z => by cases z) h
theorem brk_count (wd : Int) (ws : List Str) : (brk wd ws).length ≤ ws.length := by
  have key : ∀ (us ls : List Str), (us.foldl (brkS wd) ls).length ≤ ls.length + us.length := by
    intro us
    induction us with
    | nil => intro ls; simp
    | cons t us ih =>
      intro ls
      have h1 := ih (brkS wd ls t)
      have h2 : (brkS wd ls t).length ≤ ls.length + 1 := by
        unfold brkS
        split
        · simp
        · split
          · simp
          · simp
      rw [List.foldl_cons, List.length_cons]
      omega
  have := key ws []
  simpa [brk] using this
def SeqD (c : D) (ds : List D) : Prop := c = .lst ds ∨ c = .tup ds
theorem ienumS {X : Cx} {e : Expr} {env : CEnv} {pos p tpos : Pos} {elts : List Expr} {kk : Nat} {c : D} {ds : List D} (b : Bt X.mg) (he : EvD X e env c) (h : SeqD c ds) (hg : Gl X "enumerate" := by rfl) (hs : starEach [e] X.env = [(false, eval e X.env)] := by rfl) : EvI X (.Tuple elts kk tpos) (.Call (.Name "enumerate" p) [e] [] pos) env (ds.zipIdx.map fun x => .tup [.int (x.2 : Nat), x.1]) := by
  rcases h with rfl | rfl
  · exact ienum b he hg hs
  · exact ienumU b he hg hs
theorem iseq {X : Cx} {tg e : Expr} {env : CEnv} {c : D} {ds : List D} (he : EvD X e env c) (h : SeqD c ds) : EvI X tg e env ds := by
  rcases h with rfl | rfl
  · exact evi_list he
  · exact evi_tup he
def R_break_lines : List D → D → Prop := fun ds d => ∃ (c : D) (ws : List Str) (wd : Int), ds = [c, .int wd] ∧ (SeqD c (wsD ws) ∧ wd ≤ 10000 ∧ ws.length ≤ 10000 ∧ ∀ t ∈ ws, (t.length : Int) ≤ wd) ∧ d = .lst (wsD (brk wd ws))
abbrev N_break_lines : List Str := ["words", "width", "k", "word", "lines"]
theorem sc_break_lines : FnScope N_break_lines ["words", "width"] (defScope (top 16)) := ⟨rfl, rfl, rfl, by decide +kernel, rfl, by decide +kernel, by decide +kernel⟩
theorem ixN_last {n : Nat} (h : 0 < n) : ixN n (-1) = some (n - 1) := by
  unfold ixN
  rw [if_neg (by omega), if_pos (by omega)]
  congr 1
  omega
theorem ok_break_lines (b : Bt mg) {f : Addr} {fd : FuncData} (F : Fun K "break_lines" "break_lines" (top 16) f fd) : FnOk P w K mg base CX0 1 f fd ["words", "width"] (spD K R_break_lines) := by
  refine fnD F sc_break_lines _ (fun ds d ⟨_, _, _, h, _⟩ => by rw [h]; rfl) fun cdv A outer s H E ds d hr hR => ?_
  obtain ⟨c, ws, wd, rfl, ⟨hc, hwd, hl, hw⟩, rfl⟩ := hR
  refine exd_cons (exs_for (fun i env => ∃ x y z : Cell, env = [.frz c, .frz (.int wd), x, y, z]) rfl (ienumS b (v 0) hc) ⟨_, _, _, rfl⟩ (fun i d env1 hd hI => ?_) fun env1 hI => ?_)
  · obtain ⟨x, y, z, rfl⟩ := hI
    obtain ⟨t, ht, rfl⟩ := enum_get hd
    have hv := hw t (List.mem_of_getElem? ht)
    refine ⟨_, tt (tgbs_cons (tn 2 sc_break_lines.nd) (tgbs_cons (tn 3 sc_break_lines.nd) tgbs_nil)) rfl, ?_⟩
    refine exd_cons (exs_if (evt_gt (blenS b (v 3) (by omega)) (v 1)) (fun h => ?_) (fun h => exd_nil (exd_nil ⟨_, _, _, rfl⟩)))
    rw [decide_eq_true_eq] at h
    omega
  obtain ⟨x, y, z, rfl⟩ := hI
  refine exd_cons (sM 4 sc_break_lines.nd eva_nil ?_)
  refine exd_cons (exs_for (fun i env => ∃ y : Cell, env = [.frz c, .frz (.int wd), x, y, .own (wsD (brk wd (ws.take i)))]) rfl (iseq (v 0) hc) ⟨_, rfl⟩ (fun i d env1 hd hI => ?_) fun env1 hI => ?_)
  · obtain ⟨y, rfl⟩ := hI
    obtain ⟨t, ht, rfl⟩ := map_get hd
    have hv := hw t (List.mem_of_getElem? ht)
    have hi := (List.getElem?_eq_some_iff.mp ht).1
    have hlen := brk_len (M := 10000) (by omega) (ws := ws.take i) (fun t ht => by have := hw t (List.mem_of_mem_take ht); omega)
    have hcnt := brk_count wd (ws.take i)
    rw [List.length_take] at hcnt
    refine ⟨_, tn 3 sc_break_lines.nd, ?_⟩
    cases hk : (brk wd (ws.take i)).getLast? with
    | none =>
      have hn : brk wd (ws.take i) = [] := List.getLast?_eq_none_iff.mp hk
      refine exd_cons (exs_if (evt_w (evw_and (l := false) (evt_truL (lv 4)) fun z => ?_)) (fun h => ?_) (fun h => exd_cons (ap 4 (v 3) (exd_nil (exd_nil ⟨.frz (.str t), ?_⟩)) ?_)))
      · rw [hn] at z
        simp at z
      · simp at h
      · rw [take_snoc ht, brk_snoc]
        unfold brkS
        rw [hk]
        show [_, _, _, _, Cell.own (wsD (brk wd (ws.take i)) ++ [.str t])] = _
        simp [wsD]
      · rw [List.length_map]
        omega
    | some l =>
      have hll := hlen l (List.mem_of_getLast? hk)
      have hlast : ∀ ds : List D, ds = wsD (brk wd (ws.take i)) → L2.atI ds (-1) = some (.str l) := fun ds e => at_last (by rw [e, List.getLast?_map, hk]; rfl)
      have hpos : 0 < (brk wd (ws.take i)).length := by
        cases hh : brk wd (ws.take i) with
        | nil => rw [hh] at hk; cases hk
        | cons a t => simp
      refine exd_cons (exs_if (evt_w (evw_and (evt_truL (lv 4)) fun z => evw_and1 (evt_le (evd_add (evd_add (blenS b (evd_ixL (lv 4) (ng evd_int) (hlast _ rfl)) (by omega)) evd_int) (blenS b (v 3) (by omega))) (v 1)))) (fun h => ?_) (fun h => ?_))
      · have h2 : (l.length : Int) + 1 + t.length ≤ wd := by
          simp only [Bool.and_eq_true, decide_eq_true_eq] at h
          exact h.2
        refine exd_cons (exs_setItem 4 (d := .str (l ++ SP ++ t)) (n := -1) (j := (brk wd (ws.take i)).length - 1) rfl rfl (.inl rfl) (evd_addS (evd_addS (evd_ixL (lv 4) (ng evd_int) (hlast _ rfl)) evd_str ?_) (v 3) ?_) (ng evd_int) ?_ (exd_nil (exd_nil ⟨.frz (.str t), ?_⟩)))
        · have e : SP.length = 1 := by decide
          show l.length + SP.length ≤ _
          omega
        · rw [len_app]
          have e : SP.length = 1 := by decide
          show l.length + SP.length + _ ≤ _
          omega
        · rw [List.length_map]
          exact ixN_last hpos
        · rw [take_snoc ht, brk_snoc]
          unfold brkS
          rw [hk]
          show [_, _, _, _, Cell.own ((wsD (brk wd (ws.take i))).set _ _)] = _
          have e : (wsD (brk wd (ws.take i))).set ((brk wd (ws.take i)).length - 1) (.str (l ++ SP ++ t)) = wsD ((brk wd (ws.take i)).dropLast ++ [l ++ SP ++ t]) := by
            rcases snoc_cases (brk wd (ws.take i)) with e | ⟨m, x, e⟩
            · rw [e] at hpos; cases hpos
            · rw [e]
              simp [wsD, List.set_append]
          rw [e]
          simp only [if_pos h2]
      · have h2 : ¬ (l.length : Int) + 1 + t.length ≤ wd := by
          intro z
          have h3 : (!(wsD (brk wd (ws.take i))).isEmpty) = true := by
            cases hh : brk wd (ws.take i) with
            | nil => rw [hh] at hpos; cases hpos
            | cons a t => simp
          rw [h3] at h
          simp at h
          omega
        refine exd_cons (ap 4 (v 3) (exd_nil (exd_nil ⟨.frz (.str t), ?_⟩)) ?_)
        · rw [take_snoc ht, brk_snoc]
          unfold brkS
          rw [hk]
          show [_, _, _, _, Cell.own (wsD (brk wd (ws.take i)) ++ [.str t])] = _
          simp only [if_neg h2]
          simp [wsD]
        · rw [List.length_map]
          omega
  · obtain ⟨y, rfl⟩ := hI
    rw [List.length_map, List.take_length]
    exact exd_freeze 4 rfl (exd_cons (exs_ret (v 4) rfl))
end
end Dt
set_option maxHeartbeats 2000000
namespace Dt
open PySem PySem.Spec PyProof.Rows L2
section
variable {P : Program} {w : World} {K : PySem.W.Frag} {mg : Str → Option Value} {base : Heap}
/-! ### next_width -/
def hd1 (s : Str) : Str := (Txt.split s SP).headD Str.empty
def cand (ls : List Str) : List Int := (ls.zip (ls.drop 1)).map fun p => (p.1.length : Int) + 1 + (hd1 p.2).length
def IsNW (ls : List Str) (m : Int) : Prop := m ∈ cand ls ∧ ∀ y ∈ cand ls, m ≤ y
def R_next_width : List D → D → Prop := fun ds d => ∃ (ls : List Str) (m : Int), ds = [.lst (wsD ls)] ∧ (ls.length ≤ 10000 ∧ (∀ l ∈ ls, l.length ≤ 10000) ∧ IsNW ls m) ∧ d = .int m
abbrev N_next_width : List Str := ["lines", "line", "after"]
theorem sc_next_width : FnScope N_next_width ["lines"] (defScope (top 17)) := ⟨rfl, rfl, rfl, by decide +kernel, rfl, by decide +kernel, by decide +kernel⟩
theorem zip_str (ls : List Str) : ((wsD ls).zip ((wsD ls).drop 1)).map (fun x => D.tup [x.1, x.2]) = (ls.zip (ls.drop 1)).map fun p => D.tup [.str p.1, .str p.2] := by
  rw [← List.map_drop, List.zip_map, List.map_map]
  rfl
theorem split_hd (s : Str) : (Txt.split s SP).head? = some (hd1 s) := by
  have h := split_pos s SP
  unfold hd1
  cases hh : Txt.split s SP with
  | nil => rw [hh] at h; simp at h
  | cons a t => rfl
theorem ok_next_width (b : Bt mg) {f : Addr} {fd : FuncData} (F : Fun K "next_width" "next_width" (top 17) f fd) : FnOk P w K mg base CX0 1 f fd ["lines"] (spD K R_next_width) := by
  refine fnD F sc_next_width _ (fun ds d ⟨_, _, h, _⟩ => by rw [h]; rfl) fun cdv A outer s H E ds d hr hR => ?_
  obtain ⟨ls, m, rfl, ⟨hl, hw, hm⟩, rfl⟩ := hR
  refine exd_cons (exs_ret (bminL (ns := cand ls) b (evl_of (EvD.to (evd_lcM (own := [("line", 1), ("after", 2)]) (l := ls.zip (ls.drop 1)) (en := fun p => D.tup [.str p.1, .str p.2]) (fn := fun p => D.int ((p.1.length : Int) + 1 + (hd1 p.2).length)) rfl sc_next_width.nd (EvI.to (evi_zip rfl b.zip (v 0) (evd_slFromL (n := 1) (evl_of (v 0)) evd_int)) (zip_str ls)) (blkOk_by (N := N_next_width) (sc := defScope (top 17)) (by decide +kernel)) (by simp; omega) ?_) ?_)) hm.1 hm.2) rfl)
  · rintro ⟨x, y⟩ hp
    obtain ⟨h1, h2⟩ := List.of_mem_zip hp
    have hx : x.length ≤ 10000 := hw x h1
    have hy : y.length ≤ 10000 := hw y (List.mem_of_mem_drop h2)
    refine ⟨_, by simp, fun s H C cl fp => tt (tgbs_cons (tn 1 sc_next_width.nd) (tgbs_cons (tn 2 sc_next_width.nd) tgbs_nil)) rfl, fun s H C cl' fp => ?_⟩
    have hh : (hd1 y).length ≤ 1000000 := by
      have hm : hd1 y ∈ Txt.split y SP := List.mem_of_mem_head? (by rw [split_hd]; rfl)
      have := part_short hm
      omega
    exact evd_add (evd_add (blenS (t := x) b (v 1) (by omega)) evd_int) (blenS b (evd_ixL (evl_of (evd_split (t := y) (v 2) evd_str (by decide) (by omega))) evd_int (d := .str (hd1 y)) (at_nat (j := 0) (by rw [List.getElem?_map, ← List.head?_eq_getElem?, split_hd]; rfl))) hh)
  · simp [cand, dInts]

/-! ### words_stairs -/
abbrev nL (wd : Int) (ws : List Str) : Int := ((brk wd ws).length : Nat)
inductive WP (ws : List Str) : Int → List (Int × Int) → Prop
  | last {wd : Int} : ¬ 1 < (brk wd ws).length → WP ws wd [(wd, nL wd ws)]
  | step {wd m : Int} {t : List (Int × Int)} : 1 < (brk wd ws).length → IsNW (brk wd ws) m → wd ≤ m → m ≤ 10000 → WP ws m t → WP ws wd ((wd, nL wd ws) :: t)
/-- st: the corners of the words' stairs -/
def WShape (ws : List Str) (st : List (Int × Int)) : Prop := (ws = [] ∧ st = [(0, 0)]) ∨ ∃ (M : Nat) (ps : List (Int × Int)), (ws ≠ [] ∧ ws.length ≤ 1000 ∧ (∀ t ∈ ws, t.length ≤ M) ∧ (∃ t ∈ ws, t.length = M) ∧ M ≤ 10000 ∧ WP ws M ps ∧ ps.Pairwise lexLe ∧ ps.length ≤ 100000 ∧ ∀ q ∈ ps, 0 ≤ q.1 ∧ 0 ≤ q.2) ∧ st = hullF [] ps
def R_words_stairs (C : Addr) : List D → D → Prop := fun ds d => ∃ (ws : List Str) (st : List (Int × Int)), ds = [.tup (wsD ws)] ∧ WShape ws st ∧ d = stD C st
abbrev N_words_stairs : List Str := ["words", "width", "lines", "pairs", "word"]
theorem sc_words_stairs : FnScope N_words_stairs ["words"] (defScope (top 18)) := ⟨rfl, rfl, rfl, by decide +kernel, rfl, by decide +kernel, by decide +kernel⟩
theorem WP.ne {ws : List Str} {wd : Int} {ps : List (Int × Int)} (h : WP ws wd ps) : ps ≠ [] := by cases h <;> simp
theorem ok_words_stairs (b : Bt mg) {C : Addr} (hC : mg "Stairs" = some (.ref C)) (c1 : C8.Cal P w K mg base 1 "break_lines" (spD K R_break_lines) []) (c2 : C8.Cal P w K mg base 1 "next_width" (spD K R_next_width) []) (c3 : C8.Mak P w K mg base 2 "Stairs" C (spI K C RI_stairs) []) (c4 : SCal P w K mg base 4 C "hull" (R_hull C))
    {f : Addr} {fd : FuncData} (F : Fun K "words_stairs" "words_stairs" (top 18) f fd) : FnOk P w K mg base CX0 5 f fd ["words"] (spD K (R_words_stairs C)) := by
  refine fnD F sc_words_stairs _ (fun ds d ⟨_, _, h, _⟩ => by rw [h]; rfl) fun cdv A outer s H E ds d hr hR => ?_
  obtain ⟨ws, st, rfl, hs, rfl⟩ := hR
  refine exd_cons (exs_if (evt_not (evt_truU (v 0))) (fun h => ?_) (fun h => exd_nil ?_))
  · have hn : ws = [] := by
      cases ws with
      | nil => rfl
      | cons a t => simp at h
    rcases hs with ⟨_, rfl⟩ | ⟨M, ps, ⟨hne, _⟩, _⟩
    · exact exd_cons (exs_ret (evd_mk c3 hr (by decide) rfl (a1 (evd_lst (a1 (evd_tup (ac evd_int (a1 evd_int)) (by simp))) (by simp))) ⟨[(0, 0)], rfl, rfl, ⟨⟨by simp, by simp, by simp⟩, by simp⟩, rfl⟩) rfl)
    · exact absurd hn hne
  rcases hs with ⟨hn, _⟩ | ⟨M, ps, ⟨hne, hl, hle, hM, hM2, hwp, hlex, hps, hpos⟩, rfl⟩
  · rw [hn] at h
    simp at h
  refine exd_cons (sv 1 sc_words_stairs.nd (d := .int (M : Nat)) (bmaxL (ns := ws.map fun t => (t.length : Int)) b (evl_of (EvD.to (evd_lcM (own := [("word", 4)]) (l := ws) (en := D.str) (fn := fun t => D.int (t.length : Nat)) rfl sc_words_stairs.nd (evi_tup (v 0)) (blkOk_by (N := N_words_stairs) (sc := defScope (top 18)) (by decide +kernel)) (by omega) ?_) ?_)) ?_ ?_) ?_)
  · intro t ht
    have := hle t ht
    exact ⟨[(4, .str t)], by simp, fun s H C cl fp => tn 4 sc_words_stairs.nd, fun s H C cl' fp => blenS (t := t) b (v 4) (by omega)⟩
  · simp [dInts]
  · obtain ⟨t, ht, e⟩ := hM
    exact List.mem_map.mpr ⟨t, ht, by rw [e]⟩
  · intro y hy
    obtain ⟨t, ht, rfl⟩ := List.mem_map.mp hy
    have := hle t ht
    omega
  have brL : ∀ wd : Int, (M : Int) ≤ wd → wd ≤ 10000 → R_break_lines [.tup (wsD ws), .int wd] (.lst (wsD (brk wd ws))) := fun wd h1 h2 => ⟨.tup (wsD ws), ws, wd, rfl, ⟨.inr rfl, h2, by omega, fun t ht => by have := hle t ht; omega⟩, rfl⟩
  refine exd_cons (sv 2 sc_words_stairs.nd (cl c1 hr (ac (v 0) (a1 (v 1))) (brL M (by omega) (by omega))) ?_)
  refine exd_cons (sM 3 sc_words_stairs.nd (a1 (evd_tup (ac (v 1) (a1 (blen b (evl_of (v 2))))) (by simp))) ?_ (by simp))
  refine exd_cons (exs_while (fun m env => ∃ (wd : Int) (done rest : List (Int × Int)) (x : Cell), env = [.frz (.tup (wsD ws)), .frz (.int wd), .frz (.lst (wsD (brk wd ws))), .own (pD (done ++ [(wd, nL wd ws)])), x] ∧ ps = done ++ (wd, nL wd ws) :: rest ∧ WP ws wd ((wd, nL wd ws) :: rest) ∧ (M : Int) ≤ wd ∧ wd ≤ 10000 ∧ m = rest.length) (ps.length - 1) ?_ fun m env1 hI => ?_)
  · have e : ps = (((M : Nat) : Int), nL M ws) :: ps.tail := by
      cases hwp with
      | last => rfl
      | step => rfl
    refine ⟨M, [], ps.tail, .junk, ?_, e, by rw [← e]; exact hwp, by omega, by omega, by simp⟩
    show [_, _, _, Cell.own [.tup [.int M, .int ((wsD (brk M ws)).length : Nat)]], _] = _
    simp [pD]
  obtain ⟨wd, done, rest, x, rfl, hd, hw, h1, h2, rfl⟩ := hI
  have hcnt := brk_count wd ws
  refine ⟨_, evt_gt (blen b (evl_of (v 2))) evd_int, fun h => ?_, fun h => ?_⟩
  · rw [decide_eq_true_eq, List.length_map] at h
    cases hw with
    | last hh => omega
    | @step _ m t h3 h4 h5 h6 h7 =>
      refine exd_cons (sv 1 sc_words_stairs.nd (cl c2 hr (a1 (v 2)) ⟨brk wd ws, m, rfl, ⟨by omega, brk_len (by omega) (fun t ht => by have := hle t ht; omega), h4⟩, rfl⟩) ?_)
      refine exd_cons (sv 2 sc_words_stairs.nd (cl c1 hr (ac (v 0) (a1 (v 1))) (brL m (by omega) (by omega))) ?_)
      have e : rest = (m, nL m ws) :: rest.tail := by
        cases h7 with
        | last => rfl
        | step => rfl
      refine exd_cons (ap 3 (evd_tup (ac (v 1) (a1 (blen b (evl_of (v 2))))) (by simp)) (exd_nil ⟨rest.tail.length, by rw [e]; simp, m, done ++ [(wd, nL wd ws)], rest.tail, x, ?_, by rw [hd]; simp; exact e, by rw [← e]; exact h7, by omega, by omega, rfl⟩) ?_)
      · show [_, _, _, Cell.own (pD (done ++ [(wd, nL wd ws)]) ++ [.tup [.int m, .int ((wsD (brk m ws)).length : Nat)]]), _] = _
        simp [pD]
      · rw [hd] at hps
        simp at hps ⊢
        omega
  · rw [decide_eq_false_iff_not, List.length_map] at h
    cases hw with
    | step h3 => omega
    | last hh =>
      refine exd_freeze 3 rfl (exd_cons (exs_ret (scl c4 hr (by decide) (gcls hC) (a1 (v 3)) ⟨done ++ [(wd, nL wd ws)], rfl, ⟨by simp, by rw [← hd]; exact hpos, by rw [← hd]; exact hlex, by rw [← hd]; exact hps⟩, rfl⟩) ?_))
      rw [hd]
/-! ### Content -/
structure CkT (K : PySem.W.Frag) (C : Addr) : Prop where
  cl : Cls K C
  key : NoAttr K C "key"
  words : NoAttr K C "words"
  letters : NoAttr K C "letters"
  longest : NoAttr K C "longest"
def RI_content : List D → List (Str × D) → List (Str × D) → Prop := fun ds gs gs' => ∃ k : D, ds = [k] ∧ gs = [] ∧ gs' = [(("key" : Str), k)]
theorem sc_ct_init : FnScope ["self", "key"] ["self", "key"] (defScope (mth 20 0)) := ⟨rfl, rfl, rfl, by decide +kernel, rfl, by decide +kernel, by decide +kernel⟩
theorem ok_ct_init {C : Addr} (T : CkT K C) {f : Addr} {fd : FuncData} {qual : Str} (F : Fun K "__init__" qual (mth 20 0) f fd) : FnOk P w K mg base CX0 1 f fd ["self", "key"] (spI K C RI_content) := by
  refine fnI F sc_ct_init _ (fun ds gs gs' ⟨_, h, _⟩ => by rw [h]; rfl) fun cdv A outer s H E p ds gs gs' hr hR => ?_
  obtain ⟨k, rfl, rfl, rfl⟩ := hR
  exact exd_cons (exs_fld 0 rfl rfl (.inl rfl) (v 1) T.cl T.key (by simp) (exd_nil rfl))
/-- a class with an own __contains__ -/
structure CtC (P : Program) (w : World) (K : PySem.W.Frag) (mg : Str → Option Value) (base : Heap) (k : Nat) (C : Addr) (R : List D → D → Prop) : Prop where
  ex : ∃ (g : Addr) (fd : FuncData) (ps : List Str), FnOk P w K mg base CX0 k g fd ps (spD K R) ∧ Binds K fd ps [] ∧ PySem.W.findIn K (.ref C) "__contains__" = some (some (.ref g)) ∧ PySem.W.isFn K (.ref g) = true
theorem tin {X : Cx} {C : Addr} {k j : Nat} {R : List D → D → Prop} {a e : Expr} {env : CEnv} {x : D} {gs : List (Str × D)} {pos : Pos} {l : Bool} (c : CtC X.prog X.w X.K X.mg X.base k C R) (hr : Room j X.A) (hk : k ≤ j) (ha : EvD X a env x) (hb : EvD X e env (.obj C gs)) (h : R [.obj C gs, x] (.bl l)) (hm : behindInMarks .In e = false := by rfl) : EvT X (.Compare a [.In] [e] pos) env l := by
  obtain ⟨g, fd, ps, F, b, h1, h2⟩ := c.ex
  exact evt_inOwn F (hr.mono hk) b pass0 h1 h2 ha hb h hm
theorem tnin {X : Cx} {C : Addr} {k j : Nat} {R : List D → D → Prop} {a e : Expr} {env : CEnv} {x : D} {gs : List (Str × D)} {pos : Pos} {l : Bool} (c : CtC X.prog X.w X.K X.mg X.base k C R) (hr : Room j X.A) (hk : k ≤ j) (ha : EvD X a env x) (hb : EvD X e env (.obj C gs)) (h : R [.obj C gs, x] (.bl l)) (hm : behindInMarks .NotIn e = false := by rfl) : EvT X (.Compare a [.NotIn] [e] pos) env (!l) := by
  obtain ⟨g, fd, ps, F, b, h1, h2⟩ := c.ex
  exact evt_notInOwn F (hr.mono hk) b pass0 h1 h2 ha hb h hm
theorem din {X : Cx} {C : Addr} {k j : Nat} {R : List D → D → Prop} {a e : Expr} {env : CEnv} {x : D} {gs : List (Str × D)} {pos : Pos} {l : Bool} (c : CtC X.prog X.w X.K X.mg X.base k C R) (hr : Room j X.A) (hk : k ≤ j) (ha : EvD X a env x) (hb : EvD X e env (.obj C gs)) (h : R [.obj C gs, x] (.bl l)) (hm : behindInMarks .In e = false := by rfl) : EvD X (.Compare a [.In] [e] pos) env (.bl l) := by
  obtain ⟨g, fd, ps, F, b, h1, h2⟩ := c.ex
  exact evd_inOwn F (hr.mono hk) b pass0 h1 h2 ha hb h hm
theorem dnin {X : Cx} {C : Addr} {k j : Nat} {R : List D → D → Prop} {a e : Expr} {env : CEnv} {x : D} {gs : List (Str × D)} {pos : Pos} {l : Bool} (c : CtC X.prog X.w X.K X.mg X.base k C R) (hr : Room j X.A) (hk : k ≤ j) (ha : EvD X a env x) (hb : EvD X e env (.obj C gs)) (h : R [.obj C gs, x] (.bl l)) (hm : behindInMarks .NotIn e = false := by rfl) : EvD X (.Compare a [.NotIn] [e] pos) env (.bl (!l)) := by
  obtain ⟨g, fd, ps, F, b, h1, h2⟩ := c.ex
  exact evd_notInOwn F (hr.mono hk) b pass0 h1 h2 ha hb h hm
abbrev inB (st : List (Int × Int)) (w h : Int) : Bool := st.any fun q => decide (q.1 ≤ w) && decide (q.2 ≤ h)
/-- check_room where the room lets the content in; Sh tells the corners of the shape -/
def R_check (C : Addr) (Sh : List (Str × D) → List (Int × Int) → Prop) : List D → D → Prop := fun ds d => ∃ (gs : List (Str × D)) (st : List (Int × Int)) (wd h : Int), ds = [.obj C gs, .int wd, .int h] ∧ (Sh gs st ∧ inB st wd h = true) ∧ d = .non
def R_shape (C S : Addr) (Sh : List (Str × D) → List (Int × Int) → Prop) : List D → D → Prop := fun ds d => ∃ (gs : List (Str × D)) (st : List (Int × Int)), ds = [.obj C gs] ∧ Sh gs st ∧ d = stD S st
theorem sc_check_room : FnScope ["self", "width", "height"] ["self", "width", "height"] (defScope (mth 20 4)) := ⟨rfl, rfl, rfl, by decide +kernel, rfl, by decide +kernel, by decide +kernel⟩
theorem ok_check_room {C S : Addr} {Sh : List (Str × D) → List (Int × Int) → Prop} {j : Nat} (hS : ∀ gs st, Sh gs st → gs.lookup ("shape" : Str) = none) (c1 : C8.Met P w K mg base j C "shape" (spD K (R_shape C S Sh)) []) (c2 : CtC P w K mg base 1 S (R_contains S)) (hj : 1 ≤ j) {f : Addr} {fd : FuncData} {qual : Str} (F : Fun K "check_room" qual (mth 20 4) f fd) :
    FnOk P w K mg base CX0 (j + 1) f fd ["self", "width", "height"] (spD K (R_check C Sh)) := by
  refine fnD F sc_check_room _ (fun ds d ⟨_, _, _, _, h, _⟩ => by rw [h]; rfl) fun cdv A outer s H E ds d hr hR => ?_
  obtain ⟨gs, st, wd, h, rfl, ⟨h1, h2⟩, rfl⟩ := hR
  refine exd_cons (exs_if (tnin c2 hr hj (evd_tup (ac (v 1) (a1 (v 2))) (by simp)) (evd_mt0 c1 hr (Nat.le_refl _) (v 0) (hS gs st h1) ⟨gs, st, rfl, h1, rfl⟩) ⟨st, wd, h, rfl, rfl⟩) (fun hh => ?_) (fun hh => exd_nil (exd_nil rfl)))
  rw [show (st.any fun q => decide (q.1 ≤ wd) && decide (q.2 ≤ h)) = true from h2] at hh
  cases hh
end
end Dt
set_option maxHeartbeats 2000000
namespace Dt
open PySem PySem.Spec PyProof.Rows L2
section
variable {P : Program} {w : World} {K : PySem.W.Frag} {mg : Str → Option Value} {base : Heap}
def nfOf (st : Stmt) (qual : Str) (cc cda : Addr) : NdefX.NF := ⟨"__init__", qual, C8.fnArgs st, defBody st, defScope st, [(("__class__" : Str), cc)], cda⟩
/-! ### Words -/
abbrev wFs (ws : List Str) : List (Str × D) := [(("key" : Str), .tup (.str "words" :: wsD ws)), (("words" : Str), .tup (wsD ws))]
theorem kw : ¬ (("key" : Str) = "words") := by decide
theorem kl : ¬ (("key" : Str) = "letters") := by decide
theorem kg : ¬ (("key" : Str) = "longest") := by decide
theorem lg : ¬ (("letters" : Str) = "longest") := by decide
theorem lkW (ws : List Str) : (wFs ws).lookup ("words" : Str) = some (.tup (wsD ws)) := by
  have e : ((("words" : Str)) == "key") = false := by simpa using fun z : ("words" : Str) = "key" => kw z.symm
  simp [wFs, List.lookup, e]
def RI_words : List D → List (Str × D) → List (Str × D) → Prop := fun ds gs gs' => ∃ ws : List Str, ds = [.lst (wsD ws)] ∧ gs = [] ∧ (ws.length ≤ 60 ∧ ∀ t ∈ ws, VW t) ∧ gs' = wFs ws
abbrev N_w_init : List Str := ["self", "words", "__class__"]
theorem sc_w_init {qual : Str} {cc cda : Addr} : NdefX.NScope N_w_init ["self", "words"] [("__class__" : Str)] (nfOf (mth 21 0) qual cc cda).scope := NdefX.nscope_by (show NdefX.nscB N_w_init ["self", "words"] [("__class__" : Str)] (defScope (mth 21 0)) = true by decide +kernel)
theorem ok_w_init (b : Bt mg) {C f cc cda g : Addr} {qual : Str} {fd fd0 : FuncData} (T : Sup P K mg C f cc cda g "__init__" (nfOf (mth 21 0) qual cc cda) fd) (Tk : CkT K C) (c1 : C8.Cal P w K mg base 1 "check_words" (spD K R_check_words) [])
    (F0 : FnOk P w K mg base CX0 1 g fd0 ["self", "key"] (spI K C RI_content)) (b0 : Binds K fd0 ["self", "key"] []) : FnOk P w K mg base CX0 2 f fd ["self", "words"] (spI K C RI_words) := by
  refine fnIS T sc_w_init _ (fun ds gs gs' ⟨_, h, _⟩ => by rw [h]; rfl) fun A outer s H E p ds gs gs' hr hR => ?_
  obtain ⟨ws, rfl, rfl, ⟨hl, hw⟩, rfl⟩ := hR
  refine exa_cons (exs_expr (cl c1 hr (a1 (v 1)) ⟨ws, rfl, ⟨hl, hw⟩, rfl⟩) ?_)
  refine exa_super T rfl rfl rfl F0 hr b0 pass0 (a1 (evd_tup (ac evd_str (eva_starL (evl_of (v 1)) eva_nil)) (by simp; omega))) ⟨_, rfl, rfl, rfl⟩ ?_
  refine exa_of (exd_cons (exs_fld 0 rfl rfl (.inl rfl) (btuple b (evl_of (v 1))) Tk.cl Tk.words (by simp) (exd_nil ?_)))
  simp [putD, wFs, kw]
def ShW (gs : List (Str × D)) (st : List (Int × Int)) : Prop := ∃ ws : List Str, gs = wFs ws ∧ WShape ws st
theorem sc_w_shape : FnScope ["self"] ["self"] (defScope (mth 21 1)) := ⟨rfl, rfl, rfl, by decide +kernel, rfl, by decide +kernel, by decide +kernel⟩
theorem ok_w_shape {C S : Addr} (Tk : CkT K C) (c1 : C8.Cal P w K mg base 5 "words_stairs" (spD K (R_words_stairs S)) []) {f : Addr} {fd : FuncData} {qual : Str} (F : Fun K "shape" qual (mth 21 1) f fd) : FnOk P w K mg base CX0 6 f fd ["self"] (spD K (R_shape C S ShW)) := by
  refine fnD F sc_w_shape _ (fun ds d ⟨_, _, h, _⟩ => by rw [h]; rfl) fun cdv A outer s H E ds d hr hR => ?_
  obtain ⟨gs, st, rfl, ⟨ws, rfl, h2⟩, rfl⟩ := hR
  exact exd_cons (exs_ret (cl c1 hr (a1 (evd_fld (v 0) Tk.cl Tk.words (lkW _))) ⟨ws, st, rfl, h2, rfl⟩) rfl)
def R_w_drawn (C : Addr) : List D → D → Prop := fun ds d => ∃ (ws : List Str) (st : List (Int × Int)) (wd h : Int), ds = [.obj C (wFs ws), .int wd, .int h] ∧ (WShape ws st ∧ inB st wd h = true ∧ wd ≤ 10000 ∧ ws.length ≤ 1000 ∧ ∀ t ∈ ws, (t.length : Int) ≤ wd) ∧ d = .lst (wsD (brk wd ws))
theorem sc_w_drawn : FnScope ["self", "width", "height"] ["self", "width", "height"] (defScope (mth 21 2)) := ⟨rfl, rfl, rfl, by decide +kernel, rfl, by decide +kernel, by decide +kernel⟩
theorem ok_w_drawn {C : Addr} (Tk : CkT K C) (c1 : C8.Cal P w K mg base 1 "break_lines" (spD K R_break_lines) []) (c2 : C8.Met P w K mg base 7 C "check_room" (spD K (R_check C ShW)) []) {f : Addr} {fd : FuncData} {qual : Str} (F : Fun K "drawn" qual (mth 21 2) f fd) : FnOk P w K mg base CX0 8 f fd ["self", "width", "height"] (spD K (R_w_drawn C)) := by
  refine fnD F sc_w_drawn _ (fun ds d ⟨_, _, _, _, h, _⟩ => by rw [h]; rfl) fun cdv A outer s H E ds d hr hR => ?_
  obtain ⟨ws, st, wd, h, rfl, ⟨h1, h2, h3, h4, h5⟩, rfl⟩ := hR
  refine exd_cons (exs_expr (evd_mt c2 hr (by decide) (v 0) rfl (ac (v 1) (a1 (v 2))) ⟨wFs ws, st, wd, h, rfl, ⟨⟨ws, rfl, h1⟩, h2⟩, rfl⟩) ?_)
  exact exd_cons (exs_ret (cl c1 hr (ac (evd_fld (v 0) Tk.cl Tk.words (lkW _)) (a1 (v 1))) ⟨_, ws, wd, rfl, ⟨.inr rfl, h3, by omega, h5⟩, rfl⟩) rfl)
/-! ### fits_text -/
def maxLen (ws : List Str) : Int := (ws.map fun t => (t.length : Int)).foldl max 0
def sumLen (ws : List Str) : Int := (ws.map fun t => (t.length : Int)).sum
abbrev fitsB (ws : List Str) (n l : Int) : Bool := decide (maxLen ws ≤ l) && decide (sumLen ws ≤ n)
def R_fits : List D → D → Prop := fun ds d => ∃ (ws : List Str) (n l : Int), ds = [.lst (wsD ws), .int n, .int l] ∧ (ws.length ≤ 60 ∧ ∀ t ∈ ws, VW t) ∧ d = .bl (fitsB ws n l)
abbrev N_fits : List Str := ["words", "letters", "longest", "lengths", "word"]
theorem sc_fits : FnScope N_fits ["words", "letters", "longest"] (defScope (top 23)) := ⟨rfl, rfl, rfl, by decide +kernel, rfl, by decide +kernel, by decide +kernel⟩
theorem bmaxDf {X : Cx} {e ed : Expr} {env : CEnv} {pos p kpos : Pos} {ns : List Int} {m dflt : Int} (b : Bt X.mg) (h : EvL X e env (dInts ns)) (hd : EvD X ed env (.int dflt)) (h1 : ns = [] → m = dflt) (h2 : ns ≠ [] → m ∈ ns ∧ ∀ y ∈ ns, y ≤ m) (hu : X.A.units + 64 < cLine) (hc : X.calm = true := by rfl) (hg : Gl X "max" := by rfl)
    (he : backTo pos (starEach [e] X.env) = (false, eval e X.env) :: backTo pos (starEach [] X.env) := by rfl) (he' : starEach [e] X.env = (false, eval e X.env) :: starEach [] X.env := by rfl) (hpl : (backTo pos (starEach [e] X.env)).any (·.1) = false := by rfl)
    (hall : (backToKw pos (keywordEach [⟨some (Str.ofString "default"), ed, kpos⟩] X.env)).all (·.1.isSome) = true := by rfl) (hnone : (backToKw pos (keywordEach [⟨some (Str.ofString "default"), ed, kpos⟩] X.env)).any (·.1.isNone) = false := by rfl) (hks : (backToKw pos (keywordEach [⟨some (Str.ofString "default"), ed, kpos⟩] X.env)).filterMap (·.1) = [Str.ofString "default"] := by rfl) :
    EvD X (.Call (.Name "max" p) [e] [⟨some (Str.ofString "default"), ed, kpos⟩] pos) env (.int m) := evd_maxDf (kp := kpos) hc hu hg b.max h hd h1 h2 he he' hpl hall hnone hks
theorem maxLen_ok (ws : List Str) : (ws.map (fun t => (t.length : Int)) = [] → maxLen ws = 0) ∧ (ws.map (fun t => (t.length : Int)) ≠ [] → maxLen ws ∈ ws.map (fun t => (t.length : Int)) ∧ ∀ y ∈ ws.map (fun t => (t.length : Int)), y ≤ maxLen ws) := by
  unfold maxLen
  refine ⟨fun h => by rw [h]; rfl, fun h => ?_⟩
  cases ws with
  | nil => exact absurd rfl h
  | cons t ts =>
    have e : (max 0 ((t.length : Nat) : Int)) = t.length := by omega
    have := foldl_max (ts.map fun t => (t.length : Int)) (t.length : Int)
    rw [List.map_cons, List.foldl_cons, e]
    exact this
theorem ok_fits (b : Bt mg) (c1 : C8.Cal P w K mg base 1 "check_words" (spD K R_check_words) []) {f : Addr} {fd : FuncData} (F : Fun K "fits_text" "fits_text" (top 23) f fd) : FnOk P w K mg base CX0 2 f fd ["words", "letters", "longest"] (spD K R_fits) := by
  refine fnD F sc_fits _ (fun ds d ⟨_, _, _, h, _⟩ => by rw [h]; rfl) fun cdv A outer s H E ds d hr hR => ?_
  obtain ⟨ws, n, l, rfl, ⟨hl, hw⟩, rfl⟩ := hR
  refine exd_cons (exs_try0 (exd_cons (exs_expr (cl c1 hr (a1 (v 0)) ⟨ws, rfl, ⟨hl, hw⟩, rfl⟩) (exd_nil ?_))))
  refine exd_cons (exs_setLcM (i := 3) (own := [("word", 4)]) (l := ws) (en := D.str) (fn := fun t => D.int (t.length : Nat)) rfl sc_fits.nd rfl rfl (evi_list (v 0)) (blkOk_by (N := N_fits) (sc := defScope (top 23)) (by decide +kernel)) (by omega) (fun t ht => ?_) ?_ (sw_true rfl rfl rfl (by decide +kernel)))
  · have := (hw t ht).le
    exact ⟨[(4, .str t)], by simp, fun s H C cl fp => tn 4 sc_fits.nd, fun s H C cl' fp => blenS (t := t) b (v 4) (by omega)⟩
  have hL : EvL (cxOf CX0 P w K mg base N_fits "fits_text" (defScope (top 23)) f cdv A outer s H E).nox (.Name "lengths" ⟨0, 0, 0, 0⟩) ([.frz (.lst (wsD ws)), .frz (.int n), .frz (.int l), .frz (.lst (ws.map fun t => D.int (t.length : Nat))), .junk] : CEnv) (dInts (ws.map fun t => (t.length : Int))) := EvL.to (evl_of (v 3)) (by simp [dInts])
  have hm := maxLen_ok ws
  refine exd_cons (exs_ret (evd_and (evd_le (bmaxDf (m := maxLen ws) b (EvL.to (evl_of (v 3)) (by simp [dInts])) evd_int hm.1 hm.2 hr.units) (v 2)) (fun _ => evd_and1 (evd_le (bsum (ns := ws.map fun t => (t.length : Int)) b (EvL.to (evl_of (v 3)) (by simp [dInts]))) (v 1)))) rfl)
/-! ### AnyText -/
abbrev aFs (n l : Int) : List (Str × D) := [(("key" : Str), .tup [.str "any", .int n, .int l]), (("letters" : Str), .int n), (("longest" : Str), .int l)]
theorem lkA (n l : Int) : (aFs n l).lookup ("letters" : Str) = some (.int n) := by
  have e : ((("letters" : Str)) == "key") = false := by simpa using fun z : ("letters" : Str) = "key" => kl z.symm
  simp [aFs, List.lookup, e]
theorem lkB (n l : Int) : (aFs n l).lookup ("longest" : Str) = some (.int l) := by
  have e : ((("longest" : Str)) == "key") = false := by simpa using fun z : ("longest" : Str) = "key" => kg z.symm
  have e2 : ((("longest" : Str)) == "letters") = false := by simpa using fun z : ("longest" : Str) = "letters" => lg z.symm
  simp [aFs, List.lookup, e, e2]
def RI_any : List D → List (Str × D) → List (Str × D) → Prop := fun ds gs gs' => ∃ n l : Int, ds = [.int n, .int l] ∧ gs = [] ∧ (n ≤ 60 ∧ l ≤ 20) ∧ gs' = aFs n l
abbrev N_a_init : List Str := ["self", "letters", "longest", "__class__"]
theorem sc_a_init {qual : Str} {cc cda : Addr} : NdefX.NScope N_a_init ["self", "letters", "longest"] [("__class__" : Str)] (nfOf (mth 32 2) qual cc cda).scope := NdefX.nscope_by (show NdefX.nscB N_a_init ["self", "letters", "longest"] [("__class__" : Str)] (defScope (mth 32 2)) = true by decide +kernel)
theorem ok_a_init {C f cc cda g : Addr} {qual : Str} {fd fd0 : FuncData} (T : Sup P K mg C f cc cda g "__init__" (nfOf (mth 32 2) qual cc cda) fd) (Tk : CkT K C) (Ta : AtC K mg C)
    (F0 : FnOk P w K mg base CX0 1 g fd0 ["self", "key"] (spI K C RI_content)) (b0 : Binds K fd0 ["self", "key"] []) : FnOk P w K mg base CX0 2 f fd ["self", "letters", "longest"] (spI K C RI_any) := by
  refine fnIS T sc_a_init _ (fun ds gs gs' ⟨_, _, h, _⟩ => by rw [h]; rfl) fun A outer s H E p ds gs gs' hr hR => ?_
  obtain ⟨n, l, rfl, rfl, ⟨hn, hl⟩, rfl⟩ := hR
  refine exa_cons (exs_if (evt_gt (v 1) (mostL Ta)) (fun h => ?_) (fun h => exd_nil ?_))
  · rw [decide_eq_true_eq] at h
    omega
  refine exa_cons (exs_if (evt_gt (v 2) (mostG Ta)) (fun h => ?_) (fun h => exd_nil ?_))
  · rw [decide_eq_true_eq] at h
    omega
  refine exa_super T rfl rfl rfl F0 hr b0 pass0 (a1 (evd_tup (ac evd_str (ac (v 1) (a1 (v 2)))) (by simp))) ⟨_, rfl, rfl, rfl⟩ ?_
  refine exa_of (exd_cons (exs_fld 0 rfl rfl (.inl rfl) (v 1) Tk.cl Tk.letters (by simp) (exd_cons (exs_fld 0 rfl rfl (.inl rfl) (v 2) Tk.cl Tk.longest (by simp [putD, kl]) (exd_nil ?_)))))
  simp [putD, aFs, kl, kg, lg]
def ShA (gs : List (Str × D)) (st : List (Int × Int)) : Prop := ∃ n l : Int, gs = aFs n l ∧ (0 ≤ n ∧ n ≤ 400 ∧ 1 ≤ l ∧ l ≤ 400) ∧ st = hullF [] (wsP n l)
theorem sc_a_shape : FnScope ["self"] ["self"] (defScope (mth 32 5)) := ⟨rfl, rfl, rfl, by decide +kernel, rfl, by decide +kernel, by decide +kernel⟩
theorem ok_a_shape {C S : Addr} (Tk : CkT K C) (c1 : C8.Cal P w K mg base 5 "worst_stairs" (spD K (R_worst_stairs S)) []) {f : Addr} {fd : FuncData} {qual : Str} (F : Fun K "shape" qual (mth 32 5) f fd) : FnOk P w K mg base CX0 6 f fd ["self"] (spD K (R_shape C S ShA)) := by
  refine fnD F sc_a_shape _ (fun ds d ⟨_, _, h, _⟩ => by rw [h]; rfl) fun cdv A outer s H E ds d hr hR => ?_
  obtain ⟨gs, st, rfl, ⟨n, l, rfl, h2, rfl⟩, rfl⟩ := hR
  exact exd_cons (exs_ret (cl c1 hr (ac (evd_fld (v 0) Tk.cl Tk.letters (lkA _ _)) (a1 (evd_fld (v 0) Tk.cl Tk.longest (lkB _ _)))) ⟨n, l, rfl, h2, rfl⟩) rfl)
def R_a_contains (C : Addr) : List D → D → Prop := fun ds d => ∃ (ws : List Str) (n l : Int), ds = [.obj C (aFs n l), .lst (wsD ws)] ∧ (ws.length ≤ 60 ∧ ∀ t ∈ ws, VW t) ∧ d = .bl (fitsB ws n l)
theorem sc_a_contains : FnScope ["self", "words"] ["self", "words"] (defScope (mth 32 4)) := ⟨rfl, rfl, rfl, by decide +kernel, rfl, by decide +kernel, by decide +kernel⟩
theorem ok_a_contains {C : Addr} (Tk : CkT K C) (c1 : C8.Cal P w K mg base 2 "fits_text" (spD K R_fits) []) {f : Addr} {fd : FuncData} {qual : Str} (F : Fun K "__contains__" qual (mth 32 4) f fd) : FnOk P w K mg base CX0 3 f fd ["self", "words"] (spD K (R_a_contains C)) := by
  refine fnD F sc_a_contains _ (fun ds d ⟨_, _, _, h, _⟩ => by rw [h]; rfl) fun cdv A outer s H E ds d hr hR => ?_
  obtain ⟨ws, n, l, rfl, h2, rfl⟩ := hR
  exact exd_cons (exs_ret (cl c1 hr (ac (v 1) (ac (evd_fld (v 0) Tk.cl Tk.letters (lkA _ _)) (a1 (evd_fld (v 0) Tk.cl Tk.longest (lkB _ _))))) ⟨ws, n, l, rfl, h2, rfl⟩) rfl)
def R_a_drawn (C : Addr) : List D → D → Prop := fun ds d => ∃ (n l wd h : Int) (lens : List Int), ds = [.obj C (aFs n l), .int wd, .int h] ∧ (ShA (aFs n l) (hullF [] (wsP n l)) ∧ inB (hullF [] (wsP n l)) wd h = true ∧ preA n 0 l wd ∧ WL l wd n 0 lens ∧ lens.length ≤ 1000 ∧ ∀ m ∈ lens, 0 ≤ m ∧ m ≤ wd) ∧ d = .lst (wsD (brk wd (lens.map fun m => Txt.mul "x" m)))
theorem sc_a_drawn : FnScope ["self", "width", "height"] ["self", "width", "height"] (defScope (mth 32 6)) := ⟨rfl, rfl, rfl, by decide +kernel, rfl, by decide +kernel, by decide +kernel⟩
theorem len_x {m : Int} (h : 0 ≤ m) : ((Txt.mul "x" m).length : Int) = m := by
  rw [len_mul, if_neg (by simpa using h)]
  have e : Str.length "x" = 1 := by decide
  rw [e]
  omega
theorem ok_a_drawn {C : Addr} (Tk : CkT K C) (c1 : C8.Cal P w K mg base 1 "break_lines" (spD K R_break_lines) []) (c2 : C8.Met P w K mg base 7 C "check_room" (spD K (R_check C ShA)) []) (c3 : C8.Cal P w K mg base 5 "worst_words" (spD K R_worst_words) []) {f : Addr} {fd : FuncData} {qual : Str} (F : Fun K "drawn" qual (mth 32 6) f fd) :
    FnOk P w K mg base CX0 8 f fd ["self", "width", "height"] (spD K (R_a_drawn C)) := by
  refine fnD F sc_a_drawn _ (fun ds d ⟨_, _, _, _, _, h, _⟩ => by rw [h]; rfl) fun cdv A outer s H E ds d hr hR => ?_
  obtain ⟨n, l, wd, h, lens, rfl, ⟨h1, h2, h3, h4, h5, h6⟩, rfl⟩ := hR
  have hp := h3
  unfold preA at hp
  refine exd_cons (exs_expr (evd_mt c2 hr (by decide) (v 0) rfl (ac (v 1) (a1 (v 2))) ⟨aFs n l, _, wd, h, rfl, ⟨h1, h2⟩, rfl⟩) ?_)
  refine exd_cons (exs_ret (cl c1 hr (ac (cl c3 hr (ac (evd_fld (v 0) Tk.cl Tk.letters (lkA _ _)) (ac (evd_fld (v 0) Tk.cl Tk.longest (lkB _ _)) (a1 (v 1)))) ⟨n, l, wd, lens, rfl, ⟨h3, h4, h5, fun m hm => by have := h6 m hm; omega⟩, rfl⟩) (a1 (v 1))) ⟨_, lens.map fun m => Txt.mul "x" m, wd, rfl, ⟨.inl (by simp [wsD, xsS]), by omega, by simp; omega, ?_⟩, rfl⟩) rfl)
  intro t ht
  obtain ⟨m, hm, rfl⟩ := List.mem_map.mp ht
  have := h6 m hm
  rw [len_x (by omega)]
  omega
end
end Dt
set_option maxHeartbeats 2000000
namespace Dt
open PySem PySem.Spec PyProof.Rows L2
/-! sum of a tuple of ints -/
section
variable {prog : Program} {w : World} {A : Around} {E : Value → Shared → Prop} {s : Shared} {l : Addr} {xs : Array (Int × Tok)}
theorem iter_tupI {items : Array Value} {Q : Value → Shared → Prop} (hl : s.heap.IsTuple l items)
    (h : ∀ s₂ : Shared, s₂ = { s with heap := s.heap.push { cls := .type "tuple_iterator", data := .fields #[.ref l, .int 0 0] } } →
      (s₂.heap.IsTupleIter s.heap.objs.size l 0 ∧ s₂.heap.IsTuple l items) → (∀ b ∈ [s.heap.objs.size, l], b < s₂.heap.objs.size) → l ≠ s.heap.objs.size → Q (.ref s.heap.objs.size) s₂) :
    wpAny (model prog w) A (pyIter (.ref l)) Q E s := by
  have hlt : l < s.heap.objs.size := by
    obtain ⟨_, e, _⟩ := hl
    exact Heap.lt_size e
  refine wpAny_pyIter_tuple hl (h _ rfl ⟨⟨_, Heap.get?_push_size _ rfl, rfl, rfl⟩, hl.push _⟩ (fun b hb => ?_) (Nat.ne_of_lt hlt))
  show b < (s.heap.push _).objs.size
  rw [Heap.size_push]
  have hb' : b = s.heap.objs.size ∨ b = l := by simpa using hb
  rcases hb' with e | e
  · rw [e]
    exact Nat.lt_succ_self _
  · rw [e]
    exact Nat.lt_succ_of_lt hlt
theorem sum_tupI {Q : Value → Shared → Prop} (hh : A.handled = none) (hl : s.heap.IsTuple l (intItems xs))
    (h : ∀ h' tk t', (∀ b o, s.heap.get? b = some o → h'.get? b = some o) → Q (.int (preSum (numAt xs) xs.size) t') { s with heap := h', toks := tk }) :
    wpAny (model prog w) A (call (.builtin "sum") [.ref l]) Q E s := by
  refine call_sum_walkG (iter_tupI hl fun s₂ e st hfp hlI => ?_)
  subst e
  refine ⟨_, _, _, _, _, _, numAt xs, rfl, Walks.tuple (A := A.in1) hh _ l hlI (intItems xs), st, hfp, (fun _ _ => intItems_at), fun h' tk t' hk => ?_⟩
  have q := h h' tk t' fun b o e => hk b o (fun hm => by
    have : b = s.heap.objs.size := by simpa using hm
    exact absurd (this ▸ Heap.lt_size e) (Nat.lt_irrefl _)) (Heap.get?_push_of_some _ e)
  simpa [intItems] using q
end
def rSumT (K : PySem.W.Frag) : List V → Hp → VK → Prop := fun vs H Q => ∃ (a : Addr) (ns : List Int), vs = [V.ref a] ∧ SqT K H a (ns.map V.int) ∧ Q (.int ns.sum) H
theorem cr_sumT {X : Cx} (hc : X.calm = true) : CallR X (.builtin "sum") (rSumT X.K) := by
  intro pins s σ H vs us Q I r h
  obtain ⟨a, ns, rfl, hs, q⟩ := h
  obtain ⟨its, rv, hl, _⟩ := I.tuple hs
  rw [Vals.ref1 r]
  have hi := rv.ints
  obtain ⟨xs, e⟩ := hi.allInts.items
  have hn : numsOf (intItems xs).toList = ns := by rw [← e]; exact hi.numsOf
  rw [nums_intItems] at hn
  have hT : s.heap.IsTuple a its.toArray := hl
  rw [e] at hT
  refine sum_tupI (I.ok.hd hc) hT fun h' tk t' hk => ⟨.int _, H, I.kept hk, ⟨t', rfl⟩, ?_⟩
  rw [preSum_eq, List.take_of_length_le (by simp), hn]
  exact q
theorem evd_sumU {X : Cx} {e : Expr} {env : CEnv} {pos p : Pos} {ns : List Int} (hc : X.calm = true) (hg : Gl X "sum") (hm : X.mg "sum" = none) (h : EvD X e env (.tup (dInts ns))) (he : starEach [e] X.env = (false, eval e X.env) :: starEach [] X.env := by rfl) : EvD X (.Call (.Name "sum" p) [e] [] pos) env (.int ns.sum) :=
  evx_cb1 (cr_sumT hc) hg hm (by decide +kernel) h (c1_pure fun Hf H v Q s r0 q => by
    obtain ⟨l, xs, e, hl, r⟩ := r0.inv_tup
    subst e
    rw [r.ints] at hl
    exact ⟨l, ns, rfl, Same.seqT s hl, q _ (.int _)⟩) (by decide) (by decide) he
end Dt
set_option maxHeartbeats 2000000
namespace Dt
open PySem PySem.Spec PyProof.Rows L2
section
variable {X : Cx} {a e : Expr} {env : CEnv} {pos p q : Pos} {d : D} {t : String} {n : Str}
theorem tisi (u : String) (l : Bool) (b : Bt X.mg) (ha : EvD X a env d) (ht : TyD X.K d (.type t)) (hm : X.mg n = none) (hk : kitB t u = some l := by decide +kernel) (hv : bootBuiltins n = some (.type u) := by decide +kernel) (hg : Gl X "isinstance" := by rfl) (hgn : Gl X n := by rfl) (hn : n ≠ "__name__" := by decide) (hdb : (n == ("__debug__" : Str)) = false := by decide)
    (he : starEach [a, .Name n q] X.env = (false, eval a X.env) :: starEach [.Name n q] X.env := by rfl) (he2 : starEach [.Name n q] X.env = (false, eval (.Name n q) X.env) :: starEach [] X.env := by rfl) (hpl : (backTo pos (starEach [.Name n q] X.env)).any (·.1) = false := by rfl) : EvT X (.Call (.Name "isinstance" p) [a, .Name n q] [] pos) env l := evt_isi hg b.isinstance ha (evd_ty hgn hm hv hn hdb) ht (.ty u) (kit_ty hk) he he2 hpl
theorem disi (u : String) (l : Bool) (b : Bt X.mg) (ha : EvD X a env d) (ht : TyD X.K d (.type t)) (hm : X.mg n = none) (hk : kitB t u = some l := by decide +kernel) (hv : bootBuiltins n = some (.type u) := by decide +kernel) (hg : Gl X "isinstance" := by rfl) (hgn : Gl X n := by rfl) (hn : n ≠ "__name__" := by decide) (hdb : (n == ("__debug__" : Str)) = false := by decide)
    (he : starEach [a, .Name n q] X.env = (false, eval a X.env) :: starEach [.Name n q] X.env := by rfl) (he2 : starEach [.Name n q] X.env = (false, eval (.Name n q) X.env) :: starEach [] X.env := by rfl) (hpl : (backTo pos (starEach [.Name n q] X.env)).any (·.1) = false := by rfl) : EvD X (.Call (.Name "isinstance" p) [a, .Name n q] [] pos) env (.bl l) := evd_isi hg b.isinstance ha (evd_ty hgn hm hv hn hdb) ht (.ty u) (kit_ty hk) he he2 hpl
theorem tisC {C : Addr} {gs : List (Str × D)} (b : Bt X.mg) (ha : EvD X a env (.obj C gs)) (ht : ClI X.K C) (hm : X.mg n = some (.ref C)) (hk : PySem.W.kitOne X.K (.ref C) (.ref C) = some true) (hg : Gl X "isinstance" := by rfl) (hgn : Gl X n := by rfl) (hdb : (n == ("__debug__" : Str)) = false := by decide)
    (he : starEach [a, .Name n q] X.env = (false, eval a X.env) :: starEach [.Name n q] X.env := by rfl) (he2 : starEach [.Name n q] X.env = (false, eval (.Name n q) X.env) :: starEach [] X.env := by rfl) (hpl : (backTo pos (starEach [.Name n q] X.env)).any (·.1) = false := by rfl) : EvT X (.Call (.Name "isinstance" p) [a, .Name n q] [] pos) env true := evt_isi hg b.isinstance ha (gcls hm hgn hdb) (.obj gs ht) (.cls C) hk he he2 hpl
end
section
variable {P : Program} {w : World} {K : PySem.W.Frag} {mg : Str → Option Value} {base : Heap}
/-! ### _law_same -/
inductive Leaf : D → Prop
  | int (i : Int) : Leaf (.int i)
  | str (s : Str) : Leaf (.str s)
def R_same0 : List D → D → Prop := fun ds d => ∃ x : D, ds = [x, x] ∧ Leaf x ∧ d = .bl true
abbrev N_same : List Str := ["told", "due", "k"]
theorem sc_same : FnScope N_same ["told", "due"] (defScope (top 35)) := ⟨rfl, rfl, rfl, by decide +kernel, rfl, by decide +kernel, by decide +kernel⟩
theorem ok_same0 (b : Bt mg) {f : Addr} {fd : FuncData} (F : Fun K "_law_same" "_law_same" (top 35) f fd) : FnOk P w K mg base CX0 1 f fd ["told", "due"] (spD K R_same0) := by
  refine fnD F sc_same _ (fun ds d ⟨_, h, _⟩ => by rw [h]; rfl) fun cdv A outer s H E ds d hr hR => ?_
  obtain ⟨x, rfl, hx, rfl⟩ := hR
  cases hx with
  | int i =>
    refine exd_cons (exs_if (evt_w (evw_or (evt_isN (v 1) evd_non) fun _ => evw_or (evt_isB (v 1) evd_bl (.int _ _)) fun _ => evw_or1 (evt_isB (v 1) evd_bl (.int _ _)))) (fun h => by cases h) fun h => exd_nil ?_)
    refine exd_cons (exs_if (tisi "int" true b (v 1) (.int _) b.int) (fun h => ?_) fun h => by cases h)
    exact exd_cons (exs_ret (evd_and (disi "int" true b (v 0) (.int _) b.int) fun _ => evd_and (evd_not (disi "bool" false b (v 0) (.int _) b.bool)) fun _ => evd_and1 (evd_eq (v 0) (v 1) (.int _ _))) (by simp))
  | str t =>
    refine exd_cons (exs_if (evt_w (evw_or (evt_isN (v 1) evd_non) fun _ => evw_or (evt_isB (v 1) evd_bl (.str _ _)) fun _ => evw_or1 (evt_isB (v 1) evd_bl (.str _ _)))) (fun h => by cases h) fun h => exd_nil ?_)
    refine exd_cons (exs_if (tisi "int" false b (v 1) (.str _) b.int) (fun h => by cases h) fun h => exd_nil ?_)
    refine exd_cons (exs_if (tisi "str" true b (v 1) (.str _) b.str) (fun h => ?_) fun h => by cases h)
    exact exd_cons (exs_ret (evd_and (disi "str" true b (v 0) (.str _) b.str) fun _ => evd_and1 (evd_eq (v 0) (v 1) (.str _ _))) (by simp))
def R_same1 : List D → D → Prop := fun ds d => ∃ (x : D) (xs : List D), ds = [x, x] ∧ SeqD x xs ∧ (xs.length ≤ 100000 ∧ ∀ y ∈ xs, Leaf y) ∧ d = .bl true
theorem ok_same1 (b : Bt mg) (c0 : C8.Cal P w K mg base 1 "_law_same" (spD K R_same0) []) {f : Addr} {fd : FuncData} (F : Fun K "_law_same" "_law_same" (top 35) f fd) : FnOk P w K mg base CX0 2 f fd ["told", "due"] (spD K R_same1) := by
  refine fnD F sc_same _ (fun ds d ⟨_, _, h, _⟩ => by rw [h]; rfl) fun cdv A outer s H E ds d hr hR => ?_
  obtain ⟨x, xs, rfl, hx, ⟨hl, hleaf⟩, rfl⟩ := hR
  rcases hx with rfl | rfl
  · refine exd_cons (exs_if (evt_w (evw_or (evt_isN (v 1) evd_non) fun _ => evw_or (evt_isB (v 1) evd_bl (.lst _ _)) fun _ => evw_or1 (evt_isB (v 1) evd_bl (.lst _ _)))) (fun h => by cases h) fun h => exd_nil ?_)
    refine exd_cons (exs_if (tisi "int" false b (v 1) (.lst _) b.int) (fun h => by cases h) fun h => exd_nil ?_)
    refine exd_cons (exs_if (tisi "str" false b (v 1) (.lst _) b.str) (fun h => by cases h) fun h => exd_nil ?_)
    refine exd_cons (exs_if (evt_w (evw_or (evt_w (evw_and (l := true) (tisi "tuple" false b (v 1) (.lst _) b.tuple) fun z => by cases z)) fun _ => evw_or1 (evt_w (evw_and (tisi "list" true b (v 1) (.lst _) b.list) fun _ => evw_and1 (evt_not (tisi "list" true b (v 0) (.lst _) b.list)))))) (fun h => by cases h) fun h => exd_nil ?_)
    refine exd_cons (exs_if (evt_ne (blen b (evl_of (v 0))) (blen b (evl_of (v 1))) (.int _ _)) (fun h => by simp at h) fun h => exd_nil ?_)
    refine exd_cons (exs_for (fun i env => ∃ z : Cell, env = [.frz (.lst xs), .frz (.lst xs), z]) rfl (irange b (blen b (evl_of (v 1))) (by omega)) ⟨_, rfl⟩ (fun i d env1 hd hI => ?_) fun env1 hI => ?_)
    · obtain ⟨z, rfl⟩ := hI
      obtain ⟨hi, rfl⟩ := dRange_get hd
      rw [Int.toNat_natCast] at hi
      have e := List.getElem?_eq_getElem hi
      refine ⟨_, tn 2 sc_same.nd, ?_⟩
      refine exd_cons (exs_if (evt_not (evt_val (cl c0 hr (ac (evd_ixL (evl_of (v 0)) (v 2) (d := xs[i]) (at_int (j := i) (by omega) e)) (a1 (evd_ixL (evl_of (v 1)) (v 2) (d := xs[i]) (at_int (j := i) (by omega) e)))) ⟨xs[i], rfl, hleaf _ (List.getElem_mem hi), rfl⟩))) (fun h => by cases h) fun h => exd_nil (exd_nil ⟨_, rfl⟩))
    · obtain ⟨z, rfl⟩ := hI
      exact exd_cons (exs_ret evd_bl rfl)
  · refine exd_cons (exs_if (evt_w (evw_or (evt_isN (v 1) evd_non) fun _ => evw_or (evt_isB (v 1) evd_bl (.tup _ _)) fun _ => evw_or1 (evt_isB (v 1) evd_bl (.tup _ _)))) (fun h => by cases h) fun h => exd_nil ?_)
    refine exd_cons (exs_if (tisi "int" false b (v 1) (.tup _) b.int) (fun h => by cases h) fun h => exd_nil ?_)
    refine exd_cons (exs_if (tisi "str" false b (v 1) (.tup _) b.str) (fun h => by cases h) fun h => exd_nil ?_)
    refine exd_cons (exs_if (evt_w (evw_or (evt_w (evw_and (tisi "tuple" true b (v 1) (.tup _) b.tuple) fun _ => evw_and1 (evt_not (tisi "tuple" true b (v 0) (.tup _) b.tuple)))) fun _ => evw_or1 (evt_w (evw_and (l := true) (tisi "list" false b (v 1) (.tup _) b.list) fun z => by cases z)))) (fun h => by cases h) fun h => exd_nil ?_)
    refine exd_cons (exs_if (evt_ne (blenU b (v 0)) (blenU b (v 1)) (.int _ _)) (fun h => by simp at h) fun h => exd_nil ?_)
    refine exd_cons (exs_for (fun i env => ∃ z : Cell, env = [.frz (.tup xs), .frz (.tup xs), z]) rfl (irange b (blenU b (v 1)) (by omega)) ⟨_, rfl⟩ (fun i d env1 hd hI => ?_) fun env1 hI => ?_)
    · obtain ⟨z, rfl⟩ := hI
      obtain ⟨hi, rfl⟩ := dRange_get hd
      rw [Int.toNat_natCast] at hi
      have e := List.getElem?_eq_getElem hi
      refine ⟨_, tn 2 sc_same.nd, ?_⟩
      refine exd_cons (exs_if (evt_not (evt_val (cl c0 hr (ac (evd_ixU (v 0) (v 2) (d := xs[i]) (at_int (j := i) (by omega) e)) (a1 (evd_ixU (v 1) (v 2) (d := xs[i]) (at_int (j := i) (by omega) e)))) ⟨xs[i], rfl, hleaf _ (List.getElem_mem hi), rfl⟩))) (fun h => by cases h) fun h => exd_nil (exd_nil ⟨_, rfl⟩))
    · obtain ⟨z, rfl⟩ := hI
      exact exd_cons (exs_ret evd_bl rfl)
/-! ### _law_due, _law_corners -/
def lawDue (n l w : Int) : Int := if n = 0 then 0 else if l = 1 then 1 + (n - 1) / ((w + 1) / 2) else 1 + 2 * (n - 1) / w
def R_due : List D → D → Prop := fun ds d => ∃ n l wd : Int, ds = [.int n, .int l, .int wd] ∧ (0 ≤ n ∧ n ≤ 1000 ∧ (n ≠ 0 → 1 ≤ wd ∧ wd ≤ 10000)) ∧ d = .int (lawDue n l wd)
theorem sc_due : FnScope ["letters", "longest", "width"] ["letters", "longest", "width"] (defScope (top 36)) := ⟨rfl, rfl, rfl, by decide +kernel, rfl, by decide +kernel, by decide +kernel⟩
theorem ok_due {f : Addr} {fd : FuncData} (F : Fun K "_law_due" "_law_due" (top 36) f fd) : FnOk P w K mg base CX0 1 f fd ["letters", "longest", "width"] (spD K R_due) := by
  refine fnD F sc_due _ (fun ds d ⟨_, _, _, h, _⟩ => by rw [h]; rfl) fun cdv A outer s H E ds d hr hR => ?_
  obtain ⟨n, l, wd, rfl, hp, rfl⟩ := hR
  refine exd_cons (exs_if (evt_eq (v 0) evd_int (.int _ _)) (fun h => exd_cons (exs_ret evd_int ?_)) (fun h => exd_nil ?_))
  · rw [beq_iff_eq] at h
    simp [lawDue, h]
  have hn : n ≠ 0 := by simpa using h
  refine exd_cons (exs_if (evt_eq (v 1) evd_int (.int _ _)) (fun h2 => exd_cons (exs_ret (evd_add evd_int (evd_fdiv (evd_sub (v 0) evd_int) (evd_fdiv (evd_add (v 2) evd_int) evd_int (by unfold CDiv; omega)) (by unfold CDiv; omega))) ?_)) (fun h2 => exd_nil (exd_cons (exs_ret (evd_add evd_int (evd_fdiv (evd_mul evd_int (evd_sub (v 0) evd_int) (by unfold CMul; omega)) (v 2) (by unfold CDiv; omega))) ?_))))
  · rw [beq_iff_eq] at h2
    simp [lawDue, hn, h2]
  · have : l ≠ 1 := by simpa using h2
    simp [lawDue, hn, this]
abbrev lcN (n l : Int) : Nat := (2 * n + 1 - min n l).toNat
def lcP (n l : Int) : List (Int × Int) := (List.range (lcN n l)).map fun (k : Nat) => (min n l + k, lawDue n l (min n l + k))
theorem lcP_take (n l : Int) {i : Nat} (h : i < lcN n l) : (lcP n l).take (i + 1) = (lcP n l).take i ++ [(min n l + i, lawDue n l (min n l + i))] := by
  refine take_snoc ?_
  unfold lcP
  rw [List.getElem?_map, List.getElem?_range h]
  rfl
def R_corners : List D → D → Prop := fun ds d => ∃ n l : Int, ds = [.int n, .int l] ∧ (0 ≤ n ∧ n ≤ 400 ∧ 1 ≤ l ∧ l ≤ 400) ∧ d = .lst (pD (hullF [] (lcP n l)))
abbrev N_corners : List Str := ["letters", "longest", "corners", "width", "lines"]
theorem sc_corners : FnScope N_corners ["letters", "longest"] (defScope (top 37)) := ⟨rfl, rfl, rfl, by decide +kernel, rfl, by decide +kernel, by decide +kernel⟩
theorem ok_corners (b : Bt mg) (c1 : C8.Cal P w K mg base 1 "_law_due" (spD K R_due) []) {f : Addr} {fd : FuncData} (F : Fun K "_law_corners" "_law_corners" (top 37) f fd) : FnOk P w K mg base CX0 2 f fd ["letters", "longest"] (spD K R_corners) := by
  refine fnD F sc_corners _ (fun ds d ⟨_, _, h, _⟩ => by rw [h]; rfl) fun cdv A outer s H E ds d hr hR => ?_
  obtain ⟨n, l, rfl, hp, rfl⟩ := hR
  refine exd_cons (sM 2 sc_corners.nd eva_nil ?_)
  refine exd_cons (exs_for (fun i env => ∃ x y : Cell, env = [.frz (.int n), .frz (.int l), .own (pD (hullF [] ((lcP n l).take i))), x, y]) rfl (irange2 b (bmin b (v 0) (v 1)) (evd_add (evd_mul evd_int (v 0) (by unfold CMul; omega)) evd_int) (by omega)) ⟨.junk, .junk, rfl⟩ (fun i d env1 hd hI => ?_) fun env1 hI => ?_)
  · obtain ⟨x, y, rfl⟩ := hI
    obtain ⟨hi, rfl⟩ := dRange_get hd
    refine ⟨_, tn 3 sc_corners.nd, ?_⟩
    have hlen := hullF_len ((lcP n l).take i) []
    simp only [List.length_take, List.length_nil] at hlen
    refine exd_cons (sv 4 sc_corners.nd (cl c1 hr (ac (v 0) (ac (v 1) (a1 (v 3)))) ⟨n, l, _, rfl, by omega, rfl⟩) ?_)
    have fin : ∀ kb : Bool, kb = keepB (hullF [] ((lcP n l).take i)) (min n l + i, lawDue n l (min n l + i)) → hullF [] ((lcP n l).take (i + 1)) = if kb = true then hullF [] ((lcP n l).take i) ++ [(min n l + i, lawDue n l (min n l + i))] else hullF [] ((lcP n l).take i) := fun kb e => by rw [lcP_take n l hi, hullF_snoc, e]
    cases hk : (hullF [] ((lcP n l).take i)).getLast? with
    | none =>
      have hn : hullF [] ((lcP n l).take i) = [] := List.getLast?_eq_none_iff.mp hk
      refine exd_cons (exs_if (evt_w (evw_or (l := true) (evt_eq (blen b (lv 2)) evd_int (.int _ _)) fun z => by rw [hn] at z; simp [pD] at z)) (fun h => exd_cons (ap 2 (evd_tup (ac (v 3) (a1 (v 4))) (by simp)) (exd_nil (exd_nil ⟨.frz (.int (min n l + i)), .frz (.int (lawDue n l (min n l + i))), ?_⟩)) ?_)) (fun h => by simp at h))
      · rw [fin true (by unfold keepB; rw [hk]), if_pos rfl]
        show [_, _, Cell.own (pD (hullF [] ((lcP n l).take i)) ++ [.tup [.int (min n l + i), .int (lawDue n l (min n l + i))]]), _, _] = _
        simp [pD]
      · rw [List.length_map]
        omega
    | some r =>
      have hkb : keepB (hullF [] ((lcP n l).take i)) (min n l + i, lawDue n l (min n l + i)) = decide (lawDue n l (min n l + i) < r.2) := by unfold keepB; rw [hk]
      refine exd_cons (exs_if (evt_w (evw_or (evt_eq (blen b (lv 2)) evd_int (.int _ _)) fun _ => evw_or1 (evt_lt (v 4) (evd_ixU (evd_ixL (lv 2) (ng evd_int) (d := prD r) (at_last (by rw [List.getLast?_map, hk]; rfl))) evd_int rfl)))) (fun h => exd_cons (ap 2 (evd_tup (ac (v 3) (a1 (v 4))) (by simp)) (exd_nil (exd_nil ⟨.frz (.int (min n l + i)), .frz (.int (lawDue n l (min n l + i))), ?_⟩)) ?_)) (fun h => exd_nil (exd_nil ⟨.frz (.int (min n l + i)), .frz (.int (lawDue n l (min n l + i))), ?_⟩)))
      · have h2 : decide (lawDue n l (min n l + i) < r.2) = true := by
          have e : (((pD (hullF [] ((lcP n l).take i))).length : Int) == 0) = false := by
            cases hh : hullF [] ((lcP n l).take i) with
            | nil => rw [hh] at hk; cases hk
            | cons a t => simp [pD]; omega
          rw [e] at h
          simpa using h
        rw [fin true (by rw [hkb, h2]), if_pos rfl]
        show [_, _, Cell.own (pD (hullF [] ((lcP n l).take i)) ++ [.tup [.int (min n l + i), .int (lawDue n l (min n l + i))]]), _, _] = _
        simp [pD]
      · rw [List.length_map]
        omega
      · have h2 : decide (lawDue n l (min n l + i) < r.2) = false := by
          rw [Bool.or_eq_false_iff] at h
          exact h.2
        rw [fin false (by rw [hkb, h2]), if_neg (by decide)]
        rfl
  · obtain ⟨x, y, rfl⟩ := hI
    rw [dRange_len]
    refine exd_freeze 2 rfl (exd_cons (exs_ret (v 2) ?_))
    have e : (lcP n l).take (2 * n + 1 - min n l).toNat = lcP n l := List.take_of_length_le (by simp [lcP, lcN])
    rw [e]
end
end Dt
set_option maxHeartbeats 2000000
namespace Dt
/-! ### the plain law of lines_after -/
/-- x / w by its bounds -/
theorem ediv_le_iff {x y w : Int} (hw : 0 < w) (h : x ≤ y) : x / w ≤ y / w := Int.ediv_le_ediv hw h
theorem ediv_sub {x w : Int} (hw : 0 < w) : (x - w) / w = x / w - 1 := by
  have := Int.add_mul_ediv_right x (-1) (c := w) (by omega)
  have e : x + -1 * w = x - w := by omega
  rw [e] at this
  omega
theorem ediv_zero {x w : Int} (h0 : 0 ≤ x) (h : x < w) : x / w = 0 := Int.ediv_eq_zero_of_lt h0 h
theorem la_zero (f l w : Int) : linesAfter 0 f l w = 0 := by simp [linesAfter]
/-- for words of two letters and more -/
theorem la_two {n f l w : Int} (hn : n ≠ 0) (hl : l ≠ 1) : linesAfter n f l w = if 2 * n - 1 - max f 1 < 0 then 0 else 1 + (2 * n - 1 - max f 1) / w := by
  unfold linesAfter
  rw [if_neg hn, if_neg hl]
theorem la_one {n f w : Int} (hn : n ≠ 0) : linesAfter n f 1 w = (max (n - f / 2) 0 + (w + 1) / 2 - 1) / ((w + 1) / 2) := by
  unfold linesAfter
  rw [if_neg hn, if_pos rfl]
/-- each next word leaves at most so many lines -/
theorem la_upper {n f l w m : Int} (h : preA n f l w) (hf : f < w ∨ f = 0) (h1 : 1 ≤ m) (h2 : m ≤ min n l) : linesWith m n f l w ≤ linesAfter n f l w := by
  unfold preA at h
  have hn : n ≠ 0 := by omega
  have hw : 0 < w := by omega
  unfold linesWith
  by_cases hl : l = 1
  · subst hl
    have hm : m = 1 := by omega
    subst hm
    have hk : 0 < (w + 1) / 2 := by omega
    rw [la_one hn]
    by_cases hmf : (1 : Int) < f
    · rw [if_pos hmf]
      by_cases hz : n - 1 = 0
      · rw [hz, la_zero]
        exact Int.ediv_nonneg (by omega) (by omega)
      · rw [la_one hz]
        refine ediv_le_iff hk ?_
        omega
    · rw [if_neg hmf]
      by_cases hz : n - 1 = 0
      · rw [hz, la_zero]
        have : (1 : Int) ≤ (max (n - f / 2) 0 + (w + 1) / 2 - 1) / ((w + 1) / 2) := by
          rw [Int.le_ediv_iff_mul_le hk]
          omega
        omega
      · rw [la_one hz]
        have e : (max (n - f / 2) 0 + (w + 1) / 2 - 1) = (n - 1) + (w + 1) / 2 := by omega
        rw [e]
        have e2 : ((n - 1) + (w + 1) / 2) / ((w + 1) / 2) = (n - 1) / ((w + 1) / 2) + 1 := by
          have := ediv_sub (x := (n - 1) + (w + 1) / 2) hk
          have e3 : (n - 1) + (w + 1) / 2 - (w + 1) / 2 = n - 1 := by omega
          rw [e3] at this
          omega
        rw [e2]
        have : (max (n - 1 - (w - 1) / 2) 0 + (w + 1) / 2 - 1) / ((w + 1) / 2) ≤ (n - 1) / ((w + 1) / 2) := by
          by_cases hq : n - 1 - (w - 1) / 2 ≤ 0
          · have : (max (n - 1 - (w - 1) / 2) 0 + (w + 1) / 2 - 1) / ((w + 1) / 2) = 0 := ediv_zero (by omega) (by omega)
            rw [this]
            exact Int.ediv_nonneg (by omega) (by omega)
          · exact ediv_le_iff hk (by omega)
        omega
  · rw [la_two hn hl]
    by_cases hmf : m < f
    · rw [if_pos hmf]
      by_cases hz : n - m = 0
      · rw [hz, la_zero]
        split
        · omega
        · have := Int.ediv_nonneg (a := 2 * n - 1 - max f 1) (b := w) (by omega) (by omega)
          omega
      · rw [la_two hz hl]
        split
        · split
          · omega
          · have := Int.ediv_nonneg (a := 2 * n - 1 - max f 1) (b := w) (by omega) (by omega)
            omega
        · rw [if_neg (by omega)]
          have := ediv_le_iff (x := 2 * (n - m) - 1 - max (f - m - 1) 1) (y := 2 * n - 1 - max f 1) hw (by omega)
          omega
    · rw [if_neg hmf, if_neg (by omega)]
      by_cases hz : n - m = 0
      · rw [hz, la_zero]
        have := Int.ediv_nonneg (a := 2 * n - 1 - max f 1) (b := w) (by omega) (by omega)
        omega
      · rw [la_two hz hl]
        split
        · have := Int.ediv_nonneg (a := 2 * n - 1 - max f 1) (b := w) (by omega) (by omega)
          omega
        · have h3 := ediv_sub (x := 2 * n - 1 - max f 1) hw
          have := ediv_le_iff (x := 2 * (n - m) - 1 - max (w - m) 1) (y := 2 * n - 1 - max f 1 - w) hw (by omega)
          omega
/-- and one of them leaves just so many -/
theorem la_reach {n f l w : Int} (h : preA n f l w) (hf : f < w ∨ f = 0) (h1 : 1 ≤ n) : ∃ m, 1 ≤ m ∧ m ≤ min n l ∧ linesWith m n f l w = linesAfter n f l w := by
  unfold preA at h
  have hn : n ≠ 0 := by omega
  have hw : 0 < w := by omega
  by_cases hl : l = 1
  · subst hl
    refine ⟨1, by omega, by omega, ?_⟩
    have hk : 0 < (w + 1) / 2 := by omega
    unfold linesWith
    rw [la_one hn]
    by_cases hmf : (1 : Int) < f
    · rw [if_pos hmf]
      by_cases hz : n - 1 = 0
      · rw [hz, la_zero]
        exact (ediv_zero (by omega) (by omega)).symm
      · rw [la_one hz]
        congr 2
        omega
    · rw [if_neg hmf]
      have e : (max (n - f / 2) 0 + (w + 1) / 2 - 1) = (n - 1) + (w + 1) / 2 := by omega
      rw [e]
      have e2 : ((n - 1) + (w + 1) / 2) / ((w + 1) / 2) = (n - 1) / ((w + 1) / 2) + 1 := by
        have := ediv_sub (x := (n - 1) + (w + 1) / 2) hk
        have e3 : (n - 1) + (w + 1) / 2 - (w + 1) / 2 = n - 1 := by omega
        rw [e3] at this
        omega
      rw [e2]
      by_cases hz : n - 1 = 0
      · rw [hz, la_zero]
        simp
      · rw [la_one hz]
        by_cases hq : n - 1 - (w - 1) / 2 ≤ 0
        · have e4 : (max (n - 1 - (w - 1) / 2) 0 + (w + 1) / 2 - 1) / ((w + 1) / 2) = 0 := ediv_zero (by omega) (by omega)
          have e5 : (n - 1) / ((w + 1) / 2) = 0 := ediv_zero (by omega) (by omega)
          omega
        · have e4 : (max (n - 1 - (w - 1) / 2) 0 + (w + 1) / 2 - 1) = n - 1 := by omega
          rw [e4]
          omega
  · by_cases h3 : 3 ≤ f
    · refine ⟨1, by omega, by omega, ?_⟩
      unfold linesWith
      rw [if_pos (by omega), la_two hn hl]
      by_cases hz : n - 1 = 0
      · rw [hz, la_zero, if_pos (by omega)]
      · rw [la_two hz hl]
        have e : 2 * (n - 1) - 1 - max (f - 1 - 1) 1 = 2 * n - 1 - max f 1 := by omega
        rw [e]
    · by_cases h2 : f = 2
      · subst h2
        by_cases hn1 : n = 1
        · subst hn1
          refine ⟨1, by omega, by omega, ?_⟩
          unfold linesWith
          rw [if_pos (by omega), la_two hn hl, if_pos (by omega)]
          exact la_zero _ _ _
        · refine ⟨2, by omega, by omega, ?_⟩
          unfold linesWith
          rw [if_neg (by omega), la_two hn hl, if_neg (by omega)]
          by_cases hz : n - 2 = 0
          · rw [hz, la_zero]
            have e : (2 * n - 1 - max 2 1) / w = 0 := ediv_zero (by omega) (by omega)
            omega
          · rw [la_two hz hl]
            have e := ediv_sub (x := 2 * n - 1 - max 2 1) hw
            have e2 : 2 * (n - 2) - 1 - max (w - 2) 1 = 2 * n - 1 - max 2 1 - w := by omega
            rw [e2, e]
            split
            · rw [ediv_zero (x := 2 * n - 1 - max 2 1) (by omega) (by omega)]
            · omega
      · refine ⟨1, by omega, by omega, ?_⟩
        unfold linesWith
        rw [if_neg (by omega), la_two hn hl, if_neg (by omega)]
        by_cases hz : n - 1 = 0
        · rw [hz, la_zero]
          have e : (2 * n - 1 - max f 1) / w = 0 := ediv_zero (by omega) (by omega)
          omega
        · rw [la_two hz hl]
          have e := ediv_sub (x := 2 * n - 1 - max f 1) hw
          have e2 : 2 * (n - 1) - 1 - max (w - 1) 1 = 2 * n - 1 - max f 1 - w := by omega
          rw [e2, e]
          split
          · rw [ediv_zero (x := 2 * n - 1 - max f 1) (by omega) (by omega)]
          · omega
/-- there is a least next word, and a whole row of them -/
theorem nl_ex {n f l w : Int} (h : preA n f l w) (hf : f < w ∨ f = 0) (h1 : 1 ≤ n) : ∃ m, IsNL n f l w m := by
  obtain ⟨m, m1, m2, m3⟩ := la_reach h hf h1
  have key : ∀ k : Nat, ∀ m : Int, 1 ≤ m → m ≤ min n l → linesWith m n f l w = linesAfter n f l w → m.toNat ≤ k → ∃ m, IsNL n f l w m := by
    intro k
    induction k with
    | zero => intro m a _ _ d; omega
    | succ k ih =>
      intro m a b c d
      by_cases hx : ∃ j, 1 ≤ j ∧ j < m ∧ linesWith j n f l w = linesAfter n f l w
      · obtain ⟨j, j1, j2, j3⟩ := hx
        exact ih j j1 (by omega) j3 (by omega)
      · exact ⟨m, a, b, c, fun j j1 j2 j3 => hx ⟨j, j1, j2, j3⟩⟩
  exact key m.toNat m m1 m2 m3 (Nat.le_refl _)
theorem wl_ex : ∀ (k : Nat) (n f l w : Int), n.toNat ≤ k → preA n f l w → (f < w ∨ f = 0) → ∃ lens, WL l w n f lens
  | 0, n, f, l, w, hk, h, hf => by
    unfold preA at h
    have : n = 0 := by omega
    subst this
    exact ⟨[], .nil f⟩
  | k + 1, n, f, l, w, hk, h, hf => by
    by_cases hz : n = 0
    · subst hz
      exact ⟨[], .nil f⟩
    · have h' := h
      unfold preA at h
      obtain ⟨m, hm⟩ := nl_ex h' hf (by omega)
      have hm' := hm
      unfold IsNL at hm
      obtain ⟨t, ht⟩ := wl_ex k (n - m) (if m < f then f - m - 1 else w - m) l w (by omega) (by unfold preA; split <;> omega) (by split <;> omega)
      exact ⟨m :: t, .cons (by omega) hm' ht⟩
theorem wl_facts {l w : Int} : ∀ {n f : Int} {lens : List Int}, WL l w n f lens → preA n f l w → lens.sum = n ∧ (lens.length : Int) ≤ n ∧ ∀ m ∈ lens, 1 ≤ m ∧ m ≤ l ∧ m ≤ w
  | _, _, _, .nil f, h => by simp
  | _, _, _, .cons (n := n) (f := f) (m := m) (t := t) h1 h2 h3, h => by
    have hm := h2
    unfold IsNL at hm
    unfold preA at h
    obtain ⟨a, b, c⟩ := wl_facts h3 (by unfold preA; split <;> omega)
    refine ⟨by rw [List.sum_cons, a]; omega, by simp; omega, fun x hx => ?_⟩
    rcases List.mem_cons.mp hx with e | hx
    · omega
    · exact c x hx
/-- the lines that a row of lengths begins, f free on the last line -/
def linesOf (w : Int) : Int → List Int → Int
  | _, [] => 0
  | f, m :: t => if m < f then linesOf w (f - m - 1) t else 1 + linesOf w (w - m) t
theorem wl_lines {l w : Int} : ∀ {n f : Int} {lens : List Int}, WL l w n f lens → linesOf w f lens = linesAfter n f l w
  | _, _, _, .nil f => (la_zero f l w).symm
  | _, _, _, .cons (n := n) (f := f) (m := m) (t := t) h1 h2 h3 => by
    have ih := wl_lines h3
    unfold IsNL at h2
    rw [← h2.2.2.1]
    unfold linesOf linesWith
    by_cases hm : m < f
    · rw [if_pos hm] at ih ⊢
      rw [if_pos hm, ih]
    · rw [if_neg hm] at ih ⊢
      rw [if_neg hm, ih]
/-- any row of lengths that fits begins at most so many -/
theorem lines_le {l w : Int} : ∀ (lens : List Int) (n f : Int), preA n f l w → (f < w ∨ f = 0) → (∀ m ∈ lens, 1 ≤ m ∧ m ≤ l) → lens.sum ≤ n → linesOf w f lens ≤ linesAfter n f l w
  | [], n, f, h, hf, _, _ => by
    unfold preA at h
    exact linesAfter_nonneg (by omega) (by omega)
  | m :: t, n, f, h, hf, hm, hs => by
    have h0 := hm m List.mem_cons_self
    have ht : 0 ≤ t.sum := by
      have : ∀ s : List Int, (∀ x ∈ s, 1 ≤ x ∧ x ≤ l) → 0 ≤ s.sum := by
        intro s
        induction s with
        | nil => simp
        | cons a s ih =>
          intro hx
          have h1 := hx a List.mem_cons_self
          have h2 := ih fun y hy => hx y (List.mem_cons_of_mem _ hy)
          simp
          omega
      exact this t fun x hx => hm x (List.mem_cons_of_mem _ hx)
    simp only [List.sum_cons] at hs
    have h' := h
    unfold preA at h'
    have up := la_upper (m := m) h hf h0.1 (by omega)
    unfold linesOf
    unfold linesWith at up
    by_cases hmf : m < f
    · rw [if_pos hmf] at up ⊢
      have := lines_le (l := l) (w := w) t (n - m) (f - m - 1) (by unfold preA; omega) (by omega) (fun x hx => hm x (List.mem_cons_of_mem _ hx)) (by omega)
      omega
    · rw [if_neg hmf] at up ⊢
      have := lines_le (l := l) (w := w) t (n - m) (w - m) (by unfold preA; omega) (by omega) (fun x hx => hm x (List.mem_cons_of_mem _ hx)) (by omega)
      omega
theorem due_eq {n l w : Int} (hn : 0 ≤ n) (hl : 1 ≤ l) (hw : n ≠ 0 → 1 ≤ w) : lawDue n l w = linesAfter n 0 l w := by
  unfold lawDue
  by_cases hz : n = 0
  · subst hz
    rw [if_pos rfl, la_zero]
  · have hw := hw hz
    rw [if_neg hz]
    by_cases h1 : l = 1
    · subst h1
      rw [if_pos rfl, la_one hz]
      have hk : 0 < (w + 1) / 2 := by omega
      have e : (max (n - 0 / 2) 0 + (w + 1) / 2 - 1) = (n - 1) + (w + 1) / 2 := by omega
      rw [e]
      have := ediv_sub (x := (n - 1) + (w + 1) / 2) hk
      have e3 : (n - 1) + (w + 1) / 2 - (w + 1) / 2 = n - 1 := by omega
      rw [e3] at this
      omega
    · rw [if_neg h1, la_two hz h1, if_neg (by omega)]
      have e : 2 * n - 1 - max 0 1 = 2 * (n - 1) := by omega
      rw [e]
/-- fewer lines at a greater width -/
theorem due_anti {n l w w' : Int} (hn : 0 ≤ n) (hl : 1 ≤ l) (h1 : n ≠ 0 → 1 ≤ w) (h : w ≤ w') : lawDue n l w' ≤ lawDue n l w := by
  have key : ∀ x a b : Int, 0 ≤ x → 1 ≤ a → a ≤ b → x / b ≤ x / a := fun x a b hx ha hb => by
    rw [Int.le_ediv_iff_mul_le (by omega)]
    have h2 := Int.ediv_mul_le x (b := b) (by omega)
    have h3 : 0 ≤ x / b := Int.ediv_nonneg hx (by omega)
    have h4 : x / b * a ≤ x / b * b := Int.mul_le_mul_of_nonneg_left hb h3
    omega
  unfold lawDue
  by_cases hz : n = 0
  · rw [if_pos hz, if_pos hz]
    exact Int.le_refl _
  · have hw := h1 hz
    rw [if_neg hz, if_neg hz]
    by_cases h2 : l = 1
    · rw [if_pos h2, if_pos h2]
      have := key (n - 1) ((w + 1) / 2) ((w' + 1) / 2) (by omega) (by omega) (by omega)
      omega
    · rw [if_neg h2, if_neg h2]
      have := key (2 * (n - 1)) w w' (by omega) (by omega) (by omega)
      omega
end Dt
set_option maxHeartbeats 2000000
namespace Dt
open PySem PySem.Spec PyProof.Rows L2
section
variable {P : Program} {w : World} {K : PySem.W.Frag} {mg : Str → Option Value} {base : Heap}
/-! ### _law_is_stairs -/
def R_is_stairs (S : Addr) : List D → D → Prop := fun ds d => ∃ ps : List (Int × Int), ds = [stD S ps, .lst (pD ps)] ∧ ps.length ≤ 100000 ∧ d = .bl true
abbrev N_is_stairs : List Str := ["told", "due", "k"]
theorem sc_is_stairs : FnScope N_is_stairs ["told", "due"] (defScope (top 38)) := ⟨rfl, rfl, rfl, by decide +kernel, rfl, by decide +kernel, by decide +kernel⟩
theorem ok_is_stairs (b : Bt mg) {S : Addr} (T : StT K S) (TI : ClI K S) (hS : mg "Stairs" = some (.ref S)) (hk : PySem.W.kitOne K (.ref S) (.ref S) = some true) (c1 : C8.Cal P w K mg base 2 "_law_same" (spD K R_same1) []) {f : Addr} {fd : FuncData} (F : Fun K "_law_is_stairs" "_law_is_stairs" (top 38) f fd) : FnOk P w K mg base CX0 3 f fd ["told", "due"] (spD K (R_is_stairs S)) := by
  refine fnD F sc_is_stairs _ (fun ds d ⟨_, h, _⟩ => by rw [h]; rfl) fun cdv A outer s H E ds d hr hR => ?_
  obtain ⟨ps, rfl, hl, rfl⟩ := hR
  refine exd_cons (exs_if (evt_w (evw_or (evt_not (tisC b (v 0) TI hS hk)) fun _ => evw_or (evt_not (tisi "tuple" true b (evd_fld (v 0) T.cl T.nc rfl) (.tup _) b.tuple)) fun _ => evw_or1 (evt_ne (blenU b (evd_fld (v 0) T.cl T.nc rfl)) (blen b (evl_of (v 1))) (.int _ _)))) (fun h => by simp at h) fun h => exd_nil ?_)
  refine exd_cons (exs_for (fun i env => ∃ z : Cell, env = [.frz (stD S ps), .frz (.lst (pD ps)), z]) rfl (irange b (blen b (evl_of (v 1))) (by simp; omega)) ⟨_, rfl⟩ (fun i d env1 hd hI => ?_) fun env1 hI => ?_)
  · obtain ⟨z, rfl⟩ := hI
    obtain ⟨hi, rfl⟩ := dRange_get hd
    rw [Int.toNat_natCast, List.length_map] at hi
    have e : (pD ps)[i]? = some (prD ps[i]) := by rw [List.getElem?_map, List.getElem?_eq_getElem hi]; rfl
    refine ⟨_, tn 2 sc_is_stairs.nd, ?_⟩
    refine exd_cons (exs_if (evt_not (evt_val (cl c1 hr (ac (evd_tup (ac (evd_ixU (evd_ixU (evd_fld (v 0) T.cl T.nc rfl) (v 2) (d := prD ps[i]) (at_int (j := i) (by omega) e)) evd_int rfl) (a1 (evd_ixU (evd_ixU (evd_fld (v 0) T.cl T.nc rfl) (v 2) (d := prD ps[i]) (at_int (j := i) (by omega) e)) evd_int rfl))) (by simp)) (a1 (evd_ixL (evl_of (v 1)) (v 2) (d := prD ps[i]) (at_int (j := i) (by omega) e)))) ⟨prD ps[i], _, rfl, .inr rfl, ⟨by simp, fun y hy => ?_⟩, rfl⟩))) (fun h => by cases h) fun h => exd_nil (exd_nil ⟨_, rfl⟩))
    simp only [List.mem_cons, List.not_mem_nil, or_false] at hy
    rcases hy with rfl | rfl <;> exact .int _
  · obtain ⟨z, rfl⟩ := hI
    exact exd_cons (exs_ret evd_bl rfl)
/-! ### _law_holds, _law_greatest -/
abbrev rmD (r : Int × Int) : D := prD r
def holdsB (n l : Int) (r : Int × Int) : Bool := decide (min n l ≤ r.1) && decide (lawDue n l r.1 ≤ r.2)
def R_holds : List D → D → Prop := fun ds d => ∃ (n l : Int) (r : Int × Int), ds = [.int n, .int l, rmD r] ∧ (0 ≤ n ∧ n ≤ 1000 ∧ 1 ≤ l ∧ l ≤ 1000 ∧ 0 ≤ r.1 ∧ r.1 ≤ 10000) ∧ d = .bl (holdsB n l r)
theorem sc_holds : FnScope ["letters", "longest", "room"] ["letters", "longest", "room"] (defScope (top 40)) := ⟨rfl, rfl, rfl, by decide +kernel, rfl, by decide +kernel, by decide +kernel⟩
theorem ok_holds (b : Bt mg) (c1 : C8.Cal P w K mg base 1 "_law_due" (spD K R_due) []) {f : Addr} {fd : FuncData} (F : Fun K "_law_holds" "_law_holds" (top 40) f fd) : FnOk P w K mg base CX0 2 f fd ["letters", "longest", "room"] (spD K R_holds) := by
  refine fnD F sc_holds _ (fun ds d ⟨_, _, _, h, _⟩ => by rw [h]; rfl) fun cdv A outer s H E ds d hr hR => ?_
  obtain ⟨n, l, r, rfl, hp, rfl⟩ := hR
  exact exd_cons (exs_ret (evd_and (evd_ge (evd_ixU (v 2) evd_int rfl) (bmin b (v 0) (v 1))) fun h => evd_and1 (evd_le (cl c1 hr (ac (v 0) (ac (v 1) (a1 (evd_ixU (v 2) evd_int rfl)))) ⟨n, l, r.1, rfl, by rw [decide_eq_true_eq] at h; omega, rfl⟩) (evd_ixU (v 2) evd_int rfl))) rfl)
def greatest (l : Int) (r : Int × Int) : Nat → Int
  | 0 => 0
  | k + 1 => if holdsB k l r then k else greatest l r k
def R_greatest : List D → D → Prop := fun ds d => ∃ (l : Int) (r : Int × Int), ds = [.int l, rmD r] ∧ (1 ≤ l ∧ l ≤ 1000 ∧ 0 ≤ r.1 ∧ r.1 ≤ 10000) ∧ d = .int (greatest l r 61)
theorem sc_greatest : FnScope ["longest", "room", "best", "letters"] ["longest", "room"] (defScope (top 41)) := ⟨rfl, rfl, rfl, by decide +kernel, rfl, by decide +kernel, by decide +kernel⟩
theorem ok_greatest (b : Bt mg) (c1 : C8.Cal P w K mg base 2 "_law_holds" (spD K R_holds) []) {f : Addr} {fd : FuncData} (F : Fun K "_law_greatest" "_law_greatest" (top 41) f fd) : FnOk P w K mg base CX0 3 f fd ["longest", "room"] (spD K R_greatest) := by
  refine fnD F sc_greatest _ (fun ds d ⟨_, _, h, _⟩ => by rw [h]; rfl) fun cdv A outer s H E ds d hr hR => ?_
  obtain ⟨l, r, rfl, hp, rfl⟩ := hR
  refine exd_cons (sv 2 sc_greatest.nd evd_int ?_)
  refine exd_cons (exs_for (fun i env => ∃ z : Cell, env = [.frz (.int l), .frz (rmD r), .frz (.int (greatest l r i)), z]) rfl (irange b evd_int (by omega)) ⟨.junk, rfl⟩ (fun i d env1 hd hI => ?_) fun env1 hI => ?_)
  · obtain ⟨z, rfl⟩ := hI
    obtain ⟨hi, rfl⟩ := dRange_get hd
    have hi : i < 61 := hi
    refine ⟨_, tn 3 sc_greatest.nd, ?_⟩
    have e0 : (0 : Int) + (i : Int) = i := by omega
    have e1 : greatest l r (i + 1) = if holdsB i l r then (i : Int) else greatest l r i := rfl
    refine exd_cons (exs_if (evt_val (cl c1 hr (ac (v 3) (ac (v 0) (a1 (v 1)))) ⟨_, l, r, rfl, by omega, rfl⟩)) (fun h => exd_cons (sv 2 sc_greatest.nd (v 3) (exd_nil (exd_nil ?_)))) fun h => exd_nil (exd_nil ?_))
    · rw [e0] at h
      refine ⟨.frz (.int (0 + i)), ?_⟩
      rw [e1, if_pos h, e0]
      rfl
    · rw [e0] at h
      refine ⟨.frz (.int (0 + i)), ?_⟩
      rw [e1, if_neg (by rw [h]; decide)]
      rfl
  · obtain ⟨z, rfl⟩ := hI
    exact exd_cons (exs_ret (v 2) rfl)
/-! ### _law_broken -/
def R_broken : List D → D → Prop := fun ds d => ∃ (ws : List Str) (wd : Int), ds = [.lst (wsD ws), .int wd] ∧ (wd ≤ 10000 ∧ ws.length ≤ 10000 ∧ ∀ t ∈ ws, t.length ≤ 10000) ∧ d = .lst (wsD (brk wd ws))
abbrev N_broken : List Str := ["words", "width", "lines", "word"]
theorem sc_broken : FnScope N_broken ["words", "width"] (defScope (top 42)) := ⟨rfl, rfl, rfl, by decide +kernel, rfl, by decide +kernel, by decide +kernel⟩
theorem ok_broken (b : Bt mg) {f : Addr} {fd : FuncData} (F : Fun K "_law_broken" "_law_broken" (top 42) f fd) : FnOk P w K mg base CX0 1 f fd ["words", "width"] (spD K R_broken) := by
  refine fnD F sc_broken _ (fun ds d ⟨_, _, h, _⟩ => by rw [h]; rfl) fun cdv A outer s H E ds d hr hR => ?_
  obtain ⟨ws, wd, rfl, ⟨hwd, hl, hw⟩, rfl⟩ := hR
  refine exd_cons (sM 2 sc_broken.nd eva_nil ?_)
  refine exd_cons (exs_for (fun i env => ∃ y : Cell, env = [.frz (.lst (wsD ws)), .frz (.int wd), .own (wsD (brk wd (ws.take i))), y]) rfl (evi_list (v 0)) ⟨.junk, rfl⟩ (fun i d env1 hd hI => ?_) fun env1 hI => ?_)
  · obtain ⟨y, rfl⟩ := hI
    obtain ⟨t, ht, rfl⟩ := map_get hd
    have hv := hw t (List.mem_of_getElem? ht)
    have hi := (List.getElem?_eq_some_iff.mp ht).1
    have hlen := brk_len (M := 10000) (by omega) (ws := ws.take i) (fun t ht => hw t (List.mem_of_mem_take ht))
    have hcnt := brk_count wd (ws.take i)
    rw [List.length_take] at hcnt
    refine ⟨_, tn 3 sc_broken.nd, ?_⟩
    cases hk : (brk wd (ws.take i)).getLast? with
    | none =>
      have hn : brk wd (ws.take i) = [] := List.getLast?_eq_none_iff.mp hk
      refine exd_cons (exs_if (evt_w (evw_and (l := false) (evt_gt (blen b (lv 2)) evd_int) fun z => ?_)) (fun h => ?_) (fun h => exd_cons (ap 2 (v 3) (exd_nil (exd_nil ⟨.frz (.str t), ?_⟩)) ?_)))
      · rw [hn] at z
        simp at z
      · simp at h
      · rw [take_snoc ht, brk_snoc]
        unfold brkS
        rw [hk]
        show [_, _, Cell.own (wsD (brk wd (ws.take i)) ++ [.str t]), _] = _
        simp [wsD]
      · rw [List.length_map]
        omega
    | some l =>
      have hll := hlen l (List.mem_of_getLast? hk)
      have hlast : ∀ ds : List D, ds = wsD (brk wd (ws.take i)) → L2.atI ds (-1) = some (.str l) := fun ds e => at_last (by rw [e, List.getLast?_map, hk]; rfl)
      have hpos : 0 < (brk wd (ws.take i)).length := by
        cases hh : brk wd (ws.take i) with
        | nil => rw [hh] at hk; cases hk
        | cons a t => simp
      refine exd_cons (exs_if (evt_w (evw_and (evt_gt (blen b (lv 2)) evd_int) fun z => evw_and1 (evt_le (evd_add (evd_add (blenS b (evd_ixL (lv 2) (ng evd_int) (hlast _ rfl)) (by omega)) evd_int) (blenS b (v 3) (by omega))) (v 1)))) (fun h => ?_) (fun h => ?_))
      · have h2 : (l.length : Int) + 1 + t.length ≤ wd := by
          simp only [Bool.and_eq_true, decide_eq_true_eq] at h
          exact h.2
        refine exd_cons (exs_setItem 2 (d := .str (l ++ SP ++ t)) (n := -1) (j := (brk wd (ws.take i)).length - 1) rfl rfl (.inl rfl) (evd_addS (evd_addS (evd_ixL (lv 2) (ng evd_int) (hlast _ rfl)) evd_str ?_) (v 3) ?_) (ng evd_int) ?_ (exd_nil (exd_nil ⟨.frz (.str t), ?_⟩)))
        · have e : SP.length = 1 := by decide
          show l.length + SP.length ≤ _
          omega
        · rw [len_app]
          have e : SP.length = 1 := by decide
          show l.length + SP.length + _ ≤ _
          omega
        · rw [List.length_map]
          exact ixN_last hpos
        · rw [take_snoc ht, brk_snoc]
          unfold brkS
          rw [hk]
          show [_, _, Cell.own ((wsD (brk wd (ws.take i))).set _ _), _] = _
          have e : (wsD (brk wd (ws.take i))).set ((brk wd (ws.take i)).length - 1) (.str (l ++ SP ++ t)) = wsD ((brk wd (ws.take i)).dropLast ++ [l ++ SP ++ t]) := by
            rcases snoc_cases (brk wd (ws.take i)) with e | ⟨m, x, e⟩
            · rw [e] at hpos; cases hpos
            · rw [e]
              simp [wsD, List.set_append]
          rw [e]
          simp only [if_pos h2]
      · have h2 : ¬ (l.length : Int) + 1 + t.length ≤ wd := by
          intro z
          have h3 : decide ((0 : Int) < ((wsD (brk wd (ws.take i))).length : Nat)) = true := by
            rw [decide_eq_true_eq, List.length_map]
            omega
          rw [h3] at h
          simp at h
          omega
        refine exd_cons (ap 2 (v 3) (exd_nil (exd_nil ⟨.frz (.str t), ?_⟩)) ?_)
        · rw [take_snoc ht, brk_snoc]
          unfold brkS
          rw [hk]
          show [_, _, Cell.own (wsD (brk wd (ws.take i)) ++ [.str t]), _] = _
          simp only [if_neg h2]
          simp [wsD]
        · rw [List.length_map]
          omega
  · obtain ⟨y, rfl⟩ := hI
    rw [List.length_map, List.take_length]
    exact exd_freeze 2 rfl (exd_cons (exs_ret (v 2) rfl))
/-! ### _law_is_worst -/
def R_is_worst : List D → D → Prop := fun ds d => ∃ (n l wd : Int) (lens : List Int), ds = [.tup (dInts lens), .int n, .int l, .int wd] ∧ (0 ≤ n ∧ n ≤ 1000 ∧ (n ≠ 0 → 1 ≤ wd) ∧ wd ≤ 10000 ∧ l ≤ 1000 ∧ lens.length ≤ 1000 ∧ (∀ m ∈ lens, 1 ≤ m ∧ m ≤ l) ∧ lens.sum = n ∧ nL wd (lens.map fun m => Txt.mul "x" m) = lawDue n l wd) ∧ d = .bl true
abbrev N_is_worst : List Str := ["lengths", "letters", "longest", "width", "size", "words"]
theorem sc_is_worst : FnScope N_is_worst ["lengths", "letters", "longest", "width"] (defScope (top 46)) := ⟨rfl, rfl, rfl, by decide +kernel, rfl, by decide +kernel, by decide +kernel⟩
theorem ok_is_worst (b : Bt mg) (c1 : C8.Cal P w K mg base 1 "_law_due" (spD K R_due) []) (c2 : C8.Cal P w K mg base 1 "_law_broken" (spD K R_broken) []) {f : Addr} {fd : FuncData} (F : Fun K "_law_is_worst" "_law_is_worst" (top 46) f fd) : FnOk P w K mg base CX0 2 f fd ["lengths", "letters", "longest", "width"] (spD K R_is_worst) := by
  refine fnD F sc_is_worst _ (fun ds d ⟨_, _, _, _, h, _⟩ => by rw [h]; rfl) fun cdv A outer s H E ds d hr hR => ?_
  obtain ⟨n, l, wd, lens, rfl, ⟨h1, h2, h3, h4, h5, h6, h7, h8, h9⟩, rfl⟩ := hR
  refine exd_cons (exs_if (evt_not (tisi "tuple" true b (v 0) (.tup _) b.tuple)) (fun h => by cases h) fun h => exd_nil ?_)
  refine exd_cons (exs_for (fun i env => ∃ z : Cell, env = [.frz (.tup (dInts lens)), .frz (.int n), .frz (.int l), .frz (.int wd), z, .junk]) rfl (evi_tup (v 0)) ⟨.junk, rfl⟩ (fun i d env1 hd hI => ?_) fun env1 hI => ?_)
  · obtain ⟨z, rfl⟩ := hI
    obtain ⟨m, hm, rfl⟩ := map_get hd
    have hv := h7 m (List.mem_of_getElem? hm)
    refine ⟨_, tn 4 sc_is_worst.nd, ?_⟩
    refine exd_cons (exs_if (evt_w (evw_or (evt_not (tisi "int" true b (v 4) (.int _) b.int)) fun _ => evw_or (tisi "bool" false b (v 4) (.int _) b.bool) fun _ => evw_or1 (evt_not (evt_le_le evd_int (v 4) (v 2))))) (fun h => ?_) fun h => exd_nil (exd_nil ⟨_, rfl⟩))
    simp at h
    omega
  obtain ⟨z, rfl⟩ := hI
  refine exd_cons (exs_setLcM (i := 5) (own := [("size", 4)]) (l := lens) (en := D.int) (fn := xsS) rfl sc_is_worst.nd rfl rfl (evi_tup (v 0)) (blkOk_by (N := N_is_worst) (sc := defScope (top 46)) (by decide +kernel)) (by omega) (fun m hm => ?_) ?_ (sw_true rfl rfl rfl (by decide +kernel)))
  · have := h7 m hm
    exact ⟨[(4, .int m)], by simp, fun s H C cl fp => tn 4 sc_is_worst.nd, fun s H C cl' fp => evd_mulS evd_str (v 4) (by decide) (by omega)⟩
  have hws : R_broken [.lst (lens.map xsS), .int wd] (.lst (wsD (brk wd (lens.map fun m => Txt.mul "x" m)))) := by
    refine ⟨lens.map fun m => Txt.mul "x" m, wd, by simp [wsD, xsS], ⟨h4, by simp; omega, fun t ht => ?_⟩, rfl⟩
    obtain ⟨m, hm, rfl⟩ := List.mem_map.mp ht
    have := h7 m hm
    have := len_x (m := m) (by omega)
    omega
  refine exd_cons (exs_ret (evd_and (evd_eq (evd_sumU rfl rfl b.sum (v 0)) (v 1) (.int _ _)) fun _ => evd_and1 (evd_eq (blen b (evl_of (cl c2 hr (ac (v 5) (a1 (v 3))) hws))) (cl c1 hr (ac (v 1) (ac (v 2) (a1 (v 3)))) ⟨n, l, wd, rfl, by omega, rfl⟩) (.int _ _))) ?_)
  have e : (((wsD (brk wd (lens.map fun m => Txt.mul "x" m))).length : Nat) : Int) = lawDue n l wd := by rw [← h9, List.length_map]
  rw [e, h8]
  simp
end
end Dt
set_option maxHeartbeats 2000000
namespace Dt
open PySem PySem.Spec PyProof.Rows L2
section
variable {P : Program} {w : World} {K : PySem.W.Frag} {mg : Str → Option Value} {base : Heap}
/-! ### _law_most -/
def ent (l w i u : Int) : Int := linesAfter i (if 0 < u then w - u else 0) l w
def rowE (l w i : Int) : List D := (List.range (w + 1).toNat).map fun (u : Nat) => D.int (ent l w i u)
def rowsE (l w : Int) (i : Nat) : List D := (List.range i).map fun (k : Nat) => D.lst (rowE l w k)
def bestF (n f l w : Int) : Nat → Int
  | 0 => 0
  | k + 1 => max (bestF n f l w k) (linesWith (k + 1) n f l w)
theorem bestF_le {n f l w X : Int} (h0 : 0 ≤ X) : ∀ k : Nat, (∀ m : Int, 1 ≤ m → m ≤ k → linesWith m n f l w ≤ X) → bestF n f l w k ≤ X
  | 0, _ => h0
  | k + 1, h => by
    have h1 := bestF_le h0 k fun m a b => h m a (by omega)
    have h2 := h (k + 1) (by omega) (by omega)
    unfold bestF
    omega
theorem bestF_ge {n f l w m : Int} : ∀ k : Nat, 1 ≤ m → m ≤ k → linesWith m n f l w ≤ bestF n f l w k
  | 0, h1, h2 => by omega
  | k + 1, h1, h2 => by
    unfold bestF
    by_cases h : m ≤ k
    · have := bestF_ge (m := m) (n := n) (f := f) (l := l) (w := w) k h1 h
      omega
    · have e : m = k + 1 := by omega
      rw [e]
      omega
theorem bestF_eq {n f l w : Int} (h : preA n f l w) (hf : f < w ∨ f = 0) (hw : n ≠ 0 → 1 ≤ w) : bestF n f l w (min l n).toNat = linesAfter n f l w := by
  have h' := h
  unfold preA at h
  have h0 := linesAfter_nonneg (n := n) (f := f) (l := l) (w := w) (by omega) hw
  by_cases hz : n = 0
  · subst hz
    have e : (min l 0).toNat = 0 := by omega
    rw [e, la_zero]
    rfl
  · obtain ⟨m, m1, m2, m3⟩ := la_reach h' hf (by omega)
    have a := bestF_le h0 (min l n).toNat fun m a b => la_upper h' hf a (by omega)
    have c := bestF_ge (n := n) (f := f) (l := l) (w := w) (m := m) (min l n).toNat m1 (by omega)
    omega
theorem rowE_get {l w i : Int} {u : Nat} (h : (u : Int) ≤ w) : (rowE l w i)[u]? = some (.int (ent l w i u)) := by
  unfold rowE
  rw [List.getElem?_map, List.getElem?_range (by omega)]
  rfl
theorem rowsE_get {l w : Int} {i k : Nat} (h : k < i) : (rowsE l w i)[k]? = some (.lst (rowE l w k)) := by
  unfold rowsE
  rw [List.getElem?_map, List.getElem?_range h]
  rfl
def R_most : List D → D → Prop := fun ds d => ∃ n l wd : Int, ds = [.int n, .int l, .int wd] ∧ (0 ≤ n ∧ n ≤ 100 ∧ 1 ≤ l ∧ l ≤ 100 ∧ min n l ≤ wd ∧ 0 ≤ wd ∧ wd ≤ 900) ∧ d = .int (linesAfter n 0 l wd)
abbrev N_most : List Str := ["letters", "longest", "width", "rows", "left", "row", "used", "best", "size"]
theorem sc_most : FnScope N_most ["letters", "longest", "width"] (defScope (top 39)) := ⟨rfl, rfl, rfl, by decide +kernel, rfl, by decide +kernel, by decide +kernel⟩
theorem ok_most (b : Bt mg) {f : Addr} {fd : FuncData} (F : Fun K "_law_most" "_law_most" (top 39) f fd) : FnOk P w K mg base CX0 1 f fd ["letters", "longest", "width"] (spD K R_most) := by
  refine fnD F sc_most _ (fun ds d ⟨_, _, _, h, _⟩ => by rw [h]; rfl) fun cdv A outer s H E ds d hr hR => ?_
  obtain ⟨n, l, wd, rfl, ⟨h1, h2, h3, h4, h5, h6, h7⟩, rfl⟩ := hR
  refine exd_cons (sM 3 sc_most.nd eva_nil ?_)
  refine exd_cons (exs_for (fun i env => ∃ a c d e g : Cell, env = [.frz (.int n), .frz (.int l), .frz (.int wd), .own (rowsE l wd i), a, c, d, e, g]) rfl (irange b (evd_add (v 0) evd_int) (by omega)) ⟨.junk, .junk, .junk, .junk, .junk, rfl⟩ (fun i d env1 hd hI => ?_) fun env1 hI => ?_)
  · obtain ⟨a, c, d, e, g, rfl⟩ := hI
    obtain ⟨hi, rfl⟩ := dRange_get hd
    have e0 : (0 : Int) + (i : Int) = i := by omega
    rw [e0]
    refine ⟨_, tn 4 sc_most.nd, ?_⟩
    refine exd_cons (sM 5 sc_most.nd eva_nil ?_)
    refine exd_cons (exs_for (fun j env => ∃ d e g : Cell, env = [.frz (.int n), .frz (.int l), .frz (.int wd), .own (rowsE l wd i), .frz (.int i), .own ((List.range j).map fun (u : Nat) => D.int (ent l wd i u)), d, e, g]) rfl (irange b (evd_add (v 2) evd_int) (by omega)) ⟨d, e, g, rfl⟩ (fun j d env1 hd hI => ?_) fun env1 hI => ?_)
    · obtain ⟨d, e, g, rfl⟩ := hI
      obtain ⟨hj, rfl⟩ := dRange_get hd
      have e1 : (0 : Int) + (j : Int) = j := by omega
      rw [e1]
      refine ⟨_, tn 6 sc_most.nd, ?_⟩
      refine exd_cons (sv 7 sc_most.nd evd_int ?_)
      have hpre : preA i (if 0 < (j : Int) then wd - j else 0) l wd := by unfold preA; split <;> omega
      refine exd_cons (exs_for (fun k env => ∃ g : Cell, env = [.frz (.int n), .frz (.int l), .frz (.int wd), .own (rowsE l wd i), .frz (.int i), .own ((List.range j).map fun (u : Nat) => D.int (ent l wd i u)), .frz (.int j), .frz (.int (bestF i (if 0 < (j : Int) then wd - j else 0) l wd k)), g]) rfl (irange2 b evd_int (evd_add (bmin b (v 1) (v 4)) evd_int) (by omega)) ⟨g, rfl⟩ (fun k d env1 hd hI => ?_) fun env1 hI => ?_)
      · obtain ⟨g, rfl⟩ := hI
        obtain ⟨hk, rfl⟩ := dRange_get hd
        have hk2 : (k : Int) + 1 ≤ min l i := by omega
        refine ⟨_, tn 8 sc_most.nd, ?_⟩
        have en : bestF i (if 0 < (j : Int) then wd - j else 0) l wd (k + 1) = max (bestF i (if 0 < (j : Int) then wd - j else 0) l wd k) (linesWith (k + 1) i (if 0 < (j : Int) then wd - j else 0) l wd) := rfl
        have ek : (1 : Int) + (k : Int) = k + 1 := by omega
        refine exd_cons (exs_if (evt_w (evw_and (evt_gt (v 6) evd_int) fun _ => evw_and1 (evt_le (evd_add (evd_add (v 6) evd_int) (v 8)) (v 2)))) (fun h => ?_) fun h => ?_)
        · simp only [Bool.and_eq_true, decide_eq_true_eq] at h
          refine exd_cons (sv 7 sc_most.nd (bmax b (v 7) (evd_ixL (evl_of (evd_ixL (lv 3) (evd_sub (v 4) (v 8)) (d := .lst (rowE l wd ((i - (k + 1) : Nat) : Int))) (at_int (j := i - (k + 1)) (by omega) (rowsE_get (by omega))))) (evd_add (evd_add (v 6) evd_int) (v 8)) (d := .int (ent l wd ((i - (k + 1) : Nat) : Int) ((j + 1 + (k + 1) : Nat) : Int))) (at_int (j := j + 1 + (k + 1)) (by omega) (rowE_get (by omega))))) (exd_nil (exd_nil ?_)))
          refine ⟨.frz (.int (1 + k)), ?_⟩
          rw [en]
          have : linesWith (k + 1) i (if 0 < (j : Int) then wd - j else 0) l wd = ent l wd ((i - (k + 1) : Nat) : Int) ((j + 1 + (k + 1) : Nat) : Int) := by
            unfold linesWith ent
            rw [if_pos h.1, if_pos (by omega), if_pos (by omega)]
            congr 1 <;> omega
          rw [this]
          rfl
        · have h' : ¬ ((0 : Int) < j ∧ (j : Int) + 1 + (k + 1) ≤ wd) := by
            intro z
            simp only [Bool.and_eq_false_iff, decide_eq_false_iff_not] at h
            omega
          refine exd_cons (sv 7 sc_most.nd (bmax b (v 7) (evd_add evd_int (evd_ixL (evl_of (evd_ixL (lv 3) (evd_sub (v 4) (v 8)) (d := .lst (rowE l wd ((i - (k + 1) : Nat) : Int))) (at_int (j := i - (k + 1)) (by omega) (rowsE_get (by omega))))) (v 8) (d := .int (ent l wd ((i - (k + 1) : Nat) : Int) ((k + 1 : Nat) : Int))) (at_int (j := k + 1) (by omega) (rowE_get (by omega)))))) (exd_nil (exd_nil ?_)))
          refine ⟨.frz (.int (1 + k)), ?_⟩
          rw [en]
          have : linesWith (k + 1) i (if 0 < (j : Int) then wd - j else 0) l wd = 1 + ent l wd ((i - (k + 1) : Nat) : Int) ((k + 1 : Nat) : Int) := by
            unfold linesWith ent
            rw [if_neg (by split <;> omega), if_pos (by omega)]
            congr 2 <;> omega
          rw [this]
          rfl
      · obtain ⟨g, rfl⟩ := hI
        refine exd_cons (ap 5 (v 7) (exd_nil ⟨.frz (.int j), .frz (.int (ent l wd i j)), g, ?_⟩) ?_)
        rotate_left
        · simp
          omega
        rw [dRange_len]
        have e2 : (min l (i : Int) + 1 - 1).toNat = (min l (i : Int)).toNat := by omega
        rw [e2, bestF_eq hpre (by split <;> omega) (by omega)]
        show [_, _, _, _, _, Cell.own ((List.range j).map (fun (u : Nat) => D.int (ent l wd i u)) ++ [_]), _, _, _] = _
        rw [List.range_succ, List.map_append]
        rfl
    · obtain ⟨d, e, g, rfl⟩ := hI
      rw [dRange_len]
      refine exd_freeze 5 rfl (exd_cons (ap 3 (v 5) (exd_nil ⟨.frz (.int i), .frz (.lst (rowE l wd i)), d, e, g, ?_⟩) ?_))
      rotate_left
      · simp [rowsE]
        omega
      show [_, _, _, Cell.own (rowsE l wd i ++ [D.lst (rowE l wd i)]), _, _, _, _, _] = _
      have e3 : rowsE l wd (i + 1) = rowsE l wd i ++ [D.lst (rowE l wd i)] := by
        unfold rowsE
        rw [List.range_succ, List.map_append]
        rfl
      rw [e3]
      rfl
  · obtain ⟨a, c, d, e, g, rfl⟩ := hI
    rw [dRange_len]
    refine exd_cons (exs_ret (evd_ixL (evl_of (evd_ixL (lv 3) (v 0) (d := .lst (rowE l wd (n.toNat : Int))) (at_int (j := n.toNat) (by omega) (rowsE_get (by omega))))) evd_int (d := .int (ent l wd (n.toNat : Int) ((0 : Nat) : Int))) (at_int (j := 0) (by omega) (rowE_get (by omega)))) ?_)
    unfold ent
    have e4 : ((n.toNat : Nat) : Int) = n := by omega
    rw [e4]
    rfl
/-! ### _law_word -/
def sg (i : Int) : Nat := LET.cps.toList.getD (i % 36).toNat 97
def lawWord (number size : Int) : Str := Txt.join "" ((List.range size.toNat).map fun (k : Nat) => ⟨#[sg (number + 7 * k)]⟩)
def R_word : List D → D → Prop := fun ds d => ∃ number size : Int, ds = [.int number, .int size] ∧ (0 ≤ number ∧ number ≤ 100000 ∧ 0 ≤ size ∧ size ≤ 1000) ∧ d = .str (lawWord number size)
abbrev N_word : List Str := ["number", "size", "signs", "k"]
theorem sc_word : FnScope N_word ["number", "size"] (defScope (top 43)) := ⟨rfl, rfl, rfl, by decide +kernel, rfl, by decide +kernel, by decide +kernel⟩
theorem LET_len : LET.cps.toList.length = 36 := by decide
theorem ok_word (b : Bt mg) {f : Addr} {fd : FuncData} (F : Fun K "_law_word" "_law_word" (top 43) f fd) : FnOk P w K mg base CX0 1 f fd ["number", "size"] (spD K R_word) := by
  refine fnD F sc_word _ (fun ds d ⟨_, _, h, _⟩ => by rw [h]; rfl) fun cdv A outer s H E ds d hr hR => ?_
  obtain ⟨number, size, rfl, ⟨h1, h2, h3, h4⟩, rfl⟩ := hR
  refine exd_cons (sv 2 sc_word.nd evd_str ?_)
  refine exd_cons (exs_ret (evd_joinL (ys := (List.range size.toNat).map fun (k : Nat) => ⟨#[sg (number + 7 * k)]⟩) evd_str (evl_of (EvD.to (evd_lcM (own := [("k", 3)]) (l := List.range size.toNat) (en := fun (k : Nat) => D.int (0 + k)) (fn := fun (k : Nat) => D.str ⟨#[sg (number + 7 * k)]⟩) rfl sc_word.nd (irange b (v 1) (by omega)) (blkOk_by (N := N_word) (sc := defScope (top 43)) (by decide +kernel)) (by simp; omega) ?_) (by simp))) ?_) rfl)
  · intro k hk
    rw [List.mem_range] at hk
    refine ⟨[(3, .int (0 + k))], by simp, fun s H C cl fp => tn 3 sc_word.nd, fun s H C cl' fp => evd_ixS (t := LET) (i := (number + 7 * (0 + k)) % 36) (v 2) (evd_mod (bint b (evd_add (v 0) (evd_mul evd_int (v 3) (by unfold CMul; omega)))) evd_int (by omega)) (by decide) ?_⟩
    have e : (0 : Int) + (k : Int) = k := by omega
    rw [e]
    have hlt : ((number + 7 * k) % 36).toNat < LET.cps.toList.length := by rw [LET_len]; omega
    have : LET.cps.toList[((number + 7 * k) % 36).toNat]? = some (sg (number + 7 * k)) := by
      unfold sg
      rw [List.getD, List.getElem?_eq_getElem hlt]
      rfl
    have e2 : (number + 7 * k) % 36 = ((((number + 7 * k) % 36).toNat : Nat) : Int) := by omega
    rw [e2]
    exact atI_nat this
  · have e : ∀ (t : List Nat), ((t.map fun (k : Nat) => (⟨#[sg (number + 7 * k)]⟩ : Str)).map (·.length)).sum = t.length := by
      intro t
      induction t with
      | nil => rfl
      | cons a t ih =>
        simp only [List.map_cons, List.sum_cons, List.length_cons, ih]
        show 1 + t.length = _
        omega
    rw [e, List.length_map, List.length_range]
    have e2 : Str.length "" = 0 := by decide
    rw [e2]
    omega
end
end Dt
set_option maxHeartbeats 2000000
namespace Dt
open PySem PySem.Spec PyProof.Rows L2
theorem empty_cps : (("" : Str)).cps = #[] := by decide
theorem join_nil (ys : List Str) : (Txt.join "" ys).cps.toList = (ys.map fun y => y.cps.toList).flatten := by
  have key : ∀ (zs : List Str) (acc : Array Nat), (zs.foldl (fun acc p => acc ++ (("" : Str)).cps ++ p.cps) acc).toList = acc.toList ++ (zs.map fun y => y.cps.toList).flatten := by
    intro zs
    induction zs with
    | nil => intro acc; simp
    | cons z zs ih =>
      intro acc
      rw [List.foldl_cons, ih]
      rw [empty_cps]
      simp
  cases ys with
  | nil => decide
  | cons y ys =>
    show (ys.foldl (fun acc p => acc ++ (("" : Str)).cps ++ p.cps) y.cps).toList = _
    rw [key]
    simp
theorem lawWord_list (number size : Int) : (lawWord number size).cps.toList = (List.range size.toNat).map fun (k : Nat) => sg (number + 7 * k) := by
  unfold lawWord
  rw [join_nil, List.map_map]
  generalize List.range size.toNat = l
  induction l with
  | nil => rfl
  | cons a l ih => simp [ih]
theorem lawWord_len (number size : Int) : (lawWord number size).length = size.toNat := by
  have := congrArg List.length (lawWord_list number size)
  simpa [Str.length] using this
theorem sg_mem (i : Int) : sg i ∈ LET.cps.toList := by
  have hlt : (i % 36).toNat < LET.cps.toList.length := by rw [LET_len]; omega
  unfold sg
  rw [List.getD, List.getElem?_eq_getElem hlt]
  exact List.getElem_mem hlt
theorem lawWord_vw {number size : Int} (h1 : 1 ≤ size) (h2 : size ≤ 40) : VW (lawWord number size) := by
  refine ⟨by rw [lawWord_len]; omega, by rw [lawWord_len]; omega, fun c hc => ?_⟩
  rw [lawWord_list] at hc
  obtain ⟨k, _, rfl⟩ := List.mem_map.mp hc
  exact sg_mem _
theorem sumLen_snoc (ws : List Str) (t : Str) : sumLen (ws ++ [t]) = sumLen ws + t.length := by
  unfold sumLen
  simp
section
variable {X : Cx} {c : Expr} {env : CEnv} {pos p1 p2 : Pos} {n1 n2 : Nat} {x y : Int} {k : Bool}
theorem ifi (h : EvT X c env k) : EvD X (.IfExp c (.Constant (.int x) n1 p1) (.Constant (.int y) n2 p2) pos) env (.int (if k then x else y)) := evx_if h (fun h => by subst h; exact evd_int) (fun h => by subst h; exact evd_int)
end
section
variable {P : Program} {w : World} {K : PySem.W.Frag} {mg : Str → Option Value} {base : Heap}
/-! ### _law_texts -/
structure TextOk (n l : Int) (ws : List Str) : Prop where
  cnt : ws.length ≤ 60
  vw : ∀ t ∈ ws, VW t ∧ (t.length : Int) ≤ l
  sum : sumLen ws ≤ n
abbrev tD (ws : List Str) : D := .lst (wsD ws)
structure NumOk (ns : List Int) : Prop where
  len : ns.length = 92
  bd : ∀ x ∈ ns, 0 ≤ x ∧ x ≤ 999
theorem NumOk.get {ns : List Int} (h : NumOk ns) {j : Nat} (hj : j < 92) : ∃ x, (dInts ns)[j]? = some (.int x) ∧ 0 ≤ x ∧ x ≤ 999 := by
  have hl : j < ns.length := by rw [h.len]; exact hj
  exact ⟨ns[j], by rw [List.getElem?_map, List.getElem?_eq_getElem hl]; rfl, h.bd _ (List.getElem_mem hl)⟩
def Pre_texts : List D → Prop := fun ds => ∃ (ns : List Int) (n l : Int), ds = [.lst (dInts ns), .int n, .int l] ∧ NumOk ns ∧ 0 ≤ n ∧ n ≤ 60 ∧ 1 ≤ l ∧ l ≤ 20
def Po_texts : List D → D → Prop := fun ds d => ∃ (ns : List Int) (n l : Int) (ts : List (List Str)), ds = [.lst (dInts ns), .int n, .int l] ∧ d = .lst (ts.map tD) ∧ ts.length = 3 ∧ ∀ ws ∈ ts, TextOk n l ws
abbrev N_texts : List Str := ["numbers", "letters", "longest", "texts", "way", "left", "words", "k", "size"]
theorem sc_texts : FnScope N_texts ["numbers", "letters", "longest"] (defScope (top 44)) := ⟨rfl, rfl, rfl, by decide +kernel, rfl, by decide +kernel, by decide +kernel⟩
theorem ok_texts (b : Bt mg) (c1 : C8.Cal P w K mg base 1 "_law_word" (spD K R_word) []) {f : Addr} {fd : FuncData} (F : Fun K "_law_texts" "_law_texts" (top 44) f fd) : FnOk P w K mg base CX0 2 f fd ["numbers", "letters", "longest"] (spE K Pre_texts Po_texts) := by
  refine fnE F sc_texts _ _ (fun ds ⟨_, _, _, h, _⟩ => by rw [h]; rfl) fun cdv A outer s H E ds hr hR => ?_
  obtain ⟨ns, n, l, rfl, hns, h1, h2, h3, h4⟩ := hR
  refine exd_cons (sM 3 sc_texts.nd eva_nil ?_)
  refine exd_cons (exs_for (fun i env => ∃ (ts : List (List Str)) (a c d e g : Cell), env = [.frz (.lst (dInts ns)), .frz (.int n), .frz (.int l), .own (ts.map tD), a, c, d, e, g] ∧ ts.length = i ∧ ∀ ws ∈ ts, TextOk n l ws) rfl (irange b evd_int (by omega)) ⟨[], .junk, .junk, .junk, .junk, .junk, rfl, rfl, by simp⟩ (fun i d env1 hd hI => ?_) fun env1 hI => ?_)
  · obtain ⟨ts, a, c, d, e, g, rfl, hl, hts⟩ := hI
    obtain ⟨hi, rfl⟩ := dRange_get hd
    have hi : i < 3 := hi
    refine ⟨_, tn 4 sc_texts.nd, ?_⟩
    refine exd_cons (sv 5 sc_texts.nd (v 1) ?_)
    refine exd_join (fun env' => ∃ lf : Int, env' = [.frz (.lst (dInts ns)), .frz (.int n), .frz (.int l), .own (ts.map tD), .frz (.int (0 + i)), .frz (.int lf), d, e, g] ∧ 0 ≤ lf ∧ lf ≤ n) (exs_if (evt_eq (v 4) evd_int (.int _ _)) (fun h => ?_) fun h => exd_nil ⟨n, rfl, h1, Int.le_refl _⟩) ?_
    · obtain ⟨x, hx, x0, x1⟩ := hns.get (j := 30) (by omega)
      refine exd_cons (sv 5 sc_texts.nd (evd_mod (evd_ixL (evl_of (v 0)) evd_int (d := .int x) (at_int (j := 30) (by omega) hx)) (evd_add (v 1) evd_int) (by omega)) (exd_nil ?_))
      exact ⟨x % (n + 1), rfl, Int.emod_nonneg _ (by omega), by have := Int.emod_lt_of_pos x (b := n + 1) (by omega); omega⟩
    rintro _ ⟨lf, rfl, lf0, lf1⟩
    refine exd_cons (sM 6 sc_texts.nd eva_nil ?_)
    refine exd_cons (exs_for (fun j env => ∃ (ws : List Str) (lf : Int) (e g : Cell), env = [.frz (.lst (dInts ns)), .frz (.int n), .frz (.int l), .own (ts.map tD), .frz (.int (0 + i)), .frz (.int lf), .own (wsD ws), e, g] ∧ ws.length ≤ j ∧ (∀ t ∈ ws, VW t ∧ (t.length : Int) ≤ l) ∧ sumLen ws + lf ≤ n ∧ 0 ≤ lf) rfl (irange b evd_int (by omega)) ⟨[], lf, e, g, rfl, by simp, by simp, by simpa [sumLen] using lf1, lf0⟩ (fun j d env1 hd hI => ?_) fun env1 hI => ?_)
    · obtain ⟨ws, lf, e, g, rfl, hwl, hvw, hsum, hlf⟩ := hI
      obtain ⟨hj, rfl⟩ := dRange_get hd
      have hj : j < 60 := hj
      refine ⟨_, tn 7 sc_texts.nd, ?_⟩
      refine exd_cons (sv 8 sc_texts.nd (bmin b (v 2) (v 5)) ?_)
      refine exd_join (fun env' => ∃ sz : Int, env' = [.frz (.lst (dInts ns)), .frz (.int n), .frz (.int l), .own (ts.map tD), .frz (.int (0 + i)), .frz (.int lf), .own (wsD ws), .frz (.int (0 + j)), .frz (.int sz)] ∧ 0 ≤ sz ∧ sz ≤ min l lf) (exs_if (evt_eq (v 4) evd_int (.int _ _)) (fun h => ?_) fun h => exd_nil ⟨_, rfl, by omega, by omega⟩) ?_
      · refine exd_cons (sv 8 sc_texts.nd (bmin b evd_int (v 5)) (exd_nil ?_))
        exact ⟨_, rfl, by omega, by omega⟩
      rintro _ ⟨sz, rfl, sz0, sz1⟩
      refine exd_join (fun env' => ∃ sz : Int, env' = [.frz (.lst (dInts ns)), .frz (.int n), .frz (.int l), .own (ts.map tD), .frz (.int (0 + i)), .frz (.int lf), .own (wsD ws), .frz (.int (0 + j)), .frz (.int sz)] ∧ 0 ≤ sz ∧ sz ≤ min l lf) (exs_if (evt_w (evw_and (evt_eq (v 4) evd_int (.int _ _)) fun _ => evw_and1 (evt_gt (v 8) evd_int))) (fun h => ?_) fun h => exd_nil ⟨_, rfl, sz0, sz1⟩) ?_
      · simp only [Bool.and_eq_true, decide_eq_true_eq] at h
        obtain ⟨x, hx, x0, x1⟩ := hns.get (j := 31 + j) (by omega)
        refine exd_cons (sv 8 sc_texts.nd (evd_add (evd_mod (evd_ixL (evl_of (v 0)) (evd_add evd_int (v 7)) (d := .int x) (at_int (j := 31 + j) (by omega) hx)) (v 8) h.2) evd_int) (exd_nil ?_))
        exact ⟨x % sz + 1, rfl, by have := Int.emod_nonneg x (b := sz) (by omega); omega, by have := Int.emod_lt_of_pos x (b := sz) (by omega); omega⟩
      rintro _ ⟨sz, rfl, sz0, sz1⟩
      refine exd_cons (exs_if (evt_gt (v 8) evd_int) (fun h => ?_) fun h => exd_nil (exd_nil ⟨ws, lf, .frz (.int (0 + j)), .frz (.int sz), rfl, by omega, hvw, hsum, hlf⟩))
      rw [decide_eq_true_eq] at h
      obtain ⟨x, hx, x0, x1⟩ := hns.get (j := 31 + j) (by omega)
      refine exd_cons (ap 6 (cl c1 hr (ac (evd_ixL (evl_of (v 0)) (evd_add evd_int (v 7)) (d := .int x) (at_int (j := 31 + j) (by omega) hx)) (a1 (v 8))) ⟨x, sz, rfl, ⟨x0, by omega, by omega, by omega⟩, rfl⟩) ?_ ?_)
      · refine exd_cons (sv 5 sc_texts.nd (evd_sub (v 5) (v 8)) (exd_nil (exd_nil ?_)))
        refine ⟨ws ++ [lawWord x sz], lf - sz, .frz (.int (0 + j)), .frz (.int sz), ?_, by simp; omega, fun t ht => ?_, ?_, by omega⟩
        · show [_, _, _, _, _, _, Cell.own (wsD ws ++ [.str (lawWord x sz)]), _, _] = _
          simp [wsD]
        · rcases List.mem_append.mp ht with ht | ht
          · exact hvw t ht
          · rw [List.mem_singleton.mp ht]
            exact ⟨lawWord_vw (by omega) (by omega), by rw [lawWord_len]; omega⟩
        · rw [sumLen_snoc, lawWord_len]
          omega
      · simp
        omega
    · obtain ⟨ws, lf, e, g, rfl, hwl, hvw, hsum, hlf⟩ := hI
      refine exd_freeze 6 rfl (exd_cons (ap 3 (v 6) (exd_nil ⟨ts ++ [ws], .frz (.int (0 + i)), .frz (.int lf), .frz (tD ws), e, g, ?_, by simp [hl], fun us hu => ?_⟩) ?_))
      · show [_, _, _, Cell.own (ts.map tD ++ [D.lst (wsD ws)]), _, _, _, _, _] = _
        rw [List.map_append]
        rfl
      · rcases List.mem_append.mp hu with hu | hu
        · exact hts us hu
        · rw [List.mem_singleton.mp hu]
          exact ⟨by rw [dRange_len] at hwl; exact hwl, hvw, by omega⟩
      · simp
        omega
  · obtain ⟨ts, a, c, d, e, g, rfl, hl, hts⟩ := hI
    rw [dRange_len] at hl
    exact exd_freeze 3 rfl (exd_cons (exs_ret (v 3) ⟨ns, n, l, ts, rfl, rfl, hl, hts⟩))
/-! ### _law_rooms -/
theorem lawDue_bd {n l wd : Int} (h0 : 0 ≤ n) (h1 : n ≤ 60) (hw : n ≠ 0 → 1 ≤ wd) : 0 ≤ lawDue n l wd ∧ lawDue n l wd ≤ 200 := by
  unfold lawDue
  split
  · omega
  · rename_i hz
    have := hw hz
    split
    · have a := Int.ediv_nonneg (a := n - 1) (b := (wd + 1) / 2) (by omega) (by omega)
      have c := Int.ediv_le_self (a := n - 1) ((wd + 1) / 2) (by omega)
      omega
    · have a := Int.ediv_nonneg (a := 2 * (n - 1)) (b := wd) (by omega) (by omega)
      have c := Int.ediv_le_self (a := 2 * (n - 1)) wd (by omega)
      omega
abbrev RmOk (r : Int × Int) : Prop := 0 ≤ r.1 ∧ r.1 ≤ 1000 ∧ 0 ≤ r.2 ∧ r.2 ≤ 1000
def Pre_rooms : List D → Prop := fun ds => ∃ (ns : List Int) (bg : Bool) (n l : Int) (dp : List (Int × Int)), ds = [.lst (dInts ns), .bl bg, .int n, .int l, .lst (pD dp)] ∧ NumOk ns ∧ 0 ≤ n ∧ n ≤ 60 ∧ 1 ≤ l ∧ l ≤ 20 ∧ dp ≠ [] ∧ dp.length ≤ 1000 ∧ ∀ q ∈ dp, RmOk q
def Po_rooms : List D → D → Prop := fun ds d => ∃ (r0 : Int × Int) (rs : List (Int × Int)), d = .lst (pD (r0 :: rs)) ∧ ∀ r ∈ r0 :: rs, RmOk r
abbrev N_rooms : List Str := ["numbers", "big", "letters", "longest", "due", "rooms", "k", "number", "width", "height", "corner"]
theorem sc_rooms : FnScope N_rooms ["numbers", "big", "letters", "longest", "due"] (defScope (top 45)) := ⟨rfl, rfl, rfl, by decide +kernel, rfl, by decide +kernel, by decide +kernel⟩
theorem ok_rooms (b : Bt mg) (c1 : C8.Cal P w K mg base 1 "_law_due" (spD K R_due) []) {f : Addr} {fd : FuncData} (F : Fun K "_law_rooms" "_law_rooms" (top 45) f fd) : FnOk P w K mg base CX0 2 f fd ["numbers", "big", "letters", "longest", "due"] (spE K Pre_rooms Po_rooms) := by
  refine fnE F sc_rooms _ _ (fun ds ⟨_, _, _, _, _, h, _⟩ => by rw [h]; rfl) fun cdv A outer s H E ds hr hR => ?_
  obtain ⟨ns, bg, n, l, dp, rfl, hns, h1, h2, h3, h4, h5, h6, h7⟩ := hR
  have hpos : 0 < dp.length := List.length_pos_iff.mpr h5
  refine exd_cons (sM 5 sc_rooms.nd eva_nil ?_)
  refine exd_cons (exs_for (fun i env => ∃ (rs : List (Int × Int)) (a c d e : Cell), env = [.frz (.lst (dInts ns)), .frz (.bl bg), .frz (.int n), .frz (.int l), .frz (.lst (pD dp)), .own (pD rs), a, c, d, e, .junk] ∧ rs.length = i ∧ ∀ r ∈ rs, RmOk r) rfl (irange b (ifi (evt_val (v 1))) (by split <;> omega)) ⟨[], .junk, .junk, .junk, .junk, rfl, rfl, by simp⟩ (fun i d env1 hd hI => ?_) fun env1 hI => ?_)
  · obtain ⟨rs, a, c, d, e, rfl, hl, hrs⟩ := hI
    obtain ⟨hi, rfl⟩ := dRange_get hd
    have hi : i < 7 := by split at hi <;> omega
    obtain ⟨x, hx, x0, x1⟩ := hns.get (j := 12 + 2 * i) (by omega)
    obtain ⟨y, hy, y0, y1⟩ := hns.get (j := 13 + 2 * i) (by omega)
    refine ⟨_, tn 6 sc_rooms.nd, ?_⟩
    refine exd_cons (sv 7 sc_rooms.nd (evd_ixL (evl_of (v 0)) (evd_add evd_int (evd_mul evd_int (v 6) (by unfold CMul; omega))) (d := .int x) (at_int (j := 12 + 2 * i) (by omega) hx)) ?_)
    refine exd_cons (sv 8 sc_rooms.nd (evd_mod (v 7) (ifi (evt_val (v 1))) (by split <;> omega)) ?_)
    refine exd_cons (sv 9 sc_rooms.nd (evd_mod (evd_ixL (evl_of (v 0)) (evd_add evd_int (evd_mul evd_int (v 6) (by unfold CMul; omega))) (d := .int y) (at_int (j := 13 + 2 * i) (by omega) hy)) (ifi (evt_val (v 1))) (by split <;> omega)) ?_)
    obtain ⟨wd, hwd⟩ : ∃ wd, wd = x % (if bg = true then 131 else 15) := ⟨_, rfl⟩
    have hw0 : 0 ≤ wd ∧ wd ≤ 130 := by rw [hwd]; split <;> omega
    have hh0 : 0 ≤ y % (if bg = true then 62 else 7) ∧ y % (if bg = true then 62 else 7) ≤ 61 := by split <;> omega
    refine exd_join (fun env' => ∃ hh : Int, env' = [.frz (.lst (dInts ns)), .frz (.bl bg), .frz (.int n), .frz (.int l), .frz (.lst (pD dp)), .own (pD rs), .frz (.int (0 + i)), .frz (.int x), .frz (.int wd), .frz (.int hh), .junk] ∧ 0 ≤ hh ∧ hh ≤ 1000) (exs_if (evt_w (evw_and (evt_ge (v 8) (bmin b (v 2) (v 3))) fun _ => evw_and1 (evt_gt (evd_mod (evd_fdiv (v 7) evd_int (by unfold CDiv; omega)) evd_int (by omega)) evd_int))) (fun h => ?_) fun h => exd_nil ⟨_, by rw [hwd]; rfl, hh0.1, by omega⟩) ?_
    · simp only [Bool.and_eq_true, decide_eq_true_eq, ← hwd] at h
      have hbd := lawDue_bd (l := l) (wd := wd) h1 h2 (by omega)
      refine exd_cons (sv 9 sc_rooms.nd (bmax b evd_int (evd_sub (cl c1 hr (ac (v 2) (ac (v 3) (a1 (v 8)))) ⟨n, l, wd, by rw [hwd], by omega, rfl⟩) (evd_mod (evd_ixL (evl_of (v 0)) (evd_add evd_int (evd_mul evd_int (v 6) (by unfold CMul; omega))) (d := .int y) (at_int (j := 13 + 2 * i) (by omega) hy)) evd_int (by omega)))) (exd_nil ?_))
      exact ⟨max 0 (lawDue n l wd - y % 2), by rw [hwd]; rfl, by omega, by omega⟩
    rintro _ ⟨hh, rfl, hh1, hh2⟩
    refine exd_cons (ap 5 (evd_tup (ac (v 8) (a1 (v 9))) (by simp)) (exd_nil ⟨rs ++ [(wd, hh)], .frz (.int (0 + i)), .frz (.int x), .frz (.int wd), .frz (.int hh), ?_, by simp [hl], fun r hr => ?_⟩) ?_)
    · show [_, _, _, _, _, Cell.own (pD rs ++ [.tup [.int wd, .int hh]]), _, _, _, _, _] = _
      simp [pD]
    · rcases List.mem_append.mp hr with hr | hr
      · exact hrs r hr
      · rw [List.mem_singleton.mp hr]
        exact ⟨hw0.1, by show wd ≤ 1000; omega, hh1, hh2⟩
    · simp
      omega
  · obtain ⟨rs, a, c, d, e, rfl, hl, hrs⟩ := hI
    obtain ⟨x, hx, x0, x1⟩ := hns.get (j := 11) (by omega)
    have hlt : (x % (dp.length : Int)).toNat < dp.length := by
      have h8 := Int.emod_lt_of_pos x (b := dp.length) (by omega)
      have h9 := Int.emod_nonneg x (b := dp.length) (by omega)
      omega
    have h9 := Int.emod_nonneg x (b := dp.length) (by omega)
    obtain ⟨q, hq⟩ : ∃ q, dp[(x % (dp.length : Int)).toNat]? = some q := ⟨_, List.getElem?_eq_getElem hlt⟩
    have hqo := h7 q (List.mem_of_getElem? hq)
    refine exd_cons (sv 10 sc_rooms.nd (evd_ixL (evl_of (v 4)) (evd_mod (evd_ixL (evl_of (v 0)) evd_int (d := .int x) (at_int (j := 11) (by omega) hx)) (blen b (evl_of (v 4))) (by rw [List.length_map]; omega)) (d := prD q) (at_int (j := (x % (dp.length : Int)).toNat) (by rw [List.length_map]; omega) (by rw [List.getElem?_map, hq]; rfl))) ?_)
    refine exd_cons (exs_ret (evd_cat (evm_var 5 rfl rfl (.inl rfl)) (evm_lst (ac (v 10) (ac (evd_tup (ac (bmax b evd_int (evd_sub (evd_ixU (v 10) evd_int rfl) evd_int)) (a1 (evd_ixU (v 10) evd_int rfl))) (by simp)) (a1 (evd_tup (ac (evd_ixU (v 10) evd_int rfl) (a1 (bmax b evd_int (evd_sub (evd_ixU (v 10) evd_int rfl) evd_int)))) (by simp))))) (by simp)) ?_) ?_)
    · rw [dRange_len] at hl
      simp
      split at hl <;> omega
    · have e : pD rs ++ [prD q, D.tup [.int (max 0 (q.1 - 1)), .int q.2], D.tup [.int q.1, .int (max 0 (q.2 - 1))]] = pD (rs ++ [q, (max 0 (q.1 - 1), q.2), (q.1, max 0 (q.2 - 1))]) := by simp [pD]
      have hall : ∀ r ∈ rs ++ [q, (max 0 (q.1 - 1), q.2), (q.1, max 0 (q.2 - 1))], RmOk r := by
        intro r hr
        unfold RmOk at hqo ⊢
        rcases List.mem_append.mp hr with hr | hr
        · exact hrs r hr
        · simp only [List.mem_cons, List.not_mem_nil, or_false] at hr
          rcases hr with rfl | rfl | rfl
          · exact hqo
          · exact ⟨by show 0 ≤ max 0 (q.1 - 1); omega, by show max 0 (q.1 - 1) ≤ 1000; omega, hqo.2.2.1, hqo.2.2.2⟩
          · exact ⟨hqo.1, hqo.2.1, by show 0 ≤ max 0 (q.2 - 1); omega, by show max 0 (q.2 - 1) ≤ 1000; omega⟩
      cases hh : rs ++ [q, (max 0 (q.1 - 1), q.2), (q.1, max 0 (q.2 - 1))] with
      | nil => simp at hh
      | cons r0 rest => exact ⟨r0, rest, by rw [← hh, ← e], by rw [← hh]; exact hall⟩
end
end Dt
set_option maxHeartbeats 2000000
namespace Dt
open PySem PySem.Spec PyProof.Rows L2
section
variable {P : Program} {w : World} {K : PySem.W.Frag} {mg : Str → Option Value} {base : Heap}
/-! ### _law_numbers -/
def Pre_numbers : List D → Prop := fun ds => ∃ sc : List Int, ds = [.lst (dInts sc), .int 92] ∧ sc.length ≤ 63
def Po_numbers : List D → D → Prop := fun ds d => ∃ ms : List Int, d = .lst (dInts ms) ∧ NumOk ms
abbrev N_numbers : List Str := ["script", "count", "numbers", "base", "cell", "left", "k"]
theorem sc_numbers : FnScope N_numbers ["script", "count"] (defScope (top 34)) := ⟨rfl, rfl, rfl, by decide +kernel, rfl, by decide +kernel, by decide +kernel⟩
abbrev nI (x : Int) : Prop := 0 ≤ x ∧ x ≤ 999
theorem nI_mod (x : Int) : nI (x % 1000) := ⟨Int.emod_nonneg _ (by omega), by have := Int.emod_lt_of_pos x (b := 1000) (by omega); omega⟩
theorem all_snoc {ms : List Int} {x : Int} (h : ∀ y ∈ ms, nI y) (hx : nI x) : ∀ y ∈ ms ++ [x], nI y := fun y hy => by
  rcases List.mem_append.mp hy with hy | hy
  · exact h y hy
  · rw [List.mem_singleton.mp hy]
    exact hx
theorem ok_numbers (b : Bt mg) {f : Addr} {fd : FuncData} (F : Fun K "_law_numbers" "_law_numbers" (top 34) f fd) : FnOk P w K mg base CX0 1 f fd ["script", "count"] (spE K Pre_numbers Po_numbers) := by
  refine fnE F sc_numbers _ _ (fun ds ⟨_, h, _⟩ => by rw [h]; rfl) fun cdv A outer s H E ds hr hR => ?_
  obtain ⟨sc, rfl, hsc⟩ := hR
  refine exd_cons (sM 2 sc_numbers.nd eva_nil ?_)
  refine exd_cons (sv 3 sc_numbers.nd (blen b (evl_of (v 0))) ?_)
  have hsl : (0 : Int) ≤ ((dInts sc).length : Nat) ∧ (((dInts sc).length : Nat) : Int) < 2147483648 := by rw [List.length_map]; omega
  refine exd_cons (exs_for (fun i env => ∃ (ms : List Int) (bs : Int) (x y z : Cell), env = [.frz (.lst (dInts sc)), .frz (.int 92), .own (dInts ms), .frz (.int bs), x, y, z] ∧ ms.length ≤ 92 ∧ (∀ m ∈ ms, nI m) ∧ 0 ≤ bs ∧ bs < 2147483648) rfl (evi_list (v 0)) ⟨[], _, .junk, .junk, .junk, rfl, by simp, by simp, hsl.1, hsl.2⟩ (fun i d env1 hd hI => ?_) fun env1 hI => ?_)
  · obtain ⟨ms, bs, x, y, z, rfl, hl, hms, hb0, hb1⟩ := hI
    obtain ⟨c, hc, rfl⟩ := map_get hd
    refine ⟨_, tn 4 sc_numbers.nd, ?_⟩
    obtain ⟨lf, hlf⟩ : ∃ lf : Int, lf = if c < 0 then -c else c := ⟨_, rfl⟩
    have hlf0 : 0 ≤ lf := by rw [hlf]; split <;> omega
    refine exd_cons (sv 5 sc_numbers.nd (d := .int lf) (EvD.to (babs b (v 4)) (by rw [hlf])) ?_)
    refine exd_cons (sv 3 sc_numbers.nd (evd_mod (bint b (evd_add (evd_mul (v 3) evd_int (by unfold CMul; omega)) (v 5))) evd_int (by omega)) ?_)
    have hb2 := Int.emod_nonneg (bs * 31 + lf) (b := 2147483647) (by omega)
    have hb3 := Int.emod_lt_of_pos (bs * 31 + lf) (b := 2147483647) (by omega)
    refine exd_cons (exs_if (evt_ge (v 5) (evd_pow evd_int evd_int (by unfold CPow; decide))) (fun h => ?_) fun h => ?_)
    · refine exd_cons (exs_for (fun j env => ∃ (ms : List Int) (g : Int) (z : Cell), env = [.frz (.lst (dInts sc)), .frz (.int 92), .own (dInts ms), .frz (.int ((bs * 31 + lf) % 2147483647)), .frz (.int c), .frz (.int g), z] ∧ ms.length ≤ 92 ∧ (∀ m ∈ ms, nI m)) rfl (irange b evd_int (by omega)) ⟨ms, lf, z, rfl, hl, hms⟩ (fun j d env1 hd hI => ?_) fun env1 hI => ?_)
      · obtain ⟨ms, g, z, rfl, hl, hms⟩ := hI
        obtain ⟨hj, rfl⟩ := dRange_get hd
        refine ⟨_, tn 6 sc_numbers.nd, ?_⟩
        refine exd_cons (exs_if (evt_w (evw_and (evt_gt (v 5) evd_int) fun _ => evw_and1 (evt_lt (blen b (lv 2)) (v 1)))) (fun h => ?_) fun h => exd_nil (exd_nil ⟨ms, g, .frz (.int (0 + j)), rfl, hl, hms⟩))
        simp only [Bool.and_eq_true, decide_eq_true_eq, List.length_map] at h
        refine exd_cons (ap 2 (evd_mod (bint b (v 5)) evd_int (by omega)) (exd_cons (sv 5 sc_numbers.nd (evd_fdiv (v 5) evd_int (by unfold CDiv; omega)) (exd_nil (exd_nil ?_)))) ?_)
        · refine ⟨ms ++ [g % 1000], g / 1000, .frz (.int (0 + j)), ?_, by simp; omega, all_snoc hms (nI_mod g)⟩
          show [_, _, Cell.own (dInts ms ++ [D.int (g % 1000)]), _, _, _, _] = _
          simp [dInts]
        · simp
          omega
      · obtain ⟨ms, g, z, rfl, hl, hms⟩ := hI
        exact exd_nil (exd_nil ⟨ms, _, _, _, _, rfl, hl, hms, hb2, by omega⟩)
    · refine exd_cons (exs_if (evt_lt (blen b (lv 2)) (v 1)) (fun h => ?_) fun h => exd_nil (exd_nil (exd_nil ⟨ms, _, _, _, _, rfl, hl, hms, hb2, by omega⟩)))
      simp only [decide_eq_true_eq, List.length_map] at h
      refine exd_cons (ap 2 (evd_mod (evd_mod (bint b (evd_mul (evd_mod (bint b (evd_add (evd_mul (v 5) evd_int (by unfold CMul; omega)) evd_int)) evd_int (by omega)) evd_int (by unfold CMul; omega))) evd_int (by omega)) evd_int (by omega)) (exd_nil (exd_nil (exd_nil ?_))) ?_)
      · refine ⟨ms ++ [(lf * 48271 + 11) % 2147483647 * 69621 % 2147483629 % 1000], (bs * 31 + lf) % 2147483647, .frz (.int c), .frz (.int lf), z, ?_, by simp; omega, all_snoc hms (nI_mod _), hb2, by omega⟩
        show [_, _, Cell.own (dInts ms ++ [D.int _]), _, _, _, _] = _
        rw [show ∀ a : Int, dInts ms ++ [D.int a] = dInts (ms ++ [a]) from fun a => by simp [dInts]]
      · simp
        omega
  · obtain ⟨ms, bs, x, y, z, rfl, hl, hms, hb0, hb1⟩ := hI
    refine exd_cons (exs_for (fun i env => ∃ (ms : List Int) (z : Cell), env = [.frz (.lst (dInts sc)), .frz (.int 92), .own (dInts ms), .frz (.int bs), x, y, z] ∧ ms.length ≤ 92 ∧ min i 92 ≤ ms.length ∧ (∀ m ∈ ms, nI m)) rfl (irange b (v 1) (by omega)) ⟨ms, z, rfl, hl, by omega, hms⟩ (fun i d env1 hd hI => ?_) fun env1 hI => ?_)
    · obtain ⟨ms, z, rfl, hl, hmin, hms⟩ := hI
      obtain ⟨hi, rfl⟩ := dRange_get hd
      have hi : i < 92 := hi
      refine ⟨_, tn 6 sc_numbers.nd, ?_⟩
      refine exd_cons (exs_if (evt_lt (blen b (lv 2)) (v 1)) (fun h => ?_) fun h => exd_nil (exd_nil ⟨ms, .frz (.int (0 + i)), rfl, hl, ?_, hms⟩))
      · simp only [decide_eq_true_eq, List.length_map] at h
        refine exd_cons (ap 2 (evd_mod (evd_mod (bint b (evd_mul (evd_mod (bint b (evd_add (evd_add (evd_mul (v 3) evd_int (by unfold CMul; omega)) (evd_mul (evd_mul (v 6) (v 6) (by unfold CMul; omega)) evd_int (by unfold CMul; omega))) (evd_mul (v 6) evd_int (by unfold CMul; omega)))) evd_int (by omega)) evd_int (by unfold CMul; omega))) evd_int (by omega)) evd_int (by omega)) (exd_nil (exd_nil ?_)) ?_)
        · refine ⟨ms ++ [(bs * 16807 + (0 + (i : Int)) * (0 + (i : Int)) * 7919 + (0 + (i : Int)) * 104729) % 2147483647 * 48271 % 2147483629 % 1000], .frz (.int (0 + i)), ?_, by simp; omega, by simp; omega, all_snoc hms (nI_mod _)⟩
          show [_, _, Cell.own (dInts ms ++ [D.int _]), _, _, _, _] = _
          rw [show ∀ a : Int, dInts ms ++ [D.int a] = dInts (ms ++ [a]) from fun a => by simp [dInts]]
        · simp
          omega
      · simp only [decide_eq_false_iff_not, List.length_map] at h
        omega
    · obtain ⟨ms, z, rfl, hl, hmin, hms⟩ := hI
      rw [dRange_len] at hmin
      have e : (92 : Int).toNat = 92 := rfl
      rw [e] at hmin
      exact exd_freeze 2 rfl (exd_cons (exs_ret (v 2) ⟨ms, rfl, by omega, hms⟩))
end
end Dt
set_option maxHeartbeats 2000000
namespace Dt
open PySem PyProof.Rows
/-! ### lines, from the front -/
def brkF (wd : Int) : Str → List Str → List Str
  | cur, [] => [cur]
  | cur, t :: r => if (cur.length : Int) + 1 + t.length ≤ wd then brkF wd (cur ++ SP ++ t) r else cur :: brkF wd t r
theorem brk_fold (wd : Int) : ∀ (ws acc : List Str) (cur : Str), ws.foldl (brkS wd) (acc ++ [cur]) = acc ++ brkF wd cur ws
  | [], acc, cur => rfl
  | t :: r, acc, cur => by
    rw [List.foldl_cons]
    have e : brkS wd (acc ++ [cur]) t = if (cur.length : Int) + 1 + t.length ≤ wd then acc ++ [cur ++ SP ++ t] else (acc ++ [cur]) ++ [t] := by
      unfold brkS
      rw [List.getLast?_append]
      simp
    rw [e]
    unfold brkF
    split
    · rw [brk_fold wd r acc]
    · rw [brk_fold wd r (acc ++ [cur])]
      simp
theorem brk_cons (wd : Int) (t : Str) (r : List Str) : brk wd (t :: r) = brkF wd t r := by
  have := brk_fold wd r [] t
  simpa [brk, brkS] using this
theorem brk_nil (wd : Int) : brk wd [] = [] := rfl
theorem SP_len : SP.length = 1 := by decide
theorem cur_len (cur t : Str) : (cur ++ SP ++ t).length = cur.length + 1 + t.length := by
  rw [len_app, len_app, SP_len]
abbrev lensI (ws : List Str) : List Int := ws.map fun t => (t.length : Int)
theorem brkF_len (wd : Int) : ∀ (r : List Str) (cur : Str), ((brkF wd cur r).length : Int) = 1 + linesOf wd (wd - cur.length) (lensI r)
  | [], cur => by simp [brkF, linesOf]
  | t :: r, cur => by
    unfold brkF
    show _ = 1 + linesOf wd (wd - cur.length) ((t.length : Int) :: lensI r)
    unfold linesOf
    split
    · rename_i h
      rw [if_pos (by omega), brkF_len wd r, cur_len]
      congr 2
      omega
    · rename_i h
      rw [if_neg (by omega)]
      have := brkF_len wd r t
      simp only [List.length_cons]
      omega
theorem nL_lines (wd : Int) (ws : List Str) : nL wd ws = linesOf wd 0 (lensI ws) := by
  cases ws with
  | nil => rfl
  | cons t r =>
    unfold nL
    rw [brk_cons, brkF_len]
    show _ = linesOf wd 0 ((t.length : Int) :: lensI r)
    conv => rhs; unfold linesOf
    rw [if_neg (by omega)]
/-! ### greater widths need no more lines -/
theorem lines_mono {w w' : Int} (hw : w ≤ w') : ∀ (lens : List Int), (∀ m ∈ lens, 0 ≤ m) → (∀ u u' : Int, 0 ≤ u → u' ≤ u → linesOf w' (w' - u') lens ≤ linesOf w (w - u) lens) ∧ (∀ u u' : Int, 0 ≤ u → linesOf w' (w' - u') lens ≤ 1 + linesOf w (w - u) lens)
  | [], _ => by simp [linesOf]
  | m :: r, hm => by
    obtain ⟨A, B⟩ := lines_mono hw r fun x hx => hm x (List.mem_cons_of_mem _ hx)
    have hm0 := hm m List.mem_cons_self
    have e : ∀ w u : Int, w - u - m - 1 = w - (u + 1 + m) := fun w u => by omega
    refine ⟨fun u u' h0 h => ?_, fun u u' h0 => ?_⟩
    · unfold linesOf
      by_cases c1 : m < w - u
      · rw [if_pos c1, if_pos (by omega), e, e]
        exact A _ _ (by omega) (by omega)
      · rw [if_neg c1]
        split
        · rw [e]
          exact B m _ hm0
        · have := A m m hm0 (Int.le_refl _)
          omega
    · unfold linesOf
      by_cases c1 : m < w - u
      · rw [if_pos c1, e w u]
        split
        · rw [e w' u']
          exact B _ _ (by omega)
        · have := A (u + 1 + m) m (by omega) (by omega)
          omega
      · rw [if_neg c1]
        split
        · rw [e]
          have := B m (u' + 1 + m) hm0
          omega
        · have := A m m hm0 (Int.le_refl _)
          omega
theorem lens_nn (ws : List Str) : ∀ m ∈ lensI ws, 0 ≤ m := fun m hm => by
  obtain ⟨t, _, rfl⟩ := List.mem_map.mp hm
  omega
theorem nL_mono {w w' : Int} (hw : w ≤ w') (ws : List Str) : nL w' ws ≤ nL w ws := by
  cases ws with
  | nil => exact Int.le_refl _
  | cons t r =>
    unfold nL
    rw [brk_cons, brk_cons, brkF_len, brkF_len]
    have := (lines_mono hw (lensI r) (lens_nn r)).1 t.length t.length (by omega) (Int.le_refl _)
    omega
theorem nL_pos {w : Int} {ws : List Str} (h : ws ≠ []) : 1 ≤ nL w ws := by
  cases ws with
  | nil => exact absurd rfl h
  | cons t r =>
    unfold nL
    rw [brk_cons]
    have : ∀ (r : List Str) (cur : Str), 1 ≤ (brkF w cur r).length := by
      intro r
      induction r with
      | nil => intro cur; simp [brkF]
      | cons a r ih =>
        intro cur
        unfold brkF
        split
        · exact ih _
        · simp
    have := this r t
    omega
/-! ### the first word of a line -/
abbrev NoSp (t : Str) : Prop := ∀ c ∈ t.cps.toList, c ≠ 32
theorem SP_cps : SP.cps.toList = [32] := by decide
theorem at_iff {x : Str} {i : Nat} : StrLaws.At x SP x.length i ↔ x.cps.toList[i]? = some 32 := by
  unfold StrLaws.At
  rw [StrLaws.subAt_eq, SP_len, SP_cps]
  have hl : x.cps.toList.length = x.length := by simp [Str.length]
  constructor
  · rintro ⟨h1, h2⟩
    have h3 := eq_of_beq h2
    have hi : i < x.cps.toList.length := by omega
    rw [List.drop_eq_getElem_cons hi, List.take_succ_cons] at h3
    simp only [List.take_zero, List.cons.injEq, and_true] at h3
    rw [List.getElem?_eq_getElem hi, h3]
  · intro h
    obtain ⟨hi, e⟩ := List.getElem?_eq_some_iff.mp h
    refine ⟨by omega, ?_⟩
    rw [List.drop_eq_getElem_cons hi, List.take_succ_cons, e]
    rfl
theorem kind_SP (x : Str) : ¬ Builtin.Str.strKind x < Builtin.Str.strKind SP := by
  have e : Builtin.Str.strKind SP = 1 := by decide +kernel
  rw [e]
  unfold Builtin.Str.strKind
  split
  · omega
  · split <;> omega
theorem hd1_eq {x t : Str} (ht : NoSp t) (h0 : 0 < t.length) (hx : x = t ∨ ∃ s, x = t ++ SP ++ s) : hd1 x = t := by
  have tl : t.cps.toList.length = t.length := by simp [Str.length]
  have xl : x.cps.toList = t.cps.toList ∨ ∃ s : Str, x.cps.toList = t.cps.toList ++ 32 :: s.cps.toList := by
    rcases hx with rfl | ⟨s, rfl⟩
    · exact .inl rfl
    · refine .inr ⟨s, ?_⟩
      show ((t.cps ++ SP.cps) ++ s.cps).toList = _
      rw [Array.toList_append, Array.toList_append, SP_cps]
      simp
  have xlen : x.cps.toList.length = x.length := by simp [Str.length]
  have ge : t.length ≤ x.length := by
    rcases xl with e | ⟨s, e⟩
    · have := congrArg List.length e; omega
    · have := congrArg List.length e
      rw [List.length_append, List.length_cons] at this
      omega
  have noAt : ∀ i, i < t.length → ¬ StrLaws.At x SP x.length i := fun i hi h => by
    rw [at_iff] at h
    have hti : i < t.cps.toList.length := by omega
    have : t.cps.toList[i]? = some 32 := by
      rcases xl with e | ⟨s, e⟩
      · rw [e] at h; exact h
      · rw [e, List.getElem?_append_left hti] at h; exact h
    exact ht 32 (List.mem_of_getElem? this) rfl
  have ext : ∀ y : Str, y.cps.toList = t.cps.toList → y = t := fun y e => by
    have : y.cps = t.cps := Array.toList_inj.mp e
    cases y
    cases t
    simpa using this
  unfold hd1 Txt.split
  rw [if_neg (by rw [SP_len]; have := kind_SP x; simp [this]; omega)]
  rcases StrLaws.occ_head x SP (x.length + 1) (by omega) with ⟨e, hn⟩ | ⟨i, r, e, hi, hf⟩
  · rw [e, if_pos (show ([] : List Nat).isEmpty = true from rfl)]
    refine ext x ?_
    rcases xl with e | ⟨s, e⟩
    · exact e
    · exfalso
      refine hn t.length (at_iff.mpr ?_)
      rw [e, List.getElem?_append_right (by omega)]
      simp [tl]
  · rw [e, if_neg (show ¬ (i :: r).isEmpty = true by simp), StrLaws.partsBetween_eq]
    show Builtin.Str.strSub x 0 i = t
    refine ext _ ?_
    rw [StrLaws.strSub_toList]
    rw [at_iff] at hi
    have hge : t.length ≤ i := by
      rcases Nat.lt_or_ge i t.length with h | h
      · exact absurd (at_iff.mpr hi) (noAt i h)
      · exact h
    rcases xl with e2 | ⟨s, e2⟩
    · rw [e2] at hi
      have := (List.getElem?_eq_some_iff.mp hi).1
      omega
    · have hat : StrLaws.At x SP x.length t.length := by
        rw [at_iff, e2, List.getElem?_append_right (by omega)]
        simp [tl]
      have hle : i ≤ t.length := by
        rcases Nat.lt_or_ge t.length i with h | h
        · exact absurd hat (hf _ h)
        · exact h
      have : i = t.length := by omega
      subst this
      rw [e2, List.drop_zero, Nat.sub_zero, List.take_append_of_le_length (by omega), ← tl, List.take_length]
theorem brkF_head (wd : Int) : ∀ (r : List Str) (cur : Str), ∃ x rest, brkF wd cur r = x :: rest ∧ (x = cur ∨ ∃ s, x = cur ++ SP ++ s)
  | [], cur => ⟨cur, [], rfl, .inl rfl⟩
  | t :: r, cur => by
    unfold brkF
    split
    · obtain ⟨x, rest, e, h⟩ := brkF_head wd r (cur ++ SP ++ t)
      refine ⟨x, rest, e, .inr ?_⟩
      have assoc : ∀ a b c : Str, a ++ b ++ c = a ++ (b ++ c) := fun a b c => by
        show (⟨(a.cps ++ b.cps) ++ c.cps⟩ : Str) = ⟨a.cps ++ (b.cps ++ c.cps)⟩
        rw [Array.append_assoc]
      rcases h with h | ⟨s, h⟩
      · exact ⟨t, h⟩
      · exact ⟨t ++ SP ++ s, by simp only [h, assoc]⟩
    · exact ⟨cur, _, rfl, .inl rfl⟩
theorem cand_cons (a c : Str) (r : List Str) : cand (a :: c :: r) = ((a.length : Int) + 1 + (hd1 c).length) :: cand (c :: r) := by
  simp [cand]
theorem cand_one (a : Str) : cand [a] = [] := by simp [cand]
abbrev Okw (t : Str) : Prop := NoSp t ∧ 0 < t.length
theorem cand_new (wd : Int) (t : Str) (r : List Str) (cur : Str) (ht : Okw t) : cand (cur :: brkF wd t r) = ((cur.length : Int) + 1 + t.length) :: cand (brkF wd t r) := by
  obtain ⟨x, rest, e, h⟩ := brkF_head wd r t
  rw [e, cand_cons, hd1_eq ht.1 ht.2 h]
/-- between the width and the next one the lines stay -/
theorem brkF_const {wd w' : Int} (h : wd ≤ w') : ∀ (r : List Str) (cur : Str), (∀ t ∈ r, Okw t) → (∀ y ∈ cand (brkF wd cur r), w' < y) → brkF w' cur r = brkF wd cur r
  | [], cur, _, _ => rfl
  | t :: r, cur, ht, hc => by
    unfold brkF at hc ⊢
    have ht' := ht t List.mem_cons_self
    by_cases c : (cur.length : Int) + 1 + t.length ≤ wd
    · rw [if_pos c] at hc ⊢
      rw [if_pos (by omega), brkF_const h r _ (fun x hx => ht x (List.mem_cons_of_mem _ hx)) hc]
    · rw [if_neg c] at hc ⊢
      rw [cand_new wd t r cur ht'] at hc
      have h1 := hc _ List.mem_cons_self
      rw [if_neg (by omega), brkF_const h r t (fun x hx => ht x (List.mem_cons_of_mem _ hx)) fun y hy => hc y (List.mem_cons_of_mem _ hy)]
theorem cand_gt {wd : Int} : ∀ (r : List Str) (cur : Str), (∀ t ∈ r, Okw t) → ∀ y ∈ cand (brkF wd cur r), wd < y
  | [], cur, _, y, hy => by simp [brkF, cand] at hy
  | t :: r, cur, ht, y, hy => by
    unfold brkF at hy
    split at hy
    · exact cand_gt r _ (fun x hx => ht x (List.mem_cons_of_mem _ hx)) y hy
    · rename_i c
      rw [cand_new wd t r cur (ht t List.mem_cons_self)] at hy
      rcases List.mem_cons.mp hy with e | hy
      · omega
      · exact cand_gt r t (fun x hx => ht x (List.mem_cons_of_mem _ hx)) y hy
def totI (ws : List Str) : Int := (ws.map fun t => (t.length : Int) + 1).sum
theorem totI_nn (ws : List Str) : 0 ≤ totI ws := by
  unfold totI
  induction ws with
  | nil => simp
  | cons a ws ih => simp only [List.map_cons, List.sum_cons]; omega
theorem cand_small {wd : Int} : ∀ (r : List Str) (cur : Str), (∀ t ∈ r, Okw t) → 1 < (brkF wd cur r).length → ∃ y ∈ cand (brkF wd cur r), y ≤ cur.length + totI r
  | [], cur, _, h => by simp [brkF] at h
  | t :: r, cur, ht, h => by
    have e : totI (t :: r) = (t.length : Int) + 1 + totI r := by simp [totI]
    have := totI_nn r
    unfold brkF at h ⊢
    split
    · rename_i c
      rw [if_pos c] at h
      obtain ⟨y, h1, h2⟩ := cand_small r _ (fun x hx => ht x (List.mem_cons_of_mem _ hx)) h
      rw [cur_len] at h2
      exact ⟨y, h1, by omega⟩
    · rw [cand_new wd t r cur (ht t List.mem_cons_self)]
      exact ⟨_, List.mem_cons_self, by omega⟩
/-- the least of a list -/
theorem min_ex : ∀ (l : List Int), l ≠ [] → ∃ m ∈ l, ∀ y ∈ l, m ≤ y
  | [], h => absurd rfl h
  | [a], _ => ⟨a, by simp, by simp⟩
  | a :: c :: l, _ => by
    obtain ⟨m, h1, h2⟩ := min_ex (c :: l) (by simp)
    rcases Int.le_total a m with h | h
    · refine ⟨a, by simp, fun y hy => ?_⟩
      rcases List.mem_cons.mp hy with e | hy
      · omega
      · have := h2 y hy; omega
    · refine ⟨m, List.mem_cons_of_mem _ h1, fun y hy => ?_⟩
      rcases List.mem_cons.mp hy with e | hy
      · omega
      · exact h2 y hy
/-- the row of pairs that the loop makes -/
theorem wp_ex {t : Str} {r : List Str} (ht : ∀ x ∈ t :: r, Okw x) (hB : totI (t :: r) ≤ 10000) : ∀ (k : Nat) (wd : Int), 0 ≤ wd → (10000 - wd).toNat ≤ k → wd ≤ 10000 →
    ∃ ps, WP (t :: r) wd ps ∧ ps.Pairwise lexLe ∧ (ps.length : Int) ≤ 10001 - wd ∧ (∀ q ∈ ps, wd ≤ q.1 ∧ 0 ≤ q.2) ∧ ∀ w h : Int, ((ps.any fun q => decide (q.1 ≤ w) && decide (q.2 ≤ h)) = true ↔ (wd ≤ w ∧ nL w (t :: r) ≤ h)) := by
  intro k
  induction k with
  | zero =>
    intro wd h0 hk hw
    have e : wd = 10000 := by omega
    have one : ¬ 1 < (brk wd (t :: r)).length := by
      intro h
      rw [brk_cons] at h
      obtain ⟨y, hy, hle⟩ := cand_small r t (fun x hx => ht x (List.mem_cons_of_mem _ hx)) h
      have := cand_gt (wd := wd) r t (fun x hx => ht x (List.mem_cons_of_mem _ hx)) y hy
      have e2 : totI (t :: r) = (t.length : Int) + 1 + totI r := by simp [totI]
      omega
    refine ⟨_, .last one, by simp, by simp; omega, fun q hq => ?_, fun w h => ?_⟩
    · obtain rfl := List.mem_singleton.mp hq
      exact ⟨Int.le_refl _, by show (0 : Int) ≤ nL wd (t :: r); unfold nL; omega⟩
    · have p1 := nL_pos (w := wd) (ws := t :: r) (by simp)
      have p2 := nL_pos (w := w) (ws := t :: r) (by simp)
      simp only [List.any_cons, List.any_nil, Bool.or_false, Bool.and_eq_true, decide_eq_true_eq]
      constructor
      · rintro ⟨a, c⟩
        exact ⟨a, Int.le_trans (nL_mono a _) c⟩
      · rintro ⟨a, c⟩
        refine ⟨a, ?_⟩
        unfold nL at p1 p2 c ⊢
        omega
  | succ k ih =>
    intro wd h0 hk hw
    by_cases one : 1 < (brk wd (t :: r)).length
    · have one' := one
      rw [brk_cons] at one'
      obtain ⟨y, hy, hle⟩ := cand_small r t (fun x hx => ht x (List.mem_cons_of_mem _ hx)) one'
      obtain ⟨m, hm, hmin⟩ := min_ex (cand (brkF wd t r)) (fun z => by rw [z] at hy; cases hy)
      have hgt := cand_gt (wd := wd) r t (fun x hx => ht x (List.mem_cons_of_mem _ hx)) m hm
      have e2 : totI (t :: r) = (t.length : Int) + 1 + totI r := by simp [totI]
      have hm2 := hmin y hy
      obtain ⟨ps, p1, p2, p3, p4, p5⟩ := ih m (by omega) (by omega) (by omega)
      refine ⟨_, .step one ⟨by rw [brk_cons]; exact hm, by rw [brk_cons]; exact hmin⟩ (by omega) (by omega) p1, ?_, by simp; omega, fun q hq => ?_, fun w h => ?_⟩
      · refine List.pairwise_cons.mpr ⟨fun q hq => ?_, p2⟩
        have := p4 q hq
        unfold lexLe
        exact .inl (by show wd < q.1; omega)
      · rcases List.mem_cons.mp hq with rfl | hq
        · exact ⟨Int.le_refl _, by show (0 : Int) ≤ nL wd (t :: r); unfold nL; omega⟩
        · have := p4 q hq
          omega
      · rw [List.any_cons, Bool.or_eq_true, p5 w h]
        simp only [Bool.and_eq_true, decide_eq_true_eq]
        by_cases c : w < m
        · constructor
          · rintro (⟨a, c2⟩ | ⟨a, _⟩)
            · have e : nL w (t :: r) = nL wd (t :: r) := by
                unfold nL
                rw [brk_cons, brk_cons, brkF_const a r t (fun x hx => ht x (List.mem_cons_of_mem _ hx)) fun y hy => by have := hmin y hy; omega]
              exact ⟨a, by rw [e]; exact c2⟩
            · omega
          · rintro ⟨a, c2⟩
            have e : nL w (t :: r) = nL wd (t :: r) := by
              unfold nL
              rw [brk_cons, brk_cons, brkF_const a r t (fun x hx => ht x (List.mem_cons_of_mem _ hx)) fun y hy => by have := hmin y hy; omega]
            exact .inl ⟨a, by rw [← e]; exact c2⟩
        · constructor
          · rintro (⟨a, c2⟩ | ⟨a, c2⟩)
            · exact ⟨a, Int.le_trans (nL_mono a _) c2⟩
            · exact ⟨by omega, c2⟩
          · rintro ⟨a, c2⟩
            exact .inr ⟨by omega, c2⟩
    · refine ⟨_, .last one, by simp, by simp; omega, fun q hq => ?_, fun w h => ?_⟩
      · obtain rfl := List.mem_singleton.mp hq
        exact ⟨Int.le_refl _, by show (0 : Int) ≤ nL wd (t :: r); unfold nL; omega⟩
      · have p1 := nL_pos (w := wd) (ws := t :: r) (by simp)
        have p2 := nL_pos (w := w) (ws := t :: r) (by simp)
        simp only [List.any_cons, List.any_nil, Bool.or_false, Bool.and_eq_true, decide_eq_true_eq]
        constructor
        · rintro ⟨a, c⟩
          exact ⟨a, Int.le_trans (nL_mono a _) c⟩
        · rintro ⟨a, c⟩
          refine ⟨a, ?_⟩
          unfold nL at p1 p2 c ⊢
          omega
theorem LET_nosp : (32 : Nat) ∉ LET.cps.toList := by decide
theorem VW.okw {t : Str} (h : VW t) : Okw t := ⟨fun c hc e => LET_nosp (e ▸ h.let_ c hc), h.pos⟩
theorem totI_le {ws : List Str} (h : ∀ t ∈ ws, VW t) : totI ws ≤ 41 * ws.length := by
  unfold totI
  induction ws with
  | nil => simp
  | cons a ws ih =>
    have h1 := (h a List.mem_cons_self).le
    have h2 := ih fun t ht => h t (List.mem_cons_of_mem _ ht)
    simp only [List.map_cons, List.sum_cons, List.length_cons]
    omega
/-- the stairs of words let in a room exactly if it is wide enough for each word and as high as the lines -/
theorem shape_ex {ws : List Str} (hl : ws.length ≤ 60) (hv : ∀ t ∈ ws, VW t) : ∃ st, WShape ws st ∧ ∀ w h : Int, 0 ≤ w → 0 ≤ h → inB st w h = (decide (maxLen ws ≤ w) && decide (nL w ws ≤ h)) := by
  cases ws with
  | nil =>
    refine ⟨[(0, 0)], .inl ⟨rfl, rfl⟩, fun w h h0 h1 => ?_⟩
    have e1 : maxLen [] = 0 := rfl
    have e2 : nL w [] = 0 := rfl
    rw [e1, e2]
    simp [inB]
  | cons t r =>
    have hm := maxLen_ok (t :: r)
    obtain ⟨m1, m2⟩ := hm.2 (by simp)
    obtain ⟨x, hx, ex⟩ := List.mem_map.mp m1
    have hM : ∀ y ∈ t :: r, (y.length : Int) ≤ maxLen (t :: r) := fun y hy => m2 _ (List.mem_map.mpr ⟨y, hy, rfl⟩)
    have hM2 : maxLen (t :: r) ≤ 40 := by
      have := (hv x hx).le
      omega
    have tot := totI_le hv
    obtain ⟨ps, p1, p2, p3, p4, p5⟩ := wp_ex (t := t) (r := r) (fun x hx => (hv x hx).okw) (by omega) 10000 (maxLen (t :: r)) (by omega) (by omega) (by omega)
    have e : ((x.length : Nat) : Int) = maxLen (t :: r) := ex
    refine ⟨hullF [] ps, .inr ⟨x.length, ps, ⟨by simp, by omega, fun y hy => by have := hM y hy; omega, ⟨x, hx, rfl⟩, by omega, by rw [e]; exact p1, p2, by omega, fun q hq => ?_⟩, rfl⟩, fun w h _ _ => ?_⟩
    · have := p4 q hq
      omega
    · have a := hull_any w h ps [] .nil (fun _ z => by cases z) p2
      rw [List.nil_append] at a
      show (hullF [] ps).any _ = _
      rw [a]
      have c := p5 w h
      cases hh : ps.any fun q => decide (q.1 ≤ w) && decide (q.2 ≤ h) with
      | true =>
        have := c.mp hh
        simp [this.1, this.2]
      | false =>
        symm
        rw [Bool.and_eq_false_iff, decide_eq_false_iff_not, decide_eq_false_iff_not]
        by_cases c1 : maxLen (t :: r) ≤ w
        · refine .inr fun c2 => ?_
          have := c.mpr ⟨c1, c2⟩
          rw [hh] at this
          cases this
        · exact .inl c1
end Dt
set_option maxHeartbeats 2000000
namespace Dt
open PySem PyProof.Rows
/-! ### the worst stairs let in a room exactly if it holds -/
theorem due_one {n l w : Int} (hn : 1 ≤ n) (hw : 2 * n - 1 ≤ w) : lawDue n l w = 1 := by
  unfold lawDue
  rw [if_neg (by omega)]
  split
  · rw [ediv_zero (by omega) (by omega)]
    rfl
  · rw [ediv_zero (by omega) (by omega)]
    rfl
theorem wsP_any {n l w h : Int} (hn : 0 ≤ n) (hl : 1 ≤ l) (hw : 0 ≤ w) : ((wsP n l).any fun q => decide (q.1 ≤ w) && decide (q.2 ≤ h)) = holdsB n l (w, h) := by
  have key : ((wsP n l).any fun q => decide (q.1 ≤ w) && decide (q.2 ≤ h)) = true ↔ holdsB n l (w, h) = true := by
    unfold wsP holdsB
    simp only [List.any_map, List.any_eq_true, List.mem_range, Function.comp, Bool.and_eq_true, decide_eq_true_eq]
    constructor
    · rintro ⟨k, hk, a, c⟩
      refine ⟨by omega, ?_⟩
      rw [← due_eq hn hl (by omega)] at c
      have := due_anti (n := n) (l := l) (w := min n l + k) (w' := w) hn hl (by omega) a
      omega
    · rintro ⟨a, c⟩
      unfold wsN
      by_cases hz : n = 0
      · refine ⟨0, by omega, by omega, ?_⟩
        rw [← due_eq hn hl (by omega)]
        subst hz
        exact c
      · by_cases hw2 : w ≤ 2 * n - 1
        · refine ⟨(w - min n l).toNat, by omega, by omega, ?_⟩
          have e : min n l + ((w - min n l).toNat : Int) = w := by omega
          rw [e, ← due_eq hn hl (by omega)]
          exact c
        · refine ⟨(2 * n - 1 - min n l).toNat, by omega, by omega, ?_⟩
          have e : min n l + ((2 * n - 1 - min n l).toNat : Int) = 2 * n - 1 := by omega
          rw [e, ← due_eq hn hl (by omega), due_one (by omega) (by omega)]
          rw [due_one (by omega) (by omega)] at c
          exact c
  cases h1 : (wsP n l).any fun q => decide (q.1 ≤ w) && decide (q.2 ≤ h) with
  | true => exact (key.mp h1).symm
  | false =>
    cases h2 : holdsB n l (w, h) with
    | true =>
      have := key.mpr h2
      rw [h1] at this
      exact this
    | false => rfl
theorem hull_holds {n l w h : Int} (hn : 0 ≤ n) (hn2 : n ≤ 400) (hl : 1 ≤ l) (hw : 0 ≤ w) : inB (hullF [] (wsP n l)) w h = holdsB n l (w, h) := by
  have a := hull_any w h (wsP n l) [] .nil (fun _ z => by cases z) (wsP_ok hn hn2 hl).2.2.1
  rw [List.nil_append] at a
  show (hullF [] (wsP n l)).any _ = _
  rw [a, wsP_any hn hl hw]
/-! ### the law's corners are those of the hull -/
theorem last_le {ps : List (Int × Int)} (h : ps.Pairwise up2) {q r : Int × Int} (hq : q ∈ ps) (hr : ps.getLast? = some r) : r.2 ≤ q.2 := by
  rcases snoc_cases ps with e | ⟨m, x, e⟩
  · rw [e] at hq; cases hq
  · subst e
    have e2 : x = r := by simpa using hr
    subst e2
    rcases List.mem_append.mp hq with hq | hq
    · have := (List.pairwise_append.mp h).2.2 q hq x (by simp)
      unfold up2 at this
      omega
    · rw [List.mem_singleton.mp hq]
      exact Int.le_refl _
theorem lcP_eq {n l : Int} (hn : 0 ≤ n) (hn2 : n ≤ 400) (hl : 1 ≤ l) : hullF [] (lcP n l) = hullF [] (wsP n l) := by
  have same : ∀ k : Nat, (n ≠ 0 → 1 ≤ min n l + (k : Int)) → ((min n l + (k : Int), lawDue n l (min n l + k)) : Int × Int) = (min n l + (k : Int), linesAfter n 0 l (min n l + k)) := fun k h => by rw [due_eq hn hl h]
  by_cases hz : n = 0
  · have e1 : lcN n l = wsN n l := by unfold lcN wsN; omega
    have : lcP n l = wsP n l := by
      unfold lcP wsP
      rw [e1]
      refine List.map_congr_left fun k _ => same k (fun z => absurd hz z)
    rw [this]
  · have e1 : lcN n l = wsN n l + 1 := by unfold lcN wsN; omega
    have : lcP n l = wsP n l ++ [(2 * n, lawDue n l (2 * n))] := by
      unfold lcP wsP
      rw [e1, List.range_succ, List.map_append]
      congr 1
      · refine List.map_congr_left fun k _ => same k (fun z => by omega)
      · have e : min n l + ((wsN n l : Nat) : Int) = 2 * n := by unfold wsN; omega
        simp only [List.map_cons, List.map_nil, e]
    rw [this, hullF_snoc]
    have hh := hull_holds (n := n) (l := l) (w := 2 * n - 1) (h := 1) hn hn2 hl (by omega)
    have ht : holdsB n l (2 * n - 1, 1) = true := by
      unfold holdsB
      simp only [Bool.and_eq_true, decide_eq_true_eq]
      exact ⟨by omega, by rw [due_one (by omega) (by omega)]; exact Int.le_refl _⟩
    rw [ht] at hh
    obtain ⟨q, hq, hq2⟩ := List.any_eq_true.mp hh
    simp only [Bool.and_eq_true, decide_eq_true_eq] at hq2
    have hk : keepB (hullF [] (wsP n l)) (2 * n, lawDue n l (2 * n)) = false := by
      cases hL : (hullF [] (wsP n l)).getLast? with
      | none =>
        rw [List.getLast?_eq_none_iff.mp hL] at hq
        cases hq
      | some r =>
        have := last_le (hull_up _ [] .nil (fun _ z => by cases z) (wsP_ok hn hn2 hl).2.2.1) hq hL
        unfold keepB
        rw [hL]
        simp only [decide_eq_false_iff_not]
        rw [due_one (by omega) (by omega)]
        omega
    rw [hk]
    rfl
theorem corners_bd {n l : Int} (hn : 0 ≤ n) (hn2 : n ≤ 60) (hl : 1 ≤ l) : hullF [] (wsP n l) ≠ [] ∧ (hullF [] (wsP n l)).length ≤ 1000 ∧ ∀ q ∈ hullF [] (wsP n l), RmOk q := by
  have hne := hull_ne (wsP_ok hn (by omega) hl).1
  have hlen := hullF_len (wsP n l) []
  refine ⟨hne, by
    have e : (wsP n l).length = wsN n l := by simp [wsP]
    rw [e] at hlen
    unfold wsN at hlen
    simp only [List.length_nil] at hlen
    omega, fun q hq => ?_⟩
  rcases hull_mem _ _ q hq with h | h
  · cases h
  · simp only [wsP, List.mem_map, List.mem_range] at h
    obtain ⟨k, hk, rfl⟩ := h
    unfold wsN at hk
    have hd := lawDue_bd (n := n) (l := l) (wd := min n l + k) hn hn2 (by omega)
    rw [due_eq hn hl (by omega)] at hd
    exact ⟨by show 0 ≤ min n l + (k : Int); omega, by show min n l + (k : Int) ≤ 1000; omega, by show 0 ≤ linesAfter n 0 l _; exact hd.1, by show linesAfter n 0 l _ ≤ 1000; omega⟩
/-! ### the height at a width -/
theorem height_ok {n l w : Int} (hn : 0 ≤ n) (hn2 : n ≤ 400) (hl : 1 ≤ l) (hw : min n l ≤ w) : ∃ q, cntW (hullF [] (wsP n l)) w ≠ 0 ∧ (hullF [] (wsP n l))[cntW (hullF [] (wsP n l)) w - 1]? = some q ∧ q.2 = linesAfter n 0 l w := by
  have hst := hull_up (wsP n l) [] .nil (fun _ z => by cases z) (wsP_ok hn hn2 hl).2.2.1
  have hold : ∀ h : Int, inB (hullF [] (wsP n l)) w h = holdsB n l (w, h) := fun h => hull_holds hn hn2 hl (by omega)
  have h1 := hold (lawDue n l w)
  have h2 : holdsB n l (w, lawDue n l w) = true := by
    unfold holdsB
    simp only [Bool.and_eq_true, decide_eq_true_eq]
    exact ⟨hw, Int.le_refl _⟩
  rw [h2] at h1
  obtain ⟨q', hq', hb⟩ := List.any_eq_true.mp h1
  simp only [Bool.and_eq_true, decide_eq_true_eq] at hb
  generalize hullF [] (wsP n l) = ps at hst hold hq'
  obtain ⟨j, hj, ej⟩ := List.getElem_of_mem hq'
  have ej' : ps[j]? = some q' := by rw [List.getElem?_eq_getElem hj, ej]
  have asc : ∀ a c : Nat, ∀ x y : Int × Int, a < c → ps[a]? = some x → ps[c]? = some y → up2 x y := fun a c x y h hx hy => by
    obtain ⟨p1, e1⟩ := List.getElem?_eq_some_iff.mp hx
    obtain ⟨p2, e2⟩ := List.getElem?_eq_some_iff.mp hy
    have := List.pairwise_iff_getElem.mp hst a c p1 p2 h
    rw [e1, e2] at this
    exact this
  have hcnt : j + 1 ≤ cntW ps w := tw_ge (p := fun q : Int × Int => decide (q.1 ≤ w)) (fun i x hi hx => by
    rw [decide_eq_true_eq]
    rcases Nat.lt_or_ge i j with h | h
    · have := asc i j x q' h hx ej'
      unfold up2 at this
      omega
    · have : i = j := by omega
      subst this
      rw [ej'] at hx
      cases hx
      exact hb.1) (by omega)
  have hlen := tw_len (p := fun q : Int × Int => decide (q.1 ≤ w)) (l := ps)
  have hlt : cntW ps w - 1 < ps.length := by unfold cntW at hcnt ⊢; omega
  have e := List.getElem?_eq_getElem hlt
  refine ⟨ps[cntW ps w - 1], by omega, e, ?_⟩
  have hqw : (ps[cntW ps w - 1]).1 ≤ w := by
    have hmem : ∀ i, i < cntW ps w → ∀ x, ps[i]? = some x → x.1 ≤ w := fun i hi x hx => by
      rcases Int.lt_or_le w x.1 with h | h
      · have := tw_le (p := fun q : Int × Int => decide (q.1 ≤ w)) hx (by simpa using h)
        unfold cntW at hi
        omega
      · exact h
    exact hmem _ (by omega) _ e
  have up : lawDue n l w ≤ (ps[cntW ps w - 1]).2 := by
    have h3 := hold (ps[cntW ps w - 1]).2
    have h4 : inB ps w (ps[cntW ps w - 1]).2 = true := List.any_eq_true.mpr ⟨_, List.getElem_mem hlt, by simp [hqw]⟩
    rw [h4] at h3
    have h5 := h3.symm
    unfold holdsB at h5
    simp only [Bool.and_eq_true, decide_eq_true_eq] at h5
    exact h5.2
  have dn : (ps[cntW ps w - 1]).2 ≤ q'.2 := by
    rcases Nat.lt_or_ge j (cntW ps w - 1) with h | h
    · have := asc j _ q' _ h ej' e
      unfold up2 at this
      omega
    · have : j = cntW ps w - 1 := by omega
      rw [this, e] at ej'
      rw [Option.some.inj ej']
      exact Int.le_refl _
  rw [← due_eq hn hl (by omega)]
  omega
/-! ### the greatest number of letters -/
theorem holds_iff {n l w h : Int} (hn : 0 ≤ n) (hl : 1 ≤ l) (hw : 0 ≤ w) (hh : 0 ≤ h) : holdsB n l (w, h) = true ↔ n ≤ (if w < l then min (if l = 1 then (w + 1) / 2 * h else (w * h + 1) / 2) w else (if l = 1 then (w + 1) / 2 * h else (w * h + 1) / 2)) := by
  unfold holdsB
  simp only [Bool.and_eq_true, decide_eq_true_eq]
  have hwh : 0 ≤ w * h := Int.mul_nonneg hw hh
  have hkh : 0 ≤ (w + 1) / 2 * h := Int.mul_nonneg (by omega) hh
  by_cases hz : n = 0
  · have e : lawDue n l w = 0 := by unfold lawDue; rw [if_pos hz]
    rw [e]
    constructor
    · intro _
      split <;> split <;> omega
    · intro _
      omega
  · by_cases h1 : l = 1
    · subst h1
      simp only [if_true]
      by_cases hw1 : w < 1
      · rw [if_pos hw1]
        have e : w = 0 := by omega
        subst e
        constructor
        · rintro ⟨a, _⟩; omega
        · intro a; omega
      · rw [if_neg hw1]
        have hk : 0 < (w + 1) / 2 := by omega
        have e : lawDue n 1 w = 1 + (n - 1) / ((w + 1) / 2) := by unfold lawDue; rw [if_neg hz, if_pos rfl]
        rw [e]
        have c : (n - 1) / ((w + 1) / 2) < h ↔ n - 1 < h * ((w + 1) / 2) := Int.ediv_lt_iff_lt_mul hk
        rw [Int.mul_comm h] at c
        constructor
        · rintro ⟨_, a⟩
          have := c.mp (by omega)
          omega
        · intro a
          have := c.mpr (by omega)
          omega
    · simp only [if_neg h1]
      have e : lawDue n l w = 1 + 2 * (n - 1) / w := by unfold lawDue; rw [if_neg hz, if_neg h1]
      rw [e]
      by_cases hw0 : w = 0
      · subst hw0
        constructor
        · rintro ⟨a, _⟩; omega
        · intro a
          rw [if_pos (by omega)] at a
          omega
      · have c : 2 * (n - 1) / w < h ↔ 2 * (n - 1) < h * w := Int.ediv_lt_iff_lt_mul (by omega)
        rw [Int.mul_comm h] at c
        by_cases hwl : w < l
        · rw [if_pos hwl]
          constructor
          · rintro ⟨a, a2⟩
            have := c.mp (by omega)
            omega
          · intro a
            have := c.mpr (by omega)
            omega
        · rw [if_neg hwl]
          constructor
          · rintro ⟨a, a2⟩
            have := c.mp (by omega)
            omega
          · intro a
            have := c.mpr (by omega)
            omega
theorem greatest_eq {l w h : Int} (hl : 1 ≤ l) (hw : 0 ≤ w) (hh : 0 ≤ h) : ∀ k : Nat, greatest l (w, h) (k + 1) = min (if w < l then min (if l = 1 then (w + 1) / 2 * h else (w * h + 1) / 2) w else (if l = 1 then (w + 1) / 2 * h else (w * h + 1) / 2)) k := by
  intro k
  have hi : ∀ n : Int, 0 ≤ n → (holdsB n l (w, h) = true ↔ n ≤ (if w < l then min (if l = 1 then (w + 1) / 2 * h else (w * h + 1) / 2) w else (if l = 1 then (w + 1) / 2 * h else (w * h + 1) / 2))) := fun n hn => holds_iff hn hl hw hh
  have h0 := (hi 0 (by omega)).mp (by
    unfold holdsB
    simp only [Bool.and_eq_true, decide_eq_true_eq]
    refine ⟨by omega, ?_⟩
    show lawDue 0 l w ≤ h
    unfold lawDue
    rw [if_pos rfl]
    exact hh)
  generalize (if w < l then min (if l = 1 then (w + 1) / 2 * h else (w * h + 1) / 2) w else (if l = 1 then (w + 1) / 2 * h else (w * h + 1) / 2)) = B at hi h0
  induction k with
  | zero =>
    unfold greatest
    have : holdsB ((0 : Nat) : Int) l (w, h) = true := (hi 0 (by omega)).mpr h0
    rw [if_pos this]
    show (0 : Int) = min B 0
    omega
  | succ k ih =>
    have e : greatest l (w, h) (k + 1 + 1) = if holdsB ((k + 1 : Nat) : Int) l (w, h) then ((k + 1 : Nat) : Int) else greatest l (w, h) (k + 1) := rfl
    rw [e]
    have hk := hi ((k + 1 : Nat) : Int) (by omega)
    cases hc : holdsB ((k + 1 : Nat) : Int) l (w, h) with
    | true =>
      have := hk.mp hc
      rw [if_pos rfl]
      omega
    | false =>
      have : ¬ ((k + 1 : Nat) : Int) ≤ B := fun z => by
        have := hk.mpr z
        rw [hc] at this
        cases this
      rw [if_neg (by decide), ih]
      omega
theorem letters_greatest {l w h : Int} (hl : 1 ≤ l) (hw : 0 ≤ w) (hh : 0 ≤ h) : lettersFor l w h = greatest l (w, h) 61 := by
  rw [greatest_eq hl hw hh 60]
  rfl
/-! ### words of x -/
theorem mul_x (n : Int) : ∀ c ∈ (Txt.mul "x" n).cps.toList, c = 120 := by
  have hx : (("x" : Str)).cps.toList = [120] := by decide
  intro c hc
  unfold Txt.mul at hc
  split at hc
  · cases hc
  · split at hc
    · rw [hx] at hc
      simpa using hc
    · have key : ∀ (k : Nat) (acc : Array Nat), (∀ c ∈ acc.toList, c = 120) → ∀ c ∈ ((List.replicate k (("x" : Str)).cps).foldl (· ++ ·) acc).toList, c = 120 := by
        intro k
        induction k with
        | zero => intro acc h c hc; exact h c hc
        | succ k ih =>
          intro acc h c hc
          rw [List.replicate_succ, List.foldl_cons] at hc
          refine ih _ (fun c hc => ?_) c hc
          rw [Array.toList_append, hx] at hc
          rcases List.mem_append.mp hc with hc | hc
          · exact h c hc
          · simpa using hc
      exact key _ #[] (fun c hc => by cases hc) c hc
theorem x_vw {m : Int} (h1 : 1 ≤ m) (h2 : m ≤ 40) : VW (Txt.mul "x" m) := by
  have := len_x (m := m) (by omega)
  refine ⟨by omega, by omega, fun c hc => ?_⟩
  rw [mul_x m c hc]
  decide
abbrev xw (lens : List Int) : List Str := lens.map fun m => Txt.mul "x" m
theorem xw_lens {lens : List Int} (h : ∀ m ∈ lens, 0 ≤ m) : lensI (xw lens) = lens := by
  unfold lensI xw
  rw [List.map_map]
  induction lens with
  | nil => rfl
  | cons a t ih =>
    rw [List.map_cons, ih fun m hm => h m (List.mem_cons_of_mem _ hm)]
    show ((Txt.mul "x" a).length : Int) :: t = _
    rw [len_x (h a List.mem_cons_self)]
theorem max_le {ws : List Str} {x : Int} (h0 : 0 ≤ x) (h : ∀ t ∈ ws, (t.length : Int) ≤ x) : maxLen ws ≤ x := by
  have hm := maxLen_ok ws
  by_cases he : ws.map (fun t => (t.length : Int)) = []
  · rw [hm.1 he]
    exact h0
  · obtain ⟨t, ht, e⟩ := List.mem_map.mp (hm.2 he).1
    rw [← e]
    exact h t ht
theorem le_max {ws : List Str} {t : Str} (h : t ∈ ws) : (t.length : Int) ≤ maxLen ws := by
  have hm := maxLen_ok ws
  have hmem : (t.length : Int) ∈ ws.map (fun t => (t.length : Int)) := List.mem_map.mpr ⟨t, h, rfl⟩
  exact (hm.2 fun z => by rw [z] at hmem; cases hmem).2 _ hmem
theorem xw_sum {lens : List Int} (h : ∀ m ∈ lens, 0 ≤ m) : sumLen (xw lens) = lens.sum := by
  have := xw_lens h
  unfold lensI at this
  unfold sumLen
  rw [this]
/-- the lines of a text that fits are no more than those of worst words -/
theorem text_le {n l w : Int} {ws : List Str} (hp : preA n 0 l w) (h : TextOk n l ws) : nL w ws ≤ lawDue n l w := by
  have hp' := hp
  unfold preA at hp'
  rw [nL_lines, due_eq (by omega) (by omega) (by omega)]
  refine lines_le (lensI ws) n 0 hp (.inr rfl) (fun m hm => ?_) ?_
  · obtain ⟨t, ht, rfl⟩ := List.mem_map.mp hm
    have := h.vw t ht
    have := this.1.pos
    omega
  · exact h.sum
theorem text_max {n l : Int} {ws : List Str} (hn : 0 ≤ n) (hl : 1 ≤ l) (h : TextOk n l ws) : maxLen ws ≤ min n l := by
  refine max_le (by omega) fun t ht => ?_
  have h1 := h.vw t ht
  have h2 : (t.length : Int) ≤ sumLen ws := by
    unfold sumLen
    have : ∀ us : List Str, t ∈ us → (t.length : Int) ≤ (us.map fun t => (t.length : Int)).sum ∧ 0 ≤ (us.map fun t => (t.length : Int)).sum := by
      intro us
      induction us with
      | nil => intro z; cases z
      | cons a us ih =>
        intro z
        have nn : 0 ≤ (us.map fun t => (t.length : Int)).sum := by
          have : ∀ vs : List Str, 0 ≤ (vs.map fun t => (t.length : Int)).sum := by
            intro vs
            induction vs with
            | nil => simp
            | cons b vs ih2 => simp only [List.map_cons, List.sum_cons]; omega
          exact this us
        simp only [List.map_cons, List.sum_cons]
        rcases List.mem_cons.mp z with e | z
        · rw [e]; omega
        · have := (ih z).1
          omega
    exact (this ws ht).1
  have := h.sum
  omega
end Dt
set_option maxHeartbeats 4000000
namespace Dt
open PySem PySem.Spec PyProof.Rows L2
theorem isPys_str : ∀ ws : List Str, D.isPys (wsD ws) = true
  | [] => by unfold D.isPys; rfl
  | t :: ws => by
    show D.isPys (.str t :: wsD ws) = true
    unfold D.isPys D.isPy
    rw [isPys_str ws]
    rfl
theorem depth_str : ∀ ws : List Str, PyData.depthAll (D.pys (wsD ws)) ≤ 1
  | [] => by
    show PyData.depthAll (D.pys []) ≤ 1
    unfold D.pys PyData.depthAll
    omega
  | t :: ws => by
    show PyData.depthAll (D.pys (.str t :: wsD ws)) ≤ 1
    unfold D.pys D.py PyData.depthAll PyData.depth
    have := depth_str ws
    omega
section
variable {P : Program} {w : World} {K : PySem.W.Frag} {mg : Str → Option Value} {base : Heap}
abbrev aD (C : Addr) (n l : Int) : D := .obj C (aFs n l)
/-! ### _law_room -/
def R_kept (Ca : Addr) : List D → D → Prop := fun ds d => ∃ (n l : Int) (r : Int × Int), ds = [aD Ca n l, rmD r] ∧ (0 ≤ n ∧ n ≤ 60 ∧ 1 ≤ l ∧ l ≤ 20 ∧ RmOk r ∧ holdsB n l r = false) ∧ d = .bl true
def R_room (Ca S : Addr) : List D → D → Prop := fun ds d => ∃ (n l : Int) (r : Int × Int) (ts : List (List Str)), ds = [aD Ca n l, stD S (hullF [] (wsP n l)), .lst (ts.map tD), .tup [.int n, .int l], rmD r] ∧ (0 ≤ n ∧ n ≤ 60 ∧ 1 ≤ l ∧ l ≤ 20 ∧ RmOk r ∧ ∀ ws ∈ ts, TextOk n l ws) ∧ d = .bl true
abbrev N_room : List Str := ["content", "stairs", "texts", "known", "room", "letters", "longest", "width", "height", "inside", "words", "lengths", "text", "given", "size"]
theorem sc_room : FnScope N_room ["content", "stairs", "texts", "known", "room"] (defScope (top 48)) := ⟨rfl, rfl, rfl, by decide +kernel, rfl, by decide +kernel, by decide +kernel⟩
structure C76 (P : Program) (w : World) (K : PySem.W.Frag) (mg : Str → Option Value) (base : Heap) (S Cw Ca : Addr) : Prop where
  b : Bt mg
  holds : C8.Cal P w K mg base 2 "_law_holds" (spD K R_holds) []
  worst_lengths : C8.Cal P w K mg base 4 "worst_lengths" (spD K R_worst_lengths) []
  is_worst : C8.Cal P w K mg base 2 "_law_is_worst" (spD K R_is_worst) []
  broken : C8.Cal P w K mg base 1 "_law_broken" (spD K R_broken) []
  same0 : C8.Cal P w K mg base 1 "_law_same" (spD K R_same0) []
  same1 : C8.Cal P w K mg base 2 "_law_same" (spD K R_same1) []
  kept : C8.Cal P w K mg base 9 "_law_kept_out" (spD K (R_kept Ca)) []
  inS : CtC P w K mg base 1 S (R_contains S)
  inA : CtC P w K mg base 3 Ca (R_a_contains Ca)
  mkW : C8.Mak P w K mg base 2 "Words" Cw (spI K Cw RI_words) []
  mkA : C8.Mak P w K mg base 2 "AnyText" Ca (spI K Ca RI_any) []
  shW : C8.Met P w K mg base 6 Cw "shape" (spD K (R_shape Cw S ShW)) []
  shA : C8.Met P w K mg base 6 Ca "shape" (spD K (R_shape Ca S ShA)) []
  drW : C8.Met P w K mg base 8 Cw "drawn" (spD K (R_w_drawn Cw)) []
  drA : C8.Met P w K mg base 8 Ca "drawn" (spD K (R_a_drawn Ca)) []
theorem no_shape_w (ws : List Str) : (wFs ws).lookup ("shape" : Str) = none := by
  have e : ((("shape" : Str)) == "key") = false := by decide
  have e2 : ((("shape" : Str)) == "words") = false := by decide
  simp [wFs, List.lookup, e, e2]
theorem no_shape_a (n l : Int) : (aFs n l).lookup ("shape" : Str) = none := by
  have e : ((("shape" : Str)) == "key") = false := by decide
  have e2 : ((("shape" : Str)) == "letters") = false := by decide
  have e3 : ((("shape" : Str)) == "longest") = false := by decide
  simp [aFs, List.lookup, e, e2, e3]
theorem no_drawn_w (ws : List Str) : (wFs ws).lookup ("drawn" : Str) = none := by
  have e : ((("drawn" : Str)) == "key") = false := by decide
  have e2 : ((("drawn" : Str)) == "words") = false := by decide
  simp [wFs, List.lookup, e, e2]
theorem no_drawn_a (n l : Int) : (aFs n l).lookup ("drawn" : Str) = none := by
  have e : ((("drawn" : Str)) == "key") = false := by decide
  have e2 : ((("drawn" : Str)) == "letters") = false := by decide
  have e3 : ((("drawn" : Str)) == "longest") = false := by decide
  simp [aFs, List.lookup, e, e2, e3]
theorem fits_of {ws : List Str} {n l : Int} (h1 : maxLen ws ≤ l) (h2 : sumLen ws ≤ n) : fitsB ws n l = true := by
  unfold fitsB
  simp [h1, h2]
theorem leafs (ws : List Str) : ∀ y ∈ wsD ws, Leaf y := fun y hy => by
  obtain ⟨t, _, rfl⟩ := List.mem_map.mp hy
  exact .str t
theorem ok_room {S Cw Ca : Addr} (c : C76 P w K mg base S Cw Ca) {f : Addr} {fd : FuncData} (F : Fun K "_law_room" "_law_room" (top 48) f fd) : FnOk P w K mg base CX0 10 f fd ["content", "stairs", "texts", "known", "room"] (spD K (R_room Ca S)) := by
  refine fnD F sc_room _ (fun ds d ⟨_, _, _, _, h, _⟩ => by rw [h]; rfl) fun cdv A outer s H E ds d hr hR => ?_
  obtain ⟨n, l, r, ts, rfl, ⟨h1, h2, h3, h4, h5, h6⟩, rfl⟩ := hR
  have hold : (hullF [] (wsP n l)).any (fun q => decide (q.1 ≤ r.1) && decide (q.2 ≤ r.2)) = holdsB n l r := hull_holds h1 (by omega) h3 h5.1
  refine exd_cons (exs_asg (v 3) (tt (tgbs_cons (tn 5 sc_room.nd) (tgbs_cons (tn 6 sc_room.nd) tgbs_nil)) rfl) ?_)
  refine exd_cons (exs_asg (v 4) (tt (tgbs_cons (tn 7 sc_room.nd) (tgbs_cons (tn 8 sc_room.nd) tgbs_nil)) rfl) ?_)
  refine exd_cons (sv 9 sc_room.nd (cl c.holds hr (ac (v 5) (ac (v 6) (a1 (v 4)))) ⟨n, l, r, rfl, by have := h5.2.1; exact ⟨h1, by omega, h3, by omega, h5.1, by omega⟩, rfl⟩) ?_)
  refine exd_cons (exs_if (evt_ne (din c.inS hr (by decide) (v 4) (v 1) ⟨_, r.1, r.2, rfl, rfl⟩) (v 9) (.bl _ _)) (fun h => ?_) fun h => exd_nil ?_)
  · rw [hold] at h
    simp at h
  refine exd_cons (sv 10 sc_room.nd (evd_lst (a1 (evd_mulS evd_str (bmin c.b (v 5) (v 6)) (by decide) (by omega))) (by simp)) ?_)
  refine exd_join (fun env' => ∃ (lens : List Int) (x : Cell), env' = [.frz (aD Ca n l), .frz (stD S (hullF [] (wsP n l))), .frz (.lst (ts.map tD)), .frz (.tup [.int n, .int l]), .frz (rmD r), .frz (.int n), .frz (.int l), .frz (.int r.1), .frz (.int r.2), .frz (.bl (holdsB n l r)), .frz (.lst (wsD (xw lens))), x, .junk, .junk, .junk] ∧ lens.length ≤ 60 ∧ (∀ m ∈ lens, 1 ≤ m ∧ m ≤ l) ∧ lens.sum ≤ n ∧ (min n l ≤ r.1 → WL l r.1 n 0 lens ∧ (∀ m ∈ lens, m ≤ r.1) ∧ nL r.1 (xw lens) = lawDue n l r.1) ∧ (r.1 < min n l → lens = [min n l])) (exs_if (evt_ge (v 7) (bmin c.b (v 5) (v 6))) (fun h => ?_) fun h => exd_nil ?_) ?_
  · rw [decide_eq_true_eq] at h
    have hpre : preA n 0 l r.1 := by
      have := h5.1
      have := h5.2.1
      unfold preA
      omega
    obtain ⟨lens, hwl⟩ := wl_ex n.toNat n 0 l r.1 (Nat.le_refl _) hpre (.inr rfl)
    obtain ⟨f1, f2, f3⟩ := wl_facts hwl hpre
    have hnl : nL r.1 (xw lens) = lawDue n l r.1 := by
      rw [nL_lines, xw_lens fun m hm => by have := f3 m hm; omega, wl_lines hwl, due_eq h1 h3 (by omega)]
    refine exd_cons (sv 11 sc_room.nd (cl c.worst_lengths hr (ac (v 5) (ac (v 6) (a1 (v 7)))) ⟨n, l, r.1, lens, rfl, ⟨hpre, hwl, by omega⟩, rfl⟩) ?_)
    refine exd_cons (exs_if (evt_not (evt_val (cl c.is_worst hr (ac (v 11) (ac (v 5) (ac (v 6) (a1 (v 7))))) ⟨n, l, r.1, lens, rfl, ⟨h1, by omega, by omega, by have := h5.2.1; omega, by omega, by omega, fun m hm => by have := f3 m hm; omega, f1, hnl⟩, rfl⟩))) (fun h => by cases h) fun _ => exd_nil ?_)
    refine exd_cons (exs_setLcM (i := 10) (own := [("size", 14)]) (l := lens) (en := D.int) (fn := xsS) rfl sc_room.nd rfl rfl (evi_tup (v 11)) (blkOk_by (N := N_room) (sc := defScope (top 48)) (by decide +kernel)) (by omega) (fun m hm => ?_) (exd_nil ?_) (sw_true rfl rfl rfl (by decide +kernel)))
    · have := f3 m hm
      exact ⟨[(14, .int m)], by simp, fun s H C cl fp => tn 14 sc_room.nd, fun s H C cl' fp => evd_mulS evd_str (v 14) (by decide) (by omega)⟩
    · refine ⟨lens, .frz (.tup (dInts lens)), ?_, by omega, fun m hm => by have := f3 m hm; omega, by omega, fun _ => ⟨hwl, fun m hm => (f3 m hm).2.2, hnl⟩, fun z => by omega⟩
      have e : lens.map xsS = wsD (xw lens) := by simp [wsD, xw, xsS]
      rw [e]
      rfl
  · rw [decide_eq_false_iff_not] at h
    have := h5.1
    exact ⟨[min n l], .junk, rfl, by simp, fun m hm => by obtain rfl := List.mem_singleton.mp hm; omega, by simp; omega, fun z => by omega, fun _ => rfl⟩
  rintro _ ⟨lens, x, rfl, g1, g2, g3, g4, g5⟩
  have hvw : ∀ t ∈ xw lens, VW t := fun t ht => by
    obtain ⟨m, hm, rfl⟩ := List.mem_map.mp ht
    have := g2 m hm
    exact x_vw this.1 (by omega)
  have hln : ∀ m ∈ lens, 0 ≤ m := fun m hm => by have := g2 m hm; omega
  have hxl : (xw lens).length ≤ 60 := by simp; exact g1
  have hmax : maxLen (xw lens) ≤ l := max_le (by omega) fun t ht => by
    obtain ⟨m, hm, rfl⟩ := List.mem_map.mp ht
    have := g2 m hm
    rw [len_x (by omega)]
    omega
  have hsum : sumLen (xw lens) ≤ n := by rw [xw_sum hln]; exact g3
  have hfit := fits_of hmax hsum
  obtain ⟨st, hst, hin⟩ := shape_ex hxl hvw
  have hin' := hin r.1 r.2 h5.1 h5.2.2.1
  refine exd_cons (exs_if (tnin c.inA hr (by decide) (blist c.b (evl_of (v 10))) (v 0) ⟨xw lens, n, l, rfl, ⟨hxl, hvw⟩, rfl⟩) (fun h => by rw [hfit] at h; cases h) fun _ => exd_nil ?_)
  refine exd_cons (exs_if (evt_not (evt_val (v 9))) (fun h => ?_) fun h => exd_nil ?_)
  · have hf : holdsB n l r = false := by simpa using h
    have hno : inB st r.1 r.2 = false := by
      rw [hin', Bool.and_eq_false_iff, decide_eq_false_iff_not, decide_eq_false_iff_not]
      by_cases c1 : min n l ≤ r.1
      · refine .inr fun c2 => ?_
        rw [(g4 c1).2.2] at c2
        have : holdsB n l r = true := by
          unfold holdsB
          simp [c1, c2]
        rw [hf] at this
        cases this
      · refine .inl fun c2 => ?_
        have hl := g5 (by omega)
        have hmem : Txt.mul "x" (min n l) ∈ xw lens := List.mem_map.mpr ⟨min n l, by rw [hl]; simp, rfl⟩
        have := le_max hmem
        have h7 := h5.1
        rw [len_x (by omega)] at this
        omega
    refine exd_cons (exs_ret (evd_and (dnin c.inS hr (by decide) (v 4) (evd_mt0 c.shW hr (by decide) (evd_mk c.mkW hr (by decide) rfl (a1 (blist c.b (evl_of (v 10)))) ⟨xw lens, rfl, rfl, ⟨hxl, hvw⟩, rfl⟩) (no_shape_w _) ⟨_, st, rfl, ⟨_, rfl, hst⟩, rfl⟩) ⟨st, r.1, r.2, rfl, rfl⟩) fun _ => evd_and1 (cl c.kept hr (ac (v 0) (a1 (v 4))) ⟨n, l, r, rfl, ⟨h1, h2, h3, h4, h5, hf⟩, rfl⟩)) ?_)
    rw [show (st.any fun q => decide (q.1 ≤ r.1) && decide (q.2 ≤ r.2)) = false from hno]
    rfl
  have hf : holdsB n l r = true := by simpa using h
  have hf' := hf
  unfold holdsB at hf'
  simp only [Bool.and_eq_true, decide_eq_true_eq] at hf'
  have hpre : preA n 0 l r.1 := by
    have := h5.1
    have := h5.2.1
    unfold preA
    omega
  refine exd_cons (exs_for (fun i env => ∃ x y z : Cell, env = [.frz (aD Ca n l), .frz (stD S (hullF [] (wsP n l))), .frz (.lst (ts.map tD)), .frz (.tup [.int n, .int l]), .frz (rmD r), .frz (.int n), .frz (.int l), .frz (.int r.1), .frz (.int r.2), .frz (.bl (holdsB n l r)), .frz (.lst (wsD (xw lens))), x, y, z, .junk]) rfl (evi_list (v 2)) ⟨_, _, _, rfl⟩ (fun i d env1 hd hI => ?_) fun env1 hI => ?_)
  · obtain ⟨x, y, z, rfl⟩ := hI
    obtain ⟨us, hus, rfl⟩ := map_get hd
    have ok := h6 us (List.mem_of_getElem? hus)
    have uv : ∀ t ∈ us, VW t := fun t ht => (ok.vw t ht).1
    have um := text_max h1 h3 ok
    have ule := text_le hpre ok
    obtain ⟨st', hst', hin2⟩ := shape_ex ok.cnt uv
    have hyes : inB st' r.1 r.2 = true := by
      rw [hin2 r.1 r.2 h5.1 h5.2.2.1]
      simp only [Bool.and_eq_true, decide_eq_true_eq]
      omega
    have hwid : ∀ t ∈ us, (t.length : Int) ≤ r.1 := fun t ht => by
      have := le_max ht
      omega
    have hfu : fitsB us n l = true := fits_of (by omega) ok.sum
    have h51 := h5.2.1
    refine ⟨_, tn 12 sc_room.nd, ?_⟩
    refine exd_cons (sv 13 sc_room.nd (blist c.b (evl_of (v 12))) ?_)
    refine exd_cons (exs_if (evt_w (evw_or (tnin c.inA hr (by decide) (v 13) (v 0) ⟨us, n, l, rfl, ⟨ok.cnt, uv⟩, rfl⟩) fun _ => evw_or (tnin c.inS hr (by decide) (v 4) (evd_mt0 c.shW hr (by decide) (evd_mk c.mkW hr (by decide) rfl (a1 (v 13)) ⟨us, rfl, rfl, ⟨ok.cnt, uv⟩, rfl⟩) (no_shape_w _) ⟨_, st', rfl, ⟨_, rfl, hst'⟩, rfl⟩) ⟨st', r.1, r.2, rfl, rfl⟩) fun _ => evw_or1 (evt_neD hr.units (v 13) (v 12) (by unfold D.isPy; exact isPys_str us) (by unfold D.isPy; exact isPys_str us) (by unfold D.py PyData.depth; have := depth_str us; omega)))) (fun h => ?_) fun _ => exd_nil ?_)
    · rw [hfu, show (st'.any fun q => decide (q.1 ≤ r.1) && decide (q.2 ≤ r.2)) = true from hyes, PySem.SeqAt.eqv_refl_plain _ (plain_of _)] at h
      cases h
    refine exd_cons (exs_if (evt_not (evt_val (cl c.same1 hr (ac (evd_mt c.drW hr (by decide) (evd_mk c.mkW hr (by decide) rfl (a1 (v 13)) ⟨us, rfl, rfl, ⟨ok.cnt, uv⟩, rfl⟩) (no_drawn_w _) (ac (v 7) (a1 (v 8))) ⟨us, st', r.1, r.2, rfl, ⟨hst', hyes, by omega, by have := ok.cnt; omega, hwid⟩, rfl⟩) (a1 (cl c.broken hr (ac (v 12) (a1 (v 7))) ⟨us, r.1, rfl, ⟨by omega, by have := ok.cnt; omega, fun t ht => by have := (uv t ht).le; omega⟩, rfl⟩))) ⟨.lst (wsD (brk r.1 us)), _, rfl, .inl rfl, ⟨by have := brk_count r.1 us; have := ok.cnt; rw [List.length_map]; omega, leafs _⟩, rfl⟩))) (fun h => by cases h) fun _ => exd_nil (exd_nil ⟨_, _, _, rfl⟩))
  · obtain ⟨x, y, z, rfl⟩ := hI
    have h51 := h5.2.1
    obtain ⟨k1, k2, k3⟩ := g4 hf'.1
    refine exd_cons (exs_ret (cl c.same1 hr (ac (evd_mt c.drA hr (by decide) (v 0) (no_drawn_a _ _) (ac (v 7) (a1 (v 8))) ⟨n, l, r.1, r.2, lens, rfl, ⟨⟨n, l, rfl, ⟨h1, by omega, h3, by omega⟩, rfl⟩, by rw [← hf]; exact hold, hpre, k1, by omega, fun m hm => ⟨hln m hm, k2 m hm⟩⟩, rfl⟩) (a1 (cl c.broken hr (ac (v 10) (a1 (v 7))) ⟨xw lens, r.1, rfl, ⟨by omega, by omega, fun t ht => by have := (hvw t ht).le; omega⟩, rfl⟩))) ⟨.lst (wsD (brk r.1 (xw lens))), _, rfl, .inl rfl, ⟨by have := brk_count r.1 (xw lens); rw [List.length_map]; omega, leafs _⟩, rfl⟩) rfl)
end
end Dt
set_option maxHeartbeats 4000000
namespace Dt
open PySem PySem.Spec PyProof.Rows L2
section
variable {P : Program} {w : World} {K : PySem.W.Frag} {mg : Str → Option Value} {base : Heap}
structure L76 (P : Program) (w : World) (K : PySem.W.Frag) (mg : Str → Option Value) (base : Heap) (S Cw Ca : Addr) : Prop extends C76 P w K mg base S Cw Ca where
  numbers : C8.Cal P w K mg base 1 "_law_numbers" (spE K Pre_numbers Po_numbers) []
  corners : C8.Cal P w K mg base 2 "_law_corners" (spD K R_corners) []
  worst_stairs : C8.Cal P w K mg base 5 "worst_stairs" (spD K (R_worst_stairs S)) []
  is_stairs : C8.Cal P w K mg base 3 "_law_is_stairs" (spD K (R_is_stairs S)) []
  most : C8.Cal P w K mg base 1 "_law_most" (spD K R_most) []
  texts : C8.Cal P w K mg base 2 "_law_texts" (spE K Pre_texts Po_texts) []
  rooms : C8.Cal P w K mg base 2 "_law_rooms" (spE K Pre_rooms Po_rooms) []
  room : C8.Cal P w K mg base 10 "_law_room" (spD K (R_room Ca S)) []
  letters_for : C8.Cal P w K mg base 1 "letters_for" (spD K R_letters_for) []
  greatest : C8.Cal P w K mg base 3 "_law_greatest" (spD K R_greatest) []
  hgt : C8.Met P w K mg base 2 S "height_at" (spD K (R_height_at S)) []
def R_law : List D → D → Prop := fun ds d => ∃ sc : List Int, ds = [.lst (dInts sc)] ∧ sc.length ≤ 63 ∧ d = .bl true
abbrev N_law : List Str := ["script", "numbers", "big", "letters", "longest", "due", "content", "other", "stairs", "width", "texts", "rooms", "room", "best"]
theorem sc_law : FnScope N_law ["script"] (defScope (top 49)) := ⟨rfl, rfl, rfl, by decide +kernel, rfl, by decide +kernel, by decide +kernel⟩
theorem mk2 {X : Cx} {e : Expr} {es : List Expr} {env : List Cell} {ds : List D} {gs : List (Str × D)} {p pos : Pos} {RI : List D → List (Str × D) → List (Str × D) → Prop} {f : Str} {C : Addr} {n m : Nat} (c : C8.Mak X.prog X.w X.K X.mg X.base n f C (spI X.K C RI) []) (hr : Room m X.A) (ha : EvA X (e :: es) env ds) (h : RI ds [] gs) (hk : n + 1 ≤ m := by decide) (hg : Gl X f := by rfl)
    (hdb : (f == ("__debug__" : Str)) = false := by decide) (he : starEach (e :: es) X.env = (false, eval e X.env) :: starEach es X.env := by rfl) (hpl : (backTo pos (starEach es X.env)).any (·.1) = false := by rfl) : EvD X (.Call (.Name f p) (e :: es) [] pos) env (.obj C gs) := evd_mk c hr hk hg ha h hdb he hpl
theorem at0 (r0 : Int × Int) (rs : List (Int × Int)) : atI (pD (r0 :: rs)) 0 = some (prD r0) := at_int (j := 0) (by omega) rfl
theorem no_height (ps : List (Int × Int)) : ([(("corners" : Str), D.tup (pD ps))] : List (Str × D)).lookup ("height_at" : Str) = none := by
  have e : ((("height_at" : Str)) == "corners") = false := by decide
  simp [List.lookup, e]
theorem ok_law {S Cw Ca : Addr} (c : L76 P w K mg base S Cw Ca) {f : Addr} {fd : FuncData} (F : Fun K "law" "law" (top 49) f fd) : FnOk P w K mg base CX0 11 f fd ["script"] (spD K R_law) := by
  refine fnD F sc_law _ (fun ds d ⟨_, h, _⟩ => by rw [h]; rfl) fun cdv A outer s H E ds d hr hR => ?_
  obtain ⟨sc, rfl, hsc, rfl⟩ := hR
  refine exd_cons (exs_setE 1 sc_law.nd rfl (.inl rfl) (evx_cE c.numbers hr (by decide) rfl (ac (v 0) (a1 evd_int)) ⟨sc, rfl, hsc⟩) fun d hd => ?_)
  obtain ⟨ns, rfl, hns⟩ := hd
  obtain ⟨x0, e0, x01, x02⟩ := hns.get (j := 0) (by omega)
  obtain ⟨x1, e1, x11, x12⟩ := hns.get (j := 1) (by omega)
  obtain ⟨x2, e2, x21, x22⟩ := hns.get (j := 2) (by omega)
  obtain ⟨x3, e3, x31, x32⟩ := hns.get (j := 3) (by omega)
  obtain ⟨x4, e4, x41, x42⟩ := hns.get (j := 4) (by omega)
  obtain ⟨x5, e5, x51, x52⟩ := hns.get (j := 5) (by omega)
  obtain ⟨x6, e6, x61, x62⟩ := hns.get (j := 6) (by omega)
  refine exd_cons (sv 2 sc_law.nd (evd_eq (evd_mod (evd_ixL (evl_of (v 1)) evd_int (d := .int x0) (at_int (j := 0) (by omega) e0)) evd_int (by omega)) evd_int (.int _ _)) ?_)
  generalize (x0 % 3 == 2) = bg
  refine exd_cons (sv 3 sc_law.nd (evd_mod (evd_ixL (evl_of (v 1)) evd_int (d := .int x1) (at_int (j := 1) (by omega) e1)) (ifi (evt_val (v 2))) (by split <;> omega)) ?_)
  refine exd_cons (sv 4 sc_law.nd (evd_add (evd_mod (evd_ixL (evl_of (v 1)) evd_int (d := .int x2) (at_int (j := 2) (by omega) e2)) (ifi (evt_eq (evd_mod (evd_fdiv (evd_ixL (evl_of (v 1)) evd_int (d := .int x0) (at_int (j := 0) (by omega) e0)) evd_int (by unfold CDiv; omega)) evd_int (by omega)) evd_int (.int _ _))) (by split <;> omega)) evd_int) ?_)
  obtain ⟨n, hn⟩ : ∃ n, n = x1 % (if bg = true then 61 else 13) := ⟨_, rfl⟩
  obtain ⟨l, hl⟩ : ∃ l, l = x2 % (if (x0 / 3 % 2 == 1) = true then 20 else 5) + 1 := ⟨_, rfl⟩
  rw [← hn, ← hl]
  have n0 : 0 ≤ n ∧ n ≤ 60 := by rw [hn]; split <;> omega
  have l0 : 1 ≤ l ∧ l ≤ 20 := by rw [hl]; split <;> omega
  clear hn hl
  obtain ⟨n1, n2⟩ := n0
  obtain ⟨l1, l2⟩ := l0
  have hcor := lcP_eq (n := n) (l := l) n1 (by omega) l1
  obtain ⟨cb1, cb2, cb3⟩ := corners_bd (n := n) (l := l) n1 n2 l1
  refine exd_cons (sv 5 sc_law.nd (cl c.corners hr (ac (v 3) (a1 (v 4))) ⟨n, l, rfl, by omega, by rw [hcor]⟩) ?_)
  refine exd_cons (sv 6 sc_law.nd (mk2 c.mkA hr (ac (v 3) (a1 (v 4))) ⟨n, l, rfl, rfl, ⟨by omega, by omega⟩, rfl⟩) ?_)
  obtain ⟨n', hn'⟩ : ∃ n', n' = x3 % 61 := ⟨_, rfl⟩
  obtain ⟨l', hl'⟩ : ∃ l', l' = x4 % 20 + 1 := ⟨_, rfl⟩
  have hcor' := lcP_eq (n := n') (l := l') (by omega) (by omega) (by omega)
  have cb' := corners_bd (n := n') (l := l') (by omega) (by omega) (by omega)
  refine exd_cons (sv 7 sc_law.nd (mk2 c.mkA hr (ac (evd_mod (evd_ixL (evl_of (v 1)) evd_int (d := .int x3) (at_int (j := 3) (by omega) e3)) evd_int (by omega)) (a1 (evd_add (evd_mod (evd_ixL (evl_of (v 1)) evd_int (d := .int x4) (at_int (j := 4) (by omega) e4)) evd_int (by omega)) evd_int))) ⟨n', l', by rw [hn', hl'], rfl, ⟨by omega, by omega⟩, rfl⟩) ?_)
  refine exd_cons (sv 8 sc_law.nd (cl c.worst_stairs hr (ac (v 3) (a1 (v 4))) ⟨n, l, rfl, by omega, rfl⟩) ?_)
  have shA : ∀ n l : Int, 0 ≤ n → n ≤ 61 → 1 ≤ l → l ≤ 20 → R_shape Ca S ShA [aD Ca n l] (stD S (hullF [] (wsP n l))) := fun n l a b c d => ⟨_, _, rfl, ⟨n, l, rfl, ⟨a, by omega, c, by omega⟩, rfl⟩, rfl⟩
  refine exd_cons (exs_if (evt_w (evw_or (evt_not (evt_val (cl c.is_stairs hr (ac (v 8) (a1 (v 5))) ⟨_, rfl, by omega, rfl⟩))) fun _ => evw_or1 (evt_not (evt_val (cl c.is_stairs hr (ac (evd_mt0 c.shA hr (by decide) (v 6) (no_shape_a _ _) (shA n l n1 (by omega) l1 l2)) (a1 (v 5))) ⟨_, rfl, by omega, rfl⟩))))) (fun h => by cases h) fun _ => exd_nil ?_)
  refine exd_cons (exs_if (evt_not (evt_val (cl c.is_stairs hr (ac (evd_mt0 c.shA hr (by decide) (v 7) (no_shape_a _ _) (shA n' l' (by omega) (by omega) (by omega) (by omega))) (a1 (cl c.corners hr (ac (evd_mod (evd_ixL (evl_of (v 1)) evd_int (d := .int x3) (at_int (j := 3) (by omega) e3)) evd_int (by omega)) (a1 (evd_add (evd_mod (evd_ixL (evl_of (v 1)) evd_int (d := .int x4) (at_int (j := 4) (by omega) e4)) evd_int (by omega)) evd_int))) ⟨n', l', by rw [hn', hl'], by omega, by rw [hcor']⟩))) ⟨_, rfl, by have := cb'.2.1; omega, rfl⟩))) (fun h => by cases h) fun _ => exd_nil ?_)
  refine exd_cons (sv 9 sc_law.nd (bmax c.b (bmin c.b (v 3) (v 4)) (evd_mod (evd_ixL (evl_of (v 1)) evd_int (d := .int x5) (at_int (j := 5) (by omega) e5)) evd_int (by omega))) ?_)
  obtain ⟨q, q1, q2, q3⟩ := height_ok (n := n) (l := l) (w := max (min n l) (x5 % 15)) n1 (by omega) l1 (by omega)
  refine exd_cons (exs_if (evt_w (evw_and (l := !true) (evt_not (evt_val (v 2))) fun _ => ?_)) (fun h => by simp at h) fun _ => exd_nil ?_)
  · exact evw_and1 (evt_not (evt_val (cl c.same0 hr (ac (evd_mt c.hgt hr (by decide) (v 8) (no_height _) (a1 (v 9)) ⟨_, _, q, rfl, ⟨q1, q2⟩, rfl⟩) (a1 (cl c.most hr (ac (v 3) (ac (v 4) (a1 (v 9)))) ⟨n, l, _, rfl, by omega, rfl⟩))) ⟨.int (linesAfter n 0 l (max (min n l) (x5 % 15))), by rw [q3], .int _, rfl⟩)))
  refine exd_cons (exs_setE 10 sc_law.nd rfl (.inl rfl) (evx_cE c.texts hr (by decide) rfl (ac (v 1) (ac (v 3) (a1 (v 4)))) ⟨ns, n, l, rfl, hns, n1, n2, l1, l2⟩) fun d hd => ?_)
  obtain ⟨ns', n'', l'', ts, hds, rfl, hts, htok⟩ := hd
  have hds2 : n'' = n ∧ l'' = l := by
    simp only [List.cons.injEq, D.int.injEq, and_true] at hds
    exact ⟨hds.2.1.symm, hds.2.2.symm⟩
  rw [hds2.1, hds2.2] at htok
  refine exd_join (fun env' => ∃ ts : List (List Str), env' = [.frz (.lst (dInts sc)), .frz (.lst (dInts ns)), .frz (.bl bg), .frz (.int n), .frz (.int l), .frz (.lst (pD (hullF [] (wsP n l)))), .frz (aD Ca n l), .frz (aD Ca n' l'), .frz (stD S (hullF [] (wsP n l))), .frz (.int (max (min n l) (x5 % 15))), .frz (.lst (ts.map tD)), .junk, .junk, .junk] ∧ ∀ ws ∈ ts, TextOk n l ws) (exs_if (evt_val (v 2)) (fun _ => ?_) fun _ => exd_nil ⟨ts, rfl, htok⟩) ?_
  · have h3 : (x6 % 3).toNat < ts.length := by omega
    have e := List.getElem?_eq_getElem h3
    refine exd_cons (sv 10 sc_law.nd (evd_lst (a1 (evd_ixL (evl_of (v 10)) (evd_mod (evd_ixL (evl_of (v 1)) evd_int (d := .int x6) (at_int (j := 6) (by omega) e6)) evd_int (by omega)) (d := tD ts[(x6 % 3).toNat]) (at_int (j := (x6 % 3).toNat) (by omega) (by rw [List.getElem?_map, e]; rfl)))) (by simp)) (exd_nil ?_))
    exact ⟨[ts[(x6 % 3).toNat]], rfl, fun ws hw => by obtain rfl := List.mem_singleton.mp hw; exact htok _ (List.getElem_mem h3)⟩
  rintro _ ⟨ts, rfl, htok⟩
  refine exd_cons (exs_setE 11 sc_law.nd rfl (.inl rfl) (evx_cE c.rooms hr (by decide) rfl (ac (v 1) (ac (v 2) (ac (v 3) (ac (v 4) (a1 (v 5)))))) ⟨ns, bg, n, l, _, rfl, hns, n1, n2, l1, l2, cb1, cb2, cb3⟩) fun d hd => ?_)
  obtain ⟨r0, rs, rfl, hrs⟩ := hd
  refine exd_cons (exs_for (fun i env => ∃ z : Cell, env = [.frz (.lst (dInts sc)), .frz (.lst (dInts ns)), .frz (.bl bg), .frz (.int n), .frz (.int l), .frz (.lst (pD (hullF [] (wsP n l)))), .frz (aD Ca n l), .frz (aD Ca n' l'), .frz (stD S (hullF [] (wsP n l))), .frz (.int (max (min n l) (x5 % 15))), .frz (.lst (ts.map tD)), .frz (.lst (pD (r0 :: rs))), z, .junk]) rfl (evi_list (v 11)) ⟨_, rfl⟩ (fun i d env1 hd hI => ?_) fun env1 hI => ?_)
  · obtain ⟨z, rfl⟩ := hI
    obtain ⟨r, hr', rfl⟩ := map_get hd
    have ho := hrs r (List.mem_of_getElem? hr')
    obtain ⟨o1, o2, o3, o4⟩ := ho
    refine ⟨_, tn 12 sc_law.nd, ?_⟩
    refine exd_cons (exs_if (evt_not (evt_val (cl c.room hr (ac (v 6) (ac (v 8) (ac (v 10) (ac (evd_tup (ac (v 3) (a1 (v 4))) (by simp)) (a1 (v 12)))))) ⟨n, l, r, ts, rfl, ⟨n1, n2, l1, l2, ⟨o1, o2, o3, o4⟩, htok⟩, rfl⟩))) (fun h => by cases h) fun _ => exd_nil ?_)
    refine exd_cons (exs_if (evt_not (evt_val (cl c.same0 hr (ac (cl c.letters_for hr (ac (v 4) (ac (evd_ixU (v 12) evd_int rfl) (a1 (evd_ixU (v 12) evd_int rfl)))) ⟨l, r.1, r.2, rfl, ⟨o1, o2, o3, o4⟩, rfl⟩) (a1 (cl c.greatest hr (ac (v 4) (a1 (v 12))) ⟨l, r, rfl, ⟨l1, by omega, o1, by omega⟩, rfl⟩))) ⟨.int (greatest l r 61), by rw [letters_greatest l1 o1 o3], .int _, rfl⟩))) (fun h => by cases h) fun _ => exd_nil (exd_nil ⟨_, rfl⟩))
  obtain ⟨z, rfl⟩ := hI
  obtain ⟨o1, o2, o3, o4⟩ := hrs r0 List.mem_cons_self
  have hg := greatest_eq (l := l) (w := r0.1) (h := r0.2) l1 o1 o3 60
  have hiff : ∀ m : Int, 0 ≤ m → (holdsB m l r0 = true ↔ _) := fun m hm => holds_iff (n := m) (l := l) (w := r0.1) (h := r0.2) hm l1 o1 o3
  refine exd_cons (sv 13 sc_law.nd (cl c.greatest hr (ac (v 4) (a1 (evd_ixL (evl_of (v 11)) evd_int (d := prD r0) (at0 _ _)))) ⟨l, r0, rfl, ⟨l1, by omega, o1, by omega⟩, rfl⟩) ?_)
  have hB := (hiff 0 (by omega)).mp (by
    unfold holdsB lawDue
    simp only [Bool.and_eq_true, decide_eq_true_eq, if_true]
    exact ⟨by omega, o3⟩)
  have hg' : greatest l r0 61 = _ := hg
  generalize (if r0.1 < l then min (if l = 1 then (r0.1 + 1) / 2 * r0.2 else (r0.1 * r0.2 + 1) / 2) r0.1 else (if l = 1 then (r0.1 + 1) / 2 * r0.2 else (r0.1 * r0.2 + 1) / 2)) = B at hg' hiff hB
  obtain ⟨g, hgg⟩ : ∃ g, g = greatest l r0 61 := ⟨_, rfl⟩
  rw [← hgg] at hg' ⊢
  have g0 : 0 ≤ g ∧ g ≤ 60 := by omega
  have hin : ∀ m : Int, 0 ≤ m → m ≤ 61 → (hullF [] (wsP m l)).any (fun q => decide (q.1 ≤ r0.1) && decide (q.2 ≤ r0.2)) = holdsB m l r0 := fun m a b => hull_holds a (by omega) l1 o1
  have y1 : holdsB g l r0 = true := (hiff g (by omega)).mpr (by omega)
  refine exd_cons (exs_if (tnin c.inS hr (by decide) (evd_ixL (evl_of (v 11)) evd_int (d := prD r0) (at0 _ _)) (evd_mt0 c.shA hr (by decide) (mk2 c.mkA hr (ac (v 13) (a1 (v 4))) ⟨g, l, rfl, rfl, ⟨by omega, by omega⟩, rfl⟩) (no_shape_a _ _) (shA g l g0.1 (by omega) l1 l2)) ⟨_, r0.1, r0.2, rfl, rfl⟩) (fun h => ?_) fun _ => exd_nil ?_)
  · rw [hin g (by omega) (by omega), y1] at h
    cases h
  by_cases h60 : g = 60
  · exact exd_cons (exs_ret (evd_or (l := true) (evd_eq (v 13) evd_int (.int _ _)) fun z => by rw [h60] at z; simp at z) (by rw [h60]; rfl))
  · have y2 : holdsB (g + 1) l r0 = false := by
      cases hh : holdsB (g + 1) l r0 with
      | false => rfl
      | true =>
        have := (hiff (g + 1) (by omega)).mp hh
        omega
    refine exd_cons (exs_ret (evd_or (l := !(holdsB (g + 1) l r0)) (evd_eq (v 13) evd_int (.int _ _)) fun _ => ?_) ?_)
    · rw [← hin (g + 1) (by omega) (by omega)]
      exact evd_and1 (dnin c.inS hr (by decide) (evd_ixL (evl_of (v 11)) evd_int (d := prD r0) (at0 _ _)) (evd_mt0 c.shA hr (by decide) (mk2 c.mkA hr (ac (evd_add (v 13) evd_int) (a1 (v 4))) ⟨g + 1, l, rfl, rfl, ⟨by omega, by omega⟩, rfl⟩) (no_shape_a _ _) (shA (g + 1) l (by omega) (by omega) l1 l2)) ⟨_, r0.1, r0.2, rfl, rfl⟩)
    rw [y2]
    simp
end
end Dt
set_option maxHeartbeats 4000000
namespace Dt
open PySem PySem.Spec PyProof.Rows L2
/-! ### super().__init__(..) in an own exception over ValueError -/
structure SupX (P : Program) (K : PySem.W.Frag) (mg : Str → Option Value) (C f cc cda : Addr) (F : NdefX.NF) (fd : FuncData) : Prop where
  ex : ∃ (oc : Value) (od : Option Addr) (dV kV doc pm ct : Value) (an : Option Addr) (osl : Array (Option Value)), fd = PySem.W.fnX F.name F.qual F.params F.body F.scope [(("__class__" : Str), cc)] dV kV doc pm an (.ref cda) ct ∧ K.lookup f = some ⟨oc, od, .func fd, osl⟩
  hcl : F.cl = [(("__class__" : Str), cc)]
  hc : F.c = cda
  hcd : PySem.W.codeIn K (.ref cda) F.qual = true
  cell : ∃ (cl : Value) (cld : Option Addr) (csl : Array (Option Value)), K.lookup cc = some ⟨cl, cld, .cell (some (.ref C)), csl⟩
  code : ∃ (ccl : Value) (cdd : Option Addr) (vs : Array Value) (ccs : Array (Option Value)) (file : Str) (tf : Tok), K.lookup cda = some ⟨ccl, cdd, .fields vs, ccs⟩ ∧ vs[2]? = some (.str file tf) ∧ ((P.main.file : Str) == file) = true
  cls : ∃ cd, PySem.W.clsIn K C = some cd
  sub : PySem.W.mroIn K C (.ref C) = some true
  mgs : mg "super" = none
  hks : F.scope.names.lookup ("super" : Str) = some .globalImplicit
  hkc : F.scope.names.lookup ("__class__" : Str) = some .free
  hka : F.scope.names.lookup ("self" : Str) = some .local
  hp : ((F.params.posonlyargs ++ F.params.args).head?.map (·.arg)) = some ("self" : Str)
  htop : (P.main.scope.names.lookup ("super" : Str)).isSome = false
  hm : PySem.W.ks_superIn K C C "__init__" = some (some (.builtin "ValueError.__init__"))
  hB : PySem.W.subIn K (.ref C) (.type "ValueError") = some true
  ho : PySem.W.nsIn K cStatics "thirdparty.any" = some none
  kind : F.scope.kind = .function
def mwo (b a : Addr) : HO := .ext fun h => h.get? b = some (PySem.W.kxs_mw "ValueError.__init__" a)
theorem mwo_ok {P : Program} {w : World} {H : Hp} {h : Heap} {b a : Addr} (e : h.get? b = some (PySem.W.kxs_mw "ValueError.__init__" a)) : ObjOk P w H h b (mwo b a) :=
  ⟨e, ⟨_, e⟩, fun h1 h2 z k => k _ z⟩
theorem mwo_at {P : Program} {w : World} {H : Hp} {h : Heap} {b a : Addr} (hok : HOk P w H h) (e : H b = some (mwo b a)) : h.get? b = some (PySem.W.kxs_mw "ValueError.__init__" a) := by
  have x : ObjOk P w H h b (.ext fun h => h.get? b = some (PySem.W.kxs_mw "ValueError.__init__" a)) := hok b _ e
  exact x.1
section
open PySem.W
variable {X : Cx} {pins : List (Addr × Obj)} {σ : St} {H : Hp} {s : Shared} {a C u : Addr} {E : Value → Shared → Prop} {A : Around}
theorem mwinit_ok {us : List Value} {Q : Value → Shared → Prop} (T : OexC X.K C) (I : Inv X pins σ H s) (e : H a = some (exo a C none)) (hu : s.heap.get? u = some (kxs_mw "ValueError.__init__" a)) (hl : us.length ≤ sizeLine) (h : ∀ s', Inv X pins σ H s' → Q .none s') :
    wpAny (model X.prog X.w) A (call (.ref u) us) Q E s := by
  obtain ⟨nm, q, N, bs, bm, sn, sub, ab, col, dd, k0, k1, k2, k3, k5, hC, hbm⟩ := T.cls
  obtain ⟨t1, ho⟩ := exo_at I.hok e
  obtain ⟨hp, g, d, t, os⟩ := s
  have fin : ∀ h', (∀ b o, b ≠ a → hp.get? b = some o → h'.get? b = some o) → h'.get? a = some (PySem.HandSPX.excO C hp.objs.size) → Q .none ⟨h', g, d, t, os⟩ := fun h' k hx => by
    have J := I.write (t' := t) (x := a) (e := a) (o := exo a C none) (by rw [e]; exact True.intro) (.inl rfl) k ⟨_, hx⟩ (exo_ok hx)
    have eu : L2.upd H a (exo a C none) = H := by
      funext b
      by_cases hb : b = a
      · rw [hb, upd_same, e]
      · rw [upd_ne hb]
    rw [eu] at J
    exact h _ J
  refine wpAny_call (codeAny_of_tree ?_)
  show wpAny _ A.in1 (callAny (.ref u) ⟨us, []⟩) _ _ _
  simp only [callAny]
  refine wpAny_bind (wpAny_load hu ?_)
  simp only [kxs_mw, show (Value.type "method-wrapper" == Value.type "method" || Value.type "method-wrapper" == Value.type "builtin_function_or_method" || Value.type "method-wrapper" == Value.type "method-wrapper") = true by decide, if_true]
  refine KFB.if_so (by decide) ?_
  refine wpAny_bind (check_bound_init F.excBase_ValueError.toExcCallFacts (I.kIn _ _ hC) ho rfl ?_)
  refine wpAny_bind (wpAny_pure (wpAny_pure ?_))
  refine ⟨plainId_quiet F.excBase_ValueError.init.plain _, codeAny_builtin F.excBase_ValueError.initEntry ?_⟩
  exact exc_init_tree (cls := .ref C) (t0 := t1) (dv := none) (c2 := .none) (c3 := .none) (b4 := .bool false) ho hl fun h' k hx _ => fin h' k hx
end
/-- super().__init__(e, ..) as a statement -/
theorem wpSsA.superX {X : Cx} {C f cc cda : Addr} {F : NdefX.NF} {fd : FuncData} {body rest : List Stmt} {D : Ends} {σ : St} {H : Hp} {p0 p1 apos cpos spos : Pos} {e : Expr} {es : List Expr} {x : Addr} {pl : Sem Bool}
    (T : SupX X.prog X.K X.mg C f cc cda F fd) (henv : X.env = NdefX.envF F f X.env.locals) (hN : X.N[0]? = some ("self" : Str)) (hs : σ[0]? = some (some (.ref x))) (hx : H x = some (exo x C none)) (OT : OexC X.K C)
    (q : ∀ b, H b = none → wpA X (e :: es) σ (L2.upd H b (mwo b x)) fun vs H2 => H2 b = some (mwo b x) ∧ H2 x = some (exo x C none) ∧ vs.length ≤ 1000 ∧ wpSsA X body rest D σ H2)
    (hsw : swapsWith (.Call (.Attribute (.Call (.Name "super" p0) [] [] p1) "__init__" apos) (e :: es) [] cpos) none spos.line X.env = pure false := by rfl) (hint : interactive X.env = false := by rfl)
    (hpl : (backTo cpos (starEach (e :: es) X.env)).any (·.1) = false := by rfl)
    (hev : eval (.Call (.Attribute (.Call (.Name "super" p0) [] [] p1) "__init__" apos) (e :: es) [] cpos) X.env = (do
      let ov ← attributeBase (.Call (.Name "super" p0) [] [] p1) "__init__" X.env (eval (.Call (.Name "super" p0) [] [] p1) X.env)
      standAt apos.atName
      let (f, first) ← holding [ov] (getMethod ov "__init__" pl)
      callWith cpos f first (backTo cpos (starEach (e :: es) X.env)) []) := by rfl) :
    wpSsA X body (.Expr (.Call (.Attribute (.Call (.Name "super" p0) [] [] p1) "__init__" apos) (e :: es) [] cpos) spos :: rest) D σ H := by
  intro pins s I
  have hmm : (("__init__" : Str) == ("__class__" : Str)) = false := by decide
  refine ks_wpAt_execs_cons (ks_wpAt_Expr_any (ks_wpAt_MethodCall (pl := pl) ?_ hev) hint hsw)
  obtain ⟨oc, od, dV, kV, doc, pm, ct, an, osl, efd, hf⟩ := T.ex
  obtain ⟨cl, cld, csl, hcell⟩ := T.cell
  obtain ⟨ccl, cdd, vs, ccs, file, tf, hcode, hvs, hfile⟩ := T.code
  obtain ⟨cdD, hD⟩ := T.cls
  have KX := I.kIn
  obtain ⟨ar, har, harg⟩ : ∃ ar, (F.params.posonlyargs ++ F.params.args).head? = some ar ∧ ar.arg = ("self" : Str) := by
    have hp := T.hp
    cases z : (F.params.posonlyargs ++ F.params.args).head? with
    | none => rw [z] at hp; cases hp
    | some ar => rw [z] at hp; exact ⟨ar, rfl, Option.some.inj hp⟩
  obtain ⟨oD, hD1, hD2⟩ : ∃ oD, s.heap.get? C = some oD ∧ oD.data = .cls cdD := by
    unfold PySem.W.clsIn at hD
    split at hD
    · rename_i c d cd' sl ho
      cases hD
      exact ⟨_, KX _ _ ho, rfl⟩
    · cases hD
  have hks' : X.env.kindOf "super" = some .globalImplicit := by rw [henv]; exact T.hks
  have hkc' : X.env.kindOf "__class__" = some .free := by rw [henv]; exact T.hkc
  have hka' : X.env.kindOf "self" = some .local := by rw [henv]; exact T.hka
  have hcells : X.env.cells.lookup ("__class__" : Str) = some cc := by
    rw [henv]
    show F.cl.lookup ("__class__" : Str) = some cc
    rw [T.hcl]
    rfl
  refine ks_wpAt_super_base (f := f) (cc := cda) (fd := fd) (ar := ar) (file := file) (tf := tf) hks' hkc' hmm (by rw [henv]) (KX _ _ hf) rfl (by rw [efd]; exact har) (by rw [henv]; exact congrArg Value.ref T.hc) (KX _ _ hcode) rfl hvs hfile T.htop ?_
  obtain ⟨mb, hb1, hb2⟩ := I.mod.blt
  refine PySem.W.ks_loadName_global I.ok.kind hks' (Calls.loadGlobal_builtin (by rw [I.ok.glob]; exact I.mod.glob.keeps I.bk) T.mgs (by rw [I.ok.blt]; exact hb1.keeps I.bk) ((hb2 "super" (by decide)).trans (show bootBuiltins "super" = some (.type "super") by decide +kernel)) ⟨rfl, ?_⟩)
  refine wpAny_loadName_free I.ok.kind hkc' hcells ⟨_, KX _ _ hcell, rfl⟩ ?_
  obtain ⟨ml, hns, hl⟩ := I.loc
  obtain ⟨u, ru, lk⟩ := hl 0 "self" (.ref x) hN hs (.inl hka')
  cases ru
  rcases lk with ⟨_, hml⟩ | ⟨hk, _⟩
  rotate_left
  · rw [hka'] at hk
    rcases hk with hk | hk <;> cases hk
  rw [harg]
  refine wpAny_loadName_local I.ok.kind hka' hns hml ?_
  obtain ⟨hh, g0, d0, t0, os0⟩ := s
  refine ks_wpAny_isType_cls hD1 hD2 ⟨rfl, ?_⟩
  obtain ⟨t1, hox⟩ := exo_at I.hok hx
  have J : PySem.W.InstAt hh x _ C none := ⟨hox, rfl, rfl, trivial⟩
  refine ks_wpAny_call_super hD1 hD2 J.at_ J.cls (fun c e => ?_) (PySem.W.looks_mroIn KX T.sub) (fun h' e1 k1 => ?_)
  · cases e
  have I1 : Inv X pins σ H ⟨h', g0, d0, t0, os0⟩ := I.kept (t' := t0) k1
  have KX1 := I1.kIn
  have J1 : PySem.W.InstAt h' x _ C none := ⟨k1 _ _ hox, rfl, rfl, trivial⟩
  have hI : PySem.W.Looks (model X.prog X.w) h' (isInstance (.ref x) (.type "ValueError")) true := J1.type.andThen (PySem.W.looks_subIn KX1 T.hB)
  have hms := T.hm
  unfold PySem.W.ks_superIn at hms
  rw [hD] at hms
  refine PySem.W.kxs_getMethod PySem.W.kxs_ValueError e1 (PySem.W.looks_opaque KX1 T.ho) (l₀ := cdD.mro) ?_ rfl KX1 hms hI (PySem.W.ks_ne KX J hD) hmm ?_
  · exact fun A Q E s k q => wpAny_bind ((PySem.W.looks_clsIn KX1 hD) A _ E s k (wpAny_pure q))
  have hbn : H h'.objs.size = none := I1.hok.fresh (Nat.le_refl _)
  have hbg : (h'.push (PySem.W.kxs_mw "ValueError.__init__" x)).get? h'.objs.size = some (PySem.W.kxs_mw "ValueError.__init__" x) := Heap.get?_push_at rfl rfl
  have I2 : Inv X pins σ (L2.upd H h'.objs.size (mwo h'.objs.size x)) ⟨h'.push (PySem.W.kxs_mw "ValueError.__init__" x), g0, d0, t0 + 1, os0⟩ :=
    I1.laid (t' := t0 + 1) (a := h'.objs.size) (o := mwo h'.objs.size x) (fun b u z => Heap.get?_push_of_some _ z) (Nat.le_refl _) (mwo_ok hbg)
  refine PySem.W.kxs_callWith (i := "ValueError.__init__") (x := x) hpl (FK.evalArgs_any hpl (thn (q h'.objs.size hbn cpos pins _ I2) fun us s3 ⟨vs3, H3, I3, r3, hq3, hx3, hl3, q3⟩ => ⟨mwo_at I3.hok hq3, ?_⟩))
  have hl4 : us.length ≤ sizeLine := by rw [← Paired.length r3, sizeLine_eq]; omega
  exact mwinit_ok OT I3 hx3 (mwo_at I3.hok hq3) hl4 fun s' I4 => q3 pins s' I4
section
variable {P : Program} {w : World} {K : PySem.W.Frag} {mg : Str → Option Value} {base : Heap}
/-- an exception's __init__ that names super() -/
theorem fnXS {C f cc cda : Addr} {F : NdefX.NF} {fd : FuncData} {N ps : List Str} {k : Nat} {sp : Sp} (T : SupX P K mg C f cc cda F fd) (S : NdefX.NScope N ps [("__class__" : Str)] F.scope) (len : ∀ vs H Q E, sp vs H Q E → vs.length = ps.length)
    (hb : ∀ (A : Around) (outer : List Env) (s : Shared) (H : Hp) (vs : List V) (Q : VK) (E : XK), Room k (A.deeper (NdefX.envF F f s.heap.objs.size)) → sp vs H Q E →
      wpSsA (NdefX.ncx CX0 P w K mg base N F f A outer s H E) F.body F.body { nx := fun _ H' => Q .non H', rt := Q } (L2.start N vs) H) :
    FnOk P w K mg base CX0 (k + 1) f fd ps sp := by
  obtain ⟨oc, od, dV, kV, doc, pm, ct, an, osl, efd, lk⟩ := T.ex
  refine ⟨len, fun A outer s H args us vs Q E hr e0 hbi r hsp => ?_⟩
  have hlen := len _ _ _ _ hsp
  have KX : K.In s.heap := e0.mod.kin.keeps fun b o e => (e0.bs b o e).1
  have lim : s.heap.NoLimit := e0.mod.nolimit.keeps fun b o e => (e0.bs b o e).1
  have hcd : PySem.W.codeIn K (.ref cda) F.qual = true := T.hcd
  subst efd
  refine codeAny_call_function hr.depth (KX _ _ lk) rfl S.co S.gen rfl (PySem.W.codeRec_of KX hcd) (hbi _ _ _ _ ?_)
  refine wpAny_newFunctionEnv S.nocell (fun ⟨n, _⟩ hy => S.par n (List.of_mem_zip hy).1) (fun h₁ hns hsb => ⟨lim.fresh _ hsb, ?_⟩) S.kind
  have eenv : newEnv F.scope s.heap.objs.size mainGlobals [(("__class__" : Str), cc)] (F.qual ++ ".<locals>.") (some f) (.ref cda) none builtinsNs = NdefX.envF F f s.heap.objs.size := by
    show _ = PySem.W.envX F.qual F.scope s.heap.objs.size f (.ref F.c) F.cl
    rw [T.hcl, T.hc]
    rfl
  show codeAny _ _ (.func F.body (newEnv F.scope s.heap.objs.size mainGlobals [(("__class__" : Str), cc)] (F.qual ++ ".<locals>.") (some f) (.ref cda) none builtinsNs)) _ _
  rw [eenv]
  refine ks_codeAny_funcAt ?_
  have kp : ∀ b o, s.heap.get? b = some o → h₁.get? b = some o := fun b o e => hsb.extBut b o (Nat.ne_of_lt (Heap.lt_size e)) (Heap.get?_push_of_some _ e)
  obtain ⟨cl, cld, csl, hcell⟩ := T.cell
  have Cs : NdefX.CellsAt F.cl [("__class__" : Str)] [none] s.heap H := by
    have look : ∀ y c, F.cl.lookup y = some c → y = ("__class__" : Str) ∧ c = cc := fun y c e => by
      rw [T.hcl] at e
      simp only [List.lookup] at e
      split at e
      · rename_i hy
        exact ⟨by simpa using hy, (Option.some.inj e).symm⟩
      · cases e
    refine ⟨rfl, fun y c e => ?_, fun x y c e1 e2 => by rw [(look x c e1).1, (look y c e2).1], fun i y e => ?_⟩
    · rw [(look y c e).2]
      exact ⟨(e0.bs _ _ (e0.mod.kin _ _ hcell)).2, _, ⟨_, KX _ _ hcell, rfl⟩⟩
    · cases i with
      | zero =>
        cases e
        exact ⟨cc, by rw [T.hcl]; rfl, fun v z => by cases z⟩
      | succ i => cases e
  have hpl : vs.length < N.length := by
    have q := congrArg List.length S.pre
    rw [List.length_take, List.length_append] at q
    simp only [List.length_cons, List.length_nil] at q
    omega
  have I := NdefX.inv_startN (CX := CX0) (N := N) (f := f) (E := E) (tk := s.toks + (ps.zip us).length) S hr.hd e0 hlen r Cs hns kp
  rw [startF_eq hpl] at I
  refine ks_wpAt_mono (hb A outer s H vs Q E (hr.deeper _) hsp [] _ I) (fun fl s' hs => ?_) fun e s' hs => hs
  have fin : ∀ {σ' : L2.St} {H' : Hp} {v : V} {u : Value}, Inv (NdefX.ncx CX0 P w K mg base N F f A outer s H E) [] σ' H' s' → L2.RelV v u → Q v H' → CE outer P w H s Q u s' :=
    fun {σ' H' v u} J rv q => ⟨v, H', J.os, J.bare, J.base, J.hok, rv, q⟩
  cases fl with
  | ret u =>
    obtain ⟨v, σ', H', J, rv, q⟩ := hs
    exact fin J rv q
  | next =>
    obtain ⟨σ', H', J, q⟩ := hs
    exact fin (v := V.non) (u := Value.none) J rfl q
  | brk =>
    obtain ⟨_, _, _, q⟩ := hs
    exact False.elim q
  | cont =>
    obtain ⟨_, _, _, q⟩ := hs
    exact False.elim q
end
end Dt
set_option maxHeartbeats 4000000
namespace Dt
open PySem PySem.Spec PyProof.Rows L2
abbrev plF : List (Str × V) := [(("place" : Str), V.int 0)]
/-! ### TooNarrow.__init__ -/
def spTn (T : Addr) : Sp := fun vs H Q _ => ∃ (a : Addr), vs = [.ref a, .int 0] ∧ H a = some (exo a T none) ∧
  ∀ d H2, H d = none → d ≠ a → (∀ x o, x ≠ a → H x = some o → H2 x = some o) → H2 a = some (exo a T (some d)) → H2 d = some (L2.exd d plF) → Q .non H2
theorem sc_tn {qual : Str} {cc cda : Addr} : NdefX.NScope ["self", "place", "__class__"] ["self", "place"] [("__class__" : Str)] (nfOf (mth 6 0) qual cc cda).scope := NdefX.nscope_by (show NdefX.nscB ["self", "place", "__class__"] ["self", "place"] [("__class__" : Str)] (defScope (mth 6 0)) = true by decide +kernel)
section
variable {P : Program} {w : World} {K : PySem.W.Frag} {mg : Str → Option Value} {base : Heap}
theorem ok_tn_init {T f cc cda : Addr} {qual : Str} {fd : FuncData} (sx : SupX P K mg T f cc cda (nfOf (mth 6 0) qual cc cda) fd) (OT : OexC K T) (hno : PySem.W.findIn K (.ref T) "place" = some none) : FnOk P w K mg base CX0 1 f fd ["self", "place"] (spTn T) := by
  refine fnXS sx sc_tn (fun vs H Q E ⟨_, h, _⟩ => by rw [h]; rfl) fun A outer s H vs Q E hr h => ?_
  obtain ⟨a, rfl, ha, q⟩ := h
  refine wpSsA.superX sx rfl rfl rfl ha OT (fun b hb => ?_)
  have hab : a ≠ b := fun z => by rw [z] at ha; rw [ha] at hb; cases hb
  refine wpA.of (pa_cons (pe_joined (.cons pe_str (.cons (pe_fmt (pe_var (i := 1) rfl (.inl rfl))) (.cons pe_str .nil)))) pa_nil) ?_
  refine ⟨_, rfl, by decide, ⟨_, rfl, .inr ⟨0, rfl, by decide, _, rfl, by decide, _, rfl, by decide, ?_⟩⟩⟩
  refine ⟨upd_same, (upd_ne hab).trans ha, by decide, ?_⟩
  refine wpSsA.of (wpSs.of (pss_one (ps_ost (pe_var (i := 0) rfl (.inl rfl)) (pe_var (i := 1) rfl (.inl rfl)))) ?_)
  refine ⟨_, rfl, _, rfl, a, T, rfl, OT, hno, .inl ⟨(upd_ne hab).trans ha, fun d hd hda => ?_⟩⟩
  have hdb : d ≠ b := fun z => by rw [z, upd_same] at hd; cases hd
  rw [upd_ne hdb] at hd
  refine q d _ hd hda (fun x o hx e => ?_) upd_same ((upd_ne hda).trans upd_same)
  have hxd : x ≠ d := fun z => by rw [z, hd] at e; cases e
  have hxb : x ≠ b := fun z => by rw [z, hb] at e; cases e
  rw [upd_ne hx, upd_ne hxd, upd_ne hxb]
  exact e
end
/-- C(e, ..), the context of the exception told -/
theorem pmk_oexN {X : Cx} {CX : CXT} {x : Str} {C fI : Addr} {k : Nat} {fd : FuncData} {ps : List Str} {sp : Sp} {e : Expr} {es : List Expr} {ta : TA} {p pos : Pos} (T : OexC X.K C) (iC : PySem.W.findIn X.K (.ref C) "__init__" = some (some (.ref fI))) (tI : PySem.W.typeIn X.K (.ref fI) = some (.type "function"))
    (F1 : FnOk X.prog X.w X.K X.mg X.base CX k fI fd ps sp) (hr : Room (k + 1) X.A) (hb : Binds X.K fd ps []) (hx : Passes CX X (fun _ _ _ => False)) (hg : Gl X x) (hm : X.mg x = some (.ref C)) (ha : PA X (e :: es) ta)
    (hdb : (x == ("__debug__" : Str)) = false := by decide) (he : starEach (e :: es) X.env = (false, eval e X.env) :: starEach es X.env := by rfl) (hpl : (backTo pos (starEach es X.env)).any (·.1) = false := by rfl) :
    L2N.PMk X (.Call (.Name x p) (e :: es) [] pos) (tMkO C sp [] ta) := by
  intro pins s σ H Q I h
  obtain ⟨nm, q, N, bs, bm, sn, sub, ab, col, dd, k0, k1, k2, k3, k5, hC, hbm⟩ := T.cls
  refine wpAny_Call_Name_kw (ld_glob I hg hm ?_ hdb)
  refine PySem.W.callWith_K (h₀ := X.base) I.ok.mod.kin T.kC (thn (ha.run pos pins s σ H _ I h) fun us s1 ⟨vs, H1, I1, r1, hz, q1⟩ => ⟨I1.kIn, ?_⟩) he hpl
  show wpAny _ _ (call (.ref C) us) _ _ _
  obtain ⟨hp, g, dr, tk, os⟩ := s1
  have hsz : hp.objs.size ≤ hp.objs.size + 1 := Nat.le_succ _
  have hn : H1 (hp.objs.size + 1) = none := I1.hok.fresh hsz
  have hq := q1 (hp.objs.size + 1) hn
  rw [List.append_nil] at hq
  have kk : ∀ b o, hp.get? b = some o → ((hp.push (PySem.W.kdv_tup us)).push (PySem.HandSPX.excO C hp.objs.size)).get? b = some o := fun b o e => Heap.get?_push_of_some _ (Heap.get?_push_of_some _ e)
  have hget : ((hp.push (PySem.W.kdv_tup us)).push (PySem.HandSPX.excO C hp.objs.size)).get? (hp.objs.size + 1) = some (PySem.HandSPX.excO C hp.objs.size) := by heap_get
  have I2 : Inv X pins σ (L2.upd H1 (hp.objs.size + 1) (exo (hp.objs.size + 1) C none)) ⟨(hp.push (PySem.W.kdv_tup us)).push (PySem.HandSPX.excO C hp.objs.size), g, dr, tk, os⟩ :=
    I1.laid (t' := tk) (a := hp.objs.size + 1) (o := exo (hp.objs.size + 1) C none) (h' := (hp.push (PySem.W.kdv_tup us)).push (PySem.HandSPX.excO C hp.objs.size)) kk hsz (exo_ok hget)
  have r2 : Vals (V.ref (hp.objs.size + 1) :: vs) (Value.ref (hp.objs.size + 1) :: us) := .cons rfl r1
  have hl : (Value.ref (hp.objs.size + 1) :: us ++ []).length = ps.length := by
    have e := r2.length
    rw [F1.len _ _ _ _ hq] at e
    rw [List.append_nil]
    exact e.symm
  have hus : us.length ≤ sizeLine := by
    rw [← Paired.length r1, sizeLine_eq]
    omega
  have b2 := hb _ (Value.ref (hp.objs.size + 1) :: us) I2.kIn hl
  rw [List.append_nil] at b2
  refine wpAny_call (PySem.HandSPX.call_own F.excBase_ValueError (fun Y => PySem.HandSPX.refsVE_contains Y bm hbm) (I1.kIn _ _ hC) (PySem.W.looks_findIn I1.kIn iC) (fun self => PySem.W.bind_fn I1.kIn self tI) hus
    (codeAny_mono (F1.run _ X.stack _ _ ⟨Value.ref (hp.objs.size + 1) :: us, []⟩ (Value.ref (hp.objs.size + 1) :: us) _ _ (fun _ _ _ => False) (hr.make C us []) (I2.env0.make C us []) b2 r2 hq) fun r s' hq' => ?_))
  cases r with
  | error er => exact hx pins σ _ _ er s' I2 hq'
  | ok fl =>
    cases fl with
    | ret u =>
      obtain ⟨v, H2, os2, bare2, un2, hok2, rv, ev, d, fs, ea, ed, hd1, q2⟩ := hq'
      subst ev
      obtain ⟨h2, g2, d2, t2, os'⟩ := s'
      obtain ⟨t0, G, J, kG, ge, hoe, na⟩ := mk_end0 (d2 := d2) (t2 := t2) I1 hsz kk un2 hok2 os2 bare2 ea ed hd1
      exact ⟨rv, ⟨hp.objs.size + 1, _, _, ⟨G, g2, d2, t2, os'⟩, _, .ref C, some d, rfl, J, kG, ge, hoe, ⟨rfl, rfl, fun vs hv => by cases hv; rfl⟩, rfl, rfl, na, rfl, bare2, raises_own T.exC T.tyC, q2⟩⟩
    | next => exact False.elim hq'
    | brk => exact False.elim hq'
    | cont => exact False.elim hq'
/-! ### defs that raise TooNarrow(0) -/
def spX (K : PySem.W.Frag) (Pre : List D → Prop) (T : Addr) : Sp := fun vs H _ E => ∃ ds Hf, Same Hf H ∧ Reps K Hf vs ds ∧ Pre ds ∧ ∀ d Hf' H', Grow Hf H Hf' H' → H' d = some (.xd plF) → E (.ref T) (some d) H'
structure MetX (P : Program) (w : World) (K : PySem.W.Frag) (mg : Str → Option Value) (base : Heap) (k : Nat) (C : Addr) (m : Str) (sp : Sp) : Prop where
  ex : ∃ (f : Addr) (fd : FuncData) (ps : List Str), Cls K C ∧ Meth K C m f ∧ FnOk P w K mg base (L2N.CX P w) k f fd ps sp ∧ Binds K fd ps []
structure CalH (P : Program) (w : World) (K : PySem.W.Frag) (mg : Str → Option Value) (base : Heap) (k : Nat) (x : Str) (sp : Sp) : Prop where
  ex : ∃ (f : Addr) (fd : FuncData) (ps : List Str), L2H.FnH P w K mg base CX0 k f fd ps sp ∧ mg x = some (.ref f) ∧ PySem.W.keepIn K (.ref f) = true ∧ Binds K fd ps []
structure TnT (P : Program) (w : World) (K : PySem.W.Frag) (mg : Str → Option Value) (base : Heap) (T : Addr) : Prop where
  oex : OexC K T
  ini : ∃ fI fd, PySem.W.findIn K (.ref T) "__init__" = some (some (.ref fI)) ∧ PySem.W.typeIn K (.ref fI) = some (.type "function") ∧ FnOk P w K mg base CX0 1 fI fd ["self", "place"] (spTn T) ∧ Binds K fd ["self", "place"] []
  mgT : mg "TooNarrow" = some (.ref T)
  xf : XfC K T
  hno : PySem.W.findIn K (.ref T) "place" = some none
  exm : PySem.W.exmOne K (.ref T) (.ref T) = some true
section
variable {P : Program} {w : World} {K : PySem.W.Frag} {mg : Str → Option Value} {base : Heap}
theorem fnDX {x qual : Str} {st : Stmt} {f T : Addr} {fd : FuncData} {N ps : List Str} {k : Nat} {Pre : List D → Prop} (F : Fun K x qual st f fd) (S : FnScope N ps (defScope st)) (hl : ∀ ds, Pre ds → ds.length = ps.length)
    (hb : ∀ (cdv : Value) (A : Around) (outer : List Env) (s : Shared) (H Hf : Hp) (E : XK) (ds : List D), Room k (A.deeper (envOfC qual (defScope st) s.heap.objs.size f cdv)) → Pre ds → (∀ d Hf' H', Grow Hf H Hf' H' → H' d = some (.xd plF) → E (.ref T) (some d) H') →
      ∀ σ, Stt K (Hf, H) Hf H σ (envD N ds) → ∀ D : Ends, wpSs (cxOf (L2N.CX P w) P w K mg base N qual (defScope st) f cdv A outer s H E) (defBody st) D σ H) : FnOk P w K mg base (L2N.CX P w) (k + 1) f fd ps (spX K Pre T) := by
  obtain ⟨oc, od, kV, doc, pm, an, cdv, ct, osl, rfl, lk, hcd⟩ := F.ex
  refine fn_of lk hcd S (fun vs H Q E h => ?_) fun A outer s H vs Q E hr h => ?_
  · obtain ⟨ds, Hf, _, r, hR, _⟩ := h
    rw [r.len]
    exact hl ds hR
  · obtain ⟨ds, Hf, sm, r, hP, q⟩ := h
    exact ⟨_, pss_wp, hb cdv A outer s H Hf E ds hr hP q (L2.start N vs) (stt_start (Grow.refl sm) r) _⟩
end
section
variable {X : Cx} {env : CEnv} {B : Hp × Hp} {Hf H : Hp} {σ : St} {e o : Expr} {es : List Expr} {T C : Addr} {gs : List (Str × D)} {ds : List D} {Pre : List D → Prop} {E : XK} {k j : Nat} {m : Str} {apos pos : Pos} {Q : VK}
/-- o.m(e, ..), which raises -/
theorem wpE_methX {pl : Sem Bool} (st : Stt X.K B Hf H σ env) (c : MetX X.prog X.w X.K X.mg X.base k C m (spX X.K Pre T)) (hx : Passes (L2N.CX X.prog X.w) X E) (hr : Room j X.A) (hk : k ≤ j) (ho : EvD X o env (.obj C gs)) (hl : gs.lookup m = none) (ha : EvA X (e :: es) env ds) (hP : Pre (.obj C gs :: ds))
    (hE : ∀ d Hf' H', Grow Hf H Hf' H' → H' d = some (.xd plF) → E (.ref T) (some d) H')
    (hst : starEach (e :: es) X.env = (false, eval e X.env) :: starEach es X.env := by rfl) (hpl : (backTo pos (starEach es X.env)).any (·.1) = false := by rfl)
    (ht : eval (.Call (.Attribute o m apos) (e :: es) [] pos) X.env = (do
      let ov ← eval o X.env
      standAt apos.atName
      let (f, first) ← holding [ov] (getMethod ov m pl)
      callWith pos f first (backTo pos (starEach (e :: es) X.env)) (backToKw pos (keywordEach [] X.env))) := by rfl) : wpE X (.Call (.Attribute o m apos) (e :: es) [] pos) σ H Q := by
  obtain ⟨f, fd, ps, hc, hm, F, b⟩ := c.ex
  refine wpE.of (pe_meth (E := E) (pl := pl) pe_wp hc hm F (hr.mono hk) b .nil hx pa_wp hst hpl ht) (ho B Hf H σ st _ fun v Hf1 H1 g1 r1 => ?_)
  obtain ⟨a, dx, fs, e1, hA, t⟩ := r1.inv_obj
  refine ⟨a, dx, fs, e1, g1.s _ _ hA, t.nolook hl, ?_⟩
  refine ha B Hf1 H1 σ (st.grow g1) _ fun vs Hf2 H2 g2 r2 => ?_
  rw [List.append_nil]
  exact ⟨.obj C gs :: ds, Hf2, g2.s, .cons (r1.mono g2.f) r2, hP, fun d Hf3 H3 g3 h3 => hE d Hf3 H3 ((g1.trans g2).trans g3) h3⟩
theorem takesLen {W : WX} (tk : L2N.Takes X W) : L2N.Takes X (fun cls d σ H => σ.length = X.N.length → W cls d σ H) := fun u s' ⟨a, B, sI, pins, σ, H, cls, d, e, I, nb, up, sky, na, os, ag, w⟩ =>
  tk u s' ⟨a, B, sI, pins, σ, H, cls, d, e, I, nb, up, sky, na, os, ag, w I.len⟩
end
end Dt
set_option maxHeartbeats 4000000
namespace Dt
open PySem PySem.Spec PyProof.Rows L2
section
variable {P : Program} {w : World} {K : PySem.W.Frag} {mg : Str → Option Value} {base : Heap}
def PreX (C : Addr) : List D → Prop := fun ds => ∃ (n l wd h : Int), ds = [.obj C (aFs n l), .int wd, .int h] ∧ (ShA (aFs n l) (hullF [] (wsP n l)) ∧ inB (hullF [] (wsP n l)) wd h = false)
theorem wpS_if {X : Cx} {env : CEnv} {B : Hp × Hp} {Hf H : Hp} {σ : St} {c : Expr} {u v : List Stmt} {k : Bool} {D : Ends} {pos : Pos} (st : Stt X.K B Hf H σ env) (hc : EvT X c env k) (hk : k = true) (h1 : ∀ Hf1 H1, Grow Hf H Hf1 H1 → wpSs X u D σ H1) : wpS X (.If c u v pos) D σ H := by
  subst hk
  exact wpS.of (ps_if pt_wp pss_wp pss_wp) (hc B Hf H σ st _ fun Hf1 H1 g1 => by
    show wpSs X u D σ H1
    exact h1 Hf1 H1 g1)
theorem grow_exc {Hf H H2 : Hp} {a T d : Addr} (s : Same Hf H) (ha : H a = none) (hd : L2.upd H a (exo a T none) d = none) (hda : d ≠ a) (k : ∀ x o, x ≠ a → L2.upd H a (exo a T none) x = some o → H2 x = some o) : Grow Hf H Hf (L2.upd (L2.del H2 a) d (.xd plF)) := by
  rw [upd_ne hda] at hd
  have h : Same H (L2.upd (L2.del H2 a) d (.xd plF)) := fun x o e => by
    have hxa : x ≠ a := fun z => by rw [z, ha] at e; cases e
    have hxd : x ≠ d := fun z => by rw [z, hd] at e; cases e
    rw [upd_ne hxd, del_ne hxa]
    exact k x o hxa (by rw [upd_ne hxa]; exact e)
  exact ⟨Same.refl _, h, s.trans h, fun _ z _ => z⟩
theorem ok_check_roomX {C S T : Addr} (tn : TnT P w K mg base T) (c1 : C8.Met P w K mg base 6 C "shape" (spD K (R_shape C S ShA)) []) (c2 : CtC P w K mg base 1 S (R_contains S)) {f : Addr} {fd : FuncData} {qual : Str} (F : Fun K "check_room" qual (mth 20 4) f fd) :
    FnOk P w K mg base (L2N.CX P w) 7 f fd ["self", "width", "height"] (spX K (PreX C) T) := by
  obtain ⟨fI, fdI, i1, i2, i3, i4⟩ := tn.ini
  refine fnDX F sc_check_room (fun ds ⟨_, _, _, _, h, _⟩ => by rw [h]; rfl) fun cdv A outer s H Hf E ds hr hP hE σ st D => ?_
  obtain ⟨n, l, wd, h, rfl, h1, h2⟩ := hP
  have hb : ((hullF [] (wsP n l)).any fun q => decide (q.1 ≤ wd) && decide (q.2 ≤ h)) = false := h2
  refine wpSs.of (pss_one ps_wp) (wpS_if st (tnin c2 hr (by decide) (evd_tup (ac (v 1) (a1 (v 2))) (by simp)) (evd_mt0 c1 hr (Nat.le_refl _) (v 0) (no_shape_a n l) ⟨_, _, rfl, h1, rfl⟩) ⟨_, wd, h, rfl, rfl⟩) (by rw [hb]; rfl) fun Hf1 H1 g1 => ?_)
  refine wpSs.of (pss_one (L2N.ps_raise rfl (L2N.takes_of rfl rfl rfl rfl) (pmk_oexN tn.oex i1 i2 i3 (hr.mono (by decide)) i4 pass0 (by rfl) tn.mgT (pa_cons pe_int pa_nil)))) ?_
  exact ⟨by decide, fun a ha => ⟨a, rfl, upd_same, fun d H2 hd hda k e1 e2 => ⟨rfl, d, _, e1, e2, by rw [upd_ne hda] at hd; exact hd, hE d Hf1 _ (g1.trans (grow_exc g1.s ha hd hda k)) upd_same⟩⟩⟩
theorem no_check_a (n l : Int) : (aFs n l).lookup ("check_room" : Str) = none := by
  have e : ((("check_room" : Str)) == "key") = false := by decide
  have e2 : ((("check_room" : Str)) == "letters") = false := by decide
  have e3 : ((("check_room" : Str)) == "longest") = false := by decide
  simp [aFs, List.lookup, e, e2, e3]
theorem ok_a_drawnX {C T : Addr} (c : MetX P w K mg base 7 C "check_room" (spX K (PreX C) T)) {f : Addr} {fd : FuncData} {qual : Str} (F : Fun K "drawn" qual (mth 32 6) f fd) :
    FnOk P w K mg base (L2N.CX P w) 8 f fd ["self", "width", "height"] (spX K (PreX C) T) := by
  refine fnDX F sc_a_drawn (fun ds ⟨_, _, _, _, h, _⟩ => by rw [h]; rfl) fun cdv A outer s H Hf E ds hr hP hE σ st D => ?_
  obtain ⟨n, l, wd, h, rfl, h1, h2⟩ := hP
  refine wpSs.of (pss_cons (ps_expr pe_wp rfl) pss_wp) (wpE_methX (E := E) st c (L2N.passes_call (L2N.takes_of rfl rfl rfl rfl) fun _ _ _ _ h => h) hr (by decide) (v 0) (no_check_a n l) (ac (v 1) (a1 (v 2))) ⟨n, l, wd, h, rfl, h1, h2⟩ hE)
/-- _law_same of two zeros, while an exception is handled -/
theorem ok_same0H (b : Bt mg) {f : Addr} {fd : FuncData} (F : Fun K "_law_same" "_law_same" (top 35) f fd) : L2H.FnH P w K mg base CX0 1 f fd ["told", "due"] (spD K fun ds d => ds = [.int 0, .int 0] ∧ d = .bl true) := by
  obtain ⟨oc, od, kV, doc, pm, an, cdv, ct, osl, rfl, lk, hcd⟩ := F.ex
  refine L2H.fn_ofH lk hcd sc_same (fun vs H Q E h => ?_) fun A outer s H vs Q E p hot hr h => ?_
  · obtain ⟨ds, d, Hf, _, r, ⟨rfl, _⟩, _⟩ := h
    rw [r.len]
    rfl
  · obtain ⟨ds, d, Hf, sm, r, ⟨rfl, rfl⟩, q⟩ := h
    refine ⟨_, pss_wp, ?_⟩
    refine (?_ : ExD (L2H.cxH CX0 P w K mg base N_same "_law_same" (defScope (top 35)) f cdv A outer s H E p) (defBody (top 35)) (envD N_same [.int 0, .int 0]) { nx := fun _ => False, rt := fun d' => d' = .bl true }) (Hf, H) Hf H (L2.start N_same vs) (stt_start (Grow.refl sm) r) _ ⟨fun _ _ _ _ z => z.elim, fun d' v Hf' H' e g r' => ?_, fun _ _ _ _ z => z.elim, fun _ _ _ _ z => z.elim⟩
    · refine exd_cons (exs_if (evt_w (evw_or (evt_isN (v 1) evd_non) fun _ => evw_or (evt_isB (v 1) evd_bl (.int _ _)) fun _ => evw_or1 (evt_isB (v 1) evd_bl (.int _ _)))) (fun h => by cases h) fun h => exd_nil ?_)
      refine exd_cons (exs_if (tisi "int" true b (v 1) (.int _) b.int) (fun h => ?_) fun h => by cases h)
      exact exd_cons (exs_ret (evd_and (disi "int" true b (v 0) (.int _) b.int) fun _ => evd_and (evd_not (disi "bool" false b (v 0) (.int _) b.bool)) fun _ => evd_and1 (evd_eq (v 0) (v 1) (.int _ _))) (by simp))
    · have e : d' = .bl true := e
      subst e
      exact q v Hf' H' g r'
abbrev N_kept : List Str := ["content", "room", "e"]
theorem sc_kept : FnScope N_kept ["content", "room"] (defScope (top 47)) := ⟨rfl, rfl, rfl, by decide +kernel, rfl, by decide +kernel, by decide +kernel⟩
theorem takes0N {X : Cx} : L2N.Takes X (fun _ _ _ _ => False) := fun _ _ x => by
  obtain ⟨_, _, _, _, _, _, _, _, _, _, _, _, _, _, _, _, z⟩ := x
  exact z.elim
theorem ok_kept {Ca T : Addr} (tn : TnT P w K mg base T) (cH : CalH P w K mg base 1 "_law_same" (spD K fun ds d => ds = [.int 0, .int 0] ∧ d = .bl true)) (c : MetX P w K mg base 8 Ca "drawn" (spX K (PreX Ca) T)) {f : Addr} {fd : FuncData} (F : Fun K "_law_kept_out" "_law_kept_out" (top 47) f fd) :
    FnOk P w K mg base CX0 9 f fd ["content", "room"] (spD K (R_kept Ca)) := by
  refine fnD F sc_kept _ (fun ds d ⟨_, _, _, h, _⟩ => by rw [h]; rfl) fun cdv A outer s H E ds d hr hR => ?_
  obtain ⟨n, l, r, rfl, ⟨h1, h2, h3, h4, h5, h6⟩, rfl⟩ := hR
  obtain ⟨fH, fdH, psH, FH, mH, kH, bH⟩ := cH.ex
  refine exd_cons fun B Hf H1 σ st D ft => ?_
  refine wpS.of (L2N.ps_try_as (i := 2) (c := .ref T) (tb := fun W D σ H => ∀ pn xe, L2N.Takes (Cx.tr _ pn xe) W → wpSs (Cx.tr _ pn xe) _ D σ H) (ts := fun a cls d D σ H => ∀ oe pn, L2N.Zn cls d oe → (∃ vs, oe.data = .fields vs) → wpSs (Cx.suite _ a ((a, oe) :: pn)) _ D σ H) (Wout := fun _ _ _ _ => False) rfl rfl sc_kept.nd rfl rfl ⟨by rfl, by decide, .inl tn.mgT⟩ takes0N
    (fun W pn xe tk _ => ⟨fun pins s σ H D I h => h pn xe tk pins s I⟩) (fun a oe cls d pn hz hf => ⟨fun pins s σ H D I h => h oe pn hz hf pins s I⟩)) ?_
  intro pn xe tk
  refine wpSs.of (pss_one (ps_expr pe_wp rfl)) (wpE_methX (T := T) (E := fun cls d H => ∀ σ : St, σ.length = 3 → wAs K (.ref T) 2 _ _ _ cls d σ H) st c (L2N.passes_call (takesLen tk) fun cls d σ H h hl => h σ hl) hr (by decide) (v 0) (no_drawn_a n l) (ac (evd_ixU (v 1) evd_int rfl) (a1 (evd_ixU (v 1) evd_int rfl))) ⟨n, l, r.1, r.2, rfl, ⟨n, l, rfl, ⟨h1, by omega, h3, by omega⟩, rfl⟩, ?_⟩ fun d Hf' H' g hd σ' hl => ?_)
  · rw [← h6]
    exact hull_holds h1 (by omega) h3 h5.1
  refine ⟨true, tn.exm, fun _ a ha oe pn hz hf => ?_, fun z => by cases z⟩
  have hs2 : (σ'.set 2 (some (.ref a)))[2]? = some (some (.ref a)) := by
    rw [List.getElem?_set, if_pos rfl, if_pos (by omega)]
  have hc : L2H.HotC (Cx.suite (cxOf CX0 P w K mg base N_kept "_law_kept_out" (defScope (top 47)) f cdv A outer s H E).nox a ((a, oe) :: pn)) := by
    obtain ⟨vs, hv⟩ := hf
    exact ⟨(a, oe), ⟨rfl, vs, hv, hz.2.2 vs hv⟩, List.mem_cons_self⟩
  refine wpSs.of (pss_one (ps_ret (L2H.pe_callH (E := fun _ => E0) FH ((L2H.roomH_mark hr _).mono (by decide)) hc (by rfl) mH kH bH (fun _ => fun _ _ _ _ _ _ h => h.elim) (pa_cons (pe_xf tn.xf tn.hno hz.zc hf (pe_var (i := 2) rfl (.inl rfl))) (pa_cons pe_int pa_nil))))) ?_
  refine ⟨_, hs2, rfl, rfl, d, _, .int 0, rfl, hd, rfl, ?_⟩
  exact ⟨[.int 0, .int 0], .bl true, Hf', g.s, .cons (.int 0) (.cons (.int 0) .nil), ⟨rfl, rfl⟩, fun v Hf2 H2 g2 r2 => ft.rt (.bl true) v Hf2 H2 rfl (st.g.trans (g.trans g2)) r2⟩
end
end Dt
set_option maxHeartbeats 4000000
namespace Dt
open PySem PySem.Spec PyProof.Rows L2
section
variable {K : PySem.W.Frag} {C f : Addr} {x m qual : Str} {st : Stmt} {oc kV doc pm cdv ct : Value} {od an : Option Addr} {osl : Array (Option Value)}
def KDef (K : PySem.W.Frag) (x : Str) (st : Stmt) : Prop := ∃ (f : Addr) (fd : FuncData), PySem.W.nsIn K mainGlobals x = some (some (.ref f)) ∧ L2.Fun K x x st f fd
theorem kdef_mk (a : PySem.W.nsIn K mainGlobals x = some (some (.ref f))) (l : K.lookup f = some ⟨oc, od, .func (PySem.W.fnOf x x (defArgs st) (defBody st) (defScope st) .none kV doc pm an cdv ct), osl⟩) (c : PySem.W.codeIn K cdv x = true) (k : PySem.W.keepIn K (.ref f) = true) : KDef K x st :=
  ⟨f, _, a, fun_mk l c k⟩
def KMet (K : PySem.W.Frag) (C : Addr) (m qual : Str) (st : Stmt) : Prop := ∃ (f : Addr) (fd : FuncData), Meth K C m f ∧ L2.Fun K m qual st f fd
theorem kmet_mk (a : PySem.W.findIn K (.ref C) m = some (some (.ref f))) (i : PySem.W.isFn K (.ref f) = true) (l : K.lookup f = some ⟨oc, od, .func (PySem.W.fnOf m qual (defArgs st) (defBody st) (defScope st) .none kV doc pm an cdv ct), osl⟩) (c : PySem.W.codeIn K cdv qual = true) (k : PySem.W.keepIn K (.ref f) = true) : KMet K C m qual st :=
  ⟨f, _, ⟨a, i, k⟩, fun_mk l c k⟩
def KSta (K : PySem.W.Frag) (C : Addr) (m qual : Str) (st : Stmt) : Prop := ∃ (mc : Value) (p g : Addr) (fd : FuncData), ClX.CRead K C mc ∧ SMet K C mc m p g ∧ L2.Fun K m qual st g fd
theorem ksta_mk {p g : Addr} {rest : List Value} (r : PySem.W.readsIn K C (.type "type") = true) (sa : PySem.W.specialIn K (.ref C) "__getattribute__" = some (some (.builtin "type.__getattribute__"))) (a : PySem.W.findCls K (.ref C) (.type "type") m = some (.get (.builtin "staticmethod.__get__") (.ref p) .none (.ref C))) (rc : PySem.W.recIn K p "staticmethod" = some (.ref g :: rest))
    (l : K.lookup g = some ⟨oc, od, .func (PySem.W.fnOf m qual (defArgs st) (defBody st) (defScope st) .none kV doc pm an cdv ct), osl⟩) (c : PySem.W.codeIn K cdv qual = true) (k : PySem.W.keepIn K (.ref g) = true) : KSta K C m qual st :=
  ⟨_, p, g, _, ⟨r, sa⟩, ⟨a, ⟨rest, rc⟩, k⟩, fun_mk l c k⟩
def KSup (P : Program) (K : PySem.W.Frag) (C g : Addr) (qual : Str) (st : Stmt) : Prop := ∃ (f cc cda : Addr) (fd : FuncData), PySem.W.findIn K (.ref C) "__init__" = some (some (.ref f)) ∧ PySem.W.isFn K (.ref f) = true ∧ PySem.W.keepIn K (.ref f) = true ∧ (∃ (kV doc pm : Value) (an : Option Addr) (ct : Value), fd = PySem.W.fnX "__init__" qual (C8.fnArgs st) (defBody st) (defScope st) [(("__class__" : Str), cc)] .none kV doc pm an (.ref cda) ct) ∧ ∀ mg : Str → Option Value, mg "super" = none → Sup P K mg C f cc cda g "__init__" (nfOf st qual cc cda) fd
theorem ksup_mk {P : Program} {g cc cda : Addr} {cl ccl : Value} {cld cdd : Option Addr} {csl ccs : Array (Option Value)} {vs : Array Value} {file : Str} {tf : Tok} {cd : ClassData}
    (a : PySem.W.findIn K (.ref C) "__init__" = some (some (.ref f))) (i : PySem.W.isFn K (.ref f) = true) (k : PySem.W.keepIn K (.ref f) = true)
    (l : K.lookup f = some ⟨oc, od, .func (PySem.W.fnX "__init__" qual (C8.fnArgs st) (defBody st) (defScope st) [(("__class__" : Str), cc)] .none kV doc pm an (.ref cda) ct), osl⟩) (c : PySem.W.codeIn K (.ref cda) qual = true)
    (ce : K.lookup cc = some ⟨cl, cld, .cell (some (.ref C)), csl⟩) (co : K.lookup cda = some ⟨ccl, cdd, .fields vs, ccs⟩) (v2 : vs[2]? = some (.str file tf)) (fl : ((P.main.file : Str) == file) = true)
    (ci : PySem.W.clsIn K C = some cd) (sub : PySem.W.mroIn K C (.ref C) = some true) (sm : PySem.W.ks_superIn K C C "__init__" = some (some (.ref g))) (ht : PySem.W.typeIn K (.ref g) = some (.type "function")) (fg : PySem.W.fnIn K g = true) (ho : PySem.W.nsIn K cStatics "thirdparty.any" = some none)
    (hks : (defScope st).names.lookup ("super" : Str) = some .globalImplicit) (hkc : (defScope st).names.lookup ("__class__" : Str) = some .free) (hka : (defScope st).names.lookup ("self" : Str) = some .local)
    (hp : (((C8.fnArgs st).posonlyargs ++ (C8.fnArgs st).args).head?.map (·.arg)) = some ("self" : Str)) (htop : (P.main.scope.names.lookup ("super" : Str)).isSome = false) (kind : (defScope st).kind = .function) : KSup P K C g qual st :=
  ⟨f, cc, cda, _, a, i, k, ⟨_, _, _, _, _, rfl⟩, fun mg mgs => { ex := ⟨_, _, _, _, _, _, _, _, _, rfl, l⟩, hcl := rfl, hc := rfl, hcd := c, cell := ⟨_, _, _, ce⟩, code := ⟨_, _, _, _, _, _, co, v2, fl⟩, cls := ⟨_, ci⟩, sub := sub, mgs := mgs, hks := hks, hkc := hkc, hka := hka, hp := hp, htop := htop, hm := sm, ht := ht, fg := fg, ho := ho, kind := kind }⟩
def KSupX (P : Program) (K : PySem.W.Frag) (C : Addr) (qual : Str) (st : Stmt) : Prop := ∃ (f cc cda : Addr) (fd : FuncData), PySem.W.findIn K (.ref C) "__init__" = some (some (.ref f)) ∧ PySem.W.typeIn K (.ref f) = some (.type "function") ∧ (∃ (kV doc pm : Value) (an : Option Addr) (ct : Value), fd = PySem.W.fnX "__init__" qual (C8.fnArgs st) (defBody st) (defScope st) [(("__class__" : Str), cc)] .none kV doc pm an (.ref cda) ct) ∧ ∀ mg : Str → Option Value, mg "super" = none → SupX P K mg C f cc cda (nfOf st qual cc cda) fd
theorem ksupx_mk {P : Program} {cc cda : Addr} {cl ccl : Value} {cld cdd : Option Addr} {csl ccs : Array (Option Value)} {vs : Array Value} {file : Str} {tf : Tok} {cd : ClassData}
    (a : PySem.W.findIn K (.ref C) "__init__" = some (some (.ref f))) (i : PySem.W.typeIn K (.ref f) = some (.type "function"))
    (l : K.lookup f = some ⟨oc, od, .func (PySem.W.fnX "__init__" qual (C8.fnArgs st) (defBody st) (defScope st) [(("__class__" : Str), cc)] .none kV doc pm an (.ref cda) ct), osl⟩) (c : PySem.W.codeIn K (.ref cda) qual = true)
    (ce : K.lookup cc = some ⟨cl, cld, .cell (some (.ref C)), csl⟩) (co : K.lookup cda = some ⟨ccl, cdd, .fields vs, ccs⟩) (v2 : vs[2]? = some (.str file tf)) (fl : ((P.main.file : Str) == file) = true)
    (ci : PySem.W.clsIn K C = some cd) (sub : PySem.W.mroIn K C (.ref C) = some true) (sm : PySem.W.ks_superIn K C C "__init__" = some (some (.builtin "ValueError.__init__"))) (hB : PySem.W.subIn K (.ref C) (.type "ValueError") = some true) (ho : PySem.W.nsIn K cStatics "thirdparty.any" = some none)
    (hks : (defScope st).names.lookup ("super" : Str) = some .globalImplicit) (hkc : (defScope st).names.lookup ("__class__" : Str) = some .free) (hka : (defScope st).names.lookup ("self" : Str) = some .local)
    (hp : (((C8.fnArgs st).posonlyargs ++ (C8.fnArgs st).args).head?.map (·.arg)) = some ("self" : Str)) (htop : (P.main.scope.names.lookup ("super" : Str)).isSome = false) (kind : (defScope st).kind = .function) : KSupX P K C qual st :=
  ⟨f, cc, cda, _, a, i, ⟨_, _, _, _, _, rfl⟩, fun mg mgs => { ex := ⟨_, _, _, _, _, _, _, _, _, rfl, l⟩, hcl := rfl, hc := rfl, hcd := c, cell := ⟨_, _, _, ce⟩, code := ⟨_, _, _, _, _, _, co, v2, fl⟩, cls := ⟨_, ci⟩, sub := sub, mgs := mgs, hks := hks, hkc := hkc, hka := hka, hp := hp, htop := htop, hm := sm, hB := hB, ho := ho, kind := kind }⟩
theorem oexc_mk {nm q : Str} {N : Addr} {bs bm : List Value} {sn : List Str} {sub : List Value} {ab : Bool} {col : Option Bool} {dd : Option Addr} {k0 k1 k2 k3 k5 : Option Value} (l : K.lookup C = some (excClassObj nm q C N bs bm true sn sub ab col dd k0 k1 k2 k3 k5 "ValueError.__new__")) (r : PySem.HandSPX.refsVE bm = true)
    (sa : PySem.W.findIn K (.ref C) "__setattr__" = some (some (.builtin "object.__setattr__"))) (e : PySem.W.subIn K (.ref C) (.type "BaseException") = some true) (t : PySem.W.typeIn K (.ref C) = some (.type "type")) (k : PySem.W.keepIn K (.ref C) = true) : OexC K C :=
  ⟨⟨_, _, _, _, _, _, _, _, _, _, _, _, _, _, _, l, r⟩, sa, e, t, k⟩
theorem exm_self {S : Addr} (h1 : PySem.W.subIn K (.ref S) (.type "BaseException") = some true) (h2 : PySem.W.isClsIn K S = true) (h3 : PySem.W.typeIn K (.ref S) = some (.type "type")) (h4 : PySem.W.subIn K (.ref S) (.ref S) = some true) : PySem.W.exmOne K (.ref S) (.ref S) = some true := by
  have e1 : (PySem.W.subIn K (.ref S) (.type "BaseException") == some true) = true := by rw [h1] <;> rfl
  have e2 : ((PySem.W.clsIn K S).isSome && PySem.W.typeIn K (.ref S) == some (.type "type")) = true := by
    have h2' : (PySem.W.clsIn K S).isSome = true := h2
    rw [h2', h3] <;> rfl
  show (if (PySem.W.subIn K (.ref S) (.type "BaseException") == some true) = true then (if ((PySem.W.clsIn K S).isSome && PySem.W.typeIn K (.ref S) == some (.type "type")) = true then PySem.W.subIn K (.ref S) (.ref S) else none) else none) = some true
  rw [if_pos e1, if_pos e2]
  exact h4
/-- what is asked of the classes -/
structure KStairs (K : PySem.W.Frag) (C : Addr) : Prop where
  at_ : PySem.W.nsIn K mainGlobals "Stairs" = some (some (.ref C))
  cl : Cls K C
  nc : NoAttr K C "corners"
  mkk : PySem.W.makesIn K C = true
  kp : PySem.W.keepIn K (.ref C) = true
  i0 : KMet K C "__init__" "Stairs.__init__" (mth 10 0)
  i1 : KSta K C "hull" "Stairs.hull" (mth 10 1)
  i2 : KMet K C "place_at" "Stairs.place_at" (mth 10 2)
  i3 : KMet K C "height_at" "Stairs.height_at" (mth 10 3)
  i9 : KMet K C "__contains__" "Stairs.__contains__" (mth 10 9)
  ci : ClI K C
  kit : PySem.W.kitOne K (.ref C) (.ref C) = some true
structure KWords (P : Program) (K : PySem.W.Frag) (C : Addr) : Prop where
  at_ : PySem.W.nsIn K mainGlobals "Words" = some (some (.ref C))
  tk : CkT K C
  mkk : PySem.W.makesIn K C = true
  kp : PySem.W.keepIn K (.ref C) = true
  su : ∃ g fd, KSup P K C g "Words.__init__" (mth 21 0) ∧ L2.Fun K "__init__" "Content.__init__" (mth 20 0) g fd
  m1 : KMet K C "shape" "Words.shape" (mth 21 1)
  m2 : KMet K C "drawn" "Words.drawn" (mth 21 2)
  m4 : KMet K C "check_room" "Content.check_room" (mth 20 4)
structure KAny (P : Program) (K : PySem.W.Frag) (C : Addr) : Prop where
  at_ : PySem.W.nsIn K mainGlobals "AnyText" = some (some (.ref C))
  tk : CkT K C
  mkk : PySem.W.makesIn K C = true
  kp : PySem.W.keepIn K (.ref C) = true
  su : ∃ g fd, KSup P K C g "AnyText.__init__" (mth 32 2) ∧ L2.Fun K "__init__" "Content.__init__" (mth 20 0) g fd
  m4 : KMet K C "__contains__" "AnyText.__contains__" (mth 32 4)
  m5 : KMet K C "shape" "AnyText.shape" (mth 32 5)
  m6 : KMet K C "drawn" "AnyText.drawn" (mth 32 6)
  mc : KMet K C "check_room" "Content.check_room" (mth 20 4)
  cr : ∃ mc, ClX.CRead K C mc ∧ (∃ u, ClX.CVal K C mc "MOST_LETTERS" (.int 60) u) ∧ ∃ u, ClX.CVal K C mc "MOST_LONGEST" (.int 20) u
structure KToo (P : Program) (K : PySem.W.Frag) (C : Addr) : Prop where
  at_ : PySem.W.nsIn K mainGlobals "TooNarrow" = some (some (.ref C))
  oex : OexC K C
  xf : XfC K C
  hno : PySem.W.findIn K (.ref C) "place" = some none
  exm : PySem.W.exmOne K (.ref C) (.ref C) = some true
  su : KSupX P K C "TooNarrow.__init__" (mth 6 0)
structure KGl (K : PySem.W.Frag) : Prop where
  letters : ∃ t, PySem.W.nsIn K mainGlobals "LETTERS" = some (some (.str LET t))
  most_letters : ∃ t, PySem.W.nsIn K mainGlobals "MOST_LETTERS" = some (some (.int 40 t))
  most_words : ∃ t, PySem.W.nsIn K mainGlobals "MOST_WORDS" = some (some (.int 60 t))
end
end Dt
set_option maxHeartbeats 4000000
namespace Dt
open PySem PySem.Spec PyProof.Rows L2
section
variable {P : Program} {w : World} {K : PySem.W.Frag} {mg : Str → Option Value} {base h : Heap} {n : Nat} {sp : Sp} {x m qual : Str} {st : Stmt} {C : Addr} {ps : List Str}
theorem cal_of (X : K.In h) (G : h.Ns mainGlobals mg) (d : KDef K x st) (ok : ∀ f fd, L2.Fun K x x st f fd → FnOk P w K mg base CX0 n f fd ps sp) (hb : ∀ f fd, L2.Fun K x x st f fd → Binds K fd ps []) : C8.Cal P w K mg base n x sp [] := by
  obtain ⟨f, fd, a, F⟩ := d
  exact ⟨f, fd, ps, [], ok f fd F, PySem.W.mg_of X G a, F.kp, hb f fd F, .nil⟩
theorem met_of (cl : Cls K C) (d : KMet K C m qual st) (ok : ∀ f fd, L2.Fun K m qual st f fd → FnOk P w K mg base CX0 n f fd ps sp) (hb : ∀ f fd, L2.Fun K m qual st f fd → Binds K fd ps []) : C8.Met P w K mg base n C m sp [] := by
  obtain ⟨f, fd, M, F⟩ := d
  exact ⟨f, fd, ps, [], cl, M, ok f fd F, hb f fd F, .nil⟩
theorem metX_of (cl : Cls K C) (d : KMet K C m qual st) (ok : ∀ f fd, L2.Fun K m qual st f fd → FnOk P w K mg base (L2N.CX P w) n f fd ps sp) (hb : ∀ f fd, L2.Fun K m qual st f fd → Binds K fd ps []) : MetX P w K mg base n C m sp := by
  obtain ⟨f, fd, M, F⟩ := d
  exact ⟨f, fd, ps, cl, M, ok f fd F, hb f fd F⟩
theorem ct_of {R : List D → D → Prop} (d : KMet K C "__contains__" qual st) (ok : ∀ f fd, L2.Fun K "__contains__" qual st f fd → FnOk P w K mg base CX0 n f fd ps (spD K R)) (hb : ∀ f fd, L2.Fun K "__contains__" qual st f fd → Binds K fd ps []) : CtC P w K mg base n C R := by
  obtain ⟨f, fd, M, F⟩ := d
  exact ⟨f, fd, ps, ok f fd F, hb f fd F, M.at_, M.fn⟩
theorem mak_of (mk : PySem.W.makesIn K C = true) (kp : PySem.W.keepIn K (.ref C) = true) (hm : mg x = some (.ref C)) (d : KMet K C "__init__" qual st) (ok : ∀ f fd, L2.Fun K "__init__" qual st f fd → FnOk P w K mg base CX0 n f fd ps sp) (hb : ∀ f fd, L2.Fun K "__init__" qual st f fd → Binds K fd ps []) : C8.Mak P w K mg base n x C sp [] := by
  obtain ⟨f, fd, M, F⟩ := d
  exact ⟨f, fd, ps, [], ⟨mk, M.at_, M.fn, kp⟩, ok f fd F, hm, hb f fd F, .nil⟩
theorem sta_of {R : List D → D → Prop} (d : KSta K C m qual st) (ok : ∀ f fd, L2.Fun K m qual st f fd → FnOk P w K mg base CX0 n f fd ps (spD K R)) (hb : ∀ f fd, L2.Fun K m qual st f fd → Binds K fd ps []) : SCal P w K mg base n C m R := by
  obtain ⟨mc, p, g, fd, r, s, F⟩ := d
  exact ⟨mc, p, g, fd, ps, r, s, ok g fd F, hb g fd F⟩
theorem bindsX {cc cda : Addr} {kV doc pm ct : Value} {an : Option Addr} (h : ∀ us : List Value, us.length = ps.length → bindArgs (PySem.W.fnX m qual (C8.fnArgs st) (defBody st) (defScope st) [(("__class__" : Str), cc)] .none kV doc pm an (.ref cda) ct) ⟨us, []⟩ = pure (ps.zip us)) :
    Binds K (PySem.W.fnX m qual (C8.fnArgs st) (defBody st) (defScope st) [(("__class__" : Str), cc)] .none kV doc pm an (.ref cda) ct) ps [] := .all h

theorem all76 {S Cw Ca T : Addr} (X : K.In h) (G : h.Ns mainGlobals mg) (b : Bt mg) (ms : mg "super" = none) (gb : KGl K) (kS : KStairs K S) (kW : KWords P K Cw) (kA : KAny P K Ca) (kT : KToo P K T)
    (k_first_bad : KDef K "first_bad" (top 8))
    (k_hull_of : KDef K "hull_of" (top 9))
    (k_check_words : KDef K "check_words" (top 15))
    (k_break_lines : KDef K "break_lines" (top 16))
    (k_next_width : KDef K "next_width" (top 17))
    (k_words_stairs : KDef K "words_stairs" (top 18))
    (k_fits_text : KDef K "fits_text" (top 23))
    (k_lines_after : KDef K "lines_after" (top 24))
    (k_lines_with : KDef K "lines_with" (top 25))
    (k_worst_lines : KDef K "worst_lines" (top 26))
    (k_next_length : KDef K "next_length" (top 27))
    (k_worst_lengths : KDef K "worst_lengths" (top 28))
    (k_worst_words : KDef K "worst_words" (top 29))
    (k_worst_stairs : KDef K "worst_stairs" (top 30))
    (k_letters_for : KDef K "letters_for" (top 31))
    (k_law_numbers : KDef K "_law_numbers" (top 34))
    (k_law_same : KDef K "_law_same" (top 35))
    (k_law_due : KDef K "_law_due" (top 36))
    (k_law_corners : KDef K "_law_corners" (top 37))
    (k_law_is_stairs : KDef K "_law_is_stairs" (top 38))
    (k_law_most : KDef K "_law_most" (top 39))
    (k_law_holds : KDef K "_law_holds" (top 40))
    (k_law_greatest : KDef K "_law_greatest" (top 41))
    (k_law_broken : KDef K "_law_broken" (top 42))
    (k_law_word : KDef K "_law_word" (top 43))
    (k_law_texts : KDef K "_law_texts" (top 44))
    (k_law_rooms : KDef K "_law_rooms" (top 45))
    (k_law_is_worst : KDef K "_law_is_worst" (top 46))
    (k_law_kept_out : KDef K "_law_kept_out" (top 47))
    (k_law_room : KDef K "_law_room" (top 48))
    (k_law : KDef K "law" (top 49))
    {fa : Addr} (hfa : mg "law" = some (.ref fa)) :
    ∃ fd : FuncData, (∀ (s : Shared) (u : Value), BindsTo s fd ⟨[u], []⟩ [("script", u)]) ∧ ∀ base : Heap, K.In base → base.Ns mainGlobals mg → FnOk P w K mg base CX0 11 fa fd ["script"] (spD K R_law) := by
  obtain ⟨fl, fdl, al, Fl⟩ := k_law
  obtain rfl : fl = fa := by
    have e := (PySem.W.mg_of X G al).symm.trans hfa
    cases e
    rfl
  refine ⟨fdl, fun s u => ?_, fun base _ _ => ?_⟩
  · have hB : Binds K fdl ["script"] [] := Fl.binds fun _ _ _ _ _ _ us hl => match us, hl with | [_], _ => rfl
    obtain ⟨_, _, _, _, _, _, _, _, _, rfl, _, _⟩ := Fl.ex
    exact .of_eq rfl
  have gB : Gb mg := by
    obtain ⟨⟨t1, a1⟩, ⟨t2, a2⟩, ⟨t3, a3⟩⟩ := gb
    exact ⟨⟨t1, PySem.W.mg_of X G a1⟩, ⟨t2, PySem.W.mg_of X G a2⟩, ⟨t3, PySem.W.mg_of X G a3⟩⟩
  have hS : mg "Stairs" = some (.ref S) := PySem.W.mg_of X G kS.at_
  have hW : mg "Words" = some (.ref Cw) := PySem.W.mg_of X G kW.at_
  have hA : mg "AnyText" = some (.ref Ca) := PySem.W.mg_of X G kA.at_
  have hT : mg "TooNarrow" = some (.ref T) := PySem.W.mg_of X G kT.at_
  have Ts : StT K S := ⟨kS.cl, kS.nc⟩
  have Ta : AtC K mg Ca := ⟨hA, kA.cr⟩
  have c_lines_after : C8.Cal P w K mg base 1 "lines_after" (spD K R_lines_after) [] := cal_of (ps := ["letters", "free", "longest", "width"]) X G k_lines_after (fun f fd F => ok_lines_after b F) (fun f fd F => F.binds fun _ _ _ _ _ _ us hl => match us, hl with | [_, _, _, _], _ => rfl)
  have c_lines_with : C8.Cal P w K mg base 2 "lines_with" (spD K R_lines_with) [] := cal_of (ps := ["length", "letters", "free", "longest", "width"]) X G k_lines_with (fun f fd F => ok_lines_with b c_lines_after F) (fun f fd F => F.binds fun _ _ _ _ _ _ us hl => match us, hl with | [_, _, _, _, _], _ => rfl)
  have c_worst_lines : C8.Cal P w K mg base 2 "worst_lines" (spD K R_worst_lines) [] := cal_of (ps := ["letters", "longest", "width"]) X G k_worst_lines (fun f fd F => ok_worst_lines b c_lines_after F) (fun f fd F => F.binds fun _ _ _ _ _ _ us hl => match us, hl with | [_, _, _], _ => rfl)
  have c_next_length : C8.Cal P w K mg base 3 "next_length" (spD K R_next_length) [] := cal_of (ps := ["letters", "free", "longest", "width"]) X G k_next_length (fun f fd F => ok_next_length b c_lines_after c_lines_with F) (fun f fd F => F.binds fun _ _ _ _ _ _ us hl => match us, hl with | [_, _, _, _], _ => rfl)
  have c_worst_lengths : C8.Cal P w K mg base 4 "worst_lengths" (spD K R_worst_lengths) [] := cal_of (ps := ["letters", "longest", "width"]) X G k_worst_lengths (fun f fd F => ok_worst_lengths b c_next_length F) (fun f fd F => F.binds fun _ _ _ _ _ _ us hl => match us, hl with | [_, _, _], _ => rfl)
  have c_worst_words : C8.Cal P w K mg base 5 "worst_words" (spD K R_worst_words) [] := cal_of (ps := ["letters", "longest", "width"]) X G k_worst_words (fun f fd F => ok_worst_words b c_worst_lengths F) (fun f fd F => F.binds fun _ _ _ _ _ _ us hl => match us, hl with | [_, _, _], _ => rfl)
  have c_first_bad : C8.Cal P w K mg base 1 "first_bad" (spD K R_first_bad) [] := cal_of (ps := ["corners"]) X G k_first_bad (fun f fd F => ok_first_bad b F) (fun f fd F => F.binds fun _ _ _ _ _ _ us hl => match us, hl with | [_], _ => rfl)
  have c_hull_of : C8.Cal P w K mg base 1 "hull_of" (spD K R_hull_of) [] := cal_of (ps := ["pairs"]) X G k_hull_of (fun f fd F => ok_hull_of b F) (fun f fd F => F.binds fun _ _ _ _ _ _ us hl => match us, hl with | [_], _ => rfl)
  have c_mkS : C8.Mak P w K mg base 2 "Stairs" S (spI K S RI_stairs) [] := mak_of (ps := ["self", "corners"]) kS.mkk kS.kp hS kS.i0 (fun f fd F => ok_st_init b Ts c_first_bad F) (fun f fd F => F.binds fun _ _ _ _ _ _ us hl => match us, hl with | [_, _], _ => rfl)
  have c_hull : SCal P w K mg base 4 S "hull" (R_hull S) := sta_of (ps := ["pairs"]) kS.i1 (fun f fd F => ok_hull b c_hull_of c_mkS F) (fun f fd F => F.binds fun _ _ _ _ _ _ us hl => match us, hl with | [_], _ => rfl)
  have c_place : C8.Met P w K mg base 1 S "place_at" (spD K (R_place_at S)) [] := met_of (ps := ["self", "width"]) kS.cl kS.i2 (fun f fd F => ok_place_at b Ts F) (fun f fd F => F.binds fun _ _ _ _ _ _ us hl => match us, hl with | [_, _], _ => rfl)
  have c_hgt : C8.Met P w K mg base 2 S "height_at" (spD K (R_height_at S)) [] := met_of (ps := ["self", "width"]) kS.cl kS.i3 (fun f fd F => ok_height_at b Ts c_place F) (fun f fd F => F.binds fun _ _ _ _ _ _ us hl => match us, hl with | [_, _], _ => rfl)
  have c_inS : CtC P w K mg base 1 S (R_contains S) := ct_of (ps := ["self", "room"]) kS.i9 (fun f fd F => ok_contains b Ts F) (fun f fd F => F.binds fun _ _ _ _ _ _ us hl => match us, hl with | [_, _], _ => rfl)
  have c_worst_stairs : C8.Cal P w K mg base 5 "worst_stairs" (spD K (R_worst_stairs S)) [] := cal_of (ps := ["letters", "longest"]) X G k_worst_stairs (fun f fd F => ok_worst_stairs b hS c_worst_lines c_hull F) (fun f fd F => F.binds fun _ _ _ _ _ _ us hl => match us, hl with | [_, _], _ => rfl)
  have c_letters_for : C8.Cal P w K mg base 1 "letters_for" (spD K R_letters_for) [] := cal_of (ps := ["longest", "width", "height"]) X G k_letters_for (fun f fd F => ok_letters_for b Ta F) (fun f fd F => F.binds fun _ _ _ _ _ _ us hl => match us, hl with | [_, _, _], _ => rfl)
  have c_check_words : C8.Cal P w K mg base 1 "check_words" (spD K R_check_words) [] := cal_of (ps := ["words"]) X G k_check_words (fun f fd F => ok_check_words b gB F) (fun f fd F => F.binds fun _ _ _ _ _ _ us hl => match us, hl with | [_], _ => rfl)
  have c_break_lines : C8.Cal P w K mg base 1 "break_lines" (spD K R_break_lines) [] := cal_of (ps := ["words", "width"]) X G k_break_lines (fun f fd F => ok_break_lines b F) (fun f fd F => F.binds fun _ _ _ _ _ _ us hl => match us, hl with | [_, _], _ => rfl)
  have c_next_width : C8.Cal P w K mg base 1 "next_width" (spD K R_next_width) [] := cal_of (ps := ["lines"]) X G k_next_width (fun f fd F => ok_next_width b F) (fun f fd F => F.binds fun _ _ _ _ _ _ us hl => match us, hl with | [_], _ => rfl)
  have c_words_stairs : C8.Cal P w K mg base 5 "words_stairs" (spD K (R_words_stairs S)) [] := cal_of (ps := ["words"]) X G k_words_stairs (fun f fd F => ok_words_stairs b hS c_break_lines c_next_width c_mkS c_hull F) (fun f fd F => F.binds fun _ _ _ _ _ _ us hl => match us, hl with | [_], _ => rfl)
  have c_mkW : C8.Mak P w K mg base 2 "Words" Cw (spI K Cw RI_words) [] := by
    obtain ⟨g, fd0, ⟨f, cc, cda, fd, a, i, k, ⟨kV, doc, pm, an, ct, rfl⟩, su⟩, F0⟩ := kW.su
    have Su := su mg ms
    have b0 : Binds K fd0 ["self", "key"] [] := F0.binds fun _ _ _ _ _ _ us hl => match us, hl with | [_, _], _ => rfl
    exact ⟨f, _, ["self", "words"], [], ⟨kW.mkk, a, i, kW.kp⟩, ok_w_init b Su kW.tk c_check_words (ok_ct_init kW.tk F0) b0, hW, bindsX fun us hl => match us, hl with | [_, _], _ => rfl, .nil⟩
  have c_mkA : C8.Mak P w K mg base 2 "AnyText" Ca (spI K Ca RI_any) [] := by
    obtain ⟨g, fd0, ⟨f, cc, cda, fd, a, i, k, ⟨kV, doc, pm, an, ct, rfl⟩, su⟩, F0⟩ := kA.su
    have Su := su mg ms
    have b0 : Binds K fd0 ["self", "key"] [] := F0.binds fun _ _ _ _ _ _ us hl => match us, hl with | [_, _], _ => rfl
    exact ⟨f, _, ["self", "letters", "longest"], [], ⟨kA.mkk, a, i, kA.kp⟩, ok_a_init Su kA.tk Ta (ok_ct_init kA.tk F0) b0, hA, bindsX fun us hl => match us, hl with | [_, _, _], _ => rfl, .nil⟩
  have c_shW : C8.Met P w K mg base 6 Cw "shape" (spD K (R_shape Cw S ShW)) [] := met_of (ps := ["self"]) kW.tk.cl kW.m1 (fun f fd F => ok_w_shape kW.tk c_words_stairs F) (fun f fd F => F.binds fun _ _ _ _ _ _ us hl => match us, hl with | [_], _ => rfl)
  have c_chW : C8.Met P w K mg base 7 Cw "check_room" (spD K (R_check Cw ShW)) [] := met_of (ps := ["self", "width", "height"]) kW.tk.cl kW.m4 (fun f fd F => ok_check_room (fun gs st h => by obtain ⟨ws, rfl, _⟩ := h; exact no_shape_w ws) c_shW c_inS (by decide) F) (fun f fd F => F.binds fun _ _ _ _ _ _ us hl => match us, hl with | [_, _, _], _ => rfl)
  have c_drW : C8.Met P w K mg base 8 Cw "drawn" (spD K (R_w_drawn Cw)) [] := met_of (ps := ["self", "width", "height"]) kW.tk.cl kW.m2 (fun f fd F => ok_w_drawn kW.tk c_break_lines c_chW F) (fun f fd F => F.binds fun _ _ _ _ _ _ us hl => match us, hl with | [_, _, _], _ => rfl)
  have c_fits : C8.Cal P w K mg base 2 "fits_text" (spD K R_fits) [] := cal_of (ps := ["words", "letters", "longest"]) X G k_fits_text (fun f fd F => ok_fits b c_check_words F) (fun f fd F => F.binds fun _ _ _ _ _ _ us hl => match us, hl with | [_, _, _], _ => rfl)
  have c_inA : CtC P w K mg base 3 Ca (R_a_contains Ca) := ct_of (ps := ["self", "words"]) kA.m4 (fun f fd F => ok_a_contains kA.tk c_fits F) (fun f fd F => F.binds fun _ _ _ _ _ _ us hl => match us, hl with | [_, _], _ => rfl)
  have c_shA : C8.Met P w K mg base 6 Ca "shape" (spD K (R_shape Ca S ShA)) [] := met_of (ps := ["self"]) kA.tk.cl kA.m5 (fun f fd F => ok_a_shape kA.tk c_worst_stairs F) (fun f fd F => F.binds fun _ _ _ _ _ _ us hl => match us, hl with | [_], _ => rfl)
  have c_chA : C8.Met P w K mg base 7 Ca "check_room" (spD K (R_check Ca ShA)) [] := met_of (ps := ["self", "width", "height"]) kA.tk.cl kA.mc (fun f fd F => ok_check_room (fun gs st h => by obtain ⟨n, l, rfl, _⟩ := h; exact no_shape_a n l) c_shA c_inS (by decide) F) (fun f fd F => F.binds fun _ _ _ _ _ _ us hl => match us, hl with | [_, _, _], _ => rfl)
  have c_drA : C8.Met P w K mg base 8 Ca "drawn" (spD K (R_a_drawn Ca)) [] := met_of (ps := ["self", "width", "height"]) kA.tk.cl kA.m6 (fun f fd F => ok_a_drawn kA.tk c_break_lines c_chA c_worst_words F) (fun f fd F => F.binds fun _ _ _ _ _ _ us hl => match us, hl with | [_, _, _], _ => rfl)
  have tn : TnT P w K mg base T := by
    obtain ⟨f, cc, cda, fd, a, i, ⟨kV, doc, pm, an, ct, rfl⟩, su⟩ := kT.su
    exact ⟨kT.oex, ⟨f, _, a, i, ok_tn_init (su mg ms) kT.oex kT.hno, bindsX fun us hl => match us, hl with | [_, _], _ => rfl⟩, hT, kT.xf, kT.hno, kT.exm⟩
  have c_chX : MetX P w K mg base 7 Ca "check_room" (spX K (PreX Ca) T) := metX_of (ps := ["self", "width", "height"]) kA.tk.cl kA.mc (fun f fd F => ok_check_roomX tn c_shA c_inS F) (fun f fd F => F.binds fun _ _ _ _ _ _ us hl => match us, hl with | [_, _, _], _ => rfl)
  have c_drX : MetX P w K mg base 8 Ca "drawn" (spX K (PreX Ca) T) := metX_of (ps := ["self", "width", "height"]) kA.tk.cl kA.m6 (fun f fd F => ok_a_drawnX c_chX F) (fun f fd F => F.binds fun _ _ _ _ _ _ us hl => match us, hl with | [_, _, _], _ => rfl)
  have c_numbers : C8.Cal P w K mg base 1 "_law_numbers" (spE K Pre_numbers Po_numbers) [] := cal_of (ps := ["script", "count"]) X G k_law_numbers (fun f fd F => ok_numbers b F) (fun f fd F => F.binds fun _ _ _ _ _ _ us hl => match us, hl with | [_, _], _ => rfl)
  have c_same0 : C8.Cal P w K mg base 1 "_law_same" (spD K R_same0) [] := cal_of (ps := ["told", "due"]) X G k_law_same (fun f fd F => ok_same0 b F) (fun f fd F => F.binds fun _ _ _ _ _ _ us hl => match us, hl with | [_, _], _ => rfl)
  have c_same1 : C8.Cal P w K mg base 2 "_law_same" (spD K R_same1) [] := cal_of (ps := ["told", "due"]) X G k_law_same (fun f fd F => ok_same1 b c_same0 F) (fun f fd F => F.binds fun _ _ _ _ _ _ us hl => match us, hl with | [_, _], _ => rfl)
  have c_sameH : CalH P w K mg base 1 "_law_same" (spD K fun ds d => ds = [.int 0, .int 0] ∧ d = .bl true) := by
    obtain ⟨f, fd, a, F⟩ := k_law_same
    exact ⟨f, fd, ["told", "due"], ok_same0H b F, PySem.W.mg_of X G a, F.kp, F.binds fun _ _ _ _ _ _ us hl => match us, hl with | [_, _], _ => rfl⟩
  have c_due : C8.Cal P w K mg base 1 "_law_due" (spD K R_due) [] := cal_of (ps := ["letters", "longest", "width"]) X G k_law_due (fun f fd F => ok_due F) (fun f fd F => F.binds fun _ _ _ _ _ _ us hl => match us, hl with | [_, _, _], _ => rfl)
  have c_corners : C8.Cal P w K mg base 2 "_law_corners" (spD K R_corners) [] := cal_of (ps := ["letters", "longest"]) X G k_law_corners (fun f fd F => ok_corners b c_due F) (fun f fd F => F.binds fun _ _ _ _ _ _ us hl => match us, hl with | [_, _], _ => rfl)
  have c_is_stairs : C8.Cal P w K mg base 3 "_law_is_stairs" (spD K (R_is_stairs S)) [] := cal_of (ps := ["told", "due"]) X G k_law_is_stairs (fun f fd F => ok_is_stairs b Ts kS.ci hS kS.kit c_same1 F) (fun f fd F => F.binds fun _ _ _ _ _ _ us hl => match us, hl with | [_, _], _ => rfl)
  have c_most : C8.Cal P w K mg base 1 "_law_most" (spD K R_most) [] := cal_of (ps := ["letters", "longest", "width"]) X G k_law_most (fun f fd F => ok_most b F) (fun f fd F => F.binds fun _ _ _ _ _ _ us hl => match us, hl with | [_, _, _], _ => rfl)
  have c_holds : C8.Cal P w K mg base 2 "_law_holds" (spD K R_holds) [] := cal_of (ps := ["letters", "longest", "room"]) X G k_law_holds (fun f fd F => ok_holds b c_due F) (fun f fd F => F.binds fun _ _ _ _ _ _ us hl => match us, hl with | [_, _, _], _ => rfl)
  have c_greatest : C8.Cal P w K mg base 3 "_law_greatest" (spD K R_greatest) [] := cal_of (ps := ["longest", "room"]) X G k_law_greatest (fun f fd F => ok_greatest b c_holds F) (fun f fd F => F.binds fun _ _ _ _ _ _ us hl => match us, hl with | [_, _], _ => rfl)
  have c_broken : C8.Cal P w K mg base 1 "_law_broken" (spD K R_broken) [] := cal_of (ps := ["words", "width"]) X G k_law_broken (fun f fd F => ok_broken b F) (fun f fd F => F.binds fun _ _ _ _ _ _ us hl => match us, hl with | [_, _], _ => rfl)
  have c_word : C8.Cal P w K mg base 1 "_law_word" (spD K R_word) [] := cal_of (ps := ["number", "size"]) X G k_law_word (fun f fd F => ok_word b F) (fun f fd F => F.binds fun _ _ _ _ _ _ us hl => match us, hl with | [_, _], _ => rfl)
  have c_texts : C8.Cal P w K mg base 2 "_law_texts" (spE K Pre_texts Po_texts) [] := cal_of (ps := ["numbers", "letters", "longest"]) X G k_law_texts (fun f fd F => ok_texts b c_word F) (fun f fd F => F.binds fun _ _ _ _ _ _ us hl => match us, hl with | [_, _, _], _ => rfl)
  have c_rooms : C8.Cal P w K mg base 2 "_law_rooms" (spE K Pre_rooms Po_rooms) [] := cal_of (ps := ["numbers", "big", "letters", "longest", "due"]) X G k_law_rooms (fun f fd F => ok_rooms b c_due F) (fun f fd F => F.binds fun _ _ _ _ _ _ us hl => match us, hl with | [_, _, _, _, _], _ => rfl)
  have c_is_worst : C8.Cal P w K mg base 2 "_law_is_worst" (spD K R_is_worst) [] := cal_of (ps := ["lengths", "letters", "longest", "width"]) X G k_law_is_worst (fun f fd F => ok_is_worst b c_due c_broken F) (fun f fd F => F.binds fun _ _ _ _ _ _ us hl => match us, hl with | [_, _, _, _], _ => rfl)
  have c_kept : C8.Cal P w K mg base 9 "_law_kept_out" (spD K (R_kept Ca)) [] := cal_of (ps := ["content", "room"]) X G k_law_kept_out (fun f fd F => ok_kept tn c_sameH c_drX F) (fun f fd F => F.binds fun _ _ _ _ _ _ us hl => match us, hl with | [_, _], _ => rfl)
  have c76 : C76 P w K mg base S Cw Ca := ⟨b, c_holds, c_worst_lengths, c_is_worst, c_broken, c_same0, c_same1, c_kept, c_inS, c_inA, c_mkW, c_mkA, c_shW, c_shA, c_drW, c_drA⟩
  have c_room : C8.Cal P w K mg base 10 "_law_room" (spD K (R_room Ca S)) [] := cal_of (ps := ["content", "stairs", "texts", "known", "room"]) X G k_law_room (fun f fd F => ok_room c76 F) (fun f fd F => F.binds fun _ _ _ _ _ _ us hl => match us, hl with | [_, _, _, _, _], _ => rfl)
  exact ok_law ⟨c76, c_numbers, c_corners, c_worst_stairs, c_is_stairs, c_most, c_texts, c_rooms, c_room, c_letters_for, c_greatest, c_hgt⟩ Fl
end
end Dt
set_option maxHeartbeats 4000000
namespace Dt
open PySem PySem.Spec PyProof.Rows L2
theorem law_sp {K : PySem.W.Frag} {H : Hp} {a : Addr} {ns : List Int} (hl : ns.length ≤ 63) (h : SqL K H a (ns.map V.int)) : spD K R_law [.ref a] H (fun v _ => v = .bl true) fun _ _ _ => False :=
  ⟨[.lst (dInts ns)], .bl true, H, Same.refl _, .cons (.lst h (by simp) fun i x d hx hd => by
    rw [List.getElem?_map] at hx hd
    cases hn : ns[i]? with
    | none => rw [hn] at hx; cases hx
    | some y =>
      rw [hn] at hx hd
      cases hx
      cases hd
      exact .int y) .nil, ⟨ns, rfl, hl, rfl⟩, fun v _ _ _ r => r.inv_bl⟩
theorem walk76 {l : PySem.W.OpenLaw} {q : Program} {loose : List Str} {XP : (Str → Option Value) → Heap → Prop} {YP : World → Heap → Prop} {d : DefRec} {K : Params → PySem.W.Frag} (hn : l.most = some 63) (hdf : d.params.defaults = [])
    (hY : ∀ (w : World) (h : Heap), YP w h → (K w.params).In h)
    (F : ∀ (w : World) (mg : Str → Option Value) (fa : Addr) (h : Heap), (K w.params).In h → h.Ns mainGlobals mg → mg d.name = some (.ref fa) →
      ∃ fd : FuncData, (∀ (s : Shared) (u : Value), BindsTo s fd ⟨[u], []⟩ [("script", u)]) ∧ ∀ base : Heap, (K w.params).In base → base.Ns mainGlobals mg → FnOk l.prog w (K w.params) mg base CX0 11 fa fd ["script"] (spD (K w.params) R_law)) :
    PySem.W.WalkO q loose XP YP l.row.toRowW d [] (fun f vs => PySem.call f vs) :=
  L2.walk_of (n := 63) (k := 11) (x := "script") (CX := fun _ => CX0) (sp := fun w => spD (K w.params) R_law) hn (by decide) hdf ⟨rfl, by decide, by decide⟩ hY F (fun w H a ns hl _ hS => law_sp hl hS) fun _ _ _ _ _ z => z
end Dt
set_option maxHeartbeats 4000000
open PySem PySem.W PyProof.Rows
set_option maxHeartbeats 0 in
open_top hd76 for PySem.Challenge.rw_sheetsofcells_k76_open_stairs_hold_all
namespace Dt
open PySem PySem.Spec PyProof.Rows L2
noncomputable abbrev K76 (p : Params) : PySem.W.Frag := hd76.heap_39 p
noncomputable abbrev P76 : Program := PySem.Challenge.rw_sheetsofcells_k76_open_stairs_hold_all.prog

theorem kd_first_bad (p : Params) : KDef (K76 p) "first_bad" (top 8) := by
  refine' kdef_mk ?a ?l ?c ?k
  case a => (first | k_is | ks_is | rfl | decide +kernel)
  case l => (first | k_is | ks_is | rfl | decide +kernel)
  case c => (first | k_is | ks_is | rfl | decide +kernel)
  case k => (first | k_is | ks_is | rfl | decide +kernel)

theorem kd_hull_of (p : Params) : KDef (K76 p) "hull_of" (top 9) := by
  refine' kdef_mk ?a ?l ?c ?k
  case a => (first | k_is | ks_is | rfl | decide +kernel)
  case l => (first | k_is | ks_is | rfl | decide +kernel)
  case c => (first | k_is | ks_is | rfl | decide +kernel)
  case k => (first | k_is | ks_is | rfl | decide +kernel)

theorem kd_check_words (p : Params) : KDef (K76 p) "check_words" (top 15) := by
  refine' kdef_mk ?a ?l ?c ?k
  case a => (first | k_is | ks_is | rfl | decide +kernel)
  case l => (first | k_is | ks_is | rfl | decide +kernel)
  case c => (first | k_is | ks_is | rfl | decide +kernel)
  case k => (first | k_is | ks_is | rfl | decide +kernel)

theorem kd_break_lines (p : Params) : KDef (K76 p) "break_lines" (top 16) := by
  refine' kdef_mk ?a ?l ?c ?k
  case a => (first | k_is | ks_is | rfl | decide +kernel)
  case l => (first | k_is | ks_is | rfl | decide +kernel)
  case c => (first | k_is | ks_is | rfl | decide +kernel)
  case k => (first | k_is | ks_is | rfl | decide +kernel)

theorem kd_next_width (p : Params) : KDef (K76 p) "next_width" (top 17) := by
  refine' kdef_mk ?a ?l ?c ?k
  case a => (first | k_is | ks_is | rfl | decide +kernel)
  case l => (first | k_is | ks_is | rfl | decide +kernel)
  case c => (first | k_is | ks_is | rfl | decide +kernel)
  case k => (first | k_is | ks_is | rfl | decide +kernel)

theorem kd_words_stairs (p : Params) : KDef (K76 p) "words_stairs" (top 18) := by
  refine' kdef_mk ?a ?l ?c ?k
  case a => (first | k_is | ks_is | rfl | decide +kernel)
  case l => (first | k_is | ks_is | rfl | decide +kernel)
  case c => (first | k_is | ks_is | rfl | decide +kernel)
  case k => (first | k_is | ks_is | rfl | decide +kernel)

theorem kd_fits_text (p : Params) : KDef (K76 p) "fits_text" (top 23) := by
  refine' kdef_mk ?a ?l ?c ?k
  case a => (first | k_is | ks_is | rfl | decide +kernel)
  case l => (first | k_is | ks_is | rfl | decide +kernel)
  case c => (first | k_is | ks_is | rfl | decide +kernel)
  case k => (first | k_is | ks_is | rfl | decide +kernel)

theorem kd_lines_after (p : Params) : KDef (K76 p) "lines_after" (top 24) := by
  refine' kdef_mk ?a ?l ?c ?k
  case a => (first | k_is | ks_is | rfl | decide +kernel)
  case l => (first | k_is | ks_is | rfl | decide +kernel)
  case c => (first | k_is | ks_is | rfl | decide +kernel)
  case k => (first | k_is | ks_is | rfl | decide +kernel)

theorem kd_lines_with (p : Params) : KDef (K76 p) "lines_with" (top 25) := by
  refine' kdef_mk ?a ?l ?c ?k
  case a => (first | k_is | ks_is | rfl | decide +kernel)
  case l => (first | k_is | ks_is | rfl | decide +kernel)
  case c => (first | k_is | ks_is | rfl | decide +kernel)
  case k => (first | k_is | ks_is | rfl | decide +kernel)

theorem kd_worst_lines (p : Params) : KDef (K76 p) "worst_lines" (top 26) := by
  refine' kdef_mk ?a ?l ?c ?k
  case a => (first | k_is | ks_is | rfl | decide +kernel)
  case l => (first | k_is | ks_is | rfl | decide +kernel)
  case c => (first | k_is | ks_is | rfl | decide +kernel)
  case k => (first | k_is | ks_is | rfl | decide +kernel)

theorem kd_next_length (p : Params) : KDef (K76 p) "next_length" (top 27) := by
  refine' kdef_mk ?a ?l ?c ?k
  case a => (first | k_is | ks_is | rfl | decide +kernel)
  case l => (first | k_is | ks_is | rfl | decide +kernel)
  case c => (first | k_is | ks_is | rfl | decide +kernel)
  case k => (first | k_is | ks_is | rfl | decide +kernel)

theorem kd_worst_lengths (p : Params) : KDef (K76 p) "worst_lengths" (top 28) := by
  refine' kdef_mk ?a ?l ?c ?k
  case a => (first | k_is | ks_is | rfl | decide +kernel)
  case l => (first | k_is | ks_is | rfl | decide +kernel)
  case c => (first | k_is | ks_is | rfl | decide +kernel)
  case k => (first | k_is | ks_is | rfl | decide +kernel)

theorem kd_worst_words (p : Params) : KDef (K76 p) "worst_words" (top 29) := by
  refine' kdef_mk ?a ?l ?c ?k
  case a => (first | k_is | ks_is | rfl | decide +kernel)
  case l => (first | k_is | ks_is | rfl | decide +kernel)
  case c => (first | k_is | ks_is | rfl | decide +kernel)
  case k => (first | k_is | ks_is | rfl | decide +kernel)

theorem kd_worst_stairs (p : Params) : KDef (K76 p) "worst_stairs" (top 30) := by
  refine' kdef_mk ?a ?l ?c ?k
  case a => (first | k_is | ks_is | rfl | decide +kernel)
  case l => (first | k_is | ks_is | rfl | decide +kernel)
  case c => (first | k_is | ks_is | rfl | decide +kernel)
  case k => (first | k_is | ks_is | rfl | decide +kernel)

theorem kd_letters_for (p : Params) : KDef (K76 p) "letters_for" (top 31) := by
  refine' kdef_mk ?a ?l ?c ?k
  case a => (first | k_is | ks_is | rfl | decide +kernel)
  case l => (first | k_is | ks_is | rfl | decide +kernel)
  case c => (first | k_is | ks_is | rfl | decide +kernel)
  case k => (first | k_is | ks_is | rfl | decide +kernel)

theorem kd_law_numbers (p : Params) : KDef (K76 p) "_law_numbers" (top 34) := by
  refine' kdef_mk ?a ?l ?c ?k
  case a => (first | k_is | ks_is | rfl | decide +kernel)
  case l => (first | k_is | ks_is | rfl | decide +kernel)
  case c => (first | k_is | ks_is | rfl | decide +kernel)
  case k => (first | k_is | ks_is | rfl | decide +kernel)

theorem kd_law_same (p : Params) : KDef (K76 p) "_law_same" (top 35) := by
  refine' kdef_mk ?a ?l ?c ?k
  case a => (first | k_is | ks_is | rfl | decide +kernel)
  case l => (first | k_is | ks_is | rfl | decide +kernel)
  case c => (first | k_is | ks_is | rfl | decide +kernel)
  case k => (first | k_is | ks_is | rfl | decide +kernel)

theorem kd_law_due (p : Params) : KDef (K76 p) "_law_due" (top 36) := by
  refine' kdef_mk ?a ?l ?c ?k
  case a => (first | k_is | ks_is | rfl | decide +kernel)
  case l => (first | k_is | ks_is | rfl | decide +kernel)
  case c => (first | k_is | ks_is | rfl | decide +kernel)
  case k => (first | k_is | ks_is | rfl | decide +kernel)

theorem kd_law_corners (p : Params) : KDef (K76 p) "_law_corners" (top 37) := by
  refine' kdef_mk ?a ?l ?c ?k
  case a => (first | k_is | ks_is | rfl | decide +kernel)
  case l => (first | k_is | ks_is | rfl | decide +kernel)
  case c => (first | k_is | ks_is | rfl | decide +kernel)
  case k => (first | k_is | ks_is | rfl | decide +kernel)

theorem kd_law_is_stairs (p : Params) : KDef (K76 p) "_law_is_stairs" (top 38) := by
  refine' kdef_mk ?a ?l ?c ?k
  case a => (first | k_is | ks_is | rfl | decide +kernel)
  case l => (first | k_is | ks_is | rfl | decide +kernel)
  case c => (first | k_is | ks_is | rfl | decide +kernel)
  case k => (first | k_is | ks_is | rfl | decide +kernel)

theorem kd_law_most (p : Params) : KDef (K76 p) "_law_most" (top 39) := by
  refine' kdef_mk ?a ?l ?c ?k
  case a => (first | k_is | ks_is | rfl | decide +kernel)
  case l => (first | k_is | ks_is | rfl | decide +kernel)
  case c => (first | k_is | ks_is | rfl | decide +kernel)
  case k => (first | k_is | ks_is | rfl | decide +kernel)

theorem kd_law_holds (p : Params) : KDef (K76 p) "_law_holds" (top 40) := by
  refine' kdef_mk ?a ?l ?c ?k
  case a => (first | k_is | ks_is | rfl | decide +kernel)
  case l => (first | k_is | ks_is | rfl | decide +kernel)
  case c => (first | k_is | ks_is | rfl | decide +kernel)
  case k => (first | k_is | ks_is | rfl | decide +kernel)

theorem kd_law_greatest (p : Params) : KDef (K76 p) "_law_greatest" (top 41) := by
  refine' kdef_mk ?a ?l ?c ?k
  case a => (first | k_is | ks_is | rfl | decide +kernel)
  case l => (first | k_is | ks_is | rfl | decide +kernel)
  case c => (first | k_is | ks_is | rfl | decide +kernel)
  case k => (first | k_is | ks_is | rfl | decide +kernel)

theorem kd_law_broken (p : Params) : KDef (K76 p) "_law_broken" (top 42) := by
  refine' kdef_mk ?a ?l ?c ?k
  case a => (first | k_is | ks_is | rfl | decide +kernel)
  case l => (first | k_is | ks_is | rfl | decide +kernel)
  case c => (first | k_is | ks_is | rfl | decide +kernel)
  case k => (first | k_is | ks_is | rfl | decide +kernel)

theorem kd_law_word (p : Params) : KDef (K76 p) "_law_word" (top 43) := by
  refine' kdef_mk ?a ?l ?c ?k
  case a => (first | k_is | ks_is | rfl | decide +kernel)
  case l => (first | k_is | ks_is | rfl | decide +kernel)
  case c => (first | k_is | ks_is | rfl | decide +kernel)
  case k => (first | k_is | ks_is | rfl | decide +kernel)

theorem kd_law_texts (p : Params) : KDef (K76 p) "_law_texts" (top 44) := by
  refine' kdef_mk ?a ?l ?c ?k
  case a => (first | k_is | ks_is | rfl | decide +kernel)
  case l => (first | k_is | ks_is | rfl | decide +kernel)
  case c => (first | k_is | ks_is | rfl | decide +kernel)
  case k => (first | k_is | ks_is | rfl | decide +kernel)

theorem kd_law_rooms (p : Params) : KDef (K76 p) "_law_rooms" (top 45) := by
  refine' kdef_mk ?a ?l ?c ?k
  case a => (first | k_is | ks_is | rfl | decide +kernel)
  case l => (first | k_is | ks_is | rfl | decide +kernel)
  case c => (first | k_is | ks_is | rfl | decide +kernel)
  case k => (first | k_is | ks_is | rfl | decide +kernel)

theorem kd_law_is_worst (p : Params) : KDef (K76 p) "_law_is_worst" (top 46) := by
  refine' kdef_mk ?a ?l ?c ?k
  case a => (first | k_is | ks_is | rfl | decide +kernel)
  case l => (first | k_is | ks_is | rfl | decide +kernel)
  case c => (first | k_is | ks_is | rfl | decide +kernel)
  case k => (first | k_is | ks_is | rfl | decide +kernel)

theorem kd_law_kept_out (p : Params) : KDef (K76 p) "_law_kept_out" (top 47) := by
  refine' kdef_mk ?a ?l ?c ?k
  case a => (first | k_is | ks_is | rfl | decide +kernel)
  case l => (first | k_is | ks_is | rfl | decide +kernel)
  case c => (first | k_is | ks_is | rfl | decide +kernel)
  case k => (first | k_is | ks_is | rfl | decide +kernel)

theorem kd_law_room (p : Params) : KDef (K76 p) "_law_room" (top 48) := by
  refine' kdef_mk ?a ?l ?c ?k
  case a => (first | k_is | ks_is | rfl | decide +kernel)
  case l => (first | k_is | ks_is | rfl | decide +kernel)
  case c => (first | k_is | ks_is | rfl | decide +kernel)
  case k => (first | k_is | ks_is | rfl | decide +kernel)

theorem kd_law (p : Params) : KDef (K76 p) "law" (top 49) := by
  refine' kdef_mk ?a ?l ?c ?k
  case a => (first | k_is | ks_is | rfl | decide +kernel)
  case l => (first | k_is | ks_is | rfl | decide +kernel)
  case c => (first | k_is | ks_is | rfl | decide +kernel)
  case k => (first | k_is | ks_is | rfl | decide +kernel)

theorem kb_len (p : Params) : PySem.W.nsIn (K76 p) mainGlobals "len" = some none := by
  (first | k_is | ks_is | rfl | decide +kernel)

theorem kb_max (p : Params) : PySem.W.nsIn (K76 p) mainGlobals "max" = some none := by
  (first | k_is | ks_is | rfl | decide +kernel)

theorem kb_min (p : Params) : PySem.W.nsIn (K76 p) mainGlobals "min" = some none := by
  (first | k_is | ks_is | rfl | decide +kernel)

theorem kb_sum (p : Params) : PySem.W.nsIn (K76 p) mainGlobals "sum" = some none := by
  (first | k_is | ks_is | rfl | decide +kernel)

theorem kb_abs (p : Params) : PySem.W.nsIn (K76 p) mainGlobals "abs" = some none := by
  (first | k_is | ks_is | rfl | decide +kernel)

theorem kb_int (p : Params) : PySem.W.nsIn (K76 p) mainGlobals "int" = some none := by
  (first | k_is | ks_is | rfl | decide +kernel)

theorem kb_range (p : Params) : PySem.W.nsIn (K76 p) mainGlobals "range" = some none := by
  (first | k_is | ks_is | rfl | decide +kernel)

theorem kb_enumerate (p : Params) : PySem.W.nsIn (K76 p) mainGlobals "enumerate" = some none := by
  (first | k_is | ks_is | rfl | decide +kernel)

theorem kb_zip (p : Params) : PySem.W.nsIn (K76 p) mainGlobals "zip" = some none := by
  (first | k_is | ks_is | rfl | decide +kernel)

theorem kb_sorted (p : Params) : PySem.W.nsIn (K76 p) mainGlobals "sorted" = some none := by
  (first | k_is | ks_is | rfl | decide +kernel)

theorem kb_tuple (p : Params) : PySem.W.nsIn (K76 p) mainGlobals "tuple" = some none := by
  (first | k_is | ks_is | rfl | decide +kernel)

theorem kb_list (p : Params) : PySem.W.nsIn (K76 p) mainGlobals "list" = some none := by
  (first | k_is | ks_is | rfl | decide +kernel)

theorem kb_isinstance (p : Params) : PySem.W.nsIn (K76 p) mainGlobals "isinstance" = some none := by
  (first | k_is | ks_is | rfl | decide +kernel)

theorem kb_str (p : Params) : PySem.W.nsIn (K76 p) mainGlobals "str" = some none := by
  (first | k_is | ks_is | rfl | decide +kernel)

theorem kb_bool (p : Params) : PySem.W.nsIn (K76 p) mainGlobals "bool" = some none := by
  (first | k_is | ks_is | rfl | decide +kernel)

theorem kb_super (p : Params) : PySem.W.nsIn (K76 p) mainGlobals "super" = some none := by
  (first | k_is | ks_is | rfl | decide +kernel)

theorem kgl (p : Params) : KGl (K76 p) := by
  refine' ⟨⟨?t1, ?a⟩, ⟨?t2, ?b⟩, ⟨?t3, ?c⟩⟩
  case a => (first | k_is | ks_is | rfl | decide +kernel)
  case b => (first | k_is | ks_is | rfl | decide +kernel)
  case c => (first | k_is | ks_is | rfl | decide +kernel)

theorem kc_stairs (p : Params) : ∃ C, KStairs (K76 p) C := by
  refine' ⟨?C, ?at0, ⟨?cl1, ?cl2, ?cl3, ?cl4⟩, ?nc, ?mk, ?kp, kmet_mk ?x0a ?x0i ?x0l ?x0c ?x0k, ksta_mk ?hr ?hs ?ha ?hc ?hl ?hd ?hk, kmet_mk ?x2a ?x2i ?x2l ?x2c ?x2k, kmet_mk ?x3a ?x3i ?x3l ?x3c ?x3k, kmet_mk ?x9a ?x9i ?x9l ?x9c ?x9k, ⟨⟨?cj1, ?cj2, ?cj3, ?cj4⟩, ?j1, ?j2, ?j3, ?j4⟩, ?kit⟩
  case at0 => (first | k_is | ks_is | rfl | decide +kernel)
  case cl1 => (first | k_is | ks_is | rfl | decide +kernel)
  case cl2 => (first | k_is | ks_is | rfl | decide +kernel)
  case cl3 => (first | k_is | ks_is | rfl | decide +kernel)
  case cl4 => (first | k_is | ks_is | rfl | decide +kernel)
  case nc => (first | k_is | ks_is | rfl | decide +kernel)
  case mk => (first | k_is | ks_is | rfl | decide +kernel)
  case kp => (first | k_is | ks_is | rfl | decide +kernel)
  case x0a => (first | k_is | ks_is | rfl | decide +kernel)
  case x0i => (first | k_is | ks_is | rfl | decide +kernel)
  case x0l => (first | k_is | ks_is | rfl | decide +kernel)
  case x0c => (first | k_is | ks_is | rfl | decide +kernel)
  case x0k => (first | k_is | ks_is | rfl | decide +kernel)
  case hr => (first | k_is | ks_is | rfl | decide +kernel)
  case hs => (first | k_is | ks_is | rfl | decide +kernel)
  case ha => (first | k_is | ks_is | rfl | decide +kernel)
  case hc => (first | k_is | ks_is | rfl | decide +kernel)
  case hl => (first | k_is | ks_is | rfl | decide +kernel)
  case hd => (first | k_is | ks_is | rfl | decide +kernel)
  case hk => (first | k_is | ks_is | rfl | decide +kernel)
  case x2a => (first | k_is | ks_is | rfl | decide +kernel)
  case x2i => (first | k_is | ks_is | rfl | decide +kernel)
  case x2l => (first | k_is | ks_is | rfl | decide +kernel)
  case x2c => (first | k_is | ks_is | rfl | decide +kernel)
  case x2k => (first | k_is | ks_is | rfl | decide +kernel)
  case x3a => (first | k_is | ks_is | rfl | decide +kernel)
  case x3i => (first | k_is | ks_is | rfl | decide +kernel)
  case x3l => (first | k_is | ks_is | rfl | decide +kernel)
  case x3c => (first | k_is | ks_is | rfl | decide +kernel)
  case x3k => (first | k_is | ks_is | rfl | decide +kernel)
  case x9a => (first | k_is | ks_is | rfl | decide +kernel)
  case x9i => (first | k_is | ks_is | rfl | decide +kernel)
  case x9l => (first | k_is | ks_is | rfl | decide +kernel)
  case x9c => (first | k_is | ks_is | rfl | decide +kernel)
  case x9k => (first | k_is | ks_is | rfl | decide +kernel)
  case cj1 => (first | k_is | ks_is | rfl | decide +kernel)
  case cj2 => (first | k_is | ks_is | rfl | decide +kernel)
  case cj3 => (first | k_is | ks_is | rfl | decide +kernel)
  case cj4 => (first | k_is | ks_is | rfl | decide +kernel)
  case j1 => (first | k_is | ks_is | rfl | decide +kernel)
  case j2 => (first | k_is | ks_is | rfl | decide +kernel)
  case j3 => (first | k_is | ks_is | rfl | decide +kernel)
  case j4 => (first | k_is | ks_is | rfl | decide +kernel)
  case kit => (first | k_is | ks_is | rfl | decide +kernel)

theorem kc_words (p : Params) : ∃ C, KWords P76 (K76 p) C := by
  refine' ⟨?C, ?at0, ⟨⟨?tc1, ?tc2, ?tc3, ?tc4⟩, ?tk, ?tw, ?tl, ?tg⟩, ?mk, ?kp, ⟨?g, ?fd, ksup_mk ?sa ?si ?sk ?sl ?sc ?sce ?sco ?sv2 ?sfl ?sci ?ssub ?ssm ?sht ?sfg ?sho ?shks ?shkc ?shka ?shp ?shtop ?skind, fun_mk ?fl ?fc ?fk⟩, kmet_mk ?m1a ?m1i ?m1l ?m1c ?m1k, kmet_mk ?m2a ?m2i ?m2l ?m2c ?m2k, kmet_mk ?m4a ?m4i ?m4l ?m4c ?m4k⟩
  case at0 => (first | k_is | ks_is | rfl | decide +kernel)
  case tc1 => (first | k_is | ks_is | rfl | decide +kernel)
  case tc2 => (first | k_is | ks_is | rfl | decide +kernel)
  case tc3 => (first | k_is | ks_is | rfl | decide +kernel)
  case tc4 => (first | k_is | ks_is | rfl | decide +kernel)
  case tk => (first | k_is | ks_is | rfl | decide +kernel)
  case tw => (first | k_is | ks_is | rfl | decide +kernel)
  case tl => (first | k_is | ks_is | rfl | decide +kernel)
  case tg => (first | k_is | ks_is | rfl | decide +kernel)
  case mk => (first | k_is | ks_is | rfl | decide +kernel)
  case kp => (first | k_is | ks_is | rfl | decide +kernel)
  case sa => (first | k_is | ks_is | rfl | decide +kernel)
  case si => (first | k_is | ks_is | rfl | decide +kernel)
  case sk => (first | k_is | ks_is | rfl | decide +kernel)
  case sl => (first | k_is | ks_is | rfl | decide +kernel)
  case sc => (first | k_is | ks_is | rfl | decide +kernel)
  case sce => (first | k_is | ks_is | rfl | decide +kernel)
  case sco => (first | k_is | ks_is | rfl | decide +kernel)
  case sv2 => (first | k_is | ks_is | rfl | decide +kernel)
  case sfl => (first | k_is | ks_is | rfl | decide +kernel)
  case sci => (first | k_is | ks_is | rfl | decide +kernel)
  case ssub => (first | k_is | ks_is | rfl | decide +kernel)
  case ssm => (first | k_is | ks_is | rfl | decide +kernel)
  case sht => (first | k_is | ks_is | rfl | decide +kernel)
  case sfg => (first | k_is | ks_is | rfl | decide +kernel)
  case sho => (first | k_is | ks_is | rfl | decide +kernel)
  case shks => (first | k_is | ks_is | rfl | decide +kernel)
  case shkc => (first | k_is | ks_is | rfl | decide +kernel)
  case shka => (first | k_is | ks_is | rfl | decide +kernel)
  case shp => (first | k_is | ks_is | rfl | decide +kernel)
  case shtop => (first | k_is | ks_is | rfl | decide +kernel)
  case skind => (first | k_is | ks_is | rfl | decide +kernel)
  case fl => (first | k_is | ks_is | rfl | decide +kernel)
  case fc => (first | k_is | ks_is | rfl | decide +kernel)
  case fk => (first | k_is | ks_is | rfl | decide +kernel)
  case m1a => (first | k_is | ks_is | rfl | decide +kernel)
  case m1i => (first | k_is | ks_is | rfl | decide +kernel)
  case m1l => (first | k_is | ks_is | rfl | decide +kernel)
  case m1c => (first | k_is | ks_is | rfl | decide +kernel)
  case m1k => (first | k_is | ks_is | rfl | decide +kernel)
  case m2a => (first | k_is | ks_is | rfl | decide +kernel)
  case m2i => (first | k_is | ks_is | rfl | decide +kernel)
  case m2l => (first | k_is | ks_is | rfl | decide +kernel)
  case m2c => (first | k_is | ks_is | rfl | decide +kernel)
  case m2k => (first | k_is | ks_is | rfl | decide +kernel)
  case m4a => (first | k_is | ks_is | rfl | decide +kernel)
  case m4i => (first | k_is | ks_is | rfl | decide +kernel)
  case m4l => (first | k_is | ks_is | rfl | decide +kernel)
  case m4c => (first | k_is | ks_is | rfl | decide +kernel)
  case m4k => (first | k_is | ks_is | rfl | decide +kernel)

theorem kc_any (p : Params) : ∃ C, KAny P76 (K76 p) C := by
  refine' ⟨?C, ?at0, ⟨⟨?tc1, ?tc2, ?tc3, ?tc4⟩, ?tk, ?tw, ?tl, ?tg⟩, ?mk, ?kp, ⟨?g, ?fd, ksup_mk ?sa ?si ?sk ?sl ?sc ?sce ?sco ?sv2 ?sfl ?sci ?ssub ?ssm ?sht ?sfg ?sho ?shks ?shkc ?shka ?shp ?shtop ?skind, fun_mk ?fl ?fc ?fk⟩, kmet_mk ?m4a ?m4i ?m4l ?m4c ?m4k, kmet_mk ?m5a ?m5i ?m5l ?m5c ?m5k, kmet_mk ?m6a ?m6i ?m6l ?m6c ?m6k, kmet_mk ?mca ?mci ?mcl ?mcc ?mck, ⟨.type "type", ⟨?r1, ?r2⟩, ⟨?u1, ⟨?v1, ⟨?tk1, ?w1⟩⟩⟩, ⟨?u2, ⟨?v2, ⟨?tk2, ?w2⟩⟩⟩⟩⟩
  case at0 => (first | k_is | ks_is | rfl | decide +kernel)
  case tc1 => (first | k_is | ks_is | rfl | decide +kernel)
  case tc2 => (first | k_is | ks_is | rfl | decide +kernel)
  case tc3 => (first | k_is | ks_is | rfl | decide +kernel)
  case tc4 => (first | k_is | ks_is | rfl | decide +kernel)
  case tk => (first | k_is | ks_is | rfl | decide +kernel)
  case tw => (first | k_is | ks_is | rfl | decide +kernel)
  case tl => (first | k_is | ks_is | rfl | decide +kernel)
  case tg => (first | k_is | ks_is | rfl | decide +kernel)
  case mk => (first | k_is | ks_is | rfl | decide +kernel)
  case kp => (first | k_is | ks_is | rfl | decide +kernel)
  case sa => (first | k_is | ks_is | rfl | decide +kernel)
  case si => (first | k_is | ks_is | rfl | decide +kernel)
  case sk => (first | k_is | ks_is | rfl | decide +kernel)
  case sl => (first | k_is | ks_is | rfl | decide +kernel)
  case sc => (first | k_is | ks_is | rfl | decide +kernel)
  case sce => (first | k_is | ks_is | rfl | decide +kernel)
  case sco => (first | k_is | ks_is | rfl | decide +kernel)
  case sv2 => (first | k_is | ks_is | rfl | decide +kernel)
  case sfl => (first | k_is | ks_is | rfl | decide +kernel)
  case sci => (first | k_is | ks_is | rfl | decide +kernel)
  case ssub => (first | k_is | ks_is | rfl | decide +kernel)
  case ssm => (first | k_is | ks_is | rfl | decide +kernel)
  case sht => (first | k_is | ks_is | rfl | decide +kernel)
  case sfg => (first | k_is | ks_is | rfl | decide +kernel)
  case sho => (first | k_is | ks_is | rfl | decide +kernel)
  case shks => (first | k_is | ks_is | rfl | decide +kernel)
  case shkc => (first | k_is | ks_is | rfl | decide +kernel)
  case shka => (first | k_is | ks_is | rfl | decide +kernel)
  case shp => (first | k_is | ks_is | rfl | decide +kernel)
  case shtop => (first | k_is | ks_is | rfl | decide +kernel)
  case skind => (first | k_is | ks_is | rfl | decide +kernel)
  case fl => (first | k_is | ks_is | rfl | decide +kernel)
  case fc => (first | k_is | ks_is | rfl | decide +kernel)
  case fk => (first | k_is | ks_is | rfl | decide +kernel)
  case m4a => (first | k_is | ks_is | rfl | decide +kernel)
  case m4i => (first | k_is | ks_is | rfl | decide +kernel)
  case m4l => (first | k_is | ks_is | rfl | decide +kernel)
  case m4c => (first | k_is | ks_is | rfl | decide +kernel)
  case m4k => (first | k_is | ks_is | rfl | decide +kernel)
  case m5a => (first | k_is | ks_is | rfl | decide +kernel)
  case m5i => (first | k_is | ks_is | rfl | decide +kernel)
  case m5l => (first | k_is | ks_is | rfl | decide +kernel)
  case m5c => (first | k_is | ks_is | rfl | decide +kernel)
  case m5k => (first | k_is | ks_is | rfl | decide +kernel)
  case m6a => (first | k_is | ks_is | rfl | decide +kernel)
  case m6i => (first | k_is | ks_is | rfl | decide +kernel)
  case m6l => (first | k_is | ks_is | rfl | decide +kernel)
  case m6c => (first | k_is | ks_is | rfl | decide +kernel)
  case m6k => (first | k_is | ks_is | rfl | decide +kernel)
  case mca => (first | k_is | ks_is | rfl | decide +kernel)
  case mci => (first | k_is | ks_is | rfl | decide +kernel)
  case mcl => (first | k_is | ks_is | rfl | decide +kernel)
  case mcc => (first | k_is | ks_is | rfl | decide +kernel)
  case mck => (first | k_is | ks_is | rfl | decide +kernel)
  case r1 => (first | k_is | ks_is | rfl | decide +kernel)
  case r2 => (first | k_is | ks_is | rfl | decide +kernel)
  case v1 => (first | k_is | ks_is | rfl | decide +kernel)
  case w1 => (first | k_is | ks_is | rfl | decide +kernel)
  case v2 => (first | k_is | ks_is | rfl | decide +kernel)
  case w2 => (first | k_is | ks_is | rfl | decide +kernel)

theorem kc_too (p : Params) : ∃ C, KToo P76 (K76 p) C := by
  refine' ⟨?C, ?at0, oexc_mk ?o1 ?o2 ?o3 ?o4 ?o5 ?o6, ⟨?x1, ?x2, ?x3, ?x4⟩, ?hno, exm_self ?e1 ?e2 ?e3 ?e4, ksupx_mk ?sa ?si ?sl ?sc ?sce ?sco ?sv2 ?sfl ?sci ?ssub ?ssm ?shB ?sho ?shks ?shkc ?shka ?shp ?shtop ?skind⟩
  case at0 => (first | k_is | ks_is | rfl | decide +kernel)
  case o1 => (first | k_is | ks_is | rfl | decide +kernel)
  case o2 => (first | k_is | ks_is | rfl | decide +kernel)
  case o3 => (first | k_is | ks_is | rfl | decide +kernel)
  case o4 => (first | k_is | ks_is | rfl | decide +kernel)
  case o5 => (first | k_is | ks_is | rfl | decide +kernel)
  case o6 => (first | k_is | ks_is | rfl | decide +kernel)
  case x1 => (first | k_is | ks_is | rfl | decide +kernel)
  case x2 => (first | k_is | ks_is | rfl | decide +kernel)
  case x3 => (first | k_is | ks_is | rfl | decide +kernel)
  case x4 => (first | k_is | ks_is | rfl | decide +kernel)
  case hno => (first | k_is | ks_is | rfl | decide +kernel)
  case e1 => (first | k_is | ks_is | rfl | decide +kernel)
  case e2 => (first | k_is | ks_is | rfl | decide +kernel)
  case e3 => (first | k_is | ks_is | rfl | decide +kernel)
  case e4 => (first | k_is | ks_is | rfl | decide +kernel)
  case sa => (first | k_is | ks_is | rfl | decide +kernel)
  case si => (first | k_is | ks_is | rfl | decide +kernel)
  case sl => (first | k_is | ks_is | rfl | decide +kernel)
  case sc => (first | k_is | ks_is | rfl | decide +kernel)
  case sce => (first | k_is | ks_is | rfl | decide +kernel)
  case sco => (first | k_is | ks_is | rfl | decide +kernel)
  case sv2 => (first | k_is | ks_is | rfl | decide +kernel)
  case sfl => (first | k_is | ks_is | rfl | decide +kernel)
  case sci => (first | k_is | ks_is | rfl | decide +kernel)
  case ssub => (first | k_is | ks_is | rfl | decide +kernel)
  case ssm => (first | k_is | ks_is | rfl | decide +kernel)
  case shB => (first | k_is | ks_is | rfl | decide +kernel)
  case sho => (first | k_is | ks_is | rfl | decide +kernel)
  case shks => (first | k_is | ks_is | rfl | decide +kernel)
  case shkc => (first | k_is | ks_is | rfl | decide +kernel)
  case shka => (first | k_is | ks_is | rfl | decide +kernel)
  case shp => (first | k_is | ks_is | rfl | decide +kernel)
  case shtop => (first | k_is | ks_is | rfl | decide +kernel)
  case skind => (first | k_is | ks_is | rfl | decide +kernel)

end Dt
theorem PySem.Challenge.cw_sheetsofcells_k76_open_stairs_hold_all_holds : PySem.Challenge.rw_sheetsofcells_k76_open_stairs_hold_all.Holds :=
  hd76 (by
  refine Dt.walk76 (l := PySem.Challenge.rw_sheetsofcells_k76_open_stairs_hold_all) (K := hd76.heap_39) rfl rfl (fun w h Y => PySem.W.kIn_of Y) ?F
  case F =>
    intro w mg fa h KX G hmg
    obtain ⟨S, kS⟩ := Dt.kc_stairs w.params
    obtain ⟨Cw, kW⟩ := Dt.kc_words w.params
    obtain ⟨Ca, kA⟩ := Dt.kc_any w.params
    obtain ⟨T, kT⟩ := Dt.kc_too w.params
    have nb : ∀ {x : PySem.Str}, PySem.W.nsIn (hd76.heap_39 w.params) PySem.mainGlobals x = some none → mg x = none := fun {x} e => PySem.W.mg_none_of KX G e
    exact Dt.all76 KX G ⟨nb (Dt.kb_len w.params), nb (Dt.kb_max w.params), nb (Dt.kb_min w.params), nb (Dt.kb_sum w.params), nb (Dt.kb_abs w.params), nb (Dt.kb_int w.params), nb (Dt.kb_range w.params), nb (Dt.kb_enumerate w.params), nb (Dt.kb_zip w.params), nb (Dt.kb_sorted w.params), nb (Dt.kb_tuple w.params), nb (Dt.kb_list w.params), nb (Dt.kb_isinstance w.params), nb (Dt.kb_str w.params), nb (Dt.kb_bool w.params)⟩ (nb (Dt.kb_super w.params)) (Dt.kgl w.params) kS kW kA kT (Dt.kd_first_bad w.params) (Dt.kd_hull_of w.params) (Dt.kd_check_words w.params) (Dt.kd_break_lines w.params) (Dt.kd_next_width w.params) (Dt.kd_words_stairs w.params) (Dt.kd_fits_text w.params) (Dt.kd_lines_after w.params) (Dt.kd_lines_with w.params) (Dt.kd_worst_lines w.params) (Dt.kd_next_length w.params) (Dt.kd_worst_lengths w.params) (Dt.kd_worst_words w.params) (Dt.kd_worst_stairs w.params) (Dt.kd_letters_for w.params) (Dt.kd_law_numbers w.params) (Dt.kd_law_same w.params) (Dt.kd_law_due w.params) (Dt.kd_law_corners w.params) (Dt.kd_law_is_stairs w.params) (Dt.kd_law_most w.params) (Dt.kd_law_holds w.params) (Dt.kd_law_greatest w.params) (Dt.kd_law_broken w.params) (Dt.kd_law_word w.params) (Dt.kd_law_texts w.params) (Dt.kd_law_rooms w.params) (Dt.kd_law_is_worst w.params) (Dt.kd_law_kept_out w.params) (Dt.kd_law_room w.params) (Dt.kd_law w.params) hmg)
