import PyProof.Rows.All
import Wide.All
import OpenK.AllK
import Wide.FinOn
import HandS.ForMost
import HandS.Walk
import HandS.Exc
import HandS.Wide
import HandS.Deep
import HandS.TupAny
import HandS.TupLe
import HandS.Gcd
import HandS.Flow
import HandS.SortKw
import KE.DataMinMax
import KE.GoesMore
import KE.GoesEnum
import HandS.IsInst
import HandS.Style
import HandS.Conv
import HandS.WideBits
import HandS.Star
import PySem.Challenge.RW_unsureminds_k62_best_mixture_of_acts
set_option Elab.async false
set_option linter.all false
section
set_option maxRecDepth 100000
set_option maxHeartbeats 4000000
/-! The data layer: what a def computes, told without the heap. Values are data D; a list that the def itself made and still owns may be changed. -/
namespace DL
open PySem PySem.Spec PyProof.Rows L2

/-- data -/
inductive D where
  | non | bl (b : Bool) | int (i : Int) | str (x : Str) | tup (ds : List D) | lst (ds : List D) | scr (ns : List Int) | obj (c : Str) (fs : List (Str × D))
/-- what an expression gives: data, or a new list that nobody else holds -/
inductive Rs where
  | fz (d : D) | ow (ds : List D)
/-- an exception: its class's name, its fields -/
structure Exc where
  cls : Str
  fs : List (Str × D)
/-- nothing known; a value; an exception -/
inductive M (α : Type) where
  | bad | ok (a : α) | ex (x : Exc)
namespace M
def bind {α β : Type} (m : M α) (f : α → M β) : M β := match m with | .bad => .bad | .ok a => f a | .ex x => .ex x
instance : Monad M where
  pure := .ok
  bind := M.bind
theorem bind_ok {α β : Type} (a : α) (f : α → M β) : (M.ok a >>= f) = f a := rfl
theorem bind_bad {α β : Type} (f : α → M β) : ((M.bad : M α) >>= f) = .bad := rfl
theorem bind_ex {α β : Type} (x : Exc) (f : α → M β) : ((M.ex x : M α) >>= f) = .ex x := rfl
theorem pure_ok {α : Type} (a : α) : (pure a : M α) = .ok a := rfl
def ofO {α : Type} : Option α → M α | none => .bad | some a => .ok a
end M
def Rs.d : Rs → D | .fz d => d | .ow ds => .lst ds
def D.scal : D → Bool | .non => true | .bl _ => true | .int _ => true | .str _ => true | _ => false
def Rs.scal : Rs → Bool | .fz d => d.scal | .ow _ => false

/-- a slot: nothing known; data; a list of its own -/
inductive Sl where
  | un | fz (d : D) | ow (ds : List D)
abbrev Env := List Sl
def Rs.sl : Rs → Sl | .fz d => .fz d | .ow ds => .ow ds
def Sl.frz : Sl → Sl | .ow ds => .fz (.lst ds) | s => s
def fzAll : List Nat → Env → Env
  | [], env => env
  | i :: is, env => fzAll is (env.set i ((env.getD i .un).frz))

/-- the written part, and where the classes stand -/
structure GC where
  K : PySem.W.Frag
  cl : Str → Option Addr

mutual
inductive Rp (G : GC) (H : Hp) : V → D → Prop
  | non : Rp G H .non .non
  | bl (b : Bool) : Rp G H (.bl b) (.bl b)
  | int (i : Int) : Rp G H (.int i) (.int i)
  | str (x : Str) : Rp G H (.str x) (.str x)
  | lst {a : Addr} {xs : List V} {ds : List D} : H a = some (.lst xs) → RpAll G H xs ds → Rp G H (.ref a) (.lst ds)
  | scr {a : Addr} {ns : List Int} : SqL G.K H a (ns.map .int) → Rp G H (.ref a) (.scr ns)
  | tup {a : Addr} {xs : List V} {ds : List D} : SqT G.K H a xs → RpAll G H xs ds → Rp G H (.ref a) (.tup ds)
  | obj {a C dx : Addr} {c : Str} {fs : List (Str × V)} {ds : List (Str × D)} : G.cl c = some C → H a = some (.ins C dx fs) → RpFs G H fs ds → Rp G H (.ref a) (.obj c ds)
inductive RpAll (G : GC) (H : Hp) : List V → List D → Prop
  | nil : RpAll G H [] []
  | cons {v : V} {vs : List V} {d : D} {ds : List D} : Rp G H v d → RpAll G H vs ds → RpAll G H (v :: vs) (d :: ds)
inductive RpFs (G : GC) (H : Hp) : List (Str × V) → List (Str × D) → Prop
  | nil : RpFs G H [] []
  | cons {f : Str} {v : V} {fs : List (Str × V)} {d : D} {ds : List (Str × D)} : Rp G H v d → RpFs G H fs ds → RpFs G H ((f, v) :: fs) ((f, d) :: ds)
end

theorem same_rd {H H' : Hp} {a : Addr} {u : HO} (e : Same H H') (h : Rd H a u) : Rd H' a u := by
  rcases h with h | ⟨o, h⟩
  · exact .inl (e a _ h)
  · exact .inr ⟨o, e a _ h⟩
theorem same_t {K : PySem.W.Frag} {H H' : Hp} {a : Addr} {xs : List V} (e : Same H H') (h : SqT K H a xs) : SqT K H' a xs := by
  rcases h with h | h
  · exact .inl (same_rd e h)
  · exact .inr h

section
variable {G : GC} {H H' : Hp}
mutual
theorem Rp.mono (e : Same H H') : ∀ {v : V} {d : D}, Rp G H v d → Rp G H' v d
  | _, _, .non => .non
  | _, _, .bl b => .bl b
  | _, _, .int i => .int i
  | _, _, .str x => .str x
  | _, _, .lst h r => .lst (e _ _ h) (RpAll.mono e r)
  | _, _, .scr h => .scr (e.seq h)
  | _, _, .tup h r => .tup (same_t e h) (RpAll.mono e r)
  | _, _, .obj c h r => .obj c (e _ _ h) (RpFs.mono e r)
theorem RpAll.mono (e : Same H H') : ∀ {vs : List V} {ds : List D}, RpAll G H vs ds → RpAll G H' vs ds
  | _, _, .nil => .nil
  | _, _, .cons h r => .cons (Rp.mono e h) (RpAll.mono e r)
theorem RpFs.mono (e : Same H H') : ∀ {vs : List (Str × V)} {ds : List (Str × D)}, RpFs G H vs ds → RpFs G H' vs ds
  | _, _, .nil => .nil
  | _, _, .cons h r => .cons (Rp.mono e h) (RpFs.mono e r)
end
theorem RpAll.len {vs : List V} {ds : List D} (h : RpAll G H vs ds) : vs.length = ds.length := by
  induction ds generalizing vs with
  | nil => cases h; rfl
  | cons d ds ih =>
    cases h with
    | cons h r => simp [ih r]
theorem RpAll.get {vs : List V} {ds : List D} (h : RpAll G H vs ds) {i : Nat} {d : D} (e : ds[i]? = some d) : ∃ v, vs[i]? = some v ∧ Rp G H v d := by
  induction ds generalizing vs i with
  | nil => simp at e
  | cons d' ds ih =>
    cases h with
    | @cons v vs _ _ h r =>
      cases i with
      | zero =>
        simp at e
        subst e
        exact ⟨v, rfl, h⟩
      | succ i => simpa using ih r (i := i) (by simpa using e)
theorem RpAll.getV {vs : List V} {ds : List D} (h : RpAll G H vs ds) {i : Nat} {v : V} (e : vs[i]? = some v) : ∃ d, ds[i]? = some d ∧ Rp G H v d := by
  have hi : i < ds.length := by rw [← h.len]; exact (List.getElem?_eq_some_iff.mp e).1
  obtain ⟨v', e', r⟩ := h.get (List.getElem?_eq_getElem hi)
  rw [e] at e'
  cases e'
  exact ⟨_, List.getElem?_eq_getElem hi, r⟩
theorem RpAll.app {vs ws : List V} {ds es : List D} (h : RpAll G H vs ds) (g : RpAll G H ws es) : RpAll G H (vs ++ ws) (ds ++ es) := by
  induction ds generalizing vs with
  | nil => cases h; exact g
  | cons d ds ih =>
    cases h with
    | cons h r => exact .cons h (ih r)
theorem RpAll.set {vs : List V} {ds : List D} (h : RpAll G H vs ds) {v : V} {d : D} (hv : Rp G H v d) (i : Nat) : RpAll G H (vs.set i v) (ds.set i d) := by
  induction ds generalizing vs i with
  | nil => cases h; exact .nil
  | cons d' ds ih =>
    cases h with
    | cons h r =>
      cases i with
      | zero => exact .cons hv r
      | succ i => exact .cons h (ih r i)
theorem RpAll.take {vs : List V} {ds : List D} (h : RpAll G H vs ds) (n : Nat) : RpAll G H (vs.take n) (ds.take n) := by
  induction ds generalizing vs n with
  | nil => cases h; simp; exact .nil
  | cons d' ds ih =>
    cases h with
    | cons h r =>
      cases n with
      | zero => exact .nil
      | succ n => exact .cons h (ih r n)
theorem RpAll.drop {vs : List V} {ds : List D} (h : RpAll G H vs ds) (n : Nat) : RpAll G H (vs.drop n) (ds.drop n) := by
  induction ds generalizing vs n with
  | nil => cases h; simp; exact .nil
  | cons d' ds ih =>
    cases h with
    | cons h r =>
      cases n with
      | zero => exact .cons h r
      | succ n => exact ih r n
theorem RpAll.rev {vs : List V} {ds : List D} (h : RpAll G H vs ds) : RpAll G H vs.reverse ds.reverse := by
  induction ds generalizing vs with
  | nil => cases h; exact .nil
  | cons d' ds ih =>
    cases h with
    | cons h r =>
      rw [List.reverse_cons, List.reverse_cons]
      exact (ih r).app (.cons h .nil)
theorem RpFs.get {fs : List (Str × V)} {ds : List (Str × D)} (h : RpFs G H fs ds) {f : Str} {d : D} (e : ds.lookup f = some d) : ∃ v, fs.lookup f = some v ∧ Rp G H v d := by
  induction ds generalizing fs with
  | nil => simp at e
  | cons p ds ih =>
    cases h with
    | @cons g v fs d' _ h r =>
      rw [List.lookup_cons] at e ⊢
      split at e
      · cases e
        simp_all
      · simp_all
end

/-- H without the addresses X -/
noncomputable def cut (X : Addr → Prop) (H : Hp) : Hp := fun a => open Classical in if X a then none else H a
theorem cut_pos {X : Addr → Prop} {H : Hp} {a : Addr} (h : X a) : cut X H a = none := by unfold cut; rw [if_pos h]
theorem cut_neg {X : Addr → Prop} {H : Hp} {a : Addr} (h : ¬ X a) : cut X H a = H a := by unfold cut; rw [if_neg h]
theorem cut_le {X : Addr → Prop} {H : Hp} : Same (cut X H) H := fun a o h => by
  by_cases x : X a
  · rw [cut_pos x] at h; cases h
  · rwa [cut_neg x] at h
theorem cut_ex {X : Addr → Prop} {H H' : Hp} (e : Same H H') : Same (cut X H) (cut X H') := fun a o h => by
  by_cases x : X a
  · rw [cut_pos x] at h; cases h
  · rw [cut_neg x] at h ⊢; exact e a o h
theorem cut_sub {X Y : Addr → Prop} {H : Hp} (h : ∀ a, Y a → X a) : Same (cut X H) (cut Y H) := fun a o e => by
  by_cases x : X a
  · rw [cut_pos x] at e; cases e
  · rw [cut_neg x] at e; rwa [cut_neg fun y => x (h a y)]
/-- more is cut, but only what was not there -/
theorem cut_new {X Y : Addr → Prop} {H : Hp} (h : ∀ a, Y a → X a ∨ H a = none) : Same (cut X H) (cut Y H) := fun a o e => by
  by_cases x : X a
  · rw [cut_pos x] at e; cases e
  · rw [cut_neg x] at e
    rw [cut_neg fun y => (h a y).elim x fun n => by rw [n] at e; cases e]
    exact e
theorem same_new {H : Hp} {p : Addr} {o : HO} (h : H p = none) : Same H (upd H p o) := fun a u e => by
  rw [upd_ne (ne_of_none e h)]; exact e

def Own (env : Env) (σ : L2.St) (p : Addr) : Prop := ∃ (i : Nat) (ds : List D), env[i]? = some (Sl.ow ds) ∧ σ[i]? = some (some (V.ref p))
/-- what the data cannot see -/
def Z (hid : Addr → Prop) (env : Env) (σ : L2.St) (a : Addr) : Prop := hid a ∨ Own env σ a

structure Real (G : GC) (hid : Addr → Prop) (H0 : Hp) (env : Env) (σ : L2.St) (H : Hp) : Prop where
  len : env.length = σ.length
  fz : ∀ (i : Nat) d, env[i]? = some (.fz d) → ∃ v, σ[i]? = some (some v) ∧ Rp G (cut (Z hid env σ) H) v d
  ow : ∀ (i : Nat) ds, env[i]? = some (.ow ds) → ∃ p vs, σ[i]? = some (some (.ref p)) ∧ H p = some (.lst vs) ∧ RpAll G (cut (Z hid env σ) H) vs ds
  inj : ∀ (i j : Nat) ds es p, env[i]? = some (.ow ds) → env[j]? = some (.ow es) → σ[i]? = some (some (.ref p)) → σ[j]? = some (some (.ref p)) → i = j
  base : Same H0 H
  fresh : ∀ p, Own env σ p → H0 p = none ∧ ¬ hid p
  hidb : ∀ a, hid a → H a ≠ none

section
variable {G : GC} {hid : Addr → Prop} {H0 H H' : Hp} {env : Env} {σ : L2.St}
theorem Real.mono (R : Real G hid H0 env σ H) (e : Same H H') : Real G hid H0 env σ H' :=
  ⟨R.len, fun i d h => let ⟨v, a, b⟩ := R.fz i d h; ⟨v, a, b.mono (cut_ex e)⟩, fun i ds h => let ⟨p, vs, a, b, c⟩ := R.ow i ds h; ⟨p, vs, a, e _ _ b, c.mono (cut_ex e)⟩,
    R.inj, R.base.trans e, R.fresh, fun a h n => by
      cases q : H a with
      | none => exact R.hidb a h q
      | some o => rw [e a o q] at n; cases n⟩
theorem Real.owned (R : Real G hid H0 env σ H) {p : Addr} (h : Own env σ p) : ∃ vs, H p = some (.lst vs) := by
  obtain ⟨i, ds, a, b⟩ := h
  obtain ⟨q, vs, c, d, _⟩ := R.ow i ds a
  rw [b] at c
  cases c
  exact ⟨vs, d⟩
theorem Real.zthere (R : Real G hid H0 env σ H) {a : Addr} (h : Z hid env σ a) : H a ≠ none := by
  rcases h with h | h
  · exact R.hidb a h
  · obtain ⟨vs, e⟩ := R.owned h
    rw [e]
    simp
theorem Real.free (R : Real G hid H0 env σ H) {a : Addr} (h : H a = none) : ¬ Z hid env σ a := fun z => R.zthere z h
end
theorem getD_set {α : Type} {l : List α} {i j : Nat} {a b : α} : (l.set i a).getD j b = if i = j ∧ i < l.length then a else l.getD j b := by
  simp only [List.getD_eq_getElem?_getD, List.getElem?_set]
  by_cases h : i = j
  · subst h
    by_cases h2 : i < l.length
    · simp [h2]
    · simp [h2]
  · simp [h]
theorem frz_not_ow (s : Sl) : ∀ ds, s.frz ≠ .ow ds := by cases s <;> simp [Sl.frz]
theorem fzAll_len : ∀ (A : List Nat) (env : Env), (fzAll A env).length = env.length
  | [], _ => rfl
  | i :: is, env => by rw [fzAll, fzAll_len is, List.length_set]
/-- a frozen slot: as it was, or frozen -/
theorem fzAll_get : ∀ (A : List Nat) (env : Env) (i : Nat), (fzAll A env)[i]? = env[i]? ∨ ∃ ds, env[i]? = some (.ow ds) ∧ (fzAll A env)[i]? = some (.fz (.lst ds))
  | [], _, _ => .inl rfl
  | j :: is, env, i => by
    rw [fzAll]
    have h := fzAll_get is (env.set j ((env.getD j .un).frz)) i
    by_cases e : j = i
    · subst e
      by_cases hl : j < env.length
      · have e1 : (env.set j ((env.getD j .un).frz))[j]? = some ((env.getD j .un).frz) := by simp [hl]
        have e2 : env.getD j .un = env[j] := by simp [List.getD, hl]
        rw [e1, e2] at h
        rw [e2]
        rcases h with h | ⟨ds, h, _⟩
        · cases q : env[j] with
          | un =>
            rw [q] at h
            left
            rw [h, List.getElem?_eq_getElem hl, q]
            rfl
          | fz d =>
            rw [q] at h
            left
            rw [h, List.getElem?_eq_getElem hl, q]
            rfl
          | ow ds =>
            rw [q] at h
            right
            exact ⟨ds, by rw [List.getElem?_eq_getElem hl, q], by rw [h]; rfl⟩
        · exact absurd (Option.some.inj h) (frz_not_ow _ _)
      · have : env.set j ((env.getD j .un).frz) = env := List.set_eq_of_length_le (by omega)
        rw [this] at h ⊢
        exact h
    · have e1 : (env.set j ((env.getD j .un).frz))[i]? = env[i]? := by rw [List.getElem?_set_ne e]
      rw [e1] at h
      exact h
theorem own_fz {A : List Nat} {env : Env} {σ : L2.St} {p : Addr} (h : Own (fzAll A env) σ p) : Own env σ p := by
  obtain ⟨i, ds, a, b⟩ := h
  rcases fzAll_get A env i with e | ⟨es, _, e⟩
  · exact ⟨i, ds, by rw [← e]; exact a, b⟩
  · rw [e] at a
    cases a
theorem z_fz {hid : Addr → Prop} {A : List Nat} {env : Env} {σ : L2.St} {p : Addr} (h : Z hid (fzAll A env) σ p) : Z hid env σ p := h.imp id own_fz
theorem Real.frz {G : GC} {hid : Addr → Prop} {H0 H : Hp} {env : Env} {σ : L2.St} (R : Real G hid H0 env σ H) (A : List Nat) : Real G hid H0 (fzAll A env) σ H := by
  have sub : Same (cut (Z hid env σ) H) (cut (Z hid (fzAll A env) σ) H) := cut_sub fun a => z_fz
  refine ⟨by rw [fzAll_len]; exact R.len, fun i d h => ?_, fun i ds h => ?_, fun i j ds es p a b => ?_, R.base, fun p h => R.fresh p (own_fz h), R.hidb⟩
  · rcases fzAll_get A env i with e | ⟨es, e0, e⟩
    · obtain ⟨v, a, b⟩ := R.fz i d (by rw [← e]; exact h)
      exact ⟨v, a, b.mono sub⟩
    · rw [e] at h
      cases h
      obtain ⟨p, vs, a, b, c⟩ := R.ow i es e0
      refine ⟨.ref p, a, .lst ?_ (c.mono sub)⟩
      rw [cut_neg, b]
      rintro (z | ⟨j, fs, z1, z2⟩)
      · exact (R.fresh p ⟨i, es, e0, a⟩).2 z
      · rcases fzAll_get A env j with q | ⟨ks, q0, q⟩
        · have := R.inj i j es fs p e0 (by rw [← q]; exact z1) a z2
          subst this
          rw [e] at z1
          cases z1
        · rw [q] at z1
          cases z1
  · rcases fzAll_get A env i with e | ⟨es, _, e⟩
    · obtain ⟨p, vs, a, b, c⟩ := R.ow i ds (by rw [← e]; exact h)
      exact ⟨p, vs, a, b, c.mono sub⟩
    · rw [e] at h
      cases h
  · rcases fzAll_get A env i with e | ⟨_, _, e⟩
    · rcases fzAll_get A env j with e' | ⟨_, _, e'⟩
      · exact R.inj i j ds es p (by rw [← e]; exact a) (by rw [← e']; exact b)
      · rw [e'] at b
        cases b
    · rw [e] at a
      cases a
end DL
end

section
set_option maxRecDepth 100000
set_option maxHeartbeats 4000000
namespace DL
open PySem PySem.Spec PyProof.Rows L2

theorem fzAll_app : ∀ (A B : List Nat) (env : Env), fzAll (A ++ B) env = fzAll B (fzAll A env)
  | [], _, _ => rfl
  | i :: A, B, env => by
    show fzAll (A ++ B) _ = _
    rw [fzAll_app A B]
    rfl
theorem set_frz_ow {env : Env} {j i : Nat} {ds : List D} : (env.set j ((env.getD j .un).frz))[i]? = some (.ow ds) ↔ env[i]? = some (.ow ds) ∧ i ≠ j := by
  by_cases e : j = i
  · subst e
    simp only [ne_eq, not_true_eq_false, and_false, iff_false]
    by_cases hl : j < env.length
    · rw [List.getElem?_set_self hl]
      intro h
      exact frz_not_ow _ _ (Option.some.inj h)
    · rw [List.set_eq_of_length_le (by omega), List.getElem?_eq_none (by omega)]
      simp
  · rw [List.getElem?_set_ne e]
    simp [Ne.symm e]
theorem fz_ow_iff : ∀ {A : List Nat} {env : Env} {i : Nat} {ds : List D}, (fzAll A env)[i]? = some (.ow ds) ↔ env[i]? = some (.ow ds) ∧ i ∉ A
  | [], _, _, _ => by simp [fzAll]
  | j :: A, env, i, ds => by
    rw [fzAll, fz_ow_iff, set_frz_ow]
    simp [and_assoc]
theorem own_mono {A B : List Nat} {env : Env} {σ : L2.St} {p : Addr} (h : ∀ i, i ∈ A → i ∈ B) : Own (fzAll B env) σ p → Own (fzAll A env) σ p := fun ⟨i, ds, a, b⟩ => by
  rw [fz_ow_iff] at a
  exact ⟨i, ds, fz_ow_iff.mpr ⟨a.1, fun z => a.2 (h i z)⟩, b⟩
theorem z_mono {hid : Addr → Prop} {A B : List Nat} {env : Env} {σ : L2.St} {p : Addr} (h : ∀ i, i ∈ A → i ∈ B) : Z hid (fzAll B env) σ p → Z hid (fzAll A env) σ p := fun z => z.imp id (own_mono h)

/-- what may be seen once the slots A are frozen -/
noncomputable abbrev See (hid : Addr → Prop) (A : List Nat) (env : Env) (σ : L2.St) (H : Hp) : Hp := cut (Z hid (fzAll A env) σ) H
theorem see_mono {hid : Addr → Prop} {A B : List Nat} {env : Env} {σ : L2.St} {H H' : Hp} (h : ∀ i, i ∈ A → i ∈ B) (e : Same H H') : Same (See hid A env σ H) (See hid B env σ H') :=
  (cut_ex e).trans (cut_sub fun _ => z_mono h)

def Res (G : GC) (hid : Addr → Prop) (A : List Nat) (env : Env) (σ : L2.St) (H H' : Hp) (v : V) : Rs → Prop
  | .fz d => Rp G (See hid A env σ H') v d
  | .ow ds => ∃ p vs, v = .ref p ∧ H p = none ∧ H' p = some (.lst vs) ∧ RpAll G (cut (fun a => Z hid (fzAll A env) σ a ∨ a = p) H') vs ds
def ExR (G : GC) (S H : Hp) (x : Exc) (c : Value) (d : Option Addr) : Prop := ∃ C dx fs, G.cl x.cls = some C ∧ c = .ref C ∧ d = some dx ∧ H dx = some (.xd fs) ∧ RpFs G S fs x.fs

def Post (G : GC) (W : WX) (hid : Addr → Prop) (A : List Nat) (env : Env) (σ : L2.St) (H : Hp) (Q : VK) : M Rs → Prop
  | .bad => False
  | .ok r => ∀ v H', Same H H' → Res G hid A env σ H H' v r → Q v H'
  | .ex x => ∀ c d H', Same H H' → ExR G (See hid A env σ H') H' x c d → W c d σ H'
def PostA (G : GC) (W : WX) (hid : Addr → Prop) (A : List Nat) (env : Env) (σ : L2.St) (H : Hp) (Q : List V → Hp → Prop) : M (List D) → Prop
  | .bad => False
  | .ok r => ∀ v H', Same H H' → RpAll G (See hid A env σ H') v r → Q v H'
  | .ex x => ∀ c d H', Same H H' → ExR G (See hid A env σ H') H' x c d → W c d σ H'
def PostT (G : GC) (W : WX) (hid : Addr → Prop) (A : List Nat) (env : Env) (σ : L2.St) (H : Hp) (Q : Bool → Hp → Prop) : M Bool → Prop
  | .bad => False
  | .ok b => ∀ H', Same H H' → Q b H'
  | .ex x => ∀ c d H', Same H H' → ExR G (See hid A env σ H') H' x c d → W c d σ H'
def tDE (G : GC) (W : WX) (A : List Nat) (f : Env → M Rs) : TE := fun σ H Q => ∃ hid H0 env, Real G hid H0 env σ H ∧ Post G W hid A env σ H Q (f env)
def tDA (G : GC) (W : WX) (A : List Nat) (f : Env → M (List D)) : TA := fun σ H Q => ∃ hid H0 env, Real G hid H0 env σ H ∧ PostA G W hid A env σ H Q (f env)
def tDT (G : GC) (W : WX) (A : List Nat) (f : Env → M Bool) : TT := fun σ H Q => ∃ hid H0 env, Real G hid H0 env σ H ∧ PostT G W hid A env σ H Q (f env)

structure DE (G : GC) (W : WX) (X : Cx) (e : Expr) (A : List Nat) (f : Env → M Rs) : Prop where
  pe : PE X e (tDE G W A f)
  k : G.K = X.K
structure DA (G : GC) (W : WX) (X : Cx) (es : List Expr) (A : List Nat) (f : Env → M (List D)) : Prop where
  pa : PA X es (tDA G W A f)
  k : G.K = X.K
structure DT (G : GC) (W : WX) (X : Cx) (e : Expr) (A : List Nat) (f : Env → M Bool) : Prop where
  pt : PT X e (tDT G W A f)
  k : G.K = X.K
theorem weakE {X : Cx} {e : Expr} {t u : TE} (h : PE X e t) (w : ∀ σ H Q, u σ H Q → t σ H Q) : PE X e u := ⟨fun pins s σ H Q I q => h.run pins s σ H Q I (w σ H Q q)⟩
theorem weakT {X : Cx} {e : Expr} {t u : TT} (h : PT X e t) (w : ∀ σ H Q, u σ H Q → t σ H Q) : PT X e u := ⟨fun pins s σ H Q I q => h.run pins s σ H Q I (w σ H Q q)⟩
theorem weakW {X : Cx} {e : Expr} {t u : TT} (h : PW X e t) (w : ∀ σ H Q, u σ H Q → t σ H Q) : PW X e u := ⟨fun wh pins s σ H Q I q => h.run wh pins s σ H Q I (w σ H Q q)⟩
theorem weakA {X : Cx} {e : List Expr} {t u : TA} (h : PA X e t) (w : ∀ σ H Q, u σ H Q → t σ H Q) : PA X e u := ⟨fun p pins s σ H Q I q => h.run p pins s σ H Q I (w σ H Q q)⟩

/-- a frozen result -/
theorem Res.rp {G : GC} {hid : Addr → Prop} {A : List Nat} {env : Env} {σ : L2.St} {H H' : Hp} {v : V} {r : Rs} {H0 : Hp} (R : Real G hid H0 env σ H) (h : Res G hid A env σ H H' v r) : Rp G (See hid A env σ H') v r.d := by
  cases r with
  | fz d => exact h
  | ow ds =>
    obtain ⟨p, vs, rfl, h1, h2, h3⟩ := h
    refine .lst ?_ (h3.mono (cut_sub fun a z => .inl z))
    exact Eq.trans (cut_neg fun z => R.free h1 (z_fz z)) h2

section
variable {G : GC} {W : WX} {X : Cx} {pos : Pos}
/-! ### names, constants -/
def eVar (i : Nat) : Env → M Rs := fun env => match env.getD i .un with | .un => .bad | .fz d => .ok (.fz d) | .ow ds => .ok (.fz (.lst ds))
def eC (d : D) : Env → M Rs := fun _ => .ok (.fz d)
theorem Real.var {hid : Addr → Prop} {H0 H : Hp} {env : Env} {σ : L2.St} (R : Real G hid H0 env σ H) {i : Nat} {r : Rs} (h : eVar i env = .ok r) : ∃ v d, r = .fz d ∧ σ[i]? = some (some v) ∧ Rp G (See hid [i] env σ H) v d := by
  unfold eVar at h
  cases q : env.getD i .un with
  | un => rw [q] at h; cases h
  | fz d =>
    rw [q] at h
    cases h
    have hi : env[i]? = some (.fz d) := by
      rw [List.getD_eq_getElem?_getD] at q
      cases e : env[i]? with
      | none => rw [e] at q; cases q
      | some x => rw [e] at q; cases q; rfl
    obtain ⟨v, a, b⟩ := R.fz i d hi
    exact ⟨v, d, rfl, a, b.mono (cut_sub fun _ => z_fz)⟩
  | ow ds =>
    rw [q] at h
    cases h
    have hi : env[i]? = some (.ow ds) := by
      rw [List.getD_eq_getElem?_getD] at q
      cases e : env[i]? with
      | none => rw [e] at q; cases q
      | some x => rw [e] at q; cases q; rfl
    have R' := R.frz [i]
    have e' : (fzAll [i] env)[i]? = some (.fz (.lst ds)) := by
      rcases fzAll_get [i] env i with e | ⟨es, e0, e⟩
      · rw [hi] at e
        have := (fz_ow_iff.mp e).2
        simp at this
      · rw [hi] at e0
        cases e0
        exact e
    obtain ⟨v, a, b⟩ := R'.fz i _ e'
    exact ⟨v, _, rfl, a, b⟩
theorem eVar_noex {i : Nat} {env : Env} {x : Exc} : eVar i env ≠ .ex x := by
  unfold eVar
  split <;> simp
theorem d_var (i : Nat) {x : Str} (k : G.K = X.K := by rfl) (hN : X.N[i]? = some x := by rfl) (hv : Vis X.env.scope x := by first | exact Or.inl rfl | exact Or.inr (Or.inl rfl) | exact Or.inr (Or.inr rfl)) (hd : (x == ("__debug__" : Str)) = false := by decide)
    (hcd : (x == ("__classdict__" : Str)) = false := by decide) : DE G W X (.Name x pos) [i] (eVar i) := ⟨weakE (pe_var hN hv hd hcd) fun σ H Q h => by
  obtain ⟨hid, H0, env, R, h⟩ := h
  cases e : eVar i env with
  | bad => rw [e] at h; exact h.elim
  | ex x => exact absurd e eVar_noex
  | ok r =>
    rw [e] at h
    obtain ⟨v, d, rfl, a, b⟩ := R.var e
    exact ⟨v, a, h v H (Same.refl H) b⟩, k⟩
theorem d_c {e : Expr} {v : V} {d : D} (h : PE X e (tC v)) (r : ∀ H, Rp G H v d) (k : G.K = X.K := by rfl) : DE G W X e [] (eC d) := ⟨weakE h fun σ H Q h => by
  obtain ⟨hid, H0, env, R, h⟩ := h
  exact h v H (Same.refl H) (r _), k⟩
theorem d_int {i : Int} {j : Nat} (k : G.K = X.K := by rfl) : DE G W X (.Constant (.int i) j pos) [] (eC (.int i)) := d_c pe_int (fun _ => .int i) k
theorem d_bl {b : Bool} {j : Nat} (k : G.K = X.K := by rfl) : DE G W X (.Constant (.bool b) j pos) [] (eC (.bl b)) := d_c pe_bl (fun _ => .bl b) k
theorem d_non {j : Nat} (k : G.K = X.K := by rfl) : DE G W X (.Constant .none j pos) [] (eC .non) := d_c pe_non (fun _ => .non) k
theorem d_str {x : Str} {j : Nat} (k : G.K = X.K := by rfl) : DE G W X (.Constant (.str x) j pos) [] (eC (.str x)) := d_c pe_str (fun _ => .str x) k

/-! ### operators on values -/
/-- what an operation gives, from the data S that is seen and the heap H -/
def NewR (G : GC) (S H : Hp) (v : V) (H' : Hp) : Rs → Prop
  | .fz d => Same H H' ∧ ∃ S', Same S S' ∧ Same S' H' ∧ (∀ a, H a ≠ none → S a = none → S' a = none) ∧ Rp G S' v d
  | .ow ds => Same H H' ∧ ∃ p vs, v = .ref p ∧ H p = none ∧ H' p = some (.lst vs) ∧ ∃ S', Same S S' ∧ Same S' H' ∧ (∀ a, H a ≠ none → S a = none → S' a = none) ∧ S' p = none ∧ RpAll G S' vs ds
theorem NewR.same {S H H' : Hp} {v : V} {r : Rs} (h : NewR G S H v H' r) : Same H H' := by
  cases r with
  | fz d => exact h.1
  | ow ds => exact h.1
theorem NewR.val {S H : Hp} {v : V} {d : D} (hS : Same S H) (h : Rp G S v d) : NewR G S H v H (.fz d) := ⟨Same.refl H, S, Same.refl S, hS, fun _ _ z => z, h⟩
theorem NewR.lst {S H : Hp} {vs : List V} {ds : List D} {p : Addr} (hS : Same S H) (hp : H p = none) (h : RpAll G S vs ds) : NewR G S H (.ref p) (upd H p (.lst vs)) (.ow ds) :=
  ⟨same_new hp, p, vs, rfl, hp, upd_same, S, Same.refl S, hS.trans (same_new hp), fun _ _ z => z, hS.free hp, h⟩
theorem NewR.tup {S H : Hp} {vs : List V} {ds : List D} {p : Addr} (hS : Same S H) (hp : H p = none) (h : RpAll G S vs ds) : NewR G S H (.ref p) (upd H p (.tup vs)) (.fz (.tup ds)) := by
  have e1 : Same S (upd S p (.tup vs)) := same_new (hS.free hp)
  refine ⟨same_new hp, upd S p (.tup vs), e1, fun a o z => ?_, fun a z1 z2 => ?_, .tup (.inl (.inl upd_same)) (h.mono e1)⟩
  · by_cases e : a = p
    · subst e
      rw [upd_same] at z ⊢
      exact z
    · rw [upd_ne e] at z ⊢
      exact hS a o z
  · by_cases e : a = p
    · subst e; exact absurd hp z1
    · rw [upd_ne e]; exact z2
theorem grow_cut {Y : Addr → Prop} {H H' S' : Hp} (hY : ∀ a, Y a → H a ≠ none) (h1 : Same S' H') (h2 : ∀ a, H a ≠ none → cut Y H a = none → S' a = none) : Same S' (cut Y H') := fun a o e => by
  by_cases y : Y a
  · rw [h2 a (hY a y) (cut_pos y)] at e
    cases e
  · rw [cut_neg y]
    exact h1 a o e
theorem NewR.res {hid : Addr → Prop} {A : List Nat} {H0 H H' : Hp} {env : Env} {σ : L2.St} {v : V} {r : Rs} (R : Real G hid H0 env σ H) (h : NewR G (See hid A env σ H) H v H' r) : Res G hid A env σ H H' v r := by
  have hz : ∀ a, Z hid (fzAll A env) σ a → H a ≠ none := fun a z => R.zthere (z_fz z)
  cases r with
  | fz d =>
    obtain ⟨_, S', h1, h2, h3, h4⟩ := h
    exact h4.mono (grow_cut hz h2 h3)
  | ow ds =>
    obtain ⟨_, p, vs, rfl, hp, hq, S', h1, h2, h3, h5, h4⟩ := h
    refine ⟨p, vs, rfl, hp, hq, h4.mono fun a o e => ?_⟩
    have e' := grow_cut hz h2 h3 a o e
    by_cases y : Z hid (fzAll A env) σ a
    · rw [cut_pos y] at e'; cases e'
    · rw [cut_neg y] at e'
      rw [cut_neg]
      · exact e'
      · rintro (z | rfl)
        · exact y z
        · rw [h5] at e; cases e

/-- an operation r is told by g -/
def OpS (G : GC) (r : R2) (g : D → D → M Rs) : Prop := ∀ (S H : Hp) (x y : V) (d e : D) (z : Rs), Same S H → Rp G S x d → Rp G S y e → g d e = .ok z → ∀ Q : VK, (∀ v H', NewR G S H v H' z → Q v H') → r x y H Q
def UnS (G : GC) (r : V → Hp → VK → Prop) (g : D → M Rs) : Prop := ∀ (S H : Hp) (x : V) (d : D) (z : Rs), Same S H → Rp G S x d → g d = .ok z → ∀ Q : VK, (∀ v H', NewR G S H v H' z → Q v H') → r x H Q
def CallS (G : GC) (r : List V → Hp → VK → Prop) (g : List D → M Rs) : Prop := ∀ (S H : Hp) (xs : List V) (ds : List D) (z : Rs), Same S H → RpAll G S xs ds → g ds = .ok z → ∀ Q : VK, (∀ v H', NewR G S H v H' z → Q v H') → r xs H Q
/-- operations raise nothing -/
def pureM {α : Type} (m : M α) : M α := match m with | .ex _ => .bad | m => m
def e2 (g : D → D → M Rs) (f1 f2 : Env → M Rs) : Env → M Rs := fun env => do let x ← f1 env; let y ← f2 env; pureM (g x.d y.d)
def e1 (g : D → M Rs) (f1 : Env → M Rs) : Env → M Rs := fun env => do let x ← f1 env; pureM (g x.d)
theorem pureM_ok {α : Type} {m : M α} {a : α} (h : pureM m = .ok a) : m = .ok a := by
  cases m <;> simp_all [pureM]
theorem pureM_ex {α : Type} {m : M α} {x : Exc} : pureM m ≠ .ex x := by
  cases m <;> simp [pureM]
theorem sub_l {A B : List Nat} : ∀ i, i ∈ A → i ∈ A ++ B := fun i h => List.mem_append_left _ h
theorem sub_r {A B : List Nat} : ∀ i, i ∈ B → i ∈ A ++ B := fun i h => List.mem_append_right _ h
theorem ExR.mono {S S' H : Hp} {x : Exc} {c : Value} {d : Option Addr} (h : Same S S') (e : ExR G S H x c d) : ExR G S' H x c d := by
  obtain ⟨C, dx, fs, a, b, c', d', r⟩ := e
  exact ⟨C, dx, fs, a, b, c', d', r.mono h⟩
/-- two expressions, one behind the other -/
theorem two_run {A B : List Nat} {f1 f2 : Env → M Rs} {σ : L2.St} {H : Hp} {hid : Addr → Prop} {H0 : Hp} {env : Env} {g : Rs → Rs → M Rs} {Q : VK} (R : Real G hid H0 env σ H)
    (h : Post G W hid (A ++ B) env σ H Q (do let x ← f1 env; let y ← f2 env; g x y)) {T : V → V → Hp → Prop}
    (hT : ∀ v w H2 x y, Same H H2 → f1 env = .ok x → f2 env = .ok y → Rp G (See hid (A ++ B) env σ H2) v x.d → Rp G (See hid (A ++ B) env σ H2) w y.d → Post G W hid (A ++ B) env σ H Q (g x y) → T v w H2) :
    tDE G W A f1 σ H fun x H1 => tDE G W B f2 σ H1 fun y H2 => T x y H2 := by
  refine ⟨hid, H0, env, R, ?_⟩
  cases e1 : f1 env with
  | bad => rw [e1] at h; exact h
  | ex x =>
    rw [e1] at h
    intro c d H' e r
    exact h c d H' e (r.mono (see_mono sub_l (Same.refl _)))
  | ok x =>
    rw [e1] at h
    intro v H1 s1 r1
    have R1 := R.mono s1
    refine ⟨hid, H0, env, R1, ?_⟩
    have h' : Post G W hid (A ++ B) env σ H Q (f2 env >>= fun y => g x y) := h
    cases e2 : f2 env with
    | bad => rw [e2] at h'; exact h'
    | ex z =>
      rw [e2] at h'
      intro c d H' e r
      exact h' c d H' (s1.trans e) (r.mono (see_mono sub_r (Same.refl _)))
    | ok y =>
      rw [e2] at h'
      intro w H2 s2 r2
      exact hT v w H2 x y (s1.trans s2) e1 e2 ((r1.rp R).mono (see_mono sub_l s2)) ((r2.rp R1).mono (see_mono sub_r (Same.refl _))) h'
/-- the operation itself -/
theorem op_end {r : R2} {g : D → D → M Rs} (hs : OpS G r g) {hid : Addr → Prop} {A : List Nat} {env : Env} {σ : L2.St} {H0 H H2 : Hp} {Q : VK} {x y : Rs} {v w : V} (R : Real G hid H0 env σ H) (s : Same H H2)
    (hv : Rp G (See hid A env σ H2) v x.d) (hw : Rp G (See hid A env σ H2) w y.d) (h : Post G W hid A env σ H Q (pureM (g x.d y.d))) : r v w H2 Q := by
  cases e : pureM (g x.d y.d) with
  | bad => rw [e] at h; exact h.elim
  | ex z => exact absurd e pureM_ex
  | ok z =>
    rw [e] at h
    refine hs _ H2 v w _ _ z cut_le hv hw (pureM_ok e) Q fun v' H' n => h v' H' (s.trans n.same) ?_
    have q := NewR.res (R.mono s) n
    cases z with
    | fz d => exact q
    | ow ds =>
      obtain ⟨p, vs, a, b, c⟩ := q
      refine ⟨p, vs, a, ?_, c⟩
      exact s.free b
theorem d_op {op : Operator} {a b : Expr} {r : R2} {g : D → D → M Rs} {A B : List Nat} {f1 f2 : Env → M Rs} (ho : OpR X (binaryOp op) r) (hs : OpS G r g) (h1 : DE G W X a A f1) (h2 : DE G W X b B f2) : DE G W X (.BinOp a op b pos) (A ++ B) (e2 g f1 f2) :=
  ⟨weakE (pe_op ho h1.pe h2.pe) fun σ H Q ⟨hid, H0, env, R, h⟩ => two_run R h fun v w H2 x y s _ _ hv hw q => op_end hs R s hv hw q, h1.k⟩
theorem d_cmp {op : CmpOp} {a b : Expr} {r : R2} {g : D → D → M Rs} {A B : List Nat} {f1 f2 : Env → M Rs} (ho : OpR X (compareOp op) r) (hs : OpS G r g) (h1 : DE G W X a A f1) (h2 : DE G W X b B f2) (hm : behindInMarks op b = false) :
    DE G W X (.Compare a [op] [b] pos) (A ++ B) (e2 g f1 f2) :=
  ⟨weakE (pe_cmpR ho h1.pe h2.pe hm) fun σ H Q ⟨hid, H0, env, R, h⟩ => two_run R h fun v w H2 x y s _ _ hv hw q => op_end hs R s hv hw q, h1.k⟩
theorem d_ixG {a b : Expr} {r : R2} {g : D → D → M Rs} {A B : List Nat} {f1 f2 : Env → M Rs} (ho : IxR X r) (hs : OpS G r g) (h1 : DE G W X a A f1) (h2 : DE G W X b B f2) (hp : PlainIx b) : DE G W X (.Subscript a b pos) (A ++ B) (e2 g f1 f2) :=
  ⟨weakE (pe_ix ho h1.pe h2.pe hp) fun σ H Q ⟨hid, H0, env, R, h⟩ => two_run R h fun v w H2 x y s _ _ hv hw q => op_end hs R s hv hw q, h1.k⟩
theorem d_un {op : UnaryOp} {a : Expr} {r : V → Hp → VK → Prop} {g : D → M Rs} {A : List Nat} {f1 : Env → M Rs} (ho : UnR X (unaryOp op) r) (hs : UnS G r g) (h1 : DE G W X a A f1) : DE G W X (.UnaryOp op a pos) A (e1 g f1) :=
  ⟨weakE (pe_un ho h1.pe) fun σ H Q ⟨hid, H0, env, R, h⟩ => by
    refine ⟨hid, H0, env, R, ?_⟩
    have h : Post G W hid A env σ H Q (f1 env >>= fun x => pureM (g x.d)) := h
    cases e : f1 env with
    | bad => rw [e] at h; exact h
    | ex x => rw [e] at h; exact h
    | ok x =>
      rw [e] at h
      intro v H1 s1 r1
      have h : Post G W hid A env σ H Q (pureM (g x.d)) := h
      cases e2 : pureM (g x.d) with
      | bad => rw [e2] at h; exact h.elim
      | ex z => exact absurd e2 pureM_ex
      | ok z =>
        rw [e2] at h
        refine hs _ H1 v _ z cut_le (r1.rp R) (pureM_ok e2) Q fun v' H' n => h v' H' (s1.trans n.same) ?_
        have q := NewR.res (R.mono s1) n
        cases z with
        | fz d => exact q
        | ow ds =>
          obtain ⟨p, vs, a, b, c⟩ := q
          exact ⟨p, vs, a, s1.free b, c⟩, h1.k⟩

/-! ### arguments, displays, calls -/
def aNil : Env → M (List D) := fun _ => .ok []
def aCons (f : Env → M Rs) (g : Env → M (List D)) : Env → M (List D) := fun env => do let x ← f env; let ys ← g env; .ok (x.d :: ys)
theorem da_nil (k : G.K = X.K := by rfl) : DA G W X [] [] aNil := ⟨weakA pa_nil fun σ H Q ⟨hid, H0, env, R, h⟩ => h [] H (Same.refl H) .nil, k⟩
theorem da_cons {e : Expr} {es : List Expr} {A B : List Nat} {f : Env → M Rs} {g : Env → M (List D)} (h1 : DE G W X e A f) (h2 : DA G W X es B g) (hs : starEach (e :: es) X.env = (false, eval e X.env) :: starEach es X.env := by rfl) :
    DA G W X (e :: es) (A ++ B) (aCons f g) := ⟨weakA (pa_cons h1.pe h2.pa hs) fun σ H Q ⟨hid, H0, env, R, h⟩ => by
  have h : PostA G W hid (A ++ B) env σ H Q (f env >>= fun x => g env >>= fun ys => .ok (x.d :: ys)) := h
  refine ⟨hid, H0, env, R, ?_⟩
  cases e1 : f env with
  | bad => rw [e1] at h; exact h
  | ex x =>
    rw [e1] at h
    intro c d H' e r
    exact h c d H' e (r.mono (see_mono sub_l (Same.refl _)))
  | ok x =>
    rw [e1] at h
    intro v H1 s1 r1
    have R1 := R.mono s1
    refine ⟨hid, H0, env, R1, ?_⟩
    have h : PostA G W hid (A ++ B) env σ H Q (g env >>= fun ys => .ok (x.d :: ys)) := h
    cases e2 : g env with
    | bad => rw [e2] at h; exact h
    | ex z =>
      rw [e2] at h
      intro c d H' e r
      exact h c d H' (s1.trans e) (r.mono (see_mono sub_r (Same.refl _)))
    | ok ys =>
      rw [e2] at h
      intro ws H2 s2 r2
      exact h (v :: ws) H2 (s1.trans s2) (.cons ((r1.rp R).mono (see_mono sub_l s2)) (r2.mono (see_mono sub_r (Same.refl _)))), h1.k⟩
def eA (g : List D → M Rs) (f : Env → M (List D)) : Env → M Rs := fun env => do let ds ← f env; pureM (g ds)
theorem args_run {A : List Nat} {f : Env → M (List D)} {g : List D → M Rs} {r : List V → Hp → VK → Prop} (hs : CallS G r g) {σ : L2.St} {H : Hp} {Q : VK} (h : tDE G W A (eA g f) σ H Q) : tDA G W A f σ H fun vs H1 => r vs H1 Q := by
  obtain ⟨hid, H0, env, R, h⟩ := h
  refine ⟨hid, H0, env, R, ?_⟩
  have h : Post G W hid A env σ H Q (f env >>= fun ds => pureM (g ds)) := h
  cases e1 : f env with
  | bad => rw [e1] at h; exact h
  | ex x => rw [e1] at h; exact h
  | ok ds =>
    rw [e1] at h
    intro vs H1 s1 r1
    have h : Post G W hid A env σ H Q (pureM (g ds)) := h
    cases e2 : pureM (g ds) with
    | bad => rw [e2] at h; exact h.elim
    | ex z => exact absurd e2 pureM_ex
    | ok z =>
      rw [e2] at h
      refine hs _ H1 vs _ z cut_le r1 (pureM_ok e2) Q fun v' H' n => h v' H' (s1.trans n.same) ?_
      have q := NewR.res (R.mono s1) n
      cases z with
      | fz d => exact q
      | ow ds =>
        obtain ⟨p, vs, a, b, c⟩ := q
        exact ⟨p, vs, a, s1.free b, c⟩
def oTupD (ds : List D) : M Rs := if ds.length ≤ sizeLine then .ok (.fz (.tup ds)) else .bad
def oLstD (ds : List D) : M Rs := if ds.length ≤ sizeLine then .ok (.ow ds) else .bad
theorem cs_tup : CallS G (fun xs H Q => xs.length ≤ sizeLine ∧ ∀ p, H p = none → Q (.ref p) (upd H p (.tup xs))) oTupD := fun S H xs ds z hS r h Q q => by
  unfold oTupD at h
  split at h
  · cases h
    rename_i hl
    exact ⟨by rw [r.len]; exact hl, fun p hp => q _ _ (.tup hS hp r)⟩
  · cases h
theorem cs_lst : CallS G (fun xs H Q => xs.length ≤ sizeLine ∧ ∀ p, H p = none → Q (.ref p) (upd H p (.lst xs))) oLstD := fun S H xs ds z hS r h Q q => by
  unfold oLstD at h
  split at h
  · cases h
    rename_i hl
    exact ⟨by rw [r.len]; exact hl, fun p hp => q _ _ (.lst hS hp r)⟩
  · cases h
theorem d_tup {es : List Expr} {x1 : Nat} {A : List Nat} {f : Env → M (List D)} (h : DA G W X es A f) : DE G W X (.Tuple es x1 pos) A (eA oTupD f) := ⟨weakE (pe_tup h.pa) fun σ H Q q => args_run cs_tup q, h.k⟩
theorem d_lst {es : List Expr} {A : List Nat} {f : Env → M (List D)} (h : DA G W X es A f) : DE G W X (.List es pos) A (eA oLstD f) := ⟨weakE (pe_lst h.pa) fun σ H Q q => args_run cs_lst q, h.k⟩
theorem d_callB {x : Str} {id : String} {p : Pos} {e : Expr} {es : List Expr} {r : List V → Hp → VK → Prop} {g : List D → M Rs} {A : List Nat} {f : Env → M (List D)} (hc : CallR X (.builtin id) r) (hs : CallS G r g) (hg : Gl X x) (hm : X.mg x = none) (hv : bootBuiltins x = some (.builtin id))
    (h : DA G W X (e :: es) A f) (hn : x ≠ "__name__" := by decide) (hdb : (x == ("__debug__" : Str)) = false := by decide)
    (he : starEach (e :: es) X.env = (false, eval e X.env) :: starEach es X.env := by rfl) (hpl : (backTo pos (starEach es X.env)).any (·.1) = false := by rfl) : DE G W X (.Call (.Name x p) (e :: es) [] pos) A (eA g f) :=
  ⟨weakE (pe_callB hc hg hm hv h.pa hn hdb he hpl) fun σ H Q q => args_run hs q, h.k⟩
theorem d_callTy {x : Str} {T : String} {p : Pos} {e : Expr} {es : List Expr} {r : List V → Hp → VK → Prop} {g : List D → M Rs} {A : List Nat} {f : Env → M (List D)} (hc : CallR X (.type T) r) (hs : CallS G r g) (hg : Gl X x) (hm : X.mg x = none) (hv : bootBuiltins x = some (.type T))
    (h : DA G W X (e :: es) A f) (hn : x ≠ "__name__" := by decide) (hdb : (x == ("__debug__" : Str)) = false := by decide)
    (he : starEach (e :: es) X.env = (false, eval e X.env) :: starEach es X.env := by rfl) (hpl : (backTo pos (starEach es X.env)).any (·.1) = false := by rfl) : DE G W X (.Call (.Name x p) (e :: es) [] pos) A (eA g f) :=
  ⟨weakE (pe_callTy hc hg hm hv h.pa hn hdb he hpl) fun σ H Q q => args_run hs q, h.k⟩
end
end DL
end

section
set_option maxRecDepth 100000
set_option maxHeartbeats 4000000
namespace DL
open PySem PySem.Spec PyProof.Rows L2

def orM {α : Type} (a b : M α) : M α := match a with | .ok z => .ok z | _ => b
theorem orM_ok {α : Type} {a b : M α} {z : α} (h : orM a b = .ok z) : a = .ok z ∨ b = .ok z := by
  cases a with
  | ok x => exact .inl h
  | bad => exact .inr h
  | ex x => exact .inr h
theorem OpS.or {G : GC} {r r' : R2} {g g' : D → D → M Rs} (h : OpS G r g) (h' : OpS G r' g') : OpS G (fun x y H Q => r x y H Q ∨ r' x y H Q) (fun d e => orM (g d e) (g' d e)) :=
  fun S H x y d e z hS hx hy hz Q q => (orM_ok hz).elim (fun e1 => .inl (h S H x y d e z hS hx hy e1 Q q)) fun e1 => .inr (h' S H x y d e z hS hx hy e1 Q q)
theorem OpS.imp {G : GC} {r r' : R2} {g g' : D → D → M Rs} (h : OpS G r g) (hr : ∀ x y H Q, r x y H Q → r' x y H Q) (hg : ∀ d e z, g' d e = .ok z → g d e = .ok z) : OpS G r' g' :=
  fun S H x y d e z hS hx hy hz Q q => hr _ _ _ _ (h S H x y d e z hS hx hy (hg d e z hz) Q q)
theorem CallS.or {G : GC} {r r' : List V → Hp → VK → Prop} {g g' : List D → M Rs} (h : CallS G r g) (h' : CallS G r' g') : CallS G (fun x H Q => r x H Q ∨ r' x H Q) (fun d => orM (g d) (g' d)) :=
  fun S H x d z hS hx hz Q q => (orM_ok hz).elim (fun e1 => .inl (h S H x d z hS hx e1 Q q)) fun e1 => .inr (h' S H x d z hS hx e1 Q q)
section
variable {G : GC} {X : Cx}
/-! ### ints -/
def oI (g : Int → Int → D) : D → D → M Rs | .int i, .int j => .ok (.fz (g i j)) | _, _ => .bad
def oIc (c : Int → Int → Bool) (g : Int → Int → D) : D → D → M Rs | .int i, .int j => if c i j then .ok (.fz (g i j)) else .bad | _, _ => .bad
theorem rp_int {S : Hp} {x : V} {i : Int} (h : Rp G S x (.int i)) : x = .int i := by cases h; rfl
theorem rp_bl {S : Hp} {x : V} {b : Bool} (h : Rp G S x (.bl b)) : x = .bl b := by cases h; rfl
theorem rp_str {S : Hp} {x : V} {z : Str} (h : Rp G S x (.str z)) : x = .str z := by cases h; rfl
theorem rp_lst {S : Hp} {x : V} {ds : List D} (h : Rp G S x (.lst ds)) : ∃ a xs, x = .ref a ∧ S a = some (.lst xs) ∧ RpAll G S xs ds := by
  cases h with
  | lst h r => exact ⟨_, _, rfl, h, r⟩
theorem rp_tup {S : Hp} {x : V} {ds : List D} (h : Rp G S x (.tup ds)) : ∃ a xs, x = .ref a ∧ SqT G.K S a xs ∧ RpAll G S xs ds := by
  cases h with
  | tup h r => exact ⟨_, _, rfl, h, r⟩
theorem rp_scr {S : Hp} {x : V} {ns : List Int} (h : Rp G S x (.scr ns)) : ∃ a, x = .ref a ∧ SqL G.K S a (ns.map .int) := by
  cases h with
  | scr h => exact ⟨_, rfl, h⟩
theorem os_I {g : Int → Int → V} {g' : Int → Int → D} (hg : ∀ i j S, Rp G S (g i j) (g' i j)) : OpS G (rI0 g) (oI g') := fun S H x y d e z hS hx hy hz Q q => by
  unfold oI at hz
  split at hz
  · cases hz
    rw [rp_int hx, rp_int hy]
    exact ⟨_, _, rfl, rfl, q _ _ (.val hS (hg _ _ S))⟩
  · cases hz
theorem os_Ic {C : Int → Int → Prop} {c : Int → Int → Bool} {g : Int → Int → V} {g' : Int → Int → D} (hc : ∀ i j, c i j = true → C i j) (hg : ∀ i j S, Rp G S (g i j) (g' i j)) : OpS G (rI C g) (oIc c g') := fun S H x y d e z hS hx hy hz Q q => by
  unfold oIc at hz
  split at hz
  · split at hz
    · cases hz
      rename_i h
      rw [rp_int hx, rp_int hy]
      exact ⟨_, _, rfl, rfl, hc _ _ h, q _ _ (.val hS (hg _ _ S))⟩
    · cases hz
  · cases hz
/-- what may be multiplied -/
def mulOk (i j : Int) : Bool := decide (i.natAbs < 2 ^ 64) || decide (j.natAbs < 2 ^ 64) || decide (i.natAbs.log2 + j.natAbs.log2 < 130000000)
theorem mulOk_ok {i j : Int} (h : mulOk i j = true) : IntMulOk i j := by
  unfold mulOk at h
  rw [Bool.or_eq_true, Bool.or_eq_true, decide_eq_true_iff, decide_eq_true_iff, decide_eq_true_iff] at h
  rcases h with (h | h) | h
  · exact IntMulOk.of_left (intBits_le_64 (by omega) (by omega))
  · exact IntMulOk.of_right (intBits_le_64 (by omega) (by omega))
  · have b : ∀ x : Int, Builtin.Int.intBits x ≤ x.natAbs.log2 + 1 := fun x => by
      unfold Builtin.Int.intBits
      split <;> omega
    have h1 := b i
    have h2 := b j
    have e : bitsLine = 134217728 := by decide
    unfold IntMulOk
    intro z
    rw [Bool.and_eq_true] at z
    have z2 := z.2
    unfold Builtin.Int.intTooBig at z2
    have z3 := of_decide_eq_true z2
    rw [e] at z3
    omega
theorem op_mulD : OpR X (binaryOp .Mult) (rI IntMulOk fun i j => .int (i * j)) := opI fun _ _ _ _ _ _ _ hc q => mul_int q hc
def divOk (_ j : Int) : Bool := decide (j ≠ 0) && decide (j.natAbs.log2 < 9000)
theorem op_divD : OpR X (binaryOp .FloorDiv) (rI (fun _ j => j ≠ 0 ∧ j.natAbs.log2 < 9000) fun i j => .int (i.fdiv j)) := opI fun i j _ _ _ _ _ hc q => floordiv_int hc.1 q (.inl (PyProof.noPylong_of_log2 hc.2))
def powOk (i j : Int) : Bool := decide (0 ≤ j) && decide (j ≤ 1000000) && decide (i.natAbs < 2 ^ 64)

def oCatL : D → D → M Rs | .lst a, .lst b => if a.length + b.length ≤ sizeLine then .ok (.ow (a ++ b)) else .bad | _, _ => .bad
def oCatT : D → D → M Rs | .tup a, .tup b => if a.length + b.length ≤ sizeLine then .ok (.fz (.tup (a ++ b))) else .bad | _, _ => .bad
def oCatS : D → D → M Rs | .str a, .str b => if a.length + b.length ≤ sizeLine then .ok (.fz (.str (a ++ b))) else .bad | _, _ => .bad
theorem os_catL : OpS G rCat oCatL := fun S H x y d e z hS hx hy hz Q q => by
  unfold oCatL at hz
  split at hz
  · split at hz
    · cases hz
      rename_i h
      obtain ⟨a, xs, rfl, ha, ra⟩ := rp_lst hx
      obtain ⟨b, ys, rfl, hb, rb⟩ := rp_lst hy
      exact ⟨a, b, xs, ys, rfl, rfl, hS _ _ ha, hS _ _ hb, by rw [ra.len, rb.len]; exact h, fun p hp => q _ _ (.lst hS hp (ra.app rb))⟩
    · cases hz
  · cases hz
theorem os_catT : OpS G (rCatA G.K) oCatT := fun S H x y d e z hS hx hy hz Q q => by
  unfold oCatT at hz
  split at hz
  · split at hz
    · cases hz
      rename_i h
      obtain ⟨a, xs, rfl, ha, ra⟩ := rp_tup hx
      obtain ⟨b, ys, rfl, hb, rb⟩ := rp_tup hy
      refine ⟨a, b, xs, ys, rfl, rfl, same_t hS ha, same_t hS hb, by rw [ra.len, rb.len]; exact h, ?_⟩
      refine ⟨fun e0 => ?_, fun e0 e1 => ?_, fun e0 e1 p hp => q _ _ (.tup hS hp (ra.app rb))⟩
      · subst e0
        cases ra
        exact q _ _ (.val hS hy)
      · subst e1
        cases rb
        rw [List.append_nil] at q
        exact q _ _ (.val hS hx)
    · cases hz
  · cases hz
theorem os_catS : OpS G (fun x y H Q => ∃ i j, x = .str i ∧ y = .str j ∧ i.length + j.length ≤ sizeLine ∧ Q (.str (i ++ j)) H) oCatS := fun S H x y d e z hS hx hy hz Q q => by
  unfold oCatS at hz
  split at hz
  · split at hz
    · cases hz
      rename_i h
      rw [rp_str hx, rp_str hy]
      exact ⟨_, _, rfl, rfl, h, q _ _ (.val hS (.str _))⟩
    · cases hz
  · cases hz
/-- a + b -/
def oAdd : D → D → M Rs
  | .int i, .int j => .ok (.fz (.int (i + j)))
  | .lst a, .lst b => if a.length + b.length ≤ sizeLine then .ok (.ow (a ++ b)) else .bad
  | .tup a, .tup b => if a.length + b.length ≤ sizeLine then .ok (.fz (.tup (a ++ b))) else .bad
  | .str a, .str b => if a.length + b.length ≤ sizeLine then .ok (.fz (.str (a ++ b))) else .bad
  | _, _ => .bad
theorem os_add : OpS G (fun x y H Q => rI0 (fun i j => .int (i + j)) x y H Q ∨ (rCat x y H Q ∨ (rCatA G.K x y H Q ∨ (fun x y H Q => ∃ i j, x = .str i ∧ y = .str j ∧ i.length + j.length ≤ sizeLine ∧ Q (.str (i ++ j)) H) x y H Q))) oAdd :=
  OpS.imp (OpS.or (os_I (g' := fun i j => .int (i + j)) fun i j S => .int _) (OpS.or os_catL (OpS.or os_catT os_catS))) (fun _ _ _ _ h => h) fun d e z h => by
    unfold oAdd at h
    split at h <;> first | (cases h; done) | (cases h; rfl) | (split at h <;> first | (cases h; done) | (cases h; simp [orM, oI, oCatL, oCatT, oCatS, *]))
theorem op_addD : OpR X (binaryOp .Add) (fun x y H Q => rI0 (fun i j => .int (i + j)) x y H Q ∨ (rCat x y H Q ∨ (rCatA X.K x y H Q ∨ (fun x y H Q => ∃ i j, x = .str i ∧ y = .str j ∧ i.length + j.length ≤ sizeLine ∧ Q (.str (i ++ j)) H) x y H Q))) :=
  OpR.or op_add (OpR.or op_cat (OpR.or op_catA op_add_str))
def oSub : D → D → M Rs := oI fun i j => .int (i - j)
theorem os_sub : OpS G (rI0 fun i j => .int (i - j)) oSub := os_I fun i j S => .int _
/-- a * b: ints, or a list times an int -/
def oMul : D → D → M Rs
  | .int i, .int j => if mulOk i j then .ok (.fz (.int (i * j))) else .bad
  | .lst a, .int k => if a.length * k.toNat ≤ sizeLine ∧ k < 2 ^ 63 ∧ -(2 ^ 63) ≤ k then .ok (.ow (List.replicate k.toNat a).flatten) else .bad
  | _, _ => .bad
theorem rp_rep {S : Hp} {vs : List V} {ds : List D} (h : RpAll G S vs ds) : ∀ n : Nat, RpAll G S (List.replicate n vs).flatten (List.replicate n ds).flatten
  | 0 => .nil
  | n + 1 => by
    rw [List.replicate_succ, List.replicate_succ, List.flatten_cons, List.flatten_cons]
    exact h.app (rp_rep h n)
def oRepL : D → D → M Rs
  | .lst a, .int k => if a.length * k.toNat ≤ sizeLine ∧ k < 2 ^ 63 ∧ -(2 ^ 63) ≤ k then .ok (.ow (List.replicate k.toNat a).flatten) else .bad
  | _, _ => .bad
theorem os_rep : OpS G rRep oRepL := fun S H x y d e z hS hx hy hz Q q => by
  unfold oRepL at hz
  split at hz
  · split at hz
    · cases hz
      rename_i h
      obtain ⟨a, xs, rfl, ha, ra⟩ := rp_lst hx
      rw [rp_int hy]
      exact ⟨a, _, xs, rfl, rfl, hS _ _ ha, h.2.2, h.2.1, by rw [ra.len]; exact h.1, fun p hp => q _ _ (.lst hS hp (rp_rep ra _))⟩
    · cases hz
  · cases hz
theorem os_mul : OpS G (fun x y H Q => rI IntMulOk (fun i j => .int (i * j)) x y H Q ∨ rRep x y H Q) oMul :=
  OpS.imp (OpS.or (os_Ic (c := mulOk) (g' := fun i j => .int (i * j)) (fun _ _ => mulOk_ok) fun i j S => .int _) os_rep) (fun _ _ _ _ h => h) fun d e z h => by
    unfold oMul at h
    split at h
    · split at h
      · cases h; simp [orM, oIc, *]
      · cases h
    · split at h
      · rename_i h0
        cases h
        show orM M.bad (if _ then _ else _) = _
        rw [if_pos h0]
        rfl
      · cases h
    · cases h
theorem op_mulA : OpR X (binaryOp .Mult) (fun x y H Q => rI IntMulOk (fun i j => .int (i * j)) x y H Q ∨ rRep x y H Q) := OpR.or op_mulD op_rep
def oDiv : D → D → M Rs := oIc divOk fun i j => .int (i.fdiv j)
theorem os_div : OpS G (rI (fun _ j => j ≠ 0 ∧ j.natAbs.log2 < 9000) fun i j => .int (i.fdiv j)) oDiv := os_Ic (fun i j h => by
  unfold divOk at h
  rw [Bool.and_eq_true, decide_eq_true_iff, decide_eq_true_iff] at h
  exact h) fun i j S => .int _
def oMod : D → D → M Rs := oIc (fun _ j => decide (j ≠ 0)) fun i j => .int (i.fmod j)
theorem os_mod : OpS G (rI (fun _ j => j ≠ 0) fun i j => .int (i.fmod j)) oMod := os_Ic (fun i j h => of_decide_eq_true h) fun i j S => .int _
def oPow : D → D → M Rs := oIc powOk fun i j => .int (i ^ j.toNat)
theorem powOk_ok {i j : Int} (h : powOk i j = true) : CPow i j := by
  unfold powOk at h
  rw [Bool.and_eq_true, Bool.and_eq_true, decide_eq_true_iff, decide_eq_true_iff, decide_eq_true_iff] at h
  exact ⟨h.1.1, h.1.2, h.2⟩
theorem os_pow : OpS G (rI CPow fun i j => .int (i ^ j.toNat)) oPow := os_Ic (fun i j h => powOk_ok h) fun i j S => .int _
def oShl : D → D → M Rs := oIc powOk fun i j => .int (i * 2 ^ j.toNat)
theorem os_shl : OpS G (rI CPow fun i j => .int (i * 2 ^ j.toNat)) oShl := os_Ic (fun i j h => powOk_ok h) fun i j S => .int _
def oShr : D → D → M Rs := oIc (fun _ j => decide (0 ≤ j)) fun i j => .int (i / 2 ^ j.toNat)
theorem os_shr : OpS G (rI (fun _ j => 0 ≤ j) fun i j => .int (i / 2 ^ j.toNat)) oShr := os_Ic (fun i j h => of_decide_eq_true h) fun i j S => .int _
def oAnd : D → D → M Rs := oI fun i j => .int (Builtin.bitAnd i j)
theorem os_and : OpS G (rI0 fun i j => .int (Builtin.bitAnd i j)) oAnd := os_I fun i j S => .int _
def oOr : D → D → M Rs := oI fun i j => .int (Builtin.bitOr i j)
theorem os_or : OpS G (rI0 fun i j => .int (Builtin.bitOr i j)) oOr := os_I fun i j S => .int _
def oNeg : D → M Rs | .int i => .ok (.fz (.int (-i))) | _ => .bad
theorem us_neg : UnS G (rU fun i => .int (-i)) oNeg := fun S H x d z hS hx hz Q q => by
  unfold oNeg at hz
  split at hz
  · cases hz
    rw [rp_int hx]
    exact ⟨_, rfl, q _ _ (.val hS (.int _))⟩
  · cases hz

/-! ### comparisons -/
def toInts : List D → Option (List Int)
  | [] => some []
  | .int i :: ds => (toInts ds).map (i :: ·)
  | _ => none
theorem toInts_rp {S : Hp} : ∀ {ds : List D} {xs : List V} {ns : List Int}, RpAll G S xs ds → toInts ds = some ns → xs = ns.map V.int
  | [], _, _, .nil, h => by cases h; rfl
  | .int i :: ds, _, _, .cons r rs, h => by
    unfold toInts at h
    cases e : toInts ds with
    | none => rw [e] at h; cases h
    | some ms =>
      rw [e] at h
      cases h
      rw [toInts_rp rs e, rp_int r]
      rfl
  | .non :: _, _, _, _, h => by cases h
  | .bl _ :: _, _, _, _, h => by cases h
  | .str _ :: _, _, _, _, h => by cases h
  | .tup _ :: _, _, _, _, h => by cases h
  | .lst _ :: _, _, _, _, h => by cases h
  | .scr _ :: _, _, _, _, h => by cases h
  | .obj _ _ :: _, _, _, _, h => by cases h
def oTt (p : List Int → List Int → Bool) : D → D → M Rs
  | .tup a, .tup b => match toInts a, toInts b with | some ns, some ms => .ok (.fz (.bl (p ns ms))) | _, _ => .bad
  | _, _ => .bad
theorem os_Tt {p : List Int → List Int → Bool} {r : R2} (hr : ∀ (a b : Addr) (ns ms : List Int) (H : Hp) (Q : VK), SqT G.K H a (ns.map V.int) → SqT G.K H b (ms.map V.int) → Q (.bl (p ns ms)) H → r (.ref a) (.ref b) H Q) : OpS G r (oTt p) := fun S H x y d e z hS hx hy hz Q q => by
  unfold oTt at hz
  split at hz
  · split at hz
    · cases hz
      rename_i e1 e2
      obtain ⟨a, xs, rfl, ha, ra⟩ := rp_tup hx
      obtain ⟨b, ys, rfl, hb, rb⟩ := rp_tup hy
      rw [toInts_rp ra e1] at ha
      rw [toInts_rp rb e2] at hb
      exact hr a b _ _ H Q (same_t hS ha) (same_t hS hb) (q _ _ (.val hS (.bl _)))
    · cases hz
  · cases hz
def oLt : D → D → M Rs := fun d e => orM (oI (fun i j => .bl (decide (i < j))) d e) (oTt HT.lexLt d e)
theorem os_lt : OpS G (fun x y H Q => rI0 (fun i j => .bl (decide (i < j))) x y H Q ∨ rLtT G.K x y H Q) oLt :=
  OpS.or (os_I fun i j S => .bl _) (os_Tt fun a b ns ms H Q ha hb q => ⟨a, b, ns, ms, rfl, rfl, ha, hb, q⟩)
theorem op_ltD (hu : X.A.units < cLine) : OpR X (compareOp .Lt) (fun x y H Q => rI0 (fun i j => .bl (decide (i < j))) x y H Q ∨ rLtT X.K x y H Q) := OpR.or op_lt (op_ltT hu)
def oGt : D → D → M Rs := oI fun i j => .bl (decide (j < i))
theorem os_gt : OpS G (rI0 fun i j => .bl (decide (j < i))) oGt := os_I fun i j S => .bl _
def oLe : D → D → M Rs := oI fun i j => .bl (decide (i ≤ j))
theorem os_le : OpS G (rI0 fun i j => .bl (decide (i ≤ j))) oLe := os_I fun i j S => .bl _
def oGe : D → D → M Rs := oI fun i j => .bl (decide (j ≤ i))
theorem os_ge : OpS G (rI0 fun i j => .bl (decide (j ≤ i))) oGe := os_I fun i j S => .bl _

mutual
def toPy : D → Option PyData
  | .non => some .none
  | .bl b => some (.bool b)
  | .int i => some (.int i)
  | .str x => some (.str x)
  | .tup ds => (toPyAll ds).map .tuple
  | .lst ds => (toPyAll ds).map .list
  | .scr _ => none
  | .obj _ _ => none
def toPyAll : List D → Option (List PyData)
  | [] => some []
  | d :: ds => (toPy d).bind fun p => (toPyAll ds).map (p :: ·)
end
mutual
theorem toPy_dp {S : Hp} : ∀ {d : D} {x : V} {p : PyData}, Rp G S x d → toPy d = some p → Dp G.K S x p
  | _, _, _, .non, h => by cases h; exact .non
  | _, _, _, .bl b, h => by cases h; exact .bl b
  | _, _, _, .int b, h => by cases h; exact .int b
  | _, _, _, .str b, h => by cases h; exact .str b
  | .tup ds, _, _, .tup hx r, h => by
    unfold toPy at h
    cases e : toPyAll ds with
    | none => rw [e] at h; cases h
    | some ps => rw [e] at h; cases h; exact .tup hx (toPyAll_dp r e)
  | .lst ds, _, _, .lst hx r, h => by
    unfold toPy at h
    cases e : toPyAll ds with
    | none => rw [e] at h; cases h
    | some ps => rw [e] at h; cases h; exact .lst (.inl (.inl hx)) (toPyAll_dp r e)
  | .scr _, _, _, _, h => by cases h
  | .obj _ _, _, _, _, h => by cases h
theorem toPyAll_dp {S : Hp} : ∀ {ds : List D} {xs : List V} {ps : List PyData}, RpAll G S xs ds → toPyAll ds = some ps → DpAll G.K S xs ps
  | _, _, _, .nil, h => by cases h; exact .nil
  | d :: ds, _, _, .cons r rs, h => by
    unfold toPyAll at h
    cases e : toPy d with
    | none => rw [e] at h; cases h
    | some p =>
      cases e2 : toPyAll ds with
      | none => rw [e, e2] at h; cases h
      | some ps => rw [e, e2] at h; cases h; exact .cons (toPy_dp r e) (toPyAll_dp rs e2)
end
mutual
theorem dp_mono {K : PySem.W.Frag} {H H' : Hp} (e : Same H H') : ∀ {v : V} {d : PyData}, Dp K H v d → Dp K H' v d
  | _, _, .non => .non
  | _, _, .bl b => .bl b
  | _, _, .int i => .int i
  | _, _, .str x => .str x
  | _, _, .lst h r => .lst (e.seq h) (dpAll_mono e r)
  | _, _, .tup h r => .tup (same_t e h) (dpAll_mono e r)
theorem dpAll_mono {K : PySem.W.Frag} {H H' : Hp} (e : Same H H') : ∀ {vs : List V} {ds : List PyData}, DpAll K H vs ds → DpAll K H' vs ds
  | _, _, .nil => .nil
  | _, _, .cons h r => .cons (dp_mono e h) (dpAll_mono e r)
end
def oScalEq (neg : Bool) : D → D → M Rs
  | .int i, .int j => .ok (.fz (.bl (if neg then !decide (i = j) else decide (i = j))))
  | .str i, .str j => .ok (.fz (.bl (if neg then !decide (i = j) else decide (i = j))))
  | .bl i, .bl j => .ok (.fz (.bl (if neg then !decide (i = j) else decide (i = j))))
  | _, _ => .bad
def oDeepEq (neg : Bool) (d e : D) : M Rs := match toPy d, toPy e with
  | some p, some q => if SeqAt.shaped p = true ∧ SeqAt.shaped q = true then .ok (.fz (.bl (if neg then !PyData.eqv p q else PyData.eqv p q))) else .bad
  | _, _ => .bad
theorem os_deep {neg : Bool} {r : R2} (hr : ∀ x y d e H Q, Dp G.K H x d → Dp G.K H y e → SeqAt.shaped d = true → SeqAt.shaped e = true → Q (.bl (if neg then !PyData.eqv d e else PyData.eqv d e)) H → r x y H Q) : OpS G r (oDeepEq neg) := fun S H x y d e z hS hx hy hz Q q => by
  unfold oDeepEq at hz
  split at hz
  · split at hz
    · cases hz
      rename_i p p' e1 e2 h
      exact hr _ _ _ _ _ _ (dp_mono hS (toPy_dp hx e1)) (dp_mono hS (toPy_dp hy e2)) h.1 h.2 (q _ _ (.val hS (.bl _)))
    · cases hz
  · cases hz
theorem os_scal {neg : Bool} {r : R2} (hr : ∀ x y H (Q : VK), scal x y = true → Q (.bl (if neg then !decide (x = y) else decide (x = y))) H → r x y H Q) : OpS G r (oScalEq neg) := fun S H x y d e z hS hx hy hz Q q => by
  unfold oScalEq at hz
  split at hz <;> first | (cases hz; done) | skip
  · cases hz
    rw [rp_int hx, rp_int hy]
    refine hr _ _ H Q rfl ?_
    have := q _ _ (.val hS (.bl _))
    simpa using this
  · cases hz
    rw [rp_str hx, rp_str hy]
    refine hr _ _ H Q rfl ?_
    have := q _ _ (.val hS (.bl _))
    simpa using this
  · cases hz
    rw [rp_bl hx, rp_bl hy]
    refine hr _ _ H Q rfl ?_
    have := q _ _ (.val hS (.bl _))
    simpa using this
def oEq : D → D → M Rs := fun d e => orM (oScalEq false d e) (oDeepEq false d e)
def oNe : D → D → M Rs := fun d e => orM (oScalEq true d e) (oDeepEq true d e)
theorem os_eq : OpS G (fun x y H Q => rEq x y H Q ∨ rEqD G.K x y H Q) oEq := OpS.or (os_scal fun x y H Q h q => ⟨h, q⟩) (os_deep fun x y d e H Q a b c d' q => ⟨d, e, a, b, c, d', q⟩)
theorem os_ne : OpS G (fun x y H Q => rNe x y H Q ∨ rNeD G.K x y H Q) oNe := OpS.or (os_scal fun x y H Q h q => ⟨h, q⟩) (os_deep fun x y d e H Q a b c d' q => ⟨d, e, a, b, c, d', q⟩)
theorem op_eqA (hu : X.A.units + 64 < cLine) : OpR X (compareOp .Eq) (fun x y H Q => rEq x y H Q ∨ rEqD X.K x y H Q) := OpR.or op_eq (op_eqD hu)
theorem op_neA (hu : X.A.units + 64 < cLine) : OpR X (compareOp .NotEq) (fun x y H Q => rNe x y H Q ∨ rNeD X.K x y H Q) := OpR.or op_ne (op_neD hu)
/-- x in xs, a list of data of any depth -/
def oInL (neg : Bool) (d e : D) : M Rs := match toPy d, toPy e with
  | some p, some (.list qs) => if SeqAt.shaped p = true ∧ SeqAt.shaped (.list qs) = true then .ok (.fz (.bl (if neg then !qs.any fun z => PyData.eqv z p else qs.any fun z => PyData.eqv z p))) else .bad
  | _, _ => .bad
theorem os_in : OpS G (rInD G.K) (oInL false) := fun S H x y d e z hS hx hy hz Q q => by
  unfold oInL at hz
  split at hz
  · split at hz
    · cases hz
      rename_i p p' e1 e2 h
      exact ⟨_, _, dp_mono hS (toPy_dp hx e1), dp_mono hS (toPy_dp hy e2), h.1, h.2, q _ _ (.val hS (.bl _))⟩
    · cases hz
  · cases hz
theorem os_notin : OpS G (rNotInD G.K) (oInL true) := fun S H x y d e z hS hx hy hz Q q => by
  unfold oInL at hz
  split at hz
  · split at hz
    · cases hz
      rename_i p p' e1 e2 h
      exact ⟨_, _, dp_mono hS (toPy_dp hx e1), dp_mono hS (toPy_dp hy e2), h.1, h.2, q _ _ (.val hS (.bl _))⟩
    · cases hz
  · cases hz
def oIsB (neg : Bool) : D → D → M Rs | .bl a, .bl b => .ok (.fz (.bl (if neg then !decide (a = b) else decide (a = b)))) | _, _ => .bad
theorem os_isB : OpS G (fun x y H Q => ∃ a b, x = .bl a ∧ y = .bl b ∧ Q (.bl (decide (a = b))) H) (oIsB false) := fun S H x y d e z hS hx hy hz Q q => by
  unfold oIsB at hz
  split at hz
  · cases hz
    rw [rp_bl hx, rp_bl hy]
    exact ⟨_, _, rfl, rfl, q _ _ (.val hS (.bl _))⟩
  · cases hz
theorem os_notB : OpS G (fun x y H Q => ∃ a b, x = .bl a ∧ y = .bl b ∧ Q (.bl (!decide (a = b))) H) (oIsB true) := fun S H x y d e z hS hx hy hz Q q => by
  unfold oIsB at hz
  split at hz
  · cases hz
    rw [rp_bl hx, rp_bl hy]
    exact ⟨_, _, rfl, rfl, q _ _ (.val hS (.bl _))⟩
  · cases hz

/-! ### items -/
def oR : Option D → M Rs | some d => .ok (.fz d) | none => .bad
def oIx : D → D → M Rs
  | .lst xs, .int i => oR (atI xs i)
  | .tup xs, .int i => oR (atI xs i)
  | .scr ns, .int i => oR ((atI ns i).map .int)
  | _, _ => .bad
theorem RpAll.at {S : Hp} {vs : List V} {ds : List D} (h : RpAll G S vs ds) {i : Int} {d : D} (e : atI ds i = some d) : ∃ v, atI vs i = some v ∧ Rp G S v d := by
  unfold atI at e ⊢
  rw [h.len]
  cases q : ixN ds.length i with
  | none => rw [q] at e; cases e
  | some j =>
    rw [q] at e
    exact h.get e
theorem atI_map {α β : Type} (f : α → β) (xs : List α) (i : Int) : atI (xs.map f) i = (atI xs i).map f := by
  unfold atI
  rw [List.length_map]
  cases ixN xs.length i with
  | none => rfl
  | some j => simp
theorem IxR.or {r r' : R2} (h : IxR X r) (h' : IxR X r') : IxR X (fun x y H Q => r x y H Q ∨ r' x y H Q) := by
  intro a b pins s σ H x y v u Q I rx ry hq e
  rcases hq with q | q
  · exact h a b pins s σ H x y v u Q I rx ry q e
  · exact h' a b pins s σ H x y v u Q I rx ry q e
theorem ix_D : IxR X (fun x y H Q => rIxL X.K x y H Q ∨ rIxT X.K x y H Q) := IxR.or ix_list ix_tup
theorem os_ix : OpS G (fun x y H Q => rIxL G.K x y H Q ∨ rIxT G.K x y H Q) oIx := fun S H x y d e z hS hx hy hz Q q => by
  unfold oIx at hz
  split at hz
  · rename_i xs i
    obtain ⟨a, vs, rfl, ha, ra⟩ := rp_lst hx
    rw [rp_int hy]
    cases e : atI xs i with
    | none => rw [e] at hz; cases hz
    | some d =>
      rw [e] at hz
      cases hz
      obtain ⟨v, e1, rv⟩ := ra.at e
      exact .inl ⟨a, vs, i, v, rfl, rfl, .inl (.inl (hS _ _ ha)), e1, q _ _ (.val hS rv)⟩
  · rename_i xs i
    obtain ⟨a, vs, rfl, ha, ra⟩ := rp_tup hx
    rw [rp_int hy]
    cases e : atI xs i with
    | none => rw [e] at hz; cases hz
    | some d =>
      rw [e] at hz
      cases hz
      obtain ⟨v, e1, rv⟩ := ra.at e
      exact .inr ⟨a, vs, i, v, rfl, rfl, same_t hS ha, e1, q _ _ (.val hS rv)⟩
  · rename_i ns i
    obtain ⟨a, rfl, ha⟩ := rp_scr hx
    rw [rp_int hy]
    cases e : atI ns i with
    | none => rw [e] at hz; cases hz
    | some n =>
      rw [e] at hz
      cases hz
      exact .inl ⟨a, _, i, .int n, rfl, rfl, hS.seq ha, by rw [atI_map, e]; rfl, q _ _ (.val hS (.int n))⟩
  · cases hz

/-! ### calls of built-ins -/
def oLen : List D → M Rs
  | [.lst xs] => .ok (.fz (.int xs.length))
  | [.tup xs] => .ok (.fz (.int xs.length))
  | [.scr xs] => .ok (.fz (.int xs.length))
  | _ => .bad
theorem rp1 {S : Hp} {xs : List V} {d : D} (h : RpAll G S xs [d]) : ∃ v, xs = [v] ∧ Rp G S v d := by
  cases h with
  | cons h r => cases r; exact ⟨_, rfl, h⟩
theorem rp2 {S : Hp} {xs : List V} {d e : D} (h : RpAll G S xs [d, e]) : ∃ v w, xs = [v, w] ∧ Rp G S v d ∧ Rp G S w e := by
  cases h with
  | cons h r =>
    obtain ⟨w, rfl, q⟩ := rp1 r
    exact ⟨_, w, rfl, h, q⟩
theorem cs_len : CallS G (fun xs H Q => ∃ p ys, xs = [.ref p] ∧ (SqL G.K H p ys ∨ SqT G.K H p ys) ∧ Q (.int ys.length) H) oLen := fun S H xs ds z hS hr hz Q q => by
  unfold oLen at hz
  split at hz
  · cases hz
    obtain ⟨v, rfl, r⟩ := rp1 hr
    obtain ⟨a, vs, rfl, ha, ra⟩ := rp_lst r
    exact ⟨a, vs, rfl, .inl (.inl (.inl (hS _ _ ha))), by rw [ra.len]; exact q _ _ (.val hS (.int _))⟩
  · cases hz
    obtain ⟨v, rfl, r⟩ := rp1 hr
    obtain ⟨a, vs, rfl, ha, ra⟩ := rp_tup r
    exact ⟨a, vs, rfl, .inr (same_t hS ha), by rw [ra.len]; exact q _ _ (.val hS (.int _))⟩
  · cases hz
    rename_i ns
    obtain ⟨v, rfl, r⟩ := rp1 hr
    obtain ⟨a, rfl, ha⟩ := rp_scr r
    refine ⟨a, _, rfl, .inl (hS.seq ha), ?_⟩
    have : ((ns.map V.int).length : Int) = ns.length := by simp
    rw [this]
    exact q _ _ (.val hS (.int _))
  · cases hz
def oList : List D → M Rs
  | [.lst xs] => .ok (.ow xs)
  | [.tup xs] => .ok (.ow xs)
  | _ => .bad
theorem cs_list : CallS G (fun xs H Q => ∃ p ys, xs = [.ref p] ∧ (SqL G.K H p ys ∨ SqT G.K H p ys) ∧ ∀ l, H l = none → Q (.ref l) (upd H l (.lst ys))) oList := fun S H xs ds z hS hr hz Q q => by
  unfold oList at hz
  split at hz
  · cases hz
    obtain ⟨v, rfl, r⟩ := rp1 hr
    obtain ⟨a, vs, rfl, ha, ra⟩ := rp_lst r
    exact ⟨a, vs, rfl, .inl (.inl (.inl (hS _ _ ha))), fun l hl => q _ _ (.lst hS hl ra)⟩
  · cases hz
    obtain ⟨v, rfl, r⟩ := rp1 hr
    obtain ⟨a, vs, rfl, ha, ra⟩ := rp_tup r
    exact ⟨a, vs, rfl, .inr (same_t hS ha), fun l hl => q _ _ (.lst hS hl ra)⟩
  · cases hz
def oTuple : List D → M Rs
  | [.lst xs] => .ok (.fz (.tup xs))
  | [.tup xs] => .ok (.fz (.tup xs))
  | _ => .bad
theorem cs_tuple : CallS G (fun xs H Q => ∃ p ys, xs = [.ref p] ∧ ((SqL G.K H p ys ∧ ∀ l, H l = none → Q (.ref l) (upd H l (.tup ys))) ∨ (SqT G.K H p ys ∧ Q (.ref p) H))) oTuple := fun S H xs ds z hS hr hz Q q => by
  unfold oTuple at hz
  split at hz
  · cases hz
    obtain ⟨v, rfl, r⟩ := rp1 hr
    obtain ⟨a, vs, rfl, ha, ra⟩ := rp_lst r
    exact ⟨a, vs, rfl, .inl ⟨.inl (.inl (hS _ _ ha)), fun l hl => q _ _ (.tup hS hl ra)⟩⟩
  · cases hz
    obtain ⟨v, rfl, r⟩ := rp1 hr
    obtain ⟨a, vs, rfl, ha, ra⟩ := rp_tup r
    exact ⟨a, vs, rfl, .inr ⟨same_t hS ha, q _ _ (.val hS r)⟩⟩
  · cases hz
def oInt : List D → M Rs
  | [.int i] => .ok (.fz (.int i))
  | [.bl b] => .ok (.fz (.int (if b then 1 else 0)))
  | _ => .bad
theorem cs_int : CallS G (fun xs H Q => (∃ i, xs = [.int i] ∧ Q (.int i) H) ∨ ∃ k, xs = [.bl k] ∧ Q (.int (if k then 1 else 0)) H) oInt := fun S H xs ds z hS hr hz Q q => by
  unfold oInt at hz
  split at hz
  · cases hz
    obtain ⟨v, rfl, r⟩ := rp1 hr
    rw [rp_int r]
    exact .inl ⟨_, rfl, q _ _ (.val hS (.int _))⟩
  · cases hz
    obtain ⟨v, rfl, r⟩ := rp1 hr
    rw [rp_bl r]
    exact .inr ⟨_, rfl, q _ _ (.val hS (.int _))⟩
  · cases hz
def oAbs : List D → M Rs
  | [.int i] => .ok (.fz (.int (if i < 0 then -i else i)))
  | _ => .bad
theorem cs_abs : CallS G (fun xs H Q => ∃ i, xs = [.int i] ∧ Q (.int (if i < 0 then -i else i)) H) oAbs := fun S H xs ds z hS hr hz Q q => by
  unfold oAbs at hz
  split at hz
  · cases hz
    obtain ⟨v, rfl, r⟩ := rp1 hr
    rw [rp_int r]
    exact ⟨_, rfl, q _ _ (.val hS (.int _))⟩
  · cases hz
def oII (g : Int → Int → Int) : List D → M Rs
  | [.int i, .int j] => .ok (.fz (.int (g i j)))
  | _ => .bad
theorem cs_II {g : Int → Int → Int} : CallS G (fun xs H Q => ∃ i j, xs = [.int i, .int j] ∧ Q (.int (g i j)) H) (oII g) := fun S H xs ds z hS hr hz Q q => by
  unfold oII at hz
  split at hz
  · cases hz
    obtain ⟨v, w, rfl, r, r2⟩ := rp2 hr
    rw [rp_int r, rp_int r2]
    exact ⟨_, _, rfl, q _ _ (.val hS (.int _))⟩
  · cases hz
def oMax2 : List D → M Rs := oII fun i j => if j > i then j else i
def oMin2 : List D → M Rs := oII fun i j => if j < i then j else i
def oGcd : List D → M Rs := oII fun i j => ((Nat.gcd i.natAbs j.natAbs : Nat) : Int)
end
end DL
end

section
set_option maxRecDepth 100000
set_option maxHeartbeats 4000000
namespace DL
open PySem PySem.Spec PyProof.Rows L2

/-! ### the state changes -/
section
variable {G : GC} {hid : Addr → Prop} {H0 H H1 : Hp} {env : Env} {σ : L2.St}
abbrev Gro (hid : Addr → Prop) (env : Env) (σ : L2.St) (H : Hp) (env' : Env) (σ' : L2.St) (H' : Hp) : Prop := Same (cut (Z hid env σ) H) (cut (Z hid env' σ') H')
theorem own_set_fz {i : Nat} {d : D} {v : Option V} {q : Addr} (h : Own (env.set i (.fz d)) (σ.set i v) q) : Own env σ q := by
  obtain ⟨j, ds, a, b⟩ := h
  by_cases e : i = j
  · subst e
    by_cases hl : i < env.length
    · rw [List.getElem?_set_self hl] at a; cases a
    · rw [List.getElem?_eq_none (by simp; omega)] at a; cases a
  · rw [List.getElem?_set_ne e] at a b
    exact ⟨j, ds, a, b⟩
theorem own_set_ow {i : Nat} {d : List D} {p : Addr} {q : Addr} (h : Own (env.set i (.ow d)) (σ.set i (some (.ref p))) q) (hl : env.length = σ.length) : q = p ∨ Own env σ q := by
  obtain ⟨j, ds, a, b⟩ := h
  by_cases e : i = j
  · subst e
    by_cases hl' : i < env.length
    · rw [List.getElem?_set_self (by omega)] at b
      cases b
      exact .inl rfl
    · rw [List.getElem?_eq_none (by simp; omega)] at a; cases a
  · rw [List.getElem?_set_ne e] at a b
    exact .inr ⟨j, ds, a, b⟩
theorem Real.setFz (R : Real G hid H0 env σ H) {i : Nat} {v : V} {d : D} (h : Rp G (cut (Z hid env σ) H) v d) : Real G hid H0 (env.set i (.fz d)) (σ.set i (some v)) H ∧ Gro hid env σ H (env.set i (.fz d)) (σ.set i (some v)) H := by
  have sub : Gro hid env σ H (env.set i (.fz d)) (σ.set i (some v)) H := cut_sub fun a z => z.imp id own_set_fz
  refine ⟨⟨by simp [R.len], fun j d' e => ?_, fun j ds e => ?_, fun j k ds es p a b c d' => ?_, R.base, fun p o => R.fresh p (own_set_fz o), R.hidb⟩, sub⟩
  · by_cases q : i = j
    · subst q
      by_cases hl : i < env.length
      · rw [List.getElem?_set_self hl] at e
        cases e
        exact ⟨v, by rw [List.getElem?_set_self (by rw [← R.len]; exact hl)], h.mono sub⟩
      · rw [List.getElem?_eq_none (by simp; omega)] at e; cases e
    · rw [List.getElem?_set_ne q] at e ⊢
      obtain ⟨w, a, b⟩ := R.fz j d' e
      exact ⟨w, a, b.mono sub⟩
  · by_cases q : i = j
    · subst q
      by_cases hl : i < env.length
      · rw [List.getElem?_set_self hl] at e
        cases e
      · rw [List.getElem?_eq_none (by simp; omega)] at e; cases e
    · rw [List.getElem?_set_ne q] at e ⊢
      obtain ⟨p, vs, a, b, c⟩ := R.ow j ds e
      exact ⟨p, vs, a, b, c.mono sub⟩
  · have ne : ∀ (j : Nat) (es : List D), (env.set i (.fz d))[j]? = some (.ow es) → i ≠ j := fun j es e q => by
      subst q
      by_cases hl : i < env.length
      · rw [List.getElem?_set_self hl] at e
        cases e
      · rw [List.getElem?_eq_none (by simp; omega)] at e; cases e
    have n1 := ne _ _ a
    have n2 := ne _ _ b
    rw [List.getElem?_set_ne n1] at a c
    rw [List.getElem?_set_ne n2] at b d'
    exact R.inj j k ds es p a b c d'
theorem Real.setOw (R : Real G hid H0 env σ H) (s : Same H H1) {i : Nat} {p : Addr} {vs : List V} {ds : List D} (hp : H p = none) (h1 : H1 p = some (.lst vs)) (h : RpAll G (cut (fun a => Z hid env σ a ∨ a = p) H1) vs ds) :
    Real G hid H0 (env.set i (.ow ds)) (σ.set i (some (.ref p))) H1 ∧ Gro hid env σ H (env.set i (.ow ds)) (σ.set i (some (.ref p))) H1 := by
  have zz : ∀ a, Z hid (env.set i (.ow ds)) (σ.set i (some (.ref p))) a → Z hid env σ a ∨ a = p := fun a z => by
    rcases z with z | z
    · exact .inl (.inl z)
    · rcases own_set_ow z R.len with e | e
      · exact .inr e
      · exact .inl (.inr e)
  have sub1 : Same (cut (fun a => Z hid env σ a ∨ a = p) H1) (cut (Z hid (env.set i (.ow ds)) (σ.set i (some (.ref p)))) H1) := cut_sub zz
  have sub0 : Same (cut (Z hid env σ) H) (cut (fun a => Z hid env σ a ∨ a = p) H1) := fun a o e => by
    by_cases z : Z hid env σ a
    · rw [cut_pos z] at e; cases e
    · rw [cut_neg z] at e
      rw [cut_neg]
      · exact s a o e
      · rintro (w | rfl)
        · exact z w
        · rw [hp] at e; cases e
  have sub := sub0.trans sub1
  have H0p : H0 p = none := R.base.free hp
  have notOwn : ∀ (j : Nat) (es : List D), env[j]? = some (.ow es) → σ[j]? ≠ some (some (.ref p)) := fun j es a b => by
    obtain ⟨q, ws, c, d, _⟩ := R.ow j es a
    rw [b] at c
    cases c
    rw [hp] at d
    cases d
  refine ⟨⟨by simp [R.len], fun j d' e => ?_, fun j es e => ?_, fun j k es es' q a b c d' => ?_, R.base.trans s, fun q o => ?_, (R.mono s).hidb⟩, sub⟩
  · by_cases q : i = j
    · subst q
      by_cases hl : i < env.length
      · rw [List.getElem?_set_self hl] at e
        cases e
      · rw [List.getElem?_eq_none (by simp; omega)] at e; cases e
    · rw [List.getElem?_set_ne q] at e ⊢
      obtain ⟨w, a, b⟩ := R.fz j d' e
      exact ⟨w, a, b.mono sub⟩
  · by_cases q : i = j
    · subst q
      by_cases hl : i < env.length
      · rw [List.getElem?_set_self hl] at e
        cases e
        exact ⟨p, vs, by rw [List.getElem?_set_self (by rw [← R.len]; exact hl)], h1, h.mono sub1⟩
      · rw [List.getElem?_eq_none (by simp; omega)] at e; cases e
    · rw [List.getElem?_set_ne q] at e ⊢
      obtain ⟨p', ws, a, b, c⟩ := R.ow j es e
      exact ⟨p', ws, a, s _ _ b, c.mono sub⟩
  · have cs : ∀ (j : Nat) (es : List D), (env.set i (.ow ds))[j]? = some (.ow es) → (σ.set i (some (.ref p)))[j]? = some (some (.ref q)) → (i = j ∧ q = p) ∨ (i ≠ j ∧ env[j]? = some (.ow es) ∧ σ[j]? = some (some (.ref q))) := fun j es a c => by
      by_cases e : i = j
      · subst e
        by_cases hl : i < env.length
        · rw [List.getElem?_set_self (by rw [← R.len]; exact hl)] at c
          cases c
          exact .inl ⟨rfl, rfl⟩
        · rw [List.getElem?_eq_none (by simp; omega)] at a; cases a
      · rw [List.getElem?_set_ne e] at a c
        exact .inr ⟨e, a, c⟩
    rcases cs j es a c with ⟨e1, e2⟩ | ⟨e1, e2, e3⟩
    · rcases cs k es' b d' with ⟨f1, f2⟩ | ⟨f1, f2, f3⟩
      · rw [← e1, ← f1]
      · rw [e2] at f3
        exact absurd f3 (notOwn _ _ f2)
    · rcases cs k es' b d' with ⟨f1, f2⟩ | ⟨f1, f2, f3⟩
      · rw [f2] at e3
        exact absurd e3 (notOwn _ _ e2)
      · exact R.inj j k es es' q e2 f2 e3 f3
  · rcases own_set_ow o R.len with e | e
    · rw [e]; exact ⟨H0p, fun h => R.hidb p h hp⟩
    · exact R.fresh q e
theorem cut_upd {X : Addr → Prop} {p : Addr} {o : HO} (h : X p) : cut X (upd H p o) = cut X H := by
  funext a
  by_cases e : a = p
  · subst e
    rw [cut_pos h, cut_pos h]
  · unfold cut
    rw [upd_ne e]
/-- the list of its own in slot i is changed -/
theorem Real.chg (R : Real G hid H0 env σ H) {i : Nat} {ds ds' : List D} (hi : env[i]? = some (.ow ds)) {p : Addr} {vs' : List V} (hp : σ[i]? = some (some (.ref p))) (h : RpAll G (cut (Z hid env σ) H) vs' ds') :
    Real G hid H0 (env.set i (.ow ds')) σ (upd H p (.lst vs')) ∧ Gro hid env σ H (env.set i (.ow ds')) σ (upd H p (.lst vs')) := by
  have hil : i < env.length := (List.getElem?_eq_some_iff.mp hi).1
  have own : ∀ q, Own (env.set i (.ow ds')) σ q ↔ Own env σ q := fun q => by
    constructor
    · rintro ⟨j, es, a, b⟩
      by_cases e : i = j
      · subst e
        exact ⟨i, ds, hi, b⟩
      · rw [List.getElem?_set_ne e] at a
        exact ⟨j, es, a, b⟩
    · rintro ⟨j, es, a, b⟩
      by_cases e : i = j
      · subst e
        exact ⟨i, ds', by rw [List.getElem?_set_self hil], b⟩
      · exact ⟨j, es, by rw [List.getElem?_set_ne e]; exact a, b⟩
  have zz : Z hid (env.set i (.ow ds')) σ = Z hid env σ := by
    funext a
    exact propext (or_congr Iff.rfl (own a))
  have pz : Z hid env σ p := .inr ⟨i, ds, hi, hp⟩
  have ce : cut (Z hid (env.set i (.ow ds')) σ) (upd H p (.lst vs')) = cut (Z hid env σ) H := by rw [zz, cut_upd pz]
  refine ⟨⟨by simp [R.len], fun j d' e => ?_, fun j es e => ?_, fun j k es es' q a b c d' => ?_, fun a o e => ?_, fun q o => R.fresh q ((own q).mp o), fun a h => ?_⟩, by show Same _ _; rw [ce]; exact Same.refl _⟩
  · rw [ce]
    by_cases q : i = j
    · subst q
      rw [List.getElem?_set_self hil] at e
      cases e
    · rw [List.getElem?_set_ne q] at e
      exact R.fz j d' e
  · rw [ce]
    by_cases q : i = j
    · subst q
      rw [List.getElem?_set_self hil] at e
      cases e
      exact ⟨p, vs', hp, upd_same, h⟩
    · rw [List.getElem?_set_ne q] at e
      obtain ⟨q', ws, a, b, c⟩ := R.ow j es e
      have : q' ≠ p := fun z => q (R.inj i j ds es p hi e hp (by rw [← z]; exact a))
      exact ⟨q', ws, a, by rw [upd_ne this]; exact b, c⟩
  · have gen : ∀ (j : Nat) (es : List D), (env.set i (.ow ds'))[j]? = some (.ow es) → ∃ es', env[j]? = some (.ow es') := fun j es a => by
      by_cases e : i = j
      · subst e; exact ⟨ds, hi⟩
      · rw [List.getElem?_set_ne e] at a; exact ⟨es, a⟩
    obtain ⟨_, a'⟩ := gen _ _ a
    obtain ⟨_, b'⟩ := gen _ _ b
    exact R.inj j k _ _ q a' b' c d'
  · have : a ≠ p := fun z => by
      rw [z, (R.fresh p ⟨i, ds, hi, hp⟩).1] at e
      cases e
    rw [upd_ne this]
    exact R.base a o e
  · by_cases e : a = p
    · rw [e, upd_same]; simp
    · rw [upd_ne e]; exact R.hidb a h
end

/-! ### statements -/
inductive So where
  | bad | nx (env : Env) | rt (r : Rs) | bk (env : Env) | ct (env : Env) | ex (x : Exc) (env : Env)
def RetR (G : GC) (hid : Addr → Prop) (H0 H' : Hp) (v : V) : Rs → Prop
  | .fz d => Same H0 H' ∧ Rp G (cut hid H') v d
  | .ow ds => Same H0 H' ∧ ∃ p vs, v = .ref p ∧ H0 p = none ∧ H' p = some (.lst vs) ∧ RpAll G (cut (fun a => hid a ∨ a = p) H') vs ds
def PostS (G : GC) (W : WX) (hid : Addr → Prop) (H0 : Hp) (env : Env) (σ : L2.St) (H : Hp) (D : Ends) : So → Prop
  | .bad => False
  | .nx e' => ∀ σ' H', Real G hid H0 e' σ' H' → Gro hid env σ H e' σ' H' → D.nx σ' H'
  | .bk e' => ∀ σ' H', Real G hid H0 e' σ' H' → Gro hid env σ H e' σ' H' → D.bk σ' H'
  | .ct e' => ∀ σ' H', Real G hid H0 e' σ' H' → Gro hid env σ H e' σ' H' → D.ct σ' H'
  | .rt r => ∀ v H', RetR G hid H0 H' v r → D.rt v H'
  | .ex x e' => ∀ c d σ' H', Real G hid H0 e' σ' H' → Gro hid env σ H e' σ' H' → ExR G (cut (Z hid e' σ') H') H' x c d → W c d σ' H'
def tDS (G : GC) (W : WX) (g : Env → So) : TS := fun D σ H => ∃ hid H0 env, Real G hid H0 env σ H ∧ PostS G W hid H0 env σ H D (g env)
structure DS (G : GC) (W : WX) (X : Cx) (st : Stmt) (g : Env → So) : Prop where
  ps : PS X st (tDS G W g)
structure DSs (G : GC) (W : WX) (X : Cx) (st : List Stmt) (g : Env → So) : Prop where
  ps : PSs X st (tDS G W g)
theorem weakS {X : Cx} {e : Stmt} {t u : TS} (h : PS X e t) (w : ∀ D σ H, u D σ H → t D σ H) : PS X e u := ⟨fun pins s σ H D I q => h.run pins s σ H D I (w D σ H q)⟩
theorem weakSs {X : Cx} {e : List Stmt} {t u : TS} (h : PSs X e t) (w : ∀ D σ H, u D σ H → t D σ H) : PSs X e u := ⟨fun pins s σ H D I q => h.run pins s σ H D I (w D σ H q)⟩

section
variable {G : GC} {W : WX} {X : Cx} {pos : Pos}
/-- what a statement makes of an expression's value -/
def ofM {α : Type} (m : M α) (env : Env) (A : List Nat) (k : α → So) : So := match m with | .bad => .bad | .ok a => k a | .ex x => .ex x (fzAll A env)
mutual
/-- no list within -/
def D.nol : D → Bool
  | .non => true | .bl _ => true | .int _ => true | .str _ => true | .tup ds => D.nolAll ds | .lst _ => false | .scr _ => false | .obj _ fs => D.nolFs fs
def D.nolAll : List D → Bool
  | [] => true
  | d :: ds => D.nol d && D.nolAll ds
def D.nolFs : List (Str × D) → Bool
  | [] => true
  | (_, d) :: ds => D.nol d && D.nolFs ds
end
def Rs.nol : Rs → Bool | .fz d => d.nol | .ow ds => D.nolAll ds
/-- data without lists do not lean on lists -/
def Nl (H H' : Hp) : Prop := ∀ a o, H a = some o → (∀ xs, o ≠ .lst xs) → H' a = some o
theorem nl_t {K : PySem.W.Frag} {H H' : Hp} {a : Addr} {xs : List V} (e : Nl H H') (h : SqT K H a xs) : SqT K H' a xs := by
  rcases h with (h | ⟨o, h⟩) | h
  · exact .inl (.inl (e _ _ h (by simp)))
  · exact .inl (.inr ⟨o, e _ _ h (by simp)⟩)
  · exact .inr h
mutual
theorem Rp.nl {H H' : Hp} (e : Nl H H') : ∀ {v : V} {d : D}, d.nol = true → Rp G H v d → Rp G H' v d
  | _, _, _, .non => .non
  | _, _, _, .bl b => .bl b
  | _, _, _, .int i => .int i
  | _, _, _, .str x => .str x
  | _, _, h, .lst _ _ => by cases h
  | _, _, h, .scr _ => by cases h
  | _, _, h, .tup t r => .tup (nl_t e t) (RpAll.nl e h r)
  | _, _, h, .obj c t r => .obj c (e _ _ t (by simp)) (RpFs.nl e h r)
theorem RpAll.nl {H H' : Hp} (e : Nl H H') : ∀ {vs : List V} {ds : List D}, D.nolAll ds = true → RpAll G H vs ds → RpAll G H' vs ds
  | _, _, _, .nil => .nil
  | _, _, h, .cons a r => by
    unfold D.nolAll at h
    rw [Bool.and_eq_true] at h
    exact .cons (Rp.nl e h.1 a) (RpAll.nl e h.2 r)
theorem RpFs.nl {H H' : Hp} (e : Nl H H') : ∀ {vs : List (Str × V)} {ds : List (Str × D)}, D.nolFs ds = true → RpFs G H vs ds → RpFs G H' vs ds
  | _, _, _, .nil => .nil
  | _, _, h, .cons a r => by
    unfold D.nolFs at h
    rw [Bool.and_eq_true] at h
    exact .cons (Rp.nl e h.1 a) (RpFs.nl e h.2 r)
end
def frzIf (r : Rs) (A : List Nat) (env : Env) : Env := if r.nol then env else fzAll A env
theorem nl_own {hid : Addr → Prop} {H0 H : Hp} {env : Env} {σ : L2.St} {X Y : Addr → Prop} (R : Real G hid H0 env σ H) (hX : ∀ a, X a → Y a ∨ Own env σ a) : Nl (cut Y H) (cut X H) := fun a o e n => by
  by_cases y : Y a
  · rw [cut_pos y] at e; cases e
  · rw [cut_neg y] at e
    rw [cut_neg]
    · exact e
    · intro x
      rcases hX a x with z | z
      · exact y z
      · obtain ⟨vs, q⟩ := R.owned z
        rw [q] at e
        cases e
        exact n vs rfl
theorem Res.frzIf {hid : Addr → Prop} {A : List Nat} {env : Env} {σ : L2.St} {H0 H H' : Hp} {v : V} {r : Rs} (R : Real G hid H0 env σ H') (h : Res G hid A env σ H H' v r) : Res G hid [] (frzIf r A env) σ H H' v r := by
  unfold DL.frzIf
  cases e : r.nol with
  | false => exact h
  | true =>
    show Res G hid [] env σ H H' v r
    cases r with
    | fz d => exact Rp.nl (nl_own R fun a z => z.imp .inl id) e h
    | ow ds =>
      obtain ⟨p, vs, a, b, c, d⟩ := h
      refine ⟨p, vs, a, b, c, RpAll.nl (nl_own R fun a z => ?_) e d⟩
      rcases z with z | z
      · exact z.imp (fun w => .inl (.inl w)) id
      · exact .inl (.inr z)
theorem Real.frzIf {hid : Addr → Prop} {H0 H : Hp} {env : Env} {σ : L2.St} (R : Real G hid H0 env σ H) (r : Rs) (A : List Nat) : Real G hid H0 (frzIf r A env) σ H ∧ Gro hid env σ H (DL.frzIf r A env) σ H := by
  unfold DL.frzIf
  split
  · exact ⟨R, Same.refl _⟩
  · exact ⟨R.frz A, cut_sub fun _ => z_fz⟩
theorem Gro.left {hid : Addr → Prop} {env env' : Env} {σ σ' : L2.St} {H H1 H' : Hp} (s : Same H H1) (g : Gro hid env σ H1 env' σ' H') : Gro hid env σ H env' σ' H' := (cut_ex s).trans g
/-- an expression runs, then the rest -/
theorem expr_run {A : List Nat} {f : Env → M Rs} {k : Env → Rs → So} {D : Ends} {σ : L2.St} {H : Hp} {T : V → Hp → Prop} (h : tDS G W (fun env => ofM (f env) env A (k env)) D σ H)
    (hT : ∀ hid H0 env r v H', Real G hid H0 env σ H → Same H H' → f env = .ok r → Res G hid A env σ H H' v r → PostS G W hid H0 env σ H D (k env r) → T v H') : tDE G W A f σ H T := by
  obtain ⟨hid, H0, env, R, h⟩ := h
  refine ⟨hid, H0, env, R, ?_⟩
  have h : PostS G W hid H0 env σ H D (ofM (f env) env A (k env)) := h
  cases e : f env with
  | bad => rw [e] at h; exact h
  | ok r =>
    rw [e] at h
    exact fun v H' s q => hT hid H0 env r v H' R s e q h
  | ex x =>
    rw [e] at h
    exact fun c d H' s q => h c d σ H' ((R.mono s).frz A) ((cut_ex s).trans (cut_sub fun _ => z_fz)) q
def sSet (i : Nat) (A : List Nat) (f : Env → M Rs) : Env → So := fun env => ofM (f env) env A fun r => .nx ((frzIf r A env).set i r.sl)
theorem set_run {hid : Addr → Prop} {H0 : Hp} {A : List Nat} {env : Env} {σ : L2.St} {H H' : Hp} {v : V} {r : Rs} {i : Nat} (R : Real G hid H0 env σ H) (s : Same H H') (h : Res G hid A env σ H H' v r) :
    Real G hid H0 ((frzIf r A env).set i r.sl) (σ.set i (some v)) H' ∧ Gro hid env σ H ((frzIf r A env).set i r.sl) (σ.set i (some v)) H' := by
  obtain ⟨R1, g1⟩ := R.frzIf r A
  have h1 := h.frzIf (R.mono s)
  cases r with
  | fz d =>
    obtain ⟨R2, g2⟩ := (R1.mono s).setFz (i := i) (v := v) (d := d) h1
    exact ⟨R2, g1.trans ((cut_ex s).trans g2)⟩
  | ow ds =>
    obtain ⟨p, vs, rfl, hp, hq, hr⟩ := h1
    obtain ⟨R2, g2⟩ := R1.setOw s (i := i) hp hq hr
    exact ⟨R2, g1.trans g2⟩
theorem ds_set {i : Nat} {x : Str} {e : Expr} {pos' : Pos} {A : List Nat} {f : Env → M Rs} (hN : X.N.Nodup) (hi : X.N[i]? = some x) (hx : Loc X.env.scope x) (he : DE G W X e A f) (hs : swapsWith e (some (.Name x pos')) pos.line X.env = pure false := by rfl)
    (hf : X.fn x = true ∨ X.env.scope.names.lookup x = some .local := by first | exact .inl rfl | exact .inr rfl | assumption) : DS G W X (.Assign [.Name x pos'] e pos) (sSet i A f) :=
  ⟨weakS (ps_set hN hi hx he.pe hs hf) fun D σ H h => expr_run (f := f) (k := fun env r => .nx ((frzIf r A env).set i r.sl)) h fun hid H0 env r v H' R s e q p => by
    obtain ⟨R2, g⟩ := set_run (i := i) R s q
    exact p _ _ R2 g⟩
def sRet (A : List Nat) (f : Env → M Rs) : Env → So := fun env => ofM (f env) env A fun r => .rt r
theorem ret_run {hid : Addr → Prop} {H0 : Hp} {A : List Nat} {env : Env} {σ : L2.St} {H H' : Hp} {v : V} {r : Rs} (R : Real G hid H0 env σ H) (s : Same H H') (h : Res G hid A env σ H H' v r) : RetR G hid H0 H' v r := by
  cases r with
  | fz d => exact ⟨R.base.trans s, Rp.mono (cut_sub fun a z => .inl z) h⟩
  | ow ds =>
    obtain ⟨p, vs, rfl, hp, hq, hr⟩ := h
    exact ⟨R.base.trans s, p, vs, rfl, R.base.free hp, hq, hr.mono (cut_sub fun a z => z.imp .inl id)⟩
theorem ds_ret {e : Expr} {A : List Nat} {f : Env → M Rs} (he : DE G W X e A f) : DS G W X (.Return (some e) pos) (sRet A f) :=
  ⟨weakS (ps_ret he.pe) fun D σ H h => expr_run (f := f) (k := fun env r => .rt r) h fun hid H0 env r v H' R s e q p => p v H' (ret_run R s q)⟩
/-- return x: a list of its own goes out as one -/
def sRetV (i : Nat) : Env → So := fun env => match env.getD i .un with | .un => .bad | .fz d => .rt (.fz d) | .ow ds => .rt (.ow ds)
theorem getD_some {env : Env} {i : Nat} {s : Sl} (h : env.getD i .un = s) (hs : s ≠ .un) : env[i]? = some s := by
  rw [List.getD_eq_getElem?_getD] at h
  cases e : env[i]? with
  | none => rw [e] at h; exact absurd h.symm hs
  | some x => rw [e] at h; rw [← h]; rfl
theorem ds_retV (i : Nat) {x : Str} {p' : Pos} (hN : X.N[i]? = some x := by rfl) (hv : Vis X.env.scope x := by first | exact Or.inl rfl | exact Or.inr (Or.inl rfl) | exact Or.inr (Or.inr rfl)) (hd : (x == ("__debug__" : Str)) = false := by decide)
    (hcd : (x == ("__classdict__" : Str)) = false := by decide) : DS G W X (.Return (some (.Name x p')) pos) (sRetV i) :=
  ⟨weakS (ps_ret (pe_var hN hv hd hcd)) fun D σ H h => by
    obtain ⟨hid, H0, env, R, h⟩ := h
    show ∃ v, _
    unfold sRetV at h
    cases e : env.getD i .un with
    | un => rw [e] at h; exact h.elim
    | fz d =>
      rw [e] at h
      obtain ⟨v, a, b⟩ := R.fz i d (getD_some e (by simp))
      exact ⟨v, a, h v H ⟨R.base, b.mono (cut_sub fun a z => .inl z)⟩⟩
    | ow ds =>
      rw [e] at h
      obtain ⟨p, vs, a, b, c⟩ := R.ow i ds (getD_some e (by simp))
      have o : Own env σ p := ⟨i, ds, getD_some e (by simp), a⟩
      refine ⟨.ref p, a, h _ H ⟨R.base, p, vs, rfl, (R.fresh p o).1, b, c.mono (cut_sub fun a z => ?_)⟩⟩
      rcases z with z | rfl
      · exact .inl z
      · exact .inr o⟩
def sRetN : Env → So := fun _ => .rt (.fz .non)
theorem ds_retN : DS G W X (.Return none pos) sRetN := ⟨weakS ps_retN fun D σ H h => by
  obtain ⟨hid, H0, env, R, h⟩ := h
  exact h .non H ⟨R.base, .non⟩⟩
def sNext : Env → So := .nx
theorem ds_pass : DS G W X (.Pass pos) sNext := ⟨weakS ps_pass fun D σ H ⟨hid, H0, env, R, h⟩ => h σ H R (Same.refl _)⟩
theorem ds_doc {x : Str} {j : Nat} {pos' : Pos} : DS G W X (.Expr (.Constant (.str x) j pos) pos') sNext := ⟨weakS ps_doc fun D σ H ⟨hid, H0, env, R, h⟩ => h σ H R (Same.refl _)⟩
theorem ds_break : DS G W X (.Break pos) .bk := ⟨weakS ps_break fun D σ H ⟨hid, H0, env, R, h⟩ => h σ H R (Same.refl _)⟩
theorem ds_continue : DS G W X (.Continue pos) .ct := ⟨weakS ps_continue fun D σ H ⟨hid, H0, env, R, h⟩ => h σ H R (Same.refl _)⟩
def sDrop (A : List Nat) (f : Env → M Rs) : Env → So := fun env => ofM (f env) env A fun _ => .nx env
theorem ds_expr {e : Expr} {A : List Nat} {f : Env → M Rs} (he : DE G W X e A f) (hs : swapsWith e none pos.line X.env = pure false := by rfl) : DS G W X (.Expr e pos) (sDrop A f) :=
  ⟨weakS (ps_expr he.pe hs) fun D σ H h => expr_run (f := f) (k := fun env r => .nx env) h fun hid H0 env r v H' R s e q p => p σ H' (R.mono s) (cut_ex s)⟩
/-! blocks -/
def So.andThen (s : So) (g : Env → So) : So := match s with | .nx e => g e | s => s
def sSeq (f g : Env → So) : Env → So := fun env => (f env).andThen g
theorem PostS.gro {hid : Addr → Prop} {H0 : Hp} {env e1 : Env} {σ σ1 : L2.St} {H H1 : Hp} {D : Ends} {s : So} (g : Gro hid env σ H e1 σ1 H1) (h : PostS G W hid H0 env σ H D s) : PostS G W hid H0 e1 σ1 H1 D s := by
  cases s with
  | bad => exact h
  | nx e' => exact fun σ' H' R q => h σ' H' R (g.trans q)
  | bk e' => exact fun σ' H' R q => h σ' H' R (g.trans q)
  | ct e' => exact fun σ' H' R q => h σ' H' R (g.trans q)
  | rt r => exact h
  | ex x e' => exact fun c d σ' H' R q => h c d σ' H' R (g.trans q)
theorem dss_nil : DSs G W X [] sNext := ⟨weakSs pss_nil fun D σ H ⟨hid, H0, env, R, h⟩ => h σ H R (Same.refl _)⟩
theorem dss_one {st : Stmt} {g : Env → So} (h : DS G W X st g) : DSs G W X [st] g := ⟨pss_one h.ps⟩
theorem dss_cons {st : Stmt} {rest : List Stmt} {f g : Env → So} (h1 : DS G W X st f) (h2 : DSs G W X rest g) : DSs G W X (st :: rest) (sSeq f g) :=
  ⟨weakSs (pss_cons h1.ps h2.ps) fun D σ H ⟨hid, H0, env, R, h⟩ => by
    refine ⟨hid, H0, env, R, ?_⟩
    unfold sSeq at h
    cases e : f env with
    | nx e' =>
      rw [e] at h
      exact fun σ' H' R' g' => ⟨hid, H0, e', R', PostS.gro g' h⟩
    | bad => rw [e] at h; exact h
    | bk e' => rw [e] at h; exact h
    | ct e' => rw [e] at h; exact h
    | rt e' => rw [e] at h; exact h
    | ex x e' => rw [e] at h; exact h⟩
/-! if -/
def sIf (A : List Nat) (c : Env → M Bool) (f g : Env → So) : Env → So := fun env => ofM (c env) env A fun b => if b then f env else g env
theorem test_run {A : List Nat} {c : Env → M Bool} {k : Env → Bool → So} {D : Ends} {σ : L2.St} {H : Hp} {T : Bool → Hp → Prop} (h : tDS G W (fun env => ofM (c env) env A (k env)) D σ H)
    (hT : ∀ hid H0 env b H', Real G hid H0 env σ H → Same H H' → c env = .ok b → PostS G W hid H0 env σ H D (k env b) → T b H') : tDT G W A c σ H T := by
  obtain ⟨hid, H0, env, R, h⟩ := h
  refine ⟨hid, H0, env, R, ?_⟩
  have h : PostS G W hid H0 env σ H D (ofM (c env) env A (k env)) := h
  cases e : c env with
  | bad => rw [e] at h; exact h
  | ok r =>
    rw [e] at h
    exact fun H' s => hT hid H0 env r H' R s e h
  | ex x =>
    rw [e] at h
    exact fun c d H' s q => h c d σ H' ((R.mono s).frz A) ((cut_ex s).trans (cut_sub fun _ => z_fz)) q
theorem ds_if {c : Expr} {a b : List Stmt} {A : List Nat} {f : Env → M Bool} {g k : Env → So} (hc : DT G W X c A f) (ha : DSs G W X a g) (hb : DSs G W X b k) : DS G W X (.If c a b pos) (sIf A f g k) :=
  ⟨weakS (ps_if hc.pt ha.ps hb.ps) fun D σ H h => test_run (c := f) (k := fun env b => if b then g env else k env) h fun hid H0 env b H' R s e p => by
    have p' := PostS.gro (cut_ex s) p
    cases b with
    | true =>
      show tDS G W g D σ H'
      exact ⟨hid, H0, env, R.mono s, p'⟩
    | false =>
      show tDS G W k D σ H'
      exact ⟨hid, H0, env, R.mono s, p'⟩⟩
end
end DL
end

section
set_option maxRecDepth 100000
set_option maxHeartbeats 4000000
namespace DL
open PySem PySem.Spec PyProof.Rows L2
section
variable {G : GC} {W : WX} {X : Cx} {pos : Pos}
theorem Res.rpIf {hid : Addr → Prop} {A : List Nat} {env : Env} {σ : L2.St} {H0 H H' : Hp} {v : V} {r : Rs} (R : Real G hid H0 env σ H) (s : Same H H') (h : Res G hid A env σ H H' v r) : Rp G (cut (Z hid (DL.frzIf r A env) σ) H') v r.d :=
  (Res.frzIf (R.mono s) h).rp (R.frzIf r A).1
/-! ### a list of its own changes -/
def ownAt (env : Env) (i : Nat) (k : List D → So) : So := match env.getD i .un with | .ow ds => k ds | _ => .bad
/-- x.append(e) -/
def sApp (i : Nat) (A : List Nat) (f : Env → M Rs) : Env → So := fun env => ownAt env i fun _ => ofM (f env) env A fun r => ownAt (DL.frzIf r A env) i fun ds => if ds.length < sizeLine then .nx ((DL.frzIf r A env).set i (.ow (ds ++ [r.d]))) else .bad
theorem ownAt_ok {hid : Addr → Prop} {H0 : Hp} {env e0 : Env} {σ : L2.St} {H : Hp} {D : Ends} {i : Nat} {k : List DL.D → So} (h : PostS G W hid H0 e0 σ H D (ownAt env i k)) : ∃ ds, env[i]? = some (.ow ds) ∧ PostS G W hid H0 e0 σ H D (k ds) := by
  unfold ownAt at h
  split at h
  · rename_i ds e
    exact ⟨ds, getD_some e (by simp), h⟩
  · exact h.elim
theorem ds_app (i : Nat) {x : Str} {e : Expr} {p' a' p2 : Pos} {A : List Nat} {f : Env → M Rs} (he : DE G W X e A f) (hN : X.N[i]? = some x := by rfl) (hv : Vis X.env.scope x := by first | exact Or.inl rfl | exact Or.inr (Or.inl rfl) | exact Or.inr (Or.inr rfl))
    (hd : (x == ("__debug__" : Str)) = false := by decide) (hcd : (x == ("__classdict__" : Str)) = false := by decide)
    (hs : swapsWith (.Call (.Attribute (.Name x p') "append" a') [e] [] p2) none pos.line X.env = pure false := by rfl)
    (hst : starEach [e] X.env = (false, eval e X.env) :: starEach [] X.env := by rfl)
    (hb : attributeBase (.Name x p') "append" X.env (eval (.Name x p') X.env) = eval (.Name x p') X.env := by rfl)
    (hpe : PE X (.Name x p') (tVar i) → PA X [e] (tCons (tDE G W A f) tNil) → PE X (.Call (.Attribute (.Name x p') "append" a') [e] [] p2) (tBM X.K "list" rAppend (tVar i) (tCons (tDE G W A f) tNil)) := by
      exact fun h1 h2 => pe_bm PySem.F.plainAttrs_list PySem.F.slot_list_append PySem.F.type_list_append mt_append h1 h2) :
    DS G W X (.Expr (.Call (.Attribute (.Name x p') "append" a') [e] [] p2) pos) (sApp i A f) :=
  ⟨weakS (ps_expr (hpe (pe_var hN hv hd hcd) (pa_cons he.pe pa_nil hst)) hs) fun D σ H h => by
    obtain ⟨hid, H0, env, R, h⟩ := h
    obtain ⟨ds0, e0, h⟩ := ownAt_ok h
    obtain ⟨p, vs0, ep, b0, _⟩ := R.ow i ds0 e0
    refine ⟨.ref p, ep, .inl ⟨rfl, vs0, .inl (.inl b0)⟩, ?_⟩
    refine ⟨hid, H0, env, R, ?_⟩
    cases e : f env with
    | bad => rw [e] at h; exact h
    | ex x =>
      rw [e] at h
      exact fun c d H' s q => h c d σ H' ((R.mono s).frz A) ((cut_ex s).trans (cut_sub fun _ => z_fz)) q
    | ok r =>
      rw [e] at h
      intro v H' s q
      obtain ⟨ds, ei, po⟩ := ownAt_ok h
      obtain ⟨R1, g1⟩ := R.frzIf r A
      obtain ⟨p', vs, a, b, c⟩ := (R1.mono s).ow i ds ei
      rw [ep] at a
      cases a
      have hr := Res.rpIf R s q
      by_cases hl : ds.length < sizeLine
      · rw [if_pos hl] at po
        obtain ⟨R2, g2⟩ := (R1.mono s).chg ei ep (c.app (.cons hr .nil))
        exact ⟨p, vs, v, rfl, rfl, b, by rw [c.len]; exact hl, po _ _ R2 ((g1.trans (cut_ex s)).trans g2)⟩
      · rw [if_neg hl] at po
        exact po.elim⟩
/-- x[k] = e -/
def sSetIx (i : Nat) (A B : List Nat) (f g : Env → M Rs) : Env → So := fun env => ownAt env i fun _ => ofM (f env) env A fun r => ofM (g env) env B fun k => ownAt (DL.frzIf r A env) i fun ds =>
  match k.d with | .int n => (match ixN ds.length n with | some j => .nx ((DL.frzIf r A env).set i (.ow (ds.set j r.d))) | none => .bad) | _ => .bad
theorem ds_setIx (i : Nat) {x : Str} {e k : Expr} {p' tp : Pos} {A B : List Nat} {f g : Env → M Rs} (he : DE G W X e A f) (hk : DE G W X k B g) (hN : X.N[i]? = some x := by rfl) (hv : Vis X.env.scope x := by first | exact Or.inl rfl | exact Or.inr (Or.inl rfl) | exact Or.inr (Or.inr rfl))
    (hd : (x == ("__debug__" : Str)) = false := by decide) (hcd : (x == ("__classdict__" : Str)) = false := by decide)
    (hpg : PE X (.Name x p') (tVar i) → PE X k (tDE G W B g) → PG X (.Subscript (.Name x p') k tp) (gSub (tVar i) (tDE G W B g) rSetL) := by exact fun h1 h2 => pg_sub h1 h2 set_list)
    (hps : PE X e (tDE G W A f) → PG X (.Subscript (.Name x p') k tp) (gSub (tVar i) (tDE G W B g) rSetL) → PS X (.Assign [.Subscript (.Name x p') k tp] e pos) (tAsg (tDE G W A f) (gSub (tVar i) (tDE G W B g) rSetL)) := by exact fun h1 h2 => ps_asg h1 h2) :
    DS G W X (.Assign [.Subscript (.Name x p') k tp] e pos) (sSetIx i A B f g) :=
  ⟨weakS (hps he.pe (hpg (pe_var hN hv hd hcd) hk.pe)) fun D σ H h => by
    obtain ⟨hid, H0, env, R, h⟩ := h
    obtain ⟨ds0, e0, h⟩ := ownAt_ok h
    obtain ⟨p, vs0, ep, b0, _⟩ := R.ow i ds0 e0
    refine ⟨hid, H0, env, R, ?_⟩
    cases e1 : f env with
    | bad => rw [e1] at h; exact h
    | ex x =>
      rw [e1] at h
      exact fun c d H' s q => h c d σ H' ((R.mono s).frz A) ((cut_ex s).trans (cut_sub fun _ => z_fz)) q
    | ok r =>
      rw [e1] at h
      intro v H' s q
      have po : PostS G W hid H0 env σ H D (ofM (g env) env B fun k => ownAt (DL.frzIf r A env) i fun ds => match k.d with | .int n => (match ixN ds.length n with | some j => .nx ((DL.frzIf r A env).set i (.ow (ds.set j r.d))) | none => .bad) | _ => .bad) := h
      obtain ⟨R1, g1⟩ := R.frzIf r A
      have hr := Res.rpIf R s q
      show ∃ o, σ[i]? = some (some o) ∧ tDE G W B g σ H' fun y H2 => rSetL o y v H2 fun H3 => D.nx σ H3
      refine ⟨.ref p, ep, hid, H0, env, R.mono s, ?_⟩
      cases e2 : g env with
      | bad => rw [e2] at po; exact po.elim
      | ex x =>
        rw [e2] at po
        exact fun c d H'' s' q' => po c d σ H'' ((R.mono (s.trans s')).frz B) ((cut_ex (s.trans s')).trans (cut_sub fun _ => z_fz)) q'
      | ok kk =>
        rw [e2] at po
        obtain ⟨ds, ei, po⟩ := ownAt_ok po
        intro y H2 s2 q2
        cases e3 : kk.d with
        | int n =>
          rw [e3] at po
          cases e4 : ixN ds.length n with
          | none => simp only [e4] at po; exact po.elim
          | some j =>
            simp only [e4] at po
            have hy := q2.rp (R.mono s)
            rw [e3] at hy
            have R1' := R1.mono (s.trans s2)
            obtain ⟨p', vs', ep', b', c'⟩ := R1'.ow i ds ei
            rw [ep] at ep'
            cases ep'
            obtain ⟨R2, g2⟩ := R1'.chg ei ep (c'.set (hr.mono (cut_ex s2)) j)
            exact ⟨p, vs', n, j, rfl, rp_int hy, b', by rw [c'.len]; exact e4, po _ _ R2 ((g1.trans (cut_ex (s.trans s2))).trans g2)⟩
        | _ => rw [e3] at po; exact po.elim⟩
end
end DL
end

section
set_option maxRecDepth 100000
set_option maxHeartbeats 4000000
namespace DL
open PySem PySem.Spec PyProof.Rows L2
section
variable {G : GC} {W : WX} {X : Cx} {pos : Pos}
/-! ### targets -/
/-- outside T the slots stay -/
def Agr (T : List Nat) (σ σ' : L2.St) : Prop := σ'.length = σ.length ∧ ∀ i, i ∉ T → σ'[i]? = σ[i]?
theorem Agr.refl (T : List Nat) (σ : L2.St) : Agr T σ σ := ⟨rfl, fun _ _ => rfl⟩
theorem Agr.app {T U : List Nat} {σ σ1 σ2 : L2.St} (a : Agr T σ σ1) (b : Agr U σ1 σ2) : Agr (T ++ U) σ σ2 :=
  ⟨b.1.trans a.1, fun i h => (b.2 i fun z => h (List.mem_append_right _ z)).trans (a.2 i fun z => h (List.mem_append_left _ z))⟩
def tDG (G : GC) (T : List Nat) (t : D → Env → Option Env) : TG := fun v σ H Q => ∃ hid H0 env d e', Real G hid H0 env σ H ∧ Rp G (cut (Z hid env σ) H) v d ∧ t d env = some e' ∧ ∀ σ', Real G hid H0 e' σ' H → Gro hid env σ H e' σ' H → Agr T σ σ' → Q σ' H
def tDGs (G : GC) (T : List Nat) (t : List D → Env → Option Env) : TGs := fun vs σ H Q => ∃ hid H0 env ds e', Real G hid H0 env σ H ∧ RpAll G (cut (Z hid env σ) H) vs ds ∧ t ds env = some e' ∧ ∀ σ', Real G hid H0 e' σ' H → Gro hid env σ H e' σ' H → Agr T σ σ' → Q σ' H
structure DG (G : GC) (X : Cx) (tg : Expr) (T : List Nat) (t : D → Env → Option Env) : Prop where
  pg : PG X tg (tDG G T t)
structure DGs (G : GC) (X : Cx) (tg : List Expr) (T : List Nat) (t : List D → Env → Option Env) : Prop where
  pgs : PGs X tg (tDGs G T t)
def nName (i : Nat) : D → Env → Option Env := fun d env => some (env.set i (.fz d))
def nNil : List D → Env → Option Env := fun ds env => match ds with | [] => some env | _ => none
def nCons (t : D → Env → Option Env) (u : List D → Env → Option Env) : List D → Env → Option Env := fun ds env => match ds with | [] => none | d :: ds => (t d env).bind (u ds)
def nTup (n : Nat) (u : List D → Env → Option Env) : D → Env → Option Env := fun d env => match d with | .tup ds => if ds.length = n then u ds env else none | _ => none
theorem dg_name {i : Nat} {x : Str} (hN : X.N.Nodup) (hi : X.N[i]? = some x) (hx : Loc X.env.scope x) (hf : X.fn x = true ∨ X.env.scope.names.lookup x = some .local := by first | exact .inl rfl | exact .inr rfl | assumption) : DG G X (.Name x pos) [i] (nName i) :=
  ⟨⟨fun pins s σ H v u Q I r ⟨hid, H0, env, d, e', R, h1, h2, h3⟩ => (pg_name hN hi hx hf).run pins s σ H v u Q I r (by
    cases h2
    obtain ⟨R2, g⟩ := R.setFz (i := i) h1
    refine h3 _ R2 g ⟨by simp, fun j hj => ?_⟩
    rw [List.getElem?_set_ne (by intro e; subst e; simp at hj)])⟩⟩
theorem dgs_nil : DGs G X [] [] nNil := ⟨⟨fun pins s σ H vs us Q I r ⟨hid, H0, env, ds, e', R, h1, h2, h3⟩ => pgs_nil.run pins s σ H vs us Q I r (by
  unfold nNil at h2
  split at h2
  · cases h2
    cases h1
    exact ⟨rfl, h3 σ R (Same.refl _) (Agr.refl _ _)⟩
  · cases h2)⟩⟩
theorem dgs_cons {e : Expr} {es : List Expr} {T U : List Nat} {t : D → Env → Option Env} {u : List D → Env → Option Env} (h1 : DG G X e T t) (h2 : DGs G X es U u)
    (hs : PG X e (tDG G T t) → PGs X es (tDGs G U u) → PGs X (e :: es) (gCons (tDG G T t) (tDGs G U u)) := by exact fun a b => pgs_cons a b) : DGs G X (e :: es) (T ++ U) (nCons t u) :=
  ⟨⟨fun pins s σ H vs us Q I r ⟨hid, H0, env, ds, e', R, q1, q2, q3⟩ => (hs h1.pg h2.pgs).run pins s σ H vs us Q I r (by
    cases q1 with
    | nil => cases q2
    | @cons v vs d ds a b =>
      unfold nCons at q2
      cases e1 : t d env with
      | none => rw [show (match d :: ds with | [] => none | d :: ds => (t d env).bind (u ds)) = (t d env).bind (u ds) from rfl, e1] at q2; cases q2
      | some e1' =>
        have q2 : (t d env).bind (u ds) = some e' := q2
        rw [e1] at q2
        refine ⟨v, vs, rfl, hid, H0, env, d, e1', R, a, e1, fun σ' R' g ag => ?_⟩
        exact ⟨hid, H0, e1', ds, e', R', b.mono g, q2, fun σ'' R'' g' ag' => q3 σ'' R'' (g.trans g') (ag.app ag')⟩)⟩⟩
theorem dg_tup {es : List Expr} {k n : Nat} {T : List Nat} {u : List D → Env → Option Env} (hc : X.calm = true) (hk : G.K = X.K) (h : DGs G X es T u) (hn : (assignEach es X.env).length = n := by rfl) (hst : (assignEach es X.env).findIdx? (·.1) = none := by rfl) : DG G X (.Tuple es k pos) T (nTup n u) :=
  ⟨⟨fun pins s σ H v w Q I r ⟨hid, H0, env, d, e', R, q1, q2, q3⟩ => (pg_tup hc h.pgs hn hst).run pins s σ H v w Q I r (by
    unfold nTup at q2
    split at q2
    · split at q2
      · rename_i ds hl
        obtain ⟨a, xs, rfl, ha, ra⟩ := rp_tup q1
        refine ⟨a, xs, rfl, hk ▸ same_t cut_le ha, by rw [ra.len]; exact hl, hid, H0, env, ds, e', R, ra, q2, q3⟩
      · cases q2
    · cases q2)⟩⟩
/-- target = e -/
def ofO (o : Option Env) : So := match o with | none => .bad | some e => .nx e
def sAsg (A : List Nat) (t : D → Env → Option Env) (f : Env → M Rs) : Env → So := fun env => ofM (f env) env A fun r => ofO (t r.d (DL.frzIf r A env))
theorem ds_asg {tg e : Expr} {T : List Nat} {t : D → Env → Option Env} {A : List Nat} {f : Env → M Rs} (he : DE G W X e A f) (hg : DG G X tg T t) (hps : PE X e (tDE G W A f) → PG X tg (tDG G T t) → PS X (.Assign [tg] e pos) (tAsg (tDE G W A f) (tDG G T t)) := by exact fun a b => ps_asg a b) :
    DS G W X (.Assign [tg] e pos) (sAsg A t f) :=
  ⟨weakS (hps he.pe hg.pg) fun D σ H h => expr_run (f := f) (k := fun env r => ofO (t r.d (DL.frzIf r A env))) h fun hid H0 env r v H' R s e q po => by
    obtain ⟨R1, g1⟩ := R.frzIf r A
    have hr := Res.rpIf R s q
    cases e1 : t r.d (DL.frzIf r A env) with
    | none => rw [e1] at po; exact po.elim
    | some e' =>
      rw [e1] at po
      exact ⟨hid, H0, _, r.d, e', R1.mono s, hr, e1, fun σ' R' g _ => po σ' H' R' ((g1.trans (cut_ex s)).trans g)⟩⟩
/-- a, b = e1, e2 -/
def par2 (i j : Nat) (env : Env) : List D → So | [a, b] => .nx ((env.set i (.fz a)).set j (.fz b)) | _ => .bad
def sPar (i j : Nat) (A : List Nat) (f : Env → M (List D)) : Env → So := fun env => ofM (f env) env A fun ds => par2 i j (fzAll A env) ds
theorem ds_par {i j : Nat} {x y : Str} {a b : Expr} {A : List Nat} {f : Env → M (List D)} {px py pt : Pos} {kt k2 : Nat} {pt2 : Pos} (ha : DA G W X [a, b] A f)
    (hps : PA X [a, b] (tDA G W A f) → PS X (.Assign [.Tuple [.Name x px, .Name y py] kt pt] (.Tuple [a, b] k2 pt2) pos) (tPar i j (tDA G W A f))) : DS G W X (.Assign [.Tuple [.Name x px, .Name y py] kt pt] (.Tuple [a, b] k2 pt2) pos) (sPar i j A f) :=
  ⟨weakS (hps ha.pa) fun D σ H h => by
    obtain ⟨hid, H0, env, R, h⟩ := h
    refine ⟨hid, H0, env, R, ?_⟩
    unfold sPar at h
    cases e : f env with
    | bad => rw [e] at h; exact h
    | ex x =>
      rw [e] at h
      exact fun c d H' s q => h c d σ H' ((R.mono s).frz A) ((cut_ex s).trans (cut_sub fun _ => z_fz)) q
    | ok ds =>
      rw [e] at h
      intro vs H' s q
      have h : PostS G W hid H0 env σ H D (par2 i j (fzAll A env) ds) := h
      match ds, q, h with
      | [d1, d2], q, h =>
        obtain ⟨v, w, rfl, q1, q2⟩ := rp2 q
        obtain ⟨R1, g1⟩ := ((R.mono s).frz A).setFz (i := i) q1
        obtain ⟨R2, g2⟩ := R1.setFz (i := j) (q2.mono g1)
        exact ⟨v, w, rfl, h _ _ R2 ((((cut_ex s).trans (cut_sub fun _ => z_fz)).trans g1).trans g2)⟩
      | [], _, h => exact h.elim
      | [_], _, h => exact h.elim
      | _ :: _ :: _ :: _, _, h => exact h.elim⟩
/-- x += e, ints -/
def sAug (i : Nat) (op : Int → Int → Int) (A : List Nat) (f : Env → M Rs) : Env → So := fun env => match env.getD i .un with
  | .fz (.int a) => ofM (f env) env A fun r => match r.d with | .int b => .nx (env.set i (.fz (.int (op a b)))) | _ => .bad
  | _ => .bad
theorem ds_aug {i : Nat} {x : Str} {e : Expr} {op : Operator} {g : Int → Int → Int} {pos' : Pos} {A : List Nat} {f : Env → M Rs} (hN : X.N.Nodup) (hi : X.N[i]? = some x) (hx : Loc X.env.scope x) (he : DE G W X e A f) (ho : PIp X op (ipI g))
    (hf : X.fn x = true ∨ X.env.scope.names.lookup x = some .local := by first | exact .inl rfl | exact .inr rfl | assumption) : DS G W X (.AugAssign (.Name x pos') op e pos) (sAug i g A f) :=
  ⟨weakS (ps_aug hN hi hx he.pe ho hf) fun D σ H h => by
    obtain ⟨hid, H0, env, R, h⟩ := h
    unfold sAug at h
    split at h
    · rename_i a e0
      obtain ⟨v, ea, eb⟩ := R.fz i _ (getD_some e0 (by simp))
      refine ⟨v, ea, hid, H0, env, R, ?_⟩
      cases e1 : f env with
      | bad => rw [e1] at h; exact h
      | ex x =>
        rw [e1] at h
        exact fun c d H' s q => h c d σ H' ((R.mono s).frz A) ((cut_ex s).trans (cut_sub fun _ => z_fz)) q
      | ok r =>
        rw [e1] at h
        have h : PostS G W hid H0 env σ H D (match r.d with | .int b => .nx (env.set i (.fz (.int (g a b)))) | _ => .bad) := h
        intro w H' s q
        have hw := q.rp R
        split at h
        · rename_i b e2
          rw [e2] at hw
          obtain ⟨R2, g2⟩ := (R.mono s).setFz (i := i) (v := .int (g a b)) (d := .int (g a b)) (.int _)
          exact ⟨a, b, rp_int eb, rp_int hw, h _ _ R2 ((cut_ex s).trans g2)⟩
        · exact h.elim
    · exact h.elim⟩

/-! ### what a for walks -/
structure WalkD (G : GC) (S : Hp) (J : It) (ds : List D) : Prop where
  goes : ∀ i H, i < ds.length → Same S H → J.go i H
  stops : ∀ H, Same S H → J.stop ds.length H
  yields : ∀ i H x H', i < ds.length → Same S H → J.yld i H x H' → ∃ d, ds[i]? = some d ∧ ∀ S1, Same S S1 → Same S1 H → NewR G S1 H x H' (.fz d)
def tDI (G : GC) (W : WX) (A : List Nat) (f : Env → M (List D)) : TI := fun σ H R => ∃ hid H0 env, Real G hid H0 env σ H ∧ match f env with
  | .bad => False
  | .ok ds => ∀ J H', Same H H' → WalkD G (See hid A env σ H') J ds → R J H'
  | .ex x => ∀ c d H', Same H H' → ExR G (See hid A env σ H') H' x c d → W c d σ H'
structure DI (G : GC) (W : WX) (X : Cx) (tg iter : Expr) (A : List Nat) (f : Env → M (List D)) : Prop where
  pi : PI X tg iter (tDI G W A f)
theorem weakI {X : Cx} {tg e : Expr} {t u : TI} (h : PI X tg e t) (w : ∀ σ H R, u σ H R → t σ H R) : PI X tg e u := ⟨fun pins s σ H R I q => h.run pins s σ H R I (w σ H R q)⟩
/-- over an expression's value -/
def iterD : D → M (List D) | .lst ds => .ok ds | _ => .bad
def iterT : D → M (List D) | .tup ds => .ok ds | _ => .bad
def iE (g : D → M (List D)) (f : Env → M Rs) : Env → M (List D) := fun env => do let r ← f env; pureM (g r.d)
theorem walkD_of {J : It} {S : Hp} {ds : List D} {xs : List V} {n : Nat} {Gd : Hp → Prop} (w : Walk J n Gd (YAt xs)) (hn : n = ds.length) (hG : ∀ H, Same S H → Gd H) (r : RpAll G S xs ds) : WalkD G S J ds :=
  ⟨fun i H hi s => w.goes i H (by omega) (hG H s), fun H s => hn ▸ w.stops H (hG H s), fun i H x H' hi s y => by
    obtain ⟨rfl, e⟩ := w.yields i H x H' (by omega) (hG H s) y
    obtain ⟨d, e1, rd⟩ := r.getV e
    exact ⟨d, e1, fun S1 s1 s2 => .val s2 (rd.mono s1)⟩⟩
theorem iE_run {A : List Nat} {f : Env → M Rs} {g : D → M (List D)} {σ : L2.St} {H : Hp} {R : It → Hp → Prop} {T : V → Hp → Prop} (h : tDI G W A (iE g f) σ H R)
    (hT : ∀ hid H0 env r v H' ds, Real G hid H0 env σ H → Same H H' → Rp G (See hid A env σ H') v (Rs.d r) → g r.d = .ok ds → (∀ J H'', Same H' H'' → WalkD G (See hid A env σ H'') J ds → R J H'') → T v H') : tDE G W A f σ H T := by
  obtain ⟨hid, H0, env, Rl, h⟩ := h
  refine ⟨hid, H0, env, Rl, ?_⟩
  unfold iE at h
  cases e : f env with
  | bad => rw [e] at h; exact h
  | ex x => rw [e] at h; exact h
  | ok r =>
    rw [e] at h
    intro v H' s q
    cases e2 : pureM (g r.d) with
    | bad =>
      have h : match pureM (g r.d) with | .bad => False | .ok ds => ∀ J H', Same H H' → WalkD G (See hid A env σ H') J ds → R J H' | .ex x => ∀ c d H', Same H H' → ExR G (See hid A env σ H') H' x c d → W c d σ H' := h
      rw [e2] at h
      exact h.elim
    | ex z => exact absurd e2 pureM_ex
    | ok ds =>
      have h : match pureM (g r.d) with | .bad => False | .ok ds => ∀ J H', Same H H' → WalkD G (See hid A env σ H') J ds → R J H' | .ex x => ∀ c d H', Same H H' → ExR G (See hid A env σ H') H' x c d → W c d σ H' := h
      rw [e2] at h
      exact hT hid H0 env r v H' ds Rl s (q.rp Rl) (pureM_ok e2) fun J H'' s' w => h J H'' (s.trans s') w
theorem di_list {tg e : Expr} {A : List Nat} {f : Env → M Rs} (he : DE G W X e A f) : DI G W X tg e A (iE iterD f) := ⟨weakI (pi_list he.pe) fun σ H R h => iE_run h fun hid H0 env r v H' ds Rl s q e k => by
  unfold iterD at e
  split at e
  · rename_i xs e2
    cases e
    rw [e2] at q
    obtain ⟨a, vs, rfl, ha, ra⟩ := rp_lst q
    have hk := he.k
    exact ⟨a, rfl, ⟨vs, .inl (.inl (cut_le _ _ ha))⟩, k _ H' (Same.refl _) (walkD_of (walk_list (xs := vs)) ra.len (fun H2 s2 => .inl (.inl (s2 _ _ ha))) ra)⟩
  · cases e⟩
theorem di_tup {tg e : Expr} {A : List Nat} {f : Env → M Rs} (he : DE G W X e A f) : DI G W X tg e A (iE iterT f) := ⟨weakI (pi_tup he.pe) fun σ H R h => iE_run h fun hid H0 env r v H' ds Rl s q e k => by
  unfold iterT at e
  split at e
  · rename_i xs e2
    cases e
    rw [e2] at q
    obtain ⟨a, vs, rfl, ha, ra⟩ := rp_tup q
    have hk := he.k
    exact ⟨a, rfl, ⟨vs, hk ▸ same_t cut_le ha⟩, k _ H' (Same.refl _) (walkD_of (walk_tup (xs := vs)) ra.len (fun H2 s2 => hk ▸ same_t s2 ha) ra)⟩
  · cases e⟩
def upTo (lo : Int) (n : Nat) : List D := (List.range n).map fun (i : Nat) => D.int (lo + (i : Int))
def rngOk (i : Int) : Bool := decide (-(2 ^ 62) ≤ i) && decide (i < 2 ^ 62)
def oRng1 : List D → M (List D) | [.int j] => if rngOk j then .ok (upTo 0 j.toNat) else .bad | _ => .bad
def oRng2 : List D → M (List D) | [.int i, .int j] => if rngOk i && rngOk j then .ok (upTo i (j - i).toNat) else .bad | _ => .bad
def iA (g : List D → M (List D)) (f : Env → M (List D)) : Env → M (List D) := fun env => do let ds ← f env; pureM (g ds)
theorem walkD_range {S : Hp} {lo : Int} {n : Nat} : WalkD G S (Itr lo n) (upTo lo n) := by
  have hl : (upTo lo n).length = n := by simp [upTo]
  refine ⟨fun i H hi s => by rw [hl] at hi; exact hi, fun H s => by rw [hl]; exact Nat.le_refl _, fun i H x H' hi s y => ?_⟩
  obtain ⟨rfl, rfl⟩ := y
  rw [hl] at hi
  exact ⟨.int (lo + i), by simp [upTo, hi], fun S1 s1 s2 => .val s2 (.int _)⟩
theorem iA_run {A : List Nat} {f : Env → M (List D)} {g : List D → M (List D)} {σ : L2.St} {H : Hp} {R : It → Hp → Prop} {T : List V → Hp → Prop} (h : tDI G W A (iA g f) σ H R)
    (hT : ∀ hid H0 env as vs H' ds, Real G hid H0 env σ H → Same H H' → RpAll G (See hid A env σ H') vs as → g as = .ok ds → (∀ J H'', Same H' H'' → WalkD G (See hid A env σ H'') J ds → R J H'') → T vs H') : tDA G W A f σ H T := by
  obtain ⟨hid, H0, env, Rl, h⟩ := h
  refine ⟨hid, H0, env, Rl, ?_⟩
  unfold iA at h
  cases e : f env with
  | bad => rw [e] at h; exact h
  | ex x => rw [e] at h; exact h
  | ok as =>
    rw [e] at h
    intro vs H' s q
    have h : match pureM (g as) with | .bad => False | .ok ds => ∀ J H', Same H H' → WalkD G (See hid A env σ H') J ds → R J H' | .ex x => ∀ c d H', Same H H' → ExR G (See hid A env σ H') H' x c d → W c d σ H' := h
    cases e2 : pureM (g as) with
    | bad =>
      rw [e2] at h
      exact h.elim
    | ex z => exact absurd e2 pureM_ex
    | ok ds =>
      rw [e2] at h
      exact hT hid H0 env as vs H' ds Rl s q (pureM_ok e2) fun J H'' s' w => h J H'' (s.trans s') w
theorem rngOk_ok {i : Int} (h : rngOk i = true) : -(2 ^ 62) ≤ i ∧ i < 2 ^ 62 := by
  unfold rngOk at h
  rw [Bool.and_eq_true, decide_eq_true_iff, decide_eq_true_iff] at h
  exact h
theorem di_range1 {tg a : Expr} {A : List Nat} {f : Env → M (List D)} {p : Pos} (hg : Gl X "range") (hm : X.mg "range" = none) (ha : DA G W X [a] A f) (hs : starEach [a] X.env = [(false, eval a X.env)] := by rfl) : DI G W X tg (.Call (.Name "range" p) [a] [] pos) A (iA oRng1 f) :=
  ⟨weakI (pi_range1 hg hm ha.pa hs) fun σ H R h => iA_run h fun hid H0 env as vs H' ds Rl s q e k => by
    unfold oRng1 at e
    split at e
    · split at e
      · rename_i j hj
        cases e
        obtain ⟨v, rfl, r⟩ := rp1 q
        rw [rp_int r]
        have := rngOk_ok hj
        exact ⟨j, rfl, this.1, this.2, k _ H' (Same.refl _) walkD_range⟩
      · cases e
    · cases e⟩
theorem di_range2 {tg a b : Expr} {A : List Nat} {f : Env → M (List D)} {p : Pos} (hg : Gl X "range") (hm : X.mg "range" = none) (ha : DA G W X [a, b] A f) (hs : starEach [a, b] X.env = [(false, eval a X.env), (false, eval b X.env)] := by rfl) (hs2 : starEach [b] X.env = [(false, eval b X.env)] := by rfl) :
    DI G W X tg (.Call (.Name "range" p) [a, b] [] pos) A (iA oRng2 f) :=
  ⟨weakI (pi_range2 hg hm ha.pa hs hs2) fun σ H R h => iA_run h fun hid H0 env as vs H' ds Rl s q e k => by
    unfold oRng2 at e
    split at e
    · split at e
      · rename_i i j hj
        cases e
        rw [Bool.and_eq_true] at hj
        obtain ⟨v, w, rfl, r, r2⟩ := rp2 q
        rw [rp_int r, rp_int r2]
        have h1 := rngOk_ok hj.1
        have h2 := rngOk_ok hj.2
        exact ⟨i, j, rfl, ⟨h1.1, h1.2, h2.1, h2.2⟩, k _ H' (Same.refl _) walkD_range⟩
      · cases e
    · cases e⟩

/-! ### for -/
def forL (t : D → Env → Option Env) (body : Env → So) : List D → Env → So
  | [], env => .nx env
  | d :: ds, env => match t d env with
    | none => .bad
    | some e1 => match body e1 with
      | .nx e2 => forL t body ds e2
      | .ct e2 => forL t body ds e2
      | .bk e2 => .nx e2
      | s => s
def sFor (A : List Nat) (it : Env → M (List D)) (t : D → Env → Option Env) (body : Env → So) : Env → So := fun env => ofM (it env) env A fun ds => forL t body ds (fzAll A env)
theorem ds_for {tg iter : Expr} {body : List Stmt} {T A : List Nat} {it : Env → M (List D)} {t : D → Env → Option Env} {g : Env → So} (hp : PassesOwn (model X.prog X.w) X.A X.env X.xe) (hc : X.calm = true) (hi : DI G W X tg iter A it) (hg : DG G X tg T t) (hb : DSs G W X body g) (hs : ∀ x, foldedSetIterable iter X.env x = pure x := by intro _; rfl) :
    DS G W X (.For tg iter body [] pos) (sFor A it t g) :=
  ⟨weakS (ps_for hp hc hi.pi hg.pg hb.ps (hs := hs)) fun D σ H h => by
    obtain ⟨hid, H0, env, R, h⟩ := h
    refine ⟨hid, H0, env, R, ?_⟩
    have h : PostS G W hid H0 env σ H D (ofM (it env) env A fun ds => forL t g ds (fzAll A env)) := h
    cases e : it env with
    | bad => rw [e] at h; exact h
    | ex x =>
      rw [e] at h
      exact fun c d H' s q => h c d σ H' ((R.mono s).frz A) ((cut_ex s).trans (cut_sub fun _ => z_fz)) q
    | ok ds =>
      rw [e] at h
      intro J H1 s1 w
      have h : PostS G W hid H0 env σ H D (forL t g ds (fzAll A env)) := h
      have R1 := (R.mono s1).frz A
      have g1 : Gro hid env σ H (fzAll A env) σ H1 := (cut_ex s1).trans (cut_sub fun _ => z_fz)
      refine ⟨fun i m σ' H' => m = ds.length - i ∧ i ≤ ds.length ∧ ∃ e', Real G hid H0 e' σ' H' ∧ Same (See hid A env σ H1) (cut (Z hid e' σ') H') ∧ Gro hid env σ H e' σ' H' ∧ PostS G W hid H0 env σ H D (forL t g (ds.drop i) e'),
        ⟨ds.length, by simp, Nat.zero_le _, _, R1, Same.refl _, g1, h⟩, ?_⟩
      rintro i m σ' H' ⟨rfl, hi', e', R', sS, gr, po⟩
      have sH : Same (See hid A env σ H1) H' := sS.trans cut_le
      by_cases hlt : i < ds.length
      · refine .inr ⟨w.goes i H' hlt sH, fun σ2 H2 => ∃ e2, Real G hid H0 e2 σ2 H2 ∧ Same (See hid A env σ H1) (cut (Z hid e2 σ2) H2) ∧ Gro hid env σ H e2 σ2 H2 ∧ PostS G W hid H0 env σ H D (forL t g (ds.drop (i + 1)) e2),
          fun σ2 H2 ⟨e2, q1, q2, q3, q4⟩ => ⟨ds.length - (i + 1), by omega, rfl, hlt, e2, q1, q2, q3, q4⟩, fun x H2 y => ?_⟩
        obtain ⟨d, ed, nw⟩ := w.yields i H' x H2 hlt sH y
        have nr := nw _ sS cut_le
        have sH2 := nr.same
        have R2 := R'.mono sH2
        have rx : Rp G (cut (Z hid e' σ') H2) x d := by
          obtain ⟨_, S', h1, h2, h3, h4⟩ := nr
          exact h4.mono (grow_cut (fun a z => R'.zthere z) h2 h3)
        have ed' : ds.drop i = d :: ds.drop (i + 1) := by
          rw [List.drop_eq_getElem_cons hlt]
          rw [List.getElem?_eq_getElem hlt] at ed
          cases ed
          rfl
        rw [ed'] at po
        unfold forL at po
        cases et : t d e' with
        | none => rw [et] at po; exact po.elim
        | some e1 =>
          rw [et] at po
          refine ⟨hid, H0, e', d, e1, R2, rx, et, fun σ3 R3 g3 _ => ?_⟩
          have gr3 : Gro hid env σ H e1 σ3 H2 := (gr.trans (cut_ex sH2)).trans g3
          have sS3 : Same (See hid A env σ H1) (cut (Z hid e1 σ3) H2) := (sS.trans (cut_ex sH2)).trans g3
          refine ⟨hid, H0, e1, R3, ?_⟩
          have po : PostS G W hid H0 env σ H D (match g e1 with | .nx e2 => forL t g (ds.drop (i + 1)) e2 | .ct e2 => forL t g (ds.drop (i + 1)) e2 | .bk e2 => .nx e2 | s => s) := po
          cases eb : g e1 with
          | bad => rw [eb] at po; exact po.elim
          | nx e2 => rw [eb] at po; exact fun σ4 H4 R4 g4 => ⟨e2, R4, sS3.trans g4, gr3.trans g4, po⟩
          | ct e2 => rw [eb] at po; exact fun σ4 H4 R4 g4 => ⟨e2, R4, sS3.trans g4, gr3.trans g4, po⟩
          | bk e2 => rw [eb] at po; exact fun σ4 H4 R4 g4 => po σ4 H4 R4 (gr3.trans g4)
          | rt r => rw [eb] at po; exact po
          | ex x e2 => rw [eb] at po; exact fun c d σ4 H4 R4 g4 => po c d σ4 H4 R4 (gr3.trans g4)
      · have ei : i = ds.length := by omega
        subst ei
        rw [List.drop_length] at po
        exact .inl ⟨w.stops H' sH, po σ' H' R' gr⟩⟩

/-! ### while -/
def whileN (c : Env → M Bool) (A : List Nat) (body : Env → So) : Nat → Env → So
  | 0, _ => .bad
  | n + 1, env => ofM (c env) env A fun b => if b then (match body env with
      | .nx e2 => whileN c A body n e2
      | .ct e2 => whileN c A body n e2
      | .bk e2 => .nx e2
      | s => s) else .nx env
/-- enough turns for an end -/
noncomputable def sWhile (c : Env → M Bool) (A : List Nat) (body : Env → So) : Env → So := fun env => open Classical in if h : ∃ n, whileN c A body n env ≠ .bad then whileN c A body (Classical.choose h) env else .bad
theorem whileN_more {c : Env → M Bool} {A : List Nat} {body : Env → So} : ∀ {n : Nat} {env : Env}, whileN c A body n env ≠ .bad → ∀ m, n ≤ m → whileN c A body m env = whileN c A body n env
  | 0, _, h, _, _ => absurd rfl h
  | n + 1, env, h, 0, hm => by omega
  | n + 1, env, h, m + 1, hm => by
    unfold whileN at h ⊢
    cases e : c env with
    | bad => rfl
    | ex x => rfl
    | ok b =>
      rw [e] at h
      cases b with
      | false => rfl
      | true =>
        show (match body env with | .nx e2 => whileN c A body m e2 | .ct e2 => whileN c A body m e2 | .bk e2 => .nx e2 | s => s) = (match body env with | .nx e2 => whileN c A body n e2 | .ct e2 => whileN c A body n e2 | .bk e2 => .nx e2 | s => s)
        have h : (match body env with | .nx e2 => whileN c A body n e2 | .ct e2 => whileN c A body n e2 | .bk e2 => .nx e2 | s => s) ≠ .bad := h
        cases eb : body env with
        | nx e2 => rw [eb] at h; exact whileN_more (n := n) h m (by omega)
        | ct e2 => rw [eb] at h; exact whileN_more (n := n) h m (by omega)
        | bad => rfl
        | bk e2 => rfl
        | rt e2 => rfl
        | ex x e2 => rfl
theorem sWhile_of {c : Env → M Bool} {A : List Nat} {body : Env → So} {n : Nat} {env : Env} {s : So} (h : whileN c A body n env = s) (hs : s ≠ .bad) : sWhile c A body env = s := by
  have hx : ∃ n, whileN c A body n env ≠ .bad := ⟨n, by rw [h]; exact hs⟩
  unfold sWhile
  rw [dif_pos hx]
  have h2 := Classical.choose_spec hx
  have e1 := whileN_more h2 (max n (Classical.choose hx)) (by omega)
  have e2 := whileN_more (n := n) (env := env) (by rw [h]; exact hs) (max n (Classical.choose hx)) (by omega)
  rw [← e1, e2, h]
theorem ds_while {c : Expr} {body : List Stmt} {A : List Nat} {f : Env → M Bool} {g : Env → So} (hp : PassesOwn (model X.prog X.w) X.A X.env X.xe) (hc : DT G W X c A f) (hb : DSs G W X body g) : DS G W X (.While c body [] pos) (sWhile f A g) :=
  ⟨weakS (ps_while hp hc.pt hb.ps) fun D σ H h => by
    obtain ⟨hid, H0, env, R, h⟩ := h
    have hx : ∃ n, whileN f A g n env ≠ .bad := by
      apply Classical.byContradiction
      intro hn
      unfold sWhile at h
      rw [dif_neg hn] at h
      exact h
    unfold sWhile at h
    rw [dif_pos hx] at h
    refine ⟨fun m σ' H' => ∃ e', Real G hid H0 e' σ' H' ∧ Gro hid env σ H e' σ' H' ∧ PostS G W hid H0 env σ H D (whileN f A g m e'), ⟨_, env, R, Same.refl _, h⟩, ?_⟩
    rintro m σ' H' ⟨e', R', gr, po⟩
    refine ⟨hid, H0, e', R', ?_⟩
    cases m with
    | zero => exact po.elim
    | succ m =>
      unfold whileN at po
      cases e : f e' with
      | bad => rw [e] at po; exact po
      | ex x =>
        rw [e] at po
        exact fun c d H2 s q => po c d σ' H2 ((R'.mono s).frz A) (gr.trans ((cut_ex s).trans (cut_sub fun _ => z_fz))) q
      | ok b =>
        rw [e] at po
        intro H2 s2
        have gr2 := gr.trans (cut_ex (X := Z hid e' σ') s2)
        cases b with
        | false => exact po σ' H2 (R'.mono s2) gr2
        | true =>
          have po : PostS G W hid H0 env σ H D (match g e' with | .nx e2 => whileN f A g m e2 | .ct e2 => whileN f A g m e2 | .bk e2 => .nx e2 | s => s) := po
          show ∃ N, _
          refine ⟨fun σ3 H3 => ∃ e2, Real G hid H0 e2 σ3 H3 ∧ Gro hid env σ H e2 σ3 H3 ∧ PostS G W hid H0 env σ H D (whileN f A g m e2), fun σ3 H3 q => ⟨m, Nat.lt_succ_self _, q⟩, hid, H0, e', R'.mono s2, ?_⟩
          cases eb : g e' with
          | bad => rw [eb] at po; exact po.elim
          | nx e2 => rw [eb] at po; exact fun σ4 H4 R4 g4 => ⟨e2, R4, gr2.trans g4, po⟩
          | ct e2 => rw [eb] at po; exact fun σ4 H4 R4 g4 => ⟨e2, R4, gr2.trans g4, po⟩
          | bk e2 => rw [eb] at po; exact fun σ4 H4 R4 g4 => po σ4 H4 R4 (gr2.trans g4)
          | rt r => rw [eb] at po; exact po
          | ex x e2 => rw [eb] at po; exact fun c d σ4 H4 R4 g4 => po c d σ4 H4 R4 (gr2.trans g4)⟩
end
end DL
end

section
set_option maxRecDepth 100000
set_option maxHeartbeats 4000000
namespace DL
open PySem PySem.Spec PyProof.Rows L2
section
variable {G : GC} {W : WX} {X : Cx} {pos : Pos}
/-! ### tests -/
def asB : Rs → M Bool | .fz (.bl b) => .ok b | _ => .bad
def tV (f : Env → M Rs) : Env → M Bool := fun env => do let r ← f env; asB r
theorem tV_run {A : List Nat} {f : Env → M Rs} {σ : L2.St} {H : Hp} {Q : Bool → Hp → Prop} (h : tDT G W A (tV f) σ H Q) : tDE G W A f σ H fun x H1 => ∃ c, x = .bl c ∧ Q c H1 := by
  obtain ⟨hid, H0, env, R, h⟩ := h
  refine ⟨hid, H0, env, R, ?_⟩
  unfold tV at h
  cases e : f env with
  | bad => rw [e] at h; exact h
  | ex x => rw [e] at h; exact h
  | ok r =>
    rw [e] at h
    have h : PostT G W hid A env σ H Q (asB r) := h
    intro v H' s q
    have q' := q.rp R
    unfold asB at h
    split at h
    · exact ⟨_, rp_bl q', h H' s⟩
    · exact h.elim
theorem dt_val {e : Expr} {A : List Nat} {f : Env → M Rs} (h : DE G W X e A f) (he : ∀ whole, isTrue e X.env whole = (do let v ← whole; standAt e.pos; holding [v] (truthy v)) := by intro _; rfl) : DT G W X e A (tV f) :=
  ⟨weakT (pt_val h.pe he) fun σ H Q h => tV_run h, h.k⟩
theorem dt_cmp {op : CmpOp} {a b : Expr} {r : R2} {g : D → D → M Rs} {A B : List Nat} {f1 f2 : Env → M Rs} (ho : OpR X (compareOp op) r) (hs : OpS G r g) (h1 : DE G W X a A f1) (h2 : DE G W X b B f2) (hm : behindInMarks op b = false) :
    DT G W X (.Compare a [op] [b] pos) (A ++ B) (tV (e2 g f1 f2)) :=
  ⟨weakT (pt_cmpR ho h1.pe h2.pe hm) fun σ H Q h => by
    obtain ⟨hid, H0, env, R, h⟩ := tV_run h
    exact two_run R h fun v w H2 x y s _ _ hv hw q => op_end hs R s hv hw q, h1.k⟩
/-- the truth of an int, a list, a tuple -/
def asTr : Rs → M Bool
  | .fz (.bl b) => .ok b
  | .fz (.int i) => .ok (i != 0)
  | .fz (.lst ds) => .ok (!ds.isEmpty)
  | .fz (.tup ds) => .ok (!ds.isEmpty)
  | .ow ds => .ok (!ds.isEmpty)
  | .fz .non => .ok false
  | _ => .bad
def tTr (f : Env → M Rs) : Env → M Bool := fun env => do let r ← f env; asTr r
theorem RpAll.emp {H : Hp} {vs : List V} {ds : List D} (h : RpAll G H vs ds) : vs.isEmpty = ds.isEmpty := by
  cases h <;> rfl
theorem dt_tr {e : Expr} {A : List Nat} {f : Env → M Rs} (h : DE G W X e A f) (he : ∀ whole, isTrue e X.env whole = (do let v ← whole; standAt e.pos; holding [v] (truthy v)) := by intro _; rfl) : DT G W X e A (tTr f) :=
  ⟨weakT (pt_truth h.pe he) fun σ H Q hh => by
    obtain ⟨hid, H0, env, R, hh⟩ := hh
    refine ⟨hid, H0, env, R, ?_⟩
    unfold tTr at hh
    cases e : f env with
    | bad => rw [e] at hh; exact hh
    | ex x => rw [e] at hh; exact hh
    | ok r =>
      rw [e] at hh
      have hh : PostT G W hid A env σ H Q (asTr r) := hh
      intro v H' s q
      have q' := q.rp R
      have hk := h.k
      unfold asTr at hh
      split at hh
      · rw [rp_bl q']; exact ⟨_, rfl, hh H' s⟩
      · rw [rp_int q']; exact ⟨_, rfl, hh H' s⟩
      · obtain ⟨a, xs, rfl, ha, ra⟩ := rp_lst q'
        exact ⟨_, .inl ⟨xs, .inl (.inl (cut_le _ _ ha)), rfl⟩, by rw [ra.emp]; exact hh H' s⟩
      · obtain ⟨a, xs, rfl, ha, ra⟩ := rp_tup q'
        exact ⟨_, .inr (.inl ⟨xs, hk ▸ same_t cut_le ha, rfl⟩), by rw [ra.emp]; exact hh H' s⟩
      · obtain ⟨a, xs, rfl, ha, ra⟩ := rp_lst q'
        exact ⟨_, .inl ⟨xs, .inl (.inl (cut_le _ _ ha)), rfl⟩, by rw [ra.emp]; exact hh H' s⟩
      · cases q'
        exact ⟨_, rfl, hh H' s⟩
      · exact hh.elim, h.k⟩
structure DW (G : GC) (W : WX) (X : Cx) (e : Expr) (A : List Nat) (f : Env → M Bool) : Prop where
  pw : PW X e (tDT G W A f)
  k : G.K = X.K
theorem DW.t {e : Expr} {A : List Nat} {f : Env → M Bool} (h : DW G W X e A f) : DT G W X e A f := ⟨h.pw.pt, h.k⟩
def tAn (f g : Env → M Bool) : Env → M Bool := fun env => do let b ← f env; if b then g env else .ok false
def tO (f g : Env → M Bool) : Env → M Bool := fun env => do let b ← f env; if b then .ok true else g env
def tN (f : Env → M Bool) : Env → M Bool := fun env => do let b ← f env; .ok (!b)
theorem PostT.frz {hid : Addr → Prop} {A : List Nat} {env : Env} {σ : L2.St} {H H' : Hp} {Q : Bool → Hp → Prop} {m : M Bool} (s : Same H H') (h : PostT G W hid A env σ H Q m) : PostT G W hid A env σ H' Q m := by
  cases m with
  | bad => exact h
  | ok b => exact fun H2 s2 => h H2 (s.trans s2)
  | ex x => exact fun c d H2 s2 => h c d H2 (s.trans s2)
theorem PostT.sub {hid : Addr → Prop} {A B : List Nat} {env : Env} {σ : L2.St} {H : Hp} {Q : Bool → Hp → Prop} {m : M Bool} (hs : ∀ i, i ∈ A → i ∈ B) (h : PostT G W hid B env σ H Q m) : PostT G W hid A env σ H Q m := by
  cases m with
  | bad => exact h
  | ok b => exact h
  | ex x => exact fun c d H2 s2 r => h c d H2 s2 (r.mono (see_mono hs (Same.refl _)))
theorem bT_run {A B : List Nat} {f : Env → M Bool} {k : Env → Bool → M Bool} {σ : L2.St} {H : Hp} {Q T : Bool → Hp → Prop} (hAB : ∀ i, i ∈ A → i ∈ B) (h : tDT G W B (fun env => f env >>= k env) σ H Q)
    (hT : ∀ hid H0 env b H', Real G hid H0 env σ H' → PostT G W hid B env σ H' Q (k env b) → T b H') : tDT G W A f σ H T := by
  obtain ⟨hid, H0, env, R, h⟩ := h
  refine ⟨hid, H0, env, R, ?_⟩
  have h : PostT G W hid B env σ H Q (f env >>= k env) := h
  cases e : f env with
  | bad => rw [e] at h; exact h
  | ex x => rw [e] at h; exact PostT.sub hAB h
  | ok b =>
    rw [e] at h
    exact fun H' s => hT hid H0 env b H' (R.mono s) (PostT.frz s h)
theorem dw_and1 {e : Expr} {A : List Nat} {f : Env → M Bool} (h : DT G W X e A f) : DW G W X (.BoolOp .And [e] pos) A f := ⟨pw_and1 h.pt, h.k⟩
theorem dw_or1 {e : Expr} {A : List Nat} {f : Env → M Bool} (h : DT G W X e A f) : DW G W X (.BoolOp .Or [e] pos) A f := ⟨pw_or1 h.pt, h.k⟩
theorem dw_and {a b : Expr} {rest : List Expr} {A B : List Nat} {f g : Env → M Bool} (h1 : DT G W X a A f) (h2 : DW G W X (.BoolOp .And (b :: rest) pos) B g) : DW G W X (.BoolOp .And (a :: b :: rest) pos) (A ++ B) (tAn f g) :=
  ⟨weakW (pw_and h1.pt h2.pw) fun σ H Q h => bT_run (k := fun env b => if b then g env else .ok false) sub_l h fun hid H0 env b H' R q => by
    cases b with
    | true => exact ⟨hid, H0, env, R, PostT.sub sub_r q⟩
    | false => exact q H' (Same.refl _), h1.k⟩
theorem dw_or {a b : Expr} {rest : List Expr} {A B : List Nat} {f g : Env → M Bool} (h1 : DT G W X a A f) (h2 : DW G W X (.BoolOp .Or (b :: rest) pos) B g) : DW G W X (.BoolOp .Or (a :: b :: rest) pos) (A ++ B) (tO f g) :=
  ⟨weakW (pw_or h1.pt h2.pw) fun σ H Q h => bT_run (k := fun env b => if b then .ok true else g env) sub_l h fun hid H0 env b H' R q => by
    cases b with
    | true => exact q H' (Same.refl _)
    | false => exact ⟨hid, H0, env, R, PostT.sub sub_r q⟩, h1.k⟩
theorem dt_not {a : Expr} {A : List Nat} {f : Env → M Bool} (h : DT G W X a A f) : DT G W X (.UnaryOp .Not a pos) A (tN f) :=
  ⟨weakT (pt_not h.pt) fun σ H Q hh => bT_run (k := fun env b => .ok (!b)) (fun _ h => h) hh fun hid H0 env b H' R q => q H' (Same.refl _), h.k⟩
/-! ### values by truth -/
def vAn (f g : Env → M Rs) : Env → M Rs := fun env => do let r ← f env; let b ← asB r; if b then g env else .ok (.fz (.bl false))
def vO (f g : Env → M Rs) : Env → M Rs := fun env => do let r ← f env; let b ← asB r; if b then .ok (.fz (.bl true)) else g env
def vN (f : Env → M Rs) : Env → M Rs := fun env => do let r ← f env; let b ← asB r; .ok (.fz (.bl (!b)))
theorem Post.frz {hid : Addr → Prop} {A : List Nat} {env : Env} {σ : L2.St} {H H' : Hp} {Q : VK} {m : M Rs} (s : Same H H') (h : Post G W hid A env σ H Q m) : Post G W hid A env σ H' Q m := by
  cases m with
  | bad => exact h
  | ok r =>
    intro v H2 s2 q
    refine h v H2 (s.trans s2) ?_
    cases r with
    | fz d => exact q
    | ow ds =>
      obtain ⟨p, vs, a, b, c⟩ := q
      exact ⟨p, vs, a, s.free b, c⟩
  | ex x => exact fun c d H2 s2 => h c d H2 (s.trans s2)
theorem Post.sub {hid : Addr → Prop} {A B : List Nat} {env : Env} {σ : L2.St} {H : Hp} {Q : VK} {m : M Rs} (hs : ∀ i, i ∈ A → i ∈ B) (h : Post G W hid B env σ H Q m) : Post G W hid A env σ H Q m := by
  cases m with
  | bad => exact h
  | ok r =>
    intro v H2 s2 q
    refine h v H2 s2 ?_
    cases r with
    | fz d => exact Rp.mono (see_mono hs (Same.refl _)) q
    | ow ds =>
      obtain ⟨p, vs, a, b, c, d⟩ := q
      exact ⟨p, vs, a, b, c, d.mono (cut_sub fun a z => z.imp (z_mono hs) id)⟩
  | ex x => exact fun c d H2 s2 r => h c d H2 s2 (r.mono (see_mono hs (Same.refl _)))
theorem bV_run {A B : List Nat} {f : Env → M Rs} {k : Env → Bool → M Rs} {σ : L2.St} {H : Hp} {Q : VK} {T : V → Hp → Prop} (hAB : ∀ i, i ∈ A → i ∈ B) (h : tDE G W B (fun env => f env >>= fun r => asB r >>= k env) σ H Q)
    (hT : ∀ hid H0 env b H', Real G hid H0 env σ H' → Post G W hid B env σ H' Q (k env b) → T (.bl b) H') : tDE G W A f σ H T := by
  obtain ⟨hid, H0, env, R, h⟩ := h
  refine ⟨hid, H0, env, R, ?_⟩
  have h : Post G W hid B env σ H Q (f env >>= fun r => asB r >>= k env) := h
  cases e : f env with
  | bad => rw [e] at h; exact h
  | ex x => rw [e] at h; exact Post.sub hAB h
  | ok r =>
    rw [e] at h
    have h : Post G W hid B env σ H Q (asB r >>= k env) := h
    intro v H' s q
    have q' := q.rp R
    unfold asB at h
    split at h
    · rw [rp_bl q']
      exact hT hid H0 env _ H' (R.mono s) (Post.frz s h)
    · exact h.elim
theorem d_one {op : BoolOp} {e : Expr} {A : List Nat} {f : Env → M Rs} (h : DE G W X e A f) : DE G W X (.BoolOp op [e] pos) A f := ⟨pe_one h.pe, h.k⟩
theorem d_and {a b : Expr} {rest : List Expr} {A B : List Nat} {f g : Env → M Rs} (h1 : DE G W X a A f) (h2 : DE G W X (.BoolOp .And (b :: rest) pos) B g) : DE G W X (.BoolOp .And (a :: b :: rest) pos) (A ++ B) (vAn f g) :=
  ⟨weakE (pe_and h1.pe h2.pe) fun σ H Q h => bV_run (k := fun env b => if b then g env else .ok (.fz (.bl false))) sub_l h fun hid H0 env b H' R q => by
    refine ⟨b, rfl, ?_⟩
    cases b with
    | true => exact ⟨hid, H0, env, R, Post.sub sub_r q⟩
    | false => exact q _ H' (Same.refl _) (.bl false), h1.k⟩
theorem d_or {a b : Expr} {rest : List Expr} {A B : List Nat} {f g : Env → M Rs} (h1 : DE G W X a A f) (h2 : DE G W X (.BoolOp .Or (b :: rest) pos) B g) : DE G W X (.BoolOp .Or (a :: b :: rest) pos) (A ++ B) (vO f g) :=
  ⟨weakE (pe_or h1.pe h2.pe) fun σ H Q h => bV_run (k := fun env b => if b then .ok (.fz (.bl true)) else g env) sub_l h fun hid H0 env b H' R q => by
    refine ⟨b, rfl, ?_⟩
    cases b with
    | true => exact q _ H' (Same.refl _) (.bl true)
    | false => exact ⟨hid, H0, env, R, Post.sub sub_r q⟩, h1.k⟩
theorem d_not {a : Expr} {A : List Nat} {f : Env → M Rs} (h : DE G W X a A f) : DE G W X (.UnaryOp .Not a pos) A (vN f) :=
  ⟨weakE (pe_not h.pe) fun σ H Q hh => bV_run (k := fun env b => .ok (.fz (.bl (!b)))) (fun _ h => h) hh fun hid H0 env b H' R q => ⟨b, rfl, q _ H' (Same.refl _) (.bl _)⟩, h.k⟩
def vIf (c : Env → M Bool) (f g : Env → M Rs) : Env → M Rs := fun env => do let b ← c env; if b then f env else g env
theorem d_if {c a b : Expr} {A B C : List Nat} {t : Env → M Bool} {f g : Env → M Rs} (hc : DT G W X c A t) (ha : DE G W X a B f) (hb : DE G W X b C g) : DE G W X (.IfExp c a b pos) (A ++ (B ++ C)) (vIf t f g) :=
  ⟨weakE (pe_ifExp hc.pt ha.pe hb.pe) fun σ H Q h => by
    obtain ⟨hid, H0, env, R, h⟩ := h
    refine ⟨hid, H0, env, R, ?_⟩
    have h : Post G W hid (A ++ (B ++ C)) env σ H Q (t env >>= fun b => if b then f env else g env) := h
    cases e : t env with
    | bad => rw [e] at h; exact h
    | ex x =>
      rw [e] at h
      exact fun c d H2 s2 r => h c d H2 s2 (r.mono (see_mono sub_l (Same.refl _)))
    | ok b =>
      rw [e] at h
      intro H' s
      have h : Post G W hid (A ++ (B ++ C)) env σ H Q (if b then f env else g env) := h
      cases b with
      | true =>
        show tDE G W B f σ H' Q
        exact ⟨hid, H0, env, R.mono s, Post.frz s (Post.sub (fun i m => List.mem_append_right _ (List.mem_append_left _ m)) h)⟩
      | false =>
        show tDE G W C g σ H' Q
        exact ⟨hid, H0, env, R.mono s, Post.frz s (Post.sub (fun i m => List.mem_append_right _ (List.mem_append_right _ m)) h)⟩, hc.k⟩
/-! ### slices -/
def PostO (G : GC) (W : WX) (hid : Addr → Prop) (A : List Nat) (env : Env) (σ : L2.St) (H : Hp) (Q : Option Int → Hp → Prop) : M (Option Int) → Prop
  | .bad => False
  | .ok b => ∀ H', Same H H' → Q b H'
  | .ex x => ∀ c d H', Same H H' → ExR G (See hid A env σ H') H' x c d → W c d σ H'
def tDO (G : GC) (W : WX) (A : List Nat) (f : Env → M (Option Int)) : TO := fun σ H Q => ∃ hid H0 env, Real G hid H0 env σ H ∧ PostO G W hid A env σ H Q (f env)
structure DO (G : GC) (W : WX) (X : Cx) (e : Option Expr) (A : List Nat) (f : Env → M (Option Int)) : Prop where
  po : PO X e (tDO G W A f)
theorem weakO {X : Cx} {e : Option Expr} {t u : TO} (h : PO X e t) (w : ∀ σ H Q, u σ H Q → t σ H Q) : PO X e u := ⟨fun pins s σ H Q I q => h.run pins s σ H Q I (w σ H Q q)⟩
def pNo : Env → M (Option Int) := fun _ => .ok none
def asI : Rs → M (Option Int) | .fz (.int i) => .ok (some i) | _ => .bad
def pSome (f : Env → M Rs) : Env → M (Option Int) := fun env => do let r ← f env; asI r
theorem do_none : DO G W X none [] pNo := ⟨weakO po_none fun σ H Q ⟨hid, H0, env, R, h⟩ => h H (Same.refl _)⟩
theorem do_some {e : Expr} {A : List Nat} {f : Env → M Rs} (h : DE G W X e A f) : DO G W X (some e) A (pSome f) := ⟨weakO (po_some h.pe) fun σ H Q hh => by
  obtain ⟨hid, H0, env, R, hh⟩ := hh
  refine ⟨hid, H0, env, R, ?_⟩
  unfold pSome at hh
  cases e : f env with
  | bad => rw [e] at hh; exact hh
  | ex x => rw [e] at hh; exact hh
  | ok r =>
    rw [e] at hh
    have hh : PostO G W hid A env σ H Q (asI r) := hh
    intro v H' s q
    have q' := q.rp R
    unfold asI at hh
    split at hh
    · exact ⟨_, rp_int q', hh H' s⟩
    · exact hh.elim⟩
def cutD {α : Type} (xs : List α) (lo hi : Option Int) : List α := (xs.drop (HT.sIx xs.length 0 lo)).take (HT.sIx xs.length xs.length hi - HT.sIx xs.length 0 lo)
def oSl (d : D) (lo hi : Option Int) : M Rs := match d with | .lst xs => .ok (.ow (cutD xs lo hi)) | .tup xs => .ok (.fz (.tup (cutD xs lo hi))) | _ => .bad
theorem RpAll.cutD {S : Hp} {vs : List V} {ds : List D} (h : RpAll G S vs ds) (lo hi : Option Int) : RpAll G S (cutV vs lo hi) (DL.cutD ds lo hi) := by
  unfold cutV DL.cutD
  rw [h.len]
  exact (h.drop _).take _
theorem SlR.or {r r' : V → Option Int → Option Int → Hp → VK → Prop} (h : SlR X r) (h' : SlR X r') : SlR X (fun x lo hi H Q => r x lo hi H Q ∨ r' x lo hi H Q) := by
  intro pins s σ H x v vl vu lo hi sl Q I rx hs pl pu hq
  rcases hq with q | q
  · exact h _ _ _ _ _ _ _ _ _ _ _ _ I rx hs pl pu q
  · exact h' _ _ _ _ _ _ _ _ _ _ _ _ I rx hs pl pu q
def e3o (g : D → Option Int → Option Int → M Rs) (f : Env → M Rs) (l u : Env → M (Option Int)) : Env → M Rs := fun env => do let r ← f env; let a ← l env; let b ← u env; pureM (g r.d a b)
theorem d_slice {e : Expr} {lo hi : Option Expr} {p2 : Pos} {A B C : List Nat} {f : Env → M Rs} {l u : Env → M (Option Int)} (he : DE G W X e A f) (hl : DO G W X lo B l) (hu : DO G W X hi C u) : DE G W X (.Subscript e (.Slice lo hi none p2) pos) (A ++ (B ++ C)) (e3o oSl f l u) :=
  ⟨weakE (pe_slice (SlR.or sl_list sl_tupA) he.pe hl.po hu.po) fun σ H Q h => by
    obtain ⟨hid, H0, env, R, h⟩ := h
    refine ⟨hid, H0, env, R, ?_⟩
    have h : Post G W hid (A ++ (B ++ C)) env σ H Q (f env >>= fun r => l env >>= fun a => u env >>= fun b => pureM (oSl r.d a b)) := h
    cases e1 : f env with
    | bad => rw [e1] at h; exact h
    | ex x =>
      rw [e1] at h
      exact fun c d H2 s2 r => h c d H2 s2 (r.mono (see_mono sub_l (Same.refl _)))
    | ok r =>
      rw [e1] at h
      intro v H1 s1 q1
      have R1 := R.mono s1
      have rv := (q1.rp R).mono (see_mono (B := A ++ (B ++ C)) sub_l (Same.refl _))
      refine ⟨hid, H0, env, R1, ?_⟩
      have h : Post G W hid (A ++ (B ++ C)) env σ H Q (l env >>= fun a => u env >>= fun b => pureM (oSl r.d a b)) := h
      cases e2 : l env with
      | bad => rw [e2] at h; exact h
      | ex x =>
        rw [e2] at h
        exact fun c d H2 s2 r => h c d H2 (s1.trans s2) (r.mono (see_mono (fun i m => List.mem_append_right _ (List.mem_append_left _ m)) (Same.refl _)))
      | ok a =>
        rw [e2] at h
        intro H2 s2
        have R2 := R1.mono s2
        refine ⟨hid, H0, env, R2, ?_⟩
        have h : Post G W hid (A ++ (B ++ C)) env σ H Q (u env >>= fun b => pureM (oSl r.d a b)) := h
        cases e3 : u env with
        | bad => rw [e3] at h; exact h
        | ex x =>
          rw [e3] at h
          exact fun c d H3 s3 r => h c d H3 ((s1.trans s2).trans s3) (r.mono (see_mono (fun i m => List.mem_append_right _ (List.mem_append_right _ m)) (Same.refl _)))
        | ok b =>
          rw [e3] at h
          intro H3 s3
          have s : Same H H3 := (s1.trans s2).trans s3
          have h : Post G W hid (A ++ (B ++ C)) env σ H Q (pureM (oSl r.d a b)) := h
          have rv3 := rv.mono (see_mono (fun i m => m) (s2.trans s3))
          have fin : ∀ {v' : V} {H' : Hp} {z : Rs}, pureM (oSl r.d a b) = .ok z → NewR G (See hid (A ++ (B ++ C)) env σ H3) H3 v' H' z → Q v' H' := fun {v' H' z} ez n => by
            rw [ez] at h
            refine h v' H' (s.trans n.same) ?_
            have q := NewR.res (R.mono s) n
            cases z with
            | fz d => exact q
            | ow ds =>
              obtain ⟨p, vs, a, b, c⟩ := q
              exact ⟨p, vs, a, s.free b, c⟩
          unfold oSl at h fin
          split at h
          · rename_i xs ex
            rw [ex] at rv3
            obtain ⟨p, vs, rfl, hp, rp⟩ := rp_lst rv3
            rw [ex] at fin
            exact .inl ⟨p, vs, rfl, .inl (.inl (cut_le _ _ hp)), fun q hq => fin rfl (.lst cut_le hq (rp.cutD a b))⟩
          · rename_i xs ex
            rw [ex] at rv3
            obtain ⟨p, vs, rfl, hp, rp⟩ := rp_tup rv3
            rw [ex] at fin
            refine .inr ⟨p, vs, rfl, he.k ▸ same_t cut_le hp, fun hw => fin rfl (NewR.val cut_le ?_), fun hw q hq => fin rfl (.tup cut_le hq (rp.cutD a b))⟩
            have : DL.cutD xs a b = xs := by
              unfold DL.cutD
              rw [← rp.len, hw.1, hw.2, List.drop_zero, Nat.sub_zero, rp.len, List.take_length]
            rw [this]
            exact rv3
          · exact h.elim, he.k⟩
end
end DL
end

section
set_option maxRecDepth 100000
set_option maxHeartbeats 4000000
namespace DL
open PySem PySem.Spec PyProof.Rows L2
/-- a comprehension's slots are cleared -/
def wipeE (env : Env) : List Nat → Env
  | [] => env
  | v :: vs => (wipeE env vs).set v .un
theorem wipeE_len (env : Env) : ∀ vs, (wipeE env vs).length = env.length
  | [] => rfl
  | v :: vs => by rw [wipeE, List.length_set, wipeE_len env vs]
theorem wipeE_some {env : Env} {i : Nat} {s : Sl} (hs : s ≠ .un) : ∀ {vs : List Nat}, (wipeE env vs)[i]? = some s → env[i]? = some s ∧ i ∉ vs
  | [], h => ⟨h, by simp⟩
  | v :: vs, h => by
    rw [wipeE] at h
    by_cases e : v = i
    · subst e
      by_cases hl : v < (wipeE env vs).length
      · rw [List.getElem?_set_self hl] at h
        exact absurd (Option.some.inj h).symm hs
      · rw [List.getElem?_eq_none (by simp; omega)] at h
        cases h
    · rw [List.getElem?_set_ne e] at h
      obtain ⟨a, b⟩ := wipeE_some hs h
      exact ⟨a, by simp [b, Ne.symm e]⟩
theorem wipe_out' {σ : L2.St} {i : Nat} : ∀ {vs : List Nat}, i ∉ vs → (wipe σ vs)[i]? = σ[i]?
  | [], _ => rfl
  | v :: vs, h => by
    unfold wipe
    rw [List.getElem?_set_ne (by intro e; subst e; simp at h)]
    exact wipe_out' fun z => h (List.mem_cons_of_mem _ z)
theorem wipe_agr {σ σ' : L2.St} {vs T : List Nat} (hT : ∀ i, i ∈ T → i ∈ vs) (a : Agr T (wipe σ vs) σ') : wipe σ' vs = wipe σ vs := by
  apply List.ext_getElem?
  intro i
  have hl : σ'.length = σ.length := by rw [a.1, wipe_length]
  by_cases h : i ∈ vs
  · have key : ∀ (τ : L2.St) (us : List Nat), i ∈ us → (wipe τ us)[i]? = if i < τ.length then some none else none := by
      intro τ us
      induction us with
      | nil => intro h; cases h
      | cons u us ih =>
        intro hu
        unfold wipe
        by_cases e : u = i
        · subst e
          by_cases hl : u < τ.length
          · rw [List.getElem?_set_self (by rw [wipe_length]; exact hl), if_pos hl]
          · rw [List.getElem?_eq_none (by rw [List.length_set, wipe_length]; omega), if_neg hl]
        · rw [List.getElem?_set_ne e]
          exact ih (by simpa [Ne.symm e] using hu)
    rw [key σ' vs h, key σ vs h, hl]
  · rw [wipe_out' h, a.2 i fun z => h (hT i z)]
section
variable {G : GC} {W : WX} {X : Cx} {pos : Pos}
theorem frzAll_map (env : Env) : ∀ n, env.length ≤ n → fzAll (List.range n) env = env.map Sl.frz := by
  intro n hn
  apply List.ext_getElem?
  intro i
  rw [List.getElem?_map]
  have h1 := fun (A : List Nat) (env : Env) (i : Nat) => fzAll_get A env i
  rcases h1 (List.range n) env i with e | ⟨ds, e1, e2⟩
  · rw [e]
    cases q : env[i]? with
    | none => rfl
    | some s =>
      cases s with
      | un => rfl
      | fz d => rfl
      | ow ds =>
        rw [q] at e
        have := (fz_ow_iff.mp e).2
        have hi : i < env.length := (List.getElem?_eq_some_iff.mp q).1
        exact absurd (List.mem_range.mpr (by omega)) this
  · rw [e1, e2]
    rfl
theorem noOwn_map {env : Env} {σ : L2.St} {vs : List Nat} {p : Addr} : ¬ Own (wipeE (env.map Sl.frz) vs) σ p := fun ⟨i, ds, a, _⟩ => by
  obtain ⟨h, _⟩ := wipeE_some (by simp) a
  rw [List.getElem?_map] at h
  cases q : env[i]? with
  | none => rw [q] at h; cases h
  | some s =>
    rw [q] at h
    exact frz_not_ow _ _ (Option.some.inj h)
/-- what a comprehension makes -/
def lcL (t : D → Env → Option Env) (tt : Env → M Bool) (te : Env → M Rs) (env : Env) : List D → M (List D)
  | [] => .ok []
  | d :: ds => match t d env with
    | none => .bad
    | some e2 => do
      let b ← tt e2
      if b then do
        let r ← te e2
        let rest ← lcL t tt te env ds
        .ok (r.d :: rest)
      else lcL t tt te env ds
def eLc (vs : List Nat) (it : Env → M (List D)) (t : D → Env → Option Env) (tt : Env → M Bool) (te : Env → M Rs) : Env → M Rs := fun env => do
  let _ ← (if env.length ≤ 64 then M.ok () else M.bad)
  let ds ← it env
  let rs ← pureM (lcL t tt te (wipeE (env.map Sl.frz) vs) ds)
  if ds.length < sizeLine then .ok (.ow rs) else .bad
structure DTs (G : GC) (W : WX) (X : Cx) (e : List Expr) (A : List Nat) (f : Env → M Bool) : Prop where
  pts : PTs X e (tDT G W A f)
theorem weakTs {X : Cx} {e : List Expr} {t u : TT} (h : PTs X e t) (w : ∀ σ H Q, u σ H Q → t σ H Q) : PTs X e u := ⟨fun pins s σ H Q I q => h.run pins s σ H Q I (w σ H Q q)⟩
def tYesD : Env → M Bool := fun _ => .ok true
theorem dts_nil : DTs G W X [] [] tYesD := ⟨weakTs pts_nil fun σ H Q ⟨hid, H0, env, R, h⟩ => h H (Same.refl _)⟩
theorem dts_one {c : Expr} {A : List Nat} {f : Env → M Bool} (h : DT G W X c A f) : DTs G W X [c] A f := ⟨pts_one h.pt⟩
abbrev W0 : WX := fun _ _ _ _ => False
theorem noOwn_fz {A : List Nat} {env : Env} {σ : L2.St} {p : Addr} (h : ∀ p, ¬ Own env σ p) : ¬ Own (fzAll A env) σ p := fun o => h p (own_fz o)
theorem no_own_tgt {hid : Addr → Prop} {env env' : Env} {σ σ' : L2.St} {H : Hp} : True := trivial
theorem Res.plain {hid : Addr → Prop} {A : List Nat} {H0 H H' : Hp} {env : Env} {σ : L2.St} {v : V} {r : Rs} (R : Real G hid H0 env σ H) (h : Res G hid A env σ H H' v r) : Rp G (cut hid H') v r.d :=
  (h.rp R).mono (cut_sub fun a z => .inl z)
/-- the comprehension's reading -/
theorem lc_run {T A B C : List Nat} {it : Env → M (List D)} {t : D → Env → Option Env} {tt : Env → M Bool} {te : Env → M Rs} {vs : List Nat} (hT : ∀ i, i ∈ T → i ∈ vs) {σ : L2.St} {H : Hp} {Q : VK}
    (h : tDE G W (List.range 64) (eLc vs it t tt te) σ H Q) : tLc (tDI G W A it) (tDG G T t) (tDT G W0 B tt) (tDE G W0 C te) vs σ H Q := by
  obtain ⟨hid, H0, env, R, h⟩ := h
  refine ⟨hid, H0, env, R, ?_⟩
  have h64 : env.length ≤ 64 := by
    by_cases hl : env.length ≤ 64
    · exact hl
    · unfold eLc at h
      rw [if_neg hl] at h
      exact h.elim
  have h : Post G W hid (List.range 64) env σ H Q (it env >>= fun ds => pureM (lcL t tt te (wipeE (env.map Sl.frz) vs) ds) >>= fun rs => if ds.length < sizeLine then .ok (.ow rs) else .bad) := by
    unfold eLc at h
    rw [if_pos h64] at h
    exact h
  have sub : ∀ {H2 : Hp}, env.length ≤ 64 → Same (See hid A env σ H2) (See hid (List.range 64) env σ H2) := fun {H2} hl => cut_sub fun a z => by
    rcases z with z | ⟨i, ds, z1, z2⟩
    · exact .inl z
    · have := (fz_ow_iff.mp z1)
      have hi : i < env.length := (List.getElem?_eq_some_iff.mp this.1).1
      exact absurd (List.mem_range.mpr (by omega)) this.2
  have subx : ∀ {H2 : Hp}, Same (See hid A env σ H2) (See hid (A ++ List.range 64) env σ H2) := fun {H2} => see_mono sub_l (Same.refl _)
  cases e : it env with
  | bad => rw [e] at h; exact h
  | ex x =>
    rw [e] at h
    intro c d H' s q
    exact h c d H' s (q.mono (sub h64))
  | ok ds =>
    rw [e] at h
    intro J H1 s1 w D hD
    cases e2 : pureM (lcL t tt te (wipeE (env.map Sl.frz) vs) ds) with
    | bad =>
      have h : Post G W hid (List.range 64) env σ H Q (pureM (lcL t tt te (wipeE (env.map Sl.frz) vs) ds) >>= fun rs => if ds.length < sizeLine then .ok (.ow rs) else .bad) := h
      rw [e2] at h
      exact h.elim
    | ex z => exact absurd e2 pureM_ex
    | ok rs =>
      have h : Post G W hid (List.range 64) env σ H Q (pureM (lcL t tt te (wipeE (env.map Sl.frz) vs) ds) >>= fun rs => if ds.length < sizeLine then .ok (.ow rs) else .bad) := h
      rw [e2] at h
      have h : Post G W hid (List.range 64) env σ H Q (if ds.length < sizeLine then .ok (.ow rs) else .bad) := h
      by_cases hc : ds.length < sizeLine
      · rw [if_pos hc] at h
        have e3 := pureM_ok e2
        have Rf := (R.mono s1).frz (List.range 64)
        rw [frzAll_map env 64 h64] at Rf
        -- the block's state
        let hC : Addr → Prop := fun a => hid a ∨ a = D
        have RC : ∀ {H2 : Hp}, Same H1 H2 → H2 D ≠ none → Real G hC H1 (wipeE (env.map Sl.frz) vs) (wipe σ vs) H2 := fun {H2} s2 d2 => by
          refine ⟨by rw [wipeE_len, wipe_length, List.length_map, R.len], fun i d hi => ?_, fun i es hi => ?_, fun i j es es' p a => ?_, s2, fun p o => absurd o noOwn_map, fun a ha n => ?_⟩
          · obtain ⟨a, b⟩ := wipeE_some (by simp) hi
            obtain ⟨v, c, d'⟩ := Rf.fz i d a
            refine ⟨v, by rw [wipe_out' b]; exact c, d'.mono fun a o q => ?_⟩
            by_cases z : Z hid (env.map Sl.frz) σ a
            · rw [cut_pos z] at q; cases q
            · rw [cut_neg z] at q
              rw [cut_neg]
              · exact s2 a o q
              · rintro ((y | rfl) | y)
                · exact z (.inl y)
                · rw [hD] at q; cases q
                · exact noOwn_map y
          · obtain ⟨a, b⟩ := wipeE_some (by simp) hi
            rw [List.getElem?_map] at a
            cases q : env[i]? with
            | none => rw [q] at a; cases a
            | some s => rw [q] at a; exact absurd (Option.some.inj a) (frz_not_ow _ _)
          · obtain ⟨a, b⟩ := wipeE_some (by simp) a
            rw [List.getElem?_map] at a
            cases q : env[i]? with
            | none => rw [q] at a; cases a
            | some s => rw [q] at a; exact absurd (Option.some.inj a) (frz_not_ow _ _)
          · rcases ha with ha | rfl
            · cases q : H1 a with
              | none => exact (R.mono s1).hidb a ha q
              | some o => rw [s2 a o q] at n; cases n
            · exact d2 n
        have seeS : ∀ {H2 : Hp}, Same H1 H2 → Same (See hid A env σ H1) (cut hC H2) := fun {H2} s2 a o q => by
          by_cases z : Z hid (fzAll A env) σ a
          · rw [show See hid A env σ H1 a = none from cut_pos z] at q; cases q
          · rw [show See hid A env σ H1 a = H1 a from cut_neg z] at q
            rw [cut_neg]
            · exact s2 a o q
            · rintro (y | rfl)
              · exact z (.inl y)
              · rw [hD] at q; cases q
        refine ⟨fun i m H2 => m = ds.length - i ∧ i ≤ ds.length ∧ ∃ ws acc rest, Same H1 H2 ∧ H2 D = some (.lst ws) ∧ RpAll G (cut hC H2) ws acc ∧ lcL t tt te (wipeE (env.map Sl.frz) vs) (ds.drop i) = .ok rest ∧ acc ++ rest = rs ∧ acc.length ≤ i,
          ⟨ds.length, by simp, Nat.zero_le _, [], [], rs, same_new hD, upd_same, .nil, e3, rfl, Nat.le_refl _⟩, ?_⟩
        rintro i m H2 ⟨rfl, hi, ws, acc, rest, s2, hw, ra, el, ea, hl⟩
        have sA : Same (See hid A env σ H1) H2 := (seeS s2).trans cut_le
        by_cases hlt : i < ds.length
        · refine .inr ⟨w.goes i H2 hlt sA, fun H3 => ∃ ws acc rest, Same H1 H3 ∧ H3 D = some (.lst ws) ∧ RpAll G (cut hC H3) ws acc ∧ lcL t tt te (wipeE (env.map Sl.frz) vs) (ds.drop (i + 1)) = .ok rest ∧ acc ++ rest = rs ∧ acc.length ≤ i + 1,
            fun H3 q => ⟨ds.length - (i + 1), by omega, rfl, hlt, q⟩, fun x H3 y => ?_⟩
          obtain ⟨d, ed, nw⟩ := w.yields i H2 x H3 hlt sA y
          have R2 := RC s2 (by rw [hw]; simp)
          have nr := nw (cut hC H2) (seeS s2) cut_le
          have s3 := nr.same
          have R3 := R2.mono s3
          have zC : Z hC (wipeE (env.map Sl.frz) vs) (wipe σ vs) = hC := by
            funext a
            exact propext ⟨fun z => z.elim id fun o => absurd o noOwn_map, .inl⟩
          have rx : Rp G (cut (Z hC (wipeE (env.map Sl.frz) vs) (wipe σ vs)) H3) x d := by
            obtain ⟨_, S', h1, h2, h3, h4⟩ := nr
            rw [zC]
            refine h4.mono (grow_cut (fun a z => R2.hidb a z) h2 h3)
          have ed' : ds.drop i = d :: ds.drop (i + 1) := by
            rw [List.drop_eq_getElem_cons hlt]
            rw [List.getElem?_eq_getElem hlt] at ed
            cases ed
            rfl
          rw [ed'] at el
          unfold lcL at el
          cases et : t d (wipeE (env.map Sl.frz) vs) with
          | none => rw [et] at el; cases el
          | some e4 =>
            rw [et] at el
            refine ⟨hC, H1, _, d, e4, R3, rx, et, fun σ4 R4 g4 ag => ⟨wipe_agr hT ag, hC, H1, e4, R4, ?_⟩⟩
            have el : (tt e4 >>= fun b => if b then te e4 >>= fun r => lcL t tt te (wipeE (env.map Sl.frz) vs) (ds.drop (i + 1)) >>= fun rest => .ok (r.d :: rest) else lcL t tt te (wipeE (env.map Sl.frz) vs) (ds.drop (i + 1))) = .ok rest := el
            cases eb : tt e4 with
            | bad => rw [eb] at el; cases el
            | ex z => rw [eb] at el; cases el
            | ok b =>
              rw [eb] at el
              intro H4 s4
              cases b with
              | false =>
                have el : lcL t tt te (wipeE (env.map Sl.frz) vs) (ds.drop (i + 1)) = .ok rest := el
                show ∃ ws acc rest, _
                exact ⟨ws, acc, rest, (s2.trans s3).trans s4, s4 _ _ (s3 _ _ hw), ra.mono (cut_ex (s3.trans s4)), el, ea, by omega⟩
              | true =>
                have el : (te e4 >>= fun r => lcL t tt te (wipeE (env.map Sl.frz) vs) (ds.drop (i + 1)) >>= fun rest => .ok (r.d :: rest)) = .ok rest := el
                show tDE G W0 C te σ4 H4 _
                have R5 := R4.mono s4
                refine ⟨hC, H1, e4, R5, ?_⟩
                cases ee : te e4 with
                | bad => rw [ee] at el; cases el
                | ex z => rw [ee] at el; cases el
                | ok r =>
                  rw [ee] at el
                  have el : (lcL t tt te (wipeE (env.map Sl.frz) vs) (ds.drop (i + 1)) >>= fun rest => .ok (r.d :: rest)) = .ok rest := el
                  intro v H5 s5 q5
                  cases er : lcL t tt te (wipeE (env.map Sl.frz) vs) (ds.drop (i + 1)) with
                  | bad => rw [er] at el; cases el
                  | ex z => rw [er] at el; cases el
                  | ok rest' =>
                    rw [er] at el
                    cases el
                    have s25 : Same H2 H5 := (s3.trans s4).trans s5
                    have hw5 := s25 _ _ hw
                    have al : ws.length = acc.length := ra.len
                    refine ⟨ws, hw5, by omega, ws ++ [v], acc ++ [r.d], rest', ?_, upd_same, ?_, rfl, by simp [← ea], by simp; omega⟩
                    · intro a o q
                      rw [upd_ne (ne_of_none q hD)]
                      exact s25 a o (s2 a o q)
                    · have hcD : hC D := .inr rfl
                      rw [cut_upd hcD]
                      exact (ra.mono (cut_ex s25)).app (.cons (q5.plain R5) .nil)
        · have ei : i = ds.length := by omega
          subst ei
          rw [List.drop_length] at el
          cases el
          rw [List.append_nil] at ea
          subst ea
          refine .inl ⟨w.stops H2 sA, h _ H2 (s1.trans s2) ⟨D, ws, rfl, s1.free hD, hw, ra.mono (cut_sub fun a z => ?_)⟩⟩
          rcases z with z | z
          · rcases z with z | ⟨j, es, z1, z2⟩
            · exact .inl z
            · have := fz_ow_iff.mp z1
              have hj : j < env.length := (List.getElem?_eq_some_iff.mp this.1).1
              exact absurd (List.mem_range.mpr (by omega)) this.2
          · exact .inr z
      · rw [if_neg hc] at h
        exact h.elim
end
end DL
end

section
set_option maxRecDepth 100000
set_option maxHeartbeats 4000000
namespace DL
open PySem PySem.Spec PyProof.Rows L2
section
variable {G : GC} {W : WX} {X : Cx} {pos : Pos}
theorem d_lc {elt tg iter : Expr} {ifs : List Expr} {scope : Scope} {own : List (Str × Nat)} {T A B C : List Nat} {it : Env → M (List D)} {t : D → Env → Option Env} {tt : Env → M Bool} {te : Env → M Rs} (hc : X.calm = true) (hN : X.N.Nodup) (hi : DI G W X tg iter A it)
    (ok : BlkOk X.N X.env.scope scope own) (hT : ∀ i, i ∈ T → i ∈ own.map (·.2))
    (hg : ∀ (s : Shared) (H : Hp) (C : Addr) (cl : List (Str × Addr)) (fp : List Addr), DG G (X.blk s H scope (compEnvC scope cl C X.env) fp) tg T t)
    (ht : ∀ (s : Shared) (H : Hp) (C : Addr) (cl : List (Str × Addr)) (fp : List Addr), DTs G W0 (X.blk s H scope (compEnvC scope cl C X.env) fp) ifs B tt)
    (he : ∀ (s : Shared) (H : Hp) (C' : Addr) (cl : List (Str × Addr)) (fp : List Addr), DE G W0 (X.blk s H scope (compEnvC scope cl C' X.env) fp) elt C te)
    (k : G.K = X.K := by rfl) (hs : ∀ x, foldedSetIterable iter X.env x = pure x := by intro _; rfl) : DE G W X (.ListComp elt [⟨tg, iter, ifs, 0⟩] scope pos) (List.range 64) (eLc (own.map (·.2)) it t tt te) :=
  ⟨weakE (pe_lc hc hN hi.pi ok (fun s H C cl fp => (hg s H C cl fp).pg) (fun s H C cl fp => (ht s H C cl fp).pts) (fun s H C cl fp => (he s H C cl fp).pe) hs) fun σ H Q h => lc_run hT h, k⟩
theorem ds_setLc {i : Nat} {y : Str} {py : Pos} {elt tg iter : Expr} {ifs : List Expr} {scope : Scope} {own : List (Str × Nat)} {cpos : Pos} {T A B C : List Nat} {it : Env → M (List D)} {t : D → Env → Option Env} {tt : Env → M Bool} {te : Env → M Rs} (hc : X.calm = true) (hN : X.N.Nodup)
    (hy : X.N[i]? = some y) (hyl : X.env.scope.names.lookup y = some .local) (hsw : swapsWith (.ListComp elt [⟨tg, iter, ifs, 0⟩] scope cpos) (some (.Name y py)) pos.line X.env = pure true) (hi : DI G W X tg iter A it)
    (ok : BlkOk X.N X.env.scope scope own) (hT : ∀ i, i ∈ T → i ∈ own.map (·.2))
    (hg : ∀ (s : Shared) (H : Hp) (C : Addr) (cl : List (Str × Addr)) (fp : List Addr), DG G (X.blk s H scope (compEnvC scope cl C X.env) fp) tg T t)
    (ht : ∀ (s : Shared) (H : Hp) (C : Addr) (cl : List (Str × Addr)) (fp : List Addr), DTs G W0 (X.blk s H scope (compEnvC scope cl C X.env) fp) ifs B tt)
    (he : ∀ (s : Shared) (H : Hp) (C' : Addr) (cl : List (Str × Addr)) (fp : List Addr), DE G W0 (X.blk s H scope (compEnvC scope cl C' X.env) fp) elt C te)
    (hs : ∀ x, foldedSetIterable iter X.env x = pure x := by intro _; rfl) : DS G W X (.Assign [.Name y py] (.ListComp elt [⟨tg, iter, ifs, 0⟩] scope cpos) pos) (sSet i (List.range 64) (eLc (own.map (·.2)) it t tt te)) :=
  ⟨weakS (ps_setLc hc hN hy hyl hsw hi.pi ok (fun s H C cl fp => (hg s H C cl fp).pg) (fun s H C cl fp => (ht s H C cl fp).pts) (fun s H C cl fp => (he s H C cl fp).pe) hs) fun D σ H h =>
    lc_run hT (expr_run (f := eLc (own.map (·.2)) it t tt te) (k := fun env r => .nx ((DL.frzIf r (List.range 64) env).set i r.sl)) h fun hid H0 env r v H' R s e q p => by
      obtain ⟨R2, g⟩ := set_run (i := i) R s q
      exact p _ _ R2 g)⟩
/-! ### own defs -/
def spD (G : GC) (n : Nat) (g : List D → M Rs) : Sp := fun vs H Q E => ∃ hid ds, ds.length = n ∧ (∀ a, hid a → H a ≠ none) ∧ RpAll G (cut hid H) vs ds ∧ match g ds with
  | .bad => False
  | .ok r => ∀ v H', RetR G hid H H' v r → Q v H'
  | .ex x => ∀ c d H', Same H H' → ExR G (cut hid H') H' x c d → E c d H'
theorem RetR.same {hid : Addr → Prop} {H H' : Hp} {v : V} {r : Rs} (h : RetR G hid H H' v r) : Same H H' := by
  cases r with
  | fz d => exact h.1
  | ow ds => exact h.1
theorem RetR.res {hid : Addr → Prop} {A : List Nat} {env : Env} {σ : L2.St} {H H1 H' : Hp} {v : V} {r : Rs} (s : Same H H1) (h : RetR G (Z hid (fzAll A env) σ) H1 H' v r) : Res G hid A env σ H H' v r := by
  cases r with
  | fz d => exact h.2
  | ow ds =>
    obtain ⟨_, p, vs, a, b, c, d⟩ := h
    exact ⟨p, vs, a, s.free b, c, d⟩
theorem d_call {k n : Nat} {f : Addr} {fd : FuncData} {ps : List Str} {g : List D → M Rs} {x : Str} {p : Pos} {e : Expr} {es : List Expr} {A : List Nat} {fa : Env → M (List D)} (F : FnOk X.prog X.w X.K X.mg X.base CX0 k f fd ps (spD G n g)) (hr : Room k X.A) (hg : Gl X x) (hm : X.mg x = some (.ref f))
    (hk : PySem.W.keepIn X.K (.ref f) = true) (hb : Binds X.K fd ps []) (ha : DA G W X (e :: es) A fa) (hn : (e :: es).length = n) (hdb : (x == ("__debug__" : Str)) = false := by decide) (he : starEach (e :: es) X.env = (false, eval e X.env) :: starEach es X.env := by rfl)
    (hpl : (backTo pos (starEach es X.env)).any (·.1) = false := by rfl) : DE G W X (.Call (.Name x p) (e :: es) [] pos) A (eA (fun ds => if ds.length = n then g ds else .bad) fa) :=
  ⟨weakE (pe_call F hr hg hm hk hb .nil pass0 ha.pa hdb he hpl) fun σ H Q h => by
    obtain ⟨hid, H0, env, R, h⟩ := h
    refine ⟨hid, H0, env, R, ?_⟩
    have h : Post G W hid A env σ H Q (fa env >>= fun ds => pureM (if ds.length = n then g ds else .bad)) := h
    cases e1 : fa env with
    | bad => rw [e1] at h; exact h
    | ex x => rw [e1] at h; exact h
    | ok ds =>
      rw [e1] at h
      intro vs H1 s1 r1
      have h : Post G W hid A env σ H Q (pureM (if ds.length = n then g ds else .bad)) := h
      have R1 := R.mono s1
      rw [List.append_nil]
      by_cases hl : ds.length = n
      · rw [if_pos hl] at h
        refine ⟨Z hid (fzAll A env) σ, ds, hl, fun a z => R1.zthere (z_fz z), r1, ?_⟩
        cases e2 : g ds with
        | bad => rw [e2] at h; exact h
        | ex z => rw [e2] at h; exact h.elim
        | ok z =>
          rw [e2] at h
          exact fun v H' q => h v H' (s1.trans q.same) (q.res s1)
      · rw [if_neg hl] at h
        exact h.elim, ha.k⟩
def startE (n : Nat) (ds : List D) : Env := ds.map Sl.fz ++ List.replicate (n - ds.length) .un
def runD (n : Nat) (b : Env → So) (ds : List D) : M Rs := match b (startE n ds) with
  | .rt r => .ok r
  | .nx _ => .ok (.fz .non)
  | .ex x _ => .ex x
  | _ => .bad
theorem real_start {N : List Str} {hid : Addr → Prop} {H : Hp} {vs : List V} {ds : List D} (hh : ∀ a, hid a → H a ≠ none) (r : RpAll G (cut hid H) vs ds) : Real G hid H (startE N.length ds) (start N vs) H := by
  have hl := r.len
  have no : ∀ (i : Nat) es, (startE N.length ds)[i]? ≠ some (.ow es) := fun i es e => by
    unfold startE at e
    rw [List.getElem?_append] at e
    split at e
    · rw [List.getElem?_map] at e
      cases q : ds[i]? with
      | none => rw [q] at e; cases e
      | some d => rw [q] at e; cases e
    · rw [List.getElem?_replicate] at e
      split at e <;> cases e
  have noO : ∀ p, ¬ Own (startE N.length ds) (start N vs) p := fun p ⟨i, es, e, _⟩ => no i es e
  refine ⟨by simp [startE, L2.start, hl], fun i d e => ?_, fun i es e => absurd e (no i es), fun i j es es' p a => absurd a (no i es), Same.refl _, fun p o => absurd o (noO p), hh⟩
  unfold startE at e
  rw [List.getElem?_append] at e
  split at e
  · rename_i hi
    rw [List.getElem?_map] at e
    cases q : ds[i]? with
    | none => rw [q] at e; cases e
    | some d' =>
      rw [q] at e
      cases e
      obtain ⟨v, a, b⟩ := r.get q
      refine ⟨v, ?_, b.mono (cut_sub fun a z => z.elim id fun o => absurd o (noO a))⟩
      unfold L2.start
      rw [List.getElem?_append_left (by simp; rw [hl]; simpa using hi), List.getElem?_map, a]
      rfl
  · rw [List.getElem?_replicate] at e
    split at e <;> cases e
end
section
variable {P : Program} {w : World} {K : PySem.W.Frag} {mg : Str → Option Value} {base : Heap}
theorem fn_D {G : GC} (hG : G.K = K) {x qual : Str} {st : Stmt} {f : Addr} {fd : FuncData} {N ps : List Str} {k : Nat} {b : Env → So} (F : Fun K x qual st f fd) (S : FnScope N ps (defScope st))
    (hb : ∀ (cdv : Value) (A : Around) (outer : List PySem.Env) (s : Shared) (H : Hp) (E : XK), Room k (A.deeper (envOfC qual (defScope st) s.heap.objs.size f cdv)) →
      DSs G W0 (cxOf CX0 P w K mg base N qual (defScope st) f cdv A outer s H E).nox (defBody st) b) : FnOk P w K mg base CX0 (k + 1) f fd ps (spD G ps.length fun ds => pureM (runD N.length b ds)) := by
  refine F.ok S (fun vs H Q E h => ?_) (fun cdv A outer s H vs Q E hr h => ?_)
  · obtain ⟨hid, ds, hl, _, r, _⟩ := h
    rw [r.len, hl]
  · obtain ⟨hid, ds, hl, hh, r, h⟩ := h
    refine ⟨_, (hb cdv A outer s H E hr).ps, hid, H, startE N.length ds, real_start hh r, ?_⟩
    have h : match pureM (match b (startE N.length ds) with | .rt r => M.ok r | .nx _ => .ok (.fz .non) | .ex x _ => .ex x | _ => .bad) with | .bad => False | .ok r => ∀ v H', RetR G hid H H' v r → Q v H' | .ex x => ∀ c d H', Same H H' → ExR G (cut hid H') H' x c d → E c d H' := h
    cases e : b (startE N.length ds) with
    | bad => rw [e] at h; exact h
    | nx e' =>
      rw [e] at h
      exact fun σ' H' R g => h .non H' ⟨R.base, .non⟩
    | rt r =>
      rw [e] at h
      exact fun v H' q => h v H' q
    | bk e' => rw [e] at h; exact h.elim
    | ct e' => rw [e] at h; exact h.elim
    | ex x e' => rw [e] at h; exact h.elim
end
end DL
end

section
set_option maxRecDepth 100000
set_option maxHeartbeats 4000000
/-! further rules by values: sum, max, min over a tuple; min, max with a default -/
namespace PySem
section
variable {prog : Program} {w : World} {A : Around} {E : Value → Shared → Prop} {s : Shared} {l : Addr} {xs : Array (Int × Tok)}
theorem x_iterTup {Q : Value → Shared → Prop} (hl : s.heap.IsTuple l (intItems xs))
    (h : ∀ s₂ : Shared, s₂ = { s with heap := s.heap.push { cls := .type "tuple_iterator", data := .fields #[.ref l, .int 0 0] } } →
      (s₂.heap.IsTupleIter s.heap.objs.size l 0 ∧ s₂.heap.IsTuple l (intItems xs)) → (∀ b ∈ [s.heap.objs.size, l], b < s₂.heap.objs.size) → l ≠ s.heap.objs.size → Q (.ref s.heap.objs.size) s₂) :
    wpAny (model prog w) A (pyIter (.ref l)) Q E s := by
  have hlt : l < s.heap.objs.size := by obtain ⟨_, e, _⟩ := hl; exact Heap.lt_size e
  refine wpAny_pyIter_tuple hl (h _ rfl ⟨⟨_, Heap.get?_push_size _ rfl, rfl, rfl⟩, hl.push _⟩ (fun b hb => ?_) (Nat.ne_of_lt hlt))
  show b < (s.heap.push _).objs.size
  rw [Heap.size_push]
  rcases List.mem_cons.mp hb with rfl | hb
  · exact Nat.lt_succ_self _
  · rcases List.mem_cons.mp hb with rfl | hb
    · exact Nat.lt_succ_of_lt hlt
    · cases hb
theorem x_oldT {h' : Heap} {ob : Obj} (hk : ∀ b o, b ∉ [s.heap.objs.size] → (s.heap.push ob).get? b = some o → h'.get? b = some o) :
    ∀ b o, s.heap.get? b = some o → h'.get? b = some o := fun b o e => by
  refine hk b o (fun hm => ?_) (Heap.get?_push_of_some _ e)
  rcases List.mem_cons.mp hm with e1 | hm
  · exact absurd (e1 ▸ Heap.lt_size e) (Nat.lt_irrefl _)
  · cases hm
theorem x_sumTup {Q : Value → Shared → Prop} (hh : A.handled = none) (hl : s.heap.IsTuple l (intItems xs))
    (h : ∀ h' tk t', (∀ b o, s.heap.get? b = some o → h'.get? b = some o) → Q (.int (preSum (numAt xs) xs.size) t') { s with heap := h', toks := tk }) :
    wpAny (model prog w) A (call (.builtin "sum") [.ref l]) Q E s := by
  refine call_sum_walkG (x_iterTup hl fun s₂ e st hfp hlI => ?_)
  subst e
  refine ⟨_, _, _, _, _, _, numAt xs, rfl, Walks.tuple (A := A.in1) hh _ l hlI (intItems xs), st, hfp, (fun _ _ => intItems_at), fun h' tk t' hk => ?_⟩
  have := h h' tk t' (x_oldT hk)
  simpa [intItems] using this
theorem x_maxTup {Q : Value → Shared → Prop} (hh : A.handled = none) (hl : s.heap.IsTuple l (intItems xs)) (hne : 0 < xs.size)
    (h : ∀ v h' tk, (intItems xs)[argBest (fun i j => decide (numAt xs i > numAt xs j)) (xs.size - 1)]? = some v → (∀ b o, s.heap.get? b = some o → h'.get? b = some o) → Q v { s with heap := h', toks := tk }) :
    wpAny (model prog w) A (call (.builtin "max") [.ref l]) Q E s := by
  refine call_max_walk (x_iterTup hl fun s₂ e st hfp hlI => ?_)
  subst e
  refine ⟨_, _, _, _, _, _, _, rfl, Walks.tuple (A := A.in1) hh _ l hlI (intItems xs), st, hfp, by simpa [intItems] using hne, CmpOf.ints_gt (numAt xs) (fun _ _ => intItems_at), fun v h' tk hP hk => ?_⟩
  exact h v h' tk (by simpa [intItems] using hP) (x_oldT hk)
theorem x_minTup {Q : Value → Shared → Prop} (hh : A.handled = none) (hl : s.heap.IsTuple l (intItems xs)) (hne : 0 < xs.size)
    (h : ∀ v h' tk, (intItems xs)[argBest (fun i j => decide (numAt xs i < numAt xs j)) (xs.size - 1)]? = some v → (∀ b o, s.heap.get? b = some o → h'.get? b = some o) → Q v { s with heap := h', toks := tk }) :
    wpAny (model prog w) A (call (.builtin "min") [.ref l]) Q E s := by
  refine call_min_walk (x_iterTup hl fun s₂ e st hfp hlI => ?_)
  subst e
  refine ⟨_, _, _, _, _, _, _, rfl, Walks.tuple (A := A.in1) hh _ l hlI (intItems xs), st, hfp, by simpa [intItems] using hne, CmpOf.ints_lt (numAt xs) (fun _ _ => intItems_at), fun v h' tk hP hk => ?_⟩
  exact h v h' tk (by simpa [intItems] using hP) (x_oldT hk)
theorem x_cmpIn {op : CmpOp} {H : Heap} {P : Nat → Value → Prop} {bt : Nat → Nat → Bool} (h : CmpOf prog w A op P bt) : CmpIn prog w A op H P bt := fun i j vi vj s Q E _ a b c => h i j vi vj s Q E a b c
/-- min(x, default=d) of a tuple or list of ints: the default where it is empty -/
theorem x_minD {x : Value} {d : Value} {Q : Value → Shared → Prop} (hh : A.handled = none)
    (hx : (∃ l, x = .ref l ∧ s.heap.IsTuple l (intItems xs)) ∨ (∃ l, x = .ref l ∧ s.heap.IsList l (intItems xs)))
    (h0 : xs.size = 0 → ∀ h' tk, (∀ b o, s.heap.get? b = some o → h'.get? b = some o) → Q d { s with heap := h', toks := tk })
    (h : 0 < xs.size → ∀ v h' tk, (intItems xs)[argBest (fun i j => decide (numAt xs i < numAt xs j)) (xs.size - 1)]? = some v → (∀ b o, s.heap.get? b = some o → h'.get? b = some o) → Q v { s with heap := h', toks := tk }) :
    wpAny (model prog w) A (call (.builtin "min") [x] [(Str.ofString "default", d)]) Q E s := by
  have mv : ∀ {ob : Obj} {s' : Shared}, Moved [s.heap.objs.size] (fun a b => b = a) { s with heap := s.heap.push ob } s' → ∃ h' tk, s' = { s with heap := h', toks := tk } ∧ ∀ b o, s.heap.get? b = some o → h'.get? b = some o := fun {ob s'} m => by
    obtain ⟨hp, g, dd, tk, os⟩ := s'
    have h1 : g = s.gens := m.gens
    have h2 : dd = s.drawn := m.drawn
    have h3 : os = s.os := m.os
    subst h1 h2 h3
    exact ⟨hp, tk, rfl, fun b o e => m.heap b o (fun hm => by
      rcases List.mem_cons.mp hm with e1 | hm
      · exact absurd (e1 ▸ Heap.lt_size e) (Nat.lt_irrefl _)
      · cases hm) (Heap.get?_push_of_some _ e)⟩
  have fin : ∀ {l : Addr} {ob : Obj} {St : Nat → Heap → Prop}, Walks prog w A.in1 s.heap.objs.size [s.heap.objs.size, l] [s.heap.objs.size] (intItems xs).size (fun i v => (intItems xs)[i]? = some v) St → St 0 (s.heap.push ob) →
      (∀ b ∈ [s.heap.objs.size, l], b < (s.heap.push ob).objs.size) →
      ∃ I fp wr G n P St H bt, (Value.ref s.heap.objs.size) = .ref I ∧ WalksS prog w A.in1 I fp wr G n P St ∧ St 0 { s with heap := s.heap.push ob } ∧ (∀ b ∈ fp, b < (s.heap.push ob).objs.size) ∧
      (∀ b o, H.get? b = some o → b ∉ wr) ∧ (∀ b o, H.get? b = some o → (s.heap.push ob).get? b = some o) ∧ (n = 0 → ∀ s', Moved wr G { s with heap := s.heap.push ob } s' → Q d s') ∧
      (0 < n → CmpIn prog w A.in1 .Lt H P bt ∧ ∀ v s', P (argBest bt (n - 1)) v → Moved wr G { s with heap := s.heap.push ob } s' → Q v s') := fun {l ob St} W st hfp => by
    have hsz : (intItems xs).size = xs.size := by simp [intItems]
    refine ⟨_, _, _, _, _, _, _, s.heap, _, rfl, W.toS, st, hfp, fun b o e hb => absurd (Heap.lt_size e) ((List.mem_singleton.mp hb) ▸ Nat.lt_irrefl _), fun b o e => Heap.get?_push_of_some _ e, fun hn s' m => ?_,
      fun hn => ⟨x_cmpIn (CmpOf.ints_lt (numAt xs) (fun _ _ => intItems_at)), fun v s' hP m => ?_⟩⟩
    · obtain ⟨h', tk, rfl, k⟩ := mv m
      exact h0 (by omega) h' tk k
    · obtain ⟨h', tk, rfl, k⟩ := mv m
      rw [hsz] at hP
      exact h (by omega) v h' tk hP k
  refine call_min_walkD ?_
  rcases hx with ⟨l, rfl, hl⟩ | ⟨l, rfl, hl⟩
  · refine x_iterTup hl fun s₂ e st hfp hlI => ?_
    subst e
    exact fin (Walks.tuple (A := A.in1) hh _ l hlI (intItems xs)) st hfp
  · refine iter_intList hl fun s₂ e st hfp hlI => ?_
    subst e
    exact fin (Walks.list (A := A.in1) hh _ l hlI (intItems xs)) st hfp
end
end PySem
namespace L2
open PySem PySem.Spec PyProof.Rows
section
variable {X : Cx}
def rSumT (K : PySem.W.Frag) : List V → Hp → VK → Prop := fun vs H Q => ∃ (a : Addr) (ns : List Int), vs = [V.ref a] ∧ SqT K H a (ns.map V.int) ∧ Q (.int ns.sum) H
theorem x_ints {its : List Value} {ns : List Int} (hi : IntsAre its ns) : ∃ xs : Array (Int × Tok), its.toArray = intItems xs ∧ xs.toList.map (·.1) = ns := by
  obtain ⟨xs, e⟩ := hi.allInts.items
  have hn : numsOf (intItems xs).toList = ns := by rw [← e]; exact hi.numsOf
  rw [nums_intItems] at hn
  exact ⟨xs, e, hn⟩
theorem cr_sumT (hc : X.calm = true) : CallR X (.builtin "sum") (rSumT X.K) := by
  intro pins s σ H vs us Q I r h
  obtain ⟨a, ns, rfl, hs, q⟩ := h
  obtain ⟨its, rv, hl, _⟩ := I.tuple hs
  rw [Vals.ref1 r]
  obtain ⟨xs, e, hn⟩ := x_ints rv.ints
  rw [e] at hl
  refine PySem.x_sumTup (I.ok.hd hc) hl fun h' tk t' hk => ?_
  rw [preSum_eq, List.take_of_length_le (by simp), hn]
  exact ⟨.int _, H, I.kept hk, ⟨_, rfl⟩, q⟩
def IsMax (ns : List Int) (m : Int) : Prop := m ∈ ns ∧ ∀ y, y ∈ ns → y ≤ m
def IsMin (ns : List Int) (m : Int) : Prop := m ∈ ns ∧ ∀ y, y ∈ ns → m ≤ y
theorem x_bestMax {xs : Array (Int × Tok)} {ns : List Int} (hn : xs.toList.map (·.1) = ns) (hne : 0 < xs.size) {v : Value} (hv : (intItems xs)[argBest (fun i j => decide (numAt xs i > numAt xs j)) (xs.size - 1)]? = some v) :
    ∃ m t, v = .int m t ∧ IsMax ns m := by
  obtain ⟨t, rfl⟩ := intItems_at hv
  obtain ⟨h1, h2⟩ := argBest_gt (numAt xs) (xs.size - 1)
  subst hn
  refine ⟨_, t, rfl, ?_, fun a ha => ?_⟩
  · rw [numAt_eq]; exact PySem.getD_mem (by rw [List.length_map, Array.length_toList]; omega)
  · obtain ⟨j, hj, rfl⟩ := mem_getD ha
    rw [List.length_map, Array.length_toList] at hj
    rw [← numAt_eq]; exact h2 j (by omega)
theorem x_bestMin {xs : Array (Int × Tok)} {ns : List Int} (hn : xs.toList.map (·.1) = ns) (hne : 0 < xs.size) {v : Value} (hv : (intItems xs)[argBest (fun i j => decide (numAt xs i < numAt xs j)) (xs.size - 1)]? = some v) :
    ∃ m t, v = .int m t ∧ IsMin ns m := by
  obtain ⟨t, rfl⟩ := intItems_at hv
  obtain ⟨h1, h2⟩ := argBest_lt (numAt xs) (xs.size - 1)
  subst hn
  refine ⟨_, t, rfl, ?_, fun a ha => ?_⟩
  · rw [numAt_eq]; exact PySem.getD_mem (by rw [List.length_map, Array.length_toList]; omega)
  · obtain ⟨j, hj, rfl⟩ := mem_getD ha
    rw [List.length_map, Array.length_toList] at hj
    rw [← numAt_eq]; exact h2 j (by omega)
def rMaxT (K : PySem.W.Frag) : List V → Hp → VK → Prop := fun vs H Q => ∃ (a : Addr) (ns : List Int), vs = [V.ref a] ∧ SqT K H a (ns.map V.int) ∧ 0 < ns.length ∧ ∀ m, m ∈ ns → (∀ y, y ∈ ns → y ≤ m) → Q (.int m) H
def rMinT (K : PySem.W.Frag) : List V → Hp → VK → Prop := fun vs H Q => ∃ (a : Addr) (ns : List Int), vs = [V.ref a] ∧ SqT K H a (ns.map V.int) ∧ 0 < ns.length ∧ ∀ m, m ∈ ns → (∀ y, y ∈ ns → m ≤ y) → Q (.int m) H
theorem x_size {xs : Array (Int × Tok)} {ns : List Int} (hn : xs.toList.map (·.1) = ns) : ns.length = xs.size := by rw [← hn, List.length_map, Array.length_toList]
theorem cr_maxT (hc : X.calm = true) : CallR X (.builtin "max") (rMaxT X.K) := by
  intro pins s σ H vs us Q I r h
  obtain ⟨a, ns, rfl, hs, hne, q⟩ := h
  obtain ⟨its, rv, hl, _⟩ := I.tuple hs
  rw [Vals.ref1 r]
  obtain ⟨xs, e, hn⟩ := x_ints rv.ints
  rw [e] at hl
  have hsz := x_size hn
  refine PySem.x_maxTup (I.ok.hd hc) hl (by omega) fun v h' tk hv hk => ?_
  obtain ⟨m, t, rfl, h1, h2⟩ := x_bestMax hn (by omega) hv
  exact ⟨.int m, H, I.kept hk, ⟨_, rfl⟩, q m h1 h2⟩
theorem cr_minT (hc : X.calm = true) : CallR X (.builtin "min") (rMinT X.K) := by
  intro pins s σ H vs us Q I r h
  obtain ⟨a, ns, rfl, hs, hne, q⟩ := h
  obtain ⟨its, rv, hl, _⟩ := I.tuple hs
  rw [Vals.ref1 r]
  obtain ⟨xs, e, hn⟩ := x_ints rv.ints
  rw [e] at hl
  have hsz := x_size hn
  refine PySem.x_minTup (I.ok.hd hc) hl (by omega) fun v h' tk hv hk => ?_
  obtain ⟨m, t, rfl, h1, h2⟩ := x_bestMin hn (by omega) hv
  exact ⟨.int m, H, I.kept hk, ⟨_, rfl⟩, q m h1 h2⟩
def rMinDf (K : PySem.W.Frag) : List V → List V → Hp → VK → Prop := fun vs zs H Q => ∃ (a : Addr) (ns : List Int) (d : V), vs = [V.ref a] ∧ zs = [d] ∧ (SqT K H a (ns.map V.int) ∨ SqL K H a (ns.map V.int)) ∧ (ns = [] → Q d H) ∧ ∀ m, m ∈ ns → (∀ y, y ∈ ns → m ≤ y) → Q (.int m) H
theorem cr_minDf (hc : X.calm = true) : CallRK X (.builtin "min") [Str.ofString "default"] (rMinDf X.K) := by
  intro pins s σ H vs zs us ws Q I r rz h
  obtain ⟨a, ns, d, rfl, rfl, hs, q0, q⟩ := h
  rw [Vals.ref1 r]
  obtain ⟨u, rfl, ru⟩ := vals1 rz
  have main : ∀ {its : List Value}, Vals (ns.map V.int) its → (s.heap.IsTuple a its.toArray ∨ s.heap.IsList a its.toArray) → wpAny (model X.prog X.w) X.A (call (.builtin "min") [.ref a] [(Str.ofString "default", u)]) (EP X pins σ Q) X.xe s := fun {its} rv hl => by
    obtain ⟨xs, e, hn⟩ := x_ints rv.ints
    rw [e] at hl
    have hsz := x_size hn
    refine PySem.x_minD (xs := xs) (I.ok.hd hc) (hl.elim (fun h => .inl ⟨a, rfl, h⟩) fun h => .inr ⟨a, rfl, h⟩) (fun h0 h' tk hk => ?_) fun h0 v h' tk hv hk => ?_
    · exact ⟨d, H, I.kept hk, ru, q0 (List.length_eq_zero_iff.mp (by omega))⟩
    · obtain ⟨m, t, rfl, h1, h2⟩ := x_bestMin hn (by omega) hv
      exact ⟨.int m, H, I.kept hk, ⟨_, rfl⟩, q m h1 h2⟩
  rcases hs with hs | hs
  · obtain ⟨its, rv, hl, _⟩ := I.tuple hs
    exact main rv (.inl hl)
  · obtain ⟨its, rv, hl, _⟩ := I.list hs
    exact main rv (.inr hl.isList)
end
end L2
end

section
set_option maxRecDepth 100000
set_option maxHeartbeats 4000000
/-! zip of two sequences, each a list or a tuple -/
namespace L2
open PySem PySem.Spec PyProof.Rows
/-- a sequence at a: a tuple (k) or a list -/
def SqK (k : Bool) (K : PySem.W.Frag) (H : Hp) (a : Addr) (xs : List V) : Prop := match k with | true => SqT K H a xs | false => SqL K H a xs
def ItK (k : Bool) (h : Heap) (it a : Addr) (i : Nat) : Prop := match k with | true => h.IsTupleIter it a i | false => h.IsListIter it a i
def RwK (k : Bool) (h : Heap) (a : Addr) (its : Array Value) : Prop := match k with | true => h.IsTuple a its | false => h.IsList a its
def itObj (k : Bool) (a : Addr) : Obj := match k with
  | true => { cls := .type "tuple_iterator", data := .fields #[.ref a, .int 0 0] }
  | false => { cls := .type "list_iterator", data := .fields #[.ref a, .int 0 0] }
theorem rw_at {k : Bool} {h h' : Heap} {a : Addr} {its : Array Value} (x : RwK k h a its) (e : ∀ o, h.get? a = some o → h'.get? a = some o) : RwK k h' a its := by
  cases k
  · exact Heap.IsList.at x e
  · exact Heap.IsTuple.at x e
theorem it_at {k : Bool} {h h' : Heap} {it a : Addr} {i : Nat} (x : ItK k h it a i) (e : ∀ o, h.get? it = some o → h'.get? it = some o) : ItK k h' it a i := by
  cases k
  · exact Heap.IsListIter.at x e
  · exact Heap.IsTupleIter.at x e
theorem it_obj {k : Bool} {h : Heap} {it a : Addr} {i : Nat} (x : ItK k h it a i) : ∃ o, h.get? it = some o ∧ ∀ v, o.data ≠ .cell v := by
  cases k
  · obtain ⟨o, e, _, d⟩ := x
    exact ⟨o, e, fun v q => by rw [d] at q; cases q⟩
  · obtain ⟨o, e, _, d⟩ := x
    exact ⟨o, e, fun v q => by rw [d] at q; cases q⟩
theorem it_new {k : Bool} {h : Heap} {it a : Addr} (e : h.get? it = some (itObj k a)) : ItK k h it a 0 := by
  cases k
  · exact ⟨_, e, rfl, rfl⟩
  · exact ⟨_, e, rfl, rfl⟩
theorem rw_begins (k : Bool) (a : Addr) (its : Array Value) : Begins (.ref a) (itObj k a) fun h => RwK k h a its := by
  cases k
  · exact begins_list a its
  · exact begins_tuple a its
theorem rw_draws {k : Bool} {prog : Program} {w : World} {A : Around} (hh : A.handled = none) (it a : Addr) (hne : a ≠ it) (its : Array Value) :
    Draws prog w A it [it, a] its.size (fun i v => its[i]? = some v) (fun i h => ItK k h it a i ∧ RwK k h a its) := by
  cases k
  · exact Draws.list hh it a hne its
  · exact Draws.tuple hh it a hne its
section
variable {X : Cx} {pins : List (Addr × Obj)} {σ : St} {H : Hp} {s : Shared}
theorem Inv.seqK {k : Bool} {a : Addr} {xs : List V} (I : Inv X pins σ H s) (h : SqK k X.K H a xs) : ∃ its : List Value, Vals xs its ∧ RwK k s.heap a its.toArray := by
  cases k
  · obtain ⟨its, r, p, _⟩ := I.list h
    exact ⟨its, r, p.isList⟩
  · obtain ⟨its, r, p, _⟩ := I.tuple h
    exact ⟨its, r, p⟩
theorem rw_lt {k : Bool} {h : Heap} {a : Addr} {its : Array Value} (x : RwK k h a its) : a < h.objs.size := by
  cases k
  · obtain ⟨_, e, _⟩ := x; exact Heap.lt_size e
  · obtain ⟨_, e, _⟩ := x; exact Heap.lt_size e
theorem Inv.seqK_inj {k : Bool} {a : Addr} {xs ys : List V} (I : Inv X pins σ H s) (h : SqK k X.K H a xs) (h' : SqK k X.K H a ys) : xs = ys := by
  cases k
  · exact I.list_inj h h'
  · exact I.tuple_inj h h'
end
/-- the two sequences as they stand at each turn, their items in new pairs -/
def Itq (K : PySem.W.Frag) (k l : Bool) (a b : Addr) : It :=
  ⟨fun i H => ∃ (xs ys : List V) (x y : V), SqK k K H a xs ∧ SqK l K H b ys ∧ xs[i]? = some x ∧ ys[i]? = some y,
    fun i H v H' => ∃ T x y, v = .ref T ∧ H T = none ∧ H' = upd H T (.tup [x, y]) ∧ (∀ xs, SqK k K H a xs → xs[i]? = some x) ∧ ∀ ys, SqK l K H b ys → ys[i]? = some y,
    fun i H => ∃ xs ys : List V, SqK k K H a xs ∧ SqK l K H b ys ∧ i ≤ xs.length ∧ i ≤ ys.length ∧ (i = xs.length ∨ i = ys.length)⟩
theorem rw_ne {k : Bool} {h : Heap} {a it : Addr} {i : Nat} {its : Array Value} (x : RwK k h a its) (y : ItK k h it a i) : a ≠ it := fun e => by
  subst e
  cases k
  · obtain ⟨o, e1, n, c1, _⟩ := x
    obtain ⟨o', e2, c2, _⟩ := y
    rw [e1] at e2
    cases e2
    simp_all
  · obtain ⟨o, e1, c1, _⟩ := x
    obtain ⟨o', e2, c2, _⟩ := y
    rw [e1] at e2
    cases e2
    rw [c1] at c2
    injection c2 with e3
    exact absurd e3 (by decide)
theorem turn_q {P : Program} {w : World} {K : PySem.W.Frag} {elts : List Expr} {kk : Nat} {tpos : Pos} {k l : Bool} {a b z TI TO i1 i2 : Addr} (S : ZipSep2 z TI TO i1 i2 [i1, a] [i2, b]) :
    Turn P w K (.Tuple elts kk tpos) (Itq K k l a b) [z, TI, TO, i1, i2] z (fun i h => IsZip h z TI TO .none ∧ IsTupOf2 h TI (.ref i1) (.ref i2) ∧ (∃ x y, IsTupOf2 h TO x y) ∧ ItK k h i1 a i ∧ ItK l h i2 b i) where
  mem := List.mem_cons_self ..
  obj := fun i h st c hc => by
    obtain ⟨hz, hTI, ⟨x, y, hTO⟩, q1, q2⟩ := st
    simp only [List.mem_cons, List.not_mem_nil, or_false] at hc
    rcases hc with rfl | rfl | rfl | rfl | rfl
    · exact ⟨_, hz, fun v q => nomatch q⟩
    · exact ⟨_, hTI, fun v q => nomatch q⟩
    · exact ⟨_, hTO, fun v q => nomatch q⟩
    · exact it_obj q1
    · exact it_obj q2
  keep := fun i h h' st kp => by
    obtain ⟨hz, hTI, ⟨x, y, hTO⟩, q1, q2⟩ := st
    exact ⟨kp z (by simp) _ hz, kp TI (by simp) _ hTI, ⟨x, y, kp TO (by simp) _ hTO⟩, it_at q1 fun o q => kp i1 (by simp) o q, it_at q2 fun o q => kp i2 (by simp) o q⟩
  item := by
    intro X hP hw hK hc i pins s σ H E I hf st hg
    subst hP hw hK
    obtain ⟨hz, hTI, ⟨x0, y0, hTO⟩, q1, q2⟩ := st
    obtain ⟨xs, ys, x, y, hqx, hqy, hx, hy⟩ := hg
    obtain ⟨its, rv, p⟩ := I.seqK hqx
    obtain ⟨its2, rv2, p2⟩ := I.seqK hqy
    obtain ⟨u, hu, ru⟩ := rv.get hx
    obtain ⟨u2, hu2, ru2⟩ := rv2.get hy
    have hzl : z < s.heap.objs.size := Heap.lt_size hz
    have hh : X.A.in1.handled = none := I.ok.hd hc
    refine wpAny_pyNext_zipD2_item S (rw_draws hh i1 a (rw_ne p q1) its.toArray) (rw_draws hh i2 b (rw_ne p2 q2) its2.toArray) hz hTI hTO ⟨q1, p⟩ ⟨q2, p2⟩ (by
      have := (List.getElem?_eq_some_iff.mp hu).1
      simpa using this) (by
      have := (List.getElem?_eq_some_iff.mp hu2).1
      simpa using this) fun v1 v2 h' tk e1 e2 z' TO' st1 st2 hT hsz kp => ?_
    have e1' : its.toArray[i]? = some v1 := e1
    have e2' : its2.toArray[i]? = some v2 := e2
    have f1 : v1 = u := by
      rw [List.getElem?_toArray] at e1'
      rw [hu] at e1'
      exact (Option.some.inj e1').symm
    have f2 : v2 = u2 := by
      rw [List.getElem?_toArray] at e2'
      rw [hu2] at e2'
      exact (Option.some.inj e2').symm
    subst f1 f2
    refine ⟨_, rfl, wpAny_letOwnedTupleGo_zip (s := { s with heap := h', toks := tk }) z' fun h'' z'' sb => ?_⟩
    have hT2 : h''.get? s.heap.objs.size = some { cls := .type "tuple", data := .seq #[v1, v2] } := (sb.2 _ (Nat.ne_of_gt hzl)).trans hT
    have new : ObjOk X.prog X.w (upd H s.heap.objs.size (.tup [x, y])) h'' s.heap.objs.size (.tup [x, y]) :=
      ⟨by show 2 ≤ sizeLine; decide, [v1, v2], .cons ru (.cons ru2 .nil), ⟨_, hT2, rfl, _, rfl⟩⟩
    have I1 : Inv X pins σ (upd H s.heap.objs.size (.tup [x, y])) { s with heap := h'', toks := tk } :=
      I.turnedNew (t' := tk) (ch := [z, TI, TO, i1, i2]) (fun c o hb q => by
        simp only [List.mem_cons, List.not_mem_nil, or_false, not_or] at hb
        exact (sb.2 c hb.1).trans (kp c o hb.1 hb.2.2.1 hb.2.2.2.1 hb.2.2.2.2 q)) hf (Nat.le_refl _) new
    have iz1 : i1 ≠ z := fun e => S.zf1 (by rw [← e]; exact S.mem1)
    have iz2 : i2 ≠ z := fun e => S.zf2 (by rw [← e]; exact S.mem2)
    refine ⟨.ref s.heap.objs.size, _, I1, rfl, ⟨_, x, y, rfl, I.hok.fresh (Nat.le_refl _), rfl, fun l' hl => by rw [I.seqK_inj hl hqx]; exact hx, fun l' hl => by rw [I.seqK_inj hl hqy]; exact hy⟩, ⟨z'', ?_, ⟨v1, v2, ?_⟩, ?_, ?_⟩, fun c hcm => ?_⟩
    · exact (sb.2 _ S.TIz).trans (kp _ _ S.TIz S.TITO S.TIi1 S.TIi2 hTI)
    · exact (sb.2 _ S.TOz).trans TO'
    · exact it_at st1.1 fun o q => (sb.2 _ iz1).trans q
    · exact it_at st2.1 fun o q => (sb.2 _ iz2).trans q
    · have hlt : c < s.heap.objs.size := by
        have w0 : ∀ {k : Bool} {it a : Addr}, ItK k s.heap it a i → it < s.heap.objs.size := fun {k it a} x => by
          obtain ⟨o, e, _⟩ := it_obj x
          exact Heap.lt_size e
        simp only [List.mem_cons, List.not_mem_nil, or_false] at hcm
        rcases hcm with rfl | rfl | rfl | rfl | rfl
        · exact hzl
        · exact Heap.lt_size hTI
        · exact Heap.lt_size hTO
        · exact w0 q1
        · exact w0 q2
      rw [upd_ne (Nat.ne_of_lt hlt)]
      exact (hf c hcm).1
  done := by
    intro X hP hw hK hc i pins s σ H E I hf st hg
    subst hP hw hK
    obtain ⟨hz, hTI, ⟨x0, y0, hTO⟩, q1, q2⟩ := st
    obtain ⟨xs, ys, hqx, hqy, l1, l2, hend⟩ := hg
    obtain ⟨its, rv, p⟩ := I.seqK hqx
    obtain ⟨its2, rv2, p2⟩ := I.seqK hqy
    have n1 := rv.length
    have n2 := rv2.length
    have hh : X.A.in1.handled = none := I.ok.hd hc
    exact wpAny_pyNext_zipD2_end S (rw_draws hh i1 a (rw_ne p q1) its.toArray) (rw_draws hh i2 b (rw_ne p2 q2) its2.toArray) hz hTI hTO ⟨q1, p⟩ ⟨q2, p2⟩ (by simp; omega) (by simp; omega) (by simp; omega) fun h' tk kp =>
      ⟨rfl, I.turnedL (t' := tk) (ch := [z, TI, TO, i1, i2]) (fun c o hb q => by
        simp only [List.mem_cons, List.not_mem_nil, or_false, not_or] at hb
        exact kp c o hb.1 hb.2.2.1 hb.2.2.2.1 hb.2.2.2.2 q) hf⟩
  self := fun A i s Q E st h => wpAny_pyIter_zip st.1 h
def iZipK (K : PySem.W.Frag) (ta : TA) : TI := fun σ H R => ta σ H fun vs H1 => ∃ k l a b xs ys, vs = [.ref a, .ref b] ∧ SqK k K H1 a xs ∧ SqK l K H1 b ys ∧ R (Itq K k l a b) H1
theorem pi_zipK {X : Cx} {e e2 : Expr} {ta : TA} {p pos tpos : Pos} {elts : List Expr} {kk : Nat} (hg : Gl X "zip") (hm : X.mg "zip" = none) (ha : PA X [e, e2] ta)
    (hs : starEach [e, e2] X.env = (false, eval e X.env) :: starEach [e2] X.env := by rfl) (hpl : (backTo pos (starEach [e2] X.env)).any (·.1) = false := by rfl) :
    PI X (.Tuple elts kk tpos) (.Call (.Name "zip" p) [e, e2] [] pos) (iZipK X.K ta) := by
  refine ⟨fun pins s σ H R I h => ?_⟩
  refine Call_ (ld_blt I hg hm PyProof.Rows.boot_zip (PyProof.Rows.callWith_type1 (thn (ha.run pos pins s σ H _ I h) fun us s1 ⟨vs, H1, I1, r1, q1⟩ => ?_) hs hpl))
  obtain ⟨k, l, a, b, xs, ys, ex, hqx, hqy, q⟩ := q1
  subst ex
  obtain ⟨u, u', rfl, r, r'⟩ := vals2 r1
  cases r
  cases r'
  obtain ⟨its, rv, p1⟩ := I1.seqK hqx
  obtain ⟨its2, rv2, p2⟩ := I1.seqK hqy
  refine zip_begins2 (rw_begins k a its.toArray) (rw_begins l b its2.toArray) p1 p2 fun h' hz hTI hTO o1 o2 hsz hk => wpAny_pyIter_zip hz ?_
  have I2 : Inv X pins σ H1 { s1 with heap := h' } := I1.kept (t' := s1.toks) hk
  have sep : ZipSep2 (s1.heap.objs.size + 4) (s1.heap.objs.size + 2) (s1.heap.objs.size + 3) s1.heap.objs.size (s1.heap.objs.size + 1) [s1.heap.objs.size, a] [s1.heap.objs.size + 1, b] :=
    zip_sep2 (fun c hc => by rw [List.mem_singleton.mp hc]; exact rw_lt p1) fun c hc => by rw [List.mem_singleton.mp hc]; exact rw_lt p2
  refine ⟨s1.heap.objs.size + 4, [s1.heap.objs.size + 4, s1.heap.objs.size + 2, s1.heap.objs.size + 3, s1.heap.objs.size, s1.heap.objs.size + 1], _, _, H1, rfl, I2, turn_q (k := k) (l := l) sep, ⟨hz, hTI, ⟨_, _, hTO⟩, it_new o1, it_new o2⟩, fun c hc => ?_, q⟩
  have hle : s1.heap.objs.size ≤ c := by
    simp only [List.mem_cons, List.not_mem_nil, or_false] at hc
    rcases hc with rfl | rfl | rfl | rfl | rfl <;> first | exact Nat.le_add_right _ _ | exact Nat.le_refl _
  exact I1.fpOk hle (I1.hok.fresh hle)
/-- a sequence of either kind, walked -/
def itKind (k : Bool) (K : PySem.W.Frag) (a : Addr) : It := match k with | true => Itt K a | false => Itl K a
def iAny (K : PySem.W.Frag) (tl : TE) : TI := fun σ H R => tl σ H fun x H1 => ∃ k a xs, x = .ref a ∧ SqK k K H1 a xs ∧ R (itKind k K a) H1
theorem pi_any {X : Cx} {tg e : Expr} {tl : TE} (hl : PE X e tl) : PI X tg e (iAny X.K tl) := by
  refine ⟨fun pins s σ H R I h => thn (hl.run pins s σ H _ I h) fun v s1 ⟨x, H1, I1, r1, k, a, xs, ex, hq, q⟩ => ?_⟩
  subst ex
  cases r1
  obtain ⟨its, rv, p⟩ := I1.seqK hq
  refine (rw_begins k a its.toArray).iter _ _ _ _ s1 _ p ?_
  have I2 : Inv X pins σ H1 { s1 with heap := s1.heap.push (itObj k a) } := I1.kept (t' := s1.toks) fun b o e => Heap.get?_push_of_some _ e
  have hn : (s1.heap.push (itObj k a)).get? s1.heap.objs.size = some (itObj k a) := Heap.get?_push_size _ (rw_begins k a its.toArray).free
  have fp : ∀ b ∈ [s1.heap.objs.size], FpOk X pins H1 b := fun b hb => by
    rw [List.mem_singleton.mp hb]
    exact I1.fpOk (Nat.le_refl _) (I1.hok.fresh (Nat.le_refl _))
  cases k
  · exact ⟨s1.heap.objs.size, [s1.heap.objs.size], _, _, H1, rfl, I2, turn_list a _, ⟨_, hn, rfl, rfl⟩, fp, q⟩
  · exact ⟨s1.heap.objs.size, [s1.heap.objs.size], _, _, H1, rfl, I2, turn_tuple a _, ⟨_, hn, rfl, rfl⟩, fp, q⟩
end L2
end

section
set_option maxRecDepth 100000
set_option maxHeartbeats 4000000
namespace DL
open PySem PySem.Spec PyProof.Rows L2
section
variable {G : GC} {W : WX} {X : Cx} {pos : Pos}
/-! ### sum, least, greatest -/
def ofInts (f : List Int → M Rs) : D → M Rs
  | .lst ds => (match toInts ds with | some ns => f ns | none => .bad)
  | .tup ds => (match toInts ds with | some ns => f ns | none => .bad)
  | _ => .bad
def one1 (f : D → M Rs) : List D → M Rs | [d] => f d | _ => .bad
theorem cs_ints {r : List V → Hp → VK → Prop} {f : List Int → M Rs} (h : ∀ (a : Addr) (ns : List Int) (H : Hp) (Q : VK) (z : Rs), (SqL G.K H a (ns.map V.int) ∨ SqT G.K H a (ns.map V.int)) → f ns = .ok z → (∀ v, (∀ S, NewR G S H v H z ∨ ¬ Same S H) → Q v H) → r [.ref a] H Q) : CallS G r (one1 (ofInts f)) := fun S H xs ds z hS hr hz Q q => by
  unfold one1 at hz
  split at hz
  · rename_i d
    obtain ⟨v, rfl, rv⟩ := rp1 hr
    unfold ofInts at hz
    split at hz
    · obtain ⟨a, vs, rfl, ha, ra⟩ := rp_lst rv
      split at hz
      · rename_i ns e
        rw [toInts_rp ra e] at ha
        refine h a ns H Q z (.inl (.inl (.inl (hS _ _ ha)))) hz fun v hv => ?_
        rcases hv S with w | w
        · exact q v H w
        · exact absurd hS w
      · cases hz
    · obtain ⟨a, vs, rfl, ha, ra⟩ := rp_tup rv
      split at hz
      · rename_i ns e
        rw [toInts_rp ra e] at ha
        refine h a ns H Q z (.inr (same_t hS ha)) hz fun v hv => ?_
        rcases hv S with w | w
        · exact q v H w
        · exact absurd hS w
      · cases hz
    · cases hz
  · cases hz
theorem int_new (H : Hp) (i : Int) : ∀ S, NewR G S H (.int i) H (.fz (.int i)) ∨ ¬ Same S H := fun S => by
  by_cases h : Same S H
  · exact .inl (.val h (.int i))
  · exact .inr h
theorem CallR.alt {f : Value} {r r' : List V → Hp → VK → Prop} (h : CallR X f r) (h' : CallR X f r') : CallR X f (fun xs H Q => r xs H Q ∨ r' xs H Q) := CallR.or h h'
def oSum : List D → M Rs := one1 (ofInts fun ns => .ok (.fz (.int ns.sum)))
theorem cs_sum : CallS G (fun xs H Q => rSum G.K xs H Q ∨ rSumT G.K xs H Q) oSum := cs_ints fun a ns H Q z hs hz q => by
  cases hz
  have := q _ (int_new H ns.sum)
  rcases hs with h | h
  · exact .inl ⟨a, ns, rfl, h, this⟩
  · exact .inr ⟨a, ns, rfl, h, this⟩
theorem cr_sumA (hc : X.calm = true) : CallR X (.builtin "sum") (fun xs H Q => rSum X.K xs H Q ∨ rSumT X.K xs H Q) := CallR.or (cr_sum hc) (cr_sumT hc)
def maxI : List Int → Int | [] => 0 | n :: ns => ns.foldl max n
def minI : List Int → Int | [] => 0 | n :: ns => ns.foldl min n
theorem foldl_max_ge : ∀ (ns : List Int) (n : Int), n ≤ ns.foldl max n ∧ ∀ y ∈ ns, y ≤ ns.foldl max n
  | [], n => ⟨Int.le_refl _, fun y h => by cases h⟩
  | m :: ns, n => by
    obtain ⟨a, b⟩ := foldl_max_ge ns (max n m)
    simp only [List.foldl_cons]
    refine ⟨by omega, fun y h => ?_⟩
    rcases List.mem_cons.mp h with rfl | h
    · omega
    · exact b y h
theorem foldl_max_mem : ∀ (ns : List Int) (n : Int), ns.foldl max n = n ∨ ns.foldl max n ∈ ns
  | [], n => .inl rfl
  | m :: ns, n => by
    simp only [List.foldl_cons]
    rcases foldl_max_mem ns (max n m) with h | h
    · rw [h]
      by_cases c : n ≤ m
      · right; rw [show max n m = m by omega]; exact List.mem_cons_self ..
      · left; omega
    · exact .inr (List.mem_cons_of_mem _ h)
theorem maxI_is {ns : List Int} {m : Int} (h : m ∈ ns) (hm : ∀ y ∈ ns, y ≤ m) : m = maxI ns := by
  cases ns with
  | nil => cases h
  | cons n ns =>
    obtain ⟨a, b⟩ := foldl_max_ge ns n
    have h1 : m ≤ maxI (n :: ns) := by
      rcases List.mem_cons.mp h with rfl | h
      · exact a
      · exact b m h
    have h2 : maxI (n :: ns) ≤ m := by
      show ns.foldl max n ≤ m
      rcases foldl_max_mem ns n with e | e
      · rw [e]; exact hm n (List.mem_cons_self ..)
      · exact hm _ (List.mem_cons_of_mem _ e)
    omega
theorem maxI_ge {ns : List Int} : ∀ y ∈ ns, y ≤ maxI ns := fun y h => by
  cases ns with
  | nil => cases h
  | cons n ns =>
    obtain ⟨a, b⟩ := foldl_max_ge ns n
    rcases List.mem_cons.mp h with rfl | h
    · exact a
    · exact b y h
theorem maxI_mem {ns : List Int} (h : ns ≠ []) : maxI ns ∈ ns := by
  cases ns with
  | nil => exact absurd rfl h
  | cons n ns =>
    rcases foldl_max_mem ns n with e | e
    · show ns.foldl max n ∈ _
      rw [e]; exact List.mem_cons_self ..
    · exact List.mem_cons_of_mem _ e
theorem foldl_min_le : ∀ (ns : List Int) (n : Int), ns.foldl min n ≤ n ∧ ∀ y ∈ ns, ns.foldl min n ≤ y
  | [], n => ⟨Int.le_refl _, fun y h => by cases h⟩
  | m :: ns, n => by
    obtain ⟨a, b⟩ := foldl_min_le ns (min n m)
    simp only [List.foldl_cons]
    refine ⟨by omega, fun y h => ?_⟩
    rcases List.mem_cons.mp h with rfl | h
    · omega
    · exact b y h
theorem foldl_min_mem : ∀ (ns : List Int) (n : Int), ns.foldl min n = n ∨ ns.foldl min n ∈ ns
  | [], n => .inl rfl
  | m :: ns, n => by
    simp only [List.foldl_cons]
    rcases foldl_min_mem ns (min n m) with h | h
    · rw [h]
      by_cases c : m ≤ n
      · right; rw [show min n m = m by omega]; exact List.mem_cons_self ..
      · left; omega
    · exact .inr (List.mem_cons_of_mem _ h)
theorem minI_le {ns : List Int} : ∀ y ∈ ns, minI ns ≤ y := fun y h => by
  cases ns with
  | nil => cases h
  | cons n ns =>
    obtain ⟨a, b⟩ := foldl_min_le ns n
    rcases List.mem_cons.mp h with rfl | h
    · exact a
    · exact b y h
theorem minI_mem {ns : List Int} (h : ns ≠ []) : minI ns ∈ ns := by
  cases ns with
  | nil => exact absurd rfl h
  | cons n ns =>
    rcases foldl_min_mem ns n with e | e
    · show ns.foldl min n ∈ _
      rw [e]; exact List.mem_cons_self ..
    · exact List.mem_cons_of_mem _ e
theorem minI_is {ns : List Int} {m : Int} (h : m ∈ ns) (hm : ∀ y ∈ ns, m ≤ y) : m = minI ns := by
  have h0 : ns ≠ [] := fun e => by rw [e] at h; cases h
  have h1 := minI_le m h
  have h2 := hm _ (minI_mem h0)
  omega
def oMax1 : List D → M Rs := one1 (ofInts fun ns => if ns = [] then .bad else .ok (.fz (.int (maxI ns))))
def oMin1 : List D → M Rs := one1 (ofInts fun ns => if ns = [] then .bad else .ok (.fz (.int (minI ns))))
theorem cs_max1 : CallS G (fun xs H Q => rMax G.K xs H Q ∨ rMaxT G.K xs H Q) oMax1 := cs_ints fun a ns H Q z hs hz q => by
  split at hz
  · cases hz
  · rename_i h0
    cases hz
    have key : ∀ m, m ∈ ns → (∀ y, y ∈ ns → y ≤ m) → Q (.int m) H := fun m h1 h2 => by
      rw [maxI_is h1 h2]
      exact q _ (int_new H _)
    have hl := List.length_pos_iff.mpr h0
    rcases hs with h | h
    · exact .inl ⟨a, ns, rfl, h, hl, key⟩
    · exact .inr ⟨a, ns, rfl, h, hl, key⟩
theorem cs_min1 : CallS G (fun xs H Q => rMin G.K xs H Q ∨ rMinT G.K xs H Q) oMin1 := cs_ints fun a ns H Q z hs hz q => by
  split at hz
  · cases hz
  · rename_i h0
    cases hz
    have key : ∀ m, m ∈ ns → (∀ y, y ∈ ns → m ≤ y) → Q (.int m) H := fun m h1 h2 => by
      rw [minI_is h1 h2]
      exact q _ (int_new H _)
    have hl := List.length_pos_iff.mpr h0
    rcases hs with h | h
    · exact .inl ⟨a, ns, rfl, h, hl, key⟩
    · exact .inr ⟨a, ns, rfl, h, hl, key⟩
def r2I (g : Int → Int → Int) : List V → Hp → VK → Prop := fun xs H Q => ∃ i j, xs = [.int i, .int j] ∧ Q (.int (g i j)) H
def oMax : List D → M Rs := fun ds => orM (oMax1 ds) (oMax2 ds)
def oMin : List D → M Rs := fun ds => orM (oMin1 ds) (oMin2 ds)
theorem cs_max : CallS G (fun xs H Q => (rMax G.K xs H Q ∨ rMaxT G.K xs H Q) ∨ r2I (fun i j => if j > i then j else i) xs H Q) oMax := CallS.or cs_max1 cs_II
theorem cs_min : CallS G (fun xs H Q => (rMin G.K xs H Q ∨ rMinT G.K xs H Q) ∨ r2I (fun i j => if j < i then j else i) xs H Q) oMin := CallS.or cs_min1 cs_II
theorem cr_maxA (hc : X.calm = true) : CallR X (.builtin "max") (fun xs H Q => (rMax X.K xs H Q ∨ rMaxT X.K xs H Q) ∨ r2I (fun i j => if j > i then j else i) xs H Q) := CallR.or (CallR.or (cr_max hc) (cr_maxT hc)) (call_max2 hc)
theorem cr_minA (hc : X.calm = true) : CallR X (.builtin "min") (fun xs H Q => (rMin X.K xs H Q ∨ rMinT X.K xs H Q) ∨ r2I (fun i j => if j < i then j else i) xs H Q) := CallR.or (CallR.or (cr_min hc) (cr_minT hc)) (call_min2 hc)

/-- min(xs, default=d) -/
def oMinDf (x d : D) : M Rs := ofInts (fun ns => if ns = [] then .ok (.fz d) else .ok (.fz (.int (minI ns)))) x
theorem os_minDf : OpS G (fun x y H Q => rMinDf G.K [x] [y] H Q) oMinDf := fun S H x y d e z hS hx hy hz Q q => by
  have key : ∀ (a : Addr) (ns : List Int), x = .ref a → (SqT G.K H a (ns.map V.int) ∨ SqL G.K H a (ns.map V.int)) → (if ns = [] then (.ok (.fz e) : M Rs) else .ok (.fz (.int (minI ns)))) = .ok z → rMinDf G.K [x] [y] H Q := fun a ns ex hs h => by
    refine ⟨a, ns, y, by rw [ex], rfl, hs, fun h0 => ?_, fun m h1 h2 => ?_⟩
    · rw [if_pos h0] at h
      cases h
      exact q _ _ (.val hS hy)
    · rw [if_neg (by intro h0; rw [h0] at h1; cases h1)] at h
      cases h
      rw [minI_is h1 h2]
      exact q _ _ (.val hS (.int _))
  unfold oMinDf ofInts at hz
  split at hz
  · obtain ⟨a, vs, rfl, ha, ra⟩ := rp_lst hx
    split at hz
    · rename_i ns e1
      rw [toInts_rp ra e1] at ha
      exact key a ns rfl (.inr (.inl (.inl (hS _ _ ha)))) hz
    · cases hz
  · obtain ⟨a, vs, rfl, ha, ra⟩ := rp_tup hx
    split at hz
    · rename_i ns e1
      rw [toInts_rp ra e1] at ha
      exact key a ns rfl (.inl (same_t hS ha)) hz
    · cases hz
  · cases hz
theorem d_minDf {p kpos : Pos} {e e2' : Expr} {A B : List Nat} {f f2 : Env → M Rs} (hc : X.calm = true) (hg : Gl X "min") (hm : X.mg "min" = none) (h1 : DE G W X e A f) (h2 : DE G W X e2' B f2)
    (hpe : PA X [e] (tCons (tDE G W A f) tNil) → PK X [⟨some (Str.ofString "default"), e2', kpos⟩] (tCons (tDE G W B f2) tNil) → PE X (.Call (.Name "min" p) [e] [⟨some (Str.ofString "default"), e2', kpos⟩] pos) (tCKw (rMinDf X.K) (tCons (tDE G W A f) tNil) (tCons (tDE G W B f2) tNil)))
    (hst : starEach [e] X.env = (false, eval e X.env) :: starEach [] X.env := by rfl) :
    DE G W X (.Call (.Name "min" p) [e] [⟨some (Str.ofString "default"), e2', kpos⟩] pos) (A ++ B) (e2 oMinDf f f2) :=
  ⟨weakE (hpe (pa_cons h1.pe pa_nil hst) (pk_cons h2.pe pk_nil)) fun σ H Q ⟨hid, H0, env, R, h⟩ => two_run R h fun v w H2 x y s _ _ hv hw q => h1.k ▸ op_end (r := fun x y H Q => rMinDf G.K [x] [y] H Q) os_minDf R s hv hw q, h1.k⟩

/-! ### zip -/
def seqD : D → Option (List D) | .lst ds => some ds | .tup ds => some ds | _ => none
def oZip : List D → M (List D)
  | [a, b] => (match seqD a, seqD b with | some xs, some ys => .ok ((xs.zip ys).map fun p => .tup [p.1, p.2]) | _, _ => .bad)
  | _ => .bad
theorem seqK_of {S H : Hp} {x : V} {d : D} {ds : List D} (hS : Same S H) (r : Rp G S x d) (h : seqD d = some ds) : ∃ k a vs, x = .ref a ∧ (∀ H', Same S H' → SqK k G.K H' a vs) ∧ RpAll G S vs ds := by
  unfold seqD at h
  split at h
  · cases h
    obtain ⟨a, vs, rfl, ha, ra⟩ := rp_lst r
    exact ⟨false, a, vs, rfl, fun H' s => .inl (.inl (s _ _ ha)), ra⟩
  · cases h
    obtain ⟨a, vs, rfl, ha, ra⟩ := rp_tup r
    exact ⟨true, a, vs, rfl, fun H' s => same_t s ha, ra⟩
  · cases h
theorem di_zip {e e2' : Expr} {p tpos : Pos} {elts : List Expr} {kk : Nat} {A : List Nat} {f : Env → M (List D)} (hg : Gl X "zip") (hm : X.mg "zip" = none) (ha : DA G W X [e, e2'] A f)
    (hs : starEach [e, e2'] X.env = (false, eval e X.env) :: starEach [e2'] X.env := by rfl) (hpl : (backTo pos (starEach [e2'] X.env)).any (·.1) = false := by rfl) :
    DI G W X (.Tuple elts kk tpos) (.Call (.Name "zip" p) [e, e2'] [] pos) A (iA oZip f) :=
  ⟨weakI (pi_zipK hg hm ha.pa hs hpl) fun σ H R h => iA_run h fun hid H0 env as vs H' ds Rl s q e k => by
    unfold oZip at e
    split at e
    · split at e
      · rename_i d1 d2 xs ys e1 e2
        cases e
        obtain ⟨v, w, rfl, r1, r2⟩ := rp2 q
        obtain ⟨k1, a, vs, rfl, h1, ra⟩ := seqK_of cut_le r1 e1
        obtain ⟨k2, b, ws, rfl, h2, rb⟩ := seqK_of cut_le r2 e2
        have hk := ha.k
        refine ⟨k1, k2, a, b, vs, ws, rfl, hk ▸ h1 H' cut_le, hk ▸ h2 H' cut_le, k _ H' (Same.refl _) ?_⟩
        have l1 := ra.len
        have l2 := rb.len
        refine ⟨fun i H2 hi s2 => ?_, fun H2 s2 => ?_, fun i H2 x H3 hi s2 y => ?_⟩
        · simp only [List.length_map, List.length_zip] at hi
          exact ⟨vs, ws, vs[i], ws[i], hk ▸ h1 H2 s2, hk ▸ h2 H2 s2, List.getElem?_eq_getElem (by omega), List.getElem?_eq_getElem (by omega)⟩
        · refine ⟨vs, ws, hk ▸ h1 H2 s2, hk ▸ h2 H2 s2, ?_⟩
          simp only [List.length_map, List.length_zip]
          omega
        · simp only [List.length_map, List.length_zip] at hi
          obtain ⟨T, x1, y1, rfl, hT, rfl, q1, q2⟩ := y
          have g1 := q1 vs (hk ▸ h1 H2 s2)
          have g2 := q2 ws (hk ▸ h2 H2 s2)
          obtain ⟨dx, f1, p1⟩ := ra.getV g1
          obtain ⟨dy, f2, p2⟩ := rb.getV g2
          refine ⟨.tup [dx, dy], ?_, fun S1 s3 s4 => .tup s4 hT (.cons (p1.mono s3) (.cons (p2.mono s3) .nil))⟩
          rw [List.getElem?_map, (List.getElem?_zip_eq_some (z := (dx, dy))).mpr ⟨f1, f2⟩]
          rfl
      · cases e
    · cases e⟩

/-! ### isinstance with a built-in class -/
def tyD : D → Option String
  | .non => some "NoneType" | .bl _ => some "bool" | .int _ => some "int" | .str _ => some "str" | .tup _ => some "tuple" | .lst _ => some "list" | .scr _ => some "list" | .obj _ _ => none
def subTy (t u : String) : Bool := t == u || (t == "bool" && u == "int")
def oIsi (u : String) (d : D) : M Rs := match tyD d with | some t => .ok (.fz (.bl (subTy t u))) | none => .bad
theorem tyX_of {S H : Hp} {x : V} {d : D} {t : String} (hS : Same S H) (r : Rp G S x d) (h : tyD d = some t) : TyX G.K H x (.type t) := by
  cases r with
  | non => cases h; exact .base .non
  | bl b => cases h; exact .base (.bl b)
  | int b => cases h; exact .base (.int b)
  | str b => cases h; exact .base (.str b)
  | lst e _ => cases h; exact .base (.lst (hS _ _ e))
  | scr e =>
    cases h
    rcases hS.seq e with (e | ⟨o, e⟩) | ⟨o, its, n, e, c, _⟩
    · exact .base (.lst e)
    · exact .base (.frz e)
    · exact .kList e c
  | tup e _ =>
    cases h
    rcases same_t hS e with (e | ⟨o, e⟩) | ⟨o, its, n, e, c, _⟩
    · exact .base (.tup e)
    · exact .fTuple e
    · exact .kTuple e c
  | obj _ _ _ => cases h
def TyOk (K : PySem.W.Frag) (u : String) : Prop := ∀ t, t ∈ ["NoneType", "bool", "int", "str", "tuple", "list"] → PySem.W.kitOne K (.type t) (.type u) = some (subTy t u)
theorem tyD_mem {d : D} {t : String} (h : tyD d = some t) : t ∈ ["NoneType", "bool", "int", "str", "tuple", "list"] := by
  cases d <;> first | (cases h; done) | (cases h; simp)
theorem d_isi {u : String} {p p2 : Pos} {e : Expr} {x : Str} {A : List Nat} {f : Env → M Rs} (hg : Gl X "isinstance") (hm : X.mg "isinstance" = none) (he : DE G W X e A f) (hx : PE X (.Name x p2) (tC (.ty u))) (hu : TyOk X.K u)
    (hst : starEach [e, .Name x p2] X.env = (false, eval e X.env) :: starEach [.Name x p2] X.env := by rfl) (hst2 : starEach [.Name x p2] X.env = (false, eval (.Name x p2) X.env) :: starEach [] X.env := by rfl)
    (hpl : (backTo pos (starEach [.Name x p2] X.env)).any (·.1) = false := by rfl) : DE G W X (.Call (.Name "isinstance" p) [e, .Name x p2] [] pos) A (e1 (oIsi u) f) :=
  ⟨weakE (pe_callB call_isi hg hm (by decide +kernel) (pa_cons he.pe (pa_cons hx pa_nil hst2) hst) (by decide) (by decide) hst hpl) fun σ H Q h => by
    obtain ⟨hid, H0, env, R, h⟩ := h
    refine ⟨hid, H0, env, R, ?_⟩
    have h : Post G W hid A env σ H Q (f env >>= fun r => pureM (oIsi u r.d)) := h
    cases e1 : f env with
    | bad => rw [e1] at h; exact h
    | ex x => rw [e1] at h; exact h
    | ok r =>
      rw [e1] at h
      have h : Post G W hid A env σ H Q (pureM (oIsi u r.d)) := h
      intro v H' s q
      have rv := q.rp R
      have hk := he.k
      cases e2 : tyD r.d with
      | none =>
        unfold oIsi at h
        rw [e2] at h
        exact h.elim
      | some t =>
        unfold oIsi at h
        rw [e2] at h
        exact ⟨v, .ty u, .type t, .type u, subTy t u, rfl, .ty u, hk ▸ tyX_of cut_le rv e2, hu t (tyD_mem e2), h _ H' s (.bl _)⟩, he.k⟩
/-- gcd by its import -/
theorem d_callM {x : Str} {id : String} {p : Pos} {e : Expr} {es : List Expr} {r : List V → Hp → VK → Prop} {g : List D → M Rs} {A : List Nat} {f : Env → M (List D)} (hc : CallR X (.builtin id) r) (hs : CallS G r g) (hg : Gl X x) (hm : X.mg x = some (.builtin id))
    (h : DA G W X (e :: es) A f) (hdb : (x == ("__debug__" : Str)) = false := by decide)
    (he : starEach (e :: es) X.env = (false, eval e X.env) :: starEach es X.env := by rfl) (hpl : (backTo pos (starEach es X.env)).any (·.1) = false := by rfl) : DE G W X (.Call (.Name x p) (e :: es) [] pos) A (eA g f) :=
  ⟨weakE (pe_callBfun hc hg hm h.pa hdb he hpl) fun σ H Q q => args_run hs q, h.k⟩
/-! ### a for over a list or a tuple -/
def iterA : D → M (List D) | .lst ds => .ok ds | .tup ds => .ok ds | _ => .bad
theorem di_any {tg e : Expr} {A : List Nat} {f : Env → M Rs} (he : DE G W X e A f) : DI G W X tg e A (iE iterA f) := ⟨weakI (pi_any he.pe) fun σ H R h => iE_run h fun hid H0 env r v H' ds Rl s q e k => by
  have hk := he.k
  unfold iterA at e
  split at e
  · rename_i xs e2
    cases e
    rw [e2] at q
    obtain ⟨a, vs, rfl, ha, ra⟩ := rp_lst q
    exact ⟨false, a, vs, rfl, .inl (.inl (cut_le _ _ ha)), k _ H' (Same.refl _) (walkD_of (walk_list (xs := vs)) ra.len (fun H2 s2 => .inl (.inl (s2 _ _ ha))) ra)⟩
  · rename_i xs e2
    cases e
    rw [e2] at q
    obtain ⟨a, vs, rfl, ha, ra⟩ := rp_tup q
    exact ⟨true, a, vs, rfl, hk ▸ same_t cut_le ha, k _ H' (Same.refl _) (walkD_of (walk_tup (xs := vs)) ra.len (fun H2 s2 => hk ▸ same_t s2 ha) ra)⟩
  · cases e⟩
end
theorem ty_int (K : PySem.W.Frag) : TyOk K "int" := fun t h => by
  simp only [List.mem_cons, List.not_mem_nil, or_false] at h
  rcases h with rfl | rfl | rfl | rfl | rfl | rfl <;> rfl
theorem ty_bool (K : PySem.W.Frag) : TyOk K "bool" := fun t h => by
  simp only [List.mem_cons, List.not_mem_nil, or_false] at h
  rcases h with rfl | rfl | rfl | rfl | rfl | rfl <;> rfl
theorem ty_tuple (K : PySem.W.Frag) : TyOk K "tuple" := fun t h => by
  simp only [List.mem_cons, List.not_mem_nil, or_false] at h
  rcases h with rfl | rfl | rfl | rfl | rfl | rfl <;> rfl
theorem ty_list (K : PySem.W.Frag) : TyOk K "list" := fun t h => by
  simp only [List.mem_cons, List.not_mem_nil, or_false] at h
  rcases h with rfl | rfl | rfl | rfl | rfl | rfl <;> rfl
theorem ty_str (K : PySem.W.Frag) : TyOk K "str" := fun t h => by
  simp only [List.mem_cons, List.not_mem_nil, or_false] at h
  rcases h with rfl | rfl | rfl | rfl | rfl | rfl <;> rfl
end DL
end

section
set_option maxRecDepth 100000
set_option maxHeartbeats 4000000
namespace DL
open PySem PySem.Spec PyProof.Rows L2
section
variable {G : GC} {W : WX} {X : Cx} {pos : Pos} {a b : Expr} {A B : List Nat} {f1 f2 : Env → M Rs}
theorem d_add (h1 : DE G W X a A f1) (h2 : DE G W X b B f2) : DE G W X (.BinOp a .Add b pos) (A ++ B) (e2 oAdd f1 f2) := by
  obtain ⟨K, cl⟩ := G
  have hk : K = X.K := h1.k
  subst hk
  exact d_op op_addD os_add h1 h2
theorem d_sub (h1 : DE G W X a A f1) (h2 : DE G W X b B f2) : DE G W X (.BinOp a .Sub b pos) (A ++ B) (e2 oSub f1 f2) := d_op op_sub os_sub h1 h2
theorem d_mul (h1 : DE G W X a A f1) (h2 : DE G W X b B f2) : DE G W X (.BinOp a .Mult b pos) (A ++ B) (e2 oMul f1 f2) := d_op op_mulA os_mul h1 h2
theorem d_fdiv (h1 : DE G W X a A f1) (h2 : DE G W X b B f2) : DE G W X (.BinOp a .FloorDiv b pos) (A ++ B) (e2 oDiv f1 f2) := d_op op_divD os_div h1 h2
theorem d_mod (h1 : DE G W X a A f1) (h2 : DE G W X b B f2) : DE G W X (.BinOp a .Mod b pos) (A ++ B) (e2 oMod f1 f2) := d_op op_modN os_mod h1 h2
theorem d_pow (h1 : DE G W X a A f1) (h2 : DE G W X b B f2) : DE G W X (.BinOp a .Pow b pos) (A ++ B) (e2 oPow f1 f2) := d_op op_pow os_pow h1 h2
theorem d_shl (h1 : DE G W X a A f1) (h2 : DE G W X b B f2) : DE G W X (.BinOp a .LShift b pos) (A ++ B) (e2 oShl f1 f2) := d_op op_shl os_shl h1 h2
theorem d_shr (h1 : DE G W X a A f1) (h2 : DE G W X b B f2) : DE G W X (.BinOp a .RShift b pos) (A ++ B) (e2 oShr f1 f2) := d_op op_shr os_shr h1 h2
theorem d_band (h1 : DE G W X a A f1) (h2 : DE G W X b B f2) : DE G W X (.BinOp a .BitAnd b pos) (A ++ B) (e2 oAnd f1 f2) := d_op op_and os_and h1 h2
theorem d_bor (h1 : DE G W X a A f1) (h2 : DE G W X b B f2) : DE G W X (.BinOp a .BitOr b pos) (A ++ B) (e2 oOr f1 f2) := d_op op_or os_or h1 h2
theorem d_neg (h1 : DE G W X a A f1) : DE G W X (.UnaryOp .USub a pos) A (e1 oNeg f1) := d_un un_neg us_neg h1
theorem d_ix (h1 : DE G W X a A f1) (h2 : DE G W X b B f2) (hp : PlainIx b := by exact fun _ _ => rfl) : DE G W X (.Subscript a b pos) (A ++ B) (e2 oIx f1 f2) := by
  obtain ⟨K, cl⟩ := G
  have hk : K = X.K := h1.k
  subst hk
  exact d_ixG ix_D os_ix h1 h2 hp
/-! comparisons, as values (d_) and as tests (t_) -/
def isN : D → Bool | .non => true | _ => false
def oIsN (neg : Bool) : D → D → M Rs | d, .non => .ok (.fz (.bl (if neg then !isN d else isN d))) | _, _ => .bad
theorem isN_eq {G : GC} {S : Hp} {x : V} {d : D} (h : Rp G S x d) : decide (x = .non) = isN d := by cases h <;> rfl
theorem rp_non {G : GC} {S : Hp} {y : V} (h : Rp G S y .non) : y = .non := by cases h; rfl
theorem os_isN {G : GC} : OpS G (fun x y H Q => y = .non ∧ Q (.bl (decide (x = .non))) H) (oIsN false) := fun S H x y d e z hS hx hy hz Q q => by
  cases e <;> simp only [oIsN] at hz <;> try cases hz
  refine ⟨rp_non hy, q _ _ ?_⟩
  rw [isN_eq hx]
  exact NewR.val hS (.bl _)
theorem os_isnotN {G : GC} : OpS G (fun x y H Q => y = .non ∧ Q (.bl (!decide (x = .non))) H) (oIsN true) := fun S H x y d e z hS hx hy hz Q q => by
  cases e <;> simp only [oIsN] at hz <;> try cases hz
  refine ⟨rp_non hy, q _ _ ?_⟩
  rw [isN_eq hx]
  exact NewR.val hS (.bl _)
def oIs (neg : Bool) : D → D → M Rs := fun d e => orM (oIsN neg d e) (oIsB neg d e)
def cop : CmpOp → D → D → M Rs
  | .Lt => oLt | .LtE => oLe | .Gt => oGt | .GtE => oGe | .Eq => oEq | .NotEq => oNe | .In => oInL false | .NotIn => oInL true | .Is => oIs false | .IsNot => oIs true
theorem cop_ok (op : CmpOp) {k : Nat} (hr : Room k X.A) (hk : G.K = X.K) : ∃ r, OpR X (compareOp op) r ∧ OpS G r (cop op) := by
  obtain ⟨K, cl⟩ := G
  have hk : K = X.K := hk
  subst hk
  have hu : X.A.units + 65 < cLine := by have := hr.un; omega
  cases op
  · exact ⟨_, op_eqA hr.units, os_eq⟩
  · exact ⟨_, op_neA hr.units, os_ne⟩
  · exact ⟨_, op_ltD hr.units0, os_lt⟩
  · exact ⟨_, op_le, os_le⟩
  · exact ⟨_, op_gt, os_gt⟩
  · exact ⟨_, op_ge, os_ge⟩
  · exact ⟨_, OpR.or op_isN op_is_bl, OpS.or os_isN os_isB⟩
  · exact ⟨_, OpR.or op_notN op_isnot_bl, OpS.or os_isnotN os_notB⟩
  · exact ⟨_, op_inD hu, os_in⟩
  · exact ⟨_, op_notInD hu, os_notin⟩
theorem d_cp {op : CmpOp} {k : Nat} (hr : Room k X.A) (h1 : DE G W X a A f1) (h2 : DE G W X b B f2) (hm : behindInMarks op b = false := by first | exact nomark _ | rfl) : DE G W X (.Compare a [op] [b] pos) (A ++ B) (e2 (cop op) f1 f2) := by
  obtain ⟨r, q1, q2⟩ := cop_ok (G := G) op hr h1.k
  exact d_cmp q1 q2 h1 h2 hm
theorem t_cp {op : CmpOp} {k : Nat} (hr : Room k X.A) (h1 : DE G W X a A f1) (h2 : DE G W X b B f2) (hm : behindInMarks op b = false := by first | exact nomark _ | rfl) : DT G W X (.Compare a [op] [b] pos) (A ++ B) (tV (e2 (cop op) f1 f2)) := by
  obtain ⟨r, q1, q2⟩ := cop_ok (G := G) op hr h1.k
  exact dt_cmp q1 q2 h1 h2 hm
/-! built-in calls -/
section
variable {p : Pos} {e e' : Expr} {fa : Env → M (List D)}
theorem d_len (hm : X.mg "len" = none) (ha : DA G W X [e] A fa) (hg : Gl X "len" := by rfl) (he : starEach [e] X.env = (false, eval e X.env) :: starEach [] X.env := by rfl) : DE G W X (.Call (.Name "len" p) [e] [] pos) A (eA oLen fa) := by
  obtain ⟨K, cl⟩ := G
  have hk : K = X.K := ha.k
  subst hk
  exact d_callB call_len_seq cs_len hg hm PySem.boot_len ha (by decide) (by decide) he rfl
theorem d_sum (hc : X.calm = true) (hm : X.mg "sum" = none) (ha : DA G W X [e] A fa) (hg : Gl X "sum" := by rfl) (he : starEach [e] X.env = (false, eval e X.env) :: starEach [] X.env := by rfl) : DE G W X (.Call (.Name "sum" p) [e] [] pos) A (eA oSum fa) := by
  obtain ⟨K, cl⟩ := G
  have hk : K = X.K := ha.k
  subst hk
  exact d_callB (cr_sumA hc) cs_sum hg hm (by decide +kernel) ha (by decide) (by decide) he rfl
theorem d_max1 (hc : X.calm = true) (hm : X.mg "max" = none) (ha : DA G W X [e] A fa) (hg : Gl X "max" := by rfl) (he : starEach [e] X.env = (false, eval e X.env) :: starEach [] X.env := by rfl) : DE G W X (.Call (.Name "max" p) [e] [] pos) A (eA oMax fa) := by
  obtain ⟨K, cl⟩ := G
  have hk : K = X.K := ha.k
  subst hk
  exact d_callB (cr_maxA hc) cs_max hg hm (by decide +kernel) ha (by decide) (by decide) he rfl
theorem d_min1 (hc : X.calm = true) (hm : X.mg "min" = none) (ha : DA G W X [e] A fa) (hg : Gl X "min" := by rfl) (he : starEach [e] X.env = (false, eval e X.env) :: starEach [] X.env := by rfl) : DE G W X (.Call (.Name "min" p) [e] [] pos) A (eA oMin fa) := by
  obtain ⟨K, cl⟩ := G
  have hk : K = X.K := ha.k
  subst hk
  exact d_callB (cr_minA hc) cs_min hg hm (by decide +kernel) ha (by decide) (by decide) he rfl
theorem d_max2 (hc : X.calm = true) (hm : X.mg "max" = none) (ha : DA G W X [e, e'] A fa) (hg : Gl X "max" := by rfl) (he : starEach [e, e'] X.env = (false, eval e X.env) :: starEach [e'] X.env := by rfl) (hpl : (backTo pos (starEach [e'] X.env)).any (·.1) = false := by rfl) : DE G W X (.Call (.Name "max" p) [e, e'] [] pos) A (eA oMax fa) := by
  obtain ⟨K, cl⟩ := G
  have hk : K = X.K := ha.k
  subst hk
  exact d_callB (cr_maxA hc) cs_max hg hm (by decide +kernel) ha (by decide) (by decide) he hpl
theorem d_min2 (hc : X.calm = true) (hm : X.mg "min" = none) (ha : DA G W X [e, e'] A fa) (hg : Gl X "min" := by rfl) (he : starEach [e, e'] X.env = (false, eval e X.env) :: starEach [e'] X.env := by rfl) (hpl : (backTo pos (starEach [e'] X.env)).any (·.1) = false := by rfl) : DE G W X (.Call (.Name "min" p) [e, e'] [] pos) A (eA oMin fa) := by
  obtain ⟨K, cl⟩ := G
  have hk : K = X.K := ha.k
  subst hk
  exact d_callB (cr_minA hc) cs_min hg hm (by decide +kernel) ha (by decide) (by decide) he hpl
theorem d_abs (hm : X.mg "abs" = none) (ha : DA G W X [e] A fa) (hg : Gl X "abs" := by rfl) (he : starEach [e] X.env = (false, eval e X.env) :: starEach [] X.env := by rfl) : DE G W X (.Call (.Name "abs" p) [e] [] pos) A (eA oAbs fa) :=
  d_callB call_abs cs_abs hg hm (by decide +kernel) ha (by decide) (by decide) he rfl
theorem d_intc (hm : X.mg "int" = none) (ha : DA G W X [e] A fa) (hg : Gl X "int" := by rfl) (he : starEach [e] X.env = (false, eval e X.env) :: starEach [] X.env := by rfl) : DE G W X (.Call (.Name "int" p) [e] [] pos) A (eA oInt fa) :=
  d_callTy call_int1 cs_int hg hm (by decide +kernel) ha (by decide) (by decide) he rfl
theorem d_listc (hm : X.mg "list" = none) (ha : DA G W X [e] A fa) (hg : Gl X "list" := by rfl) (he : starEach [e] X.env = (false, eval e X.env) :: starEach [] X.env := by rfl) : DE G W X (.Call (.Name "list" p) [e] [] pos) A (eA oList fa) := by
  obtain ⟨K, cl⟩ := G
  have hk : K = X.K := ha.k
  subst hk
  exact d_callTy call_list_of cs_list hg hm (by decide +kernel) ha (by decide) (by decide) he rfl
theorem d_tuplec (hm : X.mg "tuple" = none) (ha : DA G W X [e] A fa) (hg : Gl X "tuple" := by rfl) (he : starEach [e] X.env = (false, eval e X.env) :: starEach [] X.env := by rfl) : DE G W X (.Call (.Name "tuple" p) [e] [] pos) A (eA oTuple fa) := by
  obtain ⟨K, cl⟩ := G
  have hk : K = X.K := ha.k
  subst hk
  exact d_callTy call_tuple_of cs_tuple hg hm (by decide +kernel) ha (by decide) (by decide) he rfl
theorem d_gcd (hm : X.mg "gcd" = some (.builtin "math.gcd")) (ha : DA G W X [e, e'] A fa) (hg : Gl X "gcd" := by rfl) (he : starEach [e, e'] X.env = (false, eval e X.env) :: starEach [e'] X.env := by rfl) (hpl : (backTo pos (starEach [e'] X.env)).any (·.1) = false := by rfl) : DE G W X (.Call (.Name "gcd" p) [e, e'] [] pos) A (eA oGcd fa) :=
  d_callM cr_gcd (g := oGcd) (cs_II (g := fun i j => ((Nat.gcd i.natAbs j.natAbs : Nat) : Int))) hg hm ha (by decide) he hpl
end
end
def oCal (n : Nat) (g : List D → M Rs) : List D → M Rs := fun ds => if ds.length = n then g ds else .bad
/-- a def of the text, known by its name -/
structure Cal (P : Program) (w : World) (K : PySem.W.Frag) (mg : Str → Option Value) (base : Heap) (G : GC) (x : Str) (k n : Nat) (g : List D → M Rs) : Prop where
  ex : ∃ (f : Addr) (fd : FuncData) (ps : List Str), FnOk P w K mg base CX0 k f fd ps (spD G n g) ∧ mg x = some (.ref f) ∧ PySem.W.keepIn K (.ref f) = true ∧ Binds K fd ps []
structure FnIn (K : PySem.W.Frag) (mg : Str → Option Value) (x : Str) (st : Stmt) (ps : List Str) : Prop where
  ex : ∃ (f : Addr) (fd : FuncData), Fun K x x st f fd ∧ mg x = some (.ref f) ∧ Binds K fd ps []
theorem d_cal {G : GC} {W : WX} {X : Cx} {pos : Pos} {x : Str} {k n : Nat} {g : List D → M Rs} {j : Nat} {p : Pos} {e : Expr} {es : List Expr} {A : List Nat} {fa : Env → M (List D)} (C : Cal X.prog X.w X.K X.mg X.base G x k n g) (hr : Room j X.A) (hj : k ≤ j) (ha : DA G W X (e :: es) A fa)
    (hn : (e :: es).length = n) (hg : Gl X x := by rfl) (hdb : (x == ("__debug__" : Str)) = false := by decide) (he : starEach (e :: es) X.env = (false, eval e X.env) :: starEach es X.env := by rfl)
    (hpl : (backTo pos (starEach es X.env)).any (·.1) = false := by rfl) : DE G W X (.Call (.Name x p) (e :: es) [] pos) A (eA (oCal n g) fa) := by
  obtain ⟨f, fd, ps, F, hm, hk, hb⟩ := C.ex
  exact d_call F (hr.mono hj) hg hm hk hb ha hn hdb he hpl
theorem cal_of {P : Program} {w : World} {K : PySem.W.Frag} {mg : Str → Option Value} {base : Heap} {G : GC} (hG : G.K = K) {x : Str} {st : Stmt} {N ps : List Str} {k : Nat} {b : Env → So} (I : FnIn K mg x st ps) (S : FnScope N ps (defScope st))
    (hb : ∀ (f : Addr) (cdv : Value) (A : Around) (outer : List PySem.Env) (s : Shared) (H : Hp) (E : XK), Room k (A.deeper (envOfC x (defScope st) s.heap.objs.size f cdv)) →
      DSs G W0 (cxOf CX0 P w K mg base N x (defScope st) f cdv A outer s H E).nox (defBody st) b) : Cal P w K mg base G x (k + 1) ps.length fun ds => pureM (runD N.length b ds) := by
  obtain ⟨f, fd, F, hm, hbi⟩ := I.ex
  exact ⟨f, fd, ps, fn_D hG F S (hb f), hm, F.kp, hbi⟩
theorem cal_by {P : Program} {w : World} {mg : Str → Option Value} {base : Heap} {G : GC} {x : Str} {st : Stmt} {N ps : List Str} {k j n : Nat} {b b' : Env → So} {m : List D → M Rs} (I : FnIn G.K mg x st ps) (S : FnScope N ps (defScope st))
    (hb : ∀ (f : Addr) (cdv : Value) (A : Around) (outer : List PySem.Env) (s : Shared) (H : Hp) (E : XK), Room k (A.deeper (envOfC x (defScope st) s.heap.objs.size f cdv)) →
      DSs G W0 (cxOf CX0 P w G.K mg base N x (defScope st) f cdv A outer s H E).nox (defBody st) b') (e : b' = b) (hm : m = fun ds => pureM (runD N.length b ds)) (hn : ps.length = n) (hj : k + 1 = j) : Cal P w G.K mg base G x j n m := by
  subst e hm hn hj
  exact cal_of rfl I S hb
/-- the same def, by its own record -/
theorem fn_same {P : Program} {w : World} {K : PySem.W.Frag} {mg : Str → Option Value} {base : Heap} {G : GC} {x : Str} {k n : Nat} {m : List D → M Rs} {f : Addr} {fd : FuncData} {y : Str} {oc : Value} {od : Option Addr} {sl : Array (Option Value)}
    (C : ∃ (g : Addr) (gd : FuncData) (ps : List Str), FnOk P w K mg base CX0 k g gd ps (spD G n m) ∧ mg x = some (.ref g) ∧ ps = [y] ∧ K.lookup g = some ⟨oc, od, .func gd, sl⟩) (hm : mg x = some (.ref f)) (l : K.lookup f = some ⟨oc, od, .func fd, sl⟩) : FnOk P w K mg base CX0 k f fd [y] (spD G n m) := by
  obtain ⟨g, gd, ps, F, h1, h2, h3⟩ := C
  rw [hm] at h1
  cases h1
  rw [l] at h3
  cases h3
  subst h2
  exact F
/-- the law's promise, where it gives True -/
theorem sp_true {K : PySem.W.Frag} (G : GC) (hG : G.K = K := by rfl) {H : Hp} {a : Addr} {ns : List Int} {m : List D → M Rs} (hS : SqL K H a (ns.map V.int)) (h : m [.scr ns] = .ok (.fz (.bl true))) : spD G 1 m [.ref a] H (fun v _ => v = .bl true) fun _ _ _ => False := by
  subst hG
  refine ⟨fun _ => False, [.scr ns], rfl, fun _ z => z.elim, .cons (.scr (Same.seq (fun b o e => by rw [cut_neg id]; exact e) hS)) .nil, ?_⟩
  rw [h]
  rintro v H' ⟨_, r⟩
  exact rp_bl r
end DL
end

section
set_option maxRecDepth 100000
set_option maxHeartbeats 4000000
/-! Data at a moment; tables (a list of lists that nobody else holds). -/
namespace DL
open PySem PySem.Spec PyProof.Rows L2

inductive SnapL (G : GC) (S : Hp) : Env → L2.St → Prop
  | nil : SnapL G S [] []
  | un {o : Option V} {env : Env} {σ : L2.St} : SnapL G S env σ → SnapL G S (.un :: env) (o :: σ)
  | fz {v : V} {d : D} {env : Env} {σ : L2.St} : Rp G S v d → SnapL G S env σ → SnapL G S (.fz d :: env) (some v :: σ)
section
variable {G : GC} {W : WX} {S H H0 : Hp} {env : Env} {σ : L2.St} {hid : Addr → Prop}
theorem SnapL.len (h : SnapL G S env σ) : env.length = σ.length := by
  induction h with
  | nil => rfl
  | un h ih => simp [ih]
  | fz r h ih => simp [ih]
theorem SnapL.no (h : SnapL G S env σ) : ∀ (i : Nat) ds, env[i]? ≠ some (.ow ds) := by
  induction h with
  | nil => intro i ds e; simp at e
  | un h ih => intro i ds e; cases i with
    | zero => simp at e
    | succ i => exact ih i ds (by simpa using e)
  | fz r h ih => intro i ds e; cases i with
    | zero => simp at e
    | succ i => exact ih i ds (by simpa using e)
theorem SnapL.get (h : SnapL G S env σ) : ∀ (i : Nat) d, env[i]? = some (.fz d) → ∃ v, σ[i]? = some (some v) ∧ Rp G S v d := by
  induction h with
  | nil => intro i ds e; simp at e
  | un h ih => intro i ds e; cases i with
    | zero => simp at e
    | succ i => simpa using ih i ds (by simpa using e)
  | fz r h ih => intro i ds e; cases i with
    | zero => simp at e; subst e; exact ⟨_, rfl, r⟩
    | succ i => simpa using ih i ds (by simpa using e)
theorem SnapL.noOwn (h : SnapL G S env σ) {p : Addr} : ¬ Own env σ p := fun ⟨i, ds, e, _⟩ => h.no i ds e
theorem SnapL.real (h : SnapL G (cut hid H) env σ) (b : Same H0 H) (hb : ∀ a, hid a → H a ≠ none) : Real G hid H0 env σ H :=
  ⟨h.len, fun i d e => let ⟨v, a, r⟩ := h.get i d e; ⟨v, a, r.mono (cut_sub fun a z => z.elim id fun o => absurd o h.noOwn)⟩, fun i ds e => absurd e (h.no i ds),
    fun i j ds es p e => absurd e (h.no i ds), b, fun p o => absurd o h.noOwn, hb⟩
theorem SnapL.mono {S' : Hp} (e : Same S S') (h : SnapL G S env σ) : SnapL G S' env σ := by
  induction h with
  | nil => exact .nil
  | un h ih => exact .un ih
  | fz r h ih => exact .fz (r.mono e) ih
/-- a value, seen from outside -/
def NewV (G : GC) (H H' : Hp) (v : V) : Rs → Prop
  | .fz d => Rp G H' v d
  | .ow ds => ∃ p vs, v = .ref p ∧ H p = none ∧ H' p = some (.lst vs) ∧ RpAll G (cut (fun a => a = p) H') vs ds
theorem same_cut0 : Same H (cut (fun _ => False) H) := fun a o e => by rw [cut_neg id]; exact e
theorem snap_E {f : Env → M Rs} {A : List Nat} {r : Rs} {Q : VK} (h : SnapL G H env σ) (e : f env = .ok r) (q : ∀ v H', Same H H' → NewV G H H' v r → Q v H') : tDE G W A f σ H Q := by
  refine ⟨fun _ => False, H, env, (h.mono same_cut0).real (Same.refl H) (fun _ z => z.elim), ?_⟩
  rw [e]
  intro v H' s k
  refine q v H' s ?_
  cases r with
  | fz d => exact Rp.mono cut_le k
  | ow ds =>
    obtain ⟨p, vs, a, b, c, k⟩ := k
    exact ⟨p, vs, a, b, c, k.mono (cut_sub fun x z => .inr z)⟩
theorem snap_T {f : Env → M Bool} {A : List Nat} {b : Bool} {Q : Bool → Hp → Prop} (h : SnapL G H env σ) (e : f env = .ok b) (q : ∀ H', Same H H' → Q b H') : tDT G W A f σ H Q := by
  refine ⟨fun _ => False, H, env, (h.mono same_cut0).real (Same.refl H) (fun _ z => z.elim), ?_⟩
  rw [e]
  exact q
theorem snap_R {g : Env → So} {r : Rs} {D : Ends} (h : SnapL G (cut hid H) env σ) (b : Same H0 H) (hb : ∀ a, hid a → H a ≠ none) (e : g env = .rt r) (q : ∀ v H', RetR G hid H0 H' v r → D.rt v H') : tDS G W g D σ H := by
  refine ⟨hid, H0, env, h.real b hb, ?_⟩
  rw [e]
  exact q
end

/-! ### rows of numbers -/
def rowV (N : Nat) (f : Nat → Int) : List V := (List.range N).map fun j => V.int (f j)
def rowD (N : Nat) (f : Nat → Int) : List D := (List.range N).map fun j => D.int (f j)
def tabD (M N : Nat) (T : Nat → Nat → Int) : List D := (List.range M).map fun i => D.lst (rowD N (T i))
@[simp] theorem rowV_len {N : Nat} {f : Nat → Int} : (rowV N f).length = N := by simp [rowV]
@[simp] theorem rowD_len {N : Nat} {f : Nat → Int} : (rowD N f).length = N := by simp [rowD]
@[simp] theorem tabD_len {M N : Nat} {T : Nat → Nat → Int} : (tabD M N T).length = M := by simp [tabD]
theorem rowV_get {N : Nat} {f : Nat → Int} {j : Nat} (h : j < N) : (rowV N f)[j]? = some (.int (f j)) := by simp [rowV, h]
theorem rowD_get {N : Nat} {f : Nat → Int} {j : Nat} (h : j < N) : (rowD N f)[j]? = some (.int (f j)) := by simp [rowD, h]
theorem tabD_get {M N : Nat} {T : Nat → Nat → Int} {i : Nat} (h : i < M) : (tabD M N T)[i]? = some (.lst (rowD N (T i))) := by simp [tabD, h]
theorem rowV_congr {N : Nat} {f g : Nat → Int} (h : ∀ j, j < N → f j = g j) : rowV N f = rowV N g := by
  simp only [rowV]
  exact List.map_congr_left fun j hj => by rw [h j (List.mem_range.mp hj)]
theorem rowD_congr {N : Nat} {f g : Nat → Int} (h : ∀ j, j < N → f j = g j) : rowD N f = rowD N g := by
  simp only [rowD]
  exact List.map_congr_left fun j hj => by rw [h j (List.mem_range.mp hj)]
theorem tabD_congr {M N : Nat} {T U : Nat → Nat → Int} (h : ∀ i, i < M → ∀ j, j < N → T i j = U i j) : tabD M N T = tabD M N U := by
  simp only [tabD]
  exact List.map_congr_left fun i hi => by rw [rowD_congr (h i (List.mem_range.mp hi))]
theorem rp_row {G : GC} {S : Hp} {N : Nat} {f : Nat → Int} : RpAll G S (rowV N f) (rowD N f) := by
  simp only [rowV, rowD]
  induction List.range N with
  | nil => exact .nil
  | cons j js ih => exact .cons (.int _) ih
theorem rp_row_eq {G : GC} {S : Hp} {N : Nat} {f : Nat → Int} {vs : List V} (h : RpAll G S vs (rowD N f)) : vs = rowV N f := by
  apply List.ext_getElem?
  intro j
  by_cases hj : j < N
  · rw [rowV_get hj]
    obtain ⟨v, e, r⟩ := h.get (rowD_get hj)
    rw [e, rp_int r]
  · rw [List.getElem?_eq_none (by rw [h.len]; simp; omega), List.getElem?_eq_none (by simp; omega)]
theorem rowV_set {N : Nat} {f : Nat → Int} {j : Nat} {x : Int} (h : j < N) : (rowV N f).set j (.int x) = rowV N (fun k => if k = j then x else f k) := by
  apply List.ext_getElem?
  intro k
  rw [List.getElem?_set]
  by_cases hk : k < N
  · rw [rowV_get hk, rowV_get hk]
    by_cases e : j = k
    · subst e; simp [h]
    · rw [if_neg e, if_neg (Ne.symm e)]
  · rw [List.getElem?_eq_none (l := rowV N f) (by simp; omega), List.getElem?_eq_none (by simp; omega)]
    split
    · next e => subst e; omega
    · rfl
theorem atI_nat {α : Type} {xs : List α} {i : Nat} : atI xs (i : Int) = xs[i]? := by
  unfold atI ixN
  rw [if_pos (by omega)]
  by_cases h : i < xs.length
  · rw [if_pos (by omega)]; simp
  · rw [if_neg (by omega), List.getElem?_eq_none (by omega)]; rfl
theorem atI_last {α : Type} {xs : List α} : atI xs (-1) = xs[xs.length - 1]? := by
  unfold atI ixN
  rw [if_neg (by omega)]
  cases xs with
  | nil => simp
  | cons x xs =>
    rw [if_pos (by simp; omega)]
    simp only [Option.bind_some, List.length_cons, Nat.add_sub_cancel]
    have : ((-1 : Int) + ((xs.length + 1 : Nat) : Int)).toNat = xs.length := by omega
    rw [this]
theorem ixN_nat {n i : Nat} (h : i < n) : ixN n (i : Int) = some i := by
  unfold ixN
  rw [if_pos (by omega), if_pos (by omega)]; simp
theorem RpAll.of_get {G : GC} {S : Hp} {vs : List V} {ds : List D} (hl : vs.length = ds.length) (h : ∀ (i : Nat) v d, vs[i]? = some v → ds[i]? = some d → Rp G S v d) : RpAll G S vs ds := by
  induction vs generalizing ds with
  | nil => cases ds with
    | nil => exact .nil
    | cons => simp at hl
  | cons v vs ih => cases ds with
    | nil => simp at hl
    | cons d ds => exact .cons (h 0 v d rfl rfl) (ih (by simpa using hl) fun i v d e f => h (i + 1) v d (by simpa using e) (by simpa using f))

/-! ### tables -/
structure Tab (H : Hp) (t : Addr) (rs : List Addr) (M N : Nat) (T : Nat → Nat → Int) : Prop where
  ht : H t = some (.lst (rs.map .ref))
  len : rs.length = M
  nd : rs.Nodup
  tn : t ∉ rs
  row : ∀ (i : Nat) a, rs[i]? = some a → H a = some (.lst (rowV N (T i)))
section
variable {G : GC} {H H' : Hp} {t : Addr} {rs : List Addr} {M N : Nat} {T U : Nat → Nat → Int}
theorem Tab.mono (h : Tab H t rs M N T) (e : Same H H') : Tab H' t rs M N T := ⟨e _ _ h.ht, h.len, h.nd, h.tn, fun i a k => e _ _ (h.row i a k)⟩
theorem Tab.lt (h : Tab H t rs M N T) {i : Nat} {a : Addr} (e : rs[i]? = some a) : i < M := by
  rw [← h.len]; exact (List.getElem?_eq_some_iff.mp e).1
theorem Tab.at (h : Tab H t rs M N T) {i : Nat} (hi : i < M) : ∃ a, rs[i]? = some a ∧ H a = some (.lst (rowV N (T i))) := by
  have hl : i < rs.length := by rw [h.len]; exact hi
  exact ⟨rs[i], List.getElem?_eq_getElem hl, h.row i _ (List.getElem?_eq_getElem hl)⟩
theorem Tab.congr (h : Tab H t rs M N T) (e : ∀ i, i < M → ∀ j, j < N → T i j = U i j) : Tab H t rs M N U :=
  ⟨h.ht, h.len, h.nd, h.tn, fun i a k => by rw [h.row i a k, rowV_congr (e i (h.lt k))]⟩
theorem Tab.rp {hid : Addr → Prop} (h : Tab H t rs M N T) (ht : ¬ hid t) (hr : ∀ a, a ∈ rs → ¬ hid a) : Rp G (cut hid H) (.ref t) (.lst (tabD M N T)) := by
  refine .lst (by rw [cut_neg ht]; exact h.ht) (RpAll.of_get (by simp [h.len]) fun i v d e f => ?_)
  rw [List.getElem?_map] at e
  cases q : rs[i]? with
  | none => rw [q] at e; cases e
  | some a =>
    rw [q] at e
    cases e
    rw [tabD_get (h.lt q)] at f
    cases f
    exact .lst (by rw [cut_neg (hr a (List.mem_of_getElem? q))]; exact h.row i a q) rp_row
/-- another cell of the heap -/
theorem Tab.other (h : Tab H t rs M N T) {p : Addr} {o : HO} (hp : p ≠ t) (hr : p ∉ rs) : Tab (upd H p o) t rs M N T :=
  ⟨by rw [upd_ne (Ne.symm hp)]; exact h.ht, h.len, h.nd, h.tn, fun i a k => by
    have : a ≠ p := fun e => hr (by rw [← e]; exact List.mem_of_getElem? k)
    rw [upd_ne this]; exact h.row i a k⟩
/-- a row written through its own name -/
theorem Tab.put (h : Tab H t rs M N T) {r : Nat} {a : Addr} (hr : rs[r]? = some a) {f : Nat → Int} : Tab (upd H a (.lst (rowV N f))) t rs M N (fun i => if i = r then f else T i) := by
  have ha : a ≠ t := fun e => h.tn (e ▸ List.mem_of_getElem? hr)
  refine ⟨by rw [upd_ne (Ne.symm ha)]; exact h.ht, h.len, h.nd, h.tn, fun i b k => ?_⟩
  by_cases e : i = r
  · subst e
    rw [hr] at k
    cases k
    simp only [if_true]
    exact upd_same
  · simp only [if_neg e]
    have : b ≠ a := fun eb => by
      subst eb
      have l1 := (List.getElem?_eq_some_iff.mp k).1
      exact e ((List.getElem?_inj l1 h.nd).mp (by rw [k, hr]))
    rw [upd_ne this]; exact h.row i b k
/-- a row replaced by another list -/
theorem Tab.swap (h : Tab H t rs M N T) {r : Nat} (hr : r < M) {p : Addr} {f : Nat → Int} (hp : H p = some (.lst (rowV N f))) (hpt : p ≠ t) (hpr : p ∉ rs) :
    Tab (upd H t (.lst ((rs.map V.ref).set r (.ref p)))) t (rs.set r p) M N (fun i => if i = r then f else T i) := by
  refine ⟨by rw [upd_same, List.map_set], by rw [List.length_set]; exact h.len, ?_, ?_, fun i b k => ?_⟩
  · unfold List.Nodup
    rw [List.pairwise_iff_getElem]
    intro i j hi hj hij e
    rw [List.getElem_set, List.getElem_set] at e
    have nd := List.pairwise_iff_getElem.mp h.nd i j (by simpa using hi) (by simpa using hj) hij
    by_cases e1 : r = i
    · rw [if_pos e1, if_neg (by omega)] at e
      exact hpr (e ▸ List.getElem_mem _)
    · rw [if_neg e1] at e
      by_cases e2 : r = j
      · rw [if_pos e2] at e
        exact hpr (e ▸ List.getElem_mem _)
      · rw [if_neg e2] at e
        exact nd e
  · intro hm
    rcases List.mem_or_eq_of_mem_set hm with e | e
    · exact h.tn e
    · exact hpt e.symm
  · rw [List.getElem?_set] at k
    by_cases e : r = i
    · subst e
      rw [if_pos rfl, if_pos (by rw [h.len]; exact hr)] at k
      cases k
      simp only [if_true]
      rw [upd_ne hpt]; exact hp
    · rw [if_neg e] at k
      simp only [if_neg (Ne.symm e)]
      have : b ≠ t := fun eb => h.tn (eb ▸ List.mem_of_getElem? k)
      rw [upd_ne this]; exact h.row i b k
end
end DL
end

section
set_option maxRecDepth 100000
set_option maxHeartbeats 4000000
/-! The contract of an exchange; a comprehension that is stored, by its value. -/
namespace DL
open PySem PySem.Spec PyProof.Rows L2
section
variable {G : GC} {W : WX} {X : Cx} {pos : Pos}
theorem ps_setLcD {i : Nat} {y : Str} {py : Pos} {elt tg iter : Expr} {ifs : List Expr} {scope : Scope} {own : List (Str × Nat)} {cpos : Pos} {T A B C : List Nat} {it : Env → M (List D)} {t : D → Env → Option Env} {tt : Env → M Bool} {te : Env → M Rs} (hc : X.calm = true) (hN : X.N.Nodup)
    (hy : X.N[i]? = some y) (hyl : X.env.scope.names.lookup y = some .local) (hsw : swapsWith (.ListComp elt [⟨tg, iter, ifs, 0⟩] scope cpos) (some (.Name y py)) pos.line X.env = pure true) (hi : DI G W X tg iter A it)
    (ok : BlkOk X.N X.env.scope scope own) (hT : ∀ i, i ∈ T → i ∈ own.map (·.2))
    (hg : ∀ (s : Shared) (H : Hp) (C : Addr) (cl : List (Str × Addr)) (fp : List Addr), DG G (X.blk s H scope (compEnvC scope cl C X.env) fp) tg T t)
    (ht : ∀ (s : Shared) (H : Hp) (C : Addr) (cl : List (Str × Addr)) (fp : List Addr), DTs G W0 (X.blk s H scope (compEnvC scope cl C X.env) fp) ifs B tt)
    (he : ∀ (s : Shared) (H : Hp) (C' : Addr) (cl : List (Str × Addr)) (fp : List Addr), DE G W0 (X.blk s H scope (compEnvC scope cl C' X.env) fp) elt C te)
    (hs : ∀ x, foldedSetIterable iter X.env x = pure x := by intro _; rfl) : PS X (.Assign [.Name y py] (.ListComp elt [⟨tg, iter, ifs, 0⟩] scope cpos) pos) (tAsg (tDE G W (List.range 64) (eLc (own.map (·.2)) it t tt te)) (gName i)) :=
  weakS (ps_setLc hc hN hy hyl hsw hi.pi ok (fun s H C cl fp => (hg s H C cl fp).pg) (fun s H C cl fp => (ht s H C cl fp).pts) (fun s H C cl fp => (he s H C cl fp).pe) hs) fun D σ H h => lc_run hT h
end
section
variable {G : GC} {W : WX} {S H H0 : Hp} {env : Env} {σ : L2.St} {hid : Addr → Prop}
theorem snap_A {f : Env → M (List D)} {A : List Nat} {r : List D} {Q : List V → Hp → Prop} (h : SnapL G H env σ) (e : f env = .ok r) (q : ∀ vs H', Same H H' → RpAll G H' vs r → Q vs H') : tDA G W A f σ H Q := by
  refine ⟨fun _ => False, H, env, (h.mono same_cut0).real (Same.refl H) (fun _ z => z.elim), ?_⟩
  rw [e]
  exact fun v H' s k => q v H' s (k.mono cut_le)
theorem Tab.rp0 {H : Hp} {t : Addr} {rs : List Addr} {M N : Nat} {T : Nat → Nat → Int} (h : Tab H t rs M N T) : Rp G H (.ref t) (.lst (tabD M N T)) :=
  (h.rp (G := G) (hid := fun _ => False) id fun _ _ z => z).mono cut_le
theorem rp_row0 {H : Hp} {a : Addr} {N : Nat} {f : Nat → Int} (h : H a = some (.lst (rowV N f))) : Rp G H (.ref a) (.lst (rowD N f)) := .lst h rp_row
end

/-- the numbers that an exchange writes -/
def xNew (T : Nat → Nat → Int) (r c : Nat) (s : Int) (i j : Nat) : Int :=
  if i = r then (if j = c then s else T r j)
  else if j = c then - T i c
  else (T r c * T i j - T i c * T r j).fdiv s
def Small (M N : Nat) (T : Nat → Nat → Int) : Prop := ∀ i, i < M → ∀ j, j < N → (T i j).natAbs.log2 < 9000
def spX : Sp := fun vs H Q _ => ∃ t rs M N T, ∃ r c : Nat, ∃ s : Int, vs = [.ref t, .int r, .int c, .int s] ∧ Tab H t rs M N T ∧ r < M ∧ c < N ∧ s ≠ 0 ∧ M < 1000000 ∧ N < 1000000 ∧ Small M N T ∧ s.natAbs.log2 < 9000 ∧
  ∀ H' rs', Tab H' t rs' M N (xNew T r c s) → Same (cut (fun a => a = t ∨ a ∈ rs) H) H' → (∀ a, a ∈ rs' → a ∈ rs ∨ H a = none) → Q (.int (T r c)) H'
theorem sz : (1000000 : Nat) < sizeLine := by decide +kernel
theorem mul_small {a b : Int} (ha : a.natAbs.log2 < 9000) (hb : b.natAbs.log2 < 9000) : mulOk a b = true := by
  unfold mulOk
  rw [Bool.or_eq_true, decide_eq_true_iff]
  exact .inr (by omega)
theorem div_ok {b : Int} (h0 : b ≠ 0) (hb : b.natAbs.log2 < 9000) {a : Int} : oDiv (.int a) (.int b) = .ok (.fz (.int (a.fdiv b))) := by
  unfold oDiv oIc divOk
  simp [h0, hb]
theorem mul_ok {a b : Int} (ha : a.natAbs.log2 < 9000) (hb : b.natAbs.log2 < 9000) : oMul (.int a) (.int b) = .ok (.fz (.int (a * b))) := by
  unfold oMul
  simp [mul_small ha hb]
/-- the comprehension's loop, where each turn gives a value -/
theorem lcL_map {α : Type} {t : D → Env → Option Env} {tt : Env → M Bool} {te : Env → M Rs} {env : Env} (xs : List α) (f : α → D) (g : α → D)
    (h : ∀ x, x ∈ xs → ∃ e2 r, t (f x) env = some e2 ∧ tt e2 = .ok true ∧ te e2 = .ok r ∧ r.d = g x) : lcL t tt te env (xs.map f) = .ok (xs.map g) := by
  induction xs with
  | nil => rfl
  | cons x xs ih =>
    obtain ⟨e2, r, h1, h2, h3, h4⟩ := h x (List.mem_cons_self ..)
    simp only [List.map_cons, lcL, h1, h2, h3, M.bind_ok, if_true]
    rw [ih (fun y hy => h y (List.mem_cons_of_mem _ hy))]
    simp only [M.bind_ok, h4]
theorem zip_rows {N : Nat} {f g : Nat → Int} : (rowD N f).zip (rowD N g) = (List.range N).map fun j => (D.int (f j), D.int (g j)) := by
  simp only [rowD]
  induction List.range N with
  | nil => rfl
  | cons x xs ih => simp [ih]
end DL
end

section
set_option maxRecDepth 100000
set_option maxHeartbeats 1000000
/-! Reckoning with mirrors: a set of rewriting rules. -/
namespace DL
open L2
variable {env : Env} {α : Type}
@[simp] theorem ev_bok (a : α) {β : Type} (f : α → M β) : (M.ok a >>= f) = f a := (rfl)
@[simp] theorem ev_bbad {β : Type} (f : α → M β) : ((M.bad : M α) >>= f) = .bad := (rfl)
@[simp] theorem ev_pok (a : α) : pureM (.ok a) = .ok a := (rfl)
@[simp] theorem ev_pbad : pureM (.bad : M α) = .bad := (rfl)
@[simp] theorem ev_rfz (d : D) : (Rs.fz d).d = d := (rfl)
@[simp] theorem ev_row (ds : List D) : (Rs.ow ds).d = .lst ds := (rfl)
@[simp] theorem ev_sfz (d : D) : (Rs.fz d).sl = .fz d := (rfl)
@[simp] theorem ev_sow (ds : List D) : (Rs.ow ds).sl = .ow ds := (rfl)
@[simp] theorem ev_v0f (d : D) : eVar 0 (.fz d :: env) = .ok (.fz d) := (rfl)
@[simp] theorem ev_v0o (ds : List D) : eVar 0 (.ow ds :: env) = .ok (.fz (.lst ds)) := (rfl)
@[simp] theorem ev_vs (i : Nat) (s : Sl) : eVar (i + 1) (s :: env) = eVar i env := (rfl)
@[simp] theorem ev_c (d : D) : eC d env = .ok (.fz d) := (rfl)
@[simp] theorem ev_e1 (g : D → M Rs) (f : Env → M Rs) : e1 g f env = (f env >>= fun x => pureM (g x.d)) := (rfl)
@[simp] theorem ev_e2 (g : D → D → M Rs) (f1 f2 : Env → M Rs) : e2 g f1 f2 env = (f1 env >>= fun x => f2 env >>= fun y => pureM (g x.d y.d)) := (rfl)
@[simp] theorem ev_eA (g : List D → M Rs) (f : Env → M (List D)) : eA g f env = (f env >>= fun ds => pureM (g ds)) := (rfl)
@[simp] theorem ev_aNil : aNil env = .ok [] := (rfl)
@[simp] theorem ev_aCons (f : Env → M Rs) (g : Env → M (List D)) : aCons f g env = (f env >>= fun x => g env >>= fun ys => .ok (x.d :: ys)) := (rfl)
@[simp] theorem ev_iA (g : List D → M (List D)) (f : Env → M (List D)) : iA g f env = (f env >>= fun ds => pureM (g ds)) := (rfl)
@[simp] theorem ev_iE (g : D → M (List D)) (f : Env → M Rs) : iE g f env = (f env >>= fun r => pureM (g r.d)) := (rfl)
@[simp] theorem ev_iterL (ds : List D) : iterA (.lst ds) = .ok ds := (rfl)
@[simp] theorem ev_iterT (ds : List D) : iterA (.tup ds) = .ok ds := (rfl)
@[simp] theorem ev_add (i j : Int) : oAdd (.int i) (.int j) = .ok (.fz (.int (i + j))) := (rfl)
@[simp] theorem ev_sub (i j : Int) : oSub (.int i) (.int j) = .ok (.fz (.int (i - j))) := (rfl)
@[simp] theorem ev_neg (i : Int) : oNeg (.int i) = .ok (.fz (.int (-i))) := (rfl)
@[simp] theorem ev_lt (i j : Int) : oLt (.int i) (.int j) = .ok (.fz (.bl (decide (i < j)))) := (rfl)
@[simp] theorem ev_gt (i j : Int) : oGt (.int i) (.int j) = .ok (.fz (.bl (decide (j < i)))) := (rfl)
@[simp] theorem ev_le (i j : Int) : oLe (.int i) (.int j) = .ok (.fz (.bl (decide (i ≤ j)))) := (rfl)
@[simp] theorem ev_ge (i j : Int) : oGe (.int i) (.int j) = .ok (.fz (.bl (decide (j ≤ i)))) := (rfl)
@[simp] theorem ev_eqI (i j : Int) : oEq (.int i) (.int j) = .ok (.fz (.bl (decide (i = j)))) := (rfl)
@[simp] theorem ev_eqB (i j : Bool) : oEq (.bl i) (.bl j) = .ok (.fz (.bl (decide (i = j)))) := (rfl)
@[simp] theorem ev_eqS (i j : PySem.Str) : oEq (.str i) (.str j) = .ok (.fz (.bl (decide (i = j)))) := (rfl)
@[simp] theorem ev_neI (i j : Int) : oNe (.int i) (.int j) = .ok (.fz (.bl (!decide (i = j)))) := (rfl)
@[simp] theorem ev_neS (i j : PySem.Str) : oNe (.str i) (.str j) = .ok (.fz (.bl (!decide (i = j)))) := (rfl)
@[simp] theorem ev_isB (n i j : Bool) : oIs n (.bl i) (.bl j) = .ok (.fz (.bl (if n then !decide (i = j) else decide (i = j)))) := (rfl)
@[simp] theorem ev_copLt : cop .Lt = oLt := (rfl)
@[simp] theorem ev_copGt : cop .Gt = oGt := (rfl)
@[simp] theorem ev_copLe : cop .LtE = oLe := (rfl)
@[simp] theorem ev_copGe : cop .GtE = oGe := (rfl)
@[simp] theorem ev_copEq : cop .Eq = oEq := (rfl)
@[simp] theorem ev_copNe : cop .NotEq = oNe := (rfl)
@[simp] theorem ev_copIs : cop .Is = oIs false := (rfl)
@[simp] theorem ev_copIsN : cop .IsNot = oIs true := (rfl)
theorem ev_mul {i j : Int} (h : mulOk i j = true) : oMul (.int i) (.int j) = .ok (.fz (.int (i * j))) := by simp [oMul, h]
theorem ev_mod {i j : Int} (h : j ≠ 0) : oMod (.int i) (.int j) = .ok (.fz (.int (i.fmod j))) := by simp [oMod, oIc, h]
@[simp] theorem ev_lenL (ds : List D) : oLen [.lst ds] = .ok (.fz (.int ds.length)) := (rfl)
@[simp] theorem ev_lenT (ds : List D) : oLen [.tup ds] = .ok (.fz (.int ds.length)) := (rfl)
@[simp] theorem ev_lenS (ns : List Int) : oLen [.scr ns] = .ok (.fz (.int ns.length)) := (rfl)
@[simp] theorem ev_int (i : Int) : oInt [.int i] = .ok (.fz (.int i)) := (rfl)
@[simp] theorem ev_intB (b : Bool) : oInt [.bl b] = .ok (.fz (.int (if b then 1 else 0))) := (rfl)
@[simp] theorem ev_ixL (ds : List D) (i : Int) : oIx (.lst ds) (.int i) = oR (atI ds i) := (rfl)
@[simp] theorem ev_ixT (ds : List D) (i : Int) : oIx (.tup ds) (.int i) = oR (atI ds i) := (rfl)
@[simp] theorem ev_oR (d : D) : oR (some d) = .ok (.fz d) := (rfl)
@[simp] theorem ev_asB (b : Bool) : asB (.fz (.bl b)) = .ok b := (rfl)
@[simp] theorem ev_tV (f : Env → M Rs) : tV f env = (f env >>= fun r => asB r) := (rfl)
@[simp] theorem ev_tAn (f g : Env → M Bool) : tAn f g env = (f env >>= fun b => if b then g env else .ok false) := (rfl)
@[simp] theorem ev_tO (f g : Env → M Bool) : tO f g env = (f env >>= fun b => if b then .ok true else g env) := (rfl)
@[simp] theorem ev_tN (f : Env → M Bool) : tN f env = (f env >>= fun b => .ok (!b)) := (rfl)
@[simp] theorem ev_vIf (c : Env → M Bool) (f g : Env → M Rs) : vIf c f g env = (c env >>= fun b => if b then f env else g env) := (rfl)
@[simp] theorem ev_tYes : tYesD env = .ok true := (rfl)
@[simp] theorem ev_name (i : Nat) (d : D) : nName i d env = some (env.set i (.fz d)) := (rfl)
@[simp] theorem ev_nNil : nNil [] env = some env := (rfl)
@[simp] theorem ev_nCons (t : D → Env → Option Env) (u : List D → Env → Option Env) (d : D) (ds : List D) : nCons t u (d :: ds) env = (t d env).bind (u ds) := (rfl)
@[simp] theorem ev_nTup (n : Nat) (u : List D → Env → Option Env) (ds : List D) : nTup n u (.tup ds) env = if ds.length = n then u ds env else none := (rfl)
@[simp] theorem ev_seq (f g : Env → So) : sSeq f g env = (f env).andThen g := (rfl)
@[simp] theorem ev_tn (e : Env) (g : Env → So) : So.andThen (.nx e) g = g e := (rfl)
@[simp] theorem ev_tr (r : Rs) (g : Env → So) : So.andThen (.rt r) g = .rt r := (rfl)
@[simp] theorem ev_tc (e : Env) (g : Env → So) : So.andThen (.ct e) g = .ct e := (rfl)
@[simp] theorem ev_tb (e : Env) (g : Env → So) : So.andThen (.bk e) g = .bk e := (rfl)
@[simp] theorem ev_ofM (a : α) (A : List Nat) (k : α → So) : ofM (.ok a) env A k = k a := (rfl)
@[simp] theorem ev_set (i : Nat) (A : List Nat) (f : Env → M Rs) : sSet i A f env = ofM (f env) env A fun r => .nx ((frzIf r A env).set i r.sl) := (rfl)
@[simp] theorem ev_ret (A : List Nat) (f : Env → M Rs) : sRet A f env = ofM (f env) env A fun r => .rt r := (rfl)
@[simp] theorem ev_next : sNext env = .nx env := (rfl)
@[simp] theorem ev_if (A : List Nat) (c : Env → M Bool) (f g : Env → So) : sIf A c f g env = ofM (c env) env A fun b => if b then f env else g env := (rfl)
@[simp] theorem ev_for (A : List Nat) (it : Env → M (List D)) (t : D → Env → Option Env) (b : Env → So) : sFor A it t b env = ofM (it env) env A fun ds => forL t b ds (fzAll A env) := (rfl)
@[simp] theorem ev_frzInt (i : Int) (A : List Nat) : frzIf (.fz (.int i)) A env = env := (rfl)
@[simp] theorem ev_frzBl (b : Bool) (A : List Nat) : frzIf (.fz (.bl b)) A env = env := (rfl)
@[simp] theorem ev_frzStr (b : PySem.Str) (A : List Nat) : frzIf (.fz (.str b)) A env = env := (rfl)
theorem nol_row {N : Nat} {f : Nat → Int} : D.nolAll (rowD N f) = true := by
  simp only [rowD]
  induction List.range N with
  | nil => rfl
  | cons x xs ih => simpa [D.nolAll, D.nol] using ih
@[simp] theorem ev_frzRow (N : Nat) (f : Nat → Int) (A : List Nat) : frzIf (.ow (rowD N f)) A env = env := by
  simp [frzIf, Rs.nol, nol_row]
theorem ev_rng1 {n : Nat} (h : n < 2 ^ 62) : oRng1 [.int n] = .ok ((List.range n).map fun (i : Nat) => D.int (i : Int)) := by
  unfold oRng1 rngOk
  have h1 : (-(2 ^ 62) : Int) ≤ (n : Int) := by omega
  have h2 : (n : Int) < 2 ^ 62 := by omega
  simp [h1, upTo]
  omega
theorem ev_lc {vs : List Nat} {it : Env → M (List D)} {t : D → Env → Option Env} {tt : Env → M Bool} {te : Env → M Rs} {ds rs : List D} (h : env.length ≤ 64) (hi : it env = .ok ds)
    (hl : lcL t tt te (wipeE (env.map Sl.frz) vs) ds = .ok rs) (hz : ds.length < PySem.sizeLine ∨ ds.length < 1000000) : eLc vs it t tt te env = .ok (.ow rs) := by
  unfold eLc
  rw [if_pos h]
  simp only [ev_bok, hi, hl, ev_pok]
  rw [if_pos]
  rcases hz with z | z
  · exact z
  · exact Nat.lt_trans z sz
/-- a loop by its invariant -/
theorem forL_gen {t : D → Env → Option Env} {body : Env → So} {ds : List D} {env : Env} (I : Nat → Env → Prop) (Q : So → Prop) (h0 : I 0 env)
    (step : ∀ i d e, ds[i]? = some d → I i e → ∃ e1, t d e = some e1 ∧ ((∃ e2, (body e1 = .nx e2 ∨ body e1 = .ct e2) ∧ I (i + 1) e2) ∨ (∃ r, body e1 = .rt r ∧ Q (.rt r)) ∨ (∃ e2, body e1 = .bk e2 ∧ Q (.nx e2))))
    (hend : ∀ e, I ds.length e → Q (.nx e)) : Q (forL t body ds env) := by
  induction ds generalizing I env with
  | nil => exact hend env h0
  | cons d ds ih =>
    obtain ⟨e1, ht, hb⟩ := step 0 d env rfl h0
    simp only [forL, ht]
    rcases hb with ⟨e2, hb, h1⟩ | ⟨r, hb, q⟩ | ⟨e2, hb, q⟩
    · have go : Q (forL t body ds e2) := ih (fun i => I (i + 1)) h1 (fun i d' e hd hi => step (i + 1) d' e (by simpa using hd) hi) (fun e he => hend e (by simpa using he))
      rcases hb with hb | hb <;> rw [hb] <;> exact go
    · rw [hb]; exact q
    · rw [hb]; exact q
theorem forL_nx {t : D → Env → Option Env} {body : Env → So} {ds : List D} {env : Env} (I : Nat → Env → Prop) (h0 : I 0 env)
    (step : ∀ i d e, ds[i]? = some d → I i e → ∃ e1, t d e = some e1 ∧ (∃ e2, (body e1 = .nx e2 ∨ body e1 = .ct e2) ∧ I (i + 1) e2)) : ∃ e, forL t body ds env = .nx e ∧ I ds.length e :=
  forL_gen I (fun s => ∃ e, s = .nx e ∧ I ds.length e) h0 (fun i d e hd hi => let ⟨e1, a, b⟩ := step i d e hd hi; ⟨e1, a, .inl b⟩) (fun e he => ⟨e, rfl, he⟩)
end DL
namespace DL
open L2
variable {env : Env}
@[simp] theorem ev_retVf (d : D) : sRetV 0 (.fz d :: env) = .rt (.fz d) := (rfl)
@[simp] theorem ev_retVo (ds : List D) : sRetV 0 (.ow ds :: env) = .rt (.ow ds) := (rfl)
@[simp] theorem ev_retVs (i : Nat) (s : Sl) : sRetV (i + 1) (s :: env) = sRetV i env := (rfl)
@[simp] theorem ev_own0 (ds : List D) (k : List D → So) : ownAt (.ow ds :: env) 0 k = k ds := (rfl)
@[simp] theorem ev_ownS (i : Nat) (s : Sl) (k : List D → So) : ownAt (s :: env) (i + 1) k = ownAt env i k := (rfl)
@[simp] theorem ev_setIx (i : Nat) (A B : List Nat) (f g : Env → M Rs) : sSetIx i A B f g env = ownAt env i fun _ => ofM (f env) env A fun r => ofM (g env) env B fun k => ownAt (DL.frzIf r A env) i fun ds =>
  match k.d with | .int n => (match ixN ds.length n with | some j => .nx ((DL.frzIf r A env).set i (.ow (ds.set j r.d))) | none => .bad) | _ => .bad := (rfl)
@[simp] theorem ev_app (i : Nat) (A : List Nat) (f : Env → M Rs) : sApp i A f env = ownAt env i fun _ => ofM (f env) env A fun r => ownAt (DL.frzIf r A env) i fun ds => if ds.length < PySem.sizeLine then .nx ((DL.frzIf r A env).set i (.ow (ds ++ [r.d]))) else .bad := (rfl)
@[simp] theorem ev_asg (A : List Nat) (t : D → Env → Option Env) (f : Env → M Rs) : sAsg A t f env = ofM (f env) env A fun r => ofO (t r.d (DL.frzIf r A env)) := (rfl)
@[simp] theorem ev_ofO (e : Env) : ofO (some e) = .nx e := (rfl)
@[simp] theorem ev_fzNil : fzAll [] env = env := (rfl)
@[simp] theorem ev_fzCons (i : Nat) (is : List Nat) : fzAll (i :: is) env = fzAll is (env.set i ((env.getD i .un).frz)) := (rfl)
@[simp] theorem ev_frzU : Sl.frz .un = .un := (rfl)
@[simp] theorem ev_frzF (d : D) : Sl.frz (.fz d) = .fz d := (rfl)
@[simp] theorem ev_frzO (ds : List D) : Sl.frz (.ow ds) = .fz (.lst ds) := (rfl)
theorem runD_ok {n : Nat} {b : Env → So} {ds : List D} {r : Rs} (h : b (startE n ds) = .rt r) : pureM (runD n b ds) = .ok r := by
  unfold runD; rw [h]; rfl
end DL
namespace DL
@[simp] theorem ev_isN (n : Bool) (d : D) : oIs n d .non = .ok (.fz (.bl (if n then !isN d else isN d))) := by cases d <;> rfl
end DL
end

section
set_option maxRecDepth 100000
set_option maxHeartbeats 1000000
/-! A def that changes a table, known by its name; a table that grows. -/
namespace DL
open PySem PySem.Spec PyProof.Rows L2
structure CalS (P : Program) (w : World) (K : PySem.W.Frag) (mg : Str → Option Value) (base : Heap) (x : Str) (k : Nat) (sp : Sp) : Prop where
  ex : ∃ (f : Addr) (fd : FuncData) (ps : List Str), FnOk P w K mg base CX0 k f fd ps sp ∧ mg x = some (.ref f) ∧ PySem.W.keepIn K (.ref f) = true ∧ Binds K fd ps []
theorem pe_calS {X : Cx} {pos : Pos} {x : Str} {k : Nat} {sp : Sp} {j : Nat} {p : Pos} {e : Expr} {es : List Expr} {t : TA} (C : CalS X.prog X.w X.K X.mg X.base x k sp) (hr : Room j X.A) (hj : k ≤ j) (ha : PA X (e :: es) t)
    (hg : Gl X x := by rfl) (hdb : (x == ("__debug__" : Str)) = false := by decide) (he : starEach (e :: es) X.env = (false, eval e X.env) :: starEach es X.env := by rfl)
    (hpl : (backTo pos (starEach es X.env)).any (·.1) = false := by rfl) : PE X (.Call (.Name x p) (e :: es) [] pos) (tCall sp [] E0 t) := by
  obtain ⟨f, fd, ps, F, hm, hk, hb⟩ := C.ex
  exact pe_call F (hr.mono hj) hg hm hk hb .nil pass0 ha hdb he hpl
theorem Tab.push {H : Hp} {t : Addr} {rs : List Addr} {M N : Nat} {T : Nat → Nat → Int} (h : Tab H t rs M N T) {p : Addr} (hp : H p = some (.lst (rowV N (T M)))) (hpt : p ≠ t) (hpr : p ∉ rs) :
    Tab (upd H t (.lst (rs.map V.ref ++ [.ref p]))) t (rs ++ [p]) (M + 1) N T := by
  refine ⟨by rw [upd_same]; simp, by simp [h.len], ?_, ?_, fun i b k => ?_⟩
  · rw [List.nodup_append]
    refine ⟨h.nd, by simp, fun a ha b hb e => ?_⟩
    simp at hb
    subst hb
    exact hpr (e ▸ ha)
  · intro hm
    rcases List.mem_append.mp hm with e | e
    · exact h.tn e
    · simp at e
      exact hpt e.symm
  · rw [List.getElem?_append] at k
    split at k
    · have : b ≠ t := fun eb => h.tn (eb ▸ List.mem_of_getElem? k)
      rw [upd_ne this]; exact h.row i b k
    · next hl =>
      have hi : i - rs.length = 0 := by
        cases q : i - rs.length with
        | zero => rfl
        | succ n => rw [q] at k; simp at k
      rw [hi] at k
      simp at k
      subst k
      have : i = M := by rw [← h.len]; omega
      subst this
      rw [upd_ne hpt]; exact hp
theorem tab_nil {H : Hp} {t : Addr} {N : Nat} {T : Nat → Nat → Int} (h : H t = some (.lst [])) : Tab H t [] 0 N T :=
  ⟨h, rfl, List.nodup_nil, by simp, fun i a k => by simp at k⟩
theorem rgV_row (n : Nat) : rgV 0 n = rowV n fun j => (j : Int) := by
  simp [rgV, rowV]
end DL
namespace DL
open PySem PySem.Spec PyProof.Rows L2
theorem fn_by {P : Program} {w : World} {mg : Str → Option Value} {base : Heap} {G : GC} {x qual : Str} {st : Stmt} {f : Addr} {fd : FuncData} {N ps : List Str} {k j n : Nat} {b b' : Env → So} {m : List D → M Rs} (F : Fun G.K x qual st f fd) (S : FnScope N ps (defScope st))
    (hb : ∀ (cdv : Value) (A : Around) (outer : List PySem.Env) (s : Shared) (H : Hp) (E : XK), Room k (A.deeper (envOfC qual (defScope st) s.heap.objs.size f cdv)) →
      DSs G W0 (cxOf CX0 P w G.K mg base N qual (defScope st) f cdv A outer s H E).nox (defBody st) b') (e : b' = b) (hm : m = fun ds => pureM (runD N.length b ds)) (hn : ps.length = n) (hj : k + 1 = j) : FnOk P w G.K mg base CX0 j f fd ps (spD G n m) := by
  subst e hm hn hj
  exact fn_D rfl F S hb
end DL
end

section
set_option maxRecDepth 100000
set_option maxHeartbeats 1000000
/-! Further operations; a def that calls itself. -/
namespace DL
open PySem PySem.Spec PyProof.Rows L2
section
variable {G : GC} {W : WX} {X : Cx} {pos : Pos}
theorem un_run {r : V → Hp → VK → Prop} {g : D → M Rs} {A : List Nat} {f1 : Env → M Rs} (hs : UnS G r g) {σ : L2.St} {H : Hp} {Q : VK} (h : tDE G W A (e1 g f1) σ H Q) : tDE G W A f1 σ H fun x H1 => r x H1 Q := by
  obtain ⟨hid, H0, env, R, h⟩ := h
  refine ⟨hid, H0, env, R, ?_⟩
  have h : Post G W hid A env σ H Q (f1 env >>= fun x => pureM (g x.d)) := h
  cases e : f1 env with
  | bad => rw [e] at h; exact h
  | ex x => rw [e] at h; exact h
  | ok x =>
    rw [e] at h
    intro v H1 s1 q1
    have h : Post G W hid A env σ H Q (pureM (g x.d)) := h
    cases e2 : pureM (g x.d) with
    | bad => rw [e2] at h; exact h.elim
    | ex z => exact absurd e2 pureM_ex
    | ok z =>
      rw [e2] at h
      refine hs _ H1 v _ z cut_le (q1.rp R) (pureM_ok e2) Q fun v' H' n => h v' H' (s1.trans n.same) ?_
      have q := NewR.res (R.mono s1) n
      cases z with
      | fz d => exact q
      | ow ds =>
        obtain ⟨p, vs, a, b, c⟩ := q
        exact ⟨p, vs, a, s1.free b, c⟩
/-! x.bit_length() -/
def oBits : D → M Rs | .int i => .ok (.fz (.int (Builtin.Int.intBits i : Nat))) | _ => .bad
theorem us_bits : UnS G (fun x H Q => ∃ i, x = .int i ∧ Q (.int (Builtin.Int.intBits i : Nat)) H) oBits := fun S H x d z hS hx hz Q q => by
  unfold oBits at hz
  split at hz
  · cases hz
    rw [rp_int hx]
    exact ⟨_, rfl, q _ _ (NewR.val hS (.int _))⟩
  · cases hz
theorem d_bits {e : Expr} {apos : Pos} {A : List Nat} {f : Env → M Rs} (h : DE G W X e A f) (hbase : attributeBase e "bit_length" X.env (eval e X.env) = eval e X.env := by rfl) (hline : (apos.endLine == pos.line) = true := by rfl) :
    DE G W X (.Call (.Attribute e "bit_length" apos) [] [] pos) A (e1 oBits f) :=
  ⟨weakE (pe_bits h.pe hbase hline) fun σ H Q q => un_run us_bits q, h.k⟩
end
/-- a def of which nothing is promised yet -/
theorem cal_bad {P : Program} {w : World} {mg : Str → Option Value} {base : Heap} {G : GC} {x : Str} {st : Stmt} {N ps : List Str} {n : Nat} (I : FnIn G.K mg x st ps) (S : FnScope N ps (defScope st)) (hn : ps.length = n) : Cal P w G.K mg base G x 1 n fun _ => .bad := by
  obtain ⟨f, fd, F, hm, hbi⟩ := I.ex
  refine ⟨f, fd, ps, F.ok S (fun vs H Q E h => ?_) (fun cdv A outer s H vs Q E hr h => ?_), hm, F.kp, hbi⟩
  · obtain ⟨hid, ds, hl, _, r, h⟩ := h
    exact h.elim
  · obtain ⟨hid, ds, hl, _, r, h⟩ := h
    exact h.elim
/-- the mirror of a def that calls itself, by the depth of its calls -/
def recM (n : Nat) (b : (List D → M Rs) → Env → So) : Nat → List D → M Rs
  | 0 => fun _ => .bad
  | d+1 => fun ds => pureM (runD n (b (recM n b d)) ds)
theorem cal_rec {P : Program} {w : World} {mg : Str → Option Value} {base : Heap} {G : GC} {x : Str} {st : Stmt} {N ps : List Str} {k n : Nat} {b : (List D → M Rs) → Env → So} (I : FnIn G.K mg x st ps) (S : FnScope N ps (defScope st)) (hn : ps.length = n)
    (step : ∀ (j : Nat) (m : List D → M Rs), k ≤ j → Cal P w G.K mg base G x j n m → ∀ (f : Addr) (cdv : Value) (A : Around) (outer : List PySem.Env) (s : Shared) (H : Hp) (E : XK), Room j (A.deeper (envOfC x (defScope st) s.heap.objs.size f cdv)) →
      ∃ b', DSs G W0 (cxOf CX0 P w G.K mg base N x (defScope st) f cdv A outer s H E).nox (defBody st) b' ∧ b' = b m) (hk : 1 ≤ k) (d : Nat) : Cal P w G.K mg base G x (k + d) n (recM N.length b d) := by
  induction d with
  | zero =>
    obtain ⟨f, fd, ps', F, h⟩ := (cal_bad (P := P) (w := w) (base := base) I S hn).ex
    exact ⟨f, fd, ps', F.mono (by omega), h⟩
  | succ d ih =>
    refine cal_by (k := k + d) (b := b (recM N.length b d)) I S (fun f cdv A outer s H E hr => ?_) rfl rfl hn rfl
    obtain ⟨b', h, e⟩ := step (k + d) _ (by omega) ih f cdv A outer s H E hr
    subst e
    exact h
end DL
end

section
set_option maxRecDepth 100000
set_option maxHeartbeats 4000000
/-! An int in a tuple of ints. -/
namespace DL
open PySem PySem.Spec PyProof.Rows L2
variable {G : GC} {W : WX} {X : Cx} {pos : Pos}
def oInI (neg : Bool) (d e : D) : M Rs := match d, e with
  | .int i, .tup ds => (match toInts ds with | some ns => .ok (.fz (.bl (if neg then !ns.any (fun j => decide (j = i)) else ns.any fun j => decide (j = i)))) | none => .bad)
  | _, _ => .bad
theorem all_flat (ns : List Int) : (ns.map V.int).all flatV = true := by
  induction ns with
  | nil => rfl
  | cons n ns ih => simp only [List.map_cons, List.all_cons, ih, Bool.and_true]; rfl
theorem eqV_ints (j i : Int) : eqV (.int j) (.int i) = decide (j = i) := by
  by_cases h : j = i
  · subst h; simp [eqV]
  · simp [eqV, h]
theorem in_ints (i : Int) (ns : List Int) : inV (.int i) (ns.map V.int) = ns.any fun j => decide (j = i) := by
  unfold inV
  induction ns with
  | nil => rfl
  | cons n ns ih => simp only [List.map_cons, List.any_cons, ih, eqV_ints]
theorem os_inI {neg : Bool} : OpS G (rIn G.K neg) (oInI neg) := fun S H x y d e z hS hx hy hz Q q => by
  unfold oInI at hz
  split at hz
  · split at hz
    · rename_i i ds ns e1
      cases hz
      rw [rp_int hx]
      obtain ⟨a, vs, rfl, ha, ra⟩ := rp_tup hy
      have := toInts_rp ra e1
      subst this
      refine ⟨a, _, rfl, .inr (same_t hS ha), rfl, all_flat ns, ?_⟩
      rw [in_ints]
      exact q _ _ (.val hS (.bl _))
    · cases hz
  · cases hz
theorem t_notInI {a b : Expr} {A B : List Nat} {f1 f2 : Env → M Rs} (h1 : DE G W X a A f1) (h2 : DE G W X b B f2) (hm : behindInMarks .NotIn b = false := by first | exact nomark _ | rfl) : DT G W X (.Compare a [.NotIn] [b] pos) (A ++ B) (tV (e2 (oInI true) f1 f2)) := by
  obtain ⟨K, cl⟩ := G
  have hk : K = X.K := h1.k
  subst hk
  exact dt_cmp op_notIn_seq os_inI h1 h2 hm
theorem t_inI {a b : Expr} {A B : List Nat} {f1 f2 : Env → M Rs} (h1 : DE G W X a A f1) (h2 : DE G W X b B f2) (hm : behindInMarks .In b = false := by first | exact nomark _ | rfl) : DT G W X (.Compare a [.In] [b] pos) (A ++ B) (tV (e2 (oInI false) f1 f2)) := by
  obtain ⟨K, cl⟩ := G
  have hk : K = X.K := h1.k
  subst hk
  exact dt_cmp op_in_seq os_inI h1 h2 hm
end DL
end

section
set_option maxRecDepth 100000
set_option maxHeartbeats 4000000
/-! zip of any number of sequences of one length, each a list or a tuple -/
namespace L2
open PySem PySem.Spec PyProof.Rows
structure Src where
  k : Bool
  it : Addr
  a : Addr
  its : Array Value
abbrev zObj (f0 : Value) (f1 : Bool) (TI TO : Addr) : Obj := { cls := .type "zip", dict := none, data := .fields #[f0, .bool f1, .bool false, .ref TI, .ref TO], slots := #[] }
abbrev tObj (vs : Array Value) : Obj := { cls := .type "tuple", data := .seq vs }
def SrcAt (i : Nat) (h : Heap) (x : Src) : Prop := ItK x.k h x.it x.a i ∧ RwK x.k h x.a x.its
structure ZSep (z TI TO : Addr) (L : List Src) : Prop where
  TIz : TI ≠ z
  TOz : TO ≠ z
  TITO : TI ≠ TO
  out : ∀ x, x ∈ L → x.it ≠ z ∧ x.it ≠ TI ∧ x.it ≠ TO ∧ x.a ≠ z ∧ x.a ≠ TO
  own : ∀ x, x ∈ L → ∀ y, y ∈ L → x.it ≠ y.a
  nd : ∀ (p q : Nat) (x y : Src), L[p]? = some x → L[q]? = some y → x.it = y.it → p = q
theorem srcAt_over {i : Nat} {h h' : Heap} {x : Src} {c : Addr} (s : SrcAt i h x) (hs : Heap.ExtBut c h h') (h1 : x.it ≠ c) (h2 : x.a ≠ c) : SrcAt i h' x :=
  ⟨it_at s.1 fun o e => hs _ _ h1 e, rw_at s.2 fun o e => hs _ _ h2 e⟩
structure LInv (fl : Bool) (h0 : Heap) (z TO : Addr) (zo : Obj) (i : Nat) (L : List Src) (j : Nat) (h : Heap) : Prop where
  sz : h.objs.size = h0.objs.size
  zg : h.get? z = some zo
  to : ∃ vs : Array Value, h.get? TO = some (tObj vs) ∧ vs.size = L.length ∧ (fl = true → ∀ p, p < j → ∀ x, L[p]? = some x → vs[p]? = x.its[i]?)
  old : ∀ p x, L[p]? = some x → p < j → SrcAt (i + 1) h x
  new : ∀ p x, L[p]? = some x → j ≤ p → SrcAt i h x
  kp : ∀ c o, c ≠ z → c ≠ TO → (∀ x, x ∈ L → c ≠ x.it) → h0.get? c = some o → h.get? c = some o
theorem forIn_inv {M : Model} {A : Around} {E : Value → Shared → Prop} {α β : Type} (f : α × Nat → β → Sem (ForInStep β)) (b : β) (I : Nat → Shared → Prop) :
    ∀ (L : List α) (k0 : Nat) (s : Shared), I k0 s → (∀ j x s, L[j]? = some x → I (k0 + j) s → wpAny M A (f (x, k0 + j) b) (fun r s' => r = .yield b ∧ I (k0 + j + 1) s') E s) →
    wpAny M A (forIn (L.zipIdx k0) b f) (fun r s' => r = b ∧ I (k0 + L.length) s') E s
  | [], k0, s, h, _ => by
    simp only [List.zipIdx_nil, List.forIn_nil]
    exact wpAny_pure ⟨rfl, h⟩
  | x :: L, k0, s, h, hs => by
    simp only [List.zipIdx_cons, List.forIn_cons]
    refine wpAny_bind (wpAny_mono (hs 0 x s rfl h) (fun r s' ⟨e, h'⟩ => ?_) fun _ _ e => e)
    subst e
    have ih := forIn_inv f b I L (k0 + 1) s' h' fun j y s hy hi => by
      have e : k0 + 1 + j = k0 + (j + 1) := by omega
      rw [e] at hi ⊢
      exact hs (j + 1) y s (by simpa using hy) hi
    refine wpAny_mono ih (fun r s' ⟨e, h'⟩ => ⟨e, ?_⟩) fun _ _ e => e
    have e : k0 + 1 + L.length = k0 + (x :: L).length := by simp; omega
    rwa [← e]
theorem forIn_inv2 {M : Model} {A : Around} {E : Value → Shared → Prop} {α β : Type} (f : α → β → Sem (ForInStep β)) (I : Nat → β → Shared → Prop) :
    ∀ (L : List α) (k0 : Nat) (b : β) (s : Shared), I k0 b s → (∀ j x b s, L[j]? = some x → I (k0 + j) b s → wpAny M A (f x b) (fun r s' => ∃ b', r = .yield b' ∧ I (k0 + j + 1) b' s') E s) →
    wpAny M A (forIn L b f) (fun r s' => I (k0 + L.length) r s') E s
  | [], k0, b, s, h, _ => by
    simp only [List.forIn_nil]
    exact wpAny_pure h
  | x :: L, k0, b, s, h, hs => by
    simp only [List.forIn_cons]
    refine wpAny_bind (wpAny_mono (hs 0 x b s rfl h) (fun r s' ⟨b', e, h'⟩ => ?_) fun _ _ e => e)
    subst e
    have ih := forIn_inv2 f I L (k0 + 1) b' s' h' fun j y b s hy hi => by
      have e : k0 + 1 + j = k0 + (j + 1) := by omega
      rw [e] at hi ⊢
      exact hs (j + 1) y b s (by simpa using hy) hi
    refine wpAny_mono ih (fun r s' h' => ?_) fun _ _ e => e
    have e : k0 + 1 + L.length = k0 + (x :: L).length := by simp; omega
    rwa [← e]
section
variable {prog : Program} {w : World} {A : Around} {E : Value → Shared → Prop} {s : Shared} {z TI TO : Addr} {L : List Src} {i : Nat}
theorem src_draw (hh : A.handled = none) {x : Src} {Q : Value → Shared → Prop} (S : ZSep z TI TO L) (hx : x ∈ L) (h : SrcAt i s.heap x) (hi : i < x.its.size)
    (hQ : ∀ v h' tk, x.its[i]? = some v → SrcAt (i + 1) h' x → Heap.SameBut x.it s.heap h' → Q v { s with heap := h', toks := tk }) : wpAny (model prog w) A (Builtin.SmallTypes.nextOf (.ref x.it)) Q E s :=
  (rw_draws (prog := prog) (w := w) hh x.it x.a (fun e => S.own x hx x hx e.symm) x.its).item i s Q E hi h hQ
theorem wpAny_alive {M : Model} {a : Addr} {Q : Option Obj → Shared → Prop} (h : Q (s.heap.get? a) s) : wpAny M A (loadIfAlive a) Q E s := fun Γ p hΓ => by
  show Sem.wp _ _ (.loadIfAlive a .pure) _ _ _ _
  rw [Sem.wp_loadIfAlive]
  exact h
theorem zIsFree {f0 : Value} {f1 : Bool} {Q : Bool → Shared → Prop} (hz : s.heap.get? z = some (zObj f0 f1 TI TO)) (h0 : f0 = .none ∨ ∃ T : Nat, f0 = rawInt T)
    (h : ∀ b h' f1', h'.get? z = some (zObj f0 f1' TI TO) → Heap.SameBut z s.heap h' → Q b { s with heap := h' }) : wpAny (model prog w) A (Builtin.SmallTypes.ownedTupleIsFree (.ref z)) Q E s := by
  unfold Builtin.SmallTypes.ownedTupleIsFree
  rcases h0 with rfl | ⟨T, rfl⟩
  · exact wpAny_bind (wpAny_field hz rfl (x := .none) rfl (wpAny_pure (h true s.heap f1 hz (Heap.SameBut.refl _ _))))
  · refine wpAny_bind (wpAny_field hz rfl (x := rawInt T) rfl ?_)
    show wpAny _ _ (loadIfAlive ((T : Int).toNat) >>= _) _ _ _
    rw [Int.toNat_natCast]
    refine wpAny_bind (wpAny_alive ?_)
    cases hT : s.heap.get? T with
    | none => exact wpAny_pure (h true s.heap f1 hz (Heap.SameBut.refl _ _))
    | some oT =>
      simp only [Option.isNone_some, Bool.false_eq_true, if_false]
      refine wpAny_bind (wpAny_field hz rfl (x := .bool f1) rfl ?_)
      cases f1 with
      | true =>
        rw [if_neg (show ¬ ((Value.bool true != Value.bool true) = true) from Bool.false_ne_true)]
        exact wpAny_pure (h false s.heap true hz (Heap.SameBut.refl _ _))
      | false =>
        rw [if_pos (show (Value.bool false != Value.bool true) = true from rfl)]
        exact wpAny_bind (wpAny_setField_rec hz (by simp) fun h₁ hz₁ hs₁ => wpAny_pure (h false h₁ true hz₁ hs₁))
end
end L2
end

section
set_option maxRecDepth 100000
set_option maxHeartbeats 4000000
namespace L2
open PySem PySem.Spec PyProof.Rows
def zrefs (L : List Src) : Array Value := (L.map fun x => Value.ref x.it).toArray
structure ZAt (z TI TO : Addr) (L : List Src) (i : Nat) (h : Heap) : Prop where
  zg : ∃ f0 f1, h.get? z = some (zObj f0 f1 TI TO) ∧ (f0 = .none ∨ ∃ T : Nat, f0 = rawInt T)
  ti : h.get? TI = some (tObj (zrefs L))
  to : ∃ vs : Array Value, h.get? TO = some (tObj vs) ∧ vs.size = L.length
  src : ∀ x, x ∈ L → SrcAt i h x
section
variable {prog : Program} {w : World} {A : Around} {E : Value → Shared → Prop} {s : Shared} {z TI TO : Addr} {L : List Src} {i : Nat}
theorem LInv.start {fl : Bool} {h0 h1 : Heap} {zo : Obj} (S : ZSep z TI TO L) (hz : h1.get? z = some zo) (hs : Heap.SameBut z h0 h1) (to : ∃ vs : Array Value, h0.get? TO = some (tObj vs) ∧ vs.size = L.length) (src : ∀ x, x ∈ L → SrcAt i h0 x) : LInv fl h0 z TO zo i L 0 h1 := by
  obtain ⟨vs, ht, hv⟩ := to
  exact ⟨hs.1, hz, ⟨vs, hs.extBut _ _ S.TOz ht, hv, fun _ p hp => by omega⟩, fun p x _ hp => by omega, fun p x hx _ => srcAt_over (src x (List.mem_of_getElem? hx)) hs.extBut (S.out x (List.mem_of_getElem? hx)).1 (S.out x (List.mem_of_getElem? hx)).2.2.2.1, fun c o cz _ _ e => hs.extBut _ _ cz e⟩
/-- one source drawn, TO not yet written -/
theorem LInv.drawn {fl : Bool} {h0 h h' : Heap} {zo : Obj} {j : Nat} {x : Src} (S : ZSep z TI TO L) (V : LInv fl h0 z TO zo i L j h) (hx : L[j]? = some x) (hs : Heap.SameBut x.it h h') (hn : SrcAt (i + 1) h' x) :
    h'.objs.size = h0.objs.size ∧ h'.get? z = some zo ∧ (∀ p y, L[p]? = some y → p < j + 1 → SrcAt (i + 1) h' y) ∧ (∀ p y, L[p]? = some y → j + 1 ≤ p → SrcAt i h' y) ∧ (∀ c o, c ≠ z → c ≠ TO → (∀ x, x ∈ L → c ≠ x.it) → h0.get? c = some o → h'.get? c = some o) ∧ ∀ vs, h.get? TO = some (tObj vs) → h'.get? TO = some (tObj vs) := by
  have mx := List.mem_of_getElem? hx
  have o := S.out x mx
  refine ⟨hs.1.trans V.sz, hs.extBut _ _ (Ne.symm o.1) V.zg, fun p y hy hp => ?_, fun p y hy hp => ?_, fun c ob cz cT cx e => hs.extBut _ _ (cx x mx) (V.kp c ob cz cT cx e), fun vs e => hs.extBut _ _ (Ne.symm o.2.2.1) e⟩
  · by_cases hpj : p = j
    · subst hpj; rw [hx] at hy; cases hy; exact hn
    · exact srcAt_over (V.old p y hy (by omega)) hs.extBut (fun e => hpj (S.nd p j y x hy hx e)) (Ne.symm (S.own x mx y (List.mem_of_getElem? hy)))
  · exact srcAt_over (V.new p y hy (by omega)) hs.extBut (fun e => by have := S.nd p j y x hy hx e; omega) (Ne.symm (S.own x mx y (List.mem_of_getElem? hy)))
theorem zipN_item {Q : Value → Shared → Prop} (hh : A.handled = none) (S : ZSep z TI TO L) (hne : L ≠ []) (hlen : L.length < 1000) (Z : ZAt z TI TO L i s.heap) (hi : ∀ x, x ∈ L → i < x.its.size)
    (hQ : ∀ (vs : Array Value) h' tk, vs.size = L.length → (∀ (p : Nat) (x : Src), L[p]? = some x → vs[p]? = x.its[i]?) → ZAt z TI TO L (i + 1) h' → h'.get? s.heap.objs.size = some (tObj vs) → h'.objs.size = s.heap.objs.size + 1 →
      (∀ c o, c ≠ z → c ≠ TO → (∀ x, x ∈ L → c ≠ x.it) → s.heap.get? c = some o → h'.get? c = some o) → Q (.ref s.heap.objs.size) { s with heap := h', toks := tk }) :
    wpAny (model prog w) A (Builtin.«zip.__next__» ⟨[.ref z], []⟩) (fun fin s' => ∃ v, fin = .done (.ret v) ∧ Q v s') E s := by
  obtain ⟨hp, g, d, tk0, os⟩ := s
  obtain ⟨⟨f0, f1, hz, hf0⟩, hTI, hTO, hsrc⟩ := Z
  have hTIl : TI < hp.objs.size := Heap.lt_size hTI
  have hzl : z < hp.objs.size := Heap.lt_size hz
  have hTOl : TO < hp.objs.size := by obtain ⟨vs, e, _⟩ := hTO; exact Heap.lt_size e
  have lz : (zrefs L).toList = L.map fun x => Value.ref x.it := by simp [zrefs]
  have zs : (zrefs L).isEmpty = false := by
    cases L with
    | nil => exact absurd rfl hne
    | cons x xs => simp [zrefs]
  have at_z : ∀ (j : Nat) (v : Value), (L.map fun x => Value.ref x.it)[j]? = some v → ∃ x, L[j]? = some x ∧ v = .ref x.it := fun j v e => by
    rw [List.getElem?_map] at e
    cases hL : L[j]? with
    | none => rw [hL] at e; cases e
    | some x => rw [hL] at e; cases e; exact ⟨x, rfl, rfl⟩
  show wpAny _ _ (field (.ref z) 2 >>= _) _ _ _
  refine wpAny_bind (wpAny_field hz rfl (x := .bool false) rfl ?_)
  show wpAny _ _ (field (.ref z) 3 >>= _) _ _ _
  refine wpAny_bind (wpAny_field hz rfl (x := .ref TI) rfl ?_)
  refine wpAny_bind (wpAny_seqItems hTI rfl ?_)
  simp only [zs, Bool.false_eq_true, if_false]
  show wpAny _ _ (Builtin.SmallTypes.ownedTupleIsFree (.ref z) >>= _) _ _ _
  refine wpAny_bind (zIsFree hz hf0 fun b h1 f1' hz1 hs1 => ?_)
  cases b with
  | true =>
    simp only [if_true]
    refine wpAny_bind (wpAny_rule ?_)
    refine wpAny_bind (wpAny_field hz1 rfl (x := .ref TO) rfl ?_)
    refine wpAny_bind (wpAny_setField_rec hz1 (by simp) fun g0 hz0 hs0 => ?_)
    replace hz0 : g0.get? z = some (zObj .ellipsis f1' TI TO) := hz0
    replace hs0 : Heap.SameBut z h1 g0 := hs0
    have hs : Heap.SameBut z hp g0 := ⟨hs0.1.trans hs1.1, fun c cz => (hs0.2 c cz).trans (hs1.2 c cz)⟩
    rw [lz]
    have lt : L.length ≤ sizeLine := by have : sizeLine = 2 ^ 24 := rfl; omega
    refine wpAny_bind (wpAny_mono (forIn_inv _ _ (fun j s' => ∃ h tk, s' = ⟨h, g, d, tk, os⟩ ∧ LInv true hp z TO (zObj .ellipsis f1' TI TO) i L j h) _ 0 _ ⟨g0, tk0, rfl, LInv.start S hz0 hs hTO hsrc⟩ ?_) ?_ fun _ _ e => e)
    · rintro j v s' hv ⟨h, tk, rfl, V⟩
      obtain ⟨x, hx, rfl⟩ := at_z j v hv
      rw [Nat.zero_add] at V ⊢
      have mx := List.mem_of_getElem? hx
      refine wpAny_bind (wpAny_onRaise ?_)
      show wpAny _ _ (Builtin.SmallTypes.nextOf (.ref x.it) >>= _) _ _ _
      refine wpAny_bind (src_draw (i := i) hh S mx (V.new j x hx (Nat.le_refl _)) (hi x mx) fun u h' tk' hu sn hs' => wpAny_pure ?_)
      obtain ⟨e1, e2, e3, e4, e5, e6⟩ := V.drawn S hx hs' sn
      obtain ⟨vs, tv, sv, av⟩ := V.to
      have tv' := e6 vs tv
      refine wpAny_bind (wpAny_seqItems (s := ⟨h', g, d, tk', os⟩) tv' rfl ?_)
      refine wpAny_bind (wpAny_updateSeq (s := ⟨h', g, d, tk', os⟩) tv' rfl ?_ (by rw [sv]; exact lt) (by rw [Array.size_setIfInBounds, sv]; omega))
      refine wpAny_bind (wpAny_letGo (wpAny_pure ⟨rfl, _, _, rfl, ?_⟩))
      have sb : Heap.SameBut TO h' (h'.update TO (Obj.mapSeq fun x_1 => x_1.setIfInBounds j u)) := Heap.SameBut.update ..
      have ov := fun (y : Src) (my : y ∈ L) => S.out y my
      refine ⟨sb.1.trans e1, sb.extBut _ _ (Ne.symm S.TOz) e2, ⟨vs.setIfInBounds j u, ?_, by rw [Array.size_setIfInBounds, sv], fun _ p hp y hy => ?_⟩, fun p y hy hp => ?_, fun p y hy hp => ?_, fun c o cz cT cx e => sb.extBut _ _ cT (e5 c o cz cT cx e)⟩
      · show Heap.get? _ _ = _
        rw [Heap.get?_update_self _ tv' rfl]
        simp [Obj.mapSeq, tObj]
      · by_cases hpj : p = j
        · subst hpj
          rw [hx] at hy
          cases hy
          have : p < vs.size := by rw [sv]; exact (List.getElem?_eq_some_iff.mp hx).1
          rw [Array.getElem?_setIfInBounds_self_of_lt this]
          exact hu.symm
        · rw [Array.getElem?_setIfInBounds_ne (Ne.symm hpj)]
          exact av rfl p (by omega) y hy
      · exact srcAt_over (e3 p y hy hp) sb.extBut (ov y (List.mem_of_getElem? hy)).2.2.1 (ov y (List.mem_of_getElem? hy)).2.2.2.2
      · exact srcAt_over (e4 p y hy hp) sb.extBut (ov y (List.mem_of_getElem? hy)).2.2.1 (ov y (List.mem_of_getElem? hy)).2.2.2.2
    · rintro r s' ⟨rfl, h, tk, rfl, V⟩
      rw [Nat.zero_add, List.length_map] at V
      obtain ⟨vs, tv, sv, av⟩ := V.to
      simp only []
      refine wpAny_bind (wpAny_seqItems (s := ⟨h, g, d, tk, os⟩) tv rfl ?_)
      refine wpAny_bind (wpAny_newTuple ?_ (by rw [Array.length_toList, sv]; exact lt))
      rw [Array.toArray_toList]
      show wpAny _ _ (Builtin.SmallTypes.ownedTupleHandOut (.ref z) (.ref h.objs.size) >>= _) _ _ ⟨h.push (tObj vs), g, d, tk, os⟩
      refine wpAny_bind ?_
      unfold Builtin.SmallTypes.ownedTupleHandOut
      have hz₆ : (h.push (tObj vs)).get? z = some (zObj .ellipsis f1' TI TO) := Heap.get?_push_of_some _ V.zg
      refine wpAny_bind (wpAny_setField_rec hz₆ (by simp) fun h₇ hz₇ hs₇ => ?_)
      replace hz₇ : h₇.get? z = some (zObj (rawInt h.objs.size) f1' TI TO) := hz₇
      refine wpAny_setField_rec hz₇ (by simp) fun h₈ hz₈ hs₈ => ?_
      replace hz₈ : h₈.get? z = some (zObj (rawInt h.objs.size) false TI TO) := hz₈
      replace hs₇ : Heap.SameBut z (h.push (tObj vs)) h₇ := hs₇
      replace hs₈ : Heap.SameBut z h₇ h₈ := hs₈
      have hsz := V.sz
      have up : ∀ c o, c ≠ z → h.get? c = some o → h₈.get? c = some o := fun c o c1 e => hs₈.extBut _ _ c1 (hs₇.extBut _ _ c1 (Heap.get?_push_of_some _ e))
      have hzn : h.objs.size ≠ z := Nat.ne_of_gt (by rw [hsz]; exact hzl)
      have hT₈ : h₈.get? h.objs.size = some (tObj vs) := hs₈.extBut _ _ hzn (hs₇.extBut _ _ hzn (Heap.get?_push_size _ rfl))
      have hz8 : h₈.objs.size = h.objs.size + 1 := by rw [hs₈.1, hs₇.1, Heap.size_push]
      refine wpAny_pure ⟨_, rfl, ?_⟩
      show Q (.ref h.objs.size) ⟨h₈, g, d, tk, os⟩
      rw [hsz] at hT₈ hz8 hz₈ ⊢
      have oldz : ∀ x, x ∈ L → SrcAt (i + 1) h₈ x := fun x mx => by
        obtain ⟨p, hp⟩ := List.mem_iff_getElem?.mp mx
        have hs := V.old p x hp (List.getElem?_eq_some_iff.mp hp).1
        exact ⟨it_at hs.1 fun o e => up _ _ (S.out x mx).1 e, rw_at hs.2 fun o e => up _ _ (S.out x mx).2.2.2.1 e⟩
      exact hQ vs h₈ tk sv (fun p x hx => av rfl p (List.getElem?_eq_some_iff.mp hx).1 x hx)
        ⟨⟨_, _, hz₈, .inr ⟨_, rfl⟩⟩, up _ _ S.TIz (V.kp TI _ S.TIz S.TITO (fun x mx => Ne.symm (S.out x mx).2.1) hTI), ⟨vs, up _ _ S.TOz tv, sv⟩, oldz⟩ hT₈ hz8
        fun c o cz cT cx e => up c o cz (V.kp c o cz cT cx e)
  | false =>
    simp only [Bool.false_eq_true, if_false]
    refine wpAny_bind ?_
    rw [← Array.forIn_toList, lz]
    have hs : Heap.SameBut z hp h1 := hs1
    have lt : L.length ≤ sizeLine := by have : sizeLine = 2 ^ 24 := rfl; omega
    refine wpAny_mono (forIn_inv2 _ (fun j b s' => b.1 = none ∧ b.2.size = j ∧ (∀ (p : Nat) (x : Src), p < j → L[p]? = some x → b.2[p]? = x.its[i]?) ∧ ∃ h tk, s' = ⟨h, g, d, tk, os⟩ ∧ LInv false hp z TO (zObj f0 f1' TI TO) i L j h) _ 0 _ ⟨h1, g, d, tk0, os⟩ ⟨rfl, rfl, fun p x hp => by omega, h1, tk0, rfl, LInv.start S hz1 hs hTO hsrc⟩ ?_) ?_ fun _ _ e => e
    · rintro j v ⟨b1, b2⟩ s' hv ⟨hb1, hb2, hb3, h, tk, rfl, V⟩
      obtain ⟨x, hx, rfl⟩ := at_z j v hv
      replace hb1 : b1 = none := hb1
      subst hb1
      rw [Nat.zero_add] at V hb2 hb3 ⊢
      have mx := List.mem_of_getElem? hx
      refine wpAny_bind (wpAny_holding ?_)
      show wpAny _ _ (Builtin.SmallTypes.nextOf (.ref x.it) >>= _) _ _ _
      refine wpAny_bind (src_draw (i := i) hh S mx (V.new j x hx (Nat.le_refl _)) (hi x mx) fun u h' tk' hu sn hs' => wpAny_pure ?_)
      obtain ⟨e1, e2, e3, e4, e5, e6⟩ := V.drawn S hx hs' sn
      obtain ⟨vs, tv, sv, av⟩ := V.to
      refine wpAny_pure ⟨_, rfl, rfl, by simp; exact hb2, fun p y hp hy => ?_, h', tk', rfl, e1, e2, ⟨vs, e6 vs tv, sv, fun e => by cases e⟩, e3, e4, e5⟩
      by_cases hpj : p = j
      · subst hpj
        rw [hx] at hy
        cases hy
        show (b2.push u)[p]? = _
        rw [Array.getElem?_push, if_pos (by exact hb2.symm)]
        exact hu.symm
      · show (b2.push u)[p]? = _
        have h2 : b2.size = j := hb2
        rw [Array.getElem?_push, if_neg (by omega)]
        exact hb3 p y (by omega) hy
    · rintro ⟨b1, b2⟩ s' ⟨hb1, hb2, hb3, h, tk, rfl, V⟩
      replace hb1 : b1 = none := hb1
      subst hb1
      rw [Nat.zero_add, List.length_map] at V hb2 hb3
      replace hb2 : b2.size = L.length := hb2
      simp only []
      refine wpAny_bind (wpAny_newTuple ?_ (by rw [Array.length_toList, hb2]; exact lt))
      rw [Array.toArray_toList]
      have hsz := V.sz
      refine wpAny_pure ⟨_, rfl, ?_⟩
      show Q (.ref h.objs.size) ⟨h.push (tObj b2), g, d, tk, os⟩
      have up : ∀ c o, h.get? c = some o → (h.push (tObj b2)).get? c = some o := fun c o e => Heap.get?_push_of_some _ e
      have hT₈ : (h.push (tObj b2)).get? h.objs.size = some (tObj b2) := Heap.get?_push_size _ rfl
      have hz8 : (h.push (tObj b2)).objs.size = h.objs.size + 1 := by rw [Heap.size_push]
      have oldz : ∀ x, x ∈ L → SrcAt (i + 1) (h.push (tObj b2)) x := fun x mx => by
        obtain ⟨p, hp⟩ := List.mem_iff_getElem?.mp mx
        have hs := V.old p x hp (List.getElem?_eq_some_iff.mp hp).1
        exact ⟨it_at hs.1 fun o e => up _ _ e, rw_at hs.2 fun o e => up _ _ e⟩
      obtain ⟨vs, tv, sv, av⟩ := V.to
      rw [hsz] at hT₈ hz8 ⊢
      exact hQ b2 _ tk hb2 (fun p x hx => hb3 p x (List.getElem?_eq_some_iff.mp hx).1 hx)
        ⟨⟨_, _, up _ _ V.zg, hf0⟩, up _ _ (V.kp TI _ S.TIz S.TITO (fun x mx => Ne.symm (S.out x mx).2.1) hTI), ⟨vs, up _ _ tv, sv⟩, oldz⟩ hT₈ hz8
        fun c o cz cT cx e => up c o (V.kp c o cz cT cx e)
end
end L2
end

section
set_option maxRecDepth 100000
set_option maxHeartbeats 4000000
namespace L2
open PySem PySem.Spec PyProof.Rows
section
variable {prog : Program} {w : World} {A : Around} {E : Value → Shared → Prop} {s : Shared} {z TI TO : Addr} {L : List Src} {i : Nat}
theorem zipN_end {Q : Fin → Shared → Prop} (hh : A.handled = none) {x : Src} {L' : List Src} (hL : L = x :: L') (S : ZSep z TI TO L) (Z : ZAt z TI TO L i s.heap) (hi : i = x.its.size)
    (hE : ∀ h' tk e, (∀ c o, c ≠ z → c ≠ TO → (∀ x, x ∈ L → c ≠ x.it) → s.heap.get? c = some o → h'.get? c = some o) → (∃ o, h'.get? e = some o ∧ o.cls = .type "StopIteration") → E (.ref e) { s with heap := h', toks := tk }) :
    wpAny (model prog w) A (Builtin.«zip.__next__» ⟨[.ref z], []⟩) Q E s := by
  obtain ⟨hp, g, d, tk0, os⟩ := s
  obtain ⟨⟨f0, f1, hz, hf0⟩, hTI, hTO, hsrc⟩ := Z
  have lz : (zrefs L).toList = .ref x.it :: L'.map fun x => Value.ref x.it := by simp [zrefs, hL]
  have zs : (zrefs L).isEmpty = false := by simp [zrefs, hL]
  have mx : x ∈ L := by rw [hL]; exact List.mem_cons_self ..
  have done : ∀ {A' : Around} (hh' : A'.handled = none) (h1 : Heap) (Q' : Value → Shared → Prop) (E' : Value → Shared → Prop), SrcAt i h1 x → (∀ h' e, Heap.ExtBut x.it h1 h' → (∃ o, h'.get? e = some o ∧ o.cls = .type "StopIteration") → E' (.ref e) ⟨h', g, d, tk0, os⟩) → wpAny (model prog w) A' (Builtin.SmallTypes.nextOf (.ref x.it)) Q' E' ⟨h1, g, d, tk0, os⟩ := fun hh' h1 Q' E' st k =>
    (rw_draws (prog := prog) (w := w) hh' x.it x.a (fun e => S.own x mx x mx e.symm) x.its).done ⟨h1, g, d, tk0, os⟩ Q' E' (by rw [← hi]; exact st) k
  show wpAny _ _ (field (.ref z) 2 >>= _) _ _ _
  refine wpAny_bind (wpAny_field hz rfl (x := .bool false) rfl ?_)
  show wpAny _ _ (field (.ref z) 3 >>= _) _ _ _
  refine wpAny_bind (wpAny_field hz rfl (x := .ref TI) rfl ?_)
  refine wpAny_bind (wpAny_seqItems hTI rfl ?_)
  simp only [zs, Bool.false_eq_true, if_false]
  show wpAny _ _ (Builtin.SmallTypes.ownedTupleIsFree (.ref z) >>= _) _ _ _
  refine wpAny_bind (zIsFree hz hf0 fun b h1 f1' hz1 hs1 => ?_)
  cases b with
  | true =>
    simp only [if_true]
    refine wpAny_bind (wpAny_rule ?_)
    refine wpAny_bind (wpAny_field hz1 rfl (x := .ref TO) rfl ?_)
    refine wpAny_bind (wpAny_setField_rec hz1 (by simp) fun g0 hz0 hs0 => ?_)
    replace hz0 : g0.get? z = some (zObj .ellipsis f1' TI TO) := hz0
    replace hs0 : Heap.SameBut z h1 g0 := hs0
    have hs : Heap.SameBut z hp g0 := ⟨hs0.1.trans hs1.1, fun c cz => (hs0.2 c cz).trans (hs1.2 c cz)⟩
    rw [lz]
    simp only [List.zipIdx_cons, List.forIn_cons]
    refine wpAny_bind (wpAny_bind (wpAny_bind (wpAny_onRaise ?_)))
    show wpAny _ _ (Builtin.SmallTypes.nextOf (.ref x.it) >>= _) _ _ _
    have st := srcAt_over (hsrc x mx) hs.extBut (S.out x mx).1 (S.out x mx).2.2.2.1
    refine wpAny_bind (done hh g0 _ _ st fun q e hq he => ?_)
    obtain ⟨oe, hoe, hce⟩ := he
    have hzq : q.get? z = some (zObj .ellipsis f1' TI TO) := hq _ _ (Ne.symm (S.out x mx).1) hz0
    have hez : e ≠ z := fun x => by subst x; rw [hzq] at hoe; cases hoe; simp at hce
    refine wpAny_setField_rec (s := ⟨q, g, d, tk0, os⟩) hzq (by simp) fun q' _ hq' => ?_
    replace hq' : Heap.SameBut z q q' := hq'
    exact hE q' tk0 e (fun c o cz cT cx e => hq'.extBut _ _ cz (hq _ _ (cx x mx) (hs.extBut _ _ cz e))) ⟨oe, hq'.extBut _ _ hez hoe, hce⟩
  | false =>
    simp only [Bool.false_eq_true, if_false]
    refine wpAny_bind ?_
    rw [← Array.forIn_toList, lz]
    simp only [List.forIn_cons]
    refine wpAny_bind (wpAny_bind (wpAny_holding ?_))
    show wpAny _ _ (Builtin.SmallTypes.nextOf (.ref x.it) >>= _) _ _ _
    have st := srcAt_over (hsrc x mx) hs1.extBut (S.out x mx).1 (S.out x mx).2.2.2.1
    refine wpAny_bind (done hh h1 _ _ st fun q e hq he => ?_)
    exact hE q tk0 e (fun c o cz cT cx e => hq _ _ (cx x mx) (hs1.extBut _ _ cz e)) he
theorem pyNext_zipN_item {Q : Option Value → Shared → Prop} (hh : A.in1.handled = none) (S : ZSep z TI TO L) (hne : L ≠ []) (hlen : L.length < 1000) (Z : ZAt z TI TO L i s.heap) (hi : ∀ x, x ∈ L → i < x.its.size)
    (hQ : ∀ (vs : Array Value) h' tk, vs.size = L.length → (∀ (p : Nat) (x : Src), L[p]? = some x → vs[p]? = x.its[i]?) → ZAt z TI TO L (i + 1) h' → h'.get? s.heap.objs.size = some (tObj vs) → h'.objs.size = s.heap.objs.size + 1 →
      (∀ c o, c ≠ z → c ≠ TO → (∀ x, x ∈ L → c ≠ x.it) → s.heap.get? c = some o → h'.get? c = some o) → Q (some (.ref s.heap.objs.size)) { s with heap := h', toks := tk }) :
    wpAny (model prog w) A (pyNext (.ref z)) Q E s := by
  obtain ⟨f0, f1, hz, _⟩ := Z.zg
  have hT : s.TypeIs (.ref z) "zip" := ⟨_, hz, rfl⟩
  unfold pyNext
  exact wpAny_bind (wpAny_attempt (wpAny_callSpecial?_slot (name := Str.ofString "__next__") hT F.slot_zip_next
    (wpAny_call_entry F.slot_zip_next hT F.entry_zip_next
      (zipN_item hh S hne hlen Z hi fun vs h' tk a b c d e f => wpAny_pure (hQ vs h' tk a b c d e f)) (F.args_zip_next_1 _))))
theorem pyNext_zipN_end {Q : Option Value → Shared → Prop} (hh : A.in1.handled = none) {x : Src} {L' : List Src} (hL : L = x :: L') (S : ZSep z TI TO L) (Z : ZAt z TI TO L i s.heap) (hi : i = x.its.size)
    (hQ : ∀ h' tk, (∀ c o, c ≠ z → c ≠ TO → (∀ x, x ∈ L → c ≠ x.it) → s.heap.get? c = some o → h'.get? c = some o) → Q none { s with heap := h', toks := tk }) : wpAny (model prog w) A (pyNext (.ref z)) Q E s := by
  obtain ⟨f0, f1, hz, _⟩ := Z.zg
  have hT : s.TypeIs (.ref z) "zip" := ⟨_, hz, rfl⟩
  unfold pyNext
  refine wpAny_bind (wpAny_attempt (wpAny_callSpecial?_slot (name := Str.ofString "__next__") hT F.slot_zip_next
    (wpAny_call_entry F.slot_zip_next hT F.entry_zip_next (zipN_end hh hL S Z hi fun h' tk e hk he => ?_) (F.args_zip_next_1 _))))
  obtain ⟨o, ho, hc⟩ := he
  refine wpAny_bind (wpAny_isInstance (T := "StopIteration") (b := true) ⟨o, ho, hc⟩ isSubtype_stop ?_)
  exact wpAny_pure (hQ _ _ hk)
end
end L2
end

section
set_option maxRecDepth 100000
set_option maxHeartbeats 4000000
namespace L2
open PySem PySem.Spec PyProof.Rows
structure Sq0 where
  k : Bool
  a : Addr
  its : Array Value
def zits (n0 n : Nat) : List Value := (List.range n).map fun p => Value.ref (n0 + p)
theorem zip_checks (vs : List Value) (h1 : 1 ≤ vs.length) (h2 : vs.length ≤ 5) : checkTypeCall "zip" ⟨vs, []⟩ = pure () ∧ checkBuiltinCall "zip.__new__" ⟨.type "zip" :: vs, []⟩ = pure () ∧ ∀ obj, argsOk "object.__init__" ⟨obj :: vs, []⟩ := by
  match vs, h1, h2 with
  | [a], _, _ => exact ⟨by kernel_rfl, by kernel_rfl, fun obj => by unfold argsOk; kernel_rfl⟩
  | [a, b], _, _ => exact ⟨by kernel_rfl, by kernel_rfl, fun obj => by unfold argsOk; kernel_rfl⟩
  | [a, b, c], _, _ => exact ⟨by kernel_rfl, by kernel_rfl, fun obj => by unfold argsOk; kernel_rfl⟩
  | [a, b, c, d], _, _ => exact ⟨by kernel_rfl, by kernel_rfl, fun obj => by unfold argsOk; kernel_rfl⟩
  | [a, b, c, d, e], _, _ => exact ⟨by kernel_rfl, by kernel_rfl, fun obj => by unfold argsOk; kernel_rfl⟩
  | _ :: _ :: _ :: _ :: _ :: _ :: _, _, h => simp at h
structure ZNew (h0 : Heap) (L : List Sq0) (h : Heap) : Prop where
  sz : h.objs.size = h0.objs.size + L.length + 3
  it : ∀ p y, L[p]? = some y → h.get? (h0.objs.size + p) = some (itObj y.k y.a)
  ti : h.get? (h0.objs.size + L.length) = some (tObj (zits h0.objs.size L.length).toArray)
  to : ∃ vs : Array Value, h.get? (h0.objs.size + L.length + 1) = some (tObj vs) ∧ vs.size = L.length
  zg : h.get? (h0.objs.size + L.length + 2) = some (zObj .none false (h0.objs.size + L.length) (h0.objs.size + L.length + 1))
  kp : ∀ c o, h0.get? c = some o → h.get? c = some o
theorem iterAll_inv {prog : Program} {w : World} {A : Around} {E : Value → Shared → Prop} {hp : Heap} {g d tk os} (L : List Sq0) {Q : List Value → Shared → Prop} (hr : ∀ y, y ∈ L → RwK y.k hp y.a y.its)
    (hQ : ∀ h : Heap, h.objs.size = hp.objs.size + L.length → (∀ p y, L[p]? = some y → h.get? (hp.objs.size + p) = some (itObj y.k y.a)) → (∀ c o, hp.get? c = some o → h.get? c = some o) → Q (zits hp.objs.size L.length) ⟨h, g, d, tk, os⟩) :
    wpAny (model prog w) A (Builtin.SmallTypes.iterAll (L.map fun y => .ref y.a)) Q E ⟨hp, g, d, tk, os⟩ := by
  unfold Builtin.SmallTypes.iterAll
  refine wpAny_bind (wpAny_mono (forIn_inv2 _ (fun j b s' => ∃ h : Heap, s' = ⟨h, g, d, tk, os⟩ ∧ h.objs.size = hp.objs.size + j ∧ b = (zits hp.objs.size j).toArray ∧ (∀ (p : Nat) (y : Sq0), L[p]? = some y → p < j → h.get? (hp.objs.size + p) = some (itObj y.k y.a)) ∧ ∀ c o, hp.get? c = some o → h.get? c = some o) _ 0 _ ⟨hp, g, d, tk, os⟩ ⟨hp, rfl, rfl, rfl, fun p y _ hp => by omega, fun c o e => e⟩ ?_) ?_ fun _ _ e => e)
  · rintro j v b s' hv ⟨h, rfl, hz, rfl, h1, h2⟩
    rw [Nat.zero_add] at hz h1 ⊢
    rw [List.getElem?_map] at hv
    cases hL : L[j]? with
    | none => rw [hL] at hv; cases hv
    | some y =>
      rw [hL] at hv
      cases hv
      have my := List.mem_of_getElem? hL
      refine wpAny_bind (wpAny_holding ((rw_begins y.k y.a y.its).iter _ _ _ _ ⟨h, g, d, tk, os⟩ _ (rw_at (hr y my) (fun o e => h2 _ _ e)) ?_))
      have new : (h.push (itObj y.k y.a)).get? h.objs.size = some (itObj y.k y.a) := Heap.get?_push_size _ (rw_begins y.k y.a y.its).free
      refine wpAny_pure ⟨_, rfl, _, rfl, by rw [Heap.size_push, hz]; omega, ?_, fun p y' hy hp => ?_, fun c o e => Heap.get?_push_of_some _ (h2 c o e)⟩
      · show _ = (zits hp.objs.size (j + 1)).toArray
        unfold zits
        rw [List.range_succ, List.map_append]
        show _ = (_ ++ [Value.ref (hp.objs.size + j)] : List Value).toArray
        rw [← hz]
        simp
      · by_cases hpj : p = j
        · subst hpj
          rw [hL] at hy
          cases hy
          rw [← hz]
          exact new
        · exact Heap.get?_push_of_some _ (h1 p y' hy (by omega))
  · rintro b s' ⟨h, rfl, hz, rfl, h1, h2⟩
    rw [Nat.zero_add, List.length_map] at hz h1
    refine wpAny_pure ?_
    rw [Nat.zero_add, List.length_map]
    exact hQ h hz (fun p y hy => h1 p y hy (List.getElem?_eq_some_iff.mp hy).1) h2
theorem meets_zip_newN (L : List Sq0) (hn : L.length < 1000) : Meets (Builtin.«zip.__new__» ⟨.type "zip" :: L.map fun y => .ref y.a, []⟩) (fun _ R s => (∀ y, y ∈ L → RwK y.k s.heap y.a y.its) ∧ ∀ h', ZNew s.heap L h' → R (.ok (.ret (.ref (s.heap.objs.size + L.length + 2)))) { s with heap := h' }) :=
  .of_wp fun prog w A R s h => by
    obtain ⟨hp, g, d, tk, os⟩ := s
    obtain ⟨hr, h⟩ := h
    have lt : L.length ≤ sizeLine := by have : sizeLine = 2 ^ 24 := rfl; omega
    have hsub := sub_zip
    unfold Builtin.«zip.__new__»
    have nc : Builtin.SmallTypes.newClass "zip" ⟨.type "zip" :: L.map fun y => .ref y.a, []⟩ = pure (.type "zip", L.map fun y => .ref y.a) := by
      unfold Builtin.SmallTypes.newClass
      simp [isType, hsub]
    rw [nc]
    refine wpAny_bind (wpAny_pure ?_)
    show wpAny _ _ (Builtin.SmallTypes.iterAll _ >>= _) _ _ _
    refine wpAny_bind (iterAll_inv L hr fun h1 hz1 hi1 hk1 => ?_)
    have lz : (zits hp.objs.size L.length).length = L.length := by simp [zits]
    refine wpAny_bind (wpAny_newTuple ?_ (by rw [lz]; exact lt))
    refine wpAny_bind (wpAny_newTuple ?_ (by rw [List.length_map, lz]; exact lt))
    have e2 : (h1.push (tObj (zits hp.objs.size L.length).toArray)).objs.size = hp.objs.size + L.length + 1 := by rw [Heap.size_push, hz1]
    refine wpAny_bind ?_
    unfold Builtin.SmallTypes.newRecord
    simp only []
    refine wpAny_newObj_type ?_ (by show 5 ≤ sizeLine + 2; decide)
    refine wpAny_pure ⟨_, rfl, ?_⟩
    have e3 : ((h1.push (tObj (zits hp.objs.size L.length).toArray)).push (tObj ((zits hp.objs.size L.length).map fun _ => Value.none).toArray)).objs.size = hp.objs.size + L.length + 2 := by rw [Heap.size_push, e2]
    show R (.ok (.ret (.ref ((h1.push (tObj (zits hp.objs.size L.length).toArray)).push (tObj ((zits hp.objs.size L.length).map fun _ => Value.none).toArray)).objs.size))) _
    rw [e3]
    refine h _ ⟨?_, fun p y hy => ?_, ?_, ⟨((zits hp.objs.size L.length).map fun _ => Value.none).toArray, ?_, ?_⟩, ?_, fun c o e => ?_⟩
    · show (Heap.push _ _).objs.size = _
      rw [Heap.size_push, e3]
    · exact Heap.get?_push_of_some _ (Heap.get?_push_of_some _ (Heap.get?_push_of_some _ (hi1 p y hy)))
    · refine Heap.get?_push_of_some _ (Heap.get?_push_of_some _ ?_)
      show (h1.push _).get? (hp.objs.size + L.length) = _
      rw [← hz1]
      exact Heap.get?_push_size _ rfl
    · refine Heap.get?_push_of_some _ ?_
      show (Heap.push _ _).get? (hp.objs.size + L.length + 1) = _
      rw [← e2]
      exact Heap.get?_push_size _ rfl
    · simp [lz]
    · show (Heap.push _ _).get? (hp.objs.size + L.length + 2) = _
      rw [← e3]
      have := Heap.get?_push_size ((h1.push (tObj (zits hp.objs.size L.length).toArray)).push (tObj ((zits hp.objs.size L.length).map fun _ => Value.none).toArray)) (o := { cls := .type "zip", dict := none, data := .fields (Builtin.SmallTypes.ownedTupleFields ++ [Value.bool false, .ref h1.objs.size, .ref (h1.push (tObj (zits hp.objs.size L.length).toArray)).objs.size]).toArray }) rfl
      refine this.trans ?_
      show some (zObj .none false h1.objs.size (h1.push (tObj (zits hp.objs.size L.length).toArray)).objs.size) = some (zObj .none false (hp.objs.size + L.length) (hp.objs.size + L.length + 1))
      rw [e2, hz1]
    · exact Heap.get?_push_of_some _ (Heap.get?_push_of_some _ (Heap.get?_push_of_some _ (hk1 c o e)))
section
variable {prog : Program} {w : World} {A : Around} {E : Value → Shared → Prop} {s : Shared}
theorem zipN_call (L : List Sq0) {Q : Value → Shared → Prop} (h1 : 1 ≤ L.length) (h2 : L.length ≤ 5) (hr : ∀ y, y ∈ L → RwK y.k s.heap y.a y.its) (h : ∀ h', ZNew s.heap L h' → Q (.ref (s.heap.objs.size + L.length + 2)) { s with heap := h' }) :
    wpAny (model prog w) A (call (.type "zip") (L.map fun y => .ref y.a)) Q E s := by
  obtain ⟨c1, c2, c3⟩ := zip_checks (L.map fun y => .ref y.a) (by simpa using h1) (by simpa using h2)
  exact callType_new F.called_zip (by decide) c1 c2 c3 F.entry_zip_new (meets_zip_newN L (by omega)) ⟨hr, fun h' z => ⟨⟨_, z.zg, rfl⟩, h h' z⟩⟩
end
end L2
end

section
set_option maxRecDepth 100000
set_option maxHeartbeats 4000000
namespace L2
open PySem PySem.Spec PyProof.Rows
theorem callWith_typeS {M : Model} {A : Around} {E : Value → Shared → Prop} {s : Shared} {env : Env} {pos p : Pos} {T : String} {e : Expr} {Q : Value → Shared → Prop}
    (h : wpAny M A (eval e env) (fun v s₁ => PySem.W.StarOf M A E v (fun vs s₂ => wpAny M A (call (.type T) vs) Q E s₂) s₁) E s)
    (he : starEach [.Starred e p] env = [(true, eval e env)] := by rfl) : wpAny M A (callWith pos (.type T) [] (backTo pos (starEach [.Starred e p] env)) []) Q E s := by
  rw [he]
  unfold callWith
  refine wpAny_bind (wpAny_holding (wpAny_mono (PySem.W.ks_lone (Q := fun a s₂ => wpAny M A (call (.type T) ([] ++ a.pos) a.kw) Q E s₂) h) (fun a s₁ h₁ => wpAny_bind (wpAny_standAt ?_)) fun _ _ x => x))
  refine wpAny_bind (wpAny_pure ?_)
  refine wpAny_bind (wpAny_mono (wpAny_operating h₁) (fun r s₂ hr => wpAny_bind (wpAny_holding (wpAny_point (wpAny_pure hr)))) fun _ _ x => x)
end L2
namespace L2
open PySem PySem.Spec PyProof.Rows
structure ZB where
  k : Bool
  it : Addr
  a : Addr
def Itzn (K : PySem.W.Frag) (L : List (Bool × Addr)) : It :=
  ⟨fun i H => ∀ y, y ∈ L → ∃ xs x, SqK y.1 K H y.2 xs ∧ xs[i]? = some x,
    fun i H v H' => ∃ T xs, v = .ref T ∧ H T = none ∧ H' = upd H T (.tup xs) ∧ xs.length = L.length ∧ ∀ (p : Nat) y ys, L[p]? = some y → SqK y.1 K H y.2 ys → xs[p]? = ys[i]?,
    fun i H => (∀ y, y ∈ L → ∃ xs : List V, SqK y.1 K H y.2 xs) ∧ ∃ y L', L = y :: L' ∧ ∃ xs : List V, SqK y.1 K H y.2 xs ∧ i = xs.length⟩
structure ZTn (B : List ZB) (z TI TO : Addr) (i : Nat) (h : Heap) : Prop where
  zg : ∃ f0 f1, h.get? z = some (zObj f0 f1 TI TO) ∧ (f0 = .none ∨ ∃ T : Nat, f0 = rawInt T)
  ti : h.get? TI = some (tObj (B.map fun b => Value.ref b.it).toArray)
  to : ∃ vs : Array Value, h.get? TO = some (tObj vs) ∧ vs.size = B.length
  it : ∀ b, b ∈ B → ItK b.k h b.it b.a i
structure BSep (z TI TO : Addr) (B : List ZB) : Prop where
  TIz : TI ≠ z
  TOz : TO ≠ z
  TITO : TI ≠ TO
  out : ∀ x, x ∈ B → x.it ≠ z ∧ x.it ≠ TI ∧ x.it ≠ TO ∧ x.a ≠ z ∧ x.a ≠ TO
  own : ∀ x, x ∈ B → ∀ y, y ∈ B → x.it ≠ y.a
  nd : ∀ (p q : Nat) (x y : ZB), B[p]? = some x → B[q]? = some y → x.it = y.it → p = q
theorem znVals : ∀ {xs : List V} {us : List Value}, xs.length = us.length → (∀ (p : Nat) x u, xs[p]? = some x → us[p]? = some u → RelV x u) → Vals xs us
  | [], [], _, _ => .nil
  | x :: xs, u :: us, hl, h => .cons (h 0 x u rfl rfl) (znVals (by simpa using hl) fun p y v hy hv => h (p + 1) y v (by simpa using hy) (by simpa using hv))
  | [], _ :: _, hl, _ => by simp at hl
  | _ :: _, [], hl, _ => by simp at hl
theorem srcs_of {K : PySem.W.Frag} {H : Hp} {X : Cx} {pins : List (Addr × Obj)} {σ : St} {s : Shared} {i : Nat} {z TI TO : Addr} {B : List ZB} (hK : X.K = K) (I : Inv X pins σ H s) (S : BSep z TI TO B) (Z : ZTn B z TI TO i s.heap) (hq : ∀ b, b ∈ B → ∃ xs, SqK b.k K H b.a xs) :
    ∃ F : ZB → Array Value, (∀ b, b ∈ B → ∀ xs, SqK b.k K H b.a xs → Vals xs (F b).toList) ∧ ZSep z TI TO (B.map fun b => ⟨b.k, b.it, b.a, F b⟩) ∧ ZAt z TI TO (B.map fun b => ⟨b.k, b.it, b.a, F b⟩) i s.heap := by
  subst hK
  have : ∀ b : ZB, ∃ its : Array Value, b ∈ B → (∀ xs, SqK b.k X.K H b.a xs → Vals xs its.toList) ∧ RwK b.k s.heap b.a its := fun b => by
    by_cases hb : b ∈ B
    · obtain ⟨xs, hx⟩ := hq b hb
      obtain ⟨its, rv, p⟩ := I.seqK hx
      refine ⟨its.toArray, fun _ => ⟨fun ys hy => ?_, p⟩⟩
      rw [I.seqK_inj hy hx]
      exact rv
    · exact ⟨#[], fun h => absurd h hb⟩
  obtain ⟨F, hF⟩ := Classical.axiomOfChoice this
  have mem : ∀ x : Src, x ∈ (B.map fun b => (⟨b.k, b.it, b.a, F b⟩ : Src)) → ∃ b, b ∈ B ∧ x = ⟨b.k, b.it, b.a, F b⟩ := fun x hx => by
    obtain ⟨b, hb, e⟩ := List.mem_map.mp hx
    exact ⟨b, hb, e.symm⟩
  refine ⟨F, fun b hb => (hF b hb).1, ⟨S.TIz, S.TOz, S.TITO, fun x hx => ?_, fun x hx y hy => ?_, fun p q x y hx hy e => ?_⟩, ⟨Z.zg, ?_, ?_, fun x hx => ?_⟩⟩
  · obtain ⟨b, hb, rfl⟩ := mem x hx; exact S.out b hb
  · obtain ⟨b, hb, rfl⟩ := mem x hx
    obtain ⟨c, hc, rfl⟩ := mem y hy
    exact S.own b hb c hc
  · rw [List.getElem?_map] at hx hy
    cases h1 : B[p]? with
    | none => rw [h1] at hx; cases hx
    | some b =>
      cases h2 : B[q]? with
      | none => rw [h2] at hy; cases hy
      | some c =>
        rw [h1] at hx; rw [h2] at hy
        cases hx; cases hy
        exact S.nd p q b c h1 h2 e
  · have : zrefs (B.map fun b => (⟨b.k, b.it, b.a, F b⟩ : Src)) = (B.map fun b => Value.ref b.it).toArray := by simp [zrefs]
    rw [this]; exact Z.ti
  · obtain ⟨vs, h1, h2⟩ := Z.to
    exact ⟨vs, h1, by simpa using h2⟩
  · obtain ⟨b, hb, rfl⟩ := mem x hx
    exact ⟨Z.it b hb, (hF b hb).2⟩
theorem turn_n {P : Program} {w : World} {K : PySem.W.Frag} {nm : Str} {np : Pos} {z TI TO : Addr} {B : List ZB} (S : BSep z TI TO B) (hne : B ≠ []) (hlen : B.length < 1000) :
    Turn P w K (.Name nm np) (Itzn K (B.map fun b => (b.k, b.a))) (z :: TI :: TO :: B.map ZB.it) z (ZTn B z TI TO) where
  mem := List.mem_cons_self ..
  obj := fun i h Z c hc => by
    obtain ⟨f0, f1, hz, _⟩ := Z.zg
    obtain ⟨vs, ht, _⟩ := Z.to
    simp only [List.mem_cons, List.mem_map] at hc
    rcases hc with rfl | rfl | rfl | ⟨b, hb, rfl⟩
    · exact ⟨_, hz, fun v q => nomatch q⟩
    · exact ⟨_, Z.ti, fun v q => nomatch q⟩
    · exact ⟨_, ht, fun v q => nomatch q⟩
    · exact it_obj (Z.it b hb)
  keep := fun i h h' Z kp => by
    obtain ⟨f0, f1, hz, hf⟩ := Z.zg
    obtain ⟨vs, ht, hv⟩ := Z.to
    exact ⟨⟨f0, f1, kp z (by simp) _ hz, hf⟩, kp TI (by simp) _ Z.ti, ⟨vs, kp TO (by simp) _ ht, hv⟩, fun b hb => it_at (Z.it b hb) fun o q => kp b.it (by simp only [List.mem_cons, List.mem_map]; exact .inr (.inr (.inr ⟨b, hb, rfl⟩))) o q⟩
  item := by
    intro X hP hw hK hc i pins s σ H E I hf Z hg
    subst hP hw
    have hg' : ∀ b, b ∈ B → ∃ xs x, SqK b.k K H b.a xs ∧ xs[i]? = some x := fun b hb => hg (b.k, b.a) (List.mem_map.mpr ⟨b, hb, rfl⟩)
    obtain ⟨F, hF, ZS, ZA⟩ := srcs_of hK I S Z fun b hb => let ⟨xs, x, h, _⟩ := hg' b hb; ⟨xs, h⟩
    have hh : X.A.in1.handled = none := I.ok.hd hc
    have hzl : z < s.heap.objs.size := by obtain ⟨_, _, e, _⟩ := Z.zg; exact Heap.lt_size e
    have : ∀ b : ZB, ∃ x : V, b ∈ B → ∃ xs, SqK b.k K H b.a xs ∧ xs[i]? = some x := fun b => by
      by_cases hb : b ∈ B
      · obtain ⟨xs, x, h1, h2⟩ := hg' b hb
        exact ⟨x, fun _ => ⟨xs, h1, h2⟩⟩
      · exact ⟨.non, fun h => absurd h hb⟩
    obtain ⟨G, hG⟩ := Classical.axiomOfChoice this
    have rel : ∀ b, b ∈ B → ∃ u, (F b)[i]? = some u ∧ RelV (G b) u := fun b hb => by
      obtain ⟨xs, h1, h2⟩ := hG b hb
      obtain ⟨u, hu, ru⟩ := (hF b hb xs h1).get h2
      exact ⟨u, by simpa using hu, ru⟩
    refine pyNext_zipN_item hh ZS (by simpa using hne) (by simpa using hlen) ZA (fun x hx => ?_) fun vs h' tk sv av Z' hT hsz kp => ?_
    · obtain ⟨b, hb, rfl⟩ := List.mem_map.mp hx
      obtain ⟨u, hu, _⟩ := rel b hb
      exact (Array.getElem?_eq_some_iff.mp hu).1
    · have sv' : vs.size = B.length := by simpa using sv
      refine ⟨_, rfl, ?_⟩
      show wpAny _ _ (pure () : Sem Unit) _ _ _
      refine wpAny_pure ?_
      have vv : Vals (B.map G) vs.toList := znVals (by simp [sv']) fun p x u hx hu => by
        rw [List.getElem?_map] at hx
        cases hb : B[p]? with
        | none => rw [hb] at hx; cases hx
        | some b =>
          rw [hb] at hx
          cases hx
          have e := av p ⟨b.k, b.it, b.a, F b⟩ (by simp [hb])
          obtain ⟨u', hu', ru⟩ := rel b (List.mem_of_getElem? hb)
          rw [Array.getElem?_toList] at hu
          rw [hu] at e
          have e : some u = (F b)[i]? := e
          rw [hu'] at e
          cases e
          exact ru
      have new : ObjOk X.prog X.w (upd H s.heap.objs.size (.tup (B.map G))) h' s.heap.objs.size (.tup (B.map G)) :=
        ⟨by show (B.map G).length ≤ sizeLine; have : sizeLine = 2 ^ 24 := rfl; simp; omega, vs.toList, vv, ⟨tObj vs, hT, rfl, _, by show Data.seq vs = Data.seq vs.toList.toArray; rw [Array.toArray_toList]⟩⟩
      have I1 : Inv X pins σ (upd H s.heap.objs.size (.tup (B.map G))) { s with heap := h', toks := tk } :=
        I.turnedNew (t' := tk) (ch := z :: TI :: TO :: B.map ZB.it) (fun c o hb q => by
          simp only [List.mem_cons, not_or] at hb
          exact kp c o hb.1 hb.2.2.1 (fun x hx e => hb.2.2.2 (by obtain ⟨b, hb', rfl⟩ := List.mem_map.mp hx; exact List.mem_map.mpr ⟨b, hb', e.symm⟩)) q) hf (Nat.le_refl _) new
      refine ⟨.ref s.heap.objs.size, _, I1, rfl, ⟨_, B.map G, rfl, I.hok.fresh (Nat.le_refl _), rfl, by simp, fun p y ys hy hys => ?_⟩, ⟨Z'.zg, ?_, ?_, fun b hb => ?_⟩, fun c hcm => ?_⟩
      · rw [List.getElem?_map] at hy ⊢
        cases hb : B[p]? with
        | none => rw [hb] at hy; cases hy
        | some b =>
          rw [hb] at hy
          cases hy
          obtain ⟨xs, h1, h2⟩ := hG b (List.mem_of_getElem? hb)
          have e : ys = xs := by subst hK; exact I.seqK_inj hys h1
          rw [e, h2]
          rfl
      · have := Z'.ti
        have e : zrefs (B.map fun b => (⟨b.k, b.it, b.a, F b⟩ : Src)) = (B.map fun b => Value.ref b.it).toArray := by simp [zrefs]
        rw [e] at this
        exact this
      · obtain ⟨vs', h1, h2⟩ := Z'.to
        exact ⟨vs', h1, by simpa using h2⟩
      · exact (Z'.src ⟨b.k, b.it, b.a, F b⟩ (List.mem_map.mpr ⟨b, hb, rfl⟩)).1
      · have hlt : c < s.heap.objs.size := by
          have Z1 := Z.ti
          obtain ⟨vs', Z2, _⟩ := Z.to
          simp only [List.mem_cons, List.mem_map] at hcm
          rcases hcm with rfl | rfl | rfl | ⟨b, hb, rfl⟩
          · exact hzl
          · exact Heap.lt_size Z1
          · exact Heap.lt_size Z2
          · obtain ⟨o, e, _⟩ := it_obj (Z.it b hb)
            exact Heap.lt_size e
        rw [upd_ne (Nat.ne_of_lt hlt)]
        exact (hf c hcm).1
  done := by
    intro X hP hw hK hc i pins s σ H E I hf Z hg
    subst hP hw
    obtain ⟨hq, y, L', hL, xs, hx, hi⟩ := hg
    obtain ⟨F, hF, ZS, ZA⟩ := srcs_of hK I S Z fun b hb => hq (b.k, b.a) (List.mem_map.mpr ⟨b, hb, rfl⟩)
    have hh : X.A.in1.handled = none := I.ok.hd hc
    cases B with
    | nil => exact absurd rfl hne
    | cons b B' =>
      rw [List.map_cons] at hL
      injection hL with e1 e2
      subst e1
      have n1 := (hF b (List.mem_cons_self ..) xs hx).length
      refine pyNext_zipN_end (x := ⟨b.k, b.it, b.a, F b⟩) (L' := B'.map fun b => ⟨b.k, b.it, b.a, F b⟩) hh rfl ZS ZA ?_ fun h' tk kp => ?_
      · rw [hi, n1]
        show _ = (F b).size
        simp
      · exact ⟨rfl, I.turnedL (t' := tk) (ch := z :: TI :: TO :: (b :: B').map ZB.it) (fun c o hb q => by
          simp only [List.mem_cons, not_or] at hb
          exact kp c o hb.1 hb.2.2.1 (fun x hx e => by
            obtain ⟨b', hb', rfl⟩ := List.mem_map.mp (show x ∈ (b :: B').map fun b => (⟨b.k, b.it, b.a, F b⟩ : Src) from hx)
            have e : c = b'.it := e
            rcases List.mem_cons.mp hb' with rfl | h2
            · exact hb.2.2.2 (by simp [e])
            · exact hb.2.2.2 (by simp only [List.map_cons, List.mem_cons, List.mem_map]; exact .inr ⟨b', h2, e.symm⟩)) q) hf⟩
  self := fun A i s Q E Z h => by
    obtain ⟨f0, f1, hz, _⟩ := Z.zg
    have hT : s.TypeIs (.ref z) "zip" := ⟨_, hz, rfl⟩
    refine wpAny_pyIter_slot hT F.slot_zip_iter (wpAny_call_entry F.slot_zip_iter hT F.entry_zip_iter ?_ (F.args_zip_iter_1 _))
    show wpAny _ _ (ret (.ref z)) _ _ s
    exact wpAny_pure ⟨_, rfl, "zip", _, hT, F.slot_zip_next.lookup, h⟩
/-- zip(*rows) -/
def iZipN (K : PySem.W.Frag) (te : TE) : TI := fun σ H R => te σ H fun y H1 => ∃ a xs, ∃ L : List (Bool × Addr), y = V.ref a ∧ (SqT K H1 a xs ∨ SqL K H1 a xs) ∧ xs = L.map (fun y => V.ref y.2) ∧ 1 ≤ L.length ∧ L.length ≤ 5 ∧ (∀ y, y ∈ L → ∃ ys, SqK y.1 K H1 y.2 ys) ∧ R (Itzn K L) H1
theorem znRefs : ∀ {L : List (Bool × Addr)} {us : List Value}, Vals (L.map fun y => V.ref y.2) us → us = L.map fun y => Value.ref y.2
  | [], us, h => by cases h; rfl
  | y :: L, us, h => by
    cases h with
    | cons r h =>
      rw [znRefs h]
      have r : _ = Value.ref y.2 := r
      rw [r]
      rfl
theorem pi_zipN {X : Cx} {e : Expr} {te : TE} {p sp_ pos np : Pos} {nm : Str} (hg : Gl X "zip") (hm : X.mg "zip" = none) (he : PE X e te) (hst : starEach [.Starred e sp_] X.env = [(true, eval e X.env)] := by rfl) :
    PI X (.Name nm np) (.Call (.Name "zip" p) [.Starred e sp_] [] pos) (iZipN X.K te) := by
  refine ⟨fun pins s σ H R I h => ?_⟩
  refine Call_ (ld_blt I hg hm PyProof.Rows.boot_zip (callWith_typeS (thn (he.run pins s σ H _ I h) fun v s1 ⟨y, H1, I1, ry, a, xs, L, ey, hxs, ex, l1, l2, hq, q⟩ => ?_) hst))
  subst ey
  obtain rfl : v = Value.ref a := ry
  refine StX.star_any I1 hxs fun us s2 I2 rv => ?_
  subst ex
  rw [znRefs rv]
  have : ∀ y : Bool × Addr, ∃ its : Array Value, y ∈ L → RwK y.1 s2.heap y.2 its := fun y => by
    by_cases hy : y ∈ L
    · obtain ⟨ys, h⟩ := hq y hy
      obtain ⟨its, _, pr⟩ := I2.seqK h
      exact ⟨its.toArray, fun _ => pr⟩
    · exact ⟨#[], fun h => absurd h hy⟩
  obtain ⟨F, hF⟩ := Classical.axiomOfChoice this
  have eL : L.map (fun y => Value.ref y.2) = (L.map fun y => (⟨y.1, y.2, F y⟩ : Sq0)).map fun y => Value.ref y.a := by simp
  rw [eL]
  refine zipN_call _ (by simpa using l1) (by simpa using l2) (fun y hy => ?_) fun h' Z => ?_
  · obtain ⟨b, hb, rfl⟩ := List.mem_map.mp hy
    exact hF b hb
  · rw [List.length_map]
    have Z1 := Z.ti
    have Z2 := Z.to
    have Z3 := Z.zg
    rw [List.length_map] at Z1 Z2 Z3
    have I3 : Inv X pins σ H1 { s2 with heap := h' } := I2.kept (t' := s2.toks) Z.kp
    let B : List ZB := (List.range L.length).map fun p => ⟨(L.getD p (true, 0)).1, s2.heap.objs.size + p, (L.getD p (true, 0)).2⟩
    have Bat : ∀ (p : Nat) b, B[p]? = some b → ∃ y, L[p]? = some y ∧ b = ⟨y.1, s2.heap.objs.size + p, y.2⟩ := fun p b hb => by
      rw [List.getElem?_map] at hb
      by_cases hp : p < L.length
      · rw [List.getElem?_range hp] at hb
        cases hb
        refine ⟨L[p], List.getElem?_eq_getElem hp, ?_⟩
        simp [List.getD_eq_getElem?_getD, List.getElem?_eq_getElem hp]
      · rw [List.getElem?_eq_none (by simpa using hp)] at hb
        cases hb
    have Blen : B.length = L.length := by simp [B]
    have alt : ∀ y, y ∈ L → @LT.lt Nat _ y.2 s2.heap.objs.size := fun y hy => rw_lt (hF y hy)
    have Bz : B.map (fun b => (b.k, b.a)) = L := by
      apply List.ext_getElem?
      intro p
      rw [List.getElem?_map]
      cases hb : B[p]? with
      | none =>
        have : ¬ p < B.length := fun h => by rw [List.getElem?_eq_getElem h] at hb; cases hb
        rw [List.getElem?_eq_none (by omega)]
        rfl
      | some b =>
        obtain ⟨y, hy, rfl⟩ := Bat p b hb
        rw [hy]; rfl
    have memB : ∀ b, b ∈ B → ∃ p y, p < L.length ∧ B[p]? = some b ∧ L[p]? = some y ∧ y ∈ L ∧ b = ⟨y.1, s2.heap.objs.size + p, y.2⟩ := fun b hb => by
      obtain ⟨p, hp⟩ := List.mem_iff_getElem?.mp hb
      obtain ⟨y, hy, e⟩ := Bat p b hp
      exact ⟨p, y, (List.getElem?_eq_some_iff.mp hy).1, hp, hy, List.mem_of_getElem? hy, e⟩
    have refsB : (B.map fun b => Value.ref b.it) = zits s2.heap.objs.size L.length := by simp [B, zits]
    have S : BSep (s2.heap.objs.size + L.length + 2) (s2.heap.objs.size + L.length) (s2.heap.objs.size + L.length + 1) B := by
      have ne : ∀ a b : Nat, a ≠ b → @Ne Addr a b := fun _ _ h => h
      refine ⟨ne _ _ (by omega), ne _ _ (by omega), ne _ _ (by omega), fun b hb => ?_, fun b hb c hc => ?_, fun p q b c hb hc e => ?_⟩
      · obtain ⟨p, y, hp, _, _, hy, rfl⟩ := memB b hb
        have := alt y hy
        refine ⟨ne _ _ ?_, ne _ _ ?_, ne _ _ ?_, ne _ _ ?_, ne _ _ ?_⟩ <;> simp only <;> omega
      · obtain ⟨p, y, hp, _, _, hy, rfl⟩ := memB b hb
        obtain ⟨q, x, hq, _, _, hx, rfl⟩ := memB c hc
        have := alt x hx
        refine ne _ _ ?_
        simp only
        omega
      · obtain ⟨y, _, rfl⟩ := Bat p b hb
        obtain ⟨x, _, rfl⟩ := Bat q c hc
        have e : s2.heap.objs.size + p = s2.heap.objs.size + q := e
        exact Nat.add_left_cancel e
    have T := turn_n (P := X.prog) (w := X.w) (K := X.K) (nm := nm) (np := np) S (fun e => by rw [e] at Blen; simp at Blen; omega) (by omega)
    rw [Bz] at T
    have hz : ∃ f0 f1, h'.get? (s2.heap.objs.size + L.length + 2) = some (zObj f0 f1 (s2.heap.objs.size + L.length) (s2.heap.objs.size + L.length + 1)) ∧ (f0 = .none ∨ ∃ T : Nat, f0 = rawInt T) := ⟨_, _, Z3, .inl rfl⟩
    have tn0 : ZTn B (s2.heap.objs.size + L.length + 2) (s2.heap.objs.size + L.length) (s2.heap.objs.size + L.length + 1) 0 h' := by
      obtain ⟨vs, h1, h2⟩ := Z2
      refine ⟨hz, by rw [refsB]; exact Z1, ⟨vs, h1, by omega⟩, fun b hb => ?_⟩
      obtain ⟨p, y, hp, _, hy, _, rfl⟩ := memB b hb
      exact it_new (Z.it p ⟨y.1, y.2, F y⟩ (by simp [hy]))
    refine T.self X.A 0 { s2 with heap := h' } _ _ tn0 ?_
    refine ⟨_, _, _, _, H1, rfl, I3, T, tn0, fun c hc => ?_, q⟩
    have hle : s2.heap.objs.size ≤ c := by
      simp only [List.mem_cons, List.mem_map] at hc
      rcases hc with rfl | rfl | rfl | ⟨b, hb, rfl⟩
      · omega
      · omega
      · omega
      · obtain ⟨p, y, hp, _, _, hy, rfl⟩ := memB b hb
        show _ ≤ s2.heap.objs.size + p
        omega
    exact I2.fpOk hle (I2.hok.fresh hle)
end L2
end

section
set_option maxRecDepth 100000
set_option maxHeartbeats 4000000
/-! zip(*rows), all([..]), lcm -/
namespace DL
open PySem PySem.Spec PyProof.Rows L2
section
variable {G : GC} {W : WX} {X : Cx} {pos : Pos}
def toBls : List D → Option (List Bool)
  | [] => some []
  | .bl b :: ds => (toBls ds).map (b :: ·)
  | _ :: _ => none
theorem rp_bls {S : Hp} : ∀ {vs : List V} {ds : List D} {bs : List Bool}, RpAll G S vs ds → toBls ds = some bs → vs = bs.map V.bl
  | _, [], bs, r, h => by cases r; cases h; rfl
  | _, d :: ds, bs, r, h => by
    cases r with
    | @cons v vs _ _ r1 r2 =>
      cases d with
      | bl b =>
        unfold toBls at h
        cases e : toBls ds with
        | none => rw [e] at h; cases h
        | some bs' =>
          rw [e] at h
          cases h
          rw [rp_bls r2 e, rp_bl r1]
          rfl
      | _ => cases h
def oAll : List D → M Rs
  | [.lst ds] => (match toBls ds with | some bs => .ok (.fz (.bl (bs.all id))) | none => .bad)
  | _ => .bad
theorem cs_all : CallS G (fun xs H Q => rAll G.K xs H Q) oAll := fun S H xs ds z hS hr hz Q q => by
  unfold oAll at hz
  split at hz
  · split at hz
    · rename_i ds' bs e
      cases hz
      obtain ⟨v, rfl, r⟩ := rp1 hr
      obtain ⟨a, vs, rfl, ha, ra⟩ := rp_lst r
      rw [rp_bls ra e] at ha
      exact ⟨a, bs, rfl, .inl (.inl (hS _ _ ha)), q _ _ (.val hS (.bl _))⟩
    · cases hz
  · cases hz
theorem d_all {p : Pos} {e : Expr} {A : List Nat} {fa : Env → M (List D)} (hc : X.calm = true) (hm : X.mg "all" = none) (ha : DA G W X [e] A fa) (hg : Gl X "all" := by rfl) (he : starEach [e] X.env = (false, eval e X.env) :: starEach [] X.env := by rfl) : DE G W X (.Call (.Name "all" p) [e] [] pos) A (eA oAll fa) := by
  obtain ⟨K, cl⟩ := G
  have hk : K = X.K := ha.k
  subst hk
  exact d_callB (cr_all hc) cs_all hg hm (by decide +kernel) ha (by decide) (by decide) he rfl
/-! lcm -/
theorem log_lcm {a b : Nat} (ha : a.log2 < 9000) (hb : b.log2 < 9000) : (a.lcm b).log2 < PySem.bitsLine := by
  have h1 : a < 2 ^ 9000 := by
    by_cases h : a = 0
    · rw [h]; exact Nat.two_pow_pos _
    · exact (Nat.log2_lt h).mp ha
  have h2 : b < 2 ^ 9000 := by
    by_cases h : b = 0
    · rw [h]; exact Nat.two_pow_pos _
    · exact (Nat.log2_lt h).mp hb
  have h3 : a.lcm b < 2 ^ 18000 := by
    have := PySem.W.mc_lcm_le a b
    have h4 : a * b < 2 ^ 9000 * 2 ^ 9000 := Nat.mul_lt_mul'' h1 h2
    rw [← Nat.pow_add] at h4
    exact Nat.lt_of_le_of_lt this h4
  by_cases h : a.lcm b = 0
  · rw [h]; decide
  · have := (Nat.log2_lt h).mpr h3
    have e : PySem.bitsLine = 2 ^ 27 := rfl
    omega
def rLcm : List V → Hp → VK → Prop := fun vs H Q => ∃ a b : Int, vs = [.int a, .int b] ∧ a.natAbs.log2 < 9000 ∧ b.natAbs.log2 < 9000 ∧ Q (.int ((Nat.lcm a.natAbs b.natAbs : Nat) : Int)) H
theorem cr_lcm : CallR X (.builtin "math.lcm") rLcm := by
  intro pins s σ H vs us Q I r h
  obtain ⟨a, b, rfl, ha, hb, q⟩ := h
  obtain ⟨t, u, rfl⟩ := Vals.int2 r
  have hz : (max 1 a.natAbs).log2 < 9000 := by
    by_cases h : 1 ≤ a.natAbs
    · rw [Nat.max_eq_right h]; exact ha
    · rw [Nat.max_eq_left (by omega)]; decide
  have hz2 : (max a.natAbs b.natAbs).log2 < 9000 := by
    by_cases h : a.natAbs ≤ b.natAbs
    · rw [Nat.max_eq_right h]; exact hb
    · rw [Nat.max_eq_left (by omega)]; exact ha
  have e1 : Nat.lcm 1 a.natAbs = a.natAbs := PySem.W.mc_lcm_one _
  refine call_function_meets PySem.W.MGF.kind_lcm PySem.W.MGF.plain_lcm PySem.W.MGF.entry_lcm (PySem.W.MGF.args_lcm _ _) (PySem.W.mg_run_lcm a t b u (by omega) (by omega) ?_).meets ?_
  · rw [e1]; exact log_lcm ha hb
  · rw [e1]
    exact ⟨.int _, H, I.tok _, ⟨_, rfl⟩, q⟩
def oLcm : List D → M Rs
  | [.int i, .int j] => if i.natAbs.log2 < 9000 ∧ j.natAbs.log2 < 9000 then .ok (.fz (.int ((Nat.lcm i.natAbs j.natAbs : Nat) : Int))) else .bad
  | _ => .bad
theorem cs_lcm : CallS G rLcm oLcm := fun S H xs ds z hS hr hz Q q => by
  unfold oLcm at hz
  split at hz
  · split at hz
    · rename_i i j hb
      cases hz
      obtain ⟨v, w, rfl, r, r2⟩ := rp2 hr
      rw [rp_int r, rp_int r2]
      exact ⟨_, _, rfl, hb.1, hb.2, q _ _ (.val hS (.int _))⟩
    · cases hz
  · cases hz
theorem d_lcm {p : Pos} {e e' : Expr} {A : List Nat} {fa : Env → M (List D)} (hm : X.mg "lcm" = some (.builtin "math.lcm")) (ha : DA G W X [e, e'] A fa) (hg : Gl X "lcm" := by rfl) (he : starEach [e, e'] X.env = (false, eval e X.env) :: starEach [e'] X.env := by rfl) (hpl : (backTo pos (starEach [e'] X.env)).any (·.1) = false := by rfl) : DE G W X (.Call (.Name "lcm" p) [e, e'] [] pos) A (eA oLcm fa) :=
  d_callM cr_lcm (g := oLcm) cs_lcm hg hm ha (by decide) he hpl
/-! zip(*rows) -/
def seqAll : List D → Option (List (List D))
  | [] => some []
  | d :: ds => (match seqD d, seqAll ds with | some r, some rs => some (r :: rs) | _, _ => none)
def colsOf (rs : List (List D)) (n : Nat) : List D := (List.range n).map fun i => D.tup (rs.map fun r => r.getD i .non)
def oZipN (d : D) : M (List D) := match seqD d with
  | some rows => (match seqAll rows with
    | some (r :: rs) => if (r :: rs).length ≤ 5 ∧ ∀ x, x ∈ rs → x.length = r.length then .ok (colsOf (r :: rs) r.length) else .bad
    | _ => .bad)
  | none => .bad
theorem znRows {S : Hp} : ∀ {rows : List D} {vs : List V} {rs : List (List D)}, RpAll G S vs rows → seqAll rows = some rs →
    ∃ L : List (Bool × Addr), vs = L.map (fun y => V.ref y.2) ∧ L.length = rs.length ∧ ∀ (p : Nat) y r, L[p]? = some y → rs[p]? = some r → ∃ ws, (∀ H', Same S H' → SqK y.1 G.K H' y.2 ws) ∧ RpAll G S ws r
  | [], vs, rs, hv, hr => by
    cases hv
    cases hr
    exact ⟨[], rfl, rfl, fun p y r h => by simp at h⟩
  | d :: ds, vs, rs, hv, hr => by
    cases hv with
    | @cons v vs _ _ r1 r2 =>
      unfold seqAll at hr
      split at hr
      · rename_i r rs' e1 e2
        cases hr
        obtain ⟨k, a, ws, rfl, h1, ra⟩ := seqK_of (Same.refl S) r1 e1
        obtain ⟨L, rfl, hl, hL⟩ := znRows r2 e2
        refine ⟨(k, a) :: L, rfl, by simp [hl], fun p y r' hy hr' => ?_⟩
        cases p with
        | zero =>
          cases hy
          cases hr'
          exact ⟨ws, h1, ra⟩
        | succ p => exact hL p y r' (by simpa using hy) (by simpa using hr')
      · cases hr
theorem di_zipN {e : Expr} {p sp_ np : Pos} {nm : Str} {A : List Nat} {f : Env → M Rs} (hg : Gl X "zip") (hm : X.mg "zip" = none) (he : DE G W X e A f) (hst : starEach [.Starred e sp_] X.env = [(true, eval e X.env)] := by rfl) :
    DI G W X (.Name nm np) (.Call (.Name "zip" p) [.Starred e sp_] [] pos) A (iE oZipN f) := ⟨weakI (pi_zipN hg hm he.pe hst) fun σ H R h => iE_run h fun hid H0 env r v H' ds Rl s q e k => by
  have hk := he.k
  unfold oZipN at e
  split at e
  · rename_i rows e1
    split at e
    · rename_i r0 rs e2
      split at e
      · rename_i hb
        cases e
        obtain ⟨kk, a, vs, rfl, h1, ra⟩ := seqK_of (Same.refl _) q e1
        obtain ⟨L, rfl, hl, hL⟩ := znRows ra e2
        have hlen : L.length = (r0 :: rs).length := hl
        have rl : ∀ r', r' ∈ r0 :: rs → r'.length = r0.length := fun r' h => by
          rcases List.mem_cons.mp h with rfl | h
          · rfl
          · exact hb.2 r' h
        have hq := h1 H' cut_le
        have mem : ∀ y, y ∈ L → ∃ (p : Nat) (r' : List D), L[p]? = some y ∧ (r0 :: rs)[p]? = some r' := fun y hy => by
          obtain ⟨p, hp⟩ := List.mem_iff_getElem?.mp hy
          have := (List.getElem?_eq_some_iff.mp hp).1
          exact ⟨p, _, hp, List.getElem?_eq_getElem (by omega)⟩
        refine ⟨a, _, L, rfl, ?_, rfl, by rw [hlen]; simp, by rw [hlen]; exact hb.1, fun y hy => ?_, k _ H' (Same.refl _) ?_⟩
        · cases kk
          · exact .inr (hk ▸ hq)
          · exact .inl (hk ▸ hq)
        · obtain ⟨p, r', hp, hr⟩ := mem y hy
          obtain ⟨ws, hw, _⟩ := hL p y r' hp hr
          exact ⟨ws, hk ▸ hw H' cut_le⟩
        · refine ⟨fun i H2 hi s2 y hy => ?_, fun H2 s2 => ⟨fun y hy => ?_, ?_⟩, fun i H2 x H3 hi s2 y => ?_⟩
          · have hi : i < r0.length := by simpa [colsOf] using hi
            obtain ⟨p, r', hp, hr⟩ := mem y hy
            obtain ⟨ws, hw, rw'⟩ := hL p y r' hp hr
            have l := rw'.len
            have l2 := rl r' (List.mem_of_getElem? hr)
            exact ⟨ws, ws[i], hk ▸ hw H2 s2, List.getElem?_eq_getElem (by omega)⟩
          · obtain ⟨p, r', hp, hr⟩ := mem y hy
            obtain ⟨ws, hw, _⟩ := hL p y r' hp hr
            exact ⟨ws, hk ▸ hw H2 s2⟩
          · cases L with
            | nil => simp at hlen
            | cons y L' =>
              obtain ⟨ws, hw, rw'⟩ := hL 0 y r0 rfl rfl
              exact ⟨y, L', rfl, ws, hk ▸ hw H2 s2, by have := rw'.len; simp [colsOf]; omega⟩
          · have hi : i < r0.length := by simpa [colsOf] using hi
            obtain ⟨T, xs, rfl, hT, rfl, hxl, hx⟩ := y
            refine ⟨.tup ((r0 :: rs).map fun r => r.getD i .non), by simp only [colsOf]; rw [List.getElem?_map, List.getElem?_range hi]; rfl, fun S1 s3 s4 => .tup s4 hT (RpAll.of_get (by simp [hxl, hlen]) fun p v d hv hd => ?_)⟩
            rw [List.getElem?_map] at hd
            cases hr : (r0 :: rs)[p]? with
            | none => rw [hr] at hd; cases hd
            | some r' =>
              rw [hr] at hd
              cases hd
              have hp : p < L.length := by have := (List.getElem?_eq_some_iff.mp hr).1; omega
              obtain ⟨ws, hw, rw'⟩ := hL p L[p] r' (List.getElem?_eq_getElem hp) hr
              have e3 := hx p L[p] ws (List.getElem?_eq_getElem hp) (hk ▸ hw H2 s2)
              rw [hv] at e3
              obtain ⟨d, hd, rd⟩ := rw'.getV e3.symm
              show Rp G S1 v (r'.getD i D.non)
              rw [List.getD_eq_getElem?_getD, hd]
              exact rd.mono s3
      · cases e
    · cases e
  · cases e⟩
end
end DL
end

section
set_option maxRecDepth 100000
set_option maxHeartbeats 1000000
/-! An expression whose value holds no list: it leans on no slot. -/
namespace DL
open PySem PySem.Spec PyProof.Rows L2
section
variable {G : GC} {W : WX} {X : Cx}
def nlE (f : Env → M Rs) : Env → M Rs := fun env => match f env with
  | .ok r => if r.nol then .ok r else .bad
  | _ => .bad
theorem d_nl {e : Expr} {A : List Nat} {f : Env → M Rs} (he : DE G W X e A f) : DE G W X e [] (nlE f) := ⟨weakE he.pe fun σ H Q h => by
  obtain ⟨hid, H0, env, R, h⟩ := h
  refine ⟨hid, H0, env, R, ?_⟩
  unfold nlE at h
  cases e1 : f env with
  | bad => rw [e1] at h; exact h.elim
  | ex x => rw [e1] at h; exact h.elim
  | ok r =>
    rw [e1] at h
    cases e2 : r.nol with
    | false =>
      simp only [e2] at h
      exact h.elim
    | true =>
      simp only [e2] at h
      intro v H' s q
      have q2 := q.frzIf (R.mono s)
      unfold DL.frzIf at q2
      rw [if_pos e2] at q2
      exact h v H' s q2, he.k⟩
theorem ev_nl {f : Env → M Rs} {env : Env} {r : Rs} (h : f env = .ok r) (hn : r.nol = true) : nlE f env = .ok r := by
  unfold nlE
  rw [h]
  simp only [hn, if_true]
end
end DL
end

section
/-! Sums and determinants over functions. -/
namespace Sx

def sm : Nat → (Nat → Int) → Int
  | 0, _ => 0
  | n+1, f => sm n f + f n

theorem sm_congr {n : Nat} {f g : Nat → Int} (h : ∀ i, i < n → f i = g i) : sm n f = sm n g := by
  induction n with
  | zero => rfl
  | succ n ih =>
    simp only [sm]
    rw [ih (fun i hi => h i (Nat.lt_succ_of_lt hi)), h n (Nat.lt_succ_self n)]

theorem sm_add (n : Nat) (f g : Nat → Int) : sm n (fun i => f i + g i) = sm n f + sm n g := by
  induction n with
  | zero => rfl
  | succ n ih => simp only [sm, ih]; omega

theorem sm_mul (n : Nat) (c : Int) (f : Nat → Int) : sm n (fun i => c * f i) = c * sm n f := by
  induction n with
  | zero => simp [sm]
  | succ n ih => simp only [sm, ih, Int.mul_add]

theorem sm_neg (n : Nat) (f : Nat → Int) : sm n (fun i => - f i) = - sm n f := by
  induction n with
  | zero => simp [sm]
  | succ n ih => simp only [sm, ih]; omega

theorem sm_zero {n : Nat} {f : Nat → Int} (h : ∀ i, i < n → f i = 0) : sm n f = 0 := by
  induction n with
  | zero => rfl
  | succ n ih =>
    simp only [sm]
    rw [ih (fun i hi => h i (Nat.lt_succ_of_lt hi)), h n (Nat.lt_succ_self n)]; rfl

theorem sm_one {n : Nat} {f : Nat → Int} (k : Nat) (hk : k < n) (h : ∀ i, i < n → i ≠ k → f i = 0) : sm n f = f k := by
  induction n with
  | zero => omega
  | succ n ih =>
    simp only [sm]
    by_cases e : k = n
    · subst e
      rw [sm_zero (fun i hi => h i (Nat.lt_succ_of_lt hi) (by omega))]; omega
    · rw [ih (by omega) (fun i hi hn => h i (Nat.lt_succ_of_lt hi) hn), h n (Nat.lt_succ_self n) (by omega)]; omega

theorem sm_split {n : Nat} {f : Nat → Int} (k : Nat) (hk : k < n) :
    sm n f = f k + sm n (fun i => if i = k then 0 else f i) := by
  have e1 : sm n f = sm n (fun i => (if i = k then f k else 0) + (if i = k then 0 else f i)) :=
    sm_congr (fun i _ => by
      by_cases e : i = k
      · subst e; simp
      · simp [e])
  rw [e1, sm_add, sm_one k hk (fun i _ hn => by simp [hn])]
  simp

theorem sm_two {n : Nat} {f : Nat → Int} (k l : Nat) (hk : k < n) (hl : l < n) (hkl : k ≠ l)
    (h : ∀ i, i < n → i ≠ k → i ≠ l → f i = 0) : sm n f = f k + f l := by
  rw [sm_split k hk, sm_one l hl (fun i hi hn => by
    by_cases e : i = k
    · simp [e]
    · simp [e, h i hi e hn])]
  simp [Ne.symm hkl]

theorem sm_le {n : Nat} {f g : Nat → Int} (h : ∀ i, i < n → f i ≤ g i) : sm n f ≤ sm n g := by
  induction n with
  | zero => exact Int.le_refl _
  | succ n ih =>
    simp only [sm]
    exact Int.add_le_add (ih (fun i hi => h i (Nat.lt_succ_of_lt hi))) (h n (Nat.lt_succ_self n))

theorem sm_nonneg {n : Nat} {f : Nat → Int} (h : ∀ i, i < n → 0 ≤ f i) : 0 ≤ sm n f := by
  have e := sm_le (f := fun _ => 0) h
  rwa [sm_zero (fun _ _ => rfl)] at e

theorem sm_nonpos {n : Nat} {f : Nat → Int} (h : ∀ i, i < n → f i ≤ 0) : sm n f ≤ 0 := by
  have e := sm_le (g := fun _ => 0) h
  rwa [sm_zero (n := n) (f := fun _ => 0) (fun _ _ => rfl)] at e

theorem sm_swap (n m : Nat) (f : Nat → Nat → Int) :
    sm n (fun i => sm m (fun j => f i j)) = sm m (fun j => sm n (fun i => f i j)) := by
  induction n with
  | zero => simp only [sm]; exact (sm_zero (fun _ _ => rfl)).symm
  | succ n ih => simp only [sm, ih, sm_add]

theorem sm_exists_neg {n : Nat} {f : Nat → Int} (h : sm n f < 0) : ∃ i, i < n ∧ f i < 0 := by
  refine Classical.byContradiction fun hc => ?_
  have : 0 ≤ sm n f := sm_nonneg (fun i hi => Classical.byContradiction fun hh => hc ⟨i, hi, by omega⟩)
  omega

theorem sm_abs {n : Nat} {f : Nat → Int} {K : Nat} (h : ∀ i, i < n → (f i).natAbs ≤ K) : (sm n f).natAbs ≤ n * K := by
  induction n with
  | zero => simp [sm]
  | succ n ih =>
    simp only [sm]
    have a := ih (fun i hi => h i (Nat.lt_succ_of_lt hi))
    have b := h n (Nat.lt_succ_self n)
    have c := Int.natAbs_add_le (sm n f) (f n)
    rw [Nat.succ_mul]; omega

/-! ## determinants -/
abbrev Mx := Nat → Nat → Int

def skip (k r : Nat) : Nat := if r < k then r else r + 1
def sg (k : Nat) : Int := if k % 2 = 0 then 1 else -1
def mn (A : Mx) (k : Nat) : Mx := fun r p => A (skip k r) (p + 1)
def up {α : Type} (A : Nat → α) (i : Nat) (v : α) : Nat → α := fun k => if k = i then v else A k

@[simp] theorem up_same {α : Type} (A : Nat → α) (i : Nat) (v : α) : up A i v i = v := by simp [up]
theorem up_ne {α : Type} {A : Nat → α} {i k : Nat} {v : α} (h : k ≠ i) : up A i v k = A k := by simp [up, h]
theorem up_up {α : Type} (A : Nat → α) (i : Nat) (v w : α) : up (up A i v) i w = up A i w := by
  funext k; simp only [up]; split <;> rfl
theorem up_comm {α : Type} (A : Nat → α) {i j : Nat} (h : i ≠ j) (v w : α) :
    up (up A i v) j w = up (up A j w) i v := by
  funext k; simp only [up]; split <;> split <;> first | rfl | omega
theorem up_self {α : Type} (A : Nat → α) (i : Nat) : up A i (A i) = A := by
  funext k; simp only [up]; split
  · next h => rw [h]
  · rfl

def det : Nat → Mx → Int
  | 0, _ => 1
  | n+1, A => sm (n+1) (fun k => sg k * (A k 0 * det n (mn A k)))

theorem skip_lt {k r n : Nat} (h : r < n) : skip k r < n + 1 := by
  simp only [skip]; split <;> omega
theorem skip_ne (k r : Nat) : skip k r ≠ k := by
  simp only [skip]; split <;> omega

theorem det_congr {n : Nat} {A B : Mx} (h : ∀ k, k < n → ∀ p, p < n → A k p = B k p) : det n A = det n B := by
  induction n generalizing A B with
  | zero => rfl
  | succ n ih =>
    simp only [det]
    refine sm_congr (fun k hk => ?_)
    rw [h k hk 0 (by omega), ih (A := mn A k) (B := mn B k)
      (fun r hr p hp => h _ (skip_lt hr) _ (by omega))]

/-- position of row `i` after row `k` is left out -/
def pull (k i : Nat) : Nat := if i < k then i else i - 1

theorem skip_eq_iff {k i r : Nat} (h : k ≠ i) : (skip k r = i) = (r = pull k i) := by
  simp only [skip, pull]; apply propext; split <;> split <;> constructor <;> intro <;> omega

theorem mn_up_same (A : Mx) (k : Nat) (v : Nat → Int) : mn (up A k v) k = mn A k := by
  funext r p; simp only [mn, up]; rw [if_neg (skip_ne k r)]

theorem mn_up_ne (A : Mx) {k i : Nat} (v : Nat → Int) (h : k ≠ i) :
    mn (up A i v) k = up (mn A k) (pull k i) (fun p => v (p + 1)) := by
  funext r p; simp only [mn, up, skip_eq_iff h]
  by_cases e : r = pull k i
  · simp only [if_pos e]
  · simp only [if_neg e]; rfl

theorem pull_lt {k i n : Nat} (h : k ≠ i) (hk : k < n + 1) (hi : i < n + 1) : pull k i < n := by
  simp only [pull]; split <;> omega

theorem det_lin {n : Nat} (A : Mx) {i : Nat} (hi : i < n) (a b : Int) (u w : Nat → Int) :
    det n (up A i (fun p => a * u p + b * w p)) = a * det n (up A i u) + b * det n (up A i w) := by
  induction n generalizing A i u w with
  | zero => omega
  | succ n ih =>
    simp only [det]
    rw [← sm_mul, ← sm_mul, ← sm_add]
    refine sm_congr (fun k hk => ?_)
    by_cases e : k = i
    · subst e
      simp only [mn_up_same, up_same]; grind
    · simp only [mn_up_ne A _ e, up_ne e]
      rw [ih (mn A k) (pull_lt e hk hi)]; grind

theorem det_row0 {n : Nat} (A : Mx) {i : Nat} (hi : i < n) (h : ∀ p, A i p = 0) : det n A = 0 := by
  have e := det_lin A hi 0 0 (fun _ => 0) (fun _ => 0)
  simp only [Int.zero_mul, Int.add_zero] at e
  rw [← e]
  refine det_congr (fun k _ p _ => ?_)
  simp only [up]; split
  · next h' => rw [h', h]
  · rfl

theorem det_sum {n : Nat} (A : Mx) {i : Nat} (hi : i < n) (N : Nat) (c : Nat → Int) (W : Nat → Nat → Int) :
    det n (up A i (fun q => sm N (fun p => c p * W p q))) = sm N (fun p => c p * det n (up A i (W p))) := by
  induction N with
  | zero =>
    simp only [sm]
    exact det_row0 _ hi (fun p => by simp [up])
  | succ N ih =>
    simp only [sm]
    have e := det_lin A hi 1 (c N) (fun q => sm N (fun p => c p * W p q)) (W N)
    simp only [Int.one_mul] at e
    rw [e, ih]

theorem sg_succ (k : Nat) : sg (k + 1) = - sg k := by
  simp only [sg]; split <;> split <;> omega

/-- two rows that stand side by side and are the same -/
theorem det_adj {n : Nat} (A : Mx) {i : Nat} (hi : i + 1 < n) (h : ∀ p, A i p = A (i + 1) p) : det n A = 0 := by
  induction n generalizing A i with
  | zero => omega
  | succ n ih =>
    simp only [det]
    rw [sm_two i (i + 1) (by omega) hi (by omega)]
    · have e : mn A (i + 1) = mn A i := by
        funext r p
        simp only [mn, skip]
        by_cases e : r = i
        · subst e; simp [h]
        · split <;> split <;> first | rfl | omega
      rw [e, h 0, sg_succ]; grind
    · intro k hk h1 h2
      have e : det n (mn A k) = 0 := by
        by_cases hh : k < i
        · refine ih (mn A k) (i := i - 1) (by omega) (fun p => ?_)
          simp only [mn, skip]
          rw [if_neg (by omega), if_neg (by omega)]
          have : i - 1 + 1 = i := by omega
          rw [this, h]
        · refine ih (mn A k) (i := i) (by omega) (fun p => ?_)
          simp only [mn, skip]
          rw [if_pos (by omega), if_pos (by omega), h]
      rw [e]; simp

theorem det_adj_swap {n : Nat} (A : Mx) {i : Nat} (hi : i + 1 < n) (u w : Nat → Int) :
    det n (up (up A i u) (i + 1) w) = - det n (up (up A i w) (i + 1) u) := by
  have ne : i ≠ i + 1 := by omega
  have z : ∀ v, det n (up (up A i v) (i + 1) v) = 0 := fun v =>
    det_adj _ hi (fun p => by simp [up])
  have e := z (fun p => 1 * u p + 1 * w p)
  rw [det_lin _ hi 1 1 u w] at e
  rw [up_comm A ne, up_comm A ne, det_lin _ (by omega) 1 1 u w, det_lin _ (by omega) 1 1 u w] at e
  rw [← up_comm A ne, ← up_comm A ne, ← up_comm A ne, ← up_comm A ne] at e
  rw [z u, z w] at e
  omega

theorem det_eq_rows {n : Nat} (d : Nat) : ∀ (A : Mx) {i : Nat}, i + d + 1 < n → (∀ p, A i p = A (i + d + 1) p) → det n A = 0 := by
  induction d with
  | zero => intro A i hi h; exact det_adj A hi h
  | succ d ih =>
    intro A i hi h
    have e1 : A = up (up A (i + d + 1) (A (i + d + 1))) (i + d + 1 + 1) (A (i + d + 1 + 1)) := by
      rw [up_self, up_self]
    rw [e1, det_adj_swap A (by omega)]
    rw [ih _ (i := i) (by omega) (fun p => ?_)]
    · rfl
    · have h1 : i ≠ i + d + 1 := by omega
      have h2 : i ≠ i + d + 1 + 1 := by omega
      have h3 : i + d + 1 ≠ i + d + 1 + 1 := by omega
      rw [up_ne h2, up_ne h1, up_ne h3, up_same]
      exact h p

/-- two rows that are the same -/
theorem det_alt {n : Nat} (A : Mx) {i j : Nat} (hi : i < n) (hj : j < n) (hij : i ≠ j) (h : ∀ p, A i p = A j p) :
    det n A = 0 := by
  by_cases hh : i < j
  · obtain ⟨d, rfl⟩ : ∃ d, j = i + d + 1 := ⟨j - i - 1, by omega⟩
    exact det_eq_rows d A hj h
  · obtain ⟨d, rfl⟩ : ∃ d, i = j + d + 1 := ⟨i - j - 1, by omega⟩
    exact det_eq_rows d A hi (fun p => (h p).symm)

theorem det_swap {n : Nat} (A : Mx) {i j : Nat} (hi : i < n) (hj : j < n) (ne : i ≠ j) (u w : Nat → Int) :
    det n (up (up A i u) j w) = - det n (up (up A i w) j u) := by
  have z : ∀ v, det n (up (up A i v) j v) = 0 := fun v =>
    det_alt _ hi hj ne (fun p => by simp [up])
  have e := z (fun p => 1 * u p + 1 * w p)
  rw [det_lin _ hj 1 1 u w] at e
  rw [up_comm A ne, up_comm A ne, det_lin _ hi 1 1 u w, det_lin _ hi 1 1 u w] at e
  rw [← up_comm A ne, ← up_comm A ne, ← up_comm A ne, ← up_comm A ne] at e
  rw [z u, z w] at e
  omega

def I : Mx := fun k p => if k = p then 1 else 0

theorem det_I (n : Nat) : det n I = 1 := by
  induction n with
  | zero => rfl
  | succ n ih =>
    simp only [det]
    rw [sm_one 0 (by omega)]
    · have e : mn I 0 = I := by
        funext r p; simp only [mn, skip, I]; simp
      rw [e, ih]; simp [sg, I]
    · intro k _ hk; simp [I, hk]

theorem det_up_I {n i : Nat} (hi : i < n) (a : Nat → Int) : det n (up I i a) = a i := by
  have e : det n (up I i a) = det n (up I i (fun q => sm n (fun p => a p * I p q))) := by
    refine det_congr (fun k _ q hq => ?_)
    simp only [up]; split
    · show a q = sm n (fun p => a p * I p q)
      rw [sm_one q hq (fun p _ hp => by simp [I, hp])]; simp [I]
    · rfl
  rw [e, det_sum I hi, sm_one i hi]
  · rw [up_self, det_I]; simp
  · intro p hp hne
    rw [det_alt (up I i (I p)) hi hp (Ne.symm hne) (fun q => by rw [up_same, up_ne hne])]; simp

def fac : Nat → Nat
  | 0 => 1
  | n+1 => (n+1) * fac n

theorem det_bound {n K : Nat} (A : Mx) (h : ∀ k, k < n → ∀ p, p < n → (A k p).natAbs ≤ K) : (det n A).natAbs ≤ fac n * K ^ n := by
  induction n generalizing A with
  | zero => simp [det, fac]
  | succ n ih =>
    simp only [det]
    have e : (n + 1) * (K * (fac n * K ^ n)) = fac (n + 1) * K ^ (n + 1) := by
      simp only [fac, Nat.pow_succ]; grind
    rw [← e]
    refine sm_abs (fun k hk => ?_)
    have a := h k hk 0 (by omega)
    have b := ih (mn A k) (fun r hr p hp => h _ (skip_lt hr) _ (by omega))
    have c : (sg k).natAbs = 1 := by simp only [sg]; split <;> rfl
    rw [Int.natAbs_mul, c, Int.natAbs_mul, Nat.one_mul]
    exact Nat.mul_le_mul a b

end Sx
end

section
/-! A table of determinants and one exchange of it. -/
namespace Sx

structure LP where
  m : Nat
  n : Nat
  a : Nat → Nat → Int
  l : Nat → Int
  g : Nat → Int

/-- the vector of a variable: a column with its gain, a unit, the limits -/
def LP.vec (P : LP) (v : Nat) (p : Nat) : Int :=
  if v < P.n then (if p < P.m then P.a p v else if p = P.m then P.g v else 0)
  else if v ≤ P.n + P.m then I (v - P.n) p
  else (if p < P.m then P.l p else 0)

structure St where
  ba : Nat → Nat
  lo : Nat → Nat

def St.B (s : St) (P : LP) : Mx := fun k => P.vec (s.ba k)
def St.T (s : St) (P : LP) (i j : Nat) : Int := det (P.m + 1) (up (s.B P) i (P.vec (s.lo j)))
def St.sc (s : St) (P : LP) : Int := det (P.m + 1) (s.B P)
def St.piv (s : St) (r c : Nat) : St := ⟨up s.ba r (s.lo c), up s.lo c (s.ba r)⟩
def St.init (P : LP) : St := ⟨fun k => P.n + k, fun j => if j = P.n then P.n + P.m + 1 else j⟩

structure Inv (P : LP) (s : St) : Prop where
  bm : s.ba P.m = P.n + P.m
  ln : s.lo P.n = P.n + P.m + 1
  pos : 0 < s.sc P
  V : ∀ j, j ≤ P.n → ∀ p, p ≤ P.m → s.sc P * P.vec (s.lo j) p = sm (P.m + 1) (fun k => s.T P k j * s.B P k p)
  bl : ∀ k, k < P.m → s.ba k < P.n + P.m
  ll : ∀ j, j < P.n → s.lo j < P.n + P.m
  bi : ∀ k, k < P.m → ∀ k', k' < P.m → s.ba k = s.ba k' → k = k'
  li : ∀ j, j < P.n → ∀ j', j' < P.n → s.lo j = s.lo j' → j = j'
  ne : ∀ k, k < P.m → ∀ j, j < P.n → s.ba k ≠ s.lo j
  cov : ∀ v, v < P.n + P.m → (∃ k, k < P.m ∧ s.ba k = v) ∨ (∃ j, j < P.n ∧ s.lo j = v)
  nn : ∀ k, k < P.m → 0 ≤ s.T P k P.n

theorem St.piv_B (s : St) (P : LP) (r c : Nat) : (s.piv r c).B P = up (s.B P) r (P.vec (s.lo c)) := by
  funext k; simp only [St.B, St.piv, up]; split <;> rfl

theorem St.piv_sc (s : St) (P : LP) (r c : Nat) : (s.piv r c).sc P = s.T P r c := by
  simp only [St.sc, St.piv_B, St.T]

theorem St.T_piv_rc (s : St) (P : LP) (r c : Nat) : (s.piv r c).T P r c = s.sc P := by
  simp only [St.T, St.piv_B, St.sc, up_up]
  have : P.vec ((s.piv r c).lo c) = s.B P r := by simp [St.piv, St.B]
  rw [this, up_self]

theorem St.T_piv_r (s : St) (P : LP) {r c j : Nat} (h : j ≠ c) : (s.piv r c).T P r j = s.T P r j := by
  have e : (s.piv r c).lo j = s.lo j := by simp only [St.piv]; rw [up_ne h]
  simp only [St.T, St.piv_B, up_up, e]

theorem St.T_piv_c (s : St) (P : LP) {r c i : Nat} (hr : r < P.m + 1) (hi : i < P.m + 1) (h : i ≠ r) :
    (s.piv r c).T P i c = - s.T P i c := by
  simp only [St.T, St.piv_B]
  have : P.vec ((s.piv r c).lo c) = s.B P r := by simp [St.piv, St.B]
  rw [this, up_comm _ (Ne.symm h), det_swap _ hi hr h, up_comm _ h, up_self]

/-- the exact division of an exchange -/
theorem T_piv {P : LP} {s : St} (hI : Inv P s) {r c i j : Nat} (hr : r < P.m + 1) (hi : i < P.m + 1) (hj : j ≤ P.n)
    (hir : i ≠ r) (hjc : j ≠ c) :
    s.sc P * (s.piv r c).T P i j = s.T P r c * s.T P i j - s.T P i c * s.T P r j := by
  have e1 : (s.piv r c).T P i j = det (P.m + 1) (up (up (s.B P) r (P.vec (s.lo c))) i (P.vec (s.lo j))) := by
    have e : (s.piv r c).lo j = s.lo j := by simp only [St.piv]; rw [up_ne hjc]
    simp only [St.T, St.piv_B, e]
  have lin := det_lin (up (s.B P) r (P.vec (s.lo c))) hi (s.sc P) 0 (P.vec (s.lo j)) (fun _ => 0)
  simp only [Int.zero_mul, Int.add_zero] at lin
  rw [e1, ← lin]
  have e2 : det (P.m + 1) (up (up (s.B P) r (P.vec (s.lo c))) i (fun p => s.sc P * P.vec (s.lo j) p)) =
      det (P.m + 1) (up (up (s.B P) r (P.vec (s.lo c))) i (fun q => sm (P.m + 1) (fun k => s.T P k j * s.B P k q))) := by
    refine det_congr (fun k _ p hp => ?_)
    simp only [up]; split
    · exact hI.V j hj p (by omega)
    · rfl
  rw [e2, det_sum _ hi, sm_two i r hi hr hir]
  · have a1 : det (P.m + 1) (up (up (s.B P) r (P.vec (s.lo c))) i (s.B P i)) = s.T P r c := by
      rw [up_comm _ (Ne.symm hir), up_self]; rfl
    have a2 : det (P.m + 1) (up (up (s.B P) r (P.vec (s.lo c))) i (s.B P r)) = - s.T P i c := by
      rw [up_comm _ (Ne.symm hir), det_swap _ hi hr hir, up_comm _ hir, up_self]; rfl
    rw [a1, a2]; grind
  · intro k hk h1 h2
    have : det (P.m + 1) (up (up (s.B P) r (P.vec (s.lo c))) i (s.B P k)) = 0 :=
      det_alt _ hi hk (Ne.symm h1) (fun p => by rw [up_same, up_ne h1, up_ne h2])
    rw [this]; simp

theorem T_piv_div {P : LP} {s : St} (hI : Inv P s) {r c i j : Nat} (hr : r < P.m + 1) (hi : i < P.m + 1) (hj : j ≤ P.n)
    (hir : i ≠ r) (hjc : j ≠ c) :
    (s.T P r c * s.T P i j - s.T P i c * s.T P r j).fdiv (s.sc P) = (s.piv r c).T P i j := by
  rw [← T_piv hI hr hi hj hir hjc]
  exact Int.mul_fdiv_cancel_left _ (by have := hI.pos; omega)

/-- what the program's exchange writes into row `i`, column `j` -/
def St.new (s : St) (P : LP) (r c i j : Nat) : Int :=
  if i = r then (if j = c then s.sc P else s.T P r j)
  else if j = c then - s.T P i c
  else (s.T P r c * s.T P i j - s.T P i c * s.T P r j).fdiv (s.sc P)

theorem new_eq {P : LP} {s : St} (hI : Inv P s) {r c i j : Nat} (hr : r < P.m + 1) (hi : i < P.m + 1) (hj : j ≤ P.n) :
    s.new P r c i j = (s.piv r c).T P i j := by
  simp only [St.new]
  by_cases h1 : i = r
  · subst h1; rw [if_pos rfl]
    by_cases h2 : j = c
    · subst h2; rw [if_pos rfl, St.T_piv_rc]
    · rw [if_neg h2, St.T_piv_r s P h2]
  · rw [if_neg h1]
    by_cases h2 : j = c
    · subst h2; rw [if_pos rfl, St.T_piv_c s P hr hi h1]
    · rw [if_neg h2, T_piv_div hI hr hi hj h1 h2]

theorem T_basic {P : LP} {s : St} {i k : Nat} (hi : i < P.m + 1) (hk : k < P.m + 1) (h : i ≠ k) :
    det (P.m + 1) (up (s.B P) i (s.B P k)) = 0 :=
  det_alt _ hi hk h (fun p => by rw [up_same, up_ne (Ne.symm h)])

theorem inv_init (P : LP) (hl : ∀ p, p < P.m → 0 ≤ P.l p) : Inv P (St.init P) := by
  have eB : ∀ k, k < P.m + 1 → (St.init P).B P k = I k := by
    intro k hk
    simp only [St.B, St.init]
    funext p
    simp only [LP.vec]
    rw [if_neg (by omega), if_pos (by omega)]
    congr 1; omega
  have eD : ∀ i v, i < P.m + 1 → det (P.m + 1) (up ((St.init P).B P) i v) = v i := by
    intro i v hi
    rw [← det_up_I hi v]
    refine det_congr (fun k hk p _ => ?_)
    simp only [up]; split
    · rfl
    · rw [eB k hk]
  have eS : (St.init P).sc P = 1 := by
    simp only [St.sc]; rw [← det_I (P.m + 1)]
    exact det_congr (fun k hk p _ => by rw [eB k hk])
  have eT : ∀ i j, i < P.m + 1 → (St.init P).T P i j = P.vec ((St.init P).lo j) i := fun i j hi => eD i _ hi
  refine ⟨rfl, by simp [St.init], by rw [eS]; decide, ?_, ?_, ?_, ?_, ?_, ?_, ?_, ?_⟩
  · intro j hj p hp
    rw [eS, sm_one p (by omega)]
    · rw [eT p j (by omega), eB p (by omega)]; simp [I]
    · intro k hk hn; rw [eB k hk]; simp [I, hn]
  · intro k hk; simp only [St.init]; omega
  · intro j hj; simp only [St.init]; rw [if_neg (by omega)]; omega
  · intro k hk k' hk' h; simp only [St.init] at h; omega
  · intro j hj j' hj' h; simp only [St.init] at h; rw [if_neg (by omega), if_neg (by omega)] at h; exact h
  · intro k hk j hj; simp only [St.init]; rw [if_neg (by omega)]; omega
  · intro v hv
    by_cases h : v < P.n
    · exact .inr ⟨v, h, by simp only [St.init]; rw [if_neg (by omega)]⟩
    · exact .inl ⟨v - P.n, by omega, by simp only [St.init]; omega⟩
  · intro k hk
    rw [eT k P.n (by omega)]
    simp only [St.init, LP.vec, if_true]
    rw [if_neg (by omega), if_neg (by omega), if_pos hk]; exact hl k hk

theorem T_init (P : LP) {i j : Nat} (hi : i < P.m + 1) : (St.init P).T P i j = P.vec ((St.init P).lo j) i := by
  simp only [St.T]
  rw [← det_up_I hi (P.vec ((St.init P).lo j))]
  refine det_congr (fun k hk p _ => ?_)
  simp only [up]; split
  · rfl
  · next hne =>
    show LP.vec P (P.n + k) p = I k p
    simp only [LP.vec]
    rw [if_neg (by omega), if_pos (by omega)]
    congr 1; omega

theorem sc_init (P : LP) : (St.init P).sc P = 1 := by
  simp only [St.sc]; rw [← det_I (P.m + 1)]
  refine det_congr (fun k hk p _ => ?_)
  show LP.vec P (P.n + k) p = I k p
  simp only [LP.vec]
  rw [if_neg (by omega), if_pos (by omega)]
  congr 1; omega

/-- what is asked of the row that leaves -/
structure Lv (P : LP) (s : St) (r c : Nat) : Prop where
  lt : r < P.m
  pos : 0 < s.T P r c
  min : ∀ k, k < P.m → 0 < s.T P k c → s.T P r P.n * s.T P k c ≤ s.T P k P.n * s.T P r c

theorem inv_piv {P : LP} {s : St} (hI : Inv P s) {r c : Nat} (hc : c < P.n) (hL : Lv P s r c) : Inv P (s.piv r c) := by
  have hr := hL.lt
  have hs := hI.pos
  refine ⟨?_, ?_, ?_, ?_, ?_, ?_, ?_, ?_, ?_, ?_, ?_⟩
  · simp only [St.piv]; rw [up_ne (by omega)]; exact hI.bm
  · simp only [St.piv]; rw [up_ne (by omega)]; exact hI.ln
  · rw [St.piv_sc]; exact hL.pos
  · intro j hj p hp
    rw [St.piv_sc, St.piv_B]
    by_cases hjc : j = c
    · subst hjc
      have e : P.vec ((s.piv r j).lo j) = s.B P r := by simp [St.piv, St.B]
      rw [e]
      have v := hI.V j hj p hp
      rw [sm_split r (by omega)] at v ⊢
      rw [St.T_piv_rc, up_same]
      have e2 : sm (P.m + 1) (fun i => if i = r then 0 else (s.piv r j).T P i j * up (s.B P) r (P.vec (s.lo j)) i p) =
          - sm (P.m + 1) (fun i => if i = r then 0 else s.T P i j * s.B P i p) := by
        rw [← sm_neg]
        refine sm_congr (fun i hi => ?_)
        by_cases h : i = r
        · simp [h]
        · rw [if_neg h, if_neg h, up_ne h, St.T_piv_c s P (by omega) hi h]; grind
      rw [e2]; grind
    · have e : P.vec ((s.piv r c).lo j) = P.vec (s.lo j) := by simp only [St.piv]; rw [up_ne hjc]
      rw [e]
      refine Int.eq_of_mul_eq_mul_left (a := s.sc P) (by omega) ?_
      have v := hI.V j hj p hp
      have w := hI.V c (by omega) p hp
      rw [sm_split r (by omega)] at v w ⊢
      rw [St.T_piv_r s P hjc, up_same, Int.mul_add, ← sm_mul]
      have e2 : sm (P.m + 1) (fun i => s.sc P * (if i = r then 0 else (s.piv r c).T P i j * up (s.B P) r (P.vec (s.lo c)) i p)) =
          s.T P r c * sm (P.m + 1) (fun i => if i = r then 0 else s.T P i j * s.B P i p) +
          - (s.T P r j * sm (P.m + 1) (fun i => if i = r then 0 else s.T P i c * s.B P i p)) := by
        rw [← sm_mul, ← sm_mul, ← sm_neg, ← sm_add]
        refine sm_congr (fun i hi => ?_)
        by_cases h : i = r
        · simp [h]
        · rw [if_neg h, if_neg h, if_neg h, up_ne h]
          have t := T_piv hI (r := r) (c := c) (by omega) hi hj h hjc
          grind
      rw [e2]; grind
  · intro k hk; simp only [St.piv, up]; split
    · exact hI.ll c hc
    · exact hI.bl k hk
  · intro j hj; simp only [St.piv, up]; split
    · exact hI.bl r hr
    · exact hI.ll j hj
  · intro k hk k' hk'; simp only [St.piv, up]; split <;> split
    · omega
    · intro h; exact absurd h.symm (hI.ne k' hk' c hc)
    · intro h; exact absurd h (hI.ne k hk c hc)
    · exact hI.bi k hk k' hk'
  · intro j hj j' hj'; simp only [St.piv, up]; split <;> split
    · omega
    · intro h; exact absurd h (hI.ne r hr j' hj')
    · intro h; exact absurd h.symm (hI.ne r hr j hj)
    · exact hI.li j hj j' hj'
  · intro k hk j hj; simp only [St.piv, up]; split <;> split
    · exact fun h => hI.ne r hr c hc h.symm
    · next h => intro e; exact h (hI.li _ hc _ hj e).symm
    · next h _ => intro e; exact h (hI.bi _ hk _ hr e)
    · exact hI.ne k hk j hj
  · intro v hv
    rcases hI.cov v hv with ⟨k, hk, e⟩ | ⟨j, hj, e⟩
    · by_cases h : k = r
      · exact .inr ⟨c, hc, by simp only [St.piv, up_same]; rw [← h]; exact e⟩
      · exact .inl ⟨k, hk, by simp only [St.piv]; rw [up_ne h]; exact e⟩
    · by_cases h : j = c
      · exact .inl ⟨r, hr, by simp only [St.piv, up_same]; rw [← h]; exact e⟩
      · exact .inr ⟨j, hj, by simp only [St.piv]; rw [up_ne h]; exact e⟩
  · intro k hk
    by_cases h : k = r
    · subst h; rw [St.T_piv_r s P (by omega)]; exact hI.nn k hk
    · have t := T_piv hI (r := r) (c := c) (j := P.n) (by omega) (i := k) (by omega) (Nat.le_refl _) h (by omega)
      have n1 := hI.nn k hk
      have n2 := hI.nn r hr
      have lp := hL.pos
      refine Classical.byContradiction fun hc' => ?_
      have neg : s.sc P * (s.piv r c).T P k P.n < 0 := Int.mul_neg_of_pos_of_neg hs (by omega)
      rw [t] at neg
      by_cases hk0 : 0 < s.T P k c
      · have := hL.min k hk hk0
        grind
      · have a1 : 0 ≤ s.T P r c * s.T P k P.n := Int.mul_nonneg (by omega) n1
        have a2 : 0 ≤ (- s.T P k c) * s.T P r P.n := Int.mul_nonneg (by omega) n2
        rw [Int.neg_mul] at a2
        omega

/-! ## the end -/
/-- the functional of the objective row -/
def St.f (s : St) (P : LP) (v : Nat → Int) : Int := det (P.m + 1) (up (s.B P) P.m v)

theorem f_lin (s : St) (P : LP) (N : Nat) (c : Nat → Int) (W : Nat → Nat → Int) :
    s.f P (fun q => sm N (fun p => c p * W p q)) = sm N (fun p => c p * s.f P (W p)) := det_sum _ (by omega) _ _ _

theorem f_congr (s : St) (P : LP) {v w : Nat → Int} (h : ∀ p, p ≤ P.m → v p = w p) : s.f P v = s.f P w := by
  refine det_congr (fun k _ p hp => ?_)
  simp only [up]; split
  · exact h p (by omega)
  · rfl

theorem f_unit {P : LP} {s : St} (hI : Inv P s) : s.f P (I P.m) = s.sc P := by
  have : I P.m = s.B P P.m := by
    funext p; simp only [St.B, hI.bm, LP.vec]; rw [if_neg (by omega), if_pos (by omega)]; congr 1; omega
  simp only [St.f, this, up_self]; rfl

theorem f_basic {P : LP} {s : St} {k : Nat} (hk : k < P.m) : s.f P (P.vec (s.ba k)) = 0 :=
  T_basic (P := P) (s := s) (i := P.m) (k := k) (by omega) (by omega) (by omega)

theorem f_loose {P : LP} {s : St} (j : Nat) : s.f P (P.vec (s.lo j)) = s.T P P.m j := rfl

/-- the value of the functional from the units -/
theorem f_units {P : LP} {s : St} (v : Nat → Int) : s.f P v = sm (P.m + 1) (fun p => v p * s.f P (I p)) := by
  rw [← f_lin]
  refine f_congr s P (fun p hp => ?_)
  rw [sm_one p (by omega) (fun i _ hi => by simp [I, hi])]; simp [I]

end Sx
end

section
/-! What a table tells where it ends: weights and prices, or a ray. -/
namespace Sx

theorem sm_append (n m : Nat) (f : Nat → Int) : sm (n + m) f = sm n f + sm m (fun i => f (n + i)) := by
  induction m with
  | zero => simp [sm]
  | succ m ih => rw [← Nat.add_assoc]; simp only [sm, ih]; omega

theorem reindex {P : LP} {s : St} (hI : Inv P s) (h : Nat → Int) :
    sm (P.n + P.m) h = sm P.m (fun k => h (s.ba k)) + sm P.n (fun j => h (s.lo j)) := by
  have e1 : ∀ v, v < P.n + P.m → h v = sm P.m (fun k => if s.ba k = v then h v else 0) + sm P.n (fun j => if s.lo j = v then h v else 0) := by
    intro v hv
    rcases hI.cov v hv with ⟨k, hk, e⟩ | ⟨j, hj, e⟩
    · rw [sm_one k hk, sm_zero]
      · simp [e]
      · intro j hj; rw [if_neg]; intro hh; exact hI.ne k hk j hj (by omega)
      · intro k' hk' hn; rw [if_neg]; intro hh; exact hn (hI.bi k' hk' k hk (by omega))
    · rw [sm_one (n := P.n) j hj, sm_zero]
      · simp [e]
      · intro k hk; rw [if_neg]; intro hh; exact hI.ne k hk j hj (by omega)
      · intro j' hj' hn; rw [if_neg]; intro hh; exact hn (hI.li j' hj' j hj (by omega))
  rw [sm_congr e1, sm_add, sm_swap (P.n + P.m) P.m, sm_swap (P.n + P.m) P.n]
  congr 1
  · refine sm_congr (fun k hk => ?_)
    rw [sm_one (s.ba k) (hI.bl k hk) (fun v _ hv => if_neg (Ne.symm hv))]; simp
  · refine sm_congr (fun j hj => ?_)
    rw [sm_one (s.lo j) (hI.ll j hj) (fun v _ hv => if_neg (Ne.symm hv))]; simp

theorem vec_col {P : LP} {v p : Nat} (hv : v < P.n) (hp : p < P.m) : P.vec v p = P.a p v := by
  simp [LP.vec, hv, hp]
theorem vec_gain {P : LP} {v : Nat} (hv : v < P.n) : P.vec v P.m = P.g v := by
  simp [LP.vec, hv]
theorem vec_unit {P : LP} {i p : Nat} (hi : i ≤ P.m) : P.vec (P.n + i) p = I i p := by
  simp only [LP.vec]; rw [if_neg (by omega), if_pos (by omega)]; congr 1; omega
theorem vec_lim {P : LP} {p : Nat} (hp : p < P.m) : P.vec (P.n + P.m + 1) p = P.l p := by
  simp only [LP.vec]; rw [if_neg (by omega), if_neg (by omega), if_pos hp]
theorem vec_lim_m {P : LP} : P.vec (P.n + P.m + 1) P.m = 0 := by
  simp only [LP.vec]; rw [if_neg (by omega), if_neg (by omega), if_neg (by omega)]

/-- the sum over all variables, coordinate by coordinate -/
theorem sm_vec {P : LP} (x : Nat → Int) {p : Nat} (hp : p < P.m) :
    sm (P.n + P.m) (fun v => x v * P.vec v p) = sm P.n (fun v => x v * P.a p v) + x (P.n + p) := by
  rw [sm_append]
  congr 1
  · exact sm_congr (fun v hv => by rw [vec_col hv hp])
  · rw [sm_one p hp]
    · rw [vec_unit (by omega)]; simp [I]
    · intro i hi hn; rw [vec_unit (by omega)]; simp [I, hn]

theorem sm_vec_m {P : LP} (x : Nat → Int) :
    sm (P.n + P.m) (fun v => x v * P.vec v P.m) = sm P.n (fun v => x v * P.g v) := by
  rw [sm_append, sm_zero (n := P.m)]
  · rw [Int.add_zero]; exact sm_congr (fun v hv => by rw [vec_gain hv])
  · intro i hi; rw [vec_unit (by omega)]; simp only [I]; rw [if_neg (by omega)]; simp

/-- the weights that stand in the limits' column -/
structure IsX (P : LP) (s : St) (x : Nat → Int) : Prop where
  ba : ∀ k, k < P.m → x (s.ba k) = s.T P k P.n
  lo : ∀ j, j < P.n → x (s.lo j) = 0

theorem sm_x {P : LP} {s : St} (hI : Inv P s) {x : Nat → Int} (hx : IsX P s x) {p : Nat} (hp : p ≤ P.m) :
    s.sc P * P.vec (P.n + P.m + 1) p = sm (P.n + P.m) (fun v => x v * P.vec v p) + s.T P P.m P.n * I P.m p := by
  have v := hI.V P.n (Nat.le_refl _) p hp
  rw [hI.ln] at v
  rw [v, reindex hI]
  simp only [sm]
  rw [sm_zero (n := P.n) (fun j hj => by rw [hx.lo j hj]; simp)]
  have e1 : s.B P P.m p = I P.m p := by simp only [St.B, hI.bm]; exact vec_unit (Nat.le_refl _)
  rw [e1, sm_congr (n := P.m) (f := fun k => x (s.ba k) * P.vec (s.ba k) p) (g := fun k => s.T P k P.n * s.B P k p)
    (fun k hk => by rw [hx.ba k hk]; rfl)]
  omega

theorem x_nonneg {P : LP} {s : St} (hI : Inv P s) {x : Nat → Int} (hx : IsX P s x) {v : Nat} (hv : v < P.n + P.m) : 0 ≤ x v := by
  rcases hI.cov v hv with ⟨k, hk, e⟩ | ⟨j, hj, e⟩
  · rw [← e, hx.ba k hk]; exact hI.nn k hk
  · rw [← e, hx.lo j hj]; exact Int.le_refl _

/-- the weights stay within the limits -/
theorem x_within {P : LP} {s : St} (hI : Inv P s) {x : Nat → Int} (hx : IsX P s x) {p : Nat} (hp : p < P.m) :
    sm P.n (fun v => x v * P.a p v) ≤ s.sc P * P.l p := by
  have e := sm_x hI hx (p := p) (by omega)
  rw [vec_lim hp, sm_vec x hp] at e
  have n1 := x_nonneg hI hx (v := P.n + p) (by omega)
  have z : I P.m p = 0 := by simp only [I]; rw [if_neg (by omega)]
  rw [z] at e; omega

theorem x_total {P : LP} {s : St} (hI : Inv P s) {x : Nat → Int} (hx : IsX P s x) :
    sm P.n (fun v => x v * P.g v) = - s.T P P.m P.n := by
  have e := sm_x hI hx (p := P.m) (Nat.le_refl _)
  rw [vec_lim_m, sm_vec_m x] at e
  have z : I P.m P.m = 1 := by simp [I]
  rw [z] at e; omega

/-- the ray that stands in column `c` -/
structure IsR (P : LP) (s : St) (c : Nat) (w : Nat → Int) : Prop where
  ba : ∀ k, k < P.m → w (s.ba k) = - s.T P k c
  at_c : w (s.lo c) = s.sc P
  lo : ∀ j, j < P.n → j ≠ c → w (s.lo j) = 0

theorem sm_r {P : LP} {s : St} (hI : Inv P s) {c : Nat} (hc : c < P.n) {w : Nat → Int} (hw : IsR P s c w) {p : Nat} (hp : p ≤ P.m) :
    sm (P.n + P.m) (fun v => w v * P.vec v p) = s.T P P.m c * I P.m p := by
  have v := hI.V c (by omega) p hp
  rw [reindex hI, sm_one (n := P.n) c hc (fun j hj hn => by rw [hw.lo j hj hn]; simp), hw.at_c, v]
  simp only [sm]
  have e1 : s.B P P.m p = I P.m p := by simp only [St.B, hI.bm]; exact vec_unit (Nat.le_refl _)
  rw [e1, sm_congr (n := P.m) (f := fun k => w (s.ba k) * P.vec (s.ba k) p) (g := fun k => - (s.T P k c * s.B P k p))
    (fun k hk => by rw [hw.ba k hk]; exact Int.neg_mul _ _), sm_neg]
  omega

theorem r_nonneg {P : LP} {s : St} (hI : Inv P s) {c : Nat} {w : Nat → Int} (hw : IsR P s c w)
    (hn : ∀ k, k < P.m → s.T P k c ≤ 0) {v : Nat} (hv : v < P.n + P.m) : 0 ≤ w v := by
  rcases hI.cov v hv with ⟨k, hk, e⟩ | ⟨j, hj, e⟩
  · rw [← e, hw.ba k hk]; have := hn k hk; omega
  · by_cases h : j = c
    · subst h; rw [← e, hw.at_c]; exact Int.le_of_lt hI.pos
    · rw [← e, hw.lo j hj h]; exact Int.le_refl _

theorem r_within {P : LP} {s : St} (hI : Inv P s) {c : Nat} (hc : c < P.n) {w : Nat → Int} (hw : IsR P s c w)
    (hn : ∀ k, k < P.m → s.T P k c ≤ 0) {p : Nat} (hp : p < P.m) : sm P.n (fun v => w v * P.a p v) ≤ 0 := by
  have e := sm_r hI hc hw (p := p) (by omega)
  rw [sm_vec w hp] at e
  have n1 := r_nonneg hI hw hn (v := P.n + p) (by omega)
  have z : I P.m p = 0 := by simp only [I]; rw [if_neg (by omega)]
  rw [z] at e; omega

theorem r_total {P : LP} {s : St} (hI : Inv P s) {c : Nat} (hc : c < P.n) {w : Nat → Int} (hw : IsR P s c w) :
    sm P.n (fun v => w v * P.g v) = s.T P P.m c := by
  have e := sm_r hI hc hw (p := P.m) (Nat.le_refl _)
  rw [sm_vec_m w] at e
  have z : I P.m P.m = 1 := by simp [I]
  rw [z] at e; omega

/-- the prices that stand in the row of gains -/
structure IsP (P : LP) (s : St) (y : Nat → Int) : Prop where
  lo : ∀ j, j < P.n → ∀ i, s.lo j = P.n + i → y i = - s.T P P.m j
  ba : ∀ k, k < P.m → ∀ i, s.ba k = P.n + i → y i = 0

theorem p_f {P : LP} {s : St} (hI : Inv P s) {y : Nat → Int} (hy : IsP P s y) {i : Nat} (hi : i < P.m) : s.f P (I i) = - y i := by
  have e0 : I i = P.vec (P.n + i) := by funext p; exact (vec_unit (by omega)).symm
  rcases hI.cov (P.n + i) (by omega) with ⟨k, hk, e⟩ | ⟨j, hj, e⟩
  · rw [hy.ba k hk i e, e0, ← e, f_basic hk]; rfl
  · rw [hy.lo j hj i e, e0, ← e, f_loose]; omega

theorem p_nonneg {P : LP} {s : St} (hI : Inv P s) {y : Nat → Int} (hy : IsP P s y) (hn : ∀ j, j < P.n → s.T P P.m j ≤ 0)
    {i : Nat} (hi : i < P.m) : 0 ≤ y i := by
  rcases hI.cov (P.n + i) (by omega) with ⟨k, hk, e⟩ | ⟨j, hj, e⟩
  · rw [hy.ba k hk i e]; exact Int.le_refl _
  · rw [hy.lo j hj i e]; have := hn j hj; omega

theorem p_col {P : LP} {s : St} (hI : Inv P s) {y : Nat → Int} (hy : IsP P s y) {v : Nat} (hv : v < P.n) :
    s.f P (P.vec v) = s.sc P * P.g v - sm P.m (fun i => P.a i v * y i) := by
  rw [f_units]
  simp only [sm]
  rw [f_unit hI, vec_gain hv, sm_congr (n := P.m) (g := fun i => - (P.a i v * y i))
    (fun i hi => by rw [vec_col hv hi, p_f hI hy hi, Int.mul_neg]), sm_neg, Int.mul_comm]
  omega

/-- the prices reach every gain -/
theorem p_reach {P : LP} {s : St} (hI : Inv P s) {y : Nat → Int} (hy : IsP P s y) (hn : ∀ j, j < P.n → s.T P P.m j ≤ 0)
    {v : Nat} (hv : v < P.n) : s.sc P * P.g v ≤ sm P.m (fun i => P.a i v * y i) := by
  have e := p_col hI hy hv
  have le : s.f P (P.vec v) ≤ 0 := by
    rcases hI.cov v (by omega) with ⟨k, hk, e⟩ | ⟨j, hj, e⟩
    · rw [← e, f_basic hk]; exact Int.le_refl _
    · rw [← e, f_loose]; exact hn j hj
  omega

theorem p_total {P : LP} {s : St} (hI : Inv P s) {y : Nat → Int} (hy : IsP P s y) :
    sm P.m (fun i => P.l i * y i) = - s.T P P.m P.n := by
  have e : s.f P (P.vec (P.n + P.m + 1)) = s.T P P.m P.n := by rw [← hI.ln]; rfl
  rw [f_units] at e
  simp only [sm] at e
  rw [vec_lim_m, sm_congr (n := P.m) (g := fun i => - (P.l i * y i))
    (fun i hi => by rw [vec_lim hi, p_f hI hy hi, Int.mul_neg]), sm_neg] at e
  omega

end Sx
end

section
/-! The rule of the first variable ends. -/
namespace Sx

/-- the column that enters -/
structure Ent (P : LP) (s : St) (c : Nat) : Prop where
  lt : c < P.n
  pos : 0 < s.T P P.m c
  min : ∀ j, j < P.n → 0 < s.T P P.m j → s.lo c ≤ s.lo j

/-- the row that leaves, first among equals -/
structure Lvb (P : LP) (s : St) (r c : Nat) : Prop extends Lv P s r c where
  first : ∀ k, k < P.m → 0 < s.T P k c → s.T P r P.n * s.T P k c = s.T P k P.n * s.T P r c → s.ba r ≤ s.ba k

theorem pigeon (N : Nat) : ∀ (f : Nat → Nat), (∀ i, i ≤ N → f i < N) → ∃ i j, i < j ∧ j ≤ N ∧ f i = f j := by
  induction N with
  | zero => intro f h; exact absurd (h 0 (Nat.le_refl 0)) (by omega)
  | succ N ih =>
    intro f h
    by_cases hh : ∃ i, i ≤ N ∧ f i = f (N + 1)
    · obtain ⟨i, hi, e⟩ := hh; exact ⟨i, N + 1, by omega, by omega, e⟩
    · have nn : ∀ i, i ≤ N → f i ≠ f (N + 1) := fun i hi e => hh ⟨i, hi, e⟩
      have hl := h (N + 1) (Nat.le_refl _)
      let f' : Nat → Nat := fun i => if f i = N then f (N + 1) else f i
      obtain ⟨i, j, hij, hj, e⟩ := ih f' (fun i hi => by
        have a := h i (by omega); have b := nn i hi
        show (if f i = N then f (N + 1) else f i) < N
        split <;> omega)
      refine ⟨i, j, hij, by omega, ?_⟩
      have a := nn i (by omega); have b := nn j hj
      change (if f i = N then f (N + 1) else f i) = (if f j = N then f (N + 1) else f j) at e
      split at e <;> split at e <;> omega

open Classical in
noncomputable def code (Q : Nat → Prop) : Nat → Nat
  | 0 => 0
  | n+1 => code Q n + (if Q n then 2 ^ n else 0)

theorem code_lt (Q : Nat → Prop) (n : Nat) : code Q n < 2 ^ n := by
  induction n with
  | zero => simp [code]
  | succ n ih => simp only [code, Nat.pow_succ]; split <;> omega

theorem code_inj {Q R : Nat → Prop} {n : Nat} (h : code Q n = code R n) : ∀ v, v < n → (Q v ↔ R v) := by
  induction n with
  | zero => intro v hv; omega
  | succ n ih =>
    simp only [code] at h
    have a := code_lt Q n; have b := code_lt R n
    have e : (Q n ↔ R n) ∧ code Q n = code R n := by
      by_cases q : Q n <;> by_cases r : R n <;> simp only [q, r, if_true, if_false] at h ⊢ <;> simp <;> omega
    intro v hv
    by_cases hn : v = n
    · subst hn; exact e.1
    · exact ih e.2 v (by omega)

theorem ivt {Q : Nat → Prop} {a : Nat} (d : Nat) : Q a → ¬ Q (a + d) → ∃ t, a ≤ t ∧ t < a + d ∧ Q t ∧ ¬ Q (t + 1) := by
  induction d with
  | zero => intro h h'; exact absurd h h'
  | succ d ih =>
    intro h h'
    by_cases hd : Q (a + d)
    · exact ⟨a + d, by omega, by omega, hd, h'⟩
    · obtain ⟨t, h1, h2, h3⟩ := ih h hd
      exact ⟨t, h1, by omega, h3⟩

theorem ivt' {Q : Nat → Prop} {a b : Nat} (hab : a ≤ b) (h : Q a) (h' : ¬ Q b) : ∃ t, a ≤ t ∧ t < b ∧ Q t ∧ ¬ Q (t + 1) := by
  obtain ⟨d, rfl⟩ : ∃ d, b = a + d := ⟨b - a, by omega⟩
  exact ivt d h h'

theorem largest {Q : Nat → Prop} (N : Nat) (hb : ∀ v, Q v → v < N) (hex : ∃ v, Q v) : ∃ v, Q v ∧ ∀ w, Q w → w ≤ v := by
  induction N with
  | zero => obtain ⟨v, hv⟩ := hex; exact absurd (hb v hv) (by omega)
  | succ N ih =>
    by_cases h : Q N
    · exact ⟨N, h, fun w hw => by have := hb w hw; omega⟩
    · exact ih (fun v hv => by
        have := hb v hv
        have : v ≠ N := fun e => h (e ▸ hv)
        omega)

def Bas (P : LP) (s : St) (v : Nat) : Prop := ∃ k, k < P.m ∧ s.ba k = v

theorem bas_piv_in {P : LP} {s : St} {r c : Nat} (hr : r < P.m) : Bas P (s.piv r c) (s.lo c) :=
  ⟨r, hr, by simp [St.piv]⟩

theorem not_bas_lo {P : LP} {s : St} (hI : Inv P s) {j : Nat} (hj : j < P.n) : ¬ Bas P s (s.lo j) :=
  fun ⟨k, hk, e⟩ => hI.ne k hk j hj e

theorem bas_enter {P : LP} {s : St} {r c v : Nat} (h : ¬ Bas P s v) (h' : Bas P (s.piv r c) v) : v = s.lo c := by
  obtain ⟨k, hk, e⟩ := h'
  simp only [St.piv, up] at e
  split at e
  · exact e.symm
  · exact absurd ⟨k, hk, e⟩ h

theorem bas_leave {P : LP} {s : St} {r c v : Nat} (h : Bas P s v) (h' : ¬ Bas P (s.piv r c) v) : v = s.ba r := by
  obtain ⟨k, hk, e⟩ := h
  by_cases hk' : k = r
  · subst hk'; exact e.symm
  · exact absurd ⟨k, hk, by simp only [St.piv]; rw [up_ne hk']; exact e⟩ h'

theorem f_not_bas {P : LP} {s : St} (hI : Inv P s) {v : Nat} (hv : v < P.n + P.m) (h : s.f P (P.vec v) ≠ 0) :
    ∃ j, j < P.n ∧ s.lo j = v := by
  rcases hI.cov v hv with ⟨k, hk, e⟩ | x
  · exact absurd (e ▸ f_basic hk) h
  · exact x

def Zer (P : LP) (s : St) (v : Nat) : Prop := ∀ k, k < P.m → s.ba k = v → s.T P k P.n = 0

theorem zer_piv {P : LP} {s : St} (hI : Inv P s) {r c v : Nat} (hc : c < P.n) (hL : Lv P s r c) (hz : s.T P r P.n = 0) :
    Zer P s v ↔ Zer P (s.piv r c) v := by
  have hr := hL.lt
  have key : ∀ k, k < P.m → k ≠ r → (s.T P k P.n = 0 ↔ (s.piv r c).T P k P.n = 0) := by
    intro k hk hkr
    have t := T_piv hI (r := r) (c := c) (j := P.n) (i := k) (by omega) (by omega) (Nat.le_refl _) hkr (by omega)
    rw [hz, Int.mul_zero, Int.sub_zero] at t
    have h1 := hI.pos
    have h2 := hL.pos
    constructor
    · intro e; rw [e, Int.mul_zero] at t
      rcases Int.mul_eq_zero.mp t with h | h
      · omega
      · exact h
    · intro e; rw [e, Int.mul_zero] at t
      rcases Int.mul_eq_zero.mp t.symm with h | h
      · omega
      · exact h
  constructor
  · intro h k hk e
    by_cases hkr : k = r
    · subst hkr; rw [St.T_piv_r s P (by omega)]; exact hz
    · simp only [St.piv] at e; rw [up_ne hkr] at e
      exact (key k hk hkr).1 (h k hk e)
  · intro h k hk e
    by_cases hkr : k = r
    · subst hkr; exact hz
    · exact (key k hk hkr).2 (h k hk (by simp only [St.piv]; rw [up_ne hkr]; exact e))

theorem obj_same {P : LP} {s u : St} (hI : Inv P s) (hJ : Inv P u) (h : ∀ v, v < P.n + P.m → (Bas P s v → Bas P u v)) :
    s.sc P * u.T P P.m P.n = s.T P P.m P.n * u.sc P := by
  have e1 : u.T P P.m P.n = u.f P (P.vec (s.lo P.n)) := by
    rw [hI.ln, ← hJ.ln]; rfl
  have e2 := f_lin u P 1 (fun _ => s.sc P) (fun _ => P.vec (s.lo P.n))
  simp only [sm, Int.zero_add] at e2
  have e3 := f_lin u P (P.m + 1) (fun k => s.T P k P.n) (fun k => s.B P k)
  have e4 : u.f P (fun q => s.sc P * P.vec (s.lo P.n) q) = u.f P (fun q => sm (P.m + 1) (fun p => s.T P p P.n * s.B P p q)) :=
    f_congr u P (fun p hp => hI.V P.n (Nat.le_refl _) p hp)
  rw [e1, ← e2, e4, e3]
  simp only [sm]
  rw [sm_zero (fun k hk => ?_)]
  · have : s.B P P.m = I P.m := by
      funext p; simp only [St.B, hI.bm]; exact vec_unit (Nat.le_refl _)
    rw [this, f_unit hJ]; omega
  · obtain ⟨k', hk', e⟩ := h (s.ba k) (hI.bl k hk) ⟨k, hk, rfl⟩
    have : s.B P k = P.vec (u.ba k') := by simp only [St.B, e]
    rw [this, f_basic hk', Int.mul_zero]

/-- no run is longer than the count of the sets of basic variables -/
theorem bland {P : LP} (st : Nat → St) (r c : Nat → Nat)
    (hI : ∀ t, t ≤ 2 ^ (P.n + P.m) → Inv P (st t))
    (hE : ∀ t, t < 2 ^ (P.n + P.m) → Ent P (st t) (c t))
    (hL : ∀ t, t < 2 ^ (P.n + P.m) → Lvb P (st t) (r t) (c t))
    (hS : ∀ t, t < 2 ^ (P.n + P.m) → st (t + 1) = (st t).piv (r t) (c t)) : False := by
  obtain ⟨i, j, hij, hj, hc⟩ := pigeon (2 ^ (P.n + P.m)) (fun t => code (Bas P (st t)) (P.n + P.m)) (fun t _ => code_lt _ _)
  have same := code_inj hc
  have I' : ∀ t, t ≤ j → Inv P (st t) := fun t ht => hI t (by omega)
  -- the objective never grows
  have mono1 : ∀ t, t < j → (st t).sc P * (st (t + 1)).T P P.m P.n = (st (t+1)).sc P * (st t).T P P.m P.n
      - (st t).T P P.m (c t) * (st t).T P (r t) P.n := by
    intro t ht
    have l := hL t (by omega)
    have e := hE t (by omega)
    have hlt := e.lt
    have := l.lt
    rw [hS t (by omega), St.piv_sc]
    exact T_piv (I' t (by omega)) (r := r t) (c := c t) (i := P.m) (j := P.n) (by omega) (by omega) (Nat.le_refl _) (by omega) (by omega)
  have nn : ∀ t, t < j → 0 ≤ (st t).T P P.m (c t) * (st t).T P (r t) P.n := by
    intro t ht
    have l := hL t (by omega); have e := hE t (by omega)
    exact Int.mul_nonneg (Int.le_of_lt e.pos) ((I' t (by omega)).nn _ l.lt)
  have pos : ∀ t, t ≤ j → 0 < (st t).sc P := fun t ht => (I' t ht).pos
  have mono : ∀ d a, a + d ≤ j → (st a).sc P * (st (a + d)).T P P.m P.n ≤ (st (a + d)).sc P * (st a).T P P.m P.n := by
    intro d a
    induction d with
    | zero => intro _; rw [Nat.add_zero]; exact Int.le_refl _
    | succ d ih =>
      intro h
      have h1 := ih (by omega)
      have h2 := mono1 (a + d) (by omega)
      have h3 := nn (a + d) (by omega)
      have p0 := pos a (by omega)
      have p1 := pos (a + d) (by omega)
      have p2 := pos (a + d + 1) (by omega)
      rw [← Nat.add_assoc]
      refine Int.le_of_mul_le_mul_left (a := (st (a + d)).sc P) ?_ p1
      have q1 := Int.mul_le_mul_of_nonneg_left h1 (Int.le_of_lt p2)
      have h4 : (st (a + d)).sc P * (st (a + d + 1)).T P P.m P.n ≤ (st (a + d + 1)).sc P * (st (a + d)).T P P.m P.n := by omega
      have q2 := Int.mul_le_mul_of_nonneg_left h4 (Int.le_of_lt p0)
      grind
  have eqij : (st i).sc P * (st j).T P P.m P.n = (st i).T P P.m P.n * (st j).sc P :=
    obj_same (I' i (by omega)) (I' j (by omega)) (fun v hv h => (same v hv).1 h)
  have zero : ∀ t, i ≤ t → t < j → (st t).T P (r t) P.n = 0 := by
    intro t h1 h2
    have l := hL t (by omega); have e := hE t (by omega)
    have m1 := mono (t - i) i (by omega)
    have m2 := mono (j - (t + 1)) (t + 1) (by omega)
    have e1 : i + (t - i) = t := by omega
    have e2 : t + 1 + (j - (t + 1)) = j := by omega
    rw [e1] at m1; rw [e2] at m2
    have m3 := mono1 t h2
    have p0 := pos i (by omega); have p1 := pos t (by omega); have p2 := pos (t + 1) (by omega); have p3 := pos j (by omega)
    have n0 := (I' t (by omega)).nn _ l.lt
    refine Classical.byContradiction fun hne => ?_
    have str : 0 < (st t).T P P.m (c t) * (st t).T P (r t) P.n := Int.mul_pos e.pos (by omega)
    have m4 : (st t).sc P * (st (t + 1)).T P P.m P.n < (st (t + 1)).sc P * (st t).T P P.m P.n := by omega
    -- multiply all together
    generalize (st i).sc P = si at *
    generalize (st t).sc P = s0 at *
    generalize (st (t+1)).sc P = s1 at *
    generalize (st j).sc P = sj at *
    generalize (st i).T P P.m P.n = zi at *
    generalize (st t).T P P.m P.n = z0 at *
    generalize (st (t+1)).T P P.m P.n = z1 at *
    generalize (st j).T P P.m P.n = zj at *
    -- si*z0 ≤ s0*zi ; s1*zj ≤ sj*z1 ; s0*z1 < s1*z0 ; si*zj = zi*sj
    have a1 := Int.mul_le_mul_of_nonneg_left m1 (Int.le_of_lt (Int.mul_pos p2 p3))
    have a2 := Int.mul_le_mul_of_nonneg_left m2 (Int.le_of_lt (Int.mul_pos p0 p1))
    have a3 := Int.mul_lt_mul_of_pos_left m4 (Int.mul_pos p0 p3)
    have a4 : s0 * s1 * (si * zj) = s0 * s1 * (zi * sj) := by rw [eqij]
    grind
  -- fickle variables
  let F : Nat → Prop := fun v => v < P.n + P.m ∧ (∃ t, i ≤ t ∧ t ≤ j ∧ Bas P (st t) v) ∧ (∃ t, i ≤ t ∧ t ≤ j ∧ ¬ Bas P (st t) v)
  have fe : ∀ t, i ≤ t → t < j → F ((st t).lo (c t)) := by
    intro t h1 h2
    have e := hE t (by omega); have l := hL t (by omega)
    refine ⟨(I' t (by omega)).ll _ e.lt, ⟨t + 1, by omega, by omega, ?_⟩, ⟨t, h1, by omega, not_bas_lo (I' t (by omega)) e.lt⟩⟩
    rw [hS t (by omega)]; exact bas_piv_in l.lt
  obtain ⟨q, hq, qmax⟩ := largest (Q := F) (P.n + P.m) (fun v hv => hv.1) ⟨_, fe i (Nat.le_refl _) hij⟩
  obtain ⟨qlt, ⟨tb, tb1, tb2, hb⟩, ⟨tn, tn1, tn2, hn⟩⟩ := hq
  have zer : ∀ v, F v → ∀ t, i ≤ t → t ≤ j → Zer P (st t) v := by
    intro v hv
    obtain ⟨_, _, ⟨t0, h1, h2, h3⟩⟩ := hv
    have base : Zer P (st t0) v := fun k hk e => absurd ⟨k, hk, e⟩ h3
    have stp : ∀ t, i ≤ t → t < j → (Zer P (st t) v ↔ Zer P (st (t + 1)) v) := by
      intro t h1 h2
      rw [hS t (by omega)]
      exact zer_piv (I' t (by omega)) (hE t (by omega)).lt (hL t (by omega)).toLv (zero t h1 h2)
    have fromi : ∀ d, i + d ≤ j → (Zer P (st i) v ↔ Zer P (st (i + d)) v) := by
      intro d
      induction d with
      | zero => intro _; exact Iff.rfl
      | succ d ih => intro h; exact (ih (by omega)).trans (stp (i + d) (by omega) (by omega))
    intro t g1 g2
    have a := fromi (t0 - i) (by omega)
    have b := fromi (t - i) (by omega)
    have e1 : i + (t0 - i) = t0 := by omega
    have e2 : i + (t - i) = t := by omega
    rw [e1] at a; rw [e2] at b
    exact b.1 (a.2 base)
  have same_q := same q qlt
  -- q leaves at t1
  obtain ⟨t1, a1, a2, a3, a4⟩ : ∃ t, i ≤ t ∧ t < j ∧ Bas P (st t) q ∧ ¬ Bas P (st (t + 1)) q := by
    by_cases hbi : Bas P (st i) q
    · obtain ⟨t, x1, x2, x3⟩ := ivt' (Q := fun t => Bas P (st t) q) tn1 hbi hn
      exact ⟨t, x1, by omega, x3⟩
    · have : ¬ Bas P (st j) q := fun h => hbi (same_q.2 h)
      obtain ⟨t, x1, x2, x3⟩ := ivt' (Q := fun t => Bas P (st t) q) tb2 hb this
      exact ⟨t, by omega, x2, x3⟩
  -- q enters at t2
  obtain ⟨t2, b1, b2, b3, b4⟩ : ∃ t, i ≤ t ∧ t < j ∧ ¬ Bas P (st t) q ∧ Bas P (st (t + 1)) q := by
    by_cases hbi : Bas P (st i) q
    · have hbj : Bas P (st j) q := same_q.1 hbi
      obtain ⟨t, x1, x2, x3, x4⟩ := ivt' (Q := fun t => ¬ Bas P (st t) q) tn2 hn (fun h => h hbj)
      exact ⟨t, by omega, x2, x3, Classical.byContradiction x4⟩
    · obtain ⟨t, x1, x2, x3, x4⟩ := ivt' (Q := fun t => ¬ Bas P (st t) q) tb1 hbi (fun h => h hb)
      exact ⟨t, x1, by omega, x3, Classical.byContradiction x4⟩
  have I1 := I' t1 (by omega)
  have I2 := I' t2 (by omega)
  have E1 := hE t1 (by omega); have L1 := hL t1 (by omega)
  have E2 := hE t2 (by omega); have L2 := hL t2 (by omega)
  rw [hS t1 (by omega)] at a4
  rw [hS t2 (by omega)] at b4
  have q1 : q = (st t1).ba (r t1) := bas_leave a3 a4
  have q2 : q = (st t2).lo (c t2) := bas_enter b3 b4
  have fq : 0 < (st t2).f P (P.vec q) := by rw [q2]; exact E2.pos
  -- loose variables below q have no gain at t2
  have low : ∀ v, v < P.n + P.m → v < q → (st t2).f P (P.vec v) ≤ 0 := by
    intro v hv hvq
    refine Classical.byContradiction fun hc => ?_
    obtain ⟨jj, hjj, e⟩ := f_not_bas I2 hv (by omega)
    have := E2.min jj hjj (by rw [← e] at hc; have h : (st t2).f P (P.vec ((st t2).lo jj)) = (st t2).T P P.m jj := rfl; omega)
    omega
  have fe1 := fe t1 a1 a2
  have elt : (st t1).lo (c t1) < q := by
    have le := qmax _ fe1
    have : (st t1).lo (c t1) ≠ q := by
      rw [q1]; exact fun h => I1.ne _ L1.lt _ E1.lt h.symm
    omega
  have fe0 := low _ (I1.ll _ E1.lt) elt
  -- the sum
  have V := f_congr (st t2) P (v := fun p => (st t1).sc P * P.vec ((st t1).lo (c t1)) p)
    (w := fun p => sm (P.m + 1) (fun k => (st t1).T P k (c t1) * (st t1).B P k p))
    (fun p hp => I1.V (c t1) (Nat.le_of_lt E1.lt) p hp)
  have e2 := f_lin (st t2) P 1 (fun _ => (st t1).sc P) (fun _ => P.vec ((st t1).lo (c t1)))
  simp only [sm, Int.zero_add] at e2
  rw [f_lin (st t2) P (P.m + 1) (fun k => (st t1).T P k (c t1)) (fun k => (st t1).B P k)] at V
  rw [e2] at V
  simp only [sm] at V
  have um : (st t1).B P P.m = I P.m := by
    funext p; simp only [St.B, I1.bm]; exact vec_unit (Nat.le_refl _)
  rw [um, f_unit I2] at V
  have pm : 0 < (st t1).T P P.m (c t1) * (st t2).sc P := Int.mul_pos E1.pos I2.pos
  have le0 : (st t1).sc P * (st t2).f P (P.vec ((st t1).lo (c t1))) ≤ 0 := Int.mul_nonpos_of_nonneg_of_nonpos (Int.le_of_lt I1.pos) fe0
  obtain ⟨k, hk, hneg⟩ := sm_exists_neg (n := P.m) (f := fun k => (st t1).T P k (c t1) * (st t2).f P ((st t1).B P k)) (by omega)
  have vlt := I1.bl k hk
  have hB : (st t1).B P k = P.vec ((st t1).ba k) := rfl
  rw [hB] at hneg
  have fne : (st t2).f P (P.vec ((st t1).ba k)) ≠ 0 := by
    intro h; rw [h, Int.mul_zero] at hneg; omega
  obtain ⟨jj, hjj, ejj⟩ := f_not_bas I2 vlt fne
  have fv : F ((st t1).ba k) := ⟨vlt, ⟨t1, a1, by omega, ⟨k, hk, rfl⟩⟩, ⟨t2, b1, by omega, by rw [← ejj]; exact not_bas_lo I2 hjj⟩⟩
  have vle := qmax _ fv
  by_cases veq : (st t1).ba k = q
  · have : k = r t1 := I1.bi k hk _ L1.lt (by rw [veq, q1])
    rw [veq, this] at hneg
    have := Int.mul_pos L1.pos fq
    omega
  · have f0 := low _ vlt (by omega)
    have tk : 0 < (st t1).T P k (c t1) := by
      refine Classical.byContradiction fun hc => ?_
      have := Int.mul_nonneg_of_nonpos_of_nonpos (a := (st t1).T P k (c t1)) (b := (st t2).f P (P.vec ((st t1).ba k))) (by omega) f0
      omega
    have z1 := zero t1 a1 a2
    have z2 := zer _ fv t1 a1 (by omega) k hk rfl
    have := L1.first k hk tk (by rw [z1, z2]; simp)
    omega

end Sx
end

section
/-! The choices of column and row, and the whole climb. -/
namespace Sx

/-- the column that the program takes, of the first k -/
def St.entB (s : St) (P : LP) : Nat → Option Nat
  | 0 => none
  | k+1 => match s.entB P k with
    | none => if 0 < s.T P P.m k then some k else none
    | some b => if 0 < s.T P P.m k ∧ s.lo k < s.lo b then some k else some b

theorem entB_none {P : LP} {s : St} {k : Nat} (h : s.entB P k = none) : ∀ j, j < k → s.T P P.m j ≤ 0 := by
  induction k with
  | zero => intro j hj; omega
  | succ k ih =>
    simp only [St.entB] at h
    cases e : s.entB P k with
    | none =>
      rw [e] at h
      intro j hj
      by_cases hjk : j = k
      · subst hjk
        refine Int.not_lt.mp fun hp => ?_
        simp [hp] at h
      · exact ih e j (by omega)
    | some b => rw [e] at h; simp only at h; split at h <;> cases h

theorem entB_some {P : LP} {s : St} {k c : Nat} (h : s.entB P k = some c) : c < k ∧ 0 < s.T P P.m c ∧ ∀ j, j < k → 0 < s.T P P.m j → s.lo c ≤ s.lo j := by
  induction k generalizing c with
  | zero => simp [St.entB] at h
  | succ k ih =>
    simp only [St.entB] at h
    cases e : s.entB P k with
    | none =>
      rw [e] at h
      simp only at h
      split at h
      · next hp =>
        cases h
        refine ⟨by omega, hp, fun j hj hjp => ?_⟩
        by_cases hjk : j = k
        · subst hjk; exact Nat.le_refl _
        · have := entB_none e j (by omega); omega
      · cases h
    | some b =>
      rw [e] at h
      simp only at h
      obtain ⟨h1, h2, h3⟩ := ih e
      split at h
      · next hp =>
        cases h
        refine ⟨by omega, hp.1, fun j hj hjp => ?_⟩
        by_cases hjk : j = k
        · subst hjk; exact Nat.le_refl _
        · have := h3 j (by omega) hjp; omega
      · next hp =>
        cases h
        refine ⟨by omega, h2, fun j hj hjp => ?_⟩
        by_cases hjk : j = k
        · subst hjk
          have : ¬ (s.lo j < s.lo c) := fun hl => hp ⟨hjp, hl⟩
          omega
        · exact h3 j (by omega) hjp

theorem ent_of {P : LP} {s : St} {c : Nat} (h : s.entB P P.n = some c) : Ent P s c :=
  let ⟨a, b, d⟩ := entB_some h; ⟨a, b, d⟩

/-- the row that the program takes, of the first k -/
def St.lvB (s : St) (P : LP) (c : Nat) : Nat → Option Nat
  | 0 => none
  | k+1 => if s.T P k c ≤ 0 then s.lvB P c k else match s.lvB P c k with
    | none => some k
    | some b => if s.T P k P.n * s.T P b c - s.T P b P.n * s.T P k c < 0 ∨ (s.T P k P.n * s.T P b c - s.T P b P.n * s.T P k c = 0 ∧ s.ba k < s.ba b) then some k else some b

theorem lvB_none {P : LP} {s : St} {c k : Nat} (h : s.lvB P c k = none) : ∀ j, j < k → s.T P j c ≤ 0 := by
  induction k with
  | zero => intro j hj; omega
  | succ k ih =>
    simp only [St.lvB] at h
    split at h
    · next hk =>
      intro j hj
      by_cases hjk : j = k
      · subst hjk; exact hk
      · exact ih h j (by omega)
    · cases e : s.lvB P c k with
      | none => rw [e] at h; cases h
      | some b => rw [e] at h; simp only at h; split at h <;> cases h

theorem lvB_some {P : LP} {s : St} {c k r : Nat} (h : s.lvB P c k = some r) : r < k ∧ 0 < s.T P r c ∧
    ∀ j, j < k → 0 < s.T P j c → s.T P r P.n * s.T P j c ≤ s.T P j P.n * s.T P r c ∧ (s.T P r P.n * s.T P j c = s.T P j P.n * s.T P r c → s.ba r ≤ s.ba j) := by
  induction k generalizing r with
  | zero => simp [St.lvB] at h
  | succ k ih =>
    simp only [St.lvB] at h
    split at h
    · next hk =>
      obtain ⟨h1, h2, h3⟩ := ih h
      refine ⟨by omega, h2, fun j hj hjp => ?_⟩
      by_cases hjk : j = k
      · subst hjk; omega
      · exact h3 j (by omega) hjp
    · next hk =>
      have hk : 0 < s.T P k c := by omega
      cases e : s.lvB P c k with
      | none =>
        rw [e] at h
        cases h
        refine ⟨by omega, hk, fun j hj hjp => ?_⟩
        by_cases hjk : j = k
        · subst hjk; exact ⟨Int.le_refl _, fun _ => Nat.le_refl _⟩
        · have := lvB_none e j (by omega); omega
      | some b =>
        rw [e] at h
        simp only at h
        obtain ⟨h1, h2, h3⟩ := ih e
        split at h
        · next hp =>
          cases h
          refine ⟨by omega, hk, fun j hj hjp => ?_⟩
          by_cases hjk : j = k
          · subst hjk; exact ⟨Int.le_refl _, fun _ => Nat.le_refl _⟩
          · obtain ⟨g1, g2⟩ := h3 j (by omega) hjp
            generalize s.T P k P.n = yk at *
            generalize s.T P k c = xk at *
            generalize s.T P b P.n = yb at *
            generalize s.T P b c = xb at *
            generalize s.T P j P.n = yj at *
            generalize s.T P j c = xj at *
            have q1 : yb * xj * xk ≤ yj * xb * xk := Int.mul_le_mul_of_nonneg_right g1 (by omega)
            rcases hp with hp | ⟨hp, hb⟩
            · have hp' : yk * xb < yb * xk := by omega
              have q2 : yk * xb * xj < yb * xk * xj := Int.mul_lt_mul_of_pos_right hp' hjp
              have q3 : (yk * xj) * xb < (yj * xk) * xb := by grind
              have q4 : yk * xj < yj * xk := Int.lt_of_mul_lt_mul_right q3 (by omega)
              exact ⟨by omega, fun h => by omega⟩
            · have hp' : yk * xb = yb * xk := by omega
              have q2 : yk * xb * xj = yb * xk * xj := by rw [hp']
              have r1 : yk * xj * xb = yk * xb * xj := by ac_rfl
              have r2 : yj * xk * xb = yj * xb * xk := by ac_rfl
              have r3 : yb * xk * xj = yb * xj * xk := by ac_rfl
              have q3 : (yk * xj) * xb ≤ (yj * xk) * xb := by omega
              have q4 : yk * xj ≤ yj * xk := Int.le_of_mul_le_mul_right q3 h2
              refine ⟨q4, fun h => ?_⟩
              have : yb * xj = yj * xb := by
                have q5 : (yb * xj) * xk = (yj * xb) * xk := by grind
                exact Int.eq_of_mul_eq_mul_right (by omega) q5
              have := g2 this
              omega
        · next hp =>
          cases h
          refine ⟨by omega, h2, fun j hj hjp => ?_⟩
          by_cases hjk : j = k
          · subst hjk
            refine ⟨?_, fun h => ?_⟩
            · refine Int.not_lt.mp fun hl => hp (.inl (by omega))
            · refine Nat.not_lt.mp fun hl => hp (.inr ⟨by omega, hl⟩)
          · exact h3 j (by omega) hjp

theorem lv_of {P : LP} {s : St} {c r : Nat} (h : s.lvB P c P.m = some r) : Lvb P s r c :=
  let ⟨a, b, d⟩ := lvB_some h
  { lt := a, pos := b, min := fun k hk hp => (d k hk hp).1, first := fun k hk hp e => (d k hk hp).2 e }

inductive Fin where
  | top (s : St)
  | ray (s : St) (c : Nat)

def runS (P : LP) : Nat → St → Option Fin
  | 0, _ => none
  | f+1, s => match s.entB P P.n with
    | none => some (.top s)
    | some c => match s.lvB P c P.m with
      | none => some (.ray s c)
      | some r => runS P f (s.piv r c)

/-- a step, if there is one -/
def nextS (P : LP) (s : St) : St := match s.entB P P.n with
  | none => s
  | some c => match s.lvB P c P.m with
    | none => s
    | some r => s.piv r c
def iter (P : LP) (s : St) : Nat → St
  | 0 => s
  | t+1 => nextS P (iter P s t)
theorem iter_next (P : LP) (s : St) (t : Nat) : iter P (nextS P s) t = iter P s (t + 1) := by
  induction t with
  | zero => rfl
  | succ t ih => simp only [iter] at ih ⊢; rw [ih]

theorem runS_none {P : LP} (f : Nat) : ∀ s, runS P f s = none → ∀ t, t < f → ∃ c r, (iter P s t).entB P P.n = some c ∧ (iter P s t).lvB P c P.m = some r := by
  induction f with
  | zero => intro s _ t ht; omega
  | succ f ih =>
    intro s h t ht
    simp only [runS] at h
    cases e : s.entB P P.n with
    | none => rw [e] at h; cases h
    | some c =>
      rw [e] at h
      simp only at h
      cases e2 : s.lvB P c P.m with
      | none => rw [e2] at h; cases h
      | some r =>
        rw [e2] at h
        simp only at h
        cases t with
        | zero => exact ⟨c, r, e, e2⟩
        | succ t =>
          have hn : nextS P s = s.piv r c := by simp only [nextS, e, e2]
          rw [← iter_next, hn]
          exact ih _ h t (by omega)

theorem inv_next {P : LP} {s : St} (hI : Inv P s) : Inv P (nextS P s) := by
  simp only [nextS]
  cases e : s.entB P P.n with
  | none => exact hI
  | some c =>
    simp only
    cases e2 : s.lvB P c P.m with
    | none => exact hI
    | some r => exact inv_piv hI (ent_of e).lt (lv_of e2).toLv
theorem inv_iter {P : LP} {s : St} (hI : Inv P s) (t : Nat) : Inv P (iter P s t) := by
  induction t with
  | zero => exact hI
  | succ t ih => exact inv_next ih

/-- the climb ends -/
theorem runS_ends {P : LP} {s : St} (hI : Inv P s) : ∃ fin, runS P (2 ^ (P.n + P.m) + 1) s = some fin := by
  cases h : runS P (2 ^ (P.n + P.m) + 1) s with
  | some fin => exact ⟨fin, rfl⟩
  | none =>
    exfalso
    have hs := runS_none _ s h
    let c : Nat → Nat := fun t => ((iter P s t).entB P P.n).getD 0
    let r : Nat → Nat := fun t => ((iter P s t).lvB P (c t) P.m).getD 0
    have key : ∀ t, t < 2 ^ (P.n + P.m) + 1 → (iter P s t).entB P P.n = some (c t) ∧ (iter P s t).lvB P (c t) P.m = some (r t) := by
      intro t ht
      obtain ⟨c', r', e1, e2⟩ := hs t ht
      have hc : c t = c' := by show ((iter P s t).entB P P.n).getD 0 = c'; rw [e1]; rfl
      have hr : r t = r' := by show ((iter P s t).lvB P (c t) P.m).getD 0 = r'; rw [hc, e2]; rfl
      rw [hr, hc]; exact ⟨e1, e2⟩
    refine bland (P := P) (fun t => iter P s t) r c (fun t _ => inv_iter hI t) (fun t ht => ent_of (key t (by omega)).1) (fun t ht => lv_of (key t (by omega)).2) (fun t ht => ?_)
    obtain ⟨e1, e2⟩ := key t (by omega)
    show nextS P (iter P s t) = _
    simp only [nextS, e1, e2]

/-- what is known where the climb ends -/
inductive FinOk (P : LP) : Fin → Prop
  | top {s : St} (hI : Inv P s) (h : ∀ j, j < P.n → s.T P P.m j ≤ 0) : FinOk P (.top s)
  | ray {s : St} {c : Nat} (hI : Inv P s) (hc : Ent P s c) (h : ∀ k, k < P.m → s.T P k c ≤ 0) : FinOk P (.ray s c)
theorem runS_ok {P : LP} (f : Nat) : ∀ {s : St} {fin : Fin}, Inv P s → runS P f s = some fin → FinOk P fin := by
  induction f with
  | zero => intro s fin _ h; cases h
  | succ f ih =>
    intro s fin hI h
    simp only [runS] at h
    cases e : s.entB P P.n with
    | none => rw [e] at h; cases h; exact .top hI (entB_none e)
    | some c =>
      rw [e] at h
      simp only at h
      cases e2 : s.lvB P c P.m with
      | none => rw [e2] at h; cases h; exact .ray hI (ent_of e) (lvB_none e2)
      | some r => rw [e2] at h; exact ih (inv_piv hI (ent_of e).lt (lv_of e2).toLv) h

/-! the numbers stay small -/
theorem vec_small {P : LP} {K : Nat} (hK : 1 ≤ K) (ha : ∀ i, i < P.m → ∀ j, j < P.n → (P.a i j).natAbs ≤ K) (hl : ∀ i, i < P.m → (P.l i).natAbs ≤ K) (hg : ∀ j, j < P.n → (P.g j).natAbs ≤ K) (v p : Nat) : (P.vec v p).natAbs ≤ K := by
  simp only [LP.vec]
  split
  · split
    · exact ha _ (by assumption) _ (by assumption)
    · split
      · exact hg _ (by assumption)
      · simp
  · split
    · simp only [I]; split <;> simp <;> omega
    · split
      · exact hl _ (by assumption)
      · simp
theorem T_small {P : LP} {K : Nat} (hK : 1 ≤ K) (ha : ∀ i, i < P.m → ∀ j, j < P.n → (P.a i j).natAbs ≤ K) (hl : ∀ i, i < P.m → (P.l i).natAbs ≤ K) (hg : ∀ j, j < P.n → (P.g j).natAbs ≤ K) (s : St) (i j : Nat) :
    (s.T P i j).natAbs ≤ fac (P.m + 1) * K ^ (P.m + 1) := by
  refine det_bound _ fun k _ p _ => ?_
  simp only [up]
  split
  · exact vec_small hK ha hl hg _ _
  · exact vec_small hK ha hl hg _ _
theorem sc_small {P : LP} {K : Nat} (hK : 1 ≤ K) (ha : ∀ i, i < P.m → ∀ j, j < P.n → (P.a i j).natAbs ≤ K) (hl : ∀ i, i < P.m → (P.l i).natAbs ≤ K) (hg : ∀ j, j < P.n → (P.g j).natAbs ≤ K) (s : St) :
    (s.sc P).natAbs ≤ fac (P.m + 1) * K ^ (P.m + 1) := det_bound _ fun k _ p _ => vec_small hK ha hl hg _ _

/-! what the end tells, as functions -/
def St.xOf (s : St) (P : LP) (v : Nat) : Int := sm P.m (fun k => if s.ba k = v then s.T P k P.n else 0)
def St.yOf (s : St) (P : LP) (i : Nat) : Int := sm P.n (fun j => if s.lo j = P.n + i then - s.T P P.m j else 0)
def St.wOf (s : St) (P : LP) (c v : Nat) : Int := (if v = s.lo c then s.sc P else 0) + sm P.m (fun k => if s.ba k = v then - s.T P k c else 0)
theorem xOf_ok {P : LP} {s : St} (hI : Inv P s) : IsX P s (s.xOf P) := by
  refine ⟨fun k hk => ?_, fun j hj => ?_⟩
  · simp only [St.xOf]
    rw [sm_one k hk (fun i hi hn => if_neg fun e => hn (hI.bi i hi k hk e))]; simp
  · exact sm_zero fun k hk => if_neg (hI.ne k hk j hj)
theorem yOf_ok {P : LP} {s : St} (hI : Inv P s) : IsP P s (s.yOf P) := by
  refine ⟨fun j hj i e => ?_, fun k hk i e => ?_⟩
  · simp only [St.yOf]
    rw [sm_one j hj (fun j' hj' hn => if_neg fun e' => hn (hI.li j' hj' j hj (by omega)))]; simp [e]
  · exact sm_zero fun j hj => if_neg fun e' => hI.ne k hk j hj (by omega)
theorem wOf_ok {P : LP} {s : St} (hI : Inv P s) {c : Nat} (hc : c < P.n) : IsR P s c (s.wOf P c) := by
  refine ⟨fun k hk => ?_, ?_, fun j hj hn => ?_⟩
  · simp only [St.wOf]
    rw [if_neg (hI.ne k hk c hc), sm_one k hk (fun i hi hn => if_neg fun e => hn (hI.bi i hi k hk e))]; simp
  · simp only [St.wOf]
    rw [sm_zero fun k hk => if_neg (hI.ne k hk c hc)]; simp
  · simp only [St.wOf]
    rw [sm_zero fun k hk => if_neg (hI.ne k hk j hj), if_neg fun e => hn (hI.li j hj c hc e)]; rfl
end Sx
end

section
set_option maxRecDepth 100000
set_option maxHeartbeats 4000000
namespace PG
open L2 DL
def b_entering_column : DL.Env → DL.So :=
  (sSeq (sSet 2 [] (e1 oNeg (eC (.int 1)))) (sSeq (sFor [1] (iA oRng1 (aCons (eA oLen (aCons (eVar 1) aNil)) aNil)) (nName 3) (sIf [0, 3, 2, 1, 3, 1, 2] (tAn (tV (e2 (cop .Gt) (e2 oIx (eVar 0) (eVar 3)) (eC (.int 0)))) (tO (tV (e2 (cop .Lt) (eVar 2) (eC (.int 0)))) (tV (e2 (cop .Lt) (e2 oIx (eVar 1) (eVar 3)) (e2 oIx (eVar 1) (eVar 2)))))) (sSet 2 [3] (eVar 3)) sNext)) (sRetV 2)))
def m_entering_column (ds : List DL.D) : DL.M DL.Rs := pureM (runD 4 b_entering_column ds)
def b_leaving_row : DL.Env → DL.So :=
  (sSeq (sSet 3 [] (e1 oNeg (eC (.int 1)))) (sSeq (sFor [1] (iA oRng1 (aCons (eA oLen (aCons (eVar 1) aNil)) aNil)) (nName 4) (sSeq (sSet 5 [0, 4, 2] (e2 oIx (e2 oIx (eVar 0) (eVar 4)) (eVar 2))) (sSeq (sIf [5] (tV (e2 (cop .LtE) (eVar 5) (eC (.int 0)))) .ct sNext) (sSeq (sIf [3] (tV (e2 (cop .Lt) (eVar 3) (eC (.int 0)))) (sSeq (sSet 3 [4] (eVar 4)) .ct) sNext) (sSeq (sSet 6 [0, 4, 0, 3, 2, 0, 3, 5] (e2 oSub (e2 oMul (e2 oIx (e2 oIx (eVar 0) (eVar 4)) (e1 oNeg (eC (.int 1)))) (e2 oIx (e2 oIx (eVar 0) (eVar 3)) (eVar 2))) (e2 oMul (e2 oIx (e2 oIx (eVar 0) (eVar 3)) (e1 oNeg (eC (.int 1)))) (eVar 5)))) (sIf [6, 6, 1, 4, 1, 3] (tO (tV (e2 (cop .Lt) (eVar 6) (eC (.int 0)))) (tAn (tV (e2 (cop .Eq) (eVar 6) (eC (.int 0)))) (tV (e2 (cop .Lt) (e2 oIx (eVar 1) (eVar 4)) (e2 oIx (eVar 1) (eVar 3)))))) (sSet 3 [4] (eVar 4)) sNext)))))) (sRetV 3)))
def m_leaving_row (ds : List DL.D) : DL.M DL.Rs := pureM (runD 7 b_leaving_row ds)
def b_top_of : DL.Env → DL.So :=
  (sSeq (sSet 3 [2] (eA oLen (aCons (eVar 2) aNil))) (sSeq (sSet 4 [3] (e2 oMul (eA oLstD (aCons (eC (.int 0)) aNil)) (eVar 3))) (sSeq (sSet 5 [1] (e2 oMul (eA oLstD (aCons (eC (.int 0)) aNil)) (eA oLen (aCons (eVar 1) aNil)))) (sSeq (sFor [1] (iA oRng1 (aCons (eA oLen (aCons (eVar 1) aNil)) aNil)) (nName 6) (sIf [1, 6, 3] (tV (e2 (cop .Lt) (e2 oIx (eVar 1) (eVar 6)) (eVar 3))) (sSetIx 4 [0, 6] [1, 6] (e2 oIx (e2 oIx (eVar 0) (eVar 6)) (e1 oNeg (eC (.int 1)))) (e2 oIx (eVar 1) (eVar 6))) sNext)) (sSeq (sFor [3] (iA oRng1 (aCons (eVar 3) aNil)) (nName 7) (sIf [2, 7, 3] (tV (e2 (cop .GtE) (e2 oIx (eVar 2) (eVar 7)) (eVar 3))) (sSetIx 5 [0, 7] [2, 7, 3] (e1 oNeg (e2 oIx (e2 oIx (eVar 0) (e1 oNeg (eC (.int 1)))) (eVar 7))) (e2 oSub (e2 oIx (eVar 2) (eVar 7)) (eVar 3))) sNext)) (sRet [4, 5] (eA oTupD (aCons (eVar 4) (aCons (eVar 5) aNil)))))))))
def m_top_of (ds : List DL.D) : DL.M DL.Rs := pureM (runD 8 b_top_of ds)
def b_ray_of : DL.Env → DL.So :=
  (sSeq (sSet 5 [2] (eA oLen (aCons (eVar 2) aNil))) (sSeq (sSet 6 [5] (e2 oMul (eA oLstD (aCons (eC (.int 0)) aNil)) (eVar 5))) (sSeq (sIf [2, 3, 5] (tV (e2 (cop .Lt) (e2 oIx (eVar 2) (eVar 3)) (eVar 5))) (sSetIx 6 [4] [2, 3] (eVar 4) (e2 oIx (eVar 2) (eVar 3))) sNext) (sSeq (sFor [1] (iA oRng1 (aCons (eA oLen (aCons (eVar 1) aNil)) aNil)) (nName 7) (sIf [1, 7, 5] (tV (e2 (cop .Lt) (e2 oIx (eVar 1) (eVar 7)) (eVar 5))) (sSetIx 6 [0, 7, 3] [1, 7] (e1 oNeg (e2 oIx (e2 oIx (eVar 0) (eVar 7)) (eVar 3))) (e2 oIx (eVar 1) (eVar 7))) sNext)) (sRetV 6)))))
def m_ray_of (ds : List DL.D) : DL.M DL.Rs := pureM (runD 8 b_ray_of ds)
def b_lowest : DL.Env → DL.So :=
  (sSeq (sSet 1 [] (eC (.int 0))) (sSeq (sFor [0] (iE iterA (eVar 0)) (nName 2) (sSet 1 [1, 2] (eA oGcd (aCons (eVar 1) (aCons (eVar 2) aNil))))) (sSeq (sIf [1] (tV (e2 (cop .Lt) (eVar 1) (eC (.int 2)))) (sRet [0] (eA oTuple (aCons (eVar 0) aNil))) sNext) (sRet (List.range 64) (eA oTuple (aCons (eLc [2] (iE iterA (eVar 0)) (nName 2) tYesD (e2 oDiv (eVar 2) (eVar 1))) aNil))))))
def m_lowest (ds : List DL.D) : DL.M DL.Rs := pureM (runD 3 b_lowest ds)
def b_dot : DL.Env → DL.So :=
  (sRet (List.range 64) (eA oSum (aCons (eLc [2, 3] (iA oZip (aCons (eVar 0) (aCons (eVar 1) aNil))) (nTup 2 (nCons (nName 2) (nCons (nName 3) nNil))) tYesD (e2 oMul (eVar 2) (eVar 3))) aNil)))
def m_dot (ds : List DL.D) : DL.M DL.Rs := pureM (runD 4 b_dot ds)
def b_keeps : DL.Env → DL.So :=
  (sSeq (sIf [1] (tV (e2 (cop .Lt) (e2 oMinDf (eVar 1) (eC (.int 0))) (eC (.int 0)))) (sRet [] (eC (.bl false))) sNext) (sSeq (sFor [0] (iE iterA (eVar 0)) (nTup 2 (nCons (nName 2) (nCons (nName 3) nNil))) (sSeq (sSet 4 [2, 1] (eA (oCal 2 m_dot) (aCons (eVar 2) (aCons (eVar 1) aNil)))) (sIf [4, 3, 4] (tO (tV (e2 (cop .Lt) (eVar 4) (eC (.int 0)))) (tAn (tV (eVar 3)) (tV (e2 (cop .Eq) (eVar 4) (eC (.int 0)))))) (sRet [] (eC (.bl false))) sNext))) (sRet [] (eC (.bl true)))))
def m_keeps (ds : List DL.D) : DL.M DL.Rs := pureM (runD 5 b_keeps ds)
def b_clashes : DL.Env → DL.So :=
  (sSeq (sIf [2, 0, 2] (tO (tV (e2 (cop .NotEq) (eA oLen (aCons (eVar 2) aNil)) (eA oLen (aCons (eVar 0) aNil)))) (tV (e2 (cop .Lt) (e2 oMinDf (eVar 2) (eC (.int 0))) (eC (.int 0))))) (sRet [] (eC (.bl false))) sNext) (sSeq (sIf (List.range 64) (tV (e2 (cop .Eq) (eA oSum (aCons (eLc [4, 5, 6] (iA oZip (aCons (eVar 0) (aCons (eVar 2) aNil))) (nTup 2 (nCons (nTup 2 (nCons (nName 4) (nCons (nName 5) nNil))) (nCons (nName 6) nNil))) tYesD (e2 oMul (eA oInt (aCons (eVar 5) aNil)) (eVar 6))) aNil)) (eC (.int 0)))) (sRet [] (eC (.bl false))) sNext) (sSeq (sFor [1] (iA oRng1 (aCons (eVar 1) aNil)) (nName 3) (sIf (List.range 64) (tV (e2 (cop .Gt) (eA oSum (aCons (eLc [4, 5, 6] (iA oZip (aCons (eVar 0) (aCons (eVar 2) aNil))) (nTup 2 (nCons (nTup 2 (nCons (nName 4) (nCons (nName 5) nNil))) (nCons (nName 6) nNil))) tYesD (e2 oMul (eVar 6) (e2 oIx (eVar 4) (eVar 3)))) aNil)) (eC (.int 0)))) (sRet [] (eC (.bl false))) sNext)) (sRet [] (eC (.bl true))))))
def m_clashes (ds : List DL.D) : DL.M DL.Rs := pureM (runD 7 b_clashes ds)
end PG
end

section
set_option maxRecDepth 100000
set_option maxHeartbeats 1000000
/-! What the small defs of the simplex give. -/
namespace PG
open L2 DL
def optI : Option Nat → Int | none => -1 | some c => c
theorem ix_row {N : Nat} {f : Nat → Int} {j : Nat} (h : j < N) : atI (rowD N f) (j : Int) = some (.int (f j)) := by
  rw [DL.atI_nat, rowD_get h]
theorem ix_row_last {N : Nat} {f : Nat → Int} : atI (rowD (N + 1) f) (-1) = some (.int (f N)) := by
  rw [DL.atI_last, rowD_len]; exact rowD_get (by omega)
theorem ix_tab {M N : Nat} {T : Nat → Nat → Int} {i : Nat} (h : i < M) : atI (tabD M N T) (i : Int) = some (.lst (rowD N (T i))) := by
  rw [DL.atI_nat, tabD_get h]
theorem ix_tab_last {M N : Nat} {T : Nat → Nat → Int} : atI (tabD (M + 1) N T) (-1) = some (.lst (rowD N (T M))) := by
  rw [DL.atI_last, tabD_len]; exact tabD_get (by omega)
def rgD (n : Nat) : List DL.D := (List.range n).map fun (i : Nat) => DL.D.int (i : Int)
@[simp] theorem rgD_len {n : Nat} : (rgD n).length = n := by simp [rgD]
theorem rng1 {n : Nat} (h : n < 1000000) : oRng1 [.int n] = .ok (rgD n) := ev_rng1 (by omega)
theorem rng_get {n i : Nat} {d : DL.D} (h : (rgD n)[i]? = some d) : i < n ∧ d = .int i := by
  unfold rgD at h
  rw [List.getElem?_map] at h
  by_cases hi : i < n
  · rw [List.getElem?_range hi] at h
    cases h
    exact ⟨hi, rfl⟩
  · rw [List.getElem?_eq_none (by simp; omega)] at h
    cases h
theorem rowD_set {N : Nat} {f : Nat → Int} {j : Nat} {x : Int} (h : j < N) : (rowD N f).set j (.int x) = rowD N (fun k => if k = j then x else f k) := by
  apply List.ext_getElem?
  intro k
  rw [List.getElem?_set]
  by_cases hk : k < N
  · rw [rowD_get hk, rowD_get hk]
    by_cases e : j = k
    · subst e; simp [h]
    · rw [if_neg e, if_neg (Ne.symm e)]
  · rw [List.getElem?_eq_none (l := rowD N f) (by simp; omega), List.getElem?_eq_none (by simp; omega)]
    split
    · next e => subst e; omega
    · rfl
theorem zeros {n : Nat} (h : n < 1000000) : oMul (.lst [.int 0]) (.int n) = .ok (.ow (rowD n fun _ => 0)) := by
  have h3 : ([DL.D.int 0] : List DL.D).length * (n : Int).toNat ≤ PySem.sizeLine := by
    have := sz
    simp; omega
  have e : (List.replicate (n : Int).toNat [DL.D.int 0]).flatten = rowD n fun _ => 0 := by
    simp [rowD, List.map_const']
  show (if ([DL.D.int 0] : List DL.D).length * (n : Int).toNat ≤ PySem.sizeLine ∧ (n : Int) < 2 ^ 63 ∧ -(2 ^ 63) ≤ (n : Int) then DL.M.ok (Rs.ow (List.replicate (n : Int).toNat [DL.D.int 0]).flatten) else .bad) = _
  rw [if_pos ⟨h3, by omega, by omega⟩, e]

/-! entering_column -/
def bodyE : DL.Env → DL.So := sIf [0, 3, 2, 1, 3, 1, 2] (tAn (tV (e2 (cop .Gt) (e2 oIx (eVar 0) (eVar 3)) (eC (.int 0)))) (tO (tV (e2 (cop .Lt) (eVar 2) (eC (.int 0)))) (tV (e2 (cop .Lt) (e2 oIx (eVar 1) (eVar 3)) (e2 oIx (eVar 1) (eVar 2)))))) (sSet 2 [3] (eVar 3)) sNext
theorem bodyE_ev {gs ls : List DL.D} {i : Nat} {b : Int} {g li lb : Int} (h1 : atI gs (i : Int) = some (.int g)) (h2 : atI ls (i : Int) = some (.int li)) (h3 : ¬ b < 0 → atI ls b = some (.int lb)) :
    bodyE [.fz (.lst gs), .fz (.lst ls), .fz (.int b), .fz (.int i)] = .nx [.fz (.lst gs), .fz (.lst ls), .fz (.int (if 0 < g ∧ (b < 0 ∨ li < lb) then i else b)), .fz (.int i)] := by
  unfold bodyE
  by_cases hg : 0 < g <;> by_cases hb : b < 0
  · simp [hg, hb, h1, h2]
  · by_cases hl : li < lb <;> simp [hg, hb, h1, h2, h3 hb, hl]
  · simp [hg, hb, h1, h2]
  · simp [hg, hb, h1, h2]
theorem m_entering {P : Sx.LP} {s : Sx.St} (hn : P.n < 500000) : m_entering_column [.lst (rowD (P.n + 1) (s.T P P.m)), .lst (rowD P.n fun j => (s.lo j : Nat))] = .ok (.fz (.int (optI (s.entB P P.n)))) := by
  refine runD_ok ?_
  have hb : b_entering_column = sSeq (sSet 2 [] (e1 oNeg (eC (.int 1)))) (sSeq (sFor [1] (iA oRng1 (aCons (eA oLen (aCons (eVar 1) aNil)) aNil)) (nName 3) bodyE) (sRetV 2)) := rfl
  obtain ⟨e, h1, o, rfl⟩ := forL_nx (t := nName 3) (body := bodyE) (ds := rgD P.n) (env := [.fz (.lst (rowD (P.n + 1) (s.T P P.m))), .fz (.lst (rowD P.n fun j => (s.lo j : Nat))), .fz (.int (-1)), .un])
    (fun k e => ∃ o, e = [.fz (.lst (rowD (P.n + 1) (s.T P P.m))), .fz (.lst (rowD P.n fun j => (s.lo j : Nat))), .fz (.int (optI (s.entB P k))), o]) ⟨_, rfl⟩ (by
      rintro i d e hd ⟨o, rfl⟩
      obtain ⟨hi, rfl⟩ := rng_get hd
      refine ⟨_, rfl, _, .inl (bodyE_ev (ix_row (show i < P.n + 1 by omega)) (ix_row hi) (lb := ((s.lo ((s.entB P i).getD 0) : Nat) : Int)) ?_), .fz (.int i), ?_⟩
      · cases hb : s.entB P i with
        | none => simp [optI]
        | some b => exact fun _ => ix_row (show b < P.n by have := (Sx.entB_some hb).1; omega)
      · congr 4
        cases hb : s.entB P i with
        | none =>
          simp only [optI, hb, Sx.St.entB]
          by_cases hp : 0 < s.T P P.m i
          · simp [hp, optI]
          · simp [hp, optI]
        | some b =>
          simp only [optI, hb, Sx.St.entB, Option.getD_some]
          have : ¬ ((b : Int) < 0) := by omega
          have e2 : ((s.lo i : Nat) : Int) < ((s.lo b : Nat) : Int) ↔ s.lo i < s.lo b := by omega
          by_cases hp : 0 < s.T P P.m i ∧ s.lo i < s.lo b
          · simp [this, e2, hp, optI]
          · simp [this, e2, hp, optI])
  rw [hb]
  simp [startE, rng1 (show P.n < 1000000 by omega), h1]
end PG
end

section
set_option maxRecDepth 100000
set_option maxHeartbeats 1000000
namespace PG
open L2 DL
/-! leaving_row -/
def bodyL : DL.Env → DL.So := (sSeq (sSet 5 [0, 4, 2] (e2 oIx (e2 oIx (eVar 0) (eVar 4)) (eVar 2))) (sSeq (sIf [5] (tV (e2 (cop .LtE) (eVar 5) (eC (.int 0)))) .ct sNext) (sSeq (sIf [3] (tV (e2 (cop .Lt) (eVar 3) (eC (.int 0)))) (sSeq (sSet 3 [4] (eVar 4)) .ct) sNext) (sSeq (sSet 6 [0, 4, 0, 3, 2, 0, 3, 5] (e2 oSub (e2 oMul (e2 oIx (e2 oIx (eVar 0) (eVar 4)) (e1 oNeg (eC (.int 1)))) (e2 oIx (e2 oIx (eVar 0) (eVar 3)) (eVar 2))) (e2 oMul (e2 oIx (e2 oIx (eVar 0) (eVar 3)) (e1 oNeg (eC (.int 1)))) (eVar 5)))) (sIf [6, 6, 1, 4, 1, 3] (tO (tV (e2 (cop .Lt) (eVar 6) (eC (.int 0)))) (tAn (tV (e2 (cop .Eq) (eVar 6) (eC (.int 0)))) (tV (e2 (cop .Lt) (e2 oIx (eVar 1) (eVar 4)) (e2 oIx (eVar 1) (eVar 3)))))) (sSet 3 [4] (eVar 4)) sNext)))))
theorem bodyL_0 {tb bs rw_ : List DL.D} {c i : Nat} {b st : Int} {o5 o6 : DL.Sl} (h1 : atI tb (i : Int) = some (.lst rw_)) (h2 : atI rw_ (c : Int) = some (.int st)) (h : st ≤ 0) :
    bodyL [.fz (.lst tb), .fz (.lst bs), .fz (.int c), .fz (.int b), .fz (.int i), o5, o6] = .ct [.fz (.lst tb), .fz (.lst bs), .fz (.int c), .fz (.int b), .fz (.int i), .fz (.int st), o6] := by
  unfold bodyL
  simp [h1, h2, h]
theorem bodyL_1 {tb bs rw_ : List DL.D} {c i : Nat} {b st : Int} {o5 o6 : DL.Sl} (h1 : atI tb (i : Int) = some (.lst rw_)) (h2 : atI rw_ (c : Int) = some (.int st)) (h : ¬ st ≤ 0) (hb : b < 0) :
    bodyL [.fz (.lst tb), .fz (.lst bs), .fz (.int c), .fz (.int b), .fz (.int i), o5, o6] = .ct [.fz (.lst tb), .fz (.lst bs), .fz (.int c), .fz (.int i), .fz (.int i), .fz (.int st), o6] := by
  unfold bodyL
  simp [h1, h2, h, hb]
theorem bodyL_2 {tb bs rw_ rb : List DL.D} {c i b : Nat} {st yk yb xb li lb : Int} {o5 o6 : DL.Sl} (h1 : atI tb (i : Int) = some (.lst rw_)) (h2 : atI rw_ (c : Int) = some (.int st)) (h : ¬ st ≤ 0)
    (h3 : atI rw_ (-1) = some (.int yk)) (h4 : atI tb (b : Int) = some (.lst rb)) (h5 : atI rb (c : Int) = some (.int xb)) (h6 : atI rb (-1) = some (.int yb)) (h7 : atI bs (i : Int) = some (.int li)) (h8 : atI bs (b : Int) = some (.int lb))
    (m1 : mulOk yk xb = true) (m2 : mulOk yb st = true) :
    bodyL [.fz (.lst tb), .fz (.lst bs), .fz (.int c), .fz (.int b), .fz (.int i), o5, o6] = .nx [.fz (.lst tb), .fz (.lst bs), .fz (.int c), .fz (.int (if yk * xb - yb * st < 0 ∨ (yk * xb - yb * st = 0 ∧ li < lb) then i else b)), .fz (.int i), .fz (.int st), .fz (.int (yk * xb - yb * st))] := by
  unfold bodyL
  have hb : ¬ ((b : Int) < 0) := by omega
  simp only [ev_seq, ev_set, ev_e2, ev_vs, ev_v0f, ev_bok, ev_rfz, ev_ixL, h1, h2, ev_oR, ev_pok, ev_ofM, ev_frzInt, ev_sfz, List.set, ev_tn, ev_if, ev_tV, ev_c, ev_copLe, ev_le, ev_asB, h, decide_false, Bool.false_eq_true, if_false, ev_next, ev_copLt, ev_lt, hb, ev_e1, ev_neg, h3, h4, h5, h6, ev_mul m1, ev_mul m2, ev_sub]
  generalize yk * xb - yb * st = od
  by_cases q1 : od < 0
  · simp [q1]
  · by_cases q2 : od = 0
    · by_cases q3 : li < lb <;> simp [q1, q2, q3, h7, h8]
    · simp [q1, q2]
theorem m_leaving {P : Sx.LP} {s : Sx.St} {c : Nat} (hc : c < P.n) (hn : P.m < 500000) (sm : Small (P.m + 1) (P.n + 1) (s.T P)) :
    m_leaving_row [.lst (tabD (P.m + 1) (P.n + 1) (s.T P)), .lst (rowD P.m fun j => (s.ba j : Nat)), .int c] = .ok (.fz (.int (optI (s.lvB P c P.m)))) := by
  refine runD_ok ?_
  have hb : b_leaving_row = sSeq (sSet 3 [] (e1 oNeg (eC (.int 1)))) (sSeq (sFor [1] (iA oRng1 (aCons (eA oLen (aCons (eVar 1) aNil)) aNil)) (nName 4) bodyL) (sRetV 3)) := rfl
  obtain ⟨e, h1, o4, o5, o6, rfl⟩ := forL_nx (t := nName 4) (body := bodyL) (ds := rgD P.m) (env := [.fz (.lst (tabD (P.m + 1) (P.n + 1) (s.T P))), .fz (.lst (rowD P.m fun j => (s.ba j : Nat))), .fz (.int c), .fz (.int (-1)), .un, .un, .un])
    (fun k e => ∃ o4 o5 o6, e = [.fz (.lst (tabD (P.m + 1) (P.n + 1) (s.T P))), .fz (.lst (rowD P.m fun j => (s.ba j : Nat))), .fz (.int c), .fz (.int (optI (s.lvB P c k))), o4, o5, o6]) ⟨_, _, _, rfl⟩ (by
      rintro i d e hd ⟨o4, o5, o6, rfl⟩
      obtain ⟨hi, rfl⟩ := rng_get hd
      have q1 : atI (tabD (P.m + 1) (P.n + 1) (s.T P)) (i : Int) = some (.lst (rowD (P.n + 1) (s.T P i))) := ix_tab (by omega)
      have q2 : atI (rowD (P.n + 1) (s.T P i)) (c : Int) = some (.int (s.T P i c)) := ix_row (by omega)
      refine ⟨_, rfl, ?_⟩
      show ∃ e2, (bodyL [.fz (.lst (tabD (P.m + 1) (P.n + 1) (s.T P))), .fz (.lst (rowD P.m fun j => (s.ba j : Nat))), .fz (.int c), .fz (.int (optI (s.lvB P c i))), .fz (.int i), o5, o6] = _ ∨ bodyL [.fz (.lst (tabD (P.m + 1) (P.n + 1) (s.T P))), .fz (.lst (rowD P.m fun j => (s.ba j : Nat))), .fz (.int c), .fz (.int (optI (s.lvB P c i))), .fz (.int i), o5, o6] = _) ∧ _
      by_cases h0 : s.T P i c ≤ 0
      · refine ⟨_, .inr (bodyL_0 q1 q2 h0), .fz (.int i), .fz (.int (s.T P i c)), o6, ?_⟩
        simp only [Sx.St.lvB, if_pos h0]
      · cases hb : s.lvB P c i with
        | none =>
          refine ⟨_, .inr (bodyL_1 q1 q2 h0 (by simp [optI])), .fz (.int i), .fz (.int (s.T P i c)), o6, ?_⟩
          simp only [Sx.St.lvB, if_neg h0, hb, optI]
        | some b =>
          have hbk := (Sx.lvB_some hb).1
          refine ⟨_, .inl (bodyL_2 q1 q2 h0 ix_row_last (ix_tab (show b < P.m + 1 by omega)) (ix_row (show c < P.n + 1 by omega)) ix_row_last (ix_row hi) (ix_row (show b < P.m by omega))
            (mul_small (sm _ (by omega) _ (by omega)) (sm _ (by omega) _ (by omega))) (mul_small (sm _ (by omega) _ (by omega)) (sm _ (by omega) _ (by omega)))), .fz (.int i), .fz (.int (s.T P i c)), .fz (.int (s.T P i P.n * s.T P b c - s.T P b P.n * s.T P i c)), ?_⟩
          simp only [Sx.St.lvB, if_neg h0, hb, optI]
          have e2 : ((s.ba i : Nat) : Int) < ((s.ba b : Nat) : Int) ↔ s.ba i < s.ba b := by omega
          simp only [e2]
          split <;> rfl)
  rw [hb]
  simp [startE, rng1 (show P.m < 1000000 by omega), h1]

/-! top_of -/
def bodyW : DL.Env → DL.So := (sIf [1, 6, 3] (tV (e2 (cop .Lt) (e2 oIx (eVar 1) (eVar 6)) (eVar 3))) (sSetIx 4 [0, 6] [1, 6] (e2 oIx (e2 oIx (eVar 0) (eVar 6)) (e1 oNeg (eC (.int 1)))) (e2 oIx (eVar 1) (eVar 6))) sNext)
def bodyP : DL.Env → DL.So := (sIf [2, 7, 3] (tV (e2 (cop .GtE) (e2 oIx (eVar 2) (eVar 7)) (eVar 3))) (sSetIx 5 [0, 7] [2, 7, 3] (e1 oNeg (e2 oIx (e2 oIx (eVar 0) (e1 oNeg (eC (.int 1)))) (eVar 7))) (e2 oSub (e2 oIx (eVar 2) (eVar 7)) (eVar 3))) sNext)
theorem bodyW_ev {tb bs rw_ : List DL.D} {n i v : Nat} {y : Int} {f : Nat → Int} {d2 o5 o7 : DL.Sl} (h1 : atI tb (i : Int) = some (.lst rw_)) (h2 : atI bs (i : Int) = some (.int v)) (h3 : atI rw_ (-1) = some (.int y)) :
    bodyW [.fz (.lst tb), .fz (.lst bs), d2, .fz (.int n), .ow (rowD n f), o5, .fz (.int i), o7] = .nx [.fz (.lst tb), .fz (.lst bs), d2, .fz (.int n), .ow (rowD n fun k => if k = v then y else f k), o5, .fz (.int i), o7] := by
  unfold bodyW
  by_cases hv : v < n
  · have hv' : (v : Int) < n := by omega
    simp [h1, h2, h3, hv', DL.ixN_nat hv, rowD_set hv]
  · have hv' : ¬ (v : Int) < n := by omega
    simp [h1, h2, hv']
    exact rowD_congr fun j hj => by rw [if_neg (by omega)]
theorem bodyP_ev {tb ls lr : List DL.D} {n m i v : Nat} {y : Int} {f : Nat → Int} {d1 o4 o6 : DL.Sl} (h1 : atI tb (-1) = some (.lst lr)) (h2 : atI ls (i : Int) = some (.int v)) (h3 : atI lr (i : Int) = some (.int y)) (hv : v < n + m) :
    bodyP [.fz (.lst tb), d1, .fz (.lst ls), .fz (.int n), o4, .ow (rowD m f), o6, .fz (.int i)] = .nx [.fz (.lst tb), d1, .fz (.lst ls), .fz (.int n), o4, .ow (rowD m fun k => if v = n + k then - y else f k), o6, .fz (.int i)] := by
  unfold bodyP
  by_cases hn : n ≤ v
  · have hn' : (n : Int) ≤ v := by omega
    have e : (v : Int) - n = ((v - n : Nat) : Int) := by omega
    have hl : v - n < m := by omega
    simp [h1, h2, h3, hn', e, DL.ixN_nat hl, rowD_set hl]
    refine rowD_congr fun j hj => ?_
    have : (j = v - n) = (v = n + j) := by apply propext; omega
    simp [this]
  · have hn' : ¬ (n : Int) ≤ v := by omega
    simp [h1, h2, hn']
    exact rowD_congr fun j hj => by rw [if_neg (by omega)]
theorem m_top {P : Sx.LP} {s : Sx.St} (hI : Sx.Inv P s) (hm : P.m < 500000) (hn : P.n < 500000) :
    m_top_of [.lst (tabD (P.m + 1) (P.n + 1) (s.T P)), .lst (rowD P.m fun j => (s.ba j : Nat)), .lst (rowD P.n fun j => (s.lo j : Nat))] = .ok (.fz (.tup [.lst (rowD P.n (s.xOf P)), .lst (rowD P.m (s.yOf P))])) := by
  refine runD_ok ?_
  have hb : b_top_of = (sSeq (sSet 3 [2] (eA oLen (aCons (eVar 2) aNil))) (sSeq (sSet 4 [3] (e2 oMul (eA oLstD (aCons (eC (.int 0)) aNil)) (eVar 3))) (sSeq (sSet 5 [1] (e2 oMul (eA oLstD (aCons (eC (.int 0)) aNil)) (eA oLen (aCons (eVar 1) aNil)))) (sSeq (sFor [1] (iA oRng1 (aCons (eA oLen (aCons (eVar 1) aNil)) aNil)) (nName 6) bodyW) (sSeq (sFor [3] (iA oRng1 (aCons (eVar 3) aNil)) (nName 7) bodyP) (sRet [4, 5] (eA oTupD (aCons (eVar 4) (aCons (eVar 5) aNil))))))))) := rfl
  obtain ⟨e, h1, o6, rfl⟩ := forL_nx (t := nName 6) (body := bodyW) (ds := rgD P.m) (env := [.fz (.lst (tabD (P.m + 1) (P.n + 1) (s.T P))), .fz (.lst (rowD P.m fun j => (s.ba j : Nat))), .fz (.lst (rowD P.n fun j => (s.lo j : Nat))), .fz (.int P.n), .ow (rowD P.n fun _ => 0), .ow (rowD P.m fun _ => 0), .un, .un])
    (fun k e => ∃ o6, e = [.fz (.lst (tabD (P.m + 1) (P.n + 1) (s.T P))), .fz (.lst (rowD P.m fun j => (s.ba j : Nat))), .fz (.lst (rowD P.n fun j => (s.lo j : Nat))), .fz (.int P.n), .ow (rowD P.n fun v => Sx.sm k fun i => if s.ba i = v then s.T P i P.n else 0), .ow (rowD P.m fun _ => 0), o6, .un]) ⟨_, rfl⟩ (by
      rintro i d e hd ⟨o6, rfl⟩
      obtain ⟨hi, rfl⟩ := rng_get hd
      refine ⟨_, rfl, _, .inl (bodyW_ev (ix_tab (show i < P.m + 1 by omega)) (ix_row hi) ix_row_last), .fz (.int i), ?_⟩
      congr 5
      refine congrArg _ (rowD_congr fun v hv => ?_)
      simp only [Sx.sm]
      by_cases e : v = s.ba i
      · subst e
        rw [if_pos rfl, Sx.sm_zero (fun k hk => if_neg fun e => by have := hI.bi k (by omega) i hi e; omega)]
        simp
      · rw [if_neg e, if_neg (Ne.symm e), Int.add_zero]) 
  obtain ⟨e, h2, o7, rfl⟩ := forL_nx (t := nName 7) (body := bodyP) (ds := rgD P.n) (env := [.fz (.lst (tabD (P.m + 1) (P.n + 1) (s.T P))), .fz (.lst (rowD P.m fun j => (s.ba j : Nat))), .fz (.lst (rowD P.n fun j => (s.lo j : Nat))), .fz (.int P.n), .ow (rowD P.n (s.xOf P)), .ow (rowD P.m fun _ => 0), o6, .un])
    (fun k e => ∃ o7, e = [.fz (.lst (tabD (P.m + 1) (P.n + 1) (s.T P))), .fz (.lst (rowD P.m fun j => (s.ba j : Nat))), .fz (.lst (rowD P.n fun j => (s.lo j : Nat))), .fz (.int P.n), .ow (rowD P.n (s.xOf P)), .ow (rowD P.m fun v => Sx.sm k fun i => if s.lo i = P.n + v then - s.T P P.m i else 0), o6, o7]) ⟨_, rfl⟩ (by
      rintro i d e hd ⟨o7, rfl⟩
      obtain ⟨hi, rfl⟩ := rng_get hd
      refine ⟨_, rfl, _, .inl (bodyP_ev ix_tab_last (ix_row hi) (ix_row (show i < P.n + 1 by omega)) (hI.ll i hi)), .fz (.int i), ?_⟩
      congr 6
      refine congrArg _ (rowD_congr fun v hv => ?_)
      simp only [Sx.sm]
      by_cases e : s.lo i = P.n + v
      · rw [if_pos e, if_pos e, Sx.sm_zero (fun k hk => if_neg fun e' => by have := hI.li k (by omega) i hi (by omega); omega)]
        simp
      · rw [if_neg e, if_neg e, Int.add_zero])
  have hx : (fun v => Sx.sm P.m fun i => if s.ba i = v then s.T P i P.n else 0) = s.xOf P := rfl
  have hy : (fun v => Sx.sm P.n fun i => if s.lo i = P.n + v then - s.T P P.m i else 0) = s.yOf P := rfl
  simp only [rgD_len, hx] at h1
  simp only [rgD_len, hy] at h2
  have sz2 : 2 ≤ PySem.sizeLine := by have := sz; omega
  have l1 : oLstD [.int 0] = .ok (.ow [.int 0]) := by unfold oLstD; rw [if_pos (by simp; omega)]
  rw [hb]
  simp [startE, l1, zeros (show P.n < 1000000 by omega), zeros (show P.m < 1000000 by omega), rng1 (show P.n < 1000000 by omega), rng1 (show P.m < 1000000 by omega), h1, h2, oTupD, sz2]

/-! ray_of -/
def bodyR : DL.Env → DL.So := (sIf [1, 7, 5] (tV (e2 (cop .Lt) (e2 oIx (eVar 1) (eVar 7)) (eVar 5))) (sSetIx 6 [0, 7, 3] [1, 7] (e1 oNeg (e2 oIx (e2 oIx (eVar 0) (eVar 7)) (eVar 3))) (e2 oIx (eVar 1) (eVar 7))) sNext)
theorem bodyR_ev {tb bs rw_ : List DL.D} {n i v c : Nat} {y : Int} {f : Nat → Int} {d2 d4 : DL.Sl} (h1 : atI tb (i : Int) = some (.lst rw_)) (h2 : atI bs (i : Int) = some (.int v)) (h3 : atI rw_ (c : Int) = some (.int y)) :
    bodyR [.fz (.lst tb), .fz (.lst bs), d2, .fz (.int c), d4, .fz (.int n), .ow (rowD n f), .fz (.int i)] = .nx [.fz (.lst tb), .fz (.lst bs), d2, .fz (.int c), d4, .fz (.int n), .ow (rowD n fun k => if k = v then - y else f k), .fz (.int i)] := by
  unfold bodyR
  by_cases hv : v < n
  · have hv' : (v : Int) < n := by omega
    simp [h1, h2, h3, hv', DL.ixN_nat hv, rowD_set hv]
  · have hv' : ¬ (v : Int) < n := by omega
    simp [h1, h2, hv']
    exact rowD_congr fun j hj => by rw [if_neg (by omega)]
theorem m_ray {P : Sx.LP} {s : Sx.St} (hI : Sx.Inv P s) {c : Nat} (hc : c < P.n) (hm : P.m < 500000) (hn : P.n < 500000) :
    m_ray_of [.lst (tabD (P.m + 1) (P.n + 1) (s.T P)), .lst (rowD P.m fun j => (s.ba j : Nat)), .lst (rowD P.n fun j => (s.lo j : Nat)), .int c, .int (s.sc P)] = .ok (.ow (rowD P.n (s.wOf P c))) := by
  refine runD_ok ?_
  have hb : b_ray_of = (sSeq (sSet 5 [2] (eA oLen (aCons (eVar 2) aNil))) (sSeq (sSet 6 [5] (e2 oMul (eA oLstD (aCons (eC (.int 0)) aNil)) (eVar 5))) (sSeq (sIf [2, 3, 5] (tV (e2 (cop .Lt) (e2 oIx (eVar 2) (eVar 3)) (eVar 5))) (sSetIx 6 [4] [2, 3] (eVar 4) (e2 oIx (eVar 2) (eVar 3))) sNext) (sSeq (sFor [1] (iA oRng1 (aCons (eA oLen (aCons (eVar 1) aNil)) aNil)) (nName 7) bodyR) (sRetV 6))))) := rfl
  obtain ⟨e, h1, o6, rfl⟩ := forL_nx (t := nName 7) (body := bodyR) (ds := rgD P.m) (env := [.fz (.lst (tabD (P.m + 1) (P.n + 1) (s.T P))), .fz (.lst (rowD P.m fun j => (s.ba j : Nat))), .fz (.lst (rowD P.n fun j => (s.lo j : Nat))), .fz (.int c), .fz (.int (s.sc P)), .fz (.int P.n), .ow (rowD P.n fun v => if v = s.lo c then s.sc P else 0), .un])
    (fun k e => ∃ o6, e = [.fz (.lst (tabD (P.m + 1) (P.n + 1) (s.T P))), .fz (.lst (rowD P.m fun j => (s.ba j : Nat))), .fz (.lst (rowD P.n fun j => (s.lo j : Nat))), .fz (.int c), .fz (.int (s.sc P)), .fz (.int P.n), .ow (rowD P.n fun v => (if v = s.lo c then s.sc P else 0) + Sx.sm k fun i => if s.ba i = v then - s.T P i c else 0), o6]) ⟨.un, by simp [Sx.sm]⟩ (by
      rintro i d e hd ⟨o6, rfl⟩
      obtain ⟨hi, rfl⟩ := rng_get hd
      refine ⟨_, rfl, _, .inl (bodyR_ev (ix_tab (show i < P.m + 1 by omega)) (ix_row hi) (ix_row (show c < P.n + 1 by omega))), .fz (.int i), ?_⟩
      congr 7
      refine congrArg _ (rowD_congr fun v hv => ?_)
      simp only [Sx.sm]
      by_cases e : v = s.ba i
      · subst e
        rw [if_pos rfl, if_neg (hI.ne i hi c hc), Sx.sm_zero (fun k hk => if_neg fun e => by have := hI.bi k (by omega) i hi e; omega)]
        simp
      · rw [if_neg e, if_neg (Ne.symm e)]; omega)
  have hx : (fun v => (if v = s.lo c then s.sc P else 0) + Sx.sm P.m fun i => if s.ba i = v then - s.T P i c else 0) = s.wOf P c := rfl
  simp only [rgD_len, hx] at h1
  have sz2 : 2 ≤ PySem.sizeLine := by have := sz; omega
  have l1 : oLstD [.int 0] = .ok (.ow [.int 0]) := by unfold oLstD; rw [if_pos (by simp; omega)]
  rw [hb]
  by_cases hv : s.lo c < P.n
  · have hv' : ((s.lo c : Nat) : Int) < P.n := by omega
    simp [startE, l1, zeros (show P.n < 1000000 by omega), ix_row hc, hv', DL.ixN_nat hv, rowD_set hv, rng1 (show P.m < 1000000 by omega), h1]
  · have hv' : ¬ ((s.lo c : Nat) : Int) < P.n := by omega
    have e0 : rowD P.n (fun v => if v = s.lo c then s.sc P else 0) = rowD P.n fun _ => 0 := rowD_congr fun j hj => by rw [if_neg (by omega)]
    rw [e0] at h1
    simp [startE, l1, zeros (show P.n < 1000000 by omega), ix_row hc, hv', rng1 (show P.m < 1000000 by omega), h1]
end PG
end

section
set_option maxRecDepth 100000
set_option maxHeartbeats 1000000
/-! The climb, told without the heap. -/
namespace PG
open L2 DL
def toIntss : List DL.D → Option (List (List Int))
  | [] => some []
  | .lst ds :: r => (toInts ds).bind fun ns => (toIntss r).map (ns :: ·)
  | _ => none
def lpOf (cs : List (List Int)) (ls gs : List Int) : Sx.LP := ⟨ls.length, cs.length, fun i j => (cs.getD j []).getD i 0, fun i => ls.getD i 0, fun j => gs.getD j 0⟩
structure ClOk (cs : List (List Int)) (ls gs : List Int) : Prop where
  len : gs.length = cs.length
  col : ∀ c, c ∈ cs → ls.length ≤ c.length
  pos : ∀ l, l ∈ ls → 0 ≤ l
  n : cs.length < 400000
  m : ls.length < 400000
  K : ∃ K, 1 ≤ K ∧ (∀ c, c ∈ cs → ∀ x, x ∈ c → x.natAbs ≤ K) ∧ (∀ x, x ∈ ls → x.natAbs ≤ K) ∧ (∀ x, x ∈ gs → x.natAbs ≤ K) ∧ (Sx.fac (ls.length + 1) * K ^ (ls.length + 1)).log2 < 9000
def finD (P : Sx.LP) : Sx.Fin → DL.D
  | .top s => .tup [.str "top", .int (s.sc P), .lst (rowD P.n (s.xOf P)), .lst (rowD P.m (s.yOf P))]
  | .ray s c => .tup [.str "ray", .int 1, .lst (rowD P.n (s.wOf P c)), .lst []]
open Classical in
noncomputable def m_climb : List DL.D → DL.M DL.Rs
  | [.lst cs, .lst ls, .lst gs] => match toIntss cs, toInts ls, toInts gs with
    | some cs, some ls, some gs => if ClOk cs ls gs then (match Sx.runS (lpOf cs ls gs) (2 ^ (cs.length + ls.length) + 1) (Sx.St.init (lpOf cs ls gs)) with | some fin => .ok (.fz (finD (lpOf cs ls gs) fin)) | none => .bad) else .bad
    | _, _, _ => .bad
  | _ => .bad
theorem toInts_eq : ∀ {ds : List DL.D} {ns : List Int}, toInts ds = some ns → ds = ns.map D.int
  | [], ns, h => by cases h; rfl
  | .int i :: ds, ns, h => by
    simp only [toInts] at h
    cases e : toInts ds with
    | none => rw [e] at h; cases h
    | some ms => rw [e] at h; cases h; rw [toInts_eq e]; rfl
  | .non :: _, _, h => by simp [toInts] at h
  | .bl _ :: _, _, h => by simp [toInts] at h
  | .str _ :: _, _, h => by simp [toInts] at h
  | .tup _ :: _, _, h => by simp [toInts] at h
  | .lst _ :: _, _, h => by simp [toInts] at h
  | .scr _ :: _, _, h => by simp [toInts] at h
  | .obj _ _ :: _, _, h => by simp [toInts] at h
theorem toInts_map (ns : List Int) : toInts (ns.map D.int) = some ns := by
  induction ns with
  | nil => rfl
  | cons n ns ih => simp [toInts, ih]
def lsD (ns : List Int) : DL.D := .lst (ns.map D.int)
theorem toIntss_eq : ∀ {ds : List DL.D} {cs : List (List Int)}, toIntss ds = some cs → ds = cs.map lsD
  | [], cs, h => by cases h; rfl
  | .lst d :: ds, cs, h => by
    simp only [toIntss] at h
    cases e : toInts d with
    | none => rw [e] at h; cases h
    | some ms =>
      rw [e] at h
      simp only [Option.bind_some] at h
      cases e2 : toIntss ds with
      | none => rw [e2] at h; cases h
      | some ks => rw [e2] at h; cases h; rw [toIntss_eq e2, toInts_eq e]; rfl
  | .non :: _, _, h => by simp [toIntss] at h
  | .bl _ :: _, _, h => by simp [toIntss] at h
  | .str _ :: _, _, h => by simp [toIntss] at h
  | .tup _ :: _, _, h => by simp [toIntss] at h
  | .int _ :: _, _, h => by simp [toIntss] at h
  | .scr _ :: _, _, h => by simp [toIntss] at h
  | .obj _ _ :: _, _, h => by simp [toIntss] at h
theorem toIntss_map (cs : List (List Int)) : toIntss (cs.map lsD) = some cs := by
  induction cs with
  | nil => rfl
  | cons c cs ih => simp [toIntss, lsD, toInts_map] at ih ⊢; simp [ih]
theorem ints_row (ns : List Int) : ns.map D.int = rowD ns.length fun i => ns.getD i 0 := by
  apply List.ext_getElem?
  intro i
  by_cases h : i < ns.length
  · rw [rowD_get h, List.getElem?_map, List.getElem?_eq_getElem h]
    simp [List.getD, h]
  · rw [List.getElem?_eq_none (by simp; omega), List.getElem?_eq_none (by simp; omega)]
/-- where the climb gives something -/
theorem climb_in {ds : List DL.D} {r : DL.Rs} (h : m_climb ds = .ok r) : ∃ cs ls gs fin, ds = [.lst (cs.map lsD), .lst (ls.map D.int), .lst (gs.map D.int)] ∧ ClOk cs ls gs ∧ Sx.runS (lpOf cs ls gs) (2 ^ (cs.length + ls.length) + 1) (Sx.St.init (lpOf cs ls gs)) = some fin ∧ r = .fz (finD (lpOf cs ls gs) fin) := by
  unfold m_climb at h
  split at h
  · next cs ls gs =>
    split at h
    · next cs' ls' gs' e1 e2 e3 =>
      split at h
      · next ok =>
        split at h
        · next fin e => cases h; exact ⟨cs', ls', gs', fin, by rw [toIntss_eq e1, toInts_eq e2, toInts_eq e3], ok, e, rfl⟩
        · cases h
      · cases h
    · cases h
  · cases h
theorem climb_noex {ds : List DL.D} {x : Exc} : m_climb ds ≠ .ex x := by
  unfold m_climb
  intro h
  split at h
  · split at h
    · split at h
      · split at h <;> cases h
      · cases h
    · cases h
  · cases h
/-- it gives something wherever it may be asked -/
theorem climb_ok {cs : List (List Int)} {ls gs : List Int} (ok : ClOk cs ls gs) : ∃ fin, m_climb [.lst (cs.map lsD), .lst (ls.map D.int), .lst (gs.map D.int)] = .ok (.fz (finD (lpOf cs ls gs) fin)) ∧ Sx.FinOk (lpOf cs ls gs) fin := by
  have hI : Sx.Inv (lpOf cs ls gs) (Sx.St.init (lpOf cs ls gs)) := Sx.inv_init _ (fun p hp => by
    have hp : p < ls.length := hp
    show 0 ≤ ls.getD p 0
    rw [List.getD_eq_getElem?_getD, List.getElem?_eq_getElem hp]
    exact ok.pos _ (List.getElem_mem hp))
  obtain ⟨fin, e⟩ := Sx.runS_ends hI
  refine ⟨fin, ?_, Sx.runS_ok _ hI e⟩
  have e : Sx.runS (lpOf cs ls gs) (2 ^ (cs.length + ls.length) + 1) (Sx.St.init (lpOf cs ls gs)) = some fin := e
  unfold m_climb
  simp only [toIntss_map, toInts_map]
  rw [if_pos ok, e]
end PG
end

section
set_option maxRecDepth 100000
set_option maxHeartbeats 1000000
/-! The rows of the first table. -/
namespace PG
open L2 DL
section
variable {cs : List (List Int)} {ls gs : List Int}
theorem row_add {n : Nat} {f : Nat → Int} {x : Int} : rowD n f ++ [DL.D.int x] = rowD (n + 1) fun j => if j < n then f j else x := by
  apply List.ext_getElem?
  intro j
  by_cases h : j < n
  · rw [List.getElem?_append_left (by simpa using h), rowD_get h, rowD_get (by omega), if_pos h]
  · by_cases e : j = n
    · subst e
      rw [List.getElem?_append_right (by simp), rowD_get (by omega), if_neg h]
      simp
    · rw [List.getElem?_eq_none (by simp; omega), List.getElem?_eq_none (by simp; omega)]
theorem col_row (i : Nat) : cs.map (fun c => DL.D.int (c.getD i 0)) = rowD cs.length fun j => (cs.getD j []).getD i 0 := by
  apply List.ext_getElem?
  intro j
  by_cases h : j < cs.length
  · rw [rowD_get h, List.getElem?_map, List.getElem?_eq_getElem h]
    simp [List.getD, h]
  · rw [List.getElem?_eq_none (by simp; omega), List.getElem?_eq_none (by simp; omega)]
theorem T0_row {i : Nat} (hi : i < ls.length) : rowD (cs.length + 1) (fun j => if j < cs.length then (cs.getD j []).getD i 0 else ls.getD i 0) = rowD (cs.length + 1) ((Sx.St.init (lpOf cs ls gs)).T (lpOf cs ls gs) i) := by
  have hm : (lpOf cs ls gs).m = ls.length := rfl
  have hn : (lpOf cs ls gs).n = cs.length := rfl
  refine rowD_congr fun j hj => ?_
  rw [Sx.T_init _ (show i < (lpOf cs ls gs).m + 1 by omega)]
  by_cases h : j < cs.length
  · have e : (Sx.St.init (lpOf cs ls gs)).lo j = j := by
      show (if j = (lpOf cs ls gs).n then _ else j) = j
      rw [if_neg (by omega)]
    rw [if_pos h, e, Sx.vec_col (by omega) (by omega)]
    rfl
  · have e : (Sx.St.init (lpOf cs ls gs)).lo j = (lpOf cs ls gs).n + (lpOf cs ls gs).m + 1 := by
      show (if j = (lpOf cs ls gs).n then _ else j) = _
      rw [if_pos (by omega)]
    rw [if_neg h, e, Sx.vec_lim (by omega)]
    rfl
theorem T0_obj (hl : gs.length = cs.length) : gs.map DL.D.int ++ [DL.D.int 0] = rowD (cs.length + 1) ((Sx.St.init (lpOf cs ls gs)).T (lpOf cs ls gs) ls.length) := by
  have hm : (lpOf cs ls gs).m = ls.length := rfl
  have hn : (lpOf cs ls gs).n = cs.length := rfl
  rw [ints_row, row_add, hl]
  refine rowD_congr fun j hj => ?_
  rw [Sx.T_init _ (show ls.length < (lpOf cs ls gs).m + 1 by omega)]
  by_cases h : j < cs.length
  · have e : (Sx.St.init (lpOf cs ls gs)).lo j = j := by
      show (if j = (lpOf cs ls gs).n then _ else j) = j
      rw [if_neg (by omega)]
    rw [if_pos h, e, ← hm, Sx.vec_gain (by omega)]
    rfl
  · have e : (Sx.St.init (lpOf cs ls gs)).lo j = (lpOf cs ls gs).n + (lpOf cs ls gs).m + 1 := by
      show (if j = (lpOf cs ls gs).n then _ else j) = _
      rw [if_pos (by omega)]
    rw [if_neg h, e, ← hm, Sx.vec_lim_m]
theorem small_of {K N : Nat} {x : Int} (h : x.natAbs ≤ N) (hN : N.log2 < 9000) : x.natAbs.log2 < 9000 := by
  by_cases h0 : x.natAbs = 0
  · rw [h0]; decide
  · have a : x.natAbs < 2 ^ 9000 := by
      have : N < 2 ^ 9000 := by
        by_cases hN0 : N = 0
        · omega
        · exact (Nat.log2_lt hN0).mp hN
      omega
    exact (Nat.log2_lt h0).mpr a
theorem lp_small (ok : ClOk cs ls gs) : ∃ K, 1 ≤ K ∧ (∀ i, i < (lpOf cs ls gs).m → ∀ j, j < (lpOf cs ls gs).n → ((lpOf cs ls gs).a i j).natAbs ≤ K) ∧ (∀ i, i < (lpOf cs ls gs).m → ((lpOf cs ls gs).l i).natAbs ≤ K) ∧ (∀ j, j < (lpOf cs ls gs).n → ((lpOf cs ls gs).g j).natAbs ≤ K) ∧ (Sx.fac ((lpOf cs ls gs).m + 1) * K ^ ((lpOf cs ls gs).m + 1)).log2 < 9000 := by
  obtain ⟨K, h1, h2, h3, h4, h5⟩ := ok.K
  refine ⟨K, h1, fun i hi j hj => ?_, fun i hi => ?_, fun j hj => ?_, h5⟩
  · have hj : j < cs.length := hj
    have hi : i < ls.length := hi
    show ((cs.getD j []).getD i 0).natAbs ≤ K
    rw [List.getD_eq_getElem?_getD, List.getD_eq_getElem?_getD, List.getElem?_eq_getElem hj]
    have hl := ok.col _ (List.getElem_mem hj)
    simp only [Option.getD_some]
    rw [List.getElem?_eq_getElem (by omega)]
    exact h2 _ (List.getElem_mem hj) _ (List.getElem_mem _)
  · have hi : i < ls.length := hi
    show (ls.getD i 0).natAbs ≤ K
    rw [List.getD_eq_getElem?_getD, List.getElem?_eq_getElem hi]
    exact h3 _ (List.getElem_mem _)
  · have hj : j < gs.length := by rw [ok.len]; exact hj
    show (gs.getD j 0).natAbs ≤ K
    rw [List.getD_eq_getElem?_getD, List.getElem?_eq_getElem hj]
    exact h4 _ (List.getElem_mem _)
theorem lp_T (ok : ClOk cs ls gs) (s : Sx.St) : Small ((lpOf cs ls gs).m + 1) ((lpOf cs ls gs).n + 1) (s.T (lpOf cs ls gs)) := by
  obtain ⟨K, h1, h2, h3, h4, h5⟩ := lp_small ok
  exact fun i _ j _ => small_of (K := K) (Sx.T_small h1 h2 h3 h4 s i j) h5
theorem lp_sc (ok : ClOk cs ls gs) (s : Sx.St) : (s.sc (lpOf cs ls gs)).natAbs.log2 < 9000 := by
  obtain ⟨K, h1, h2, h3, h4, h5⟩ := lp_small ok
  exact small_of (K := K) (Sx.sc_small h1 h2 h3 h4 s) h5
end
end PG
end

section
set_option maxRecDepth 100000
set_option maxHeartbeats 4000000
namespace PG
open L2 DL
noncomputable def b_solve : DL.Env → DL.So :=
  (sSeq (sSet 2 (List.range 64) (eLc [6, 8] (iE iterA (eVar 0)) (nTup 2 (nCons (nName 6) (nCons (nName 8) nNil))) tYesD (eA oList (aCons (eVar 6) aNil)))) (sSeq (sSet 3 (List.range 64) (eLc [6, 8] (iE iterA (eVar 0)) (nTup 2 (nCons (nName 6) (nCons (nName 8) nNil))) tYesD (eA oInt (aCons (eVar 8) aNil)))) (sSeq (sAsg [2, 1, 3] (nTup 4 (nCons (nName 4) (nCons (nName 5) (nCons (nName 6) (nCons (nName 7) nNil))))) (eA (oCal 3 m_climb) (aCons (eVar 2) (aCons (e2 oMul (eA oLstD (aCons (eC (.int 0)) aNil)) (eVar 1)) (aCons (eVar 3) aNil))))) (sSeq (sIf [4] (tV (e2 (cop .Eq) (eVar 4) (eC (.str "ray")))) (sRet [6] (eA oTupD (aCons (eC (.str "paper")) (aCons (eA (oCal 1 m_lowest) (aCons (eVar 6) aNil)) aNil)))) sNext) (sRet [7] (eA oTupD (aCons (eC (.str "point")) (aCons (eA (oCal 1 m_lowest) (aCons (eVar 7) aNil)) aNil))))))))
noncomputable def m_solve (ds : List DL.D) : DL.M DL.Rs := pureM (runD 9 b_solve ds)
end PG
end

section
set_option maxRecDepth 100000
set_option maxHeartbeats 1000000
/-! The small defs over rows of numbers: sums, the least, points that keep. -/
namespace PG
open L2 DL
def Says (m : DL.M DL.Rs) (P : Prop) : Prop := ∃ b : Bool, m = .ok (.fz (.bl b)) ∧ (b = true ↔ P)
theorem Says.t {m : DL.M DL.Rs} {P : Prop} (h : Says m P) (p : P) : m = .ok (.fz (.bl true)) := by
  obtain ⟨b, e, i⟩ := h; rw [e, i.mpr p]
theorem Says.f {m : DL.M DL.Rs} {P : Prop} (h : Says m P) (p : ¬ P) : m = .ok (.fz (.bl false)) := by
  obtain ⟨b, e, i⟩ := h
  have : b = false := by cases b with | false => rfl | true => exact absurd (i.mp rfl) p
  rw [e, this]
theorem sum_sm (N : Nat) (f : Nat → Int) : ((List.range N).map f).sum = Sx.sm N f := by
  induction N with
  | zero => rfl
  | succ N ih => rw [List.range_succ, List.map_append, List.sum_append, ih]; simp [Sx.sm]
theorem rowD_ints (N : Nat) (f : Nat → Int) : rowD N f = ((List.range N).map f).map D.int := by simp [rowD]
theorem toInts_row (N : Nat) (f : Nat → Int) : toInts (rowD N f) = some ((List.range N).map f) := by rw [rowD_ints, toInts_map]
@[simp] theorem sum_row (N : Nat) (f : Nat → Int) : oSum [.lst (rowD N f)] = .ok (.fz (.int (Sx.sm N f))) := by
  simp only [oSum, one1, ofInts, toInts_row, sum_sm]
/-- a list or a tuple -/
def Sq (d : DL.D) (ds : List DL.D) : Prop := d = .lst ds ∨ d = .tup ds
theorem Sq.ix {d : DL.D} {ds : List DL.D} (h : Sq d ds) (i : Int) : oIx d (.int i) = oR (atI ds i) := by rcases h with rfl | rfl <;> rfl
theorem Sq.len {d : DL.D} {ds : List DL.D} (h : Sq d ds) : oLen [d] = .ok (.fz (.int ds.length)) := by rcases h with rfl | rfl <;> rfl
theorem Sq.iter {d : DL.D} {ds : List DL.D} (h : Sq d ds) : iterA d = .ok ds := by rcases h with rfl | rfl <;> rfl
theorem Sq.seq {d : DL.D} {ds : List DL.D} (h : Sq d ds) : seqD d = some ds := by rcases h with rfl | rfl <;> rfl
theorem Sq.ints {d : DL.D} {ds : List DL.D} (h : Sq d ds) (f : List Int → DL.M DL.Rs) : ofInts f d = match toInts ds with | some ns => f ns | none => .bad := by rcases h with rfl | rfl <;> rfl
theorem Sq.l (ds : List DL.D) : Sq (.lst ds) ds := .inl rfl
theorem Sq.t (ds : List DL.D) : Sq (.tup ds) ds := .inr rfl
theorem min_df {d : DL.D} {N : Nat} {f : Nat → Int} (h : Sq d (rowD N f)) : ∃ m, oMinDf d (.int 0) = .ok (.fz (.int m)) ∧ (m < 0 ↔ ∃ p, p < N ∧ f p < 0) := by
  unfold oMinDf
  rw [h.ints, toInts_row]
  simp only
  by_cases h0 : (List.range N).map f = []
  · refine ⟨0, by rw [if_pos h0], ?_⟩
    have : N = 0 := by simpa using h0
    subst this
    simp
  · refine ⟨minI ((List.range N).map f), by rw [if_neg h0], ?_⟩
    constructor
    · intro hm
      obtain ⟨p, hp, e⟩ := List.mem_map.mp (minI_mem h0)
      exact ⟨p, List.mem_range.mp hp, by omega⟩
    · rintro ⟨p, hp, hf⟩
      have := minI_le (ns := (List.range N).map f) (f p) (List.mem_map.mpr ⟨p, List.mem_range.mpr hp, rfl⟩)
      omega
theorem mul_l {i j : Int} (h : i.natAbs < 2 ^ 64) : oMul (.int i) (.int j) = .ok (.fz (.int (i * j))) := by
  refine ev_mul ?_
  unfold mulOk
  simp [h]
theorem mul_r {i j : Int} (h : j.natAbs < 2 ^ 64) : oMul (.int i) (.int j) = .ok (.fz (.int (i * j))) := by
  refine ev_mul ?_
  unfold mulOk
  simp [h]
def dotF (N : Nat) (f g : Nat → Int) : Int := Sx.sm N fun i => f i * g i
theorem says_dot {d1 d2 : DL.D} {N : Nat} {f g : Nat → Int} (hN : N < 1000000) (h1 : Sq d1 (rowD N f)) (h2 : Sq d2 (rowD N g)) (hf : ∀ i, i < N → (f i).natAbs < 2 ^ 64) : m_dot [d1, d2] = .ok (.fz (.int (dotF N f g))) := by
  refine runD_ok ?_
  have hl : eLc [2, 3] (iA oZip (aCons (eVar 0) (aCons (eVar 1) aNil))) (nTup 2 (nCons (nName 2) (nCons (nName 3) nNil))) tYesD (e2 oMul (eVar 2) (eVar 3)) [.fz d1, .fz d2, .un, .un] = .ok (.ow (rowD N fun i => f i * g i)) := by
    refine ev_lc (ds := (List.range N).map fun j => D.tup [.int (f j), .int (g j)]) (by simp) ?_ ?_ (.inr (by simpa using hN))
    · simp [oZip, h1.seq, h2.seq, zip_rows]
    · refine lcL_map (List.range N) _ (fun j => .int (f j * g j)) fun j hj => ?_
      have hj := List.mem_range.mp hj
      refine ⟨_, .fz (.int (f j * g j)), rfl, rfl, ?_, rfl⟩
      simp [wipeE, mul_l (hf j hj)]
  show b_dot [.fz d1, .fz d2, .un, .un] = _
  unfold b_dot
  simp only [ev_ret, ev_eA, ev_aCons, hl, ev_bok, ev_row, ev_aNil, sum_row, ev_pok, ev_ofM]
  rfl

/-! rows: weights and whether strict -/
def rowsD (R N : Nat) (W : Nat → Nat → Int) (st : Nat → Bool) : List DL.D := (List.range R).map fun k => D.tup [.lst (rowD N (W k)), .bl (st k)]
@[simp] theorem rowsD_len {R N : Nat} {W : Nat → Nat → Int} {st : Nat → Bool} : (rowsD R N W st).length = R := by simp [rowsD]
theorem rowsD_get {R N : Nat} {W : Nat → Nat → Int} {st : Nat → Bool} {k : Nat} (h : k < R) : (rowsD R N W st)[k]? = some (.tup [.lst (rowD N (W k)), .bl (st k)]) := by simp [rowsD, h]
theorem rowsD_at {R N : Nat} {W : Nat → Nat → Int} {st : Nat → Bool} {k : Nat} {d : DL.D} (h : (rowsD R N W st)[k]? = some d) : k < R ∧ d = .tup [.lst (rowD N (W k)), .bl (st k)] := by
  by_cases hk : k < R
  · rw [rowsD_get hk] at h; cases h; exact ⟨hk, rfl⟩
  · rw [List.getElem?_eq_none (by simp; omega)] at h; cases h
theorem rowD_at {N : Nat} {f : Nat → Int} {k : Nat} {d : DL.D} (h : (rowD N f)[k]? = some d) : k < N ∧ d = .int (f k) := by
  by_cases hk : k < N
  · rw [rowD_get hk] at h; cases h; exact ⟨hk, rfl⟩
  · rw [List.getElem?_eq_none (by simp; omega)] at h; cases h
def GoodRow (N : Nat) (W : Nat → Nat → Int) (st : Nat → Bool) (f : Nat → Int) (k : Nat) : Prop := 0 ≤ dotF N (W k) f ∧ (st k = true → dotF N (W k) f ≠ 0)
def Keeps (R N : Nat) (W : Nat → Nat → Int) (st : Nat → Bool) (f : Nat → Int) : Prop := (∀ p, p < N → 0 ≤ f p) ∧ ∀ k, k < R → GoodRow N W st f k
/-- a test that a row fails -/
theorem row_test {t : Int} {s : Bool} : (decide (t < 0) || (s && decide (t = 0))) = false ↔ (0 ≤ t ∧ (s = true → t ≠ 0)) := by
  cases s <;> by_cases h1 : t < 0 <;> by_cases h2 : t = 0 <;> simp [h1, h2] <;> omega
def bodyK : DL.Env → DL.So := (sSeq (sSet 4 [2, 1] (eA (oCal 2 m_dot) (aCons (eVar 2) (aCons (eVar 1) aNil)))) (sIf [4, 3, 4] (tO (tV (e2 (cop .Lt) (eVar 4) (eC (.int 0)))) (tAn (tV (eVar 3)) (tV (e2 (cop .Eq) (eVar 4) (eC (.int 0)))))) (sRet [] (eC (.bl false))) sNext))
theorem says_keeps {R N : Nat} {W : Nat → Nat → Int} {st : Nat → Bool} {f : Nat → Int} {d : DL.D} (hN : N < 1000000) (hd : Sq d (rowD N f)) (hW : ∀ k, k < R → ∀ i, i < N → (W k i).natAbs < 2 ^ 64) :
    Says (m_keeps [.lst (rowsD R N W st), d]) (Keeps R N W st f) := by
  obtain ⟨m, me1, me2⟩ := min_df hd
  have hb : b_keeps = (sSeq (sIf [1] (tV (e2 (cop .Lt) (e2 oMinDf (eVar 1) (eC (.int 0))) (eC (.int 0)))) (sRet [] (eC (.bl false))) sNext) (sSeq (sFor [0] (iE iterA (eVar 0)) (nTup 2 (nCons (nName 2) (nCons (nName 3) nNil))) bodyK) (sRet [] (eC (.bl true))))) := rfl
  by_cases hm : m < 0
  · refine ⟨false, runD_ok ?_, by simp; intro h; obtain ⟨p, hp, hf⟩ := me2.mp hm; have := h.1 p hp; omega⟩
    rw [hb]
    simp [startE, me1, hm]
  · have pos : ∀ p, p < N → 0 ≤ f p := fun p hp => Int.not_lt.mp fun h => hm (me2.mpr ⟨p, hp, h⟩)
    have loop := forL_gen (t := nTup 2 (nCons (nName 2) (nCons (nName 3) nNil))) (body := bodyK) (ds := rowsD R N W st) (env := [.fz (.lst (rowsD R N W st)), .fz d, .un, .un, .un])
      (fun i e => (∀ k, k < i → GoodRow N W st f k) ∧ ∃ o2 o3 o4, e = [.fz (.lst (rowsD R N W st)), .fz d, o2, o3, o4])
      (fun s => (s = .rt (.fz (.bl false)) ∧ ¬ Keeps R N W st f) ∨ ∃ e, s = .nx e ∧ Keeps R N W st f) ⟨fun k hk => by omega, _, _, _, rfl⟩ (by
        rintro i dd e hdd ⟨good, o2, o3, o4, rfl⟩
        obtain ⟨hi, rfl⟩ := rowsD_at hdd
        have dv := says_dot hN (Sq.l (rowD N (W i))) hd (hW i hi)
        refine ⟨_, rfl, ?_⟩
        show _ ∨ _
        by_cases g : GoodRow N W st f i
        · refine .inl ⟨[.fz (.lst (rowsD R N W st)), .fz d, .fz (.lst (rowD N (W i))), .fz (.bl (st i)), .fz (.int (dotF N (W i) f))], .inl ?_, fun k hk => ?_, _, _, _, rfl⟩
          · obtain ⟨g1, g2⟩ := g
            have n1 : ¬ dotF N (W i) f < 0 := by omega
            unfold bodyK
            cases hs : st i with
            | false => simp [oCal, dv, n1]
            | true => simp [oCal, dv, n1, g2 hs]
          · by_cases hki : k = i
            · rw [hki]; exact g
            · exact good k (by omega)
        · refine .inr (.inl ⟨_, ?_, .inl ⟨rfl, fun h => g (h.2 i hi)⟩⟩)
          unfold bodyK
          by_cases n1 : dotF N (W i) f < 0
          · simp [oCal, dv, n1]
          · have : st i = true ∧ dotF N (W i) f = 0 := by
              refine Classical.byContradiction fun hc => g ⟨by omega, fun hs h0 => hc ⟨hs, h0⟩⟩
            simp [oCal, dv, this.1, this.2])
      (fun e ⟨good, _⟩ => .inr ⟨e, rfl, pos, fun k hk => good k (by simpa using hk)⟩)
    have start : b_keeps (startE 5 [.lst (rowsD R N W st), d]) = (forL (nTup 2 (nCons (nName 2) (nCons (nName 3) nNil))) bodyK (rowsD R N W st) [.fz (.lst (rowsD R N W st)), .fz d, .un, .un, .un]).andThen (sRet [] (eC (.bl true))) := by
      rw [hb]
      simp [startE, me1, hm]
    rcases loop with ⟨l, nk⟩ | ⟨e, l, k⟩
    · exact ⟨false, runD_ok (by rw [start, l]; simp), by simp [nk]⟩
    · exact ⟨true, runD_ok (by rw [start, l]; simp), by simp [k]⟩
end PG
end

section
set_option maxRecDepth 100000
set_option maxHeartbeats 1000000
/-! Papers that bar; lowest terms. -/
namespace PG
open L2 DL
structure Barred (R N : Nat) (W : Nat → Nat → Int) (st : Nat → Bool) (f : Nat → Int) : Prop where
  pos : ∀ k, k < R → 0 ≤ f k
  firm : ∃ k, k < R ∧ st k = true ∧ 0 < f k
  sum : ∀ p, p < N → dotF R f (fun k => W k p) ≤ 0
def b01 (b : Bool) : Int := if b then 1 else 0
theorem firm_iff {R : Nat} {st : Nat → Bool} {f : Nat → Int} (pos : ∀ k, k < R → 0 ≤ f k) : dotF R (fun k => b01 (st k)) f = 0 ↔ ¬ ∃ k, k < R ∧ st k = true ∧ 0 < f k := by
  have nn : ∀ k, k < R → 0 ≤ b01 (st k) * f k := fun k hk => by
    have := pos k hk
    cases h : st k <;> simp [b01, this]
  constructor
  · rintro h ⟨k, hk, hs, hf⟩
    unfold dotF at h
    rw [Sx.sm_split k hk] at h
    dsimp only at h
    have : 0 ≤ Sx.sm R (fun i => if i = k then 0 else b01 (st i) * f i) := Sx.sm_nonneg fun i hi => by
      split
      · exact Int.le_refl _
      · exact nn i hi
    rw [hs] at h
    have e1 : b01 true = 1 := rfl
    rw [e1, Int.one_mul] at h
    omega
  · intro h
    refine Sx.sm_zero fun k hk => ?_
    cases hs : st k with
    | false => simp [b01, hs]
    | true =>
      have : ¬ 0 < f k := fun hf => h ⟨k, hk, hs, hf⟩
      have := pos k hk
      have : f k = 0 := by omega
      simp [this]
def cSum1 : DL.Env → DL.M Rs := eLc [4, 5, 6] (iA oZip (aCons (eVar 0) (aCons (eVar 2) aNil))) (nTup 2 (nCons (nTup 2 (nCons (nName 4) (nCons (nName 5) nNil))) (nCons (nName 6) nNil))) tYesD (e2 oMul (eA oInt (aCons (eVar 5) aNil)) (eVar 6))
def cSum2 : DL.Env → DL.M Rs := eLc [4, 5, 6] (iA oZip (aCons (eVar 0) (aCons (eVar 2) aNil))) (nTup 2 (nCons (nTup 2 (nCons (nName 4) (nCons (nName 5) nNil))) (nCons (nName 6) nNil))) tYesD (e2 oMul (eVar 6) (e2 oIx (eVar 4) (eVar 3)))
def bodyC : DL.Env → DL.So := (sIf (List.range 64) (tV (e2 (cop .Gt) (eA oSum (aCons cSum2 aNil)) (eC (.int 0)))) (sRet [] (eC (.bl false))) sNext)
theorem zip_rowsD {R N : Nat} {W : Nat → Nat → Int} {st : Nat → Bool} {f : Nat → Int} : (rowsD R N W st).zip (rowD R f) = (List.range R).map fun k => (D.tup [.lst (rowD N (W k)), .bl (st k)], D.int (f k)) := by
  simp only [rowsD, rowD]
  induction List.range R with
  | nil => rfl
  | cons x xs ih => simp [ih]
theorem e_sum1 {R N : Nat} {W : Nat → Nat → Int} {st : Nat → Bool} {f : Nat → Int} {d d1 : DL.D} (hR : R < 1000000) (hd : Sq d (rowD R f)) : cSum1 [.fz (.lst (rowsD R N W st)), .fz d1, .fz d, .un, .un, .un, .un] = .ok (.ow (rowD R fun k => b01 (st k) * f k)) := by
  refine ev_lc (ds := (List.range R).map fun k => D.tup [.tup [.lst (rowD N (W k)), .bl (st k)], .int (f k)]) (by simp) ?_ ?_ (.inr (by simpa using hR))
  · simp [oZip, hd.seq, (Sq.l (rowsD R N W st)).seq, zip_rowsD]
  · refine lcL_map (List.range R) _ (fun k => .int (b01 (st k) * f k)) fun k hk => ?_
    refine ⟨_, .fz (.int (b01 (st k) * f k)), rfl, rfl, ?_, rfl⟩
    have : (b01 (st k)).natAbs < 2 ^ 64 := by cases st k <;> decide
    have e : (if st k = true then (1 : Int) else 0) = b01 (st k) := rfl
    simp [wipeE, e, mul_l this]
theorem e_sum2 {R N p : Nat} {W : Nat → Nat → Int} {st : Nat → Bool} {f : Nat → Int} {d d1 : DL.D} (hR : R < 1000000) (hd : Sq d (rowD R f)) (hp : p < N) (hW : ∀ k, k < R → ∀ i, i < N → (W k i).natAbs < 2 ^ 64) : cSum2 [.fz (.lst (rowsD R N W st)), .fz d1, .fz d, .fz (.int p), .un, .un, .un] = .ok (.ow (rowD R fun k => f k * W k p)) := by
  refine ev_lc (ds := (List.range R).map fun k => D.tup [.tup [.lst (rowD N (W k)), .bl (st k)], .int (f k)]) (by simp) ?_ ?_ (.inr (by simpa using hR))
  · simp [oZip, hd.seq, (Sq.l (rowsD R N W st)).seq, zip_rowsD]
  · refine lcL_map (List.range R) _ (fun k => .int (f k * W k p)) fun k hk => ?_
    have hk := List.mem_range.mp hk
    refine ⟨_, .fz (.int (f k * W k p)), rfl, rfl, ?_, rfl⟩
    simp [wipeE, mul_r (hW k hk p hp), ix_row hp]
theorem says_clashes {R N M : Nat} {W : Nat → Nat → Int} {st : Nat → Bool} {f : Nat → Int} {d : DL.D} (hR : R < 1000000) (hN : N < 1000000) (hd : Sq d (rowD M f)) (hW : ∀ k, k < R → ∀ i, i < N → (W k i).natAbs < 2 ^ 64) :
    Says (m_clashes [.lst (rowsD R N W st), .int N, d]) (M = R ∧ Barred R N W st f) := by
  obtain ⟨m, me1, me2⟩ := min_df hd
  have hb : b_clashes = (sSeq (sIf [2, 0, 2] (tO (tV (e2 (cop .NotEq) (eA oLen (aCons (eVar 2) aNil)) (eA oLen (aCons (eVar 0) aNil)))) (tV (e2 (cop .Lt) (e2 oMinDf (eVar 2) (eC (.int 0))) (eC (.int 0))))) (sRet [] (eC (.bl false))) sNext) (sSeq (sIf (List.range 64) (tV (e2 (cop .Eq) (eA oSum (aCons cSum1 aNil)) (eC (.int 0)))) (sRet [] (eC (.bl false))) sNext) (sSeq (sFor [1] (iA oRng1 (aCons (eVar 1) aNil)) (nName 3) bodyC) (sRet [] (eC (.bl true)))))) := rfl
  by_cases hM : M = R
  · subst hM
    by_cases hm : m < 0
    · refine ⟨false, runD_ok ?_, by simp; intro h; obtain ⟨p, hp, hf⟩ := me2.mp hm; have := h.pos p hp; omega⟩
      rw [hb]
      simp [startE, me1, hm, hd.len]
    · have pos : ∀ p, p < M → 0 ≤ f p := fun p hp => Int.not_lt.mp fun h => hm (me2.mpr ⟨p, hp, h⟩)
      have s1 := e_sum1 (N := N) (W := W) (st := st) (d1 := .int N) hR hd
      by_cases h0 : dotF M (fun k => b01 (st k)) f = 0
      · refine ⟨false, runD_ok ?_, by simp; intro h; exact (firm_iff pos).mp h0 h.firm⟩
        rw [hb]
        have h0' : Sx.sm M (fun k => b01 (st k) * f k) = 0 := h0
        simp [startE, me1, hm, hd.len, s1, h0']
      · have h0' : ¬ Sx.sm M (fun k => b01 (st k) * f k) = 0 := h0
        have firm : ∃ k, k < M ∧ st k = true ∧ 0 < f k := Classical.byContradiction fun hc => h0 ((firm_iff pos).mpr hc)
        have loop := forL_gen (t := nName 3) (body := bodyC) (ds := rgD N) (env := [.fz (.lst (rowsD M N W st)), .fz (.int N), .fz d, .un, .un, .un, .un])
          (fun i e => (∀ p, p < i → dotF M f (fun k => W k p) ≤ 0) ∧ ∃ o3, e = [.fz (.lst (rowsD M N W st)), .fz (.int N), .fz d, o3, .un, .un, .un])
          (fun s => (s = .rt (.fz (.bl false)) ∧ ¬ Barred M N W st f) ∨ ∃ e, s = .nx e ∧ Barred M N W st f) ⟨fun k hk => by omega, _, rfl⟩ (by
            rintro i dd e hdd ⟨good, o3, rfl⟩
            obtain ⟨hi, rfl⟩ := rng_get hdd
            have s2 := e_sum2 (N := N) (st := st) (d1 := .int N) hR hd hi hW
            refine ⟨_, rfl, ?_⟩
            show _ ∨ _
            by_cases g : 0 < dotF M f (fun k => W k i)
            · refine .inr (.inl ⟨_, ?_, .inl ⟨rfl, fun h => by have := h.sum i hi; omega⟩⟩)
              have g' : 0 < Sx.sm M (fun k => f k * W k i) := g
              unfold bodyC
              simp [s2, g']
            · have g' : ¬ 0 < Sx.sm M (fun k => f k * W k i) := g
              refine .inl ⟨[.fz (.lst (rowsD M N W st)), .fz (.int N), .fz d, .fz (.int i), .un, .un, .un], .inl ?_, fun k hk => ?_, _, rfl⟩
              · unfold bodyC
                simp [s2, g']
              · by_cases hki : k = i
                · rw [hki]; omega
                · exact good k (by omega))
          (fun e ⟨good, _⟩ => .inr ⟨e, rfl, pos, firm, fun p hp => good p (by simpa using hp)⟩)
        have start : b_clashes (startE 7 [.lst (rowsD M N W st), .int N, d]) = (forL (nName 3) bodyC (rgD N) [.fz (.lst (rowsD M N W st)), .fz (.int N), .fz d, .un, .un, .un, .un]).andThen (sRet [] (eC (.bl true))) := by
          rw [hb]
          simp [startE, me1, hm, hd.len, s1, h0', rng1 hN]
        rcases loop with ⟨l, nk⟩ | ⟨e, l, k⟩
        · exact ⟨false, runD_ok (by rw [start, l]; simp), by simp [nk]⟩
        · exact ⟨true, runD_ok (by rw [start, l]; simp), by simp [k]⟩
  · refine ⟨false, runD_ok ?_, by simp [hM]⟩
    rw [hb]
    have : ¬ (M : Int) = R := by omega
    simp [startE, hd.len, this]

/-! lowest terms -/
def gcdN (f : Nat → Int) : Nat → Nat
  | 0 => 0
  | k+1 => Nat.gcd (gcdN f k) (f k).natAbs
theorem gcd_dvd {f : Nat → Int} {N i : Nat} (h : i < N) : gcdN f N ∣ (f i).natAbs := by
  induction N with
  | zero => omega
  | succ N ih =>
    simp only [gcdN]
    by_cases e : i = N
    · subst e; exact Nat.gcd_dvd_right _ _
    · exact Nat.dvd_trans (Nat.gcd_dvd_left _ _) (ih (by omega))
theorem dvd_gcdN {f : Nat → Int} {N d : Nat} (h : ∀ i, i < N → d ∣ (f i).natAbs) : d ∣ gcdN f N := by
  induction N with
  | zero => simp [gcdN]
  | succ N ih => exact Nat.dvd_gcd (ih fun i hi => h i (by omega)) (h N (by omega))
def lowF (N : Nat) (f : Nat → Int) : Nat → Int := if gcdN f N < 2 then f else fun i => (f i).fdiv (gcdN f N)
theorem low_eq {N : Nat} {f : Nat → Int} : ∃ g : Nat, 1 ≤ g ∧ ∀ i, i < N → f i = g * lowF N f i := by
  by_cases h : gcdN f N < 2
  · exact ⟨1, by omega, fun i _ => by simp [lowF, h]⟩
  · refine ⟨gcdN f N, by omega, fun i hi => ?_⟩
    simp only [lowF, if_neg h]
    have hd : (gcdN f N : Int) ∣ f i := Int.ofNat_dvd_left.mpr (gcd_dvd hi)
    exact (Int.mul_fdiv_cancel' hd).symm
theorem low_gcd {N : Nat} {f : Nat → Int} : gcdN (lowF N f) N < 2 := by
  by_cases h : gcdN f N < 2
  · simp only [lowF, if_pos h]; exact h
  · obtain ⟨g, hg, e⟩ : ∃ g : Nat, g = gcdN f N ∧ ∀ i, i < N → f i = g * lowF N f i := by
      refine ⟨gcdN f N, rfl, fun i hi => ?_⟩
      simp only [lowF, if_neg h]
      have hd : (gcdN f N : Int) ∣ f i := Int.ofNat_dvd_left.mpr (gcd_dvd hi)
      exact (Int.mul_fdiv_cancel' hd).symm
    have key : g * gcdN (lowF N f) N ∣ g := by
      conv => rhs; rw [hg]
      refine dvd_gcdN fun i hi => ?_
      rw [e i hi, Int.natAbs_mul, Int.natAbs_natCast]
      exact Nat.mul_dvd_mul_left g (gcd_dvd hi)
    have hg0 : 0 < g := by omega
    have := Nat.le_of_dvd hg0 key
    refine Nat.not_le.mp fun hc => ?_
    have : g * 2 ≤ g * gcdN (lowF N f) N := Nat.mul_le_mul_left g hc
    omega
theorem low_abs {N : Nat} {f : Nat → Int} {i : Nat} (hi : i < N) : (lowF N f i).natAbs ≤ (f i).natAbs := by
  obtain ⟨g, hg, e⟩ := low_eq (N := N) (f := f)
  rw [e i hi, Int.natAbs_mul, Int.natAbs_natCast]
  exact Nat.le_mul_of_pos_left _ (by omega)
theorem low_pos {N : Nat} {f : Nat → Int} {i : Nat} (hi : i < N) (h : 0 ≤ f i) : 0 ≤ lowF N f i := by
  obtain ⟨g, hg, e⟩ := low_eq (N := N) (f := f)
  rw [e i hi] at h
  exact Int.not_lt.mp fun hc => by have := Int.mul_neg_of_pos_of_neg (a := (g : Int)) (by omega) hc; omega
def gBody : DL.Env → DL.So := (sSet 1 [1, 2] (eA oGcd (aCons (eVar 1) (aCons (eVar 2) aNil))))
theorem m_low {N : Nat} {f : Nat → Int} (hN : N < 1000000) (hf : ∀ i, i < N → (f i).natAbs.log2 < 9000) : m_lowest [.lst (rowD N f)] = .ok (.fz (.tup (rowD N (lowF N f)))) := by
  refine runD_ok ?_
  have hb : b_lowest = (sSeq (sSet 1 [] (eC (.int 0))) (sSeq (sFor [0] (iE iterA (eVar 0)) (nName 2) gBody) (sSeq (sIf [1] (tV (e2 (cop .Lt) (eVar 1) (eC (.int 2)))) (sRet [0] (eA oTuple (aCons (eVar 0) aNil))) sNext) (sRet (List.range 64) (eA oTuple (aCons (eLc [2] (iE iterA (eVar 0)) (nName 2) tYesD (e2 oDiv (eVar 2) (eVar 1))) aNil)))))) := rfl
  obtain ⟨e, h1, o2, rfl⟩ := forL_nx (t := nName 2) (body := gBody) (ds := rowD N f) (env := [.fz (.lst (rowD N f)), .fz (.int 0), .un]) (fun k e => ∃ o2, e = [.fz (.lst (rowD N f)), .fz (.int (gcdN f k)), o2]) ⟨_, rfl⟩ (by
    rintro i d e hd ⟨o2, rfl⟩
    obtain ⟨hi, rfl⟩ := rowD_at hd
    refine ⟨_, rfl, _, .inl rfl, .fz (.int (f i)), ?_⟩
    rfl)
  simp only [rowD_len] at h1
  have ht : ∀ ds : List DL.D, oTuple [.lst ds] = .ok (.fz (.tup ds)) := fun _ => rfl
  rw [hb]
  by_cases h : gcdN f N < 2
  · have h' : ((gcdN f N : Nat) : Int) < 2 := by omega
    have e : lowF N f = f := by simp [lowF, h]
    simp [startE, h1, h', ht, e]
  · have h' : ¬ ((gcdN f N : Nat) : Int) < 2 := by omega
    have hs : ((gcdN f N : Nat) : Int).natAbs.log2 < 9000 := by
      obtain ⟨i, hi, hne⟩ : ∃ i, i < N ∧ (f i).natAbs ≠ 0 := by
        refine Classical.byContradiction fun hc => h ?_
        have : gcdN f N ∣ 0 := Nat.dvd_zero _
        have z : 0 ∣ gcdN f N := dvd_gcdN fun i hi => by
          have : (f i).natAbs = 0 := Classical.byContradiction fun hn => hc ⟨i, hi, hn⟩
          rw [this]; exact Nat.dvd_refl 0
        have := Nat.eq_zero_of_zero_dvd z
        omega
      have le := Nat.le_of_dvd (by omega) (gcd_dvd (f := f) hi)
      exact small_of (K := 0) (N := (f i).natAbs) (by simpa using le) (hf i hi)
    have hl : ∀ o2 : DL.Sl, eLc [2] (iE iterA (eVar 0)) (nName 2) tYesD (e2 oDiv (eVar 2) (eVar 1)) [.fz (.lst (rowD N f)), .fz (.int (gcdN f N)), o2] = .ok (.ow (rowD N (lowF N f))) := by
      intro o2
      refine ev_lc (ds := rowD N f) (by simp) (by simp) ?_ (.inr (by simpa using hN))
      refine lcL_map (List.range N) _ (fun k => .int (lowF N f k)) fun k hk => ?_
      refine ⟨_, .fz (.int (lowF N f k)), rfl, rfl, ?_, rfl⟩
      have hne : ((gcdN f N : Nat) : Int) ≠ 0 := by omega
      have e : lowF N f k = (f k).fdiv (gcdN f N) := by simp [lowF, h]
      simp [wipeE, div_ok hne hs, e]
    simp [startE, h1, h', ht, hl]
end PG
end

section
set_option maxRecDepth 100000
set_option maxHeartbeats 1000000
/-! What solve gives. -/
namespace PG
open L2 DL
def csOf (R N : Nat) (W : Nat → Nat → Int) : List (List Int) := (List.range R).map fun k => (List.range N).map (W k)
def zsOf (N : Nat) : List Int := (List.range N).map fun _ => 0
def gsOf (R : Nat) (g : Nat → Int) : List Int := (List.range R).map g
theorem getD_map {α : Type} {n i : Nat} {f : Nat → α} {d : α} (h : i < n) : ((List.range n).map f).getD i d = f i := by
  simp [List.getD, h]
section
variable {R N : Nat} {W : Nat → Nat → Int} {g l : Nat → Int}
theorem lp_n : (lpOf (csOf R N W) (gsOf N l) (gsOf R g)).n = R := by simp [lpOf, csOf]
theorem lp_m : (lpOf (csOf R N W) (gsOf N l) (gsOf R g)).m = N := by simp [lpOf, gsOf]
theorem lp_a {i j : Nat} (hi : i < N) (hj : j < R) : (lpOf (csOf R N W) (gsOf N l) (gsOf R g)).a i j = W j i := by
  show ((csOf R N W).getD j []).getD i 0 = W j i
  unfold csOf
  rw [getD_map hj, getD_map hi]
theorem lp_g {j : Nat} (hj : j < R) : (lpOf (csOf R N W) (gsOf N l) (gsOf R g)).g j = g j := getD_map hj
theorem lp_l {i : Nat} (hi : i < N) : (lpOf (csOf R N W) (gsOf N l) (gsOf R g)).l i = l i := getD_map hi
theorem cl_ok {K : Nat} (hK : 1 ≤ K) (hW : ∀ k, k < R → ∀ i, i < N → (W k i).natAbs ≤ K) (hl0 : ∀ i, i < N → 0 ≤ l i) (hl : ∀ i, i < N → (l i).natAbs ≤ K) (hg : ∀ k, k < R → (g k).natAbs ≤ K) (hR : R < 400000) (hN : N < 400000)
    (hB : (Sx.fac (N + 1) * K ^ (N + 1)).log2 < 9000) : ClOk (csOf R N W) (gsOf N l) (gsOf R g) := by
  refine ⟨by simp [csOf, gsOf], fun c hc => ?_, fun x hx => ?_, by simpa [csOf] using hR, by simpa [gsOf] using hN, K, hK, fun c hc x hx => ?_, fun x hx => ?_, fun x hx => ?_, by simpa [gsOf] using hB⟩
  · obtain ⟨k, _, rfl⟩ := List.mem_map.mp hc
    simp [gsOf]
  · obtain ⟨k, hk, rfl⟩ := List.mem_map.mp hx
    exact hl0 k (List.mem_range.mp hk)
  · obtain ⟨k, hk, rfl⟩ := List.mem_map.mp hc
    obtain ⟨i, hi, rfl⟩ := List.mem_map.mp hx
    exact hW k (List.mem_range.mp hk) i (List.mem_range.mp hi)
  · obtain ⟨k, hk, rfl⟩ := List.mem_map.mp hx
    exact hl k (List.mem_range.mp hk)
  · obtain ⟨k, hk, rfl⟩ := List.mem_map.mp hx
    exact hg k (List.mem_range.mp hk)
theorem cs_rows : (csOf R N W).map lsD = (List.range R).map fun k => D.lst (rowD N (W k)) := by
  simp [csOf, lsD, rowD, List.map_map, Function.comp_def]
theorem gs_row : (gsOf R g).map D.int = rowD R g := by simp [gsOf, rowD, List.map_map, Function.comp_def]
end
theorem dot_scale {N : Nat} {f x y : Nat → Int} {g : Nat} (h : ∀ i, i < N → x i = g * y i) : dotF N f x = g * dotF N f y := by
  unfold dotF
  rw [← Sx.sm_mul]
  exact Sx.sm_congr fun i hi => by rw [h i hi]; grind
theorem dot_scale' {N : Nat} {f x y : Nat → Int} {g : Nat} (h : ∀ i, i < N → x i = g * y i) : dotF N x f = g * dotF N y f := by
  unfold dotF
  rw [← Sx.sm_mul]
  exact Sx.sm_congr fun i hi => by rw [h i hi]; grind
/-- what solve may answer -/
inductive SolveIs (R N : Nat) (W : Nat → Nat → Int) (st : Nat → Bool) (B : Nat) : DL.D → Prop
  | point {y : Nat → Int} (k : Keeps R N W st y) (l : gcdN y N < 2) (b : ∀ i, i < N → (y i).natAbs ≤ B) : SolveIs R N W st B (.tup [.str "point", .tup (rowD N y)])
  | paper {w : Nat → Int} (k : Barred R N W st w) (l : gcdN w R < 2) (b : ∀ i, i < R → (w i).natAbs ≤ B) : SolveIs R N W st B (.tup [.str "paper", .tup (rowD R w)])
theorem keeps_low {R N : Nat} {W : Nat → Nat → Int} {st : Nat → Bool} {y : Nat → Int} {s : Int} (hs : 0 < s) (pos : ∀ i, i < N → 0 ≤ y i) (h : ∀ k, k < R → s * b01 (st k) ≤ dotF N (W k) y) : Keeps R N W st (lowF N y) := by
  refine ⟨fun p hp => low_pos hp (pos p hp), fun k hk => ?_⟩
  obtain ⟨g, hg, e⟩ := low_eq (N := N) (f := y)
  have h1 := h k hk
  rw [dot_scale e] at h1
  cases hst : st k with
  | false =>
    rw [hst] at h1
    have e0 : b01 false = 0 := rfl
    rw [e0, Int.mul_zero] at h1
    exact ⟨Int.not_lt.mp fun hc => by have := Int.mul_neg_of_pos_of_neg (a := (g : Int)) (by omega) hc; omega, fun h => by rw [hst] at h; cases h⟩
  | true =>
    rw [hst] at h1
    have e0 : b01 true = 1 := rfl
    rw [e0, Int.mul_one] at h1
    have : 0 < dotF N (W k) (lowF N y) := Int.not_le.mp fun hc => by have := Int.mul_nonpos_of_nonneg_of_nonpos (a := (g : Int)) (by omega) hc; omega
    exact ⟨by omega, fun _ => by omega⟩
theorem barred_low {R N : Nat} {W : Nat → Nat → Int} {st : Nat → Bool} {w : Nat → Int} (pos : ∀ k, k < R → 0 ≤ w k) (firm : 0 < dotF R w fun k => b01 (st k)) (h : ∀ p, p < N → dotF R w (fun k => W k p) ≤ 0) : Barred R N W st (lowF R w) := by
  obtain ⟨g, hg, e⟩ := low_eq (N := R) (f := w)
  have posl : ∀ k, k < R → 0 ≤ lowF R w k := fun k hk => low_pos hk (pos k hk)
  refine ⟨posl, ?_, fun p hp => ?_⟩
  · refine Classical.byContradiction fun hc => ?_
    have h0 := (firm_iff (st := st) posl).mpr hc
    rw [dot_scale' e] at firm
    have : dotF R (lowF R w) (fun k => b01 (st k)) = dotF R (fun k => b01 (st k)) (lowF R w) := Sx.sm_congr fun i _ => Int.mul_comm _ _
    rw [this, h0] at firm
    simp at firm
  · have h1 := h p hp
    rw [dot_scale' e] at h1
    exact Int.not_lt.mp fun hc => by have := Int.mul_pos (a := (g : Int)) (by omega) hc; omega
section
variable {P : Sx.LP} {s : Sx.St} {B : Nat}
theorem y_abs (hI : Sx.Inv P s) (hT : ∀ i j, (s.T P i j).natAbs ≤ B) {i : Nat} (hi : i < P.m) : (s.yOf P i).natAbs ≤ B := by
  have hy := Sx.yOf_ok hI
  rcases hI.cov (P.n + i) (by omega) with ⟨k, hk, e⟩ | ⟨j, hj, e⟩
  · rw [hy.ba k hk i e]; simp
  · rw [hy.lo j hj i e, Int.natAbs_neg]; exact hT _ _
theorem x_abs (hI : Sx.Inv P s) (hT : ∀ i j, (s.T P i j).natAbs ≤ B) {v : Nat} (hv : v < P.n) : (s.xOf P v).natAbs ≤ B := by
  have hx := Sx.xOf_ok hI
  rcases hI.cov v (by omega) with ⟨k, hk, e⟩ | ⟨j, hj, e⟩
  · rw [← e, hx.ba k hk]; exact hT _ _
  · rw [← e, hx.lo j hj]; simp
theorem w_abs (hI : Sx.Inv P s) (hT : ∀ i j, (s.T P i j).natAbs ≤ B) (hs : (s.sc P).natAbs ≤ B) {c : Nat} (hc : c < P.n) {v : Nat} (hv : v < P.n) : (s.wOf P c v).natAbs ≤ B := by
  have hw := Sx.wOf_ok hI hc
  rcases hI.cov v (by omega) with ⟨k, hk, e⟩ | ⟨j, hj, e⟩
  · rw [← e, hw.ba k hk, Int.natAbs_neg]; exact hT _ _
  · by_cases h : j = c
    · subst h; rw [← e, hw.at_c]; exact hs
    · rw [← e, hw.lo j hj h]; simp
end
def sCols : DL.Env → DL.M Rs := eLc [6, 8] (iE iterA (eVar 0)) (nTup 2 (nCons (nName 6) (nCons (nName 8) nNil))) tYesD (eA oList (aCons (eVar 6) aNil))
def sGains : DL.Env → DL.M Rs := eLc [6, 8] (iE iterA (eVar 0)) (nTup 2 (nCons (nName 6) (nCons (nName 8) nNil))) tYesD (eA oInt (aCons (eVar 8) aNil))
theorem frzIf_fz {d : DL.D} {A : List Nat} {env : DL.Env} (h : fzAll A env = env) : frzIf (.fz d) A env = env := by
  unfold frzIf; split
  · rfl
  · exact h
theorem solve_is {R N K : Nat} {W : Nat → Nat → Int} {st : Nat → Bool} (hR : R < 400000) (hN : N < 400000) (hK : 1 ≤ K) (hW : ∀ k, k < R → ∀ i, i < N → (W k i).natAbs ≤ K) (hB : (Sx.fac (N + 1) * K ^ (N + 1)).log2 < 9000) :
    ∃ d, m_solve [.lst (rowsD R N W st), .int N] = .ok (.fz d) ∧ SolveIs R N W st (Sx.fac (N + 1) * K ^ (N + 1)) d := by
  have ok : ClOk (csOf R N W) (gsOf N fun _ => 0) (gsOf R fun k => b01 (st k)) := cl_ok hK hW (fun _ _ => Int.le_refl _) (fun _ _ => by simp) (fun k _ => by cases st k <;> simp [b01] <;> exact hK) hR hN hB
  obtain ⟨fin, e, fo⟩ := climb_ok ok
  rw [cs_rows, gs_row, gs_row] at e
  have hn : (lpOf (csOf R N W) (gsOf N fun _ => 0) (gsOf R fun k => b01 (st k))).n = R := lp_n
  have hm : (lpOf (csOf R N W) (gsOf N fun _ => 0) (gsOf R fun k => b01 (st k))).m = N := lp_m
  have la : ∀ {i j : Nat}, i < N → j < R → (lpOf (csOf R N W) (gsOf N fun _ => 0) (gsOf R fun k => b01 (st k))).a i j = W j i := fun hi hj => lp_a hi hj
  have lg : ∀ {j : Nat}, j < R → (lpOf (csOf R N W) (gsOf N fun _ => 0) (gsOf R fun k => b01 (st k))).g j = b01 (st j) := fun hj => lp_g hj
  obtain ⟨K', k1, k2, k3, k4, k5⟩ : ∃ K', 1 ≤ K' ∧ (∀ i, i < (lpOf (csOf R N W) (gsOf N fun _ => 0) (gsOf R fun k => b01 (st k))).m → ∀ j, j < (lpOf (csOf R N W) (gsOf N fun _ => 0) (gsOf R fun k => b01 (st k))).n → ((lpOf (csOf R N W) (gsOf N fun _ => 0) (gsOf R fun k => b01 (st k))).a i j).natAbs ≤ K') ∧
      (∀ i, i < (lpOf (csOf R N W) (gsOf N fun _ => 0) (gsOf R fun k => b01 (st k))).m → ((lpOf (csOf R N W) (gsOf N fun _ => 0) (gsOf R fun k => b01 (st k))).l i).natAbs ≤ K') ∧
      (∀ j, j < (lpOf (csOf R N W) (gsOf N fun _ => 0) (gsOf R fun k => b01 (st k))).n → ((lpOf (csOf R N W) (gsOf N fun _ => 0) (gsOf R fun k => b01 (st k))).g j).natAbs ≤ K') ∧ K' = K := by
    refine ⟨K, hK, fun i hi j hj => ?_, fun i hi => ?_, fun j hj => ?_, rfl⟩
    · rw [hm] at hi; rw [hn] at hj; rw [la hi hj]; exact hW j hj i hi
    · rw [hm] at hi; rw [lp_l hi]; simp
    · rw [hn] at hj; rw [lg hj]; cases st j <;> simp [b01] <;> exact hK
  subst k5
  have hT := fun s => Sx.T_small k1 k2 k3 k4 s
  have hS := fun s => Sx.sc_small k1 k2 k3 k4 s
  have hm' : Sx.fac ((lpOf (csOf R N W) (gsOf N fun _ => 0) (gsOf R fun k => b01 (st k))).m + 1) * K' ^ ((lpOf (csOf R N W) (gsOf N fun _ => 0) (gsOf R fun k => b01 (st k))).m + 1) = Sx.fac (N + 1) * K' ^ (N + 1) := by rw [hm]
  simp only [hm'] at hT hS
  generalize hP : lpOf (csOf R N W) (gsOf N fun _ => 0) (gsOf R fun k => b01 (st k)) = P at *
  -- the walk's shape
  have hcols : sCols [.fz (.lst (rowsD R N W st)), .fz (.int N), .un, .un, .un, .un, .un, .un, .un] = .ok (.ow ((List.range R).map fun k => D.lst (rowD N (W k)))) := by
    refine ev_lc (ds := rowsD R N W st) (by simp) (by simp) ?_ (.inr (by simp; omega))
    refine lcL_map (List.range R) _ _ fun k hk => ⟨_, .ow (rowD N (W k)), rfl, rfl, ?_, rfl⟩
    have : oList [.lst (rowD N (W k))] = .ok (.ow (rowD N (W k))) := rfl
    simp [wipeE, this]
  have hgains : sGains [.fz (.lst (rowsD R N W st)), .fz (.int N), .ow ((List.range R).map fun k => D.lst (rowD N (W k))), .un, .un, .un, .un, .un, .un] = .ok (.ow (rowD R fun k => b01 (st k))) := by
    refine ev_lc (ds := rowsD R N W st) (by simp) (by simp) ?_ (.inr (by simp; omega))
    refine lcL_map (List.range R) _ _ fun k hk => ⟨_, .fz (.int (b01 (st k))), rfl, rfl, ?_, rfl⟩
    have e : (if st k = true then (1 : Int) else 0) = b01 (st k) := rfl
    simp [wipeE, e]
  have fz0 : ∀ (ds : List DL.D), frzIf (.ow ds) (List.range 64) [.fz (.lst (rowsD R N W st)), .fz (.int N), .un, .un, .un, .un, .un, .un, .un] = [.fz (.lst (rowsD R N W st)), .fz (.int N), .un, .un, .un, .un, .un, .un, .un] := fun ds => by
    unfold frzIf
    split
    · rfl
    · rw [frzAll_map _ _ (by simp)]; rfl
  have hb : b_solve = (sSeq (sSet 2 (List.range 64) sCols) (sSeq (sSet 3 (List.range 64) sGains) (sSeq (sAsg [2, 1, 3] (nTup 4 (nCons (nName 4) (nCons (nName 5) (nCons (nName 6) (nCons (nName 7) nNil))))) (eA (oCal 3 m_climb) (aCons (eVar 2) (aCons (e2 oMul (eA oLstD (aCons (eC (.int 0)) aNil)) (eVar 1)) (aCons (eVar 3) aNil))))) (sSeq (sIf [4] (tV (e2 (cop .Eq) (eVar 4) (eC (.str "ray")))) (sRet [6] (eA oTupD (aCons (eC (.str "paper")) (aCons (eA (oCal 1 m_lowest) (aCons (eVar 6) aNil)) aNil)))) sNext) (sRet [7] (eA oTupD (aCons (eC (.str "point")) (aCons (eA (oCal 1 m_lowest) (aCons (eVar 7) aNil)) aNil)))))))) := rfl
  have nst : ¬ (PySem.Str.ofString "top" = PySem.Str.ofString "ray") := by decide
  have sz1 := sz
  have l1 : oLstD [.int 0] = .ok (.ow [.int 0]) := by unfold oLstD; rw [if_pos (by simp; omega)]
  have t2 : ∀ a b : DL.D, oTupD [a, b] = .ok (.fz (.tup [a, b])) := fun a b => by unfold oTupD; rw [if_pos (by simp; omega)]
  have fzB : ∀ d : DL.D, frzIf (.fz d) [2, 1, 3] [.fz (.lst (rowsD R N W st)), .fz (.int N), .ow ((List.range R).map fun k => D.lst (rowD N (W k))), .ow (rowD R fun k => b01 (st k)), .un, .un, .un, .un, .un] = [.fz (.lst (rowsD R N W st)), .fz (.int N), .ow ((List.range R).map fun k => D.lst (rowD N (W k))), .ow (rowD R fun k => b01 (st k)), .un, .un, .un, .un, .un] ∨
      frzIf (.fz d) [2, 1, 3] [.fz (.lst (rowsD R N W st)), .fz (.int N), .ow ((List.range R).map fun k => D.lst (rowD N (W k))), .ow (rowD R fun k => b01 (st k)), .un, .un, .un, .un, .un] = [.fz (.lst (rowsD R N W st)), .fz (.int N), .fz (.lst ((List.range R).map fun k => D.lst (rowD N (W k)))), .fz (.lst (rowD R fun k => b01 (st k))), .un, .un, .un, .un, .un] := fun d => by
    unfold frzIf
    split
    · exact .inl rfl
    · exact .inr rfl
  have start : b_solve (startE 9 [.lst (rowsD R N W st), .int N]) = (So.andThen (ofM (.ok (.fz (finD P fin))) [.fz (.lst (rowsD R N W st)), .fz (.int N), .ow ((List.range R).map fun k => D.lst (rowD N (W k))), .ow (rowD R fun k => b01 (st k)), .un, .un, .un, .un, .un] [2, 1, 3] fun r => ofO (nTup 4 (nCons (nName 4) (nCons (nName 5) (nCons (nName 6) (nCons (nName 7) nNil)))) r.d (frzIf r [2, 1, 3] [.fz (.lst (rowsD R N W st)), .fz (.int N), .ow ((List.range R).map fun k => D.lst (rowD N (W k))), .ow (rowD R fun k => b01 (st k)), .un, .un, .un, .un, .un])))
      (sSeq (sIf [4] (tV (e2 (cop .Eq) (eVar 4) (eC (.str "ray")))) (sRet [6] (eA oTupD (aCons (eC (.str "paper")) (aCons (eA (oCal 1 m_lowest) (aCons (eVar 6) aNil)) aNil)))) sNext) (sRet [7] (eA oTupD (aCons (eC (.str "point")) (aCons (eA (oCal 1 m_lowest) (aCons (eVar 7) aNil)) aNil)))))) := by
    rw [hb]
    show sSeq _ _ [.fz (.lst (rowsD R N W st)), .fz (.int N), .un, .un, .un, .un, .un, .un, .un] = _
    simp only [ev_seq, ev_set, hcols, ev_ofM, fz0, ev_sow, List.set, ev_tn, hgains, ev_frzRow, ev_asg, ev_eA, ev_aCons, ev_vs, ev_v0o, ev_v0f, ev_bok, ev_rfz, ev_row, ev_e2, ev_c, ev_aNil, l1, ev_pok, zeros (show N < 1000000 by omega), oCal, List.length_cons, List.length_nil, e, if_true]
  cases fo with
  | @top s hI h =>
    have hy := Sx.yOf_ok hI
    have lowm := m_low (N := N) (f := s.yOf P) (by omega) fun i hi => small_of (K := 0) (y_abs hI (hT s) (by omega)) hB
    refine ⟨_, runD_ok (r := .fz (.tup [.str "point", .tup (rowD N (lowF N (s.yOf P)))])) ?_, .point (keeps_low hI.pos (fun i hi => Sx.p_nonneg hI hy h (by omega)) fun k hk => ?_) low_gcd fun i hi => Nat.le_trans (low_abs hi) (y_abs hI (hT s) (by omega))⟩
    · rw [start]
      simp only [finD, hm, hn]
      rcases fzB (.tup [.str "top", .int (s.sc P), .lst (rowD R (s.xOf P)), .lst (rowD N (s.yOf P))]) with e | e <;> simp only [ev_ofM, ev_rfz, e] <;> simp [oCal, lowm, t2, nst]
    · have := Sx.p_reach hI hy h (v := k) (by omega)
      rw [lg hk, hm] at this
      refine Int.le_trans this (Int.le_of_eq (Sx.sm_congr fun i hi => by rw [la hi hk]))
  | @ray s c hI hE h =>
    have hw := Sx.wOf_ok hI hE.lt
    have lowm := m_low (N := R) (f := s.wOf P c) (by omega) fun i hi => small_of (K := 0) (w_abs hI (hT s) (hS s) hE.lt (by omega)) hB
    refine ⟨_, runD_ok (r := .fz (.tup [.str "paper", .tup (rowD R (lowF R (s.wOf P c)))])) ?_, .paper (barred_low (fun i hi => Sx.r_nonneg hI hw h (by omega)) ?_ fun p hp => ?_) low_gcd fun i hi => Nat.le_trans (low_abs hi) (w_abs hI (hT s) (hS s) hE.lt (by omega))⟩
    · rw [start]
      simp only [finD, hm, hn]
      rcases fzB (.tup [.str "ray", .int 1, .lst (rowD R (s.wOf P c)), .lst []]) with e | e <;> simp only [ev_ofM, ev_rfz, e] <;> simp [oCal, lowm, t2]
    · have := Sx.r_total hI hE.lt hw
      rw [hn] at this
      have e : dotF R (s.wOf P c) (fun k => b01 (st k)) = s.T P P.m c := by
        rw [← this]
        exact Sx.sm_congr fun i hi => by rw [lg hi]
      rw [e]; exact hE.pos
    · have := Sx.r_within hI hE.lt hw h (p := p) (by omega)
      rw [hn] at this
      refine Int.le_trans (Int.le_of_eq (Sx.sm_congr fun i hi => by rw [la hp hi])) this
end PG
end

section
set_option maxRecDepth 100000
set_option maxHeartbeats 1000000
/-! Rows cut and joined. -/
namespace PG
open L2 DL
theorem row_app {a b : Nat} {f g : Nat → Int} : rowD a f ++ rowD b g = rowD (a + b) fun i => if i < a then f i else g (i - a) := by
  apply List.ext_getElem?
  intro i
  by_cases h : i < a
  · rw [List.getElem?_append_left (by simpa using h), rowD_get h, rowD_get (by omega), if_pos h]
  · rw [List.getElem?_append_right (by simpa using h), rowD_len]
    by_cases h2 : i - a < b
    · rw [rowD_get h2, rowD_get (by omega), if_neg h]
    · rw [List.getElem?_eq_none (by simp; omega), List.getElem?_eq_none (by simp; omega)]
theorem row_one (x : Int) : [D.int x] = rowD 1 fun _ => x := rfl
theorem drop_take_row {M a c : Nat} {f : Nat → Int} (h : a + c ≤ M) : ((rowD M f).drop a).take c = rowD c fun i => f (i + a) := by
  apply List.ext_getElem?
  intro i
  rw [List.getElem?_take, List.getElem?_drop]
  by_cases hi : i < c
  · rw [if_pos hi, rowD_get (by omega), rowD_get hi, Nat.add_comm]
  · rw [if_neg hi, List.getElem?_eq_none (by simp; omega)]
theorem cut_row {M a b : Nat} {f : Nat → Int} (h1 : a ≤ b) (h2 : b ≤ M) : cutD (rowD M f) (some (a : Int)) (some (b : Int)) = rowD (b - a) fun i => f (i + a) := by
  unfold cutD
  rw [HT.sIx_nat, HT.sIx_nat, rowD_len, Nat.min_eq_left (by omega), Nat.min_eq_left (by omega)]
  exact drop_take_row (by omega)
theorem cut_row_end {M a : Nat} {f : Nat → Int} (h1 : a ≤ M) : cutD (rowD M f) (some (a : Int)) none = rowD (M - a) fun i => f (i + a) := by
  unfold cutD
  rw [HT.sIx_nat, HT.sIx_none, rowD_len, Nat.min_eq_left (by omega)]
  exact drop_take_row (by omega)
/-! rows with a bound -/
def rowsI (R N : Nat) (W : Nat → Nat → Int) (g : Nat → Int) (c : List DL.D → DL.D) : List DL.D := (List.range R).map fun k => D.tup [c (rowD N (W k)), .int (g k)]
@[simp] theorem rowsI_len {R N : Nat} {W : Nat → Nat → Int} {g : Nat → Int} {c : List DL.D → DL.D} : (rowsI R N W g c).length = R := by simp [rowsI]
theorem rowsI_get {R N : Nat} {W : Nat → Nat → Int} {g : Nat → Int} {c : List DL.D → DL.D} {k : Nat} (h : k < R) : (rowsI R N W g c)[k]? = some (.tup [c (rowD N (W k)), .int (g k)]) := by simp [rowsI, h]
theorem rowsI_at {R N : Nat} {W : Nat → Nat → Int} {g : Nat → Int} {c : List DL.D → DL.D} {k : Nat} {d : DL.D} (h : (rowsI R N W g c)[k]? = some d) : k < R ∧ d = .tup [c (rowD N (W k)), .int (g k)] := by
  by_cases hk : k < R
  · rw [rowsI_get hk] at h; cases h; exact ⟨hk, rfl⟩
  · rw [List.getElem?_eq_none (by simp; omega)] at h; cases h
/-- point and paper of one total -/
structure Least (R N : Nat) (W : Nat → Nat → Int) (g l : Nat → Int) (s : Int) (y w : Nat → Int) : Prop where
  s1 : 1 ≤ s
  ynn : ∀ p, p < N → 0 ≤ y p
  wnn : ∀ k, k < R → 0 ≤ w k
  reach : ∀ k, k < R → g k * s ≤ dotF N (W k) y
  within : ∀ p, p < N → dotF R w (fun k => W k p) ≤ l p * s
  total : dotF N l y = dotF R w g
structure Misses (R N : Nat) (W : Nat → Nat → Int) (g : Nat → Int) (w : Nat → Int) : Prop where
  wnn : ∀ k, k < R → 0 ≤ w k
  sum : ∀ p, p < N → dotF R w (fun k => W k p) ≤ 0
  pos : 0 < dotF R w g
end PG
end

section
set_option maxRecDepth 100000
set_option maxHeartbeats 4000000
noncomputable section
namespace PG
open L2 DL
def b_least : DL.Env → DL.So :=
  (sSeq (sSet 3 (List.range 64) (eLc [7, 10] (iE iterA (eVar 1)) (nTup 2 (nCons (nName 7) (nCons (nName 10) nNil))) tYesD (eA oList (aCons (eVar 7) aNil)))) (sSeq (sSet 4 (List.range 64) (eLc [7, 10] (iE iterA (eVar 1)) (nTup 2 (nCons (nName 7) (nCons (nName 10) nNil))) tYesD (eVar 10))) (sSeq (sAsg [3, 0, 4] (nTup 4 (nCons (nName 5) (nCons (nName 6) (nCons (nName 7) (nCons (nName 8) nNil))))) (eA (oCal 3 m_climb) (aCons (eVar 3) (aCons (eA oList (aCons (eVar 0) aNil)) (aCons (eVar 4) aNil))))) (sSeq (sIf [5] (tV (e2 (cop .Eq) (eVar 5) (eC (.str "ray")))) (sRet [7] (eA oTupD (aCons (eC (.str "none")) (aCons (eA (oCal 1 m_lowest) (aCons (eVar 7) aNil)) aNil)))) sNext) (sSeq (sSet 9 [6, 8, 7] (eA (oCal 1 m_lowest) (aCons (e2 oAdd (e2 oAdd (eA oLstD (aCons (eVar 6) aNil)) (eVar 8)) (eVar 7)) aNil))) (sRet [9, 9, 2, 9, 2] (eA oTupD (aCons (eC (.str "least")) (aCons (e2 oIx (eVar 9) (eC (.int 0))) (aCons (e3o oSl (eVar 9) (pSome (eC (.int 1))) (pSome (e2 oAdd (eVar 2) (eC (.int 1))))) (aCons (e3o oSl (eVar 9) (pSome (e2 oAdd (eVar 2) (eC (.int 1)))) pNo) aNil)))))))))))
def m_least (ds : List DL.D) : DL.M DL.Rs := pureM (runD 11 b_least ds)
def b_hedge_rows : DL.Env → DL.So :=
  (sRet (List.range 64) (eLc [3] (iE iterA (eVar 0)) (nName 3) tYesD (eA oTupD (aCons (eA oTuple (aCons (eVar 3) aNil)) (aCons (e2 oSub (e2 oMul (eVar 2) (eA oSum (aCons (eVar 3) aNil))) (eA (oCal 2 m_dot) (aCons (eVar 3) (aCons (eVar 1) aNil)))) aNil)))))
def m_hedge_rows (ds : List DL.D) : DL.M DL.Rs := pureM (runD 4 b_hedge_rows ds)
def b_cheapest_hedge : DL.Env → DL.So :=
  (sSeq (sAsg [2, 0, 1, 3, 1] (nTup 4 (nCons (nName 4) (nCons (nName 5) (nCons (nName 6) (nCons (nName 7) nNil))))) (eA (oCal 3 m_least) (aCons (eVar 2) (aCons (eA (oCal 3 m_hedge_rows) (aCons (eVar 0) (aCons (eVar 1) (aCons (eVar 3) aNil)))) (aCons (eA oLen (aCons (eVar 1) aNil)) aNil))))) (sRet [5, 6, 7] (eA oTupD (aCons (eVar 5) (aCons (eVar 6) (aCons (eVar 7) aNil))))))
def m_cheapest_hedge (ds : List DL.D) : DL.M DL.Rs := pureM (runD 8 b_cheapest_hedge ds)
def b_shows_least : DL.Env → DL.So :=
  (sSeq (sIf [2, 3, 0, 4, 1] (tO (tV (e2 (cop .Lt) (eVar 2) (eC (.int 1)))) (tO (tV (e2 (cop .NotEq) (eA oLen (aCons (eVar 3) aNil)) (eA oLen (aCons (eVar 0) aNil)))) (tV (e2 (cop .NotEq) (eA oLen (aCons (eVar 4) aNil)) (eA oLen (aCons (eVar 1) aNil)))))) (sRet [] (eC (.bl false))) sNext) (sSeq (sIf [3, 4] (tO (tV (e2 (cop .Lt) (eA oMin (aCons (eVar 3) aNil)) (eC (.int 0)))) (tV (e2 (cop .Lt) (e2 oMinDf (eVar 4) (eC (.int 0))) (eC (.int 0))))) (sRet [] (eC (.bl false))) sNext) (sSeq (sFor [1] (iE iterA (eVar 1)) (nTup 2 (nCons (nName 5) (nCons (nName 6) nNil))) (sIf [5, 3, 6, 2] (tV (e2 (cop .Lt) (eA (oCal 2 m_dot) (aCons (eVar 5) (aCons (eVar 3) aNil))) (e2 oMul (eVar 6) (eVar 2)))) (sRet [] (eC (.bl false))) sNext)) (sSeq (sFor [0] (iA oRng1 (aCons (eA oLen (aCons (eVar 0) aNil)) aNil)) (nName 7) (sSeq (sSet 8 (List.range 64) (eA oSum (aCons (eLc [5, 6, 9] (iA oZip (aCons (eVar 1) (aCons (eVar 4) aNil))) (nTup 2 (nCons (nTup 2 (nCons (nName 5) (nCons (nName 6) nNil))) (nCons (nName 9) nNil))) tYesD (e2 oMul (eVar 9) (e2 oIx (eVar 5) (eVar 7)))) aNil))) (sIf [8, 0, 7, 2] (tV (e2 (cop .Gt) (eVar 8) (e2 oMul (e2 oIx (eVar 0) (eVar 7)) (eVar 2)))) (sRet [] (eC (.bl false))) sNext))) (sRet ([0, 3] ++ List.range 64) (e2 (cop .Eq) (eA (oCal 2 m_dot) (aCons (eVar 0) (aCons (eVar 3) aNil))) (eA oSum (aCons (eLc [5, 6, 9] (iA oZip (aCons (eVar 1) (aCons (eVar 4) aNil))) (nTup 2 (nCons (nTup 2 (nCons (nName 5) (nCons (nName 6) nNil))) (nCons (nName 9) nNil))) tYesD (e2 oMul (eVar 9) (eVar 6))) aNil))))))))
def m_shows_least (ds : List DL.D) : DL.M DL.Rs := pureM (runD 10 b_shows_least ds)
def b_shows_hedge : DL.Env → DL.So :=
  (sRet [2, 0, 1, 3, 4, 5, 6] (eA (oCal 5 m_shows_least) (aCons (eVar 2) (aCons (eA (oCal 3 m_hedge_rows) (aCons (eVar 0) (aCons (eVar 1) (aCons (eVar 3) aNil)))) (aCons (eVar 4) (aCons (eVar 5) (aCons (eVar 6) aNil)))))))
def m_shows_hedge (ds : List DL.D) : DL.M DL.Rs := pureM (runD 7 b_shows_hedge ds)
end PG
end
end

section
set_option maxRecDepth 100000
set_option maxHeartbeats 1000000
/-! What least gives. -/
namespace PG
open L2 DL
theorem cancel_le {q : Nat} (hq : 1 ≤ q) {a b : Int} (h : (q : Int) * a ≤ q * b) : a ≤ b := Int.le_of_mul_le_mul_left h (by omega)
theorem least_low {R N : Nat} {W : Nat → Nat → Int} {g l : Nat → Int} {s : Int} {y w : Nat → Int} {q : Nat} {s' : Int} {y' w' : Nat → Int} (hq : 1 ≤ q) (h : Least R N W g l s y w) (es : s = q * s') (ey : ∀ p, p < N → y p = q * y' p) (ew : ∀ k, k < R → w k = q * w' k) : Least R N W g l s' y' w' := by
  have nn : ∀ {a b : Int}, 0 ≤ a → a = q * b → 0 ≤ b := fun {a b} h1 h2 => cancel_le hq (by rw [Int.mul_zero, ← h2]; exact h1)
  have s0 := h.s1
  refine ⟨?_, fun p hp => nn (h.ynn p hp) (ey p hp), fun k hk => nn (h.wnn k hk) (ew k hk), fun k hk => ?_, fun p hp => ?_, ?_⟩
  · refine Int.not_lt.mp fun hc => ?_
    have := Int.mul_nonpos_of_nonneg_of_nonpos (a := (q : Int)) (b := s') (by omega) (by omega)
    omega
  · have := h.reach k hk
    rw [dot_scale ey, es] at this
    exact cancel_le hq (by have e : (q : Int) * (g k * s') = g k * (q * s') := by grind
                           rw [e]; exact this)
  · have := h.within p hp
    rw [dot_scale' ew, es] at this
    exact cancel_le hq (by have e : (q : Int) * (l p * s') = l p * (q * s') := by grind
                           rw [e]; exact this)
  · have := h.total
    rw [dot_scale ey, dot_scale' ew] at this
    exact Int.eq_of_mul_eq_mul_left (by omega) this
theorem misses_low {R N : Nat} {W : Nat → Nat → Int} {g : Nat → Int} {w : Nat → Int} (h : Misses R N W g w) : Misses R N W g (lowF R w) := by
  obtain ⟨q, hq, e⟩ := low_eq (N := R) (f := w)
  refine ⟨fun k hk => low_pos hk (h.wnn k hk), fun p hp => ?_, ?_⟩
  · have := h.sum p hp
    rw [dot_scale' e] at this
    exact cancel_le hq (by rw [Int.mul_zero]; exact this)
  · have := h.pos
    rw [dot_scale' e] at this
    refine Int.not_le.mp fun hc => ?_
    have := Int.mul_nonpos_of_nonneg_of_nonpos (a := (q : Int)) (by omega) hc
    omega
theorem top_least {P : Sx.LP} {s : Sx.St} (hI : Sx.Inv P s) (h : ∀ j, j < P.n → s.T P P.m j ≤ 0) {W : Nat → Nat → Int} {g l : Nat → Int} (ha : ∀ i, i < P.m → ∀ j, j < P.n → P.a i j = W j i) (hg : ∀ j, j < P.n → P.g j = g j) (hl : ∀ i, i < P.m → P.l i = l i) :
    Least P.n P.m W g l (s.sc P) (s.yOf P) (s.xOf P) := by
  have hx := Sx.xOf_ok hI
  have hy := Sx.yOf_ok hI
  refine ⟨hI.pos, fun p hp => Sx.p_nonneg hI hy h hp, fun k hk => Sx.x_nonneg hI hx (by omega), fun k hk => ?_, fun p hp => ?_, ?_⟩
  · have := Sx.p_reach hI hy h hk
    rw [hg k hk] at this
    rw [Int.mul_comm]
    exact Int.le_trans this (Int.le_of_eq (Sx.sm_congr fun i hi => by rw [ha i hi k hk]))
  · have := Sx.x_within hI hx hp
    rw [hl p hp] at this
    rw [Int.mul_comm (l p)]
    exact Int.le_trans (Int.le_of_eq (Sx.sm_congr fun k hk => by rw [ha p hp k hk])) this
  · have e1 := Sx.p_total hI hy
    have e2 := Sx.x_total hI hx
    have a1 : dotF P.m l (s.yOf P) = - s.T P P.m P.n := by rw [← e1]; exact Sx.sm_congr fun i hi => by rw [hl i hi]
    have a2 : dotF P.n (s.xOf P) g = - s.T P P.m P.n := by rw [← e2]; exact Sx.sm_congr fun i hi => by rw [hg i hi]
    rw [a1, a2]
theorem ray_misses {P : Sx.LP} {s : Sx.St} {c : Nat} (hI : Sx.Inv P s) (hE : Sx.Ent P s c) (h : ∀ k, k < P.m → s.T P k c ≤ 0) {W : Nat → Nat → Int} {g : Nat → Int} (ha : ∀ i, i < P.m → ∀ j, j < P.n → P.a i j = W j i) (hg : ∀ j, j < P.n → P.g j = g j) :
    Misses P.n P.m W g (s.wOf P c) := by
  have hw := Sx.wOf_ok hI hE.lt
  refine ⟨fun k hk => Sx.r_nonneg hI hw h (by omega), fun p hp => ?_, ?_⟩
  · exact Int.le_trans (Int.le_of_eq (Sx.sm_congr fun k hk => by rw [ha p hp k hk])) (Sx.r_within hI hE.lt hw h hp)
  · have e2 := Sx.r_total hI hE.lt hw
    have a2 : dotF P.n (s.wOf P c) g = s.T P P.m c := by rw [← e2]; exact Sx.sm_congr fun i hi => by rw [hg i hi]
    rw [a2]; exact hE.pos
end PG
end

section
set_option maxRecDepth 100000
set_option maxHeartbeats 1000000
namespace PG
open L2 DL
inductive LeastIs (R N : Nat) (W : Nat → Nat → Int) (g l : Nat → Int) (B : Nat) : DL.D → Prop
  | least {s : Int} {y w : Nat → Int} (h : Least R N W g l s y w) (one : ∀ d : Nat, d ∣ s.natAbs → (∀ p, p < N → d ∣ (y p).natAbs) → (∀ k, k < R → d ∣ (w k).natAbs) → d = 1)
      (bs : s.natAbs ≤ B) (by_ : ∀ p, p < N → (y p).natAbs ≤ B) (bw : ∀ k, k < R → (w k).natAbs ≤ B) : LeastIs R N W g l B (.tup [.str "least", .int s, .tup (rowD N y), .tup (rowD R w)])
  | none {w : Nat → Int} (h : Misses R N W g w) (one : gcdN w R < 2) (bw : ∀ k, k < R → (w k).natAbs ≤ B) : LeastIs R N W g l B (.tup [.str "none", .tup (rowD R w)])
def jn (N : Nat) (s : Int) (y w : Nat → Int) (i : Nat) : Int := if i < 1 + N then (if i < 1 then s else y (i - 1)) else w (i - (1 + N))
theorem jn_row {N R : Nat} {s : Int} {y w : Nat → Int} : [D.int s] ++ rowD N y ++ rowD R w = rowD (1 + N + R) (jn N s y w) := by
  rw [row_one, row_app, row_app]; rfl
def lCols : DL.Env → DL.M Rs := eLc [7, 10] (iE iterA (eVar 1)) (nTup 2 (nCons (nName 7) (nCons (nName 10) nNil))) tYesD (eA oList (aCons (eVar 7) aNil))
def lGains : DL.Env → DL.M Rs := eLc [7, 10] (iE iterA (eVar 1)) (nTup 2 (nCons (nName 7) (nCons (nName 10) nNil))) tYesD (eVar 10)
def lEnd : DL.Env → DL.So := (sSeq (sIf [5] (tV (e2 (cop .Eq) (eVar 5) (eC (.str "ray")))) (sRet [7] (eA oTupD (aCons (eC (.str "none")) (aCons (eA (oCal 1 m_lowest) (aCons (eVar 7) aNil)) aNil)))) sNext) (sSeq (sSet 9 [6, 8, 7] (eA (oCal 1 m_lowest) (aCons (e2 oAdd (e2 oAdd (eA oLstD (aCons (eVar 6) aNil)) (eVar 8)) (eVar 7)) aNil))) (sRet [9, 9, 2, 9, 2] (eA oTupD (aCons (eC (.str "least")) (aCons (e2 oIx (eVar 9) (eC (.int 0))) (aCons (e3o oSl (eVar 9) (pSome (eC (.int 1))) (pSome (e2 oAdd (eVar 2) (eC (.int 1))))) (aCons (e3o oSl (eVar 9) (pSome (e2 oAdd (eVar 2) (eC (.int 1)))) pNo) aNil))))))))
theorem lEnd_top {R N : Nat} {s : Int} {y w : Nat → Int} {e0 e1 e3 e4 : DL.Sl} (hR : R < 400000) (hN : N < 400000) (hs : s.natAbs.log2 < 9000) (hy : ∀ p, p < N → (y p).natAbs.log2 < 9000) (hw : ∀ k, k < R → (w k).natAbs.log2 < 9000) :
    lEnd [e0, e1, .fz (.int N), e3, e4, .fz (.str "top"), .fz (.int s), .fz (.lst (rowD R w)), .fz (.lst (rowD N y)), .un, .un] =
    .rt (.fz (.tup [.str "least", .int (lowF (1 + N + R) (jn N s y w) 0), .tup (rowD N fun i => lowF (1 + N + R) (jn N s y w) (i + 1)), .tup (rowD R fun i => lowF (1 + N + R) (jn N s y w) (i + (N + 1)))])) := by
  have nst : ¬ (PySem.Str.ofString "top" = PySem.Str.ofString "ray") := by decide
  have sz1 := sz
  have l1 : oLstD [.int s] = .ok (.ow [.int s]) := by unfold oLstD; rw [if_pos (by simp; omega)]
  have ad : ∀ a b : List DL.D, a.length + b.length ≤ PySem.sizeLine → oAdd (.lst a) (.lst b) = .ok (.ow (a ++ b)) := fun a b h => by
    show (if a.length + b.length ≤ PySem.sizeLine then DL.M.ok (Rs.ow (a ++ b)) else .bad) = _
    rw [if_pos h]
  have a1 : oAdd (.lst [.int s]) (.lst (rowD N y)) = .ok (.ow ([.int s] ++ rowD N y)) := ad _ _ (by simp; omega)
  have a2 : oAdd (.lst ([.int s] ++ rowD N y)) (.lst (rowD R w)) = .ok (.ow (rowD (1 + N + R) (jn N s y w))) := by
    rw [ad _ _ (by simp; omega), jn_row]
  have low := m_low (N := 1 + N + R) (f := jn N s y w) (by omega) fun i hi => by
    unfold jn
    split
    · split
      · exact hs
      · exact hy _ (by omega)
    · exact hw _ (by omega)
  have t4 : ∀ a b c d : DL.D, oTupD [a, b, c, d] = .ok (.fz (.tup [a, b, c, d])) := fun a b c d => by unfold oTupD; rw [if_pos (by simp; omega)]
  have i0 : atI (rowD (1 + N + R) (lowF (1 + N + R) (jn N s y w))) 0 = some (.int (lowF (1 + N + R) (jn N s y w) 0)) := ix_row (j := 0) (by omega)
  have s1 : oSl (.tup (rowD (1 + N + R) (lowF (1 + N + R) (jn N s y w)))) (some 1) (some ((N : Int) + 1)) = .ok (.fz (.tup (rowD N fun i => lowF (1 + N + R) (jn N s y w) (i + 1)))) := by
    show DL.M.ok (Rs.fz (.tup (cutD _ (some ((1 : Nat) : Int)) (some ((N : Int) + 1))))) = _
    have e : (N : Int) + 1 = ((N + 1 : Nat) : Int) := by omega
    rw [e, cut_row (by omega) (by omega)]
    rfl
  have s2 : oSl (.tup (rowD (1 + N + R) (lowF (1 + N + R) (jn N s y w)))) (some ((N : Int) + 1)) none = .ok (.fz (.tup (rowD R fun i => lowF (1 + N + R) (jn N s y w) (i + (N + 1))))) := by
    show DL.M.ok (Rs.fz (.tup (cutD _ (some ((N : Int) + 1)) none))) = _
    have e : (N : Int) + 1 = ((N + 1 : Nat) : Int) := by omega
    rw [e, cut_row_end (by omega)]
    have : 1 + N + R - (N + 1) = R := by omega
    rw [this]
  have e3' : ∀ (g : DL.D → Option Int → Option Int → DL.M Rs) (f : DL.Env → DL.M Rs) (l u : DL.Env → DL.M (Option Int)) (env : DL.Env), e3o g f l u env = (f env >>= fun r => l env >>= fun a => u env >>= fun b => pureM (g r.d a b)) := fun _ _ _ _ _ => rfl
  have ps : ∀ (f : DL.Env → DL.M Rs) (env : DL.Env), pSome f env = (f env >>= fun r => asI r) := fun _ _ => rfl
  have ai : ∀ i : Int, asI (.fz (.int i)) = .ok (some i) := fun _ => rfl
  have pn : ∀ env : DL.Env, pNo env = .ok none := fun _ => rfl
  have fz : ∀ (d : DL.D) (env : DL.Env), frzIf (.fz (.tup (rowD (1 + N + R) (lowF (1 + N + R) (jn N s y w))))) [6, 8, 7] env = env := fun d env => by
    unfold frzIf
    have : Rs.nol (.fz (.tup (rowD (1 + N + R) (lowF (1 + N + R) (jn N s y w))))) = true := nol_row
    rw [if_pos this]
  unfold lEnd
  simp only [ev_seq, ev_if, ev_tV, ev_e2, ev_vs, ev_v0f, ev_bok, ev_c, ev_rfz, ev_copEq, ev_eqS, nst, decide_false, ev_pok, ev_asB, ev_ofM, Bool.false_eq_true, if_false, ev_next, ev_tn, ev_set, ev_eA, ev_aCons, ev_aNil, l1, ev_row, a1, a2, oCal, List.length_cons, List.length_nil, if_true, low, fz .non, ev_sfz, List.set, ev_ret, ev_ixT, i0, ev_oR, e3', ps, ai, pn, ev_add, s1, s2, t4]
end PG
end

section
set_option maxRecDepth 100000
set_option maxHeartbeats 1000000
namespace PG
open L2 DL
theorem frz_cases' (r : DL.Rs) (A : List Nat) (env : DL.Env) : frzIf r A env = env ∨ frzIf r A env = fzAll A env := by
  unfold frzIf; split
  · exact .inl rfl
  · exact .inr rfl
theorem least_is {R N K : Nat} {W : Nat → Nat → Int} {g l : Nat → Int} {c : List DL.D → DL.D} {dg : DL.D} (hc : ∀ ds, oList [c ds] = .ok (.ow ds)) (hdg : Sq dg (rowD N l)) (hR : R < 200000) (hN : N < 200000) (hK : 1 ≤ K) (hW : ∀ k, k < R → ∀ i, i < N → (W k i).natAbs ≤ K) (hg : ∀ k, k < R → (g k).natAbs ≤ K)
    (hl0 : ∀ i, i < N → 0 ≤ l i) (hl : ∀ i, i < N → (l i).natAbs ≤ K) (hB : (Sx.fac (N + 1) * K ^ (N + 1)).log2 < 9000) :
    ∃ d, m_least [dg, .lst (rowsI R N W g c), .int N] = .ok (.fz d) ∧ LeastIs R N W g l (Sx.fac (N + 1) * K ^ (N + 1)) d := by
  have ok : ClOk (csOf R N W) (gsOf N l) (gsOf R g) := cl_ok hK hW hl0 hl hg (by omega) (by omega) hB
  obtain ⟨fin, e, fo⟩ := climb_ok ok
  rw [cs_rows, gs_row, gs_row] at e
  have hn : (lpOf (csOf R N W) (gsOf N l) (gsOf R g)).n = R := lp_n
  have hm : (lpOf (csOf R N W) (gsOf N l) (gsOf R g)).m = N := lp_m
  have la : ∀ i, i < (lpOf (csOf R N W) (gsOf N l) (gsOf R g)).m → ∀ j, j < (lpOf (csOf R N W) (gsOf N l) (gsOf R g)).n → (lpOf (csOf R N W) (gsOf N l) (gsOf R g)).a i j = W j i := fun i hi j hj => lp_a (by omega) (by omega)
  have lg : ∀ j, j < (lpOf (csOf R N W) (gsOf N l) (gsOf R g)).n → (lpOf (csOf R N W) (gsOf N l) (gsOf R g)).g j = g j := fun j hj => lp_g (by omega)
  have ll : ∀ i, i < (lpOf (csOf R N W) (gsOf N l) (gsOf R g)).m → (lpOf (csOf R N W) (gsOf N l) (gsOf R g)).l i = l i := fun i hi => lp_l (by omega)
  have hT := fun s => Sx.T_small (P := lpOf (csOf R N W) (gsOf N l) (gsOf R g)) hK (fun i hi j hj => by rw [la i hi j hj]; exact hW j (by omega) i (by omega)) (fun i hi => by rw [ll i hi]; exact hl i (by omega)) (fun j hj => by rw [lg j hj]; exact hg j (by omega)) s
  have hS := fun s => Sx.sc_small (P := lpOf (csOf R N W) (gsOf N l) (gsOf R g)) hK (fun i hi j hj => by rw [la i hi j hj]; exact hW j (by omega) i (by omega)) (fun i hi => by rw [ll i hi]; exact hl i (by omega)) (fun j hj => by rw [lg j hj]; exact hg j (by omega)) s
  have hm' : Sx.fac ((lpOf (csOf R N W) (gsOf N l) (gsOf R g)).m + 1) * K ^ ((lpOf (csOf R N W) (gsOf N l) (gsOf R g)).m + 1) = Sx.fac (N + 1) * K ^ (N + 1) := by rw [hm]
  simp only [hm'] at hT hS
  generalize hP : lpOf (csOf R N W) (gsOf N l) (gsOf R g) = P at *
  have hcols : lCols [.fz dg, .fz (.lst (rowsI R N W g c)), .fz (.int N), .un, .un, .un, .un, .un, .un, .un, .un] = .ok (.ow ((List.range R).map fun k => D.lst (rowD N (W k)))) := by
    refine ev_lc (ds := rowsI R N W g c) (by simp) (by simp) ?_ (.inr (by simp; omega))
    refine lcL_map (List.range R) _ _ fun k hk => ⟨_, .ow (rowD N (W k)), rfl, rfl, ?_, rfl⟩
    simp [wipeE, hc]
  have hgains : ∀ s3 s0 : DL.Sl, lGains [s0, .fz (.lst (rowsI R N W g c)), .fz (.int N), s3, .un, .un, .un, .un, .un, .un, .un] = .ok (.ow (rowD R g)) := fun s3 s0 => by
    refine ev_lc (ds := rowsI R N W g c) (by simp) (by simp) ?_ (.inr (by simp; omega))
    refine lcL_map (List.range R) _ _ fun k hk => ⟨_, .fz (.int (g k)), rfl, rfl, ?_, rfl⟩
    simp [wipeE]
  have hb : b_least = (sSeq (sSet 3 (List.range 64) lCols) (sSeq (sSet 4 (List.range 64) lGains) (sSeq (sAsg [3, 0, 4] (nTup 4 (nCons (nName 5) (nCons (nName 6) (nCons (nName 7) (nCons (nName 8) nNil))))) (eA (oCal 3 m_climb) (aCons (eVar 3) (aCons (eA oList (aCons (eVar 0) aNil)) (aCons (eVar 4) aNil))))) lEnd))) := rfl
  have ol : oList [dg] = .ok (.ow (rowD N l)) := by rcases hdg with rfl | rfl <;> rfl
  have fz0 : ∀ (ds : List DL.D), frzIf (.ow ds) (List.range 64) [.fz dg, .fz (.lst (rowsI R N W g c)), .fz (.int N), .un, .un, .un, .un, .un, .un, .un, .un] = [.fz dg, .fz (.lst (rowsI R N W g c)), .fz (.int N), .un, .un, .un, .un, .un, .un, .un, .un] := fun ds => by
    rcases frz_cases' (.ow ds) (List.range 64) [.fz dg, .fz (.lst (rowsI R N W g c)), .fz (.int N), .un, .un, .un, .un, .un, .un, .un, .un] with e | e <;> rw [e]
    rw [frzAll_map _ _ (by simp)]; rfl
  have fin4 : ∀ (a b x y : DL.D) (s3 s4 : DL.Sl), ∃ t3 t4 : DL.Sl, ofO (nTup 4 (nCons (nName 5) (nCons (nName 6) (nCons (nName 7) (nCons (nName 8) nNil)))) (.tup [a, b, x, y]) (frzIf (.fz (.tup [a, b, x, y])) [3, 0, 4] [.fz dg, .fz (.lst (rowsI R N W g c)), .fz (.int N), s3, s4, .un, .un, .un, .un, .un, .un])) = .nx [.fz dg, .fz (.lst (rowsI R N W g c)), .fz (.int N), t3, t4, .fz a, .fz b, .fz x, .fz y, .un, .un] := fun a b x y s3 s4 => by
    rcases frz_cases' (.fz (.tup [a, b, x, y])) [3, 0, 4] [.fz dg, .fz (.lst (rowsI R N W g c)), .fz (.int N), s3, s4, .un, .un, .un, .un, .un, .un] with e | e <;> rw [e]
    · exact ⟨_, _, rfl⟩
    · exact ⟨_, _, rfl⟩
  have start : ∀ a b x y : DL.D, finD P fin = .tup [a, b, x, y] → ∃ t3 t4 : DL.Sl, b_least (startE 11 [dg, .lst (rowsI R N W g c), .int N]) = lEnd [.fz dg, .fz (.lst (rowsI R N W g c)), .fz (.int N), t3, t4, .fz a, .fz b, .fz x, .fz y, .un, .un] := fun a b x y ef => by
    rw [ef] at e
    obtain ⟨t3, t4, h⟩ := fin4 a b x y (.ow ((List.range R).map fun k => D.lst (rowD N (W k)))) (.ow (rowD R g))
    refine ⟨t3, t4, ?_⟩
    rw [hb]
    show sSeq _ _ [.fz dg, .fz (.lst (rowsI R N W g c)), .fz (.int N), .un, .un, .un, .un, .un, .un, .un, .un] = _
    simp only [ev_seq, ev_set, hcols, ev_ofM, fz0, ev_sow, List.set, ev_tn, hgains, ev_frzRow, ev_asg, ev_eA, ev_aCons, ev_vs, ev_v0o, ev_v0f, ev_bok, ev_rfz, ev_row, ev_aNil, ol, ev_pok, oCal, List.length_cons, List.length_nil, e, if_true, h]
  cases fo with
  | @top s hI h =>
    obtain ⟨t3, t4, st⟩ := start _ _ _ _ rfl
    have T := top_least hI h la lg ll
    rw [hn, hm] at T
    have yb : ∀ p, p < N → (s.yOf P p).natAbs ≤ Sx.fac (N + 1) * K ^ (N + 1) := fun p hp => y_abs hI (hT s) (by omega)
    have xb : ∀ k, k < R → (s.xOf P k).natAbs ≤ Sx.fac (N + 1) * K ^ (N + 1) := fun k hk => x_abs hI (hT s) (by omega)
    have en := lEnd_top (e0 := .fz dg) (e1 := .fz (.lst (rowsI R N W g c))) (e3 := t3) (e4 := t4) (R := R) (N := N) (s := s.sc P) (y := s.yOf P) (w := s.xOf P) (by omega) (by omega) (small_of (K := 0) (hS s) hB) (fun p hp => small_of (K := 0) (yb p hp) hB) (fun k hk => small_of (K := 0) (xb k hk) hB)
    rw [hn, hm] at st
    obtain ⟨q, hq, eq⟩ := low_eq (N := 1 + N + R) (f := jn N (s.sc P) (s.yOf P) (s.xOf P))
    have e0 : jn N (s.sc P) (s.yOf P) (s.xOf P) 0 = s.sc P := by simp only [jn]; rw [if_pos (by omega), if_pos (by omega)]
    have e1 : ∀ p, p < N → jn N (s.sc P) (s.yOf P) (s.xOf P) (p + 1) = s.yOf P p := fun p hp => by simp only [jn]; rw [if_pos (by omega), if_neg (by omega)]; rfl
    have e2 : ∀ k, k < R → jn N (s.sc P) (s.yOf P) (s.xOf P) (k + (N + 1)) = s.xOf P k := fun k hk => by
      simp only [jn]; rw [if_neg (by omega)]; congr 1; omega
    have L := least_low hq T (s' := lowF (1 + N + R) (jn N (s.sc P) (s.yOf P) (s.xOf P)) 0) (y' := fun i => lowF (1 + N + R) (jn N (s.sc P) (s.yOf P) (s.xOf P)) (i + 1)) (w' := fun i => lowF (1 + N + R) (jn N (s.sc P) (s.yOf P) (s.xOf P)) (i + (N + 1)))
      (by rw [← eq 0 (by omega), e0]) (fun p hp => by rw [← eq (p + 1) (by omega), e1 p hp]) (fun k hk => by rw [← eq (k + (N + 1)) (by omega), e2 k hk])
    refine ⟨_, runD_ok (by rw [st, en]), .least L (fun d h1 h2 h3 => ?_) ?_ (fun p hp => ?_) (fun k hk => ?_)⟩
    · have hg2 := low_gcd (N := 1 + N + R) (f := jn N (s.sc P) (s.yOf P) (s.xOf P))
      have hd : d ∣ gcdN (lowF (1 + N + R) (jn N (s.sc P) (s.yOf P) (s.xOf P))) (1 + N + R) := dvd_gcdN fun i hi => by
        by_cases i0 : i = 0
        · subst i0; exact h1
        · by_cases i1 : i < 1 + N
          · have := h2 (i - 1) (by omega)
            have e : i - 1 + 1 = i := by omega
            rwa [e] at this
          · have := h3 (i - (N + 1)) (by omega)
            have e : i - (N + 1) + (N + 1) = i := by omega
            rwa [e] at this
      have hne : gcdN (lowF (1 + N + R) (jn N (s.sc P) (s.yOf P) (s.xOf P))) (1 + N + R) ≠ 0 := fun hz => by
        have := gcd_dvd (f := lowF (1 + N + R) (jn N (s.sc P) (s.yOf P) (s.xOf P))) (N := 1 + N + R) (i := 0) (by omega)
        rw [hz] at this
        have z := Nat.eq_zero_of_zero_dvd this
        have := L.s1
        omega
      have : gcdN (lowF (1 + N + R) (jn N (s.sc P) (s.yOf P) (s.xOf P))) (1 + N + R) = 1 := by omega
      rw [this] at hd
      exact Nat.dvd_one.mp hd
    · exact Nat.le_trans (low_abs (by omega)) (by rw [e0]; exact hS s)
    · exact Nat.le_trans (low_abs (by omega)) (by rw [e1 p hp]; exact yb p hp)
    · exact Nat.le_trans (low_abs (by omega)) (by rw [e2 k hk]; exact xb k hk)
  | @ray s c' hI hE h =>
    obtain ⟨t3, t4, st⟩ := start _ _ _ _ rfl
    have T := ray_misses hI hE h la lg
    rw [hn, hm] at T
    have wb : ∀ k, k < R → (s.wOf P c' k).natAbs ≤ Sx.fac (N + 1) * K ^ (N + 1) := fun k hk => w_abs hI (hT s) (hS s) hE.lt (by omega)
    have low := m_low (N := R) (f := s.wOf P c') (by omega) fun k hk => small_of (K := 0) (wb k hk) hB
    have t2 : ∀ a b : DL.D, oTupD [a, b] = .ok (.fz (.tup [a, b])) := fun a b => by unfold oTupD; rw [if_pos (by have := sz; simp; omega)]
    refine ⟨_, runD_ok (r := .fz (.tup [.str "none", .tup (rowD R (lowF R (s.wOf P c')))])) ?_, .none (misses_low T) low_gcd fun k hk => Nat.le_trans (low_abs hk) (wb k hk)⟩
    rw [st]
    unfold lEnd
    rw [hn] 
    simp [oCal, low, t2]
end PG
end

section
set_option maxRecDepth 100000
set_option maxHeartbeats 1000000
/-! What shows_least says. -/
namespace PG
open L2 DL
def Sml (x : Int) : Prop := x.natAbs.log2 < 9000
theorem says_dotM {d1 d2 : DL.D} {N : Nat} {f g : Nat → Int} (hN : N < 1000000) (h1 : Sq d1 (rowD N f)) (h2 : Sq d2 (rowD N g)) (hm : ∀ i, i < N → mulOk (f i) (g i) = true) : m_dot [d1, d2] = .ok (.fz (.int (dotF N f g))) := by
  refine runD_ok ?_
  have hl : eLc [2, 3] (iA oZip (aCons (eVar 0) (aCons (eVar 1) aNil))) (nTup 2 (nCons (nName 2) (nCons (nName 3) nNil))) tYesD (e2 oMul (eVar 2) (eVar 3)) [.fz d1, .fz d2, .un, .un] = .ok (.ow (rowD N fun i => f i * g i)) := by
    refine ev_lc (ds := (List.range N).map fun j => D.tup [.int (f j), .int (g j)]) (by simp) ?_ ?_ (.inr (by simpa using hN))
    · simp [oZip, h1.seq, h2.seq, zip_rows]
    · refine lcL_map (List.range N) _ (fun j => .int (f j * g j)) fun j hj => ?_
      have hj := List.mem_range.mp hj
      refine ⟨_, .fz (.int (f j * g j)), rfl, rfl, ?_, rfl⟩
      simp [wipeE, ev_mul (hm j hj)]
  show b_dot [.fz d1, .fz d2, .un, .un] = _
  unfold b_dot
  simp only [ev_ret, ev_eA, ev_aCons, hl, ev_bok, ev_row, ev_aNil, sum_row, ev_pok, ev_ofM]
  rfl
theorem min_1 {d : DL.D} {N : Nat} {f : Nat → Int} (hN : 1 ≤ N) (h : Sq d (rowD N f)) : ∃ m, oMin [d] = .ok (.fz (.int m)) ∧ (m < 0 ↔ ∃ p, p < N ∧ f p < 0) := by
  have h0 : (List.range N).map f ≠ [] := by
    intro h
    have : N = 0 := by simpa using h
    omega
  refine ⟨minI ((List.range N).map f), ?_, ?_⟩
  · have e : oMin1 [d] = .ok (.fz (.int (minI ((List.range N).map f)))) := by
      show ofInts _ d = _
      rw [h.ints, toInts_row]
      simp only
      rw [if_neg h0]
    show DL.orM (oMin1 [d]) (oMin2 [d]) = _
    rw [e]; rfl
  · constructor
    · intro hm
      obtain ⟨p, hp, e⟩ := List.mem_map.mp (minI_mem h0)
      exact ⟨p, List.mem_range.mp hp, by omega⟩
    · rintro ⟨p, hp, hf⟩
      have := minI_le (ns := (List.range N).map f) (f p) (List.mem_map.mpr ⟨p, List.mem_range.mpr hp, rfl⟩)
      omega
end PG
end

section
set_option maxRecDepth 100000
set_option maxHeartbeats 1000000
namespace PG
open L2 DL
def slB1 : DL.Env → DL.So := (sIf [5, 3, 6, 2] (tV (e2 (cop .Lt) (eA (oCal 2 m_dot) (aCons (eVar 5) (aCons (eVar 3) aNil))) (e2 oMul (eVar 6) (eVar 2)))) (sRet [] (eC (.bl false))) sNext)
def slC1 : DL.Env → DL.M Rs := eLc [5, 6, 9] (iA oZip (aCons (eVar 1) (aCons (eVar 4) aNil))) (nTup 2 (nCons (nTup 2 (nCons (nName 5) (nCons (nName 6) nNil))) (nCons (nName 9) nNil))) tYesD (e2 oMul (eVar 9) (e2 oIx (eVar 5) (eVar 7)))
def slC2 : DL.Env → DL.M Rs := eLc [5, 6, 9] (iA oZip (aCons (eVar 1) (aCons (eVar 4) aNil))) (nTup 2 (nCons (nTup 2 (nCons (nName 5) (nCons (nName 6) nNil))) (nCons (nName 9) nNil))) tYesD (e2 oMul (eVar 9) (eVar 6))
def slB2 : DL.Env → DL.So := (sSeq (sSet 8 (List.range 64) (eA oSum (aCons slC1 aNil))) (sIf [8, 0, 7, 2] (tV (e2 (cop .Gt) (eVar 8) (e2 oMul (e2 oIx (eVar 0) (eVar 7)) (eVar 2)))) (sRet [] (eC (.bl false))) sNext))
def slEnd : DL.Env → DL.So := (sRet ([0, 3] ++ List.range 64) (e2 (cop .Eq) (eA (oCal 2 m_dot) (aCons (eVar 0) (aCons (eVar 3) aNil))) (eA oSum (aCons slC2 aNil))))
theorem zip_rowsI {R N : Nat} {W : Nat → Nat → Int} {g f : Nat → Int} {c : List DL.D → DL.D} : (rowsI R N W g c).zip (rowD R f) = (List.range R).map fun k => (D.tup [c (rowD N (W k)), .int (g k)], D.int (f k)) := by
  simp only [rowsI, rowD]
  induction List.range R with
  | nil => rfl
  | cons x xs ih => simp [ih]
section
variable {R N : Nat} {W : Nat → Nat → Int} {g l : Nat → Int} {c : List DL.D → DL.D} {dg dy dw : DL.D} {s : Int} {y w : Nat → Int}
theorem e_slC1 {p : Nat} {o5 o6 o8 : DL.Sl} (hR : R < 1000000) (hc : ∀ ds, Sq (c ds) ds) (hw : Sq dw (rowD R w)) (hp : p < N) (hW : ∀ k, k < R → ∀ i, i < N → Sml (W k i)) (sw : ∀ k, k < R → Sml (w k)) : slC1 [.fz dg, .fz (.lst (rowsI R N W g c)), .fz (.int s), .fz dy, .fz dw, o5, o6, .fz (.int p), o8, .un] = .ok (.ow (rowD R fun k => w k * W k p)) := by
  refine ev_lc (ds := (List.range R).map fun k => D.tup [.tup [c (rowD N (W k)), .int (g k)], .int (w k)]) (by simp) ?_ ?_ (.inr (by simpa using hR))
  · simp [oZip, hw.seq, (Sq.l (rowsI R N W g c)).seq, zip_rowsI]
  · refine lcL_map (List.range R) _ (fun k => .int (w k * W k p)) fun k hk => ?_
    have hk := List.mem_range.mp hk
    refine ⟨_, .fz (.int (w k * W k p)), rfl, rfl, ?_, rfl⟩
    simp [wipeE, mul_ok (sw k hk) (hW k hk p hp), (hc _).ix, ix_row hp]
theorem e_slC2 {o5 o6 o7 o8 : DL.Sl} (hR : R < 1000000) (hw : Sq dw (rowD R w)) (sg : ∀ k, k < R → Sml (g k)) (sw : ∀ k, k < R → Sml (w k)) : slC2 [.fz dg, .fz (.lst (rowsI R N W g c)), .fz (.int s), .fz dy, .fz dw, o5, o6, o7, o8, .un] = .ok (.ow (rowD R fun k => w k * g k)) := by
  refine ev_lc (ds := (List.range R).map fun k => D.tup [.tup [c (rowD N (W k)), .int (g k)], .int (w k)]) (by simp) ?_ ?_ (.inr (by simpa using hR))
  · simp [oZip, hw.seq, (Sq.l (rowsI R N W g c)).seq, zip_rowsI]
  · refine lcL_map (List.range R) _ (fun k => .int (w k * g k)) fun k hk => ?_
    have hk := List.mem_range.mp hk
    refine ⟨_, .fz (.int (w k * g k)), rfl, rfl, ?_, rfl⟩
    simp [wipeE, mul_ok (sw k hk) (sg k hk)]
end
end PG
end

section
set_option maxRecDepth 100000
set_option maxHeartbeats 1000000
namespace PG
open L2 DL
section
variable {R N Ny Mw : Nat} {W : Nat → Nat → Int} {g l : Nat → Int} {c : List DL.D → DL.D} {dg dy dw : DL.D} {s : Int} {y w : Nat → Int}
theorem says_shows_least (hR : R < 1000000) (hN0 : 1 ≤ N) (hN : N < 1000000) (hc : ∀ ds, Sq (c ds) ds) (hdg : Sq dg (rowD N l)) (hy : Sq dy (rowD Ny y)) (hw : Sq dw (rowD Mw w))
    (sW : ∀ k, k < R → ∀ i, i < N → Sml (W k i)) (sg : ∀ k, k < R → Sml (g k)) (sl : ∀ i, i < N → Sml (l i)) (ss : Sml s) (sy : ∀ i, i < Ny → Sml (y i)) (sw : ∀ k, k < Mw → Sml (w k)) :
    Says (m_shows_least [dg, .lst (rowsI R N W g c), .int s, dy, dw]) (Ny = N ∧ Mw = R ∧ Least R N W g l s y w) := by
  have hb : b_shows_least = (sSeq (sIf [2, 3, 0, 4, 1] (tO (tV (e2 (cop .Lt) (eVar 2) (eC (.int 1)))) (tO (tV (e2 (cop .NotEq) (eA oLen (aCons (eVar 3) aNil)) (eA oLen (aCons (eVar 0) aNil)))) (tV (e2 (cop .NotEq) (eA oLen (aCons (eVar 4) aNil)) (eA oLen (aCons (eVar 1) aNil)))))) (sRet [] (eC (.bl false))) sNext) (sSeq (sIf [3, 4] (tO (tV (e2 (cop .Lt) (eA oMin (aCons (eVar 3) aNil)) (eC (.int 0)))) (tV (e2 (cop .Lt) (e2 oMinDf (eVar 4) (eC (.int 0))) (eC (.int 0))))) (sRet [] (eC (.bl false))) sNext) (sSeq (sFor [1] (iE iterA (eVar 1)) (nTup 2 (nCons (nName 5) (nCons (nName 6) nNil))) slB1) (sSeq (sFor [0] (iA oRng1 (aCons (eA oLen (aCons (eVar 0) aNil)) aNil)) (nName 7) slB2) slEnd)))) := rfl
  have fals : ∀ {P : Prop}, ¬ P → (false = true ↔ P) := fun h => by simp [h]
  by_cases hNy : Ny = N
  · subst hNy
    by_cases hMw : Mw = R
    · subst hMw
      by_cases hs1 : s < 1
      · refine ⟨false, runD_ok ?_, fals fun h => by have := h.2.2.s1; omega⟩
        rw [hb]
        simp [startE, hs1]
      · obtain ⟨m1, a1, a2⟩ := min_1 hN0 hy
        obtain ⟨m2, b1, b2⟩ := min_df hw
        by_cases hm1 : m1 < 0
        · refine ⟨false, runD_ok ?_, fals fun h => ?_⟩
          · rw [hb]
            simp [startE, hs1, hy.len, hdg.len, hw.len, a1, hm1]
          · obtain ⟨p, hp, hf⟩ := a2.mp hm1
            have := h.2.2.ynn p hp
            omega
        · by_cases hm2 : m2 < 0
          · refine ⟨false, runD_ok ?_, fals fun h => ?_⟩
            · rw [hb]
              simp [startE, hs1, hy.len, hdg.len, hw.len, a1, hm1, b1, hm2]
            · obtain ⟨p, hp, hf⟩ := b2.mp hm2
              have := h.2.2.wnn p hp
              omega
          · have ynn : ∀ p, p < Ny → 0 ≤ y p := fun p hp => Int.not_lt.mp fun h => hm1 (a2.mpr ⟨p, hp, h⟩)
            have wnn : ∀ p, p < Mw → 0 ≤ w p := fun p hp => Int.not_lt.mp fun h => hm2 (b2.mpr ⟨p, hp, h⟩)
            have loop1 := forL_gen (t := nTup 2 (nCons (nName 5) (nCons (nName 6) nNil))) (body := slB1) (ds := rowsI Mw Ny W g c) (env := [.fz dg, .fz (.lst (rowsI Mw Ny W g c)), .fz (.int s), .fz dy, .fz dw, .un, .un, .un, .un, .un])
              (fun i e => (∀ k, k < i → g k * s ≤ dotF Ny (W k) y) ∧ ∃ o5 o6, e = [.fz dg, .fz (.lst (rowsI Mw Ny W g c)), .fz (.int s), .fz dy, .fz dw, o5, o6, .un, .un, .un])
              (fun z => (z = .rt (.fz (.bl false)) ∧ ¬ Least Mw Ny W g l s y w) ∨ ∃ o5 o6, z = .nx [.fz dg, .fz (.lst (rowsI Mw Ny W g c)), .fz (.int s), .fz dy, .fz dw, o5, o6, .un, .un, .un] ∧ ∀ k, k < Mw → g k * s ≤ dotF Ny (W k) y)
              ⟨fun k hk => by omega, _, _, rfl⟩ (by
                rintro i dd e hdd ⟨good, o5, o6, rfl⟩
                obtain ⟨hi, rfl⟩ := rowsI_at hdd
                have dv := says_dotM hN (hc (rowD Ny (W i))) hy (fun j hj => mul_small (sW i hi j hj) (sy j hj))
                have mg := mul_ok (sg i hi) ss
                refine ⟨_, rfl, ?_⟩
                show _ ∨ _
                by_cases q : dotF Ny (W i) y < g i * s
                · refine .inr (.inl ⟨_, ?_, .inl ⟨rfl, fun h => by have := h.reach i hi; omega⟩⟩)
                  unfold slB1
                  simp [oCal, dv, mg, q]
                · refine .inl ⟨[.fz dg, .fz (.lst (rowsI Mw Ny W g c)), .fz (.int s), .fz dy, .fz dw, .fz (c (rowD Ny (W i))), .fz (.int (g i)), .un, .un, .un], .inl ?_, fun k hk => ?_, _, _, rfl⟩
                  · unfold slB1
                    simp [oCal, dv, mg, q]
                  · by_cases hki : k = i
                    · rw [hki]; omega
                    · exact good k (by omega))
              (fun e ⟨good, o5, o6, he⟩ => .inr ⟨o5, o6, by rw [he], fun k hk => good k (by simpa using hk)⟩)
            have start : b_shows_least (startE 10 [dg, .lst (rowsI Mw Ny W g c), .int s, dy, dw]) = (forL (nTup 2 (nCons (nName 5) (nCons (nName 6) nNil))) slB1 (rowsI Mw Ny W g c) [.fz dg, .fz (.lst (rowsI Mw Ny W g c)), .fz (.int s), .fz dy, .fz dw, .un, .un, .un, .un, .un]).andThen (sSeq (sFor [0] (iA oRng1 (aCons (eA oLen (aCons (eVar 0) aNil)) aNil)) (nName 7) slB2) slEnd) := by
              rw [hb]
              simp [startE, hs1, hy.len, hdg.len, hw.len, a1, hm1, b1, hm2]
            rcases loop1 with ⟨l1, nk⟩ | ⟨o5, o6, l1, reach⟩
            · exact ⟨false, runD_ok (by rw [start, l1]; simp), fals fun h => nk h.2.2⟩
            · have loop2 := forL_gen (t := nName 7) (body := slB2) (ds := rgD Ny) (env := [.fz dg, .fz (.lst (rowsI Mw Ny W g c)), .fz (.int s), .fz dy, .fz dw, o5, o6, .un, .un, .un])
                (fun i e => (∀ p, p < i → dotF Mw w (fun k => W k p) ≤ l p * s) ∧ ∃ o7 o8, e = [.fz dg, .fz (.lst (rowsI Mw Ny W g c)), .fz (.int s), .fz dy, .fz dw, o5, o6, o7, o8, .un])
                (fun z => (z = .rt (.fz (.bl false)) ∧ ¬ Least Mw Ny W g l s y w) ∨ ∃ o7 o8, z = .nx [.fz dg, .fz (.lst (rowsI Mw Ny W g c)), .fz (.int s), .fz dy, .fz dw, o5, o6, o7, o8, .un] ∧ ∀ p, p < Ny → dotF Mw w (fun k => W k p) ≤ l p * s)
                ⟨fun k hk => by omega, _, _, rfl⟩ (by
                  rintro i dd e hdd ⟨good, o7, o8, rfl⟩
                  obtain ⟨hi, rfl⟩ := rng_get hdd
                  have cv := e_slC1 (g := g) (s := s) (dg := dg) (dy := dy) (o5 := o5) (o6 := o6) (o8 := o8) hR hc hw hi sW sw
                  have ml := mul_ok (sl i hi) ss
                  have ig : oIx dg (.int i) = .ok (.fz (.int (l i))) := by rw [hdg.ix, ix_row hi]; rfl
                  refine ⟨_, rfl, ?_⟩
                  show _ ∨ _
                  by_cases q : l i * s < dotF Mw w (fun k => W k i)
                  · have q' : l i * s < Sx.sm Mw (fun k => w k * W k i) := q
                    refine .inr (.inl ⟨_, ?_, .inl ⟨rfl, fun h => by have := h.within i hi; omega⟩⟩)
                    unfold slB2
                    simp [cv, ig, ml, q']
                  · have q' : ¬ l i * s < Sx.sm Mw (fun k => w k * W k i) := q
                    refine .inl ⟨[.fz dg, .fz (.lst (rowsI Mw Ny W g c)), .fz (.int s), .fz dy, .fz dw, o5, o6, .fz (.int i), .fz (.int (Sx.sm Mw fun k => w k * W k i)), .un], .inl ?_, fun k hk => ?_, _, _, rfl⟩
                    · unfold slB2
                      simp [cv, ig, ml, q']
                    · by_cases hki : k = i
                      · rw [hki]; omega
                      · exact good k (by omega))
                (fun e ⟨good, o7, o8, he⟩ => .inr ⟨o7, o8, by rw [he], fun k hk => good k (by simpa using hk)⟩)
              have go : (sSeq (sFor [0] (iA oRng1 (aCons (eA oLen (aCons (eVar 0) aNil)) aNil)) (nName 7) slB2) slEnd) [.fz dg, .fz (.lst (rowsI Mw Ny W g c)), .fz (.int s), .fz dy, .fz dw, o5, o6, .un, .un, .un] = (forL (nName 7) slB2 (rgD Ny) [.fz dg, .fz (.lst (rowsI Mw Ny W g c)), .fz (.int s), .fz dy, .fz dw, o5, o6, .un, .un, .un]).andThen slEnd := by
                simp [hdg.len, rng1 hN]
              rcases loop2 with ⟨l2, nk⟩ | ⟨o7, o8, l2, within⟩
              · exact ⟨false, runD_ok (by rw [start, l1, ev_tn, go, l2]; simp), fals fun h => nk h.2.2⟩
              · have c2 := e_slC2 (N := Ny) (W := W) (c := c) (s := s) (dg := dg) (dy := dy) (o5 := o5) (o6 := o6) (o7 := o7) (o8 := o8) hR hw sg sw
                have dv := says_dotM hN hdg hy (fun j hj => mul_small (sl j hj) (sy j hj))
                refine ⟨decide (dotF Ny l y = dotF Mw w g), runD_ok ?_, ?_⟩
                · rw [start, l1, ev_tn, go, l2, ev_tn]
                  unfold slEnd
                  simp only [ev_ret, ev_e2, ev_eA, ev_aCons, ev_vs, ev_v0f, ev_bok, ev_rfz, ev_aNil, oCal, List.length_cons, List.length_nil, if_true, dv, ev_pok, c2, ev_row, sum_row, ev_copEq, ev_eqI, ev_ofM]
                  rfl
                · rw [decide_eq_true_eq]
                  exact ⟨fun h => ⟨rfl, rfl, by omega, ynn, wnn, reach, within, h⟩, fun h => h.2.2.total⟩
    · refine ⟨false, runD_ok ?_, fals fun h => hMw h.2.1⟩
      rw [hb]
      have : ¬ (Mw : Int) = R := by omega
      by_cases hs1 : s < 1
      · simp [startE, hs1]
      · simp [startE, hs1, hy.len, hdg.len, hw.len, this]
  · refine ⟨false, runD_ok ?_, fals fun h => hNy h.1⟩
    rw [hb]
    have : ¬ (Ny : Int) = N := by omega
    by_cases hs1 : s < 1
    · simp [startE, hs1]
    · simp [startE, hs1, hy.len, hdg.len, this]
end
end PG
end

section
set_option maxRecDepth 100000
set_option maxHeartbeats 1000000
namespace LW
open L2 DL PG
def b_law_numbers : DL.Env → DL.So :=
  (sSeq (sSet 2 [] (eA oLstD aNil)) (sSeq (sSet 3 [] (eC (.int 7))) (sSeq (sFor [0] (iA oRng1 (aCons (eA oMin (aCons (eA oLen (aCons (eVar 0) aNil)) (aCons (eC (.int 63)) aNil))) aNil)) (nName 4) (sSeq (sSet 5 [0, 4] (eA oInt (aCons (e2 oIx (eVar 0) (eVar 4)) aNil))) (sSeq (sSet 3 [3, 5, 4] (e2 oMod (eA oInt (aCons (e2 oAdd (e2 oAdd (e2 oMul (eVar 3) (eC (.int 48271))) (e2 oMul (eVar 5) (eC (.int 69621)))) (eVar 4)) aNil)) (eC (.int 2147483647)))) (sSeq (sIf [5] (tV (e2 (cop .Lt) (eVar 5) (eC (.int 0)))) (sSet 5 [5] (e2 oSub (eC (.int 1)) (e2 oMul (eC (.int 2)) (eVar 5)))) sNext) (sIf [5] (tV (e2 (cop .GtE) (eVar 5) (e2 oPow (eC (.int 10)) (eC (.int 18))))) (sFor [] (iA oRng1 (aCons (eC (.int 60)) aNil)) (nName 6) (sIf [5, 2, 1] (tAn (tV (e2 (cop .Gt) (eVar 5) (eC (.int 0)))) (tV (e2 (cop .Lt) (eA oLen (aCons (eVar 2) aNil)) (eVar 1)))) (sSeq (sApp 2 [5] (e2 oMod (eA oInt (aCons (eVar 5) aNil)) (eC (.int 1000)))) (sSet 5 [5] (e2 oDiv (eVar 5) (eC (.int 1000))))) sNext)) (sIf [2, 1] (tV (e2 (cop .Lt) (eA oLen (aCons (eVar 2) aNil)) (eVar 1))) (sApp 2 [5, 4] (e2 oMod (e2 oMod (eA oInt (aCons (e2 oMul (e2 oMod (eA oInt (aCons (e2 oAdd (e2 oMul (eVar 5) (eC (.int 48271))) (e2 oMul (eVar 4) (eC (.int 69621)))) aNil)) (eC (.int 2147483647))) (eC (.int 16807))) aNil)) (eC (.int 65537))) (eC (.int 1000)))) sNext)))))) (sSeq (sFor [1] (iA oRng1 (aCons (eVar 1) aNil)) (nName 4) (sIf [2, 1] (tV (e2 (cop .Lt) (eA oLen (aCons (eVar 2) aNil)) (eVar 1))) (sSeq (sSet 3 [3] (e2 oMod (eA oInt (aCons (e2 oAdd (e2 oMul (eVar 3) (eC (.int 16807))) (eC (.int 12345))) aNil)) (eC (.int 2147483647)))) (sApp 2 [3] (e2 oMod (eA oInt (aCons (e2 oDiv (eVar 3) (eC (.int 1000))) aNil)) (eC (.int 1000))))) sNext)) (sRetV 2)))))
def m_law_numbers (ds : List DL.D) : DL.M DL.Rs := pureM (runD 7 b_law_numbers ds)
def nIn : DL.Env → DL.So := (sIf [5, 2, 1] (tAn (tV (e2 (cop .Gt) (eVar 5) (eC (.int 0)))) (tV (e2 (cop .Lt) (eA oLen (aCons (eVar 2) aNil)) (eVar 1)))) (sSeq (sApp 2 [5] (e2 oMod (eA oInt (aCons (eVar 5) aNil)) (eC (.int 1000)))) (sSet 5 [5] (e2 oDiv (eVar 5) (eC (.int 1000))))) sNext)
def nOne : DL.Env → DL.So := (sIf [2, 1] (tV (e2 (cop .Lt) (eA oLen (aCons (eVar 2) aNil)) (eVar 1))) (sApp 2 [5, 4] (e2 oMod (e2 oMod (eA oInt (aCons (e2 oMul (e2 oMod (eA oInt (aCons (e2 oAdd (e2 oMul (eVar 5) (eC (.int 48271))) (e2 oMul (eVar 4) (eC (.int 69621)))) aNil)) (eC (.int 2147483647))) (eC (.int 16807))) aNil)) (eC (.int 65537))) (eC (.int 1000)))) sNext)
def nBig : DL.Env → DL.So := (sIf [5] (tV (e2 (cop .GtE) (eVar 5) (e2 oPow (eC (.int 10)) (eC (.int 18))))) (sFor [] (iA oRng1 (aCons (eC (.int 60)) aNil)) (nName 6) nIn) nOne)
def nCell : DL.Env → DL.So := (sSeq (sSet 5 [0, 4] (eA oInt (aCons (e2 oIx (eVar 0) (eVar 4)) aNil))) (sSeq (sSet 3 [3, 5, 4] (e2 oMod (eA oInt (aCons (e2 oAdd (e2 oAdd (e2 oMul (eVar 3) (eC (.int 48271))) (e2 oMul (eVar 5) (eC (.int 69621)))) (eVar 4)) aNil)) (eC (.int 2147483647)))) (sSeq (sIf [5] (tV (e2 (cop .Lt) (eVar 5) (eC (.int 0)))) (sSet 5 [5] (e2 oSub (eC (.int 1)) (e2 oMul (eC (.int 2)) (eVar 5)))) sNext) nBig)))
def nFill : DL.Env → DL.So := (sIf [2, 1] (tV (e2 (cop .Lt) (eA oLen (aCons (eVar 2) aNil)) (eVar 1))) (sSeq (sSet 3 [3] (e2 oMod (eA oInt (aCons (e2 oAdd (e2 oMul (eVar 3) (eC (.int 16807))) (eC (.int 12345))) aNil)) (eC (.int 2147483647)))) (sApp 2 [3] (e2 oMod (eA oInt (aCons (e2 oDiv (eVar 3) (eC (.int 1000))) aNil)) (eC (.int 1000))))) sNext)
/-- what is known of the numbers found -/
def Fd (M : Nat) (fs : List Int) : Prop := M < 1000 ∧ fs.length ≤ M ∧ ∀ x, x ∈ fs → 0 ≤ x ∧ x < 1000
theorem Fd.push {M : Nat} {fs : List Int} (h : Fd M fs) (hl : fs.length < M) (x : Int) : Fd M (fs ++ [x.fmod 1000]) := by
  refine ⟨h.1, by simp; omega, fun y hy => ?_⟩
  rcases List.mem_append.mp hy with h1 | h1
  · exact h.2.2 y h1
  · simp at h1
    subst h1
    rw [Int.fmod_eq_emod_of_nonneg _ (by omega)]
    omega
theorem ints_push (fs : List Int) (x : Int) : fs.map D.int ++ [D.int x] = (fs ++ [x]).map D.int := by simp
def E5 (M : Nat) (ns : List Int) (fs : List Int) (sd c : Int) (o4 o6 : DL.Sl) : DL.Env := [.fz (.scr ns), .fz (.int M), .ow (fs.map D.int), .fz (.int sd), o4, .fz (.int c), o6]
theorem szn {n : Nat} (h : n ≤ 1000) : n < PySem.sizeLine := by have := sz; omega
theorem d1000 {a : Int} : oDiv (.int a) (.int 1000) = .ok (.fz (.int (a.fdiv 1000))) := div_ok (by decide) (by decide)
theorem m1000 {a : Int} : oMod (.int a) (.int 1000) = .ok (.fz (.int (a.fmod 1000))) := ev_mod (by decide)
theorem nIn_ev {M : Nat} {ns fs : List Int} {sd c : Int} {o4 : DL.Sl} {d6 : DL.D} (h : Fd M fs) : ∃ fs' c', nIn (E5 M ns fs sd c o4 (.fz d6)) = .nx (E5 M ns fs' sd c' o4 (.fz d6)) ∧ Fd M fs' := by
  unfold nIn E5
  by_cases h1 : 0 < c
  · by_cases h2 : fs.length < M
    · refine ⟨fs ++ [c.fmod 1000], c.fdiv 1000, ?_, h.push h2 c⟩
      have h2' : (fs.length : Int) < M := by omega
      have hs := szn (n := fs.length) (by have := h.1; omega)
      simp only [ev_if, ev_tAn, ev_tV, ev_e2, ev_vs, ev_v0f, ev_v0o, ev_bok, ev_rfz, ev_row, ev_c, ev_copGt, ev_gt, ev_pok, ev_asB, h1, decide_true, if_true, ev_eA, ev_aCons, ev_aNil, ev_lenL, List.length_map, ev_copLt, ev_lt, h2', ev_ofM, ev_seq, ev_app, ev_ownS, ev_own0, ev_int, m1000, ev_frzInt, hs, List.set, ev_tn, ev_set, d1000, ev_sfz, ints_push]
    · refine ⟨fs, c, ?_, h⟩
      have h2' : ¬ (fs.length : Int) < M := by omega
      simp only [ev_if, ev_tAn, ev_tV, ev_e2, ev_vs, ev_v0f, ev_v0o, ev_bok, ev_rfz, ev_row, ev_c, ev_copGt, ev_gt, ev_pok, ev_asB, h1, decide_true, if_true, ev_eA, ev_aCons, ev_aNil, ev_lenL, List.length_map, ev_copLt, ev_lt, h2', decide_false, ev_ofM, Bool.false_eq_true, if_false, ev_next]
  · refine ⟨fs, c, ?_, h⟩
    simp only [ev_if, ev_tAn, ev_tV, ev_e2, ev_vs, ev_v0f, ev_v0o, ev_bok, ev_rfz, ev_row, ev_c, ev_copGt, ev_gt, ev_pok, ev_asB, h1, decide_false, ev_ofM, Bool.false_eq_true, if_false, ev_next]
theorem nOne_ev {M : Nat} {ns fs : List Int} {sd c : Int} {k : Int} {o6 : DL.Sl} (h : Fd M fs) : ∃ fs', nOne (E5 M ns fs sd c (.fz (.int k)) o6) = .nx (E5 M ns fs' sd c (.fz (.int k)) o6) ∧ Fd M fs' := by
  unfold nOne E5
  have a1 : ∀ x : Int, oMul (.int x) (.int 48271) = .ok (.fz (.int (x * 48271))) := fun x => mul_r (by decide)
  have a2 : ∀ x : Int, oMul (.int x) (.int 69621) = .ok (.fz (.int (x * 69621))) := fun x => mul_r (by decide)
  have a3 : ∀ x : Int, oMul (.int x) (.int 16807) = .ok (.fz (.int (x * 16807))) := fun x => mul_r (by decide)
  have a4 : ∀ x : Int, oMod (.int x) (.int 2147483647) = .ok (.fz (.int (x.fmod 2147483647))) := fun x => ev_mod (by decide)
  have a5 : ∀ x : Int, oMod (.int x) (.int 65537) = .ok (.fz (.int (x.fmod 65537))) := fun x => ev_mod (by decide)
  by_cases h2 : fs.length < M
  · have h2' : (fs.length : Int) < M := by omega
    have hs := szn (n := fs.length) (by have := h.1; omega)
    refine ⟨fs ++ [((((c * 48271 + k * 69621).fmod 2147483647 * 16807)).fmod 65537).fmod 1000], ?_, h.push h2 _⟩
    simp only [ev_if, ev_tV, ev_e2, ev_vs, ev_v0f, ev_v0o, ev_bok, ev_rfz, ev_row, ev_c, ev_pok, ev_asB, decide_true, if_true, ev_eA, ev_aCons, ev_aNil, ev_lenL, List.length_map, ev_copLt, ev_lt, h2', ev_ofM, ev_app, ev_ownS, ev_own0, ev_int, m1000, ev_frzInt, hs, List.set, a1, a2, a3, a4, a5, ev_add, ints_push]
  · have h2' : ¬ (fs.length : Int) < M := by omega
    refine ⟨fs, ?_, h⟩
    simp only [ev_if, ev_tV, ev_e2, ev_vs, ev_v0f, ev_v0o, ev_bok, ev_rfz, ev_row, ev_c, ev_pok, ev_asB, ev_eA, ev_aCons, ev_aNil, ev_lenL, List.length_map, ev_copLt, ev_lt, h2', decide_false, ev_ofM, Bool.false_eq_true, if_false, ev_next]
theorem nBig_ev {M : Nat} {ns fs : List Int} {sd c : Int} {k : Int} {o6 : DL.Sl} (h : Fd M fs) : ∃ fs' c' o6', nBig (E5 M ns fs sd c (.fz (.int k)) o6) = .nx (E5 M ns fs' sd c' (.fz (.int k)) o6') ∧ Fd M fs' := by
  have hp : oPow (.int 10) (.int 18) = .ok (.fz (.int (10 ^ 18))) := by rfl
  have r60 : oRng1 [.int 60] = .ok (rgD 60) := rng1 (n := 60) (by omega)
  by_cases h1 : (10 : Int) ^ 18 ≤ c
  · obtain ⟨e, l, fs', c', o6', rfl, h'⟩ := forL_nx (t := nName 6) (body := nIn) (ds := rgD 60) (env := E5 M ns fs sd c (.fz (.int k)) o6) (fun _ e => ∃ fs' c' o6', e = E5 M ns fs' sd c' (.fz (.int k)) o6' ∧ Fd M fs') ⟨_, _, _, rfl, h⟩ (by
      rintro i d e hd ⟨fs', c', o6', rfl, h'⟩
      obtain ⟨hi, rfl⟩ := rng_get hd
      obtain ⟨fs2, c2, e2, h2⟩ := nIn_ev (ns := ns) (sd := sd) (c := c') (o4 := .fz (.int k)) (d6 := .int i) h'
      exact ⟨_, rfl, _, .inl e2, fs2, c2, _, rfl, h2⟩)
    refine ⟨fs', c', o6', ?_, h'⟩
    unfold nBig
    have t : tV (e2 (cop .GtE) (eVar 5) (e2 oPow (eC (.int 10)) (eC (.int 18)))) (E5 M ns fs sd c (.fz (.int k)) o6) = .ok true := by
      unfold E5
      simp only [ev_tV, ev_e2, ev_vs, ev_v0f, ev_bok, ev_c, ev_rfz, hp, ev_pok, ev_copGe, ev_ge, ev_asB, h1, decide_true]
    simp only [ev_if, t, ev_ofM, if_true, ev_for, ev_iA, ev_aCons, ev_c, ev_bok, ev_aNil, ev_rfz, r60, ev_pok, ev_fzNil]
    exact l
  · obtain ⟨fs', e, h'⟩ := nOne_ev (ns := ns) (sd := sd) (c := c) (k := k) (o6 := o6) h
    refine ⟨fs', c, o6, ?_, h'⟩
    unfold nBig
    have t : tV (e2 (cop .GtE) (eVar 5) (e2 oPow (eC (.int 10)) (eC (.int 18)))) (E5 M ns fs sd c (.fz (.int k)) o6) = .ok false := by
      unfold E5
      simp only [ev_tV, ev_e2, ev_vs, ev_v0f, ev_bok, ev_c, ev_rfz, hp, ev_pok, ev_copGe, ev_ge, ev_asB, h1, decide_false]
    simp only [ev_if, t, ev_ofM, Bool.false_eq_true, if_false]
    exact e
theorem nCell_ev {M : Nat} {ns fs : List Int} {sd : Int} {k : Nat} {o5 o6 : DL.Sl} (hk : k < ns.length) (h : Fd M fs) : ∃ fs' sd' c' o6', nCell [.fz (.scr ns), .fz (.int M), .ow (fs.map D.int), .fz (.int sd), .fz (.int k), o5, o6] = .nx (E5 M ns fs' sd' c' (.fz (.int k)) o6') ∧ Fd M fs' := by
  have a1 : ∀ x : Int, oMul (.int x) (.int 48271) = .ok (.fz (.int (x * 48271))) := fun x => mul_r (by decide)
  have a2 : ∀ x : Int, oMul (.int x) (.int 69621) = .ok (.fz (.int (x * 69621))) := fun x => mul_r (by decide)
  have a3 : ∀ x : Int, oMul (.int 2) (.int x) = .ok (.fz (.int (2 * x))) := fun x => mul_l (by decide)
  have a4 : ∀ x : Int, oMod (.int x) (.int 2147483647) = .ok (.fz (.int (x.fmod 2147483647))) := fun x => ev_mod (by decide)
  have ix : oIx (.scr ns) (.int k) = .ok (.fz (.int ns[k])) := by
    show oR ((atI ns (k : Int)).map D.int) = _
    rw [DL.atI_nat, List.getElem?_eq_getElem hk]; rfl
  by_cases h1 : ns[k] < 0
  · obtain ⟨fs', c', o6', e, h'⟩ := nBig_ev (ns := ns) (sd := (sd * 48271 + ns[k] * 69621 + k).fmod 2147483647) (c := 1 - 2 * ns[k]) (k := k) (o6 := o6) h
    refine ⟨fs', (sd * 48271 + ns[k] * 69621 + k).fmod 2147483647, c', o6', ?_, h'⟩
    unfold nCell
    simp only [ev_seq, ev_set, ev_eA, ev_aCons, ev_e2, ev_vs, ev_v0f, ev_bok, ev_rfz, ix, ev_pok, ev_aNil, ev_int, ev_ofM, ev_frzInt, ev_sfz, List.set, ev_tn, ev_c, a1, a2, ev_add, a4, ev_if, ev_tV, ev_copLt, ev_lt, ev_asB, h1, decide_true, if_true, a3, ev_sub]
    exact e
  · obtain ⟨fs', c', o6', e, h'⟩ := nBig_ev (ns := ns) (sd := (sd * 48271 + ns[k] * 69621 + k).fmod 2147483647) (c := ns[k]) (k := k) (o6 := o6) h
    refine ⟨fs', (sd * 48271 + ns[k] * 69621 + k).fmod 2147483647, c', o6', ?_, h'⟩
    unfold nCell
    simp only [ev_seq, ev_set, ev_eA, ev_aCons, ev_e2, ev_vs, ev_v0f, ev_bok, ev_rfz, ix, ev_pok, ev_aNil, ev_int, ev_ofM, ev_frzInt, ev_sfz, List.set, ev_tn, ev_c, a1, a2, ev_add, a4, ev_if, ev_tV, ev_copLt, ev_lt, ev_asB, h1, decide_false, Bool.false_eq_true, if_false, ev_next]
    exact e
theorem nFill_ev {M : Nat} {ns fs : List Int} {sd : Int} {o4 o5 o6 : DL.Sl} (h : Fd M fs) : ∃ fs' sd', nFill [.fz (.scr ns), .fz (.int M), .ow (fs.map D.int), .fz (.int sd), o4, o5, o6] = .nx [.fz (.scr ns), .fz (.int M), .ow (fs'.map D.int), .fz (.int sd'), o4, o5, o6] ∧ Fd M fs' ∧ (fs'.length = fs.length + 1 ∨ fs'.length = M) := by
  have a3 : ∀ x : Int, oMul (.int x) (.int 16807) = .ok (.fz (.int (x * 16807))) := fun x => mul_r (by decide)
  have a4 : ∀ x : Int, oMod (.int x) (.int 2147483647) = .ok (.fz (.int (x.fmod 2147483647))) := fun x => ev_mod (by decide)
  by_cases h2 : fs.length < M
  · have h2' : (fs.length : Int) < M := by omega
    have hs := szn (n := fs.length) (by have := h.1; omega)
    refine ⟨fs ++ [((((sd * 16807 + 12345).fmod 2147483647).fdiv 1000)).fmod 1000], (sd * 16807 + 12345).fmod 2147483647, ?_, h.push h2 _, .inl (by simp)⟩
    unfold nFill
    simp only [ev_if, ev_tV, ev_e2, ev_vs, ev_v0f, ev_v0o, ev_bok, ev_rfz, ev_row, ev_c, ev_pok, ev_asB, decide_true, if_true, ev_eA, ev_aCons, ev_aNil, ev_lenL, List.length_map, ev_copLt, ev_lt, h2', ev_ofM, ev_seq, ev_set, ev_app, ev_ownS, ev_own0, ev_int, m1000, d1000, ev_frzInt, ev_sfz, hs, List.set, ev_tn, a3, a4, ev_add, ints_push]
  · have h2' : ¬ (fs.length : Int) < M := by omega
    refine ⟨fs, sd, ?_, h, .inr (by have := h.2.1; omega)⟩
    unfold nFill
    simp only [ev_if, ev_tV, ev_e2, ev_vs, ev_v0f, ev_v0o, ev_bok, ev_rfz, ev_row, ev_c, ev_pok, ev_asB, ev_eA, ev_aCons, ev_aNil, ev_lenL, List.length_map, ev_copLt, ev_lt, h2', decide_false, ev_ofM, Bool.false_eq_true, if_false, ev_next]
theorem law_numbers_is {M : Nat} (hM : M < 1000) {ns : List Int} (hn : ns.length ≤ 63) : ∃ nb : Nat → Int, m_law_numbers [.scr ns, .int M] = .ok (.ow (rowD M nb)) ∧ ∀ i, i < M → 0 ≤ nb i ∧ nb i < 1000 := by
  have hb : b_law_numbers = (sSeq (sSet 2 [] (eA oLstD aNil)) (sSeq (sSet 3 [] (eC (.int 7))) (sSeq (sFor [0] (iA oRng1 (aCons (eA oMin (aCons (eA oLen (aCons (eVar 0) aNil)) (aCons (eC (.int 63)) aNil))) aNil)) (nName 4) nCell) (sSeq (sFor [1] (iA oRng1 (aCons (eVar 1) aNil)) (nName 4) nFill) (sRetV 2))))) := rfl
  have l0 : oLstD [] = .ok (.ow []) := by unfold oLstD; rw [if_pos (by simp)]
  have mn : oMin [.int ns.length, .int 63] = .ok (.fz (.int ns.length)) := by
    show DL.M.ok (Rs.fz (.int (if (63 : Int) < ns.length then 63 else ns.length))) = _
    rw [if_neg (by omega)]
  have rn : oRng1 [.int ns.length] = .ok (rgD ns.length) := rng1 (by omega)
  have r80 : oRng1 [.int M] = .ok (rgD M) := rng1 (by omega)
  obtain ⟨e, l1, fs, sd, o4, o5, o6, rfl, h1⟩ := forL_nx (t := nName 4) (body := nCell) (ds := rgD ns.length) (env := [.fz (.scr ns), .fz (.int M), .ow [], .fz (.int 7), .un, .un, .un])
    (fun _ e => ∃ fs sd o4 o5 o6, e = [.fz (.scr ns), .fz (.int M), .ow (fs.map D.int), .fz (.int sd), o4, o5, o6] ∧ Fd M fs) ⟨[], 7, _, _, _, rfl, by simp [Fd, hM]⟩ (by
      rintro i d e hd ⟨fs, sd, o4, o5, o6, rfl, h'⟩
      obtain ⟨hi, rfl⟩ := rng_get hd
      obtain ⟨fs', sd', c', o6', e2, h2⟩ := nCell_ev (ns := ns) (fs := fs) (sd := sd) (o5 := o5) (o6 := o6) hi h'
      exact ⟨_, rfl, _, .inl e2, fs', sd', _, _, o6', rfl, h2⟩)
  obtain ⟨e, l2, fs2, sd2, p4, rfl, h2, h3⟩ := forL_nx (t := nName 4) (body := nFill) (ds := rgD M) (env := [.fz (.scr ns), .fz (.int M), .ow (fs.map D.int), .fz (.int sd), o4, o5, o6])
    (fun k e => ∃ fs sd o4, e = [.fz (.scr ns), .fz (.int M), .ow (fs.map D.int), .fz (.int sd), o4, o5, o6] ∧ Fd M fs ∧ (k ≤ fs.length ∨ fs.length = M)) ⟨fs, sd, o4, rfl, h1, .inl (Nat.zero_le _)⟩ (by
      rintro i d e hd ⟨fs, sd, o4, rfl, h', hl⟩
      obtain ⟨hi, rfl⟩ := rng_get hd
      obtain ⟨fs', sd', e2, h2, h3⟩ := nFill_ev (ns := ns) (fs := fs) (sd := sd) (o4 := .fz (.int i)) (o5 := o5) (o6 := o6) h'
      exact ⟨_, rfl, _, .inl e2, fs', sd', _, rfl, h2, by omega⟩)
  rw [rgD_len] at h3
  have hl : fs2.length = M := by have := h2.2.1; omega
  refine ⟨fun i => fs2.getD i 0, ?_, fun i hi => ?_⟩
  · refine runD_ok ?_
    rw [hb]
    have e80 : fs2.map D.int = rowD M fun i => fs2.getD i 0 := by rw [ints_row, hl]
    rw [e80] at l2
    show sSeq _ _ [.fz (.scr ns), .fz (.int M), .un, .un, .un, .un, .un] = _
    simp only [ev_seq, ev_set, ev_eA, ev_aNil, ev_bok, l0, ev_pok, ev_ofM, ev_sow, ev_c, ev_frzInt, ev_sfz, ev_tn, ev_for, ev_iA, ev_aCons, ev_vs, ev_v0f, ev_rfz, ev_lenS, mn, rn, ev_fzCons, ev_fzNil, List.set, List.getD_cons_zero, List.getD_cons_succ, ev_frzF]
    have fz : frzIf (.ow []) [] [Sl.fz (.scr ns), .fz (.int M), .un, .un, .un, .un, .un] = [.fz (.scr ns), .fz (.int M), .un, .un, .un, .un, .un] := rfl
    rw [fz]
    simp only [ev_seq, ev_lenS, mn, rn, ev_aCons, ev_aNil, ev_iA, ev_eA, ev_c, ev_for, ev_fzCons, ev_fzNil, List.set, ev_tn, ev_frzInt, l1, ev_bok, ev_vs, ev_v0f, ev_rfz, ev_pok, ev_ofM, r80, List.getD_cons_zero, List.getD_cons_succ, ev_frzF, l2, ev_retVs, ev_retVo]
  · have hi' : i < fs2.length := by omega
    have e : fs2.getD i 0 = fs2[i] := by simp [List.getD, hi']
    show 0 ≤ fs2.getD i 0 ∧ fs2.getD i 0 < 1000
    rw [e]
    exact h2.2.2 _ (List.getElem_mem hi')
end LW
end

section
set_option maxRecDepth 100000
set_option maxHeartbeats 4000000
namespace LW
open L2 DL PG
def b_law_lowest : DL.Env → DL.So :=
  (sSeq (sSet 1 [] (eC (.int 0))) (sSeq (sFor [0] (iE iterA (eVar 0)) (nName 2) (sSeq (sSet 3 [2] (eA oAbs (aCons (eVar 2) aNil))) (sFor [] (iA oRng1 (aCons (eC (.int 400)) aNil)) (nName 4) (sIf [3] (tV (e2 (cop .Gt) (eVar 3) (eC (.int 0)))) (sAsg [3, 1, 3] (nTup 2 (nCons (nName 1) (nCons (nName 3) nNil))) (eA oTupD (aCons (eVar 3) (aCons (e2 oMod (eA oInt (aCons (eVar 1) aNil)) (eVar 3)) aNil)))) sNext)))) (sRet (List.range 64) (eA oTuple (aCons (eLc [2] (iE iterA (eVar 0)) (nName 2) tYesD (e2 oDiv (eVar 2) (eA oMax (aCons (eVar 1) (aCons (eC (.int 1)) aNil))))) aNil)))))
def m_law_lowest (ds : List DL.D) : DL.M DL.Rs := pureM (runD 5 b_law_lowest ds)
def b_law_dot : DL.Env → DL.So :=
  (sSeq (sSet 2 [] (eC (.int 0))) (sSeq (sFor [0] (iA oRng1 (aCons (eA oLen (aCons (eVar 0) aNil)) aNil)) (nName 3) (sSet 2 [2, 0, 3, 1, 3] (e2 oAdd (eVar 2) (e2 oMul (e2 oIx (eVar 0) (eVar 3)) (e2 oIx (eVar 1) (eVar 3)))))) (sRetV 2)))
def m_law_dot (ds : List DL.D) : DL.M DL.Rs := pureM (runD 4 b_law_dot ds)
def b_law_same (mm : List DL.D → DL.M DL.Rs) : DL.Env → DL.So :=
  (sSeq (sIf [1] (tV (e2 (cop .Is) (eVar 1) (eC .non))) (sRet [0] (e2 (cop .Is) (eVar 0) (eC .non))) sNext) (sSeq (sIf [1] (tV (e1 (oIsi "bool") (eVar 1))) (sRet [0, 0, 1] (vAn (e1 (oIsi "bool") (eVar 0)) (e2 (cop .Eq) (eVar 0) (eVar 1)))) sNext) (sSeq (sIf [1] (tV (e1 (oIsi "int") (eVar 1))) (sRet [0, 0, 0, 1] (vAn (e1 (oIsi "int") (eVar 0)) (vAn (vN (e1 (oIsi "bool") (eVar 0))) (e2 (cop .Eq) (eVar 0) (eVar 1))))) sNext) (sSeq (sIf [1] (tV (e1 (oIsi "str") (eVar 1))) (sRet [0, 0, 1] (vAn (e1 (oIsi "str") (eVar 0)) (e2 (cop .Eq) (eVar 0) (eVar 1)))) sNext) (sSeq (sIf [1, 0] (tAn (tV (e1 (oIsi "tuple") (eVar 1))) (tN (tV (e1 (oIsi "tuple") (eVar 0))))) (sRet [] (eC (.bl false))) sNext) (sSeq (sIf [1, 0] (tAn (tV (e1 (oIsi "list") (eVar 1))) (tN (tV (e1 (oIsi "list") (eVar 0))))) (sRet [] (eC (.bl false))) sNext) (sSeq (sIf [0, 1] (tV (e2 (cop .NotEq) (eA oLen (aCons (eVar 0) aNil)) (eA oLen (aCons (eVar 1) aNil)))) (sRet [] (eC (.bl false))) sNext) (sSeq (sFor [1] (iA oRng1 (aCons (eA oLen (aCons (eVar 1) aNil)) aNil)) (nName 2) (sIf [0, 2, 1, 2] (tN (tV (eA (oCal 2 mm) (aCons (e2 oIx (eVar 0) (eVar 2)) (aCons (e2 oIx (eVar 1) (eVar 2)) aNil))))) (sRet [] (eC (.bl false))) sNext)) (sRet [] (eC (.bl true)))))))))))
def m_law_same : List DL.D → DL.M DL.Rs := recM 3 b_law_same 8
def b_law_integers : DL.Env → DL.So :=
  (sSeq (sIf [0, 0, 1] (tO (tN (tV (e1 (oIsi "tuple") (eVar 0)))) (tV (e2 (cop .NotEq) (eA oLen (aCons (eVar 0) aNil)) (eVar 1)))) (sRet [] (eC (.bl false))) sNext) (sSeq (sFor [0] (iE iterA (eVar 0)) (nName 3) (sIf [3, 3, 3, 2] (tO (tN (tV (e1 (oIsi "int") (eVar 3)))) (tO (tV (e1 (oIsi "bool") (eVar 3))) (tV (e2 (cop .Lt) (eVar 3) (eVar 2))))) (sRet [] (eC (.bl false))) sNext)) (sRet [] (eC (.bl true)))))
def m_law_integers (ds : List DL.D) : DL.M DL.Rs := pureM (runD 4 b_law_integers ds)
def b_law_common : DL.Env → DL.So :=
  (sSeq (sSet 1 [] (eC (.int 0))) (sSeq (sFor [0] (iE iterA (eVar 0)) (nName 2) (sSeq (sSet 3 [2] (eA oAbs (aCons (eVar 2) aNil))) (sFor [3] (iA oRng1 (aCons (e2 oAdd (e2 oMul (eC (.int 2)) (e1 oBits (eVar 3))) (eC (.int 4))) aNil)) (nName 4) (sIf [3] (tV (e2 (cop .Gt) (eVar 3) (eC (.int 0)))) (sPar 1 3 [3, 1, 3] (aCons (eVar 3) (aCons (e2 oMod (eA oInt (aCons (eVar 1) aNil)) (eVar 3)) aNil))) sNext)))) (sRetV 1)))
def m_law_common (ds : List DL.D) : DL.M DL.Rs := pureM (runD 5 b_law_common ds)
end LW
end

section
set_option maxRecDepth 100000
set_option maxHeartbeats 1000000
/-! The same data is the same. -/
namespace LW
open L2 DL PG
def Sc (d : DL.D) : Prop := d = .non ∨ (∃ b, d = .bl b) ∨ (∃ i, d = .int i) ∨ ∃ x, d = .str x
def Plain : Nat → DL.D → Prop
  | 0, d => Sc d
  | n+1, d => Sc d ∨ ∃ ds, (d = .tup ds ∨ d = .lst ds) ∧ ds.length < 1000000 ∧ ∀ x, x ∈ ds → Plain n x
def sBody (mm : List DL.D → DL.M DL.Rs) : DL.Env → DL.So := (sIf [0, 2, 1, 2] (tN (tV (eA (oCal 2 mm) (aCons (e2 oIx (eVar 0) (eVar 2)) (aCons (e2 oIx (eVar 1) (eVar 2)) aNil))))) (sRet [] (eC (.bl false))) sNext)
theorem va (f g : DL.Env → DL.M Rs) (env : DL.Env) : vAn f g env = (f env >>= fun r => asB r >>= fun b => if b then g env else .ok (.fz (.bl false))) := (rfl)
theorem vn (f : DL.Env → DL.M Rs) (env : DL.Env) : vN f env = (f env >>= fun r => asB r >>= fun b => .ok (.fz (.bl (!b)))) := (rfl)
theorem isi_e (u : String) (d : DL.D) : oIsi u d = match tyD d with | some t => .ok (.fz (.bl (subTy t u))) | none => .bad := (rfl)
theorem same_sc {mm : List DL.D → DL.M DL.Rs} {d : DL.D} (h : Sc d) : b_law_same mm (startE 3 [d, d]) = .rt (.fz (.bl true)) := by
  rcases h with rfl | ⟨b, rfl⟩ | ⟨i, rfl⟩ | ⟨x, rfl⟩
  · rfl
  · show b_law_same mm [.fz (.bl b), .fz (.bl b), .un] = _
    unfold b_law_same
    simp [va, isi_e, tyD, subTy, isN]
  · show b_law_same mm [.fz (.int i), .fz (.int i), .un] = _
    unfold b_law_same
    simp [va, vn, isi_e, tyD, subTy, isN]
  · show b_law_same mm [.fz (.str x), .fz (.str x), .un] = _
    unfold b_law_same
    simp [va, isi_e, tyD, subTy, isN]
theorem same_seq {mm : List DL.D → DL.M DL.Rs} {d : DL.D} {ds : List DL.D} (hd : d = .tup ds ∨ d = .lst ds) (hl : ds.length < 1000000) (h : ∀ x, x ∈ ds → mm [x, x] = .ok (.fz (.bl true))) : b_law_same mm (startE 3 [d, d]) = .rt (.fz (.bl true)) := by
  have ix : ∀ (i : Nat) (hi : i < ds.length), oIx d (.int i) = .ok (.fz ds[i]) := fun i hi => by
    rcases hd with rfl | rfl
    · show oR (atI ds (i : Int)) = _
      rw [DL.atI_nat, List.getElem?_eq_getElem hi]; rfl
    · show oR (atI ds (i : Int)) = _
      rw [DL.atI_nat, List.getElem?_eq_getElem hi]; rfl
  have ln : oLen [d] = .ok (.fz (.int ds.length)) := by rcases hd with rfl | rfl <;> rfl
  obtain ⟨e, l, o, rfl⟩ := forL_nx (t := nName 2) (body := sBody mm) (ds := rgD ds.length) (env := [.fz d, .fz d, .un]) (fun _ e => ∃ o, e = [.fz d, .fz d, o]) ⟨_, rfl⟩ (by
    rintro i dd e hdd ⟨o, rfl⟩
    obtain ⟨hi, rfl⟩ := rng_get hdd
    refine ⟨_, rfl, [.fz d, .fz d, .fz (.int i)], .inl ?_, _, rfl⟩
    unfold sBody
    simp [ix i hi, oCal, h _ (List.getElem_mem hi)])
  have l : forL (nName 2) (sIf [0, 2, 1, 2] (tN (tV (eA (oCal 2 mm) (aCons (e2 oIx (eVar 0) (eVar 2)) (aCons (e2 oIx (eVar 1) (eVar 2)) aNil))))) (sRet [] (eC (.bl false))) sNext) (rgD ds.length) [.fz d, .fz d, .un] = .nx [.fz d, .fz d, o] := l
  show b_law_same mm [.fz d, .fz d, .un] = _
  unfold b_law_same
  have n1 : isN d = false := by rcases hd with rfl | rfl <;> rfl
  rcases hd with hd | hd
  · have t : tyD d = some "tuple" := by rw [hd]; rfl
    simp [isi_e, t, subTy, n1, ln, rng1 hl, l]
  · have t : tyD d = some "list" := by rw [hd]; rfl
    simp [isi_e, t, subTy, n1, ln, rng1 hl, l]
theorem same_refl : ∀ (n : Nat) (d : DL.D), Plain n d → recM 3 b_law_same (n + 1) [d, d] = .ok (.fz (.bl true))
  | 0, d, h => runD_ok (same_sc h)
  | n+1, d, h => by
    rcases h with h | ⟨ds, hd, hl, hx⟩
    · exact runD_ok (same_sc h)
    · exact runD_ok (same_seq hd hl fun x hm => same_refl n x (hx x hm))
end LW
end

section
set_option maxRecDepth 100000
set_option maxHeartbeats 1000000
/-! Numbers in lists and tuples: equal to themselves; membership answers. -/
namespace DL
open L2 PySem
def Nm : Nat → D → Prop
  | 0, d => ∃ i, d = .int i
  | n+1, d => (∃ i, d = .int i) ∨ ∃ ds, (d = .tup ds ∨ d = .lst ds) ∧ ∀ x, x ∈ ds → Nm n x
def PyOk (n : Nat) (d : D) : Prop := ∃ p, toPy d = some p ∧ p.canLay0 = true ∧ p.depth ≤ n ∧ PyData.eqv p p = true
theorem nmAll_py {n : Nat} (ih : ∀ d, Nm n d → PyOk n d) : ∀ ds : List D, (∀ x, x ∈ ds → Nm n x) → ∃ ps, toPyAll ds = some ps ∧ PyData.canLayAll0 ps = true ∧ PyData.depthAll ps ≤ n ∧ PyData.eqvAll ps ps = true
  | [], _ => ⟨[], rfl, rfl, Nat.zero_le _, rfl⟩
  | d :: ds, h => by
    obtain ⟨p, a1, a2, a3, a4⟩ := ih d (h d (List.mem_cons_self ..))
    obtain ⟨ps, b1, b2, b3, b4⟩ := nmAll_py ih ds fun x hx => h x (List.mem_cons_of_mem _ hx)
    refine ⟨p :: ps, by simp [toPyAll, a1, b1], by simp [PyData.canLayAll0, a2, b2], ?_, by simp [PyData.eqvAll, a4, b4]⟩
    simp only [PyData.depthAll]; omega
theorem nm_py : ∀ (n : Nat) (d : D), Nm n d → PyOk n d
  | 0, d, ⟨i, e⟩ => by subst e; exact ⟨.int i, rfl, rfl, Nat.le_refl _, by simp [PyData.eqv]⟩
  | n+1, d, h => by
    rcases h with ⟨i, rfl⟩ | ⟨ds, hd, hx⟩
    · exact ⟨.int i, rfl, rfl, Nat.zero_le _, by simp [PyData.eqv]⟩
    · obtain ⟨ps, b1, b2, b3, b4⟩ := nmAll_py (nm_py n) ds hx
      rcases hd with rfl | rfl
      · exact ⟨.tuple ps, by simp [toPy, b1], by simp [PyData.canLay0, b2], by simp only [PyData.depth]; omega, by simp [PyData.eqv, b4]⟩
      · exact ⟨.list ps, by simp [toPy, b1], by simp [PyData.canLay0, b2], by simp only [PyData.depth]; omega, by simp [PyData.eqv, b4]⟩
theorem PyOk.shaped {n : Nat} (hn : n ≤ 64) {p : PyData} (h1 : p.canLay0 = true) (h2 : p.depth ≤ n) : SeqAt.shaped p = true := by
  unfold SeqAt.shaped
  simp [h1]; omega
theorem ne_self {n : Nat} (hn : n ≤ 64) {d : D} (h : Nm n d) : oNe d d = .ok (.fz (.bl false)) := by
  obtain ⟨p, a1, a2, a3, a4⟩ := nm_py n d h
  have hd : oDeepEq true d d = .ok (.fz (.bl false)) := by
    unfold oDeepEq
    simp [a1, PyOk.shaped hn a2 a3, a4]
  unfold oNe
  rw [hd]
  cases d with
  | int i => simp [oScalEq, orM]
  | str i => simp [oScalEq, orM]
  | bl i => simp [oScalEq, orM]
  | _ => rfl
theorem in_says {n : Nat} (hn : n + 1 ≤ 64) {neg : Bool} {d : D} {ds : List D} (h : Nm n d) (hs : ∀ x, x ∈ ds → Nm n x) : ∃ b, oInL neg d (.lst ds) = .ok (.fz (.bl b)) := by
  obtain ⟨p, a1, a2, a3, a4⟩ := nm_py n d h
  obtain ⟨q, b1, b2, b3, b4⟩ := nm_py (n + 1) (.lst ds) (.inr ⟨ds, .inr rfl, hs⟩)
  obtain ⟨ps, c1, c2, c3, c4⟩ := nmAll_py (nm_py n) ds hs
  have e : toPy (.lst ds) = some (.list ps) := by simp [toPy, c1]
  rw [e] at b1
  cases b1
  unfold oInL
  simp only [a1, e]
  rw [if_pos ⟨PyOk.shaped (by omega) a2 a3, PyOk.shaped hn b2 b3⟩]
  exact ⟨_, rfl⟩
theorem nm_row {n N : Nat} {f : Nat → Int} : ∀ x, x ∈ rowD N f → Nm n x := fun x hx => by
  obtain ⟨i, _, rfl⟩ := List.mem_map.mp hx
  cases n with
  | zero => exact ⟨_, rfl⟩
  | succ n => exact .inl ⟨_, rfl⟩
end DL
end

section
set_option maxRecDepth 100000
set_option maxHeartbeats 1000000
/-! Hedges: rows, the answer, the judge. -/
namespace PG
open L2 DL
theorem Sq.sum {d : DL.D} {N : Nat} {f : Nat → Int} (h : Sq d (rowD N f)) : oSum [d] = .ok (.fz (.int (Sx.sm N f))) := by
  rcases h with rfl | rfl
  · exact sum_row N f
  · simp only [oSum, one1, ofInts, toInts_row, sum_sm]
theorem Sq.tuple {d : DL.D} {ds : List DL.D} (h : Sq d ds) : oTuple [d] = .ok (.fz (.tup ds)) := by rcases h with rfl | rfl <;> rfl
theorem Sq.list {d : DL.D} {ds : List DL.D} (h : Sq d ds) : oList [d] = .ok (.ow ds) := by rcases h with rfl | rfl <;> rfl
theorem tup_ok {ds : List DL.D} (h : ds.length < 1000000) : oTupD ds = .ok (.fz (.tup ds)) := by
  unfold oTupD; rw [if_pos (by have := sz; omega)]
theorem lst_ok {ds : List DL.D} (h : ds.length < 1000000) : oLstD ds = .ok (.ow ds) := by
  unfold oLstD; rw [if_pos (by have := sz; omega)]
@[simp] theorem tup_2 (a b : DL.D) : oTupD [a, b] = .ok (.fz (.tup [a, b])) := tup_ok (by simp)
@[simp] theorem tup_3 (a b c : DL.D) : oTupD [a, b, c] = .ok (.fz (.tup [a, b, c])) := tup_ok (by simp)
@[simp] theorem tup_1 (a : DL.D) : oTupD [a] = .ok (.fz (.tup [a])) := tup_ok (by simp)
@[simp] theorem tup_0 : oTupD [] = .ok (.fz (.tup [])) := tup_ok (by simp)
/-- rows of numbers, each a tuple -/
def rowsT (R N : Nat) (W : Nat → Nat → Int) : List DL.D := (List.range R).map fun k => D.tup (rowD N (W k))
@[simp] theorem rowsT_len {R N : Nat} {W : Nat → Nat → Int} : (rowsT R N W).length = R := by simp [rowsT]
theorem rowsT_get {R N : Nat} {W : Nat → Nat → Int} {k : Nat} (h : k < R) : (rowsT R N W)[k]? = some (.tup (rowD N (W k))) := by simp [rowsT, h]
theorem rowsT_at {R N : Nat} {W : Nat → Nat → Int} {k : Nat} {d : DL.D} (h : (rowsT R N W)[k]? = some d) : k < R ∧ d = .tup (rowD N (W k)) := by
  by_cases hk : k < R
  · rw [rowsT_get hk] at h; cases h; exact ⟨hk, rfl⟩
  · rw [List.getElem?_eq_none (by simp; omega)] at h; cases h
theorem ix_rowsT {R N : Nat} {W : Nat → Nat → Int} {k : Nat} (h : k < R) : atI (rowsT R N W) (k : Int) = some (.tup (rowD N (W k))) := by
  rw [DL.atI_nat]; exact rowsT_get h
/-- what a hedge has to reach under chance k -/
def hB (N : Nat) (W : Nat → Nat → Int) (act : Nat → Int) (am : Int) (k : Nat) : Int := am * Sx.sm N (W k) - dotF N (W k) act
section
variable {R N : Nat} {W : Nat → Nat → Int} {act l : Nat → Int} {am : Int} {dl da dg dy dw : DL.D}
theorem hedge_rows_is (hR : R < 1000000) (hN : N < 1000000) (hl : Sq dl (rowsT R N W)) (ha : Sq da (rowD N act)) (sa : Sml am) (sS : ∀ k, k < R → Sml (Sx.sm N (W k))) (sW : ∀ k, k < R → ∀ i, i < N → Sml (W k i)) (sc : ∀ i, i < N → Sml (act i)) :
    m_hedge_rows [dl, da, .int am] = .ok (.ow (rowsI R N W (hB N W act am) .tup)) := by
  refine runD_ok ?_
  have hl : eLc [3] (iE iterA (eVar 0)) (nName 3) tYesD (eA oTupD (aCons (eA oTuple (aCons (eVar 3) aNil)) (aCons (e2 oSub (e2 oMul (eVar 2) (eA oSum (aCons (eVar 3) aNil))) (eA (oCal 2 m_dot) (aCons (eVar 3) (aCons (eVar 1) aNil)))) aNil))) [.fz dl, .fz da, .fz (.int am), .un] = .ok (.ow (rowsI R N W (hB N W act am) .tup)) := by
    refine ev_lc (ds := rowsT R N W) (by simp) (by simp [hl.iter]) ?_ (.inr (by simpa using hR))
    refine lcL_map (List.range R) _ (fun k => .tup [.tup (rowD N (W k)), .int (hB N W act am k)]) fun k hk => ?_
    have hk := List.mem_range.mp hk
    refine ⟨_, .fz (.tup [.tup (rowD N (W k)), .int (hB N W act am k)]), rfl, rfl, ?_, rfl⟩
    have dv := says_dotM hN (Sq.t (rowD N (W k))) ha (fun j hj => mul_small (sW k hk j hj) (sc j hj))
    simp [wipeE, (Sq.t (rowD N (W k))).tuple, (Sq.t (rowD N (W k))).sum, mul_ok sa (sS k hk), oCal, dv, hB]
  show b_hedge_rows [.fz dl, .fz da, .fz (.int am), .un] = _
  unfold b_hedge_rows
  simp only [ev_ret, hl, ev_ofM]
theorem misses_not (w0 : ∀ k, k < R → ∀ i, i < N → 0 ≤ W k i) (wp : ∀ k, k < R → 0 < Sx.sm N (W k)) {g w : Nat → Int} : ¬ Misses R N W g w := fun h => by
  have z : ∀ k, k < R → w k = 0 := fun k hk => by
    refine Classical.byContradiction fun hw => ?_
    have w1 : 0 < w k := by have := h.wnn k hk; omega
    have : ∃ i, i < N ∧ 0 < W k i := by
      refine Classical.byContradiction fun hc => ?_
      have := Sx.sm_nonpos (n := N) (f := W k) fun i hi => Int.not_lt.mp fun h => hc ⟨i, hi, h⟩
      have := wp k hk
      omega
    obtain ⟨i, hi, hp⟩ := this
    have s : Sx.sm R (fun k => w k * W k i) ≤ 0 := h.sum i hi
    have e : Sx.sm R (fun k => w k * W k i) = w k * W k i + Sx.sm R (fun j => if j = k then 0 else w j * W j i) := Sx.sm_split (n := R) (f := fun k => w k * W k i) k hk
    have p1 : 0 < w k * W k i := Int.mul_pos w1 hp
    have p2 : 0 ≤ Sx.sm R (fun j => if j = k then 0 else w j * W j i) := Sx.sm_nonneg fun j hj => by
      split
      · omega
      · exact Int.mul_nonneg (h.wnn j hj) (w0 j hj i hi)
    omega
  have := h.pos
  unfold dotF at this
  rw [Sx.sm_zero fun k hk => by rw [z k hk, Int.zero_mul]] at this
  omega
theorem cheapest_hedge_is {K : Nat} (hR : R < 200000) (hN : N < 200000) (hl : Sq dl (rowsT R N W)) (ha : Sq da (rowD N act)) (hg : Sq dg (rowD N l)) (sa : Sml am) (sS : ∀ k, k < R → Sml (Sx.sm N (W k))) (sW : ∀ k, k < R → ∀ i, i < N → Sml (W k i)) (sc : ∀ i, i < N → Sml (act i))
    (hK : 1 ≤ K) (kW : ∀ k, k < R → ∀ i, i < N → (W k i).natAbs ≤ K) (kg : ∀ k, k < R → (hB N W act am k).natAbs ≤ K) (hl0 : ∀ i, i < N → 0 ≤ l i) (kl : ∀ i, i < N → (l i).natAbs ≤ K) (kB : (Sx.fac (N + 1) * K ^ (N + 1)).log2 < 9000)
    (w0 : ∀ k, k < R → ∀ i, i < N → 0 ≤ W k i) (wp : ∀ k, k < R → 0 < Sx.sm N (W k)) :
    ∃ s y w, m_cheapest_hedge [dl, da, dg, .int am] = .ok (.fz (.tup [.int s, .tup (rowD N y), .tup (rowD R w)])) ∧ Least R N W (hB N W act am) l s y w ∧ (∀ d : Nat, d ∣ s.natAbs → (∀ p, p < N → d ∣ (y p).natAbs) → (∀ k, k < R → d ∣ (w k).natAbs) → d = 1) ∧
      s.natAbs ≤ Sx.fac (N + 1) * K ^ (N + 1) ∧ (∀ p, p < N → (y p).natAbs ≤ Sx.fac (N + 1) * K ^ (N + 1)) ∧ ∀ k, k < R → (w k).natAbs ≤ Sx.fac (N + 1) * K ^ (N + 1) := by
  obtain ⟨d, e, hd⟩ := least_is (c := .tup) (fun _ => rfl) hg hR hN hK kW kg hl0 kl kB
  cases hd with
  | none h _ _ => exact absurd h (misses_not w0 wp)
  | @least s y w h one bs by_ bw =>
    refine ⟨s, y, w, runD_ok ?_, h, one, bs, by_, bw⟩
    have hr := hedge_rows_is (R := R) (N := N) (by omega) (by omega) hl ha sa sS sW sc
    have fz : ∀ A, frzIf (.fz (.tup [.str "least", .int s, .tup (rowD N y), .tup (rowD R w)])) A [.fz dl, .fz da, .fz dg, .fz (.int am), .un, .un, .un, .un] = [.fz dl, .fz da, .fz dg, .fz (.int am), .un, .un, .un, .un] := fun A => by
      unfold frzIf
      have : Rs.nol (.fz (.tup [.str "least", .int s, .tup (rowD N y), .tup (rowD R w)])) = true := by
        have a : D.nolAll (rowD N y) = true := nol_row
        have b : D.nolAll (rowD R w) = true := nol_row
        simp [Rs.nol, D.nol, D.nolAll, a, b]
      rw [if_pos this]
    show b_cheapest_hedge [.fz dl, .fz da, .fz dg, .fz (.int am), .un, .un, .un, .un] = _
    unfold b_cheapest_hedge
    simp only [ev_seq, ev_asg, ev_eA, ev_aCons, ev_vs, ev_v0f, ev_bok, ev_rfz, ev_row, ev_aNil, oCal, List.length_cons, List.length_nil, if_true, hr, ev_pok, ha.len, rowD_len, e, ev_ofM, fz]
    simp
theorem says_shows_hedge {Ny Mw : Nat} {s : Int} {y w : Nat → Int} (hR : R < 1000000) (hN0 : 1 ≤ N) (hN : N < 1000000) (hl : Sq dl (rowsT R N W)) (ha : Sq da (rowD N act)) (hg : Sq dg (rowD N l)) (hy : Sq dy (rowD Ny y)) (hw : Sq dw (rowD Mw w))
    (sa : Sml am) (sS : ∀ k, k < R → Sml (Sx.sm N (W k))) (sW : ∀ k, k < R → ∀ i, i < N → Sml (W k i)) (sc : ∀ i, i < N → Sml (act i)) (sg : ∀ k, k < R → Sml (hB N W act am k)) (sl : ∀ i, i < N → Sml (l i)) (ss : Sml s) (sy : ∀ i, i < Ny → Sml (y i)) (sw : ∀ k, k < Mw → Sml (w k)) :
    Says (m_shows_hedge [dl, da, dg, .int am, .int s, dy, dw]) (Ny = N ∧ Mw = R ∧ Least R N W (hB N W act am) l s y w) := by
  obtain ⟨b, e, i⟩ := says_shows_least (c := .tup) hR hN0 hN Sq.t hg hy hw sW sg sl ss sy sw
  refine ⟨b, runD_ok ?_, i⟩
  have hr := hedge_rows_is (R := R) (N := N) (by omega) (by omega) hl ha sa sS sW sc
  show b_shows_hedge [.fz dl, .fz da, .fz dg, .fz (.int am), .fz (.int s), .fz dy, .fz dw] = _
  unfold b_shows_hedge
  simp only [ev_ret, ev_eA, ev_aCons, ev_vs, ev_v0f, ev_bok, ev_rfz, ev_row, ev_aNil, oCal, List.length_cons, List.length_nil, if_true, hr, ev_pok, e, ev_ofM]
end
end PG
end

section
set_option maxRecDepth 100000
set_option maxHeartbeats 1000000
/-! Points and papers of one total: duality. -/
namespace PG
theorem dot_nonneg {N : Nat} {f g : Nat → Int} (hf : ∀ i, i < N → 0 ≤ f i) (hg : ∀ i, i < N → 0 ≤ g i) : 0 ≤ dotF N f g := Sx.sm_nonneg fun i hi => Int.mul_nonneg (hf i hi) (hg i hi)
theorem dot_le {N : Nat} {f g h : Nat → Int} (hf : ∀ i, i < N → 0 ≤ f i) (hg : ∀ i, i < N → g i ≤ h i) : dotF N f g ≤ dotF N f h := Sx.sm_le fun i hi => Int.mul_le_mul_of_nonneg_left (hg i hi) (hf i hi)
theorem dot_comm (N : Nat) (f g : Nat → Int) : dotF N f g = dotF N g f := Sx.sm_congr fun i _ => Int.mul_comm _ _
theorem dot_mul (N : Nat) (c : Int) (f g : Nat → Int) : dotF N f (fun i => g i * c) = dotF N f g * c := by
  rw [Int.mul_comm (dotF N f g) c]
  unfold dotF
  rw [← Sx.sm_mul]
  exact Sx.sm_congr fun i _ => by show f i * (g i * c) = c * (f i * g i); grind
theorem dot_swap (R N : Nat) (w : Nat → Int) (W : Nat → Nat → Int) (y : Nat → Int) : dotF R w (fun k => dotF N (W k) y) = dotF N (fun p => dotF R w fun k => W k p) y := by
  unfold dotF
  have e1 : Sx.sm R (fun k => w k * Sx.sm N fun p => W k p * y p) = Sx.sm R fun k => Sx.sm N fun p => w k * (W k p * y p) := Sx.sm_congr fun k _ => (Sx.sm_mul N _ _).symm
  have e2 : Sx.sm N (fun p => (Sx.sm R fun k => w k * W k p) * y p) = Sx.sm N fun p => Sx.sm R fun k => w k * (W k p * y p) := Sx.sm_congr fun p _ => by
    rw [Int.mul_comm, ← Sx.sm_mul]
    exact Sx.sm_congr fun k _ => by rw [Int.mul_comm (y p), Int.mul_assoc]
  rw [e1, e2, Sx.sm_swap]
section
variable {R N : Nat} {W : Nat → Nat → Int} {g l : Nat → Int} {s s' : Int} {y w y' w' : Nat → Int}
theorem least_half (h1 : Least R N W g l s y w) (h2 : Least R N W g l s' y' w') : dotF N l y * s' ≤ dotF N l y' * s := by
  rw [h1.total, ← dot_mul]
  refine Int.le_trans (dot_le h1.wnn h2.reach) ?_
  rw [dot_swap, dot_comm, dot_comm N l, ← dot_mul]
  exact dot_le h2.ynn h1.within
theorem least_dual (h1 : Least R N W g l s y w) (h2 : Least R N W g l s' y' w') : dotF N l y * s' = dotF N l y' * s := Int.le_antisymm (least_half h1 h2) (least_half h2 h1)
theorem dot_pos {N : Nat} {f g : Nat → Int} (hf : ∀ i, i < N → 0 ≤ f i) (hg : ∀ i, i < N → 0 ≤ g i) {i : Nat} (hi : i < N) (h1 : 0 < f i) (h2 : 0 < g i) : 0 < dotF N f g := by
  unfold dotF
  rw [Sx.sm_split i hi]
  have a : 0 < f i * g i := Int.mul_pos h1 h2
  have b : 0 ≤ Sx.sm N (fun j => if j = i then 0 else f j * g j) := Sx.sm_nonneg fun j hj => by
    split
    · omega
    · exact Int.mul_nonneg (hf j hj) (hg j hj)
  omega
theorem dot_ex {N : Nat} {f g : Nat → Int} (hf : ∀ i, i < N → 0 ≤ f i) (h : 0 < dotF N f g) : ∃ i, i < N ∧ 0 < f i ∧ 0 < g i := by
  refine Classical.byContradiction fun hc => ?_
  have : dotF N f g ≤ 0 := Sx.sm_nonpos fun i hi => by
    by_cases h0 : 0 < f i
    · exact Int.mul_nonpos_of_nonneg_of_nonpos (hf i hi) (Int.not_lt.mp fun h1 => hc ⟨i, hi, h0, h1⟩)
    · have : f i = 0 := by have := hf i hi; omega
      rw [this]; simp
  omega
/-- the total is 0 exactly if each row with a bound above 0 has a goal of 0 under a weight above 0 -/
theorem least_zero (h : Least R N W g l s y w) (hl : ∀ i, i < N → 0 ≤ l i) (hW : ∀ k, k < R → ∀ i, i < N → 0 ≤ W k i) : dotF N l y = 0 ↔ ∀ k, k < R → 0 < g k → ∃ i, i < N ∧ l i = 0 ∧ 0 < W k i := by
  constructor
  · intro h0 k hk hg
    have p1 : 0 < g k * s := Int.mul_pos hg (by have := h.s1; omega)
    have p2 : 0 < dotF N (W k) y := Int.lt_of_lt_of_le p1 (h.reach k hk)
    obtain ⟨i, hi, a, b⟩ := dot_ex (hW k hk) p2
    refine ⟨i, hi, ?_, a⟩
    refine Classical.byContradiction fun hc => ?_
    have := dot_pos hl h.ynn hi (by have := hl i hi; omega) b
    omega
  · intro h0
    refine Classical.byContradiction fun hc => ?_
    have p0 : 0 < dotF R w g := by
      rw [← h.total]
      have := dot_nonneg hl h.ynn
      omega
    obtain ⟨k, hk, a, b⟩ := dot_ex h.wnn p0
    obtain ⟨i, hi, c, d⟩ := h0 k hk b
    have := h.within i hi
    rw [c, Int.zero_mul] at this
    have p := dot_pos (f := w) (g := fun k => W k i) h.wnn (fun k hk => hW k hk i hi) hk a d
    omega
theorem least_nil (h : Least R N W g l s y w) (hl : ∀ i, i < N → 0 ≤ l i) (hg : ∀ k, k < R → g k ≤ 0) : dotF N l y = 0 := by
  have h1 := dot_nonneg hl h.ynn
  have h2 : dotF N l y ≤ 0 := by
    rw [h.total]
    exact Sx.sm_nonpos fun k hk => Int.mul_nonpos_of_nonneg_of_nonpos (h.wnn k hk) (hg k hk)
  omega
end
end PG
end

section
set_option maxRecDepth 100000
set_option maxHeartbeats 1000000
/-! _law_dot, Euclid's steps, _law_common, _law_lowest, _law_integers. -/
namespace LW
open L2 DL PG
def bodyD : DL.Env → DL.So := (sSet 2 [2, 0, 3, 1, 3] (e2 oAdd (eVar 2) (e2 oMul (e2 oIx (eVar 0) (eVar 3)) (e2 oIx (eVar 1) (eVar 3)))))
theorem law_dot_is {d1 d2 : DL.D} {N M : Nat} {f g : Nat → Int} (hN : N < 1000000) (hM : N ≤ M) (h1 : Sq d1 (rowD N f)) (h2 : Sq d2 (rowD M g)) (hm : ∀ i, i < N → mulOk (f i) (g i) = true) : m_law_dot [d1, d2] = .ok (.fz (.int (dotF N f g))) := by
  refine runD_ok ?_
  have hb : b_law_dot = (sSeq (sSet 2 [] (eC (.int 0))) (sSeq (sFor [0] (iA oRng1 (aCons (eA oLen (aCons (eVar 0) aNil)) aNil)) (nName 3) bodyD) (sRetV 2))) := rfl
  obtain ⟨e, l, o3, rfl⟩ := forL_nx (t := nName 3) (body := bodyD) (ds := rgD N) (env := [.fz d1, .fz d2, .fz (.int 0), .un]) (fun k e => ∃ o3, e = [.fz d1, .fz d2, .fz (.int (Sx.sm k fun i => f i * g i)), o3]) ⟨_, rfl⟩ (by
    rintro i d e hd ⟨o3, rfl⟩
    obtain ⟨hi, rfl⟩ := rng_get hd
    refine ⟨_, rfl, _, .inl ?_, .fz (.int i), rfl⟩
    unfold bodyD
    have a1 : atI (rowD N f) (i : Int) = some (.int (f i)) := ix_row hi
    have a2 : atI (rowD M g) (i : Int) = some (.int (g i)) := ix_row (by omega)
    simp [h1.ix, h2.ix, a1, a2, ev_mul (hm i hi), Sx.sm])
  rw [hb]
  simp [startE, h1.len, rng1 hN, l, dotF]
def eu (p : Nat × Nat) : Nat × Nat := if 0 < p.2 then (p.2, p.1 % p.2) else p
def euN : Nat → Nat × Nat → Nat × Nat
  | 0, p => p
  | n+1, p => eu (euN n p)
theorem euN_add (n m : Nat) (p : Nat × Nat) : euN (n + m) p = euN n (euN m p) := by
  induction n with
  | zero => simp [euN]
  | succ n ih => rw [Nat.succ_add]; simp only [euN, ih]
theorem eu_gcd (p : Nat × Nat) : Nat.gcd (eu p).1 (eu p).2 = Nat.gcd p.1 p.2 := by
  unfold eu
  split
  · show Nat.gcd p.2 (p.1 % p.2) = _
    rw [Nat.gcd_comm p.1 p.2, Nat.gcd_rec p.2 p.1, Nat.gcd_comm]
  · rfl
theorem euN_gcd (n : Nat) (p : Nat × Nat) : Nat.gcd (euN n p).1 (euN n p).2 = Nat.gcd p.1 p.2 := by
  induction n with
  | zero => rfl
  | succ n ih => simp only [euN, eu_gcd, ih]
theorem mod_half {b r : Nat} (hr : 0 < r) (h : r < b) : 2 * (b % r) < b := by
  have h1 := Nat.mod_lt b hr
  by_cases h2 : 2 * r ≤ b
  · omega
  · have : b % r = b - r := by
      rw [Nat.mod_eq_sub_mod (by omega), Nat.mod_eq_of_lt (by omega)]
    omega
theorem eu_end (t : Nat) : ∀ p : Nat × Nat, p.2 < 2 ^ t → (euN (2 * t) p).2 = 0 := by
  induction t with
  | zero => intro p h; simp at h; exact h
  | succ t ih =>
    intro p h
    have e : 2 * (t + 1) = 2 * t + 2 := by omega
    rw [e, euN_add]
    refine ih _ ?_
    show (eu (eu p)).2 < 2 ^ t
    have hp := Nat.two_pow_pos t
    rw [Nat.pow_succ] at h
    unfold eu
    by_cases h1 : 0 < p.2
    · rw [if_pos h1]
      simp only
      have h3 := Nat.mod_lt p.1 h1
      by_cases h2 : 0 < p.1 % p.2
      · rw [if_pos h2]
        have := mod_half h2 h3
        show p.2 % (p.1 % p.2) < 2 ^ t
        omega
      · rw [if_neg h2]
        show p.1 % p.2 < 2 ^ t
        omega
    · rw [if_neg h1, if_neg h1]; omega
theorem abs_is (x : Int) : oAbs [.int x] = .ok (.fz (.int (x.natAbs : Nat))) := by
  have e : (if x < 0 then -x else x) = ((x.natAbs : Nat) : Int) := by split <;> omega
  show DL.M.ok (Rs.fz (.int (if x < 0 then -x else x))) = _
  rw [e]
theorem eu_loop' {bd : DL.Env → DL.So} (hb : ∀ (d0 d2 d4 : DL.D) (p : Nat × Nat), bd [.fz d0, .fz (.int p.1), .fz d2, .fz (.int p.2), .fz d4] = .nx [.fz d0, .fz (.int (eu p).1), .fz d2, .fz (.int (eu p).2), .fz d4])
    {n t : Nat} (hn : n = 2 * t) {a b : Nat} (hb2 : b < 2 ^ t) {d0 d2 : DL.D} {o4 : DL.Sl} : ∃ q4, forL (nName 4) bd (rgD n) [.fz d0, .fz (.int a), .fz d2, .fz (.int b), o4] = .nx [.fz d0, .fz (.int (Nat.gcd a b)), .fz d2, .fz (.int 0), q4] := by
  obtain ⟨e2, l2, q4, h2⟩ := forL_nx (t := nName 4) (body := bd) (ds := rgD n) (env := [.fz d0, .fz (.int a), .fz d2, .fz (.int b), o4])
    (fun k e => ∃ q4, e = [.fz d0, .fz (.int (euN k (a, b)).1), .fz d2, .fz (.int (euN k (a, b)).2), q4]) ⟨_, rfl⟩ (by
      rintro j d e hd ⟨q4, rfl⟩
      obtain ⟨hj, rfl⟩ := rng_get hd
      refine ⟨_, rfl, _, .inl ?_, .fz (.int j), rfl⟩
      exact hb _ _ _ _)
  rw [rgD_len] at h2
  have fin2 : (euN n (a, b)).2 = 0 := by rw [hn]; exact eu_end t _ hb2
  have fin1 : (euN n (a, b)).1 = Nat.gcd a b := by
    have := euN_gcd n (a, b)
    rw [fin2, Nat.gcd_zero_right] at this
    exact this
  rw [fin1, fin2] at h2
  exact ⟨q4, by rw [l2, h2]; rfl⟩
def bodyEu : DL.Env → DL.So := (sIf [3] (tV (e2 (cop .Gt) (eVar 3) (eC (.int 0)))) (sPar 1 3 [3, 1, 3] (aCons (eVar 3) (aCons (e2 oMod (eA oInt (aCons (eVar 1) aNil)) (eVar 3)) aNil))) sNext)
def bodyEv : DL.Env → DL.So := (sIf [3] (tV (e2 (cop .Gt) (eVar 3) (eC (.int 0)))) (sAsg [3, 1, 3] (nTup 2 (nCons (nName 1) (nCons (nName 3) nNil))) (eA oTupD (aCons (eVar 3) (aCons (e2 oMod (eA oInt (aCons (eVar 1) aNil)) (eVar 3)) aNil)))) sNext)
theorem eu_pos {p : Nat × Nat} (h : 0 < p.2) : ((p.1 : Nat) : Int).fmod (p.2 : Nat) = (((eu p).2 : Nat) : Int) ∧ ((p.2 : Nat) : Int) = (((eu p).1 : Nat) : Int) := by
  have he : eu p = (p.2, p.1 % p.2) := by simp [eu, h]
  rw [he]
  exact ⟨by rw [Int.fmod_eq_emod_of_nonneg _ (by omega)]; rfl, rfl⟩
theorem bodyEu_ev (d0 d2 d4 : DL.D) (p : Nat × Nat) : bodyEu [.fz d0, .fz (.int p.1), .fz d2, .fz (.int p.2), .fz d4] = .nx [.fz d0, .fz (.int (eu p).1), .fz d2, .fz (.int (eu p).2), .fz d4] := by
  unfold bodyEu
  have hp : ∀ (env : DL.Env) (f : DL.Env → DL.M (List DL.D)) (A : List Nat), sPar 1 3 A f env = ofM (f env) env A fun ds => par2 1 3 (fzAll A env) ds := fun _ _ _ => rfl
  by_cases h : 0 < p.2
  · have h' : (0 : Int) < (p.2 : Nat) := by omega
    have hne : ((p.2 : Nat) : Int) ≠ 0 := by omega
    obtain ⟨m1, m2⟩ := eu_pos h
    simp only [ev_if, ev_tV, ev_e2, ev_vs, ev_v0f, ev_bok, ev_c, ev_copGt, ev_rfz, ev_gt, ev_pok, ev_asB, h', decide_true, ev_ofM, if_true, hp, ev_aCons, ev_eA, ev_aNil, ev_int, ev_mod hne, ev_fzCons, ev_fzNil, List.set, List.getD_cons_zero, List.getD_cons_succ, ev_frzF, par2, m1, ← m2]
  · have h' : ¬ (0 : Int) < (p.2 : Nat) := by omega
    have he : eu p = p := by simp [eu, h]
    simp only [ev_if, ev_tV, ev_e2, ev_vs, ev_v0f, ev_bok, ev_c, ev_copGt, ev_rfz, ev_gt, ev_pok, ev_asB, h', decide_false, ev_ofM, Bool.false_eq_true, if_false, ev_next, he]
theorem frz_ints (a b : Int) (A : List Nat) (env : DL.Env) : frzIf (.fz (.tup [.int a, .int b])) A env = env := (rfl)
theorem bodyEv_ev (d0 d2 d4 : DL.D) (p : Nat × Nat) : bodyEv [.fz d0, .fz (.int p.1), .fz d2, .fz (.int p.2), .fz d4] = .nx [.fz d0, .fz (.int (eu p).1), .fz d2, .fz (.int (eu p).2), .fz d4] := by
  unfold bodyEv
  by_cases h : 0 < p.2
  · have h' : (0 : Int) < (p.2 : Nat) := by omega
    have hne : ((p.2 : Nat) : Int) ≠ 0 := by omega
    obtain ⟨m1, m2⟩ := eu_pos h
    simp only [ev_if, ev_tV, ev_e2, ev_vs, ev_v0f, ev_bok, ev_c, ev_copGt, ev_rfz, ev_gt, ev_pok, ev_asB, h', decide_true, ev_ofM, if_true, ev_asg, ev_aCons, ev_eA, ev_aNil, ev_int, ev_mod hne, tup_2, frz_ints, ev_nTup, List.length_cons, List.length_nil, ev_nCons, ev_name, Option.bind_some, ev_nNil, ev_ofO, List.set, m1, ← m2]
  · have h' : ¬ (0 : Int) < (p.2 : Nat) := by omega
    have he : eu p = p := by simp [eu, h]
    simp only [ev_if, ev_tV, ev_e2, ev_vs, ev_v0f, ev_bok, ev_c, ev_copGt, ev_rfz, ev_gt, ev_pok, ev_asB, h', decide_false, ev_ofM, Bool.false_eq_true, if_false, ev_next, he]
def bodyLo : DL.Env → DL.So := (sSeq (sSet 3 [2] (eA oAbs (aCons (eVar 2) aNil))) (sFor [] (iA oRng1 (aCons (eC (.int 400)) aNil)) (nName 4) bodyEv))
def cLow : DL.Env → DL.M Rs := (eLc [2] (iE iterA (eVar 0)) (nName 2) tYesD (e2 oDiv (eVar 2) (eA oMax (aCons (eVar 1) (aCons (eC (.int 1)) aNil)))))
theorem max_is (a b : Int) : oMax [.int a, .int b] = .ok (.fz (.int (if a < b then b else a))) := (rfl)
theorem low_div {N : Nat} {f : Nat → Int} {i : Nat} : (f i).fdiv (if ((gcdN f N : Nat) : Int) < 1 then 1 else ((gcdN f N : Nat) : Int)) = lowF N f i := by
  unfold lowF
  by_cases h : gcdN f N < 2
  · rw [if_pos h]
    by_cases h0 : gcdN f N < 1
    · rw [if_pos (by omega)]; simp
    · rw [if_neg (by omega)]
      have : gcdN f N = 1 := by omega
      rw [this]; simp
  · rw [if_neg h, if_neg (by omega)]
theorem law_lowest_is {N : Nat} {f : Nat → Int} {d : DL.D} (hN : N < 1000000) (hd : Sq d (rowD N f)) (hf : ∀ i, i < N → (f i).natAbs < 2 ^ 200) : m_law_lowest [d] = .ok (.fz (.tup (rowD N (lowF N f)))) := by
  refine runD_ok ?_
  have hb : b_law_lowest = (sSeq (sSet 1 [] (eC (.int 0))) (sSeq (sFor [0] (iE iterA (eVar 0)) (nName 2) bodyLo) (sRet (List.range 64) (eA oTuple (aCons cLow aNil))))) := rfl
  obtain ⟨e, l, o2, o3, o4, rfl, ho⟩ := forL_nx (t := nName 2) (body := bodyLo) (ds := rowD N f) (env := [.fz d, .fz (.int 0), .un, .un, .un]) (fun k e => ∃ o2 o3 o4, e = [.fz d, .fz (.int (gcdN f k)), o2, o3, o4] ∧ True) ⟨_, _, _, rfl, trivial⟩ (by
    rintro i d' e hd ⟨o2, o3, o4, rfl, -⟩
    obtain ⟨hi, rfl⟩ := rowD_at hd
    refine ⟨_, rfl, ?_⟩
    obtain ⟨q4, l2⟩ := eu_loop' bodyEv_ev (n := 400) (t := 200) (by decide) (hf i hi) (a := gcdN f i) (d0 := d) (d2 := .int (f i)) (o4 := o4)
    refine ⟨[.fz d, .fz (.int (gcdN f (i + 1))), .fz (.int (f i)), .fz (.int 0), q4], .inl ?_, _, _, _, rfl, trivial⟩
    have r400 : oRng1 [.int 400] = .ok (rgD 400) := rng1 (n := 400) (by omega)
    unfold bodyLo
    simp only [List.set, ev_seq, ev_set, ev_eA, ev_aCons, ev_vs, ev_v0f, ev_bok, ev_rfz, ev_aNil, abs_is, ev_pok, ev_ofM, ev_frzInt, ev_sfz, ev_tn, ev_for, ev_iA, ev_c, r400, ev_fzNil]
    exact l2)
  rw [hb]
  rw [rowD_len] at l
  have hc : cLow [.fz d, .fz (.int (gcdN f N)), o2, o3, o4] = .ok (.ow (rowD N (lowF N f))) := by
    refine ev_lc (ds := rowD N f) (by simp) (by simp [hd.iter]) ?_ (.inr (by simpa using hN))
    refine lcL_map (List.range N) _ _ fun i hi => ⟨_, .fz (.int (lowF N f i)), rfl, rfl, ?_, rfl⟩
    simp only [wipeE, List.map, List.set, ev_e2, ev_vs, ev_v0f, ev_bok, ev_eA, ev_aCons, ev_rfz, ev_c, ev_aNil, ev_frzF, max_is, ev_pok]
    rw [← low_div]
    have h0 : (if ((gcdN f N : Nat) : Int) < 1 then 1 else ((gcdN f N : Nat) : Int)) ≠ 0 := by split <;> omega
    have hl : (if ((gcdN f N : Nat) : Int) < 1 then 1 else ((gcdN f N : Nat) : Int)).natAbs.log2 < 9000 := by
      split
      · decide
      · by_cases hz : ∃ j, j < N ∧ f j ≠ 0
        · obtain ⟨j, hj, hz⟩ := hz
          have := Nat.le_of_dvd (by omega) (gcd_dvd (f := f) (N := N) hj)
          have h2 := hf j hj
          rw [Int.natAbs_natCast]
          by_cases hg : gcdN f N = 0
          · rw [hg]; decide
          · have := (Nat.log2_lt hg (k := 200)).mpr (by omega)
            omega
        · have : gcdN f N = 0 := by
            have h : (2 ^ 200 : Nat) ∣ gcdN f N := dvd_gcdN fun i hi => by
              have : f i = 0 := Classical.byContradiction fun hc => hz ⟨i, hi, hc⟩
              rw [this]; exact Nat.dvd_zero _
            have h' : (gcdN f N + 1) ∣ gcdN f N := dvd_gcdN fun i hi => by
              have : f i = 0 := Classical.byContradiction fun hc => hz ⟨i, hi, hc⟩
              rw [this]; exact Nat.dvd_zero _
            refine Classical.byContradiction fun hc => ?_
            have := Nat.le_of_dvd (by omega) h'
            omega
          omega
    rw [div_ok h0 hl]
    rfl
  simp only [startE, List.map, List.length, List.replicate, List.cons_append, List.nil_append, ev_seq, ev_set, ev_c, ev_ofM, ev_frzInt, ev_sfz, List.set, ev_tn, ev_for, ev_iE, ev_vs, ev_v0f, ev_bok, ev_rfz, hd.iter, ev_pok, ev_fzCons, ev_fzNil, List.getD_cons_zero, ev_frzF, l, ev_ret, ev_eA, ev_aCons, hc, ev_row, ev_aNil]
  rfl
def bodyCo : DL.Env → DL.So := (sSeq (sSet 3 [2] (eA oAbs (aCons (eVar 2) aNil))) (sFor [3] (iA oRng1 (aCons (e2 oAdd (e2 oMul (eC (.int 2)) (e1 oBits (eVar 3))) (eC (.int 4))) aNil)) (nName 4) bodyEu))
theorem bits_lt (x : Nat) : x < 2 ^ (PySem.Builtin.Int.intBits (x : Int)) := by
  unfold PySem.Builtin.Int.intBits
  split
  · rename_i h; have : x = 0 := by simpa using h
    subst this; decide
  · rw [Int.natAbs_natCast]; exact Nat.lt_log2_self
theorem bits_le {x : Nat} (h : x.log2 < 9000) : PySem.Builtin.Int.intBits (x : Int) < 9001 := by
  unfold PySem.Builtin.Int.intBits
  split
  · omega
  · rw [Int.natAbs_natCast]; omega
theorem law_common_is {N : Nat} {f : Nat → Int} {d : DL.D} (hN : N < 1000000) (hd : Sq d (rowD N f)) (hf : ∀ i, i < N → Sml (f i)) : m_law_common [d] = .ok (.fz (.int (gcdN f N))) := by
  refine runD_ok ?_
  have hb : b_law_common = (sSeq (sSet 1 [] (eC (.int 0))) (sSeq (sFor [0] (iE iterA (eVar 0)) (nName 2) bodyCo) (sRetV 1))) := rfl
  obtain ⟨e, l, o2, o3, o4, rfl, ho⟩ := forL_nx (t := nName 2) (body := bodyCo) (ds := rowD N f) (env := [.fz d, .fz (.int 0), .un, .un, .un]) (fun k e => ∃ o2 o3 o4, e = [.fz d, .fz (.int (gcdN f k)), o2, o3, o4] ∧ True) ⟨_, _, _, rfl, trivial⟩ (by
    rintro i d' e hd ⟨o2, o3, o4, rfl, -⟩
    obtain ⟨hi, rfl⟩ := rowD_at hd
    refine ⟨_, rfl, ?_⟩
    have h1 := bits_lt (f i).natAbs
    have h2 := bits_le (hf i hi)
    obtain ⟨q4, l2⟩ := eu_loop' bodyEu_ev (n := 2 * PySem.Builtin.Int.intBits (((f i).natAbs : Nat) : Int) + 4) (t := PySem.Builtin.Int.intBits (((f i).natAbs : Nat) : Int) + 2) (by omega)
      (Nat.lt_of_lt_of_le h1 (Nat.pow_le_pow_right (by omega) (by omega))) (a := gcdN f i) (d0 := d) (d2 := .int (f i)) (o4 := o4)
    refine ⟨[.fz d, .fz (.int (gcdN f (i + 1))), .fz (.int (f i)), .fz (.int 0), q4], .inl ?_, _, _, _, rfl, trivial⟩
    have rr : oRng1 [.int (2 * (PySem.Builtin.Int.intBits (((f i).natAbs : Nat) : Int) : Nat) + 4)] = .ok (rgD (2 * PySem.Builtin.Int.intBits (((f i).natAbs : Nat) : Int) + 4)) := by
      have := rng1 (n := 2 * PySem.Builtin.Int.intBits (((f i).natAbs : Nat) : Int) + 4) (by omega)
      rw [← this]; simp
    have bt : oBits (.int (((f i).natAbs : Nat) : Int)) = .ok (.fz (.int (PySem.Builtin.Int.intBits (((f i).natAbs : Nat) : Int) : Nat))) := rfl
    have m2 : ∀ x : Int, oMul (.int 2) (.int x) = .ok (.fz (.int (2 * x))) := fun x => mul_l (by decide)
    unfold bodyCo
    simp only [List.set, ev_seq, ev_set, ev_eA, ev_aCons, ev_vs, ev_v0f, ev_bok, ev_rfz, ev_aNil, abs_is, ev_pok, ev_ofM, ev_frzInt, ev_sfz, ev_tn, ev_for, ev_iA, ev_c, ev_e2, ev_e1, bt, m2, ev_add, rr, ev_fzCons, ev_fzNil, List.getD_cons_zero, List.getD_cons_succ, ev_frzF]
    exact l2)
  rw [hb]
  rw [rowD_len] at l
  simp only [startE, List.map, List.length, List.replicate, List.cons_append, List.nil_append, ev_seq, ev_set, ev_c, ev_ofM, ev_frzInt, ev_sfz, List.set, ev_tn, ev_for, ev_iE, ev_vs, ev_v0f, ev_bok, ev_rfz, hd.iter, ev_pok, ev_fzCons, ev_fzNil, List.getD_cons_zero, ev_frzF, l, ev_retVs, ev_retVf]
def bodyI : DL.Env → DL.So := (sIf [3, 3, 3, 2] (tO (tN (tV (e1 (oIsi "int") (eVar 3)))) (tO (tV (e1 (oIsi "bool") (eVar 3))) (tV (e2 (cop .Lt) (eVar 3) (eVar 2))))) (sRet [] (eC (.bl false))) sNext)
theorem law_integers_is {N : Nat} {f : Nat → Int} {low : Int} (h : ∀ i, i < N → low ≤ f i) : m_law_integers [.tup (rowD N f), .int N, .int low] = .ok (.fz (.bl true)) := by
  refine runD_ok ?_
  have hb : b_law_integers = (sSeq (sIf [0, 0, 1] (tO (tN (tV (e1 (oIsi "tuple") (eVar 0)))) (tV (e2 (cop .NotEq) (eA oLen (aCons (eVar 0) aNil)) (eVar 1)))) (sRet [] (eC (.bl false))) sNext) (sSeq (sFor [0] (iE iterA (eVar 0)) (nName 3) bodyI) (sRet [] (eC (.bl true))))) := rfl
  have i1 : ∀ ds, oIsi "tuple" (.tup ds) = .ok (.fz (.bl true)) := fun _ => rfl
  have i2 : ∀ i, oIsi "int" (.int i) = .ok (.fz (.bl true)) := fun _ => rfl
  have i3 : ∀ i, oIsi "bool" (.int i) = .ok (.fz (.bl false)) := fun _ => rfl
  obtain ⟨e, l, o2, rfl⟩ := forL_nx (t := nName 3) (body := bodyI) (ds := rowD N f) (env := [.fz (.tup (rowD N f)), .fz (.int N), .fz (.int low), .un]) (fun k e => ∃ o2, e = [.fz (.tup (rowD N f)), .fz (.int N), .fz (.int low), o2]) ⟨_, rfl⟩ (by
    rintro i d e hd ⟨o2, rfl⟩
    obtain ⟨hi, rfl⟩ := rowD_at hd
    have hl : ¬ f i < low := by have := h i hi; omega
    refine ⟨_, rfl, _, .inl ?_, .fz (.int (f i)), rfl⟩
    unfold bodyI
    simp [i2, i3, hl])
  rw [hb]
  simp [startE, i1, l]
end LW
end

section
set_option maxRecDepth 100000
set_option maxHeartbeats 1000000
/-! Rules for numbers: sizes by powers of two, offsets, filters. -/
namespace LW
open L2 DL PG
def Bd (n : Nat) (x : Int) : Prop := x.natAbs < 2 ^ n
theorem Bd.up {n m : Nat} {x : Int} (h : Bd n x) (hm : n ≤ m) : Bd m x := Nat.lt_of_lt_of_le h (Nat.pow_le_pow_right (by omega) hm)
theorem Bd.sml {n : Nat} {x : Int} (h : Bd n x) (hn : n ≤ 9000) : Sml x := by
  unfold Sml
  by_cases h0 : x.natAbs = 0
  · rw [h0]; decide
  · have := (Nat.log2_lt h0 (k := n)).mpr h
    omega
theorem Bd.add {n m : Nat} {x y : Int} (h : Bd n x) (g : Bd m y) : Bd (max n m + 1) (x + y) := by
  have a := (h.up (Nat.le_max_left n m)); have b := (g.up (Nat.le_max_right n m))
  unfold Bd at *
  rw [Nat.pow_succ]; omega
theorem Bd.sub {n m : Nat} {x y : Int} (h : Bd n x) (g : Bd m y) : Bd (max n m + 1) (x - y) := by
  have a := (h.up (Nat.le_max_left n m)); have b := (g.up (Nat.le_max_right n m))
  unfold Bd at *
  rw [Nat.pow_succ]; omega
theorem Bd.neg {n : Nat} {x : Int} (h : Bd n x) : Bd n (-x) := by unfold Bd at *; omega
theorem Bd.mul {n m : Nat} {x y : Int} (h : Bd n x) (g : Bd m y) : Bd (n + m) (x * y) := by
  unfold Bd at *
  rw [Int.natAbs_mul, Nat.pow_add]
  exact Nat.mul_lt_mul'' h g
theorem sm_bd {n N : Nat} {f : Nat → Int} (h : ∀ i, i < N → Bd n (f i)) (hN : N < 32) : Bd (n + 5) (Sx.sm N f) := by
  have := Sx.sm_abs (n := N) (f := f) (K := 2 ^ n - 1) fun i hi => by have := h i hi; unfold Bd at this; omega
  unfold Bd
  rw [Nat.pow_add]
  have h2 : N * (2 ^ n - 1) ≤ 31 * (2 ^ n - 1) := Nat.mul_le_mul_right _ (by omega)
  have := Nat.two_pow_pos n
  omega
theorem dot_bd {n m N : Nat} {f g : Nat → Int} (hf : ∀ i, i < N → Bd n (f i)) (hg : ∀ i, i < N → Bd m (g i)) (hN : N < 32) : Bd (n + m + 5) (dotF N f g) := sm_bd (fun i hi => (hf i hi).mul (hg i hi)) hN
theorem bd_0 (n : Nat) : Bd n 0 := by unfold Bd; exact Nat.two_pow_pos n
theorem bd_lit {n : Nat} {x : Int} (h1 : -(2 ^ n : Nat) < x) (h2 : x < (2 ^ n : Nat)) : Bd n x := by unfold Bd; omega
theorem ix_off {N j : Nat} {f : Nat → Int} (c : Nat) (h : c + j < N) : atI (rowD N f) ((c : Int) + (j : Int)) = some (.int (f (c + j))) := by
  have := ix_row (f := f) h
  rwa [Int.natCast_add] at this
theorem mod_b (x : Int) {m : Int} (h : 0 < m) : 0 ≤ x.fmod m ∧ x.fmod m < m := by
  rw [Int.fmod_eq_emod_of_nonneg _ (by omega)]
  exact ⟨Int.emod_nonneg _ (by omega), Int.emod_lt_of_pos _ h⟩
theorem mod_nat (x : Int) {m : Nat} (h : 0 < m) : ∃ q : Nat, q < m ∧ x.fmod m = q := by
  have := mod_b x (m := (m : Int)) (by omega)
  exact ⟨(x.fmod m).toNat, by omega, by omega⟩
/-- a comprehension with a test -/
theorem lcL_filter {α : Type} {t : D → DL.Env → Option DL.Env} {tt : DL.Env → DL.M Bool} {te : DL.Env → DL.M Rs} {env : DL.Env} (xs : List α) (f : α → D) (p : α → Bool) (g : α → D)
    (h : ∀ x, x ∈ xs → ∃ e2, t (f x) env = some e2 ∧ tt e2 = .ok (p x) ∧ (p x = true → ∃ r, te e2 = .ok r ∧ r.d = g x)) : lcL t tt te env (xs.map f) = .ok ((xs.filter p).map g) := by
  induction xs with
  | nil => rfl
  | cons x xs ih =>
    obtain ⟨e2, h1, h2, h3⟩ := h x (List.mem_cons_self ..)
    have ih := ih (fun y hy => h y (List.mem_cons_of_mem _ hy))
    cases hp : p x with
    | false =>
      rw [hp] at h2
      simp only [List.map_cons, lcL, h1, h2, M.bind_ok, ih, List.filter_cons, hp]
      simp [M.bind_ok]
    | true =>
      obtain ⟨r, h4, h5⟩ := h3 hp
      rw [hp] at h2
      simp only [List.map_cons, lcL, h1, h2, h4, M.bind_ok, if_true, ih, List.filter_cons, hp, h5]
theorem sum_filter (N : Nat) (p : Nat → Bool) (f : Nat → Int) : (((List.range N).filter p).map f).sum = Sx.sm N fun i => if p i = true then f i else 0 := by
  induction N with
  | zero => rfl
  | succ N ih =>
    rw [List.range_succ, List.filter_append, List.map_append, List.sum_append, ih]
    cases hp : p N <;> simp [Sx.sm, hp]
theorem sum_filterD (N : Nat) (p : Nat → Bool) (f : Nat → Int) : oSum [.lst (((List.range N).filter p).map fun i => D.int (f i))] = .ok (.fz (.int (Sx.sm N fun i => if p i = true then f i else 0))) := by
  have e : (((List.range N).filter p).map fun i => D.int (f i)) = (((List.range N).filter p).map f).map D.int := by simp
  rw [e]
  simp only [oSum, one1, ofInts, toInts_map, sum_filter]
end LW
end

section
set_option maxRecDepth 100000
set_option maxHeartbeats 4000000
noncomputable section
namespace PG
open L2 DL
def b_ratio : DL.Env → DL.So :=
  (sSeq (sSet 2 [0, 1] (eA oGcd (aCons (eVar 0) (aCons (eVar 1) aNil)))) (sSeq (sIf [1] (tV (e2 (cop .Lt) (eVar 1) (eC (.int 0)))) (sSet 2 [2] (e1 oNeg (eVar 2))) sNext) (sRet [0, 2, 1, 2] (eA oTupD (aCons (e2 oDiv (eVar 0) (eVar 2)) (aCons (e2 oDiv (eVar 1) (eVar 2)) aNil))))))
def m_ratio (ds : List DL.D) : DL.M DL.Rs := pureM (runD 3 b_ratio ds)
def b_best_mixture : DL.Env → DL.So :=
  (sSeq (sSet 2 (List.range 64) (e2 oSub (eC (.int 1)) (eA oMin (aCons (eLc [12] (iE iterA (eVar 1)) (nName 12) tYesD (eA oMin (aCons (eVar 12) aNil))) aNil)))) (sSeq (sSet 3 [] (eA oLstD aNil)) (sSeq (sFor [0] (iE iterA (eVar 0)) (nName 4) (sSeq (sSet 5 [4] (eA oSum (aCons (eVar 4) aNil))) (sApp 3 [5] (eA oTupD (aCons (nlE (eLc [12] (iE iterA (eVar 1)) (nName 12) tYesD (e2 oAdd (eA (oCal 2 m_dot) (aCons (eVar 4) (aCons (eVar 12) aNil))) (e2 oMul (eVar 2) (eVar 5))))) (aCons (eVar 5) aNil)))))) (sSeq (sAsg [1, 3, 1] (nTup 4 (nCons (nName 6) (nCons (nName 7) (nCons (nName 8) (nCons (nName 9) nNil))))) (eA (oCal 3 m_least) (aCons (e2 oMul (eA oLstD (aCons (eC (.int 1)) aNil)) (eA oLen (aCons (eVar 1) aNil))) (aCons (eVar 3) (aCons (eA oLen (aCons (eVar 1) aNil)) aNil))))) (sSeq (sSet 10 [7, 2, 8, 8] (eA (oCal 2 m_ratio) (aCons (e2 oSub (eVar 7) (e2 oMul (eVar 2) (eA oSum (aCons (eVar 8) aNil)))) (aCons (eA oSum (aCons (eVar 8) aNil)) aNil)))) (sSeq (sSet 11 (List.range 64) (eLc [13, 4] (iA oZip (aCons (eVar 9) (aCons (eVar 0) aNil))) (nTup 2 (nCons (nName 13) (nCons (nName 4) nNil))) tYesD (e2 oMul (eVar 13) (eA oSum (aCons (eVar 4) aNil))))) (sRet [10, 8, 11] (eA oTupD (aCons (eVar 10) (aCons (eA (oCal 1 m_lowest) (aCons (eVar 8) aNil)) (aCons (eA (oCal 1 m_lowest) (aCons (eVar 11) aNil)) aNil)))))))))))
def m_best_mixture (ds : List DL.D) : DL.M DL.Rs := pureM (runD 14 b_best_mixture ds)
def b_mix : DL.Env → DL.So :=
  (sSeq (sSet 2 [] (eC (.int 1))) (sSeq (sFor [0] (iE iterA (eVar 0)) (nName 3) (sSet 2 [2, 3] (eA oLcm (aCons (eVar 2) (aCons (eA oSum (aCons (eVar 3) aNil)) aNil))))) (sSeq (sSet 4 [0] (e2 oMul (eA oLstD (aCons (eC (.int 0)) aNil)) (eA oLen (aCons (e2 oIx (eVar 0) (eC (.int 0))) aNil)))) (sSeq (sFor [0, 1] (iA oZip (aCons (eVar 0) (aCons (eVar 1) aNil))) (nTup 2 (nCons (nName 3) (nCons (nName 5) nNil))) (sSeq (sSet 6 [5, 2, 3] (e2 oMul (eVar 5) (e2 oDiv (eVar 2) (eA oSum (aCons (eVar 3) aNil))))) (sSet 4 (List.range 64) (eLc [7, 8] (iA oZip (aCons (eVar 4) (aCons (eVar 3) aNil))) (nTup 2 (nCons (nName 7) (nCons (nName 8) nNil))) tYesD (e2 oAdd (eVar 7) (e2 oMul (eVar 6) (eVar 8))))))) (sRet [4] (eA (oCal 1 m_lowest) (aCons (eVar 4) aNil)))))))
def m_mix (ds : List DL.D) : DL.M DL.Rs := pureM (runD 9 b_mix ds)
def b_compare : DL.Env → DL.So :=
  (sSeq (sSet 2 [0, 1, 1, 0] (e2 oSub (e2 oMul (e2 oIx (eVar 0) (eC (.int 0))) (e2 oIx (eVar 1) (eC (.int 1)))) (e2 oMul (e2 oIx (eVar 1) (eC (.int 0))) (e2 oIx (eVar 0) (eC (.int 1)))))) (sSeq (sIf [2] (tV (e2 (cop .Lt) (eVar 2) (eC (.int 0)))) (sRet [] (e1 oNeg (eC (.int 1)))) sNext) (sSeq (sIf [2] (tV (e2 (cop .Gt) (eVar 2) (eC (.int 0)))) (sRet [] (eC (.int 1))) sNext) (sRet [] (eC (.int 0))))))
def m_compare (ds : List DL.D) : DL.M DL.Rs := pureM (runD 3 b_compare ds)
def b_weighs : DL.Env → DL.So :=
  (sRet [0, 1, 0, 0] (vAn (e2 (cop .Eq) (eA oLen (aCons (eVar 0) aNil)) (eVar 1)) (vAn (e2 (cop .GtE) (eA oMin (aCons (eVar 0) aNil)) (eC (.int 0))) (e2 (cop .Gt) (eA oSum (aCons (eVar 0) aNil)) (eC (.int 0))))))
def m_weighs (ds : List DL.D) : DL.M DL.Rs := pureM (runD 2 b_weighs ds)
def b_least_of : DL.Env → DL.So :=
  (sSeq (sSet 1 [0] (e2 oIx (eVar 0) (eC (.int 0)))) (sSeq (sFor [0] (iE iterA (eVar 0)) (nName 2) (sIf [2, 1] (tV (e2 (cop .Lt) (eA (oCal 2 m_compare) (aCons (eVar 2) (aCons (eVar 1) aNil))) (eC (.int 0)))) (sSet 1 [2] (eVar 2)) sNext)) (sRetV 1)))
def m_least_of (ds : List DL.D) : DL.M DL.Rs := pureM (runD 3 b_least_of ds)
def b_mean : DL.Env → DL.So :=
  (sRet (List.range 64 ++ [0]) (eA (oCal 2 m_ratio) (aCons (eA oSum (aCons (eLc [2, 3] (iA oZip (aCons (eVar 0) (aCons (eVar 1) aNil))) (nTup 2 (nCons (nName 2) (nCons (nName 3) nNil))) tYesD (e2 oMul (eVar 2) (eVar 3))) aNil)) (aCons (eA oSum (aCons (eVar 0) aNil)) aNil))))
def m_mean (ds : List DL.D) : DL.M DL.Rs := pureM (runD 4 b_mean ds)
def b_worst : DL.Env → DL.So :=
  (sRet (List.range 64) (eA (oCal 1 m_least_of) (aCons (eLc [2] (iE iterA (eVar 0)) (nName 2) tYesD (eA (oCal 2 m_mean) (aCons (eVar 2) (aCons (eVar 1) aNil)))) aNil)))
def m_worst (ds : List DL.D) : DL.M DL.Rs := pureM (runD 3 b_worst ds)
def b_multiply : DL.Env → DL.So :=
  (sRet [0, 1, 0, 1] (eA (oCal 2 m_ratio) (aCons (e2 oMul (e2 oIx (eVar 0) (eC (.int 0))) (e2 oIx (eVar 1) (eC (.int 0)))) (aCons (e2 oMul (e2 oIx (eVar 0) (eC (.int 1))) (e2 oIx (eVar 1) (eC (.int 1)))) aNil))))
def m_multiply (ds : List DL.D) : DL.M DL.Rs := pureM (runD 2 b_multiply ds)
def b_shows_mixture : DL.Env → DL.So :=
  (sSeq (sIf [3, 1, 4, 0] (tO (tN (tV (eA (oCal 2 m_weighs) (aCons (eVar 3) (aCons (eA oLen (aCons (eVar 1) aNil)) aNil))))) (tN (tV (eA (oCal 2 m_weighs) (aCons (eVar 4) (aCons (eA oLen (aCons (eVar 0) aNil)) aNil)))))) (sRet [] (eC (.bl false))) sNext) (sSeq (sSet 5 (List.range 64) (eLc [7] (iE oZipN (eVar 1)) (nName 7) tYesD (eA (oCal 2 m_dot) (aCons (eVar 3) (aCons (eVar 7) aNil))))) (sSeq (sIf [0, 5, 2, 3] (tV (e2 (cop .Lt) (eA (oCal 2 m_compare) (aCons (eA (oCal 2 m_worst) (aCons (eVar 0) (aCons (eVar 5) aNil))) (aCons (eA (oCal 2 m_multiply) (aCons (eVar 2) (aCons (eA oTupD (aCons (eA oSum (aCons (eVar 3) aNil)) (aCons (eC (.int 1)) aNil))) aNil))) aNil))) (eC (.int 0)))) (sRet [] (eC (.bl false))) sNext) (sSeq (sSet 6 [0, 4] (eA (oCal 2 m_mix) (aCons (eVar 0) (aCons (eVar 4) aNil)))) (sRet (List.range 64) (eA oAll (aCons (eLc [8] (iE iterA (eVar 1)) (nName 8) tYesD (e2 (cop .LtE) (eA (oCal 2 m_compare) (aCons (eA (oCal 2 m_mean) (aCons (eVar 6) (aCons (eVar 8) aNil))) (aCons (eVar 2) aNil))) (eC (.int 0)))) aNil)))))))
def m_shows_mixture (ds : List DL.D) : DL.M DL.Rs := pureM (runD 9 b_shows_mixture ds)
end PG
end
end

section
set_option maxRecDepth 100000
set_option maxHeartbeats 1000000
/-! Fractions, means, the worst of a lot, mixtures. -/
namespace PG
open L2 DL LW
def fr (p q : Int) : DL.D := .tup [.int p, .int q]
@[simp] theorem fr_ix0 (p q : Int) : oIx (fr p q) (.int 0) = .ok (.fz (.int p)) := (rfl)
@[simp] theorem fr_ix1 (p q : Int) : oIx (fr p q) (.int 1) = .ok (.fz (.int q)) := (rfl)
theorem sml_le {a b : Int} (h : a.natAbs ≤ b.natAbs) (hb : Sml b) : Sml a := by
  unfold Sml at *
  by_cases h0 : a.natAbs = 0
  · rw [h0]; decide
  · have h1 : b.natAbs ≠ 0 := by omega
    have := (Nat.log2_lt h1 (k := 9000)).mp hb
    exact (Nat.log2_lt h0 (k := 9000)).mpr (by omega)
theorem bd_le {n : Nat} {a b : Int} (h : a.natAbs ≤ b.natAbs) (hb : Bd n b) : Bd n a := Nat.lt_of_le_of_lt h hb
theorem gcd_is (a b : Int) : oGcd [.int a, .int b] = .ok (.fz (.int ((Nat.gcd a.natAbs b.natAbs : Nat) : Int))) := (rfl)
theorem fdiv_exact {a : Int} {g : Nat} (hg : 0 < g) (h : g ∣ a.natAbs) : a.fdiv g * g = a := by
  have : (g : Int) ∣ a := Int.natAbs_dvd_natAbs.mp (by simpa using h)
  obtain ⟨c, rfl⟩ := this
  rw [Int.mul_fdiv_cancel_left _ (by omega), Int.mul_comm]
theorem natAbs_part {x y : Int} {g : Nat} (hg : 0 < g) (h : x * g = y) : x.natAbs ≤ y.natAbs ∧ x.natAbs * g = y.natAbs := by
  have e : x.natAbs * g = y.natAbs := by rw [← h, Int.natAbs_mul, Int.natAbs_natCast]
  exact ⟨by rw [← e]; exact Nat.le_mul_of_pos_right _ hg, e⟩
structure RatioIs (a b p q : Int) : Prop where
  q0 : 0 < q
  eq : p * b = a * q
  pa : p.natAbs ≤ a.natAbs
  qa : q.natAbs ≤ b.natAbs
  one : Nat.gcd p.natAbs q.natAbs = 1
theorem ratio_is {a b : Int} (hb : 0 < b) (sa : Sml a) (sb : Sml b) : ∃ p q, m_ratio [.int a, .int b] = .ok (.fz (fr p q)) ∧ RatioIs a b p q := by
  have g0 : 0 < Nat.gcd a.natAbs b.natAbs := Nat.gcd_pos_of_pos_right _ (by omega)
  have gb : Nat.gcd a.natAbs b.natAbs ≤ b.natAbs := Nat.gcd_le_right _ (by omega)
  have ea := fdiv_exact g0 (Nat.gcd_dvd_left a.natAbs b.natAbs)
  have eb := fdiv_exact g0 (Nat.gcd_dvd_right a.natAbs b.natAbs)
  have na := natAbs_part g0 ea
  have nb := natAbs_part g0 eb
  refine ⟨a.fdiv (Nat.gcd a.natAbs b.natAbs : Nat), b.fdiv (Nat.gcd a.natAbs b.natAbs : Nat), runD_ok ?_, ?_, ?_, na.1, nb.1, ?_⟩
  · have hn : ¬ b < 0 := by omega
    have d : ∀ x : Int, oDiv (.int x) (.int ((Nat.gcd a.natAbs b.natAbs : Nat) : Int)) = .ok (.fz (.int (x.fdiv (Nat.gcd a.natAbs b.natAbs : Nat)))) := fun x => div_ok (by omega) (sml_le (a := ((Nat.gcd a.natAbs b.natAbs : Nat) : Int)) (by rw [Int.natAbs_natCast]; exact gb) sb)
    show b_ratio [.fz (.int a), .fz (.int b), .un] = _
    unfold b_ratio
    simp [gcd_is, hn, d, fr]
  · refine Classical.byContradiction fun hc => ?_
    have : b.fdiv (Nat.gcd a.natAbs b.natAbs : Nat) * (Nat.gcd a.natAbs b.natAbs : Nat) ≤ 0 := Int.mul_nonpos_of_nonpos_of_nonneg (by omega) (by omega)
    omega
  · generalize hx : a.fdiv (Nat.gcd a.natAbs b.natAbs : Nat) = x at *
    generalize hy : b.fdiv (Nat.gcd a.natAbs b.natAbs : Nat) = y at *
    have e1 : x * b = x * (y * (Nat.gcd a.natAbs b.natAbs : Nat)) := by rw [eb]
    have e2 : a * y = (x * (Nat.gcd a.natAbs b.natAbs : Nat)) * y := by rw [ea]
    rw [e1, e2]
    grind
  · generalize hx : (a.fdiv (Nat.gcd a.natAbs b.natAbs : Nat)).natAbs = x at *
    generalize hy : (b.fdiv (Nat.gcd a.natAbs b.natAbs : Nat)).natAbs = y at *
    generalize hg : Nat.gcd a.natAbs b.natAbs = g at *
    have : Nat.gcd (x * g) (y * g) = g := by rw [na.2, nb.2, hg]
    rw [Nat.gcd_mul_right] at this
    exact Nat.eq_of_mul_eq_mul_right g0 (by rw [this, Nat.one_mul])
theorem compare_is {p q r s : Int} (hp : Sml p) (hq : Sml q) (hr : Sml r) (hs : Sml s) : ∃ c : Int, m_compare [fr p q, fr r s] = .ok (.fz (.int c)) ∧ (c < 0 ↔ p * s < r * q) ∧ (c ≤ 0 ↔ p * s ≤ r * q) := by
  have m1 := mul_ok hp hs
  have m2 := mul_ok hr hq
  by_cases h1 : p * s - r * q < 0
  · refine ⟨-1, runD_ok ?_, by omega, by omega⟩
    show b_compare [.fz (fr p q), .fz (fr r s), .un] = _
    unfold b_compare
    simp [m1, m2, h1]
  · by_cases h2 : 0 < p * s - r * q
    · refine ⟨1, runD_ok ?_, by omega, by omega⟩
      show b_compare [.fz (fr p q), .fz (fr r s), .un] = _
      unfold b_compare
      have h3 : r * q < p * s := by omega
      simp [m1, m2, h1, h3]
    · refine ⟨0, runD_ok ?_, by omega, by omega⟩
      show b_compare [.fz (fr p q), .fz (fr r s), .un] = _
      unfold b_compare
      have h3 : ¬ r * q < p * s := by omega
      simp [m1, m2, h1, h3]
theorem multiply_is {a b c d : Int} (hb : 0 < b) (hd : 0 < d) (sa : Bd 4000 a) (sb : Bd 4000 b) (sc : Bd 4000 c) (sd : Bd 4000 d) : ∃ p q, m_multiply [fr a b, fr c d] = .ok (.fz (fr p q)) ∧ RatioIs (a * c) (b * d) p q := by
  obtain ⟨p, q, e, h⟩ := ratio_is (a := a * c) (b := b * d) (Int.mul_pos hb hd) ((sa.mul sc).sml (by omega)) ((sb.mul sd).sml (by omega))
  refine ⟨p, q, runD_ok ?_, h⟩
  have m1 := mul_ok (sa.sml (by omega)) (sc.sml (by omega))
  have m2 := mul_ok (sb.sml (by omega)) (sd.sml (by omega))
  show b_multiply [.fz (fr a b), .fz (fr c d)] = _
  unfold b_multiply
  simp [m1, m2, oCal, e]
theorem mean_is {N : Nat} {f g : Nat → Int} {d1 d2 : DL.D} (hN : N < 30) (h1 : Sq d1 (rowD N f)) (h2 : Sq d2 (rowD N g)) (hp : 0 < Sx.sm N f) (sf : ∀ i, i < N → Bd 4000 (f i)) (sg : ∀ i, i < N → Bd 4000 (g i)) :
    ∃ p q, m_mean [d1, d2] = .ok (.fz (fr p q)) ∧ RatioIs (dotF N f g) (Sx.sm N f) p q := by
  obtain ⟨p, q, e, h⟩ := ratio_is (a := dotF N f g) (b := Sx.sm N f) hp ((dot_bd sf sg (by omega)).sml (by omega)) ((sm_bd sf (by omega)).sml (by omega))
  refine ⟨p, q, runD_ok ?_, h⟩
  have hl : eLc [2, 3] (iA oZip (aCons (eVar 0) (aCons (eVar 1) aNil))) (nTup 2 (nCons (nName 2) (nCons (nName 3) nNil))) tYesD (e2 oMul (eVar 2) (eVar 3)) [.fz d1, .fz d2, .un, .un] = .ok (.ow (rowD N fun i => f i * g i)) := by
    refine ev_lc (ds := (List.range N).map fun j => D.tup [.int (f j), .int (g j)]) (by simp) ?_ ?_ (.inr (by simp; omega))
    · simp [oZip, h1.seq, h2.seq, zip_rows]
    · refine lcL_map (List.range N) _ (fun j => .int (f j * g j)) fun j hj => ?_
      have hj := List.mem_range.mp hj
      refine ⟨_, .fz (.int (f j * g j)), rfl, rfl, ?_, rfl⟩
      simp [wipeE, mul_ok ((sf j hj).sml (by omega)) ((sg j hj).sml (by omega))]
  show b_mean [.fz d1, .fz d2, .un, .un] = _
  unfold b_mean
  simp only [ev_ret, ev_eA, ev_aCons, hl, ev_bok, ev_row, ev_aNil, sum_row, ev_pok, ev_ofM, ev_vs, ev_v0f, ev_rfz, h1.sum, oCal, List.length_cons, List.length_nil, if_true]
  have e' : m_ratio [.int (Sx.sm N fun i => f i * g i), .int (Sx.sm N f)] = .ok (.fz (fr p q)) := e
  rw [e']
  rfl
/-! the least of a list of fractions -/
def frs (n : Nat) (P Q : Nat → Int) : List DL.D := (List.range n).map fun i => fr (P i) (Q i)
@[simp] theorem frs_len {n : Nat} {P Q : Nat → Int} : (frs n P Q).length = n := by simp [frs]
theorem frs_at {n : Nat} {P Q : Nat → Int} {k : Nat} {d : DL.D} (h : (frs n P Q)[k]? = some d) : k < n ∧ d = fr (P k) (Q k) := by
  by_cases hk : k < n
  · have : (frs n P Q)[k]? = some (fr (P k) (Q k)) := by simp [frs, hk]
    rw [this] at h; cases h; exact ⟨hk, rfl⟩
  · rw [List.getElem?_eq_none (by simp; omega)] at h; cases h
def loB : DL.Env → DL.So := (sIf [2, 1] (tV (e2 (cop .Lt) (eA (oCal 2 m_compare) (aCons (eVar 2) (aCons (eVar 1) aNil))) (eC (.int 0)))) (sSet 1 [2] (eVar 2)) sNext)
theorem frz_fr (p q : Int) (A : List Nat) (env : DL.Env) : frzIf (.fz (fr p q)) A env = env := (rfl)
theorem least_of_is {n : Nat} {P Q : Nat → Int} (hn : 1 ≤ n) (hq : ∀ i, i < n → 0 < Q i) (sP : ∀ i, i < n → Sml (P i)) (sQ : ∀ i, i < n → Sml (Q i)) :
    ∃ j, j < n ∧ m_least_of [.lst (frs n P Q)] = .ok (.fz (fr (P j) (Q j))) ∧ ∀ i, i < n → P j * Q i ≤ P i * Q j := by
  have hb : b_least_of = (sSeq (sSet 1 [0] (e2 oIx (eVar 0) (eC (.int 0)))) (sSeq (sFor [0] (iE iterA (eVar 0)) (nName 2) loB) (sRetV 1))) := rfl
  obtain ⟨e, l, j, o2, rfl, hj, hmin⟩ := forL_nx (t := nName 2) (body := loB) (ds := frs n P Q) (env := [.fz (.lst (frs n P Q)), .fz (fr (P 0) (Q 0)), .un])
    (fun k e => ∃ j o2, e = [.fz (.lst (frs n P Q)), .fz (fr (P j) (Q j)), o2] ∧ j < n ∧ ∀ i, i < k → P j * Q i ≤ P i * Q j) ⟨0, _, rfl, by omega, fun i hi => by omega⟩ (by
    rintro i d e hd ⟨j, o2, rfl, hj, hm⟩
    obtain ⟨hi, rfl⟩ := frs_at hd
    obtain ⟨c, ec, c1, c2⟩ := compare_is (sP i hi) (sQ i hi) (sP j hj) (sQ j hj)
    refine ⟨_, rfl, ?_⟩
    by_cases h : c < 0
    · have hlt := c1.mp h
      refine ⟨[.fz (.lst (frs n P Q)), .fz (fr (P i) (Q i)), .fz (fr (P i) (Q i))], .inl ?_, i, _, rfl, hi, fun k hk => ?_⟩
      · unfold loB
        simp [oCal, ec, h, frz_fr]
      · by_cases hki : k = i
        · subst hki; exact Int.le_refl _
        · have h1 := hm k (by omega)
          have qj := hq j hj
          have qi := hq i hi
          have qk := hq k (by omega)
          refine Int.le_of_mul_le_mul_right (a := Q j) ?_ qj
          have a1 : P i * Q j * Q k ≤ P j * Q i * Q k := Int.mul_le_mul_of_nonneg_right (Int.le_of_lt hlt) (by omega)
          have a2 : P j * Q k * Q i ≤ P k * Q j * Q i := Int.mul_le_mul_of_nonneg_right h1 (by omega)
          have b1 : P i * Q k * Q j = P i * Q j * Q k := by grind
          have b2 : P j * Q i * Q k = P j * Q k * Q i := by grind
          have b3 : P k * Q i * Q j = P k * Q j * Q i := by grind
          omega
    · have hge : P j * Q i ≤ P i * Q j := by
        have : ¬ P i * Q j < P j * Q i := fun h' => h (c1.mpr h')
        omega
      refine ⟨[.fz (.lst (frs n P Q)), .fz (fr (P j) (Q j)), .fz (fr (P i) (Q i))], .inl ?_, j, _, rfl, hj, fun k hk => ?_⟩
      · unfold loB
        simp [oCal, ec, h]
      · by_cases hki : k = i
        · subst hki; exact hge
        · exact hm k (by omega))
  refine ⟨j, hj, runD_ok ?_, fun i hi => hmin i (by simpa using hi)⟩
  have h0 : atI (frs n P Q) 0 = some (fr (P 0) (Q 0)) := by
    have := DL.atI_nat (xs := frs n P Q) (i := 0)
    rw [show ((0 : Nat) : Int) = 0 from rfl] at this
    rw [this]
    have h0 : 0 < n := by omega
    simp [frs, h0]
  rw [hb]
  show sSeq _ _ [.fz (.lst (frs n P Q)), .un, .un] = _
  simp only [ev_seq, ev_set, ev_e2, ev_vs, ev_v0f, ev_bok, ev_c, ev_rfz, ev_ixL, h0, ev_oR, ev_pok, ev_ofM, frz_fr, List.set, ev_sfz, ev_tn, ev_for, ev_iE, ev_iterL, ev_fzCons, ev_fzNil, List.getD_cons_zero, ev_frzF, l, ev_retVs, ev_retVf]
end PG
end

section
set_option maxRecDepth 100000
set_option maxHeartbeats 1000000
/-! The worst of a lot, columns, mixtures. -/
namespace PG
open L2 DL LW
def rowsC (c : List DL.D → DL.D) (R N : Nat) (W : Nat → Nat → Int) : List DL.D := (List.range R).map fun k => c (rowD N (W k))
@[simp] theorem rowsC_len {c : List DL.D → DL.D} {R N : Nat} {W : Nat → Nat → Int} : (rowsC c R N W).length = R := by simp [rowsC]
theorem rowsC_get {c : List DL.D → DL.D} {R N : Nat} {W : Nat → Nat → Int} {k : Nat} (h : k < R) : (rowsC c R N W)[k]? = some (c (rowD N (W k))) := by simp [rowsC, h]
theorem rowsC_at {c : List DL.D → DL.D} {R N : Nat} {W : Nat → Nat → Int} {k : Nat} {d : DL.D} (h : (rowsC c R N W)[k]? = some d) : k < R ∧ d = c (rowD N (W k)) := by
  by_cases hk : k < R
  · rw [rowsC_get hk] at h; cases h; exact ⟨hk, rfl⟩
  · rw [List.getElem?_eq_none (by simp; omega)] at h; cases h
theorem ix_rowsC {c : List DL.D → DL.D} {R N : Nat} {W : Nat → Nat → Int} {k : Nat} (h : k < R) : atI (rowsC c R N W) (k : Int) = some (c (rowD N (W k))) := by
  rw [DL.atI_nat]; exact rowsC_get h
section
variable {R N m : Nat} {W A : Nat → Nat → Int} {c : List DL.D → DL.D} {dl dt dw : DL.D} {t sh : Nat → Int}
theorem worst_is (hc : ∀ ds, Sq (c ds) ds) (hR1 : 1 ≤ R) (hR : R < 1000) (hN : N < 30) (hl : Sq dl (rowsC c R N W)) (ht : Sq dt (rowD N t)) (hp : ∀ k, k < R → 0 < Sx.sm N (W k)) (sW : ∀ k, k < R → ∀ i, i < N → Bd 1500 (W k i)) (sg : ∀ i, i < N → Bd 1500 (t i)) :
    ∃ p q, m_worst [dl, dt] = .ok (.fz (fr p q)) ∧ 0 < q ∧ Bd 3005 p ∧ Bd 1505 q ∧ (∃ j, j < R ∧ p * Sx.sm N (W j) = dotF N (W j) t * q) ∧ ∀ k, k < R → p * Sx.sm N (W k) ≤ dotF N (W k) t * q := by
  have : ∀ k, ∃ pq : Int × Int, k < R → m_mean [c (rowD N (W k)), dt] = .ok (.fz (fr pq.1 pq.2)) ∧ RatioIs (dotF N (W k) t) (Sx.sm N (W k)) pq.1 pq.2 := fun k => by
    by_cases hk : k < R
    · obtain ⟨p, q, e, h⟩ := mean_is hN (hc _) ht (hp k hk) (fun i hi => (sW k hk i hi).up (by omega)) fun i hi => (sg i hi).up (by omega)
      exact ⟨(p, q), fun _ => ⟨e, h⟩⟩
    · exact ⟨(0, 1), fun h => absurd h hk⟩
  obtain ⟨F, hF⟩ := Classical.axiomOfChoice this
  have bP : ∀ k, k < R → Bd 3005 (F k).1 := fun k hk => bd_le (hF k hk).2.pa (dot_bd (sW k hk) sg (by omega))
  have bQ : ∀ k, k < R → Bd 1505 (F k).2 := fun k hk => bd_le (hF k hk).2.qa (sm_bd (sW k hk) (by omega))
  obtain ⟨j, hj, e, hmin⟩ := least_of_is (P := fun k => (F k).1) (Q := fun k => (F k).2) hR1 (fun k hk => (hF k hk).2.q0) (fun k hk => (bP k hk).sml (by omega)) fun k hk => (bQ k hk).sml (by omega)
  refine ⟨(F j).1, (F j).2, runD_ok ?_, (hF j hj).2.q0, bP j hj, bQ j hj, ⟨j, hj, (hF j hj).2.eq⟩, fun k hk => ?_⟩
  · have hlc : eLc [2] (iE iterA (eVar 0)) (nName 2) tYesD (eA (oCal 2 m_mean) (aCons (eVar 2) (aCons (eVar 1) aNil))) [.fz dl, .fz dt, .un] = .ok (.ow (frs R (fun k => (F k).1) fun k => (F k).2)) := by
      refine ev_lc (ds := rowsC c R N W) (by simp) (by simp [hl.iter]) ?_ (.inr (by simp; omega))
      refine lcL_map (List.range R) _ (fun k => fr (F k).1 (F k).2) fun k hk => ?_
      refine ⟨_, .fz (fr (F k).1 (F k).2), rfl, rfl, ?_, rfl⟩
      simp [wipeE, oCal, (hF k (List.mem_range.mp hk)).1]
    show b_worst [.fz dl, .fz dt, .un] = _
    unfold b_worst
    simp only [ev_ret, ev_eA, ev_aCons, hlc, ev_bok, ev_row, ev_aNil, ev_pok, ev_ofM, oCal, List.length_cons, List.length_nil, if_true, e]
  · have e1 := (hF k hk).2.eq
    have e2 := hmin k hk
    have qk := (hF k hk).2.q0
    have qj := (hF j hj).2.q0
    have sk := hp k hk
    refine Int.le_of_mul_le_mul_right (a := (F k).2) ?_ qk
    have a1 : (F j).1 * (F k).2 * Sx.sm N (W k) ≤ (F k).1 * (F j).2 * Sx.sm N (W k) := Int.mul_le_mul_of_nonneg_right e2 (by omega)
    have b1 : (F j).1 * Sx.sm N (W k) * (F k).2 = (F j).1 * (F k).2 * Sx.sm N (W k) := by grind
    have b2 : (F k).1 * (F j).2 * Sx.sm N (W k) = (F k).1 * Sx.sm N (W k) * (F j).2 := by grind
    have b3 : dotF N (W k) t * (F j).2 * (F k).2 = dotF N (W k) t * (F k).2 * (F j).2 := by grind
    rw [b1, b3, ← e1, ← b2]
    exact a1
/-! columns -/
theorem seqAll_rows (hc : ∀ ds, Sq (c ds) ds) : seqAll (rowsC c m N A) = some ((List.range m).map fun k => rowD N (A k)) := by
  unfold rowsC
  induction List.range m with
  | nil => rfl
  | cons x xs ih =>
    simp only [List.map_cons, seqAll, (hc _).seq, ih]
theorem cols_is (hc : ∀ ds, Sq (c ds) ds) (h1 : 1 ≤ m) (h5 : m ≤ 5) {d : DL.D} (hd : Sq d (rowsC c m N A)) : oZipN d = .ok (rowsC .tup N m fun i k => A k i) := by
  unfold oZipN
  rw [hd.seq]
  simp only [seqAll_rows hc]
  obtain ⟨n, rfl⟩ : ∃ n, m = n + 1 := ⟨m - 1, by omega⟩
  have e : (List.range (n + 1)).map (fun k => rowD N (A k)) = rowD N (A 0) :: (List.range n).map (fun k => rowD N (A (k + 1))) := by
    rw [List.range_succ_eq_map]; simp
  rw [e]
  simp only
  rw [if_pos ⟨by simp; omega, fun x hx => by obtain ⟨k, _, rfl⟩ := List.mem_map.mp hx; simp⟩]
  rw [← e]
  unfold colsOf rowsC
  congr 1
  rw [rowD_len]
  refine List.map_congr_left fun i hi => ?_
  have hi := List.mem_range.mp hi
  congr 1
  simp only [List.map_map, rowD]
  refine List.map_congr_left fun k hk => ?_
  show ((List.range N).map fun j => D.int (A k j)).getD i .non = _
  simp [List.getD_eq_getElem?_getD, hi]
/-! mixtures -/
def lc (S : Nat → Int) : Nat → Nat
  | 0 => 1
  | k+1 => Nat.lcm (lc S k) (S k).natAbs
theorem lc_pos {S : Nat → Int} : ∀ {k : Nat}, (∀ j, j < k → 0 < S j) → 0 < lc S k
  | 0, _ => Nat.one_pos
  | k+1, h => Nat.lcm_pos (lc_pos fun j hj => h j (by omega)) (by have := h k (by omega); omega)
theorem lc_dvd {S : Nat → Int} : ∀ {k j : Nat}, j < k → (S j).natAbs ∣ lc S k
  | k+1, j, h => by
    by_cases hj : j = k
    · subst hj; exact Nat.dvd_lcm_right _ _
    · exact Nat.dvd_trans (lc_dvd (show j < k by omega)) (Nat.dvd_lcm_left _ _)
theorem lc_bd {S : Nat → Int} {n : Nat} : ∀ {k : Nat}, (∀ j, j < k → Bd n (S j)) → lc S k < 2 ^ (n * k + 1)
  | 0, _ => by show 1 < 2 ^ 1; decide
  | k+1, h => by
    have ih := lc_bd (S := S) (n := n) (k := k) fun j hj => h j (by omega)
    have hk := h k (by omega)
    unfold Bd at hk
    show Nat.lcm (lc S k) (S k).natAbs < _
    have := PySem.W.mc_lcm_le (lc S k) (S k).natAbs
    have e : 2 ^ (n * (k + 1) + 1) = 2 ^ (n * k + 1) * 2 ^ n := by rw [← Nat.pow_add]; congr 1; rw [Nat.mul_add]; omega
    rw [e]
    exact Nat.lt_of_le_of_lt this (Nat.mul_lt_mul'' ih hk)
def mxB1 : DL.Env → DL.So := (sSet 2 [2, 3] (eA oLcm (aCons (eVar 2) (aCons (eA oSum (aCons (eVar 3) aNil)) aNil))))
def mxC : DL.Env → DL.M Rs := (eLc [7, 8] (iA oZip (aCons (eVar 4) (aCons (eVar 3) aNil))) (nTup 2 (nCons (nName 7) (nCons (nName 8) nNil))) tYesD (e2 oAdd (eVar 7) (e2 oMul (eVar 6) (eVar 8))))
def mxB2 : DL.Env → DL.So := (sSeq (sSet 6 [5, 2, 3] (e2 oMul (eVar 5) (e2 oDiv (eVar 2) (eA oSum (aCons (eVar 3) aNil))))) (sSet 4 (List.range 64) mxC))
def mF (S sh : Nat → Int) (R k : Nat) : Int := sh k * ((lc S R : Nat) : Int).fdiv (S k)
theorem mF_mul {S : Nat → Int} {R k : Nat} (hk : k < R) (hS : 0 < S k) : mF S sh R k * S k = sh k * (lc S R : Nat) := by
  have h := fdiv_exact (a := ((lc S R : Nat) : Int)) (g := (S k).natAbs) (by omega) (by rw [Int.natAbs_natCast]; exact lc_dvd hk)
  have e : (((S k).natAbs : Nat) : Int) = S k := by omega
  rw [e] at h
  unfold mF
  rw [Int.mul_assoc, h]
theorem mix_is (hc : ∀ ds, Sq (c ds) ds) (hR1 : 1 ≤ R) (hR : R < 30) (hN : N < 30) (hl : Sq dl (rowsC c R N W)) (hw : Sq dw (rowD R sh)) (hp : ∀ k, k < R → 0 < Sx.sm N (W k)) (sW : ∀ k, k < R → ∀ i, i < N → Bd 10 (W k i)) (sS : ∀ k, k < R → Bd 15 (Sx.sm N (W k))) (sh' : ∀ k, k < R → Bd 2000 (sh k)) :
    m_mix [dl, dw] = .ok (.fz (.tup (rowD N (lowF N fun i => Sx.sm R fun k => mF (fun k => Sx.sm N (W k)) sh R k * W k i)))) := by
  have hb : b_mix = (sSeq (sSet 2 [] (eC (.int 1))) (sSeq (sFor [0] (iE iterA (eVar 0)) (nName 3) mxB1) (sSeq (sSet 4 [0] (e2 oMul (eA oLstD (aCons (eC (.int 0)) aNil)) (eA oLen (aCons (e2 oIx (eVar 0) (eC (.int 0))) aNil)))) (sSeq (sFor [0, 1] (iA oZip (aCons (eVar 0) (aCons (eVar 1) aNil))) (nTup 2 (nCons (nName 3) (nCons (nName 5) nNil))) mxB2) (sRet [4] (eA (oCal 1 m_lowest) (aCons (eVar 4) aNil))))))) := rfl
  generalize hS : (fun k => Sx.sm N (W k)) = S at *
  have hS' : ∀ k, Sx.sm N (W k) = S k := fun k => congrFun hS k
  have hLb : ∀ k, k ≤ R → Bd 500 ((lc S k : Nat) : Int) := fun k hk => by
    unfold Bd
    rw [Int.natAbs_natCast]
    exact Nat.lt_of_lt_of_le (lc_bd (n := 15) fun j hj => by rw [← hS']; exact sS j (by omega)) (Nat.pow_le_pow_right (by omega) (by omega))
  obtain ⟨e, l1, o3, rfl⟩ := forL_nx (t := nName 3) (body := mxB1) (ds := rowsC c R N W) (env := [.fz dl, .fz dw, .fz (.int 1), .un, .un, .un, .un, .un, .un])
    (fun k e => ∃ o3, e = [.fz dl, .fz dw, .fz (.int ((lc S k : Nat) : Int)), o3, .un, .un, .un, .un, .un]) ⟨_, rfl⟩ (by
    rintro i d e hd ⟨o3, rfl⟩
    obtain ⟨hi, rfl⟩ := rowsC_at hd
    refine ⟨_, rfl, [.fz dl, .fz dw, .fz (.int ((lc S (i + 1) : Nat) : Int)), .fz (c (rowD N (W i))), .un, .un, .un, .un, .un], .inl ?_, _, rfl⟩
    have ol : oLcm [.int ((lc S i : Nat) : Int), .int (S i)] = .ok (.fz (.int ((lc S (i + 1) : Nat) : Int))) := by
      show (if _ ∧ _ then DL.M.ok (Rs.fz (.int ((Nat.lcm (((lc S i : Nat) : Int)).natAbs (S i).natAbs : Nat) : Int))) else .bad) = _
      rw [if_pos ⟨(hLb i (by omega)).sml (by omega), by rw [← hS']; exact (sS i hi).sml (by omega)⟩, Int.natAbs_natCast]
      rfl
    unfold mxB1
    simp [(hc _).sum, hS', ol])
  have lenz : oLen [c (rowD N (W 0))] = .ok (.fz (.int N)) := by rw [(hc _).len, rowD_len]
  have r0 : oIx dl (.int 0) = .ok (.fz (c (rowD N (W 0)))) := by
    rw [hl.ix]
    have := ix_rowsC (c := c) (N := N) (W := W) (show 0 < R by omega)
    rw [show ((0 : Nat) : Int) = 0 from rfl] at this
    rw [this]; rfl
  have l0 : oLstD [.int 0] = .ok (.ow [.int 0]) := lst_ok (by simp)
  have fb : ∀ k, k < R → Bd 2500 (mF S sh R k) := fun k hk => by
    have h := mF_mul (S := S) (sh := sh) hk (by rw [← hS']; exact hp k hk)
    have hs : 0 < S k := by rw [← hS']; exact hp k hk
    refine bd_le (b := sh k * (lc S R : Nat)) ?_ (((sh' k hk).mul (hLb R (Nat.le_refl _))).up (by omega))
    rw [← h, Int.natAbs_mul]
    exact Nat.le_mul_of_pos_right _ (by omega)
  obtain ⟨e2, l2, o3', o5, o6, rfl⟩ := forL_nx (t := nTup 2 (nCons (nName 3) (nCons (nName 5) nNil))) (body := mxB2) (ds := (List.range R).map fun k => D.tup [c (rowD N (W k)), .int (sh k)]) (env := [.fz dl, .fz dw, .fz (.int ((lc S R : Nat) : Int)), o3, .ow (rowD N fun _ => 0), .un, .un, .un, .un])
    (fun k e => ∃ o3 o5 o6, e = [.fz dl, .fz dw, .fz (.int ((lc S R : Nat) : Int)), o3, .ow (rowD N fun i => Sx.sm k fun j => mF S sh R j * W j i), o5, o6, .un, .un]) ⟨_, _, _, rfl⟩ (by
    rintro i d e hd ⟨o3, o5, o6, rfl⟩
    have hd' : i < R ∧ d = .tup [c (rowD N (W i)), .int (sh i)] := by
      by_cases hk : i < R
      · have : ((List.range R).map fun k => D.tup [c (rowD N (W k)), .int (sh k)])[i]? = some (D.tup [c (rowD N (W i)), .int (sh i)]) := by simp [hk]
        rw [this] at hd; cases hd; exact ⟨hk, rfl⟩
      · rw [List.getElem?_eq_none (by simp; omega)] at hd; cases hd
    obtain ⟨hi, rfl⟩ := hd'
    have hs : 0 < S i := by rw [← hS']; exact hp i hi
    refine ⟨_, rfl, [.fz dl, .fz dw, .fz (.int ((lc S R : Nat) : Int)), .fz (c (rowD N (W i))), .ow (rowD N fun i' => Sx.sm (i + 1) fun j => mF S sh R j * W j i'), .fz (.int (sh i)), .fz (.int (mF S sh R i)), .un, .un], .inl ?_, _, _, _, rfl⟩
    have dv : oDiv (.int ((lc S R : Nat) : Int)) (.int (S i)) = .ok (.fz (.int (((lc S R : Nat) : Int).fdiv (S i)))) := div_ok (by omega) (by rw [← hS']; exact (sS i hi).sml (by omega))
    have qb : Bd 500 (((lc S R : Nat) : Int).fdiv (S i)) := by
      have h := fdiv_exact (a := ((lc S R : Nat) : Int)) (g := (S i).natAbs) (by omega) (by rw [Int.natAbs_natCast]; exact lc_dvd hi)
      have e : (((S i).natAbs : Nat) : Int) = S i := by omega
      rw [e] at h
      refine bd_le (b := ((lc S R : Nat) : Int)) ?_ (hLb R (Nat.le_refl _))
      have h3 := congrArg Int.natAbs h
      rw [Int.natAbs_mul] at h3
      rw [← h3]
      exact Nat.le_mul_of_pos_right _ (by omega)
    have m1 : oMul (.int (sh i)) (.int (((lc S R : Nat) : Int).fdiv (S i))) = .ok (.fz (.int (mF S sh R i))) := mul_ok ((sh' i hi).sml (by omega)) (qb.sml (by omega))
    have cv : mxC [.fz dl, .fz dw, .fz (.int ((lc S R : Nat) : Int)), .fz (c (rowD N (W i))), .ow (rowD N fun i' => Sx.sm i fun j => mF S sh R j * W j i'), .fz (.int (sh i)), .fz (.int (mF S sh R i)), .un, .un] = .ok (.ow (rowD N fun i' => Sx.sm (i + 1) fun j => mF S sh R j * W j i')) := by
      refine ev_lc (ds := (List.range N).map fun j => D.tup [.int (Sx.sm i fun j' => mF S sh R j' * W j' j), .int (W i j)]) (by simp) ?_ ?_ (.inr (by simp; omega))
      · simp [oZip, (hc _).seq, (Sq.l (rowD N fun i' => Sx.sm i fun j => mF S sh R j * W j i')).seq, zip_rows]
      · refine lcL_map (List.range N) _ (fun j => .int (Sx.sm (i + 1) fun j' => mF S sh R j' * W j' j)) fun j hj => ?_
        have hj := List.mem_range.mp hj
        refine ⟨_, .fz (.int (Sx.sm (i + 1) fun j' => mF S sh R j' * W j' j)), rfl, rfl, ?_, rfl⟩
        simp [wipeE, mul_ok ((fb i hi).sml (by omega)) ((sW i hi j hj).sml (by omega)), Sx.sm]
    unfold mxB2
    simp only [List.set, ev_seq, ev_set, ev_e2, ev_eA, ev_aCons, ev_vs, ev_v0f, ev_bok, ev_rfz, (hc _).sum, hS', ev_pok, ev_aNil, dv, m1, ev_ofM, ev_frzInt, ev_sfz, ev_tn, cv, ev_frzRow, ev_sow])
  have tb : ∀ i, i < N → Bd 2600 (Sx.sm R fun k => mF S sh R k * W k i) := fun i hi => (sm_bd (n := 2510) (fun k hk => (fb k hk).mul (sW k hk i hi)) (by omega)).up (by omega)
  have low := m_low (N := N) (f := fun i => Sx.sm R fun k => mF S sh R k * W k i) (by omega) fun i hi => (tb i hi).sml (by omega)
  have zp : oZip [dl, dw] = .ok ((List.range R).map fun k => D.tup [c (rowD N (W k)), .int (sh k)]) := by
    have : (rowsC c R N W).zip (rowD R sh) = (List.range R).map fun k => (c (rowD N (W k)), D.int (sh k)) := by
      simp only [rowsC, rowD]
      induction List.range R with
      | nil => rfl
      | cons x xs ih => simp [ih]
    simp [oZip, hl.seq, hw.seq, this]
  refine runD_ok ?_
  rw [hb]
  show sSeq _ _ [.fz dl, .fz dw, .un, .un, .un, .un, .un, .un, .un] = _
  rw [rowsC_len] at l1
  rw [List.length_map, List.length_range] at l2
  simp only [ev_seq, ev_set, ev_c, ev_ofM, ev_frzInt, List.set, ev_sfz, ev_tn, ev_for, ev_iE, ev_vs, ev_v0f, ev_bok, ev_rfz, hl.iter, ev_pok, ev_fzCons, ev_fzNil, List.getD_cons_zero, List.getD_cons_succ, ev_frzF, l1, ev_e2, ev_eA, ev_aCons, ev_aNil, l0, ev_row, r0, lenz, zeros (show N < 1000000 by omega), ev_frzRow, ev_sow, ev_iA, zp, l2, ev_ret, ev_v0o, oCal, List.length_cons, List.length_nil, if_true, low]
end
end PG
end

section
set_option maxRecDepth 100000
set_option maxHeartbeats 1000000
/-! What shows_mixture says. -/
namespace PG
open L2 DL LW
structure Wt (M m : Nat) (w : Nat → Int) : Prop where
  len : M = m
  nn : ∀ i, i < m → 0 ≤ w i
  pos : 0 < Sx.sm m w
theorem weighs_says {M m : Nat} {w : Nat → Int} {d : DL.D} (hm : 1 ≤ m) (hd : Sq d (rowD M w)) : Says (m_weighs [d, .int m]) (Wt M m w) := by
  by_cases h : M = m
  · subst h
    obtain ⟨lo, e, hlo⟩ := min_1 hm hd
    by_cases h1 : lo < 0
    · refine ⟨false, runD_ok ?_, ⟨fun h => by simp at h, fun h => ?_⟩⟩
      · show b_weighs [.fz d, .fz (.int M)] = _
        unfold b_weighs
        have h1' : ¬ 0 ≤ lo := by omega
        simp only [ev_ret, va, ev_e2, ev_eA, ev_aCons, ev_vs, ev_v0f, ev_bok, ev_rfz, ev_aNil, hd.len, rowD_len, ev_pok, ev_copEq, ev_eqI, decide_true, ev_asB, if_true, e, ev_c, ev_copGe, ev_ge, h1', decide_false, Bool.false_eq_true, if_false, ev_ofM]
      · obtain ⟨p, hp, hf⟩ := hlo.mp h1
        have := h.nn p hp
        omega
    · refine ⟨decide (0 < Sx.sm M w), runD_ok ?_, ⟨fun h => ⟨rfl, fun i hi => ?_, of_decide_eq_true h⟩, fun h => decide_eq_true h.pos⟩⟩
      · show b_weighs [.fz d, .fz (.int M)] = _
        unfold b_weighs
        have h1' : 0 ≤ lo := by omega
        simp only [ev_ret, va, ev_e2, ev_eA, ev_aCons, ev_vs, ev_v0f, ev_bok, ev_rfz, ev_aNil, hd.len, rowD_len, ev_pok, ev_copEq, ev_eqI, decide_true, ev_asB, if_true, e, ev_c, ev_copGe, ev_ge, h1', hd.sum, ev_copGt, ev_gt, ev_ofM]
      · exact Int.not_lt.mp fun h => h1 (hlo.mpr ⟨i, hi, h⟩)
  · refine ⟨false, runD_ok ?_, ⟨fun h => by simp at h, fun h' => absurd h'.len h⟩⟩
    show b_weighs [.fz d, .fz (.int m)] = _
    unfold b_weighs
    have h' : ¬ (M : Int) = (m : Int) := by omega
    simp only [ev_ret, va, ev_e2, ev_eA, ev_aCons, ev_vs, ev_v0f, ev_bok, ev_rfz, ev_aNil, hd.len, rowD_len, ev_pok, ev_copEq, ev_eqI, h', decide_false, ev_asB, Bool.false_eq_true, if_false, ev_ofM]
theorem toBls_map {n : Nat} {b : Nat → Bool} : toBls ((List.range n).map fun i => D.bl (b i)) = some ((List.range n).map b) := by
  induction List.range n with
  | nil => rfl
  | cons x xs ih => simp [toBls, ih]
theorem mul_le_iff {a b k : Int} (hk : 0 < k) : a * k ≤ b * k ↔ a ≤ b := ⟨fun h => Int.le_of_mul_le_mul_right h hk, fun h => Int.mul_le_mul_of_nonneg_right h (by omega)⟩
section
variable {R N m : Nat} {W A : Nat → Nat → Int} {v0 v1 : Int} {wt sh : Nat → Int}
/-- what act k gains under the lot's chance c -/
def Reach (R N m : Nat) (W A : Nat → Nat → Int) (v0 v1 : Int) (wt : Nat → Int) : Prop := ∀ c, c < R → v0 * Sx.sm m wt * Sx.sm N (W c) ≤ dotF m wt (fun k => dotF N (W c) (A k)) * v1
def WithinM (R N m : Nat) (W A : Nat → Nat → Int) (v0 v1 : Int) (sh : Nat → Int) (M : Int) (g : Nat → Int) : Prop := ∀ k, k < m → Sx.sm R (fun c => sh c * dotF N (W c) (A k) * g c) * v1 ≤ v0 * M * Sx.sm R sh
theorem within_same {M M' : Int} {g g' : Nat → Int} (hM : 0 < M) (hM' : 0 < M') (hS : ∀ c, c < R → 0 < Sx.sm N (W c)) (h : ∀ c, c < R → g c * Sx.sm N (W c) = M) (h' : ∀ c, c < R → g' c * Sx.sm N (W c) = M') (q : WithinM R N m W A v0 v1 sh M g) : WithinM R N m W A v0 v1 sh M' g' := fun k hk => by
  have e : ∀ c, c < R → g c * M' = g' c * M := fun c hc => by
    have s := hS c hc
    have e1 : g c * M' * Sx.sm N (W c) = g' c * M * Sx.sm N (W c) := by
      rw [← h c hc, ← h' c hc]; grind
    exact Int.eq_of_mul_eq_mul_right (by omega) e1
  have s : Sx.sm R (fun c => sh c * dotF N (W c) (A k) * g c) * M' = Sx.sm R (fun c => sh c * dotF N (W c) (A k) * g' c) * M := by
    rw [Int.mul_comm, Int.mul_comm (Sx.sm R (fun c => sh c * dotF N (W c) (A k) * g' c)), ← Sx.sm_mul, ← Sx.sm_mul]
    refine Sx.sm_congr fun c hc => ?_
    have := e c hc
    have a1 : M' * (sh c * dotF N (W c) (A k) * g c) = sh c * dotF N (W c) (A k) * (g c * M') := by grind
    have a2 : M * (sh c * dotF N (W c) (A k) * g' c) = sh c * dotF N (W c) (A k) * (g' c * M) := by grind
    rw [a1, a2, this]
  have q1 := q k hk
  refine (mul_le_iff hM).mp ?_
  have a1 : Sx.sm R (fun c => sh c * dotF N (W c) (A k) * g' c) * v1 * M = Sx.sm R (fun c => sh c * dotF N (W c) (A k) * g c) * v1 * M' := by
    have : Sx.sm R (fun c => sh c * dotF N (W c) (A k) * g' c) * v1 * M = Sx.sm R (fun c => sh c * dotF N (W c) (A k) * g' c) * M * v1 := by grind
    rw [this, ← s]; grind
  have a2 : v0 * M' * Sx.sm R sh * M = v0 * M * Sx.sm R sh * M' := by grind
  rw [a1, a2]
  exact (mul_le_iff hM').mpr q1
/-- of sizes with which nothing breaks -/
structure MxSz (R N m : Nat) (W A : Nat → Nat → Int) : Prop where
  r1 : 1 ≤ R
  rR : R < 30
  m1 : 1 ≤ m
  m5 : m ≤ 5
  nN : N < 30
  n1 : 1 ≤ N
  w0 : ∀ c, c < R → ∀ i, i < N → 0 ≤ W c i
  wp : ∀ c, c < R → 0 < Sx.sm N (W c)
  wb : ∀ c, c < R → ∀ i, i < N → Bd 10 (W c i)
  ab : ∀ k, k < m → ∀ i, i < N → Bd 100 (A k i)
theorem dot_sub_swap (c : Nat) : dotF N (W c) (fun i => dotF m wt fun k => A k i) = dotF m wt (fun k => dotF N (W c) (A k)) := by
  have h := dot_swap m N wt A (W c)
  rw [dot_comm N (W c), ← h]
  exact Sx.sm_congr fun k _ => by show wt k * dotF N (A k) (W c) = wt k * dotF N (W c) (A k); rw [dot_comm]
def smC1 : DL.Env → DL.M Rs := (eLc [7] (iE oZipN (eVar 1)) (nName 7) tYesD (eA (oCal 2 m_dot) (aCons (eVar 3) (aCons (eVar 7) aNil))))
def smC2 : DL.Env → DL.M Rs := (eLc [8] (iE iterA (eVar 1)) (nName 8) tYesD (e2 (cop .LtE) (eA (oCal 2 m_compare) (aCons (eA (oCal 2 m_mean) (aCons (eVar 6) (aCons (eVar 8) aNil))) (aCons (eVar 2) aNil))) (eC (.int 0))))
def smR2 : DL.Env → DL.So := (sSeq (sIf [0, 5, 2, 3] (tV (e2 (cop .Lt) (eA (oCal 2 m_compare) (aCons (eA (oCal 2 m_worst) (aCons (eVar 0) (aCons (eVar 5) aNil))) (aCons (eA (oCal 2 m_multiply) (aCons (eVar 2) (aCons (eA oTupD (aCons (eA oSum (aCons (eVar 3) aNil)) (aCons (eC (.int 1)) aNil))) aNil))) aNil))) (eC (.int 0)))) (sRet [] (eC (.bl false))) sNext) (sSeq (sSet 6 [0, 4] (eA (oCal 2 m_mix) (aCons (eVar 0) (aCons (eVar 4) aNil)))) (sRet (List.range 64) (eA oAll (aCons smC2 aNil)))))
theorem says_shows_mixture {Mw Ms : Nat} {c c' : List DL.D → DL.D} {dl da dw ds : DL.D} (z : MxSz R N m W A) (hc : ∀ ds, Sq (c ds) ds) (hc' : ∀ ds, Sq (c' ds) ds) (hl : Sq dl (rowsC c R N W)) (ha : Sq da (rowsC c' m N A)) (hw : Sq dw (rowD Mw wt)) (hs : Sq ds (rowD Ms sh))
    (hv : 0 < v1) (bv0 : Bd 900 v0) (bv1 : Bd 900 v1) (bw : ∀ i, i < Mw → Bd 900 (wt i)) (bs : ∀ i, i < Ms → Bd 900 (sh i)) :
    Says (m_shows_mixture [dl, da, fr v0 v1, dw, ds]) (Wt Mw m wt ∧ Wt Ms R sh ∧ Reach R N m W A v0 v1 wt ∧ WithinM R N m W A v0 v1 sh (lc (fun c => Sx.sm N (W c)) R : Nat) (fun c => ((lc (fun c => Sx.sm N (W c)) R : Nat) : Int).fdiv (Sx.sm N (W c)))) := by
  have hb : b_shows_mixture = (sSeq (sIf [3, 1, 4, 0] (tO (tN (tV (eA (oCal 2 m_weighs) (aCons (eVar 3) (aCons (eA oLen (aCons (eVar 1) aNil)) aNil))))) (tN (tV (eA (oCal 2 m_weighs) (aCons (eVar 4) (aCons (eA oLen (aCons (eVar 0) aNil)) aNil)))))) (sRet [] (eC (.bl false))) sNext) (sSeq (sSet 5 (List.range 64) smC1) smR2)) := rfl
  have fals : ∀ {P : Prop}, ¬ P → (false = true ↔ P) := fun h => ⟨fun h' => (by cases h'), fun h' => absurd h' h⟩
  obtain ⟨b1, e1, i1⟩ := weighs_says z.m1 hw
  obtain ⟨b2, e2, i2⟩ := weighs_says z.r1 hs
  have la : oLen [da] = .ok (.fz (.int m)) := by rw [ha.len, rowsC_len]
  have ll : oLen [dl] = .ok (.fz (.int R)) := by rw [hl.len, rowsC_len]
  by_cases h1 : Wt Mw m wt
  · by_cases h2 : Wt Ms R sh
    · have hb1 : b1 = true := i1.mpr h1
      have hb2 : b2 = true := i2.mpr h2
      subst hb1 hb2
      obtain rfl := h1.len
      obtain rfl := h2.len.symm
      have rR := z.rR
      have nN := z.nN
      have m5 := z.m5
      have start : b_shows_mixture (startE 9 [dl, da, fr v0 v1, dw, ds]) = smR2 [.fz dl, .fz da, .fz (fr v0 v1), .fz dw, .fz ds, .ow (rowD N fun i => dotF Mw wt fun k => A k i), .un, .un, .un] := by
        have cv : smC1 [.fz dl, .fz da, .fz (fr v0 v1), .fz dw, .fz ds, .un, .un, .un, .un] = .ok (.ow (rowD N fun i => dotF Mw wt fun k => A k i)) := by
          refine ev_lc (ds := rowsC .tup N Mw fun i k => A k i) (by simp) (by simp [cols_is hc' z.m1 z.m5 ha]) ?_ (.inr (by simp; omega))
          refine lcL_map (List.range N) _ (fun i => .int (dotF Mw wt fun k => A k i)) fun i hi => ?_
          have hi := List.mem_range.mp hi
          have dv := says_dotM (show Mw < 1000000 by omega) hw (Sq.t (rowD Mw fun k => A k i)) fun k hk => mul_small ((bw k hk).sml (by omega)) ((z.ab k hk i hi).sml (by omega))
          refine ⟨_, .fz (.int (dotF Mw wt fun k => A k i)), rfl, rfl, ?_, rfl⟩
          simp [wipeE, oCal, dv]
        rw [hb]
        show sSeq _ _ [.fz dl, .fz da, .fz (fr v0 v1), .fz dw, .fz ds, .un, .un, .un, .un] = _
        simp only [ev_seq, ev_if, ev_tO, ev_tN, ev_tV, ev_eA, ev_aCons, ev_vs, ev_v0f, ev_bok, ev_rfz, ev_aNil, la, ll, ev_pok, oCal, List.length_cons, List.length_nil, if_true, e1, e2, ev_asB, Bool.not_true, Bool.false_eq_true, if_false, ev_ofM, ev_next, ev_tn, ev_set, cv, ev_frzRow, ev_sow, List.set]
      have tb : ∀ i, i < N → Bd 1005 (dotF Mw wt fun k => A k i) := fun i hi => (dot_bd bw (fun k hk => z.ab k hk i hi) (by omega)).up (by omega)
      obtain ⟨p, q, ew, q0, pb, qb, ⟨j, hj, ej⟩, hmin⟩ := worst_is hc z.r1 (by omega) nN hl (Sq.l (rowD N fun i => dotF Mw wt fun k => A k i)) z.wp (fun k hk i hi => (z.wb k hk i hi).up (by omega)) (fun i hi => (tb i hi).up (by omega))
      have swb : Bd 905 (Sx.sm Mw wt) := sm_bd bw (by omega)
      obtain ⟨m0, m1', em, hmr⟩ := multiply_is (a := v0) (b := v1) (c := Sx.sm Mw wt) (d := 1) hv (by decide) (bv0.up (by omega)) (bv1.up (by omega)) (swb.up (by omega)) (bd_lit (by decide +kernel) (by decide +kernel))
      have m0b : Bd 1805 m0 := bd_le hmr.pa (bv0.mul swb)
      have m1b : Bd 901 m1' := bd_le hmr.qa (by have : v1 * 1 = v1 := Int.mul_one _; rw [this]; exact bv1.up (by omega))
      obtain ⟨cc, ec, c1, c2⟩ := compare_is (p := p) (q := q) (r := m0) (s := m1') (pb.sml (by omega)) (qb.sml (by omega)) (m0b.sml (by omega)) (m1b.sml (by omega))
      have meq : m0 * v1 = v0 * Sx.sm Mw wt * m1' := by have := hmr.eq; rwa [Int.mul_one] at this
      have m1p := hmr.q0
      have reach_iff : ¬ cc < 0 ↔ Reach R N Mw W A v0 v1 wt := by
        rw [c1]
        constructor
        · intro h k hk
          have hle : m0 * q ≤ p * m1' := Int.not_lt.mp h
          have hk2 := hmin k hk
          rw [dot_sub_swap] at hk2
          have sp := z.wp k hk
          have s1 : m0 * q * v1 ≤ p * m1' * v1 := Int.mul_le_mul_of_nonneg_right hle (by omega)
          have s2 : m0 * q * v1 = v0 * Sx.sm Mw wt * q * m1' := by
            have : m0 * q * v1 = m0 * v1 * q := by grind
            rw [this, meq]; grind
          have s3 : v0 * Sx.sm Mw wt * q ≤ p * v1 := (mul_le_iff m1p).mp (by
            have : p * v1 * m1' = p * m1' * v1 := by grind
            rw [this, ← s2]; exact s1)
          refine (mul_le_iff q0).mp ?_
          have t1 : v0 * Sx.sm Mw wt * q * Sx.sm N (W k) ≤ p * v1 * Sx.sm N (W k) := Int.mul_le_mul_of_nonneg_right s3 (by omega)
          have t2 : p * Sx.sm N (W k) * v1 ≤ dotF Mw wt (fun k' => dotF N (W k) (A k')) * q * v1 := Int.mul_le_mul_of_nonneg_right hk2 (by omega)
          have u1 : v0 * Sx.sm Mw wt * Sx.sm N (W k) * q = v0 * Sx.sm Mw wt * q * Sx.sm N (W k) := by grind
          have u2 : p * v1 * Sx.sm N (W k) = p * Sx.sm N (W k) * v1 := by grind
          have u3 : dotF Mw wt (fun k' => dotF N (W k) (A k')) * v1 * q = dotF Mw wt (fun k' => dotF N (W k) (A k')) * q * v1 := by grind
          omega
        · intro h hlt
          have hj2 := h j hj
          rw [dot_sub_swap] at ej
          have sp := z.wp j hj
          have e0 : m0 * q * (v1 * Sx.sm N (W j)) ≤ p * m1' * (v1 * Sx.sm N (W j)) := by
            have a1 : m0 * q * (v1 * Sx.sm N (W j)) = v0 * Sx.sm Mw wt * Sx.sm N (W j) * (q * m1') := by
              have : m0 * q * (v1 * Sx.sm N (W j)) = m0 * v1 * (q * Sx.sm N (W j)) := by grind
              rw [this, meq]; grind
            have a2 : p * m1' * (v1 * Sx.sm N (W j)) = dotF Mw wt (fun k' => dotF N (W j) (A k')) * v1 * (q * m1') := by
              have : p * m1' * (v1 * Sx.sm N (W j)) = p * Sx.sm N (W j) * (v1 * m1') := by grind
              rw [this, ej]; grind
            rw [a1, a2]
            exact Int.mul_le_mul_of_nonneg_right hj2 (Int.le_of_lt (Int.mul_pos q0 m1p))
          have := (mul_le_iff (Int.mul_pos hv sp)).mp e0
          omega
      have Sm : ∀ k, k < R → Bd 15 (Sx.sm N (W k)) := fun k hk => sm_bd (z.wb k hk) (by omega)
      have mx := mix_is (c := c) (sh := sh) hc z.r1 rR nN hl hs z.wp z.wb Sm fun k hk => (bs k hk).up (by omega)
      generalize ht : (fun i => Sx.sm R fun k => mF (fun k => Sx.sm N (W k)) sh R k * W k i) = t at mx
      have Lpos : 0 < lc (fun k => Sx.sm N (W k)) R := lc_pos fun j hj => z.wp j hj
      generalize hL : lc (fun k => Sx.sm N (W k)) R = L at *
      have Fm : ∀ k, k < R → mF (fun k => Sx.sm N (W k)) sh R k * Sx.sm N (W k) = sh k * (L : Int) := fun k hk => by rw [← hL]; exact mF_mul (S := fun k => Sx.sm N (W k)) hk (z.wp k hk)
      have Fb : ∀ k, k < R → Bd 1500 (mF (fun k => Sx.sm N (W k)) sh R k) := fun k hk => by
        have hs := z.wp k hk
        have hLb : Bd 500 (L : Int) := by
          unfold Bd
          rw [Int.natAbs_natCast, ← hL]
          exact Nat.lt_of_lt_of_le (lc_bd (n := 15) Sm) (Nat.pow_le_pow_right (by omega) (by omega))
        refine bd_le (b := sh k * (L : Int)) ?_ (((bs k hk).mul hLb).up (by omega))
        rw [← Fm k hk, Int.natAbs_mul]
        exact Nat.le_mul_of_pos_right _ (by omega)
      have tsum : ∀ f : Nat → Int, dotF N t f = Sx.sm R fun k => mF (fun k => Sx.sm N (W k)) sh R k * dotF N (W k) f := fun f => by
        rw [← ht]
        have h := dot_swap R N (mF (fun k => Sx.sm N (W k)) sh R) W f
        exact h.symm
      have t1 : Sx.sm N t = L * Sx.sm R sh := by
        have h := tsum fun _ => 1
        have e1 : dotF N t (fun _ => 1) = Sx.sm N t := Sx.sm_congr fun i _ => Int.mul_one _
        rw [e1] at h
        rw [h, ← Sx.sm_mul]
        refine Sx.sm_congr fun k hk => ?_
        have e2 : dotF N (W k) (fun _ => 1) = Sx.sm N (W k) := Sx.sm_congr fun i _ => Int.mul_one _
        rw [e2, Fm k hk, Int.mul_comm]
      have tpos : 0 < Sx.sm N t := by rw [t1]; exact Int.mul_pos (by omega) h2.pos
      obtain ⟨g, g1, hg⟩ := low_eq (N := N) (f := t)
      have tb2 : ∀ i, i < N → Bd 1600 (t i) := fun i hi => by rw [← ht]; exact (sm_bd (n := 1510) (fun k hk => (Fb k hk).mul (z.wb k hk i hi)) (by omega)).up (by omega)
      have lb : ∀ i, i < N → Bd 1600 (lowF N t i) := fun i hi => bd_le (low_abs hi) (tb2 i hi)
      have lsum : ∀ f, dotF N t f = g * dotF N (lowF N t) f := fun f => dot_scale' hg
      have ls : Sx.sm N t = g * Sx.sm N (lowF N t) := by
        rw [← Sx.sm_mul]; exact Sx.sm_congr fun i hi => hg i hi
      have lpos : 0 < Sx.sm N (lowF N t) := by
        refine Classical.byContradiction fun hc => ?_
        have := Int.mul_nonpos_of_nonneg_of_nonpos (show (0 : Int) ≤ g by omega) (show Sx.sm N (lowF N t) ≤ 0 by omega)
        omega
      have : ∀ k, ∃ x : Int, k < Mw → ∃ dm, m_mean [.tup (rowD N (lowF N t)), c' (rowD N (A k))] = .ok (.fz dm) ∧ m_compare [dm, fr v0 v1] = .ok (.fz (.int x)) ∧ (x ≤ 0 ↔ dotF N t (A k) * v1 ≤ v0 * (L * Sx.sm R sh)) := fun k => by
        by_cases hk : k < Mw
        · obtain ⟨p, q, e, h⟩ := mean_is nN (Sq.t (rowD N (lowF N t))) (hc' (rowD N (A k))) lpos (fun i hi => (lb i hi).up (by omega)) fun i hi => (z.ab k hk i hi).up (by omega)
          have pb : Bd 1705 p := bd_le h.pa (dot_bd lb (z.ab k hk) (by omega))
          have qb : Bd 1605 q := bd_le h.qa (sm_bd lb (by omega))
          obtain ⟨x, ex, x1, x2⟩ := compare_is (p := p) (q := q) (r := v0) (s := v1) (pb.sml (by omega)) (qb.sml (by omega)) (bv0.sml (by omega)) (bv1.sml (by omega))
          refine ⟨x, fun _ => ⟨_, e, ex, x2.trans ?_⟩⟩
          have q0 := h.q0
          have hh := h.eq
          rw [← t1, ls, lsum]
          have a1 : p * v1 * Sx.sm N (lowF N t) = dotF N (lowF N t) (A k) * v1 * q := by
            have : p * v1 * Sx.sm N (lowF N t) = p * Sx.sm N (lowF N t) * v1 := by grind
            rw [this, hh]; grind
          have a2 : v0 * q * Sx.sm N (lowF N t) = v0 * Sx.sm N (lowF N t) * q := by grind
          rw [← mul_le_iff lpos, a1, a2, mul_le_iff q0, ← mul_le_iff (show (0 : Int) < g by omega)]
          have a3 : dotF N (lowF N t) (A k) * v1 * g = g * dotF N (lowF N t) (A k) * v1 := by grind
          have a4 : v0 * Sx.sm N (lowF N t) * g = v0 * (g * Sx.sm N (lowF N t)) := by grind
          rw [a3, a4]
        · exact ⟨0, fun h => absurd h hk⟩
      obtain ⟨F, hF⟩ := Classical.axiomOfChoice this
      have fin : (cc < 0 → smR2 [.fz dl, .fz da, .fz (fr v0 v1), .fz dw, .fz ds, .ow (rowD N fun i => dotF Mw wt fun k => A k i), .un, .un, .un] = .rt (.fz (.bl false))) ∧ (¬ cc < 0 → smR2 [.fz dl, .fz da, .fz (fr v0 v1), .fz dw, .fz ds, .ow (rowD N fun i => dotF Mw wt fun k => A k i), .un, .un, .un] = .rt (.fz (.bl (((List.range Mw).map fun k => decide (F k ≤ 0)).all id)))) := by
        have tu : oTupD [.int (Sx.sm Mw wt), .int 1] = .ok (.fz (fr (Sx.sm Mw wt) 1)) := tup_2 _ _
        have cv : smC2 [.fz dl, .fz da, .fz (fr v0 v1), .fz dw, .fz ds, .ow (rowD N fun i => dotF Mw wt fun k => A k i), .fz (.tup (rowD N (lowF N t))), .un, .un] = .ok (.ow ((List.range Mw).map fun k => D.bl (decide (F k ≤ 0)))) := by
          refine ev_lc (ds := rowsC c' Mw N A) (by simp) (by simp [ha.iter]) ?_ (.inr (by simp; omega))
          refine lcL_map (List.range Mw) _ (fun k => .bl (decide (F k ≤ 0))) fun k hk => ?_
          obtain ⟨dm, x1, x2, _⟩ := hF k (List.mem_range.mp hk)
          refine ⟨_, .fz (.bl (decide (F k ≤ 0))), rfl, rfl, ?_, rfl⟩
          simp [wipeE, oCal, x1, x2]
        have al : oAll [.lst ((List.range Mw).map fun k => D.bl (decide (F k ≤ 0)))] = .ok (.fz (.bl (((List.range Mw).map fun k => decide (F k ≤ 0)).all id))) := by
          show (match toBls _ with | some bs => DL.M.ok (Rs.fz (.bl (bs.all id))) | none => .bad) = _
          rw [toBls_map]
        have fzT : ∀ (A : List Nat) (env : DL.Env), frzIf (.fz (.tup (rowD N (lowF N t)))) A env = env := fun A env => by
          unfold frzIf
          rw [if_pos (by show D.nolAll (rowD N (lowF N t)) = true; exact nol_row)]
        constructor
        · intro h
          unfold smR2
          simp only [ev_seq, ev_if, ev_tV, ev_e2, ev_eA, ev_aCons, ev_vs, ev_v0f, ev_v0o, ev_bok, ev_rfz, ev_row, ev_aNil, oCal, List.length_cons, List.length_nil, if_true, ew, ev_pok, hw.sum, ev_c, tu, em, ec, ev_copLt, ev_lt, ev_asB, h, decide_true, ev_ofM, ev_ret, ev_tr]
        · intro h
          unfold smR2
          simp only [ev_seq, ev_if, ev_tV, ev_e2, ev_eA, ev_aCons, ev_vs, ev_v0f, ev_v0o, ev_bok, ev_rfz, ev_row, ev_aNil, oCal, List.length_cons, List.length_nil, if_true, ew, ev_pok, hw.sum, ev_c, tu, em, ec, ev_copLt, ev_lt, ev_asB, h, decide_false, Bool.false_eq_true, if_false, ev_ofM, ev_next, ev_tn, ev_set, mx, fzT, List.set, ev_sfz, ev_ret, cv, al]
      by_cases hcc : cc < 0
      · exact ⟨false, runD_ok (by rw [start]; exact fin.1 hcc), fals fun h => reach_iff.mpr h.2.2.1 hcc⟩
      · refine ⟨_, runD_ok (by rw [start]; exact fin.2 hcc), ?_⟩
        have all_iff : ((List.range Mw).map fun k => decide (F k ≤ 0)).all id = true ↔ ∀ k, k < Mw → F k ≤ 0 := by
          simp [List.all_eq_true]
        rw [all_iff]
        have key : ∀ k, k < Mw → (F k ≤ 0 ↔ Sx.sm R (fun c => sh c * dotF N (W c) (A k) * (L : Int).fdiv (Sx.sm N (W c))) * v1 ≤ v0 * L * Sx.sm R sh) := fun k hk => by
          obtain ⟨dm, _, _, x3⟩ := hF k hk
          rw [x3, tsum, Int.mul_assoc v0]
          have : (Sx.sm R fun c => mF (fun k => Sx.sm N (W k)) sh R c * dotF N (W c) (A k)) = Sx.sm R (fun c => sh c * dotF N (W c) (A k) * (L : Int).fdiv (Sx.sm N (W c))) := Sx.sm_congr fun c _ => by
            show sh c * ((lc (fun k => Sx.sm N (W k)) R : Nat) : Int).fdiv (Sx.sm N (W c)) * dotF N (W c) (A k) = _
            rw [hL]; grind
          rw [this]
        exact ⟨fun h => ⟨h1, h2, reach_iff.mp hcc, fun k hk => (key k hk).mp (h k hk)⟩, fun h k hk => (key k hk).mpr (h.2.2.2 k hk)⟩
    · have hb1 : b1 = true := i1.mpr h1
      have hb2 : b2 = false := by cases b2 with | false => rfl | true => exact absurd (i2.mp rfl) h2
      subst hb1 hb2
      refine ⟨false, runD_ok ?_, fals fun h => h2 h.2.1⟩
      rw [hb]
      show sSeq _ _ [.fz dl, .fz da, .fz (fr v0 v1), .fz dw, .fz ds, .un, .un, .un, .un] = _
      simp only [ev_seq, ev_if, ev_tO, ev_tN, ev_tV, ev_eA, ev_aCons, ev_vs, ev_v0f, ev_bok, ev_rfz, ev_aNil, la, ll, ev_pok, oCal, List.length_cons, List.length_nil, if_true, e1, e2, ev_asB, Bool.not_true, Bool.not_false, Bool.false_eq_true, if_false, ev_ofM, ev_ret, ev_c, ev_tr]
  · have hb1 : b1 = false := by cases b1 with | false => rfl | true => exact absurd (i1.mp rfl) h1
    subst hb1
    refine ⟨false, runD_ok ?_, fals fun h => h1 h.1⟩
    rw [hb]
    show sSeq _ _ [.fz dl, .fz da, .fz (fr v0 v1), .fz dw, .fz ds, .un, .un, .un, .un] = _
    simp only [ev_seq, ev_if, ev_tO, ev_tN, ev_tV, ev_eA, ev_aCons, ev_vs, ev_v0f, ev_bok, ev_rfz, ev_aNil, la, ll, ev_pok, oCal, List.length_cons, List.length_nil, if_true, e1, ev_asB, Bool.not_false, ev_ofM, ev_ret, ev_c, ev_tr]
end
end PG
end

section
set_option maxRecDepth 100000
set_option maxHeartbeats 1000000
/-! best_mixture. -/
namespace PG
open L2 DL LW
theorem m_lowS {N : Nat} {f : Nat → Int} {d : DL.D} (hN : N < 1000000) (hd : Sq d (rowD N f)) (hf : ∀ i, i < N → (f i).natAbs.log2 < 9000) : m_lowest [d] = .ok (.fz (.tup (rowD N (lowF N f)))) := by
  rcases hd with rfl | rfl
  · exact m_low hN hf
  refine runD_ok ?_
  have hb : b_lowest = (sSeq (sSet 1 [] (eC (.int 0))) (sSeq (sFor [0] (iE iterA (eVar 0)) (nName 2) gBody) (sSeq (sIf [1] (tV (e2 (cop .Lt) (eVar 1) (eC (.int 2)))) (sRet [0] (eA oTuple (aCons (eVar 0) aNil))) sNext) (sRet (List.range 64) (eA oTuple (aCons (eLc [2] (iE iterA (eVar 0)) (nName 2) tYesD (e2 oDiv (eVar 2) (eVar 1))) aNil)))))) := rfl
  obtain ⟨e, h1, o2, rfl⟩ := forL_nx (t := nName 2) (body := gBody) (ds := rowD N f) (env := [.fz (.tup (rowD N f)), .fz (.int 0), .un]) (fun k e => ∃ o2, e = [.fz (.tup (rowD N f)), .fz (.int (gcdN f k)), o2]) ⟨_, rfl⟩ (by
    rintro i d e hd ⟨o2, rfl⟩
    obtain ⟨hi, rfl⟩ := rowD_at hd
    refine ⟨_, rfl, _, .inl rfl, .fz (.int (f i)), ?_⟩
    rfl)
  simp only [rowD_len] at h1
  have ht : ∀ ds : List DL.D, oTuple [.tup ds] = .ok (.fz (.tup ds)) := fun _ => rfl
  have ht2 : ∀ ds : List DL.D, oTuple [.lst ds] = .ok (.fz (.tup ds)) := fun _ => rfl
  rw [hb]
  by_cases h : gcdN f N < 2
  · have h' : ((gcdN f N : Nat) : Int) < 2 := by omega
    have e : lowF N f = f := by simp [lowF, h]
    simp [startE, h1, h', ht, e]
  · have h' : ¬ ((gcdN f N : Nat) : Int) < 2 := by omega
    have hs : ((gcdN f N : Nat) : Int).natAbs.log2 < 9000 := by
      obtain ⟨i, hi, hne⟩ : ∃ i, i < N ∧ (f i).natAbs ≠ 0 := by
        refine Classical.byContradiction fun hc => h ?_
        have : gcdN f N ∣ 0 := Nat.dvd_zero _
        have z : 0 ∣ gcdN f N := dvd_gcdN fun i hi => by
          have : (f i).natAbs = 0 := Classical.byContradiction fun hn => hc ⟨i, hi, hn⟩
          rw [this]; exact Nat.dvd_refl 0
        have := Nat.eq_zero_of_zero_dvd z
        omega
      have le := Nat.le_of_dvd (by omega) (gcd_dvd (f := f) hi)
      exact small_of (K := 0) (N := (f i).natAbs) (by simpa using le) (hf i hi)
    have hl : ∀ o2 : DL.Sl, eLc [2] (iE iterA (eVar 0)) (nName 2) tYesD (e2 oDiv (eVar 2) (eVar 1)) [.fz (.tup (rowD N f)), .fz (.int (gcdN f N)), o2] = .ok (.ow (rowD N (lowF N f))) := by
      intro o2
      refine ev_lc (ds := rowD N f) (by simp) (by simp) ?_ (.inr (by simpa using hN))
      refine lcL_map (List.range N) _ (fun k => .int (lowF N f k)) fun k hk => ?_
      refine ⟨_, .fz (.int (lowF N f k)), rfl, rfl, ?_, rfl⟩
      have hne : ((gcdN f N : Nat) : Int) ≠ 0 := by omega
      have e : lowF N f k = (f k).fdiv (gcdN f N) := by simp [lowF, h]
      simp [wipeE, div_ok hne hs, e]
    simp [startE, h1, h', ht2, hl]
theorem min_v {d : DL.D} {N : Nat} {f : Nat → Int} (hN : 1 ≤ N) (h : Sq d (rowD N f)) : ∃ p, p < N ∧ oMin [d] = .ok (.fz (.int (f p))) ∧ ∀ i, i < N → f p ≤ f i := by
  have h0 : (List.range N).map f ≠ [] := by
    intro h
    have : N = 0 := by simpa using h
    omega
  obtain ⟨p, hp, e⟩ := List.mem_map.mp (minI_mem h0)
  refine ⟨p, List.mem_range.mp hp, ?_, fun i hi => ?_⟩
  · have e1 : oMin1 [d] = .ok (.fz (.int (minI ((List.range N).map f)))) := by
      show ofInts _ d = _
      rw [h.ints, toInts_row]
      simp only
      rw [if_neg h0]
    show DL.orM (oMin1 [d]) (oMin2 [d]) = _
    rw [e1, e]; rfl
  · rw [e]
    exact minI_le (ns := (List.range N).map f) (f i) (List.mem_map.mpr ⟨i, List.mem_range.mpr hi, rfl⟩)
theorem reps {n : Nat} (x : Int) (h : n < 1000000) : oMul (.lst [.int x]) (.int n) = .ok (.ow (rowD n fun _ => x)) := by
  have h3 : ([DL.D.int x] : List DL.D).length * (n : Int).toNat ≤ PySem.sizeLine := by
    have := sz
    simp; omega
  have e : (List.replicate (n : Int).toNat [DL.D.int x]).flatten = rowD n fun _ => x := by
    simp [rowD, List.map_const']
  show (if ([DL.D.int x] : List DL.D).length * (n : Int).toNat ≤ PySem.sizeLine ∧ (n : Int) < 2 ^ 63 ∧ -(2 ^ 63) ≤ (n : Int) then DL.M.ok (Rs.ow (List.replicate (n : Int).toNat [DL.D.int x]).flatten) else .bad) = _
  rw [if_pos ⟨h3, by omega, by omega⟩, e]
theorem rowsI_push {R N : Nat} {W : Nat → Nat → Int} {g : Nat → Int} {c : List DL.D → DL.D} : rowsI R N W g c ++ [D.tup [c (rowD N (W R)), .int (g R)]] = rowsI (R + 1) N W g c := by
  simp [rowsI, List.range_succ]
section
variable {R N m : Nat} {W A : Nat → Nat → Int}
structure MixIs (R N m : Nat) (W A : Nat → Nat → Int) (p q : Int) (wt sh : Nat → Int) : Prop where
  q0 : 0 < q
  one : Nat.gcd p.natAbs q.natAbs = 1
  bp : Bd 890 p
  bq : Bd 890 q
  w1 : gcdN wt m < 2
  s1 : gcdN sh R < 2
  bw : ∀ k, k < m → Bd 890 (wt k)
  bs : ∀ k, k < R → Bd 890 (sh k)
  wtk : Wt m m wt
  shk : Wt R R sh
  reach : Reach R N m W A p q wt
  within : ∀ (M : Int) (g : Nat → Int), 0 < M → (∀ c, c < R → g c * Sx.sm N (W c) = M) → WithinM R N m W A p q sh M g
theorem sm_pos {n : Nat} {f : Nat → Int} (h : ∀ i, i < n → 0 ≤ f i) {i : Nat} (hi : i < n) (hp : 0 < f i) : 0 < Sx.sm n f := by
  rw [Sx.sm_split i hi]
  have : 0 ≤ Sx.sm n (fun j => if j = i then 0 else f j) := Sx.sm_nonneg fun j hj => by
    split
    · omega
    · exact h j hj
  omega
theorem low_sm {n : Nat} {f : Nat → Int} : ∃ g : Nat, 1 ≤ g ∧ (∀ i, i < n → f i = g * lowF n f i) ∧ Sx.sm n f = g * Sx.sm n (lowF n f) := by
  obtain ⟨g, hg, e⟩ := low_eq (N := n) (f := f)
  exact ⟨g, hg, e, by rw [← Sx.sm_mul]; exact Sx.sm_congr e⟩
/-- what an act gains, lifted above 0 -/
def liftB (N : Nat) (W A : Nat → Nat → Int) (z : Int) (c k : Nat) : Int := dotF N (W c) (A k) + z * Sx.sm N (W c)
theorem mix_plain {z s p q : Int} {y w : Nat → Int} (Z : MxSz R N m W A) (lift : ∀ k, k < m → ∀ i, i < N → 1 ≤ A k i + z) (bz : Bd 101 z) (L : Least R m (liftB N W A z) (fun c => Sx.sm N (W c)) (fun _ => 1) s y w)
    (bs : Bd 712 s) (by_ : ∀ k, k < m → Bd 712 (y k)) (bw : ∀ c, c < R → Bd 712 (w c)) (hr : 0 < Sx.sm m y → RatioIs (s - z * Sx.sm m y) (Sx.sm m y) p q) : 0 < Sx.sm m y ∧ MixIs R N m W A p q (lowF m y) (lowF R fun c => w c * Sx.sm N (W c)) := by
  have rR := Z.rR
  have m5 := Z.m5
  have n30 := Z.nN
  have S1 : ∀ c, c < R → 1 ≤ Sx.sm N (W c) := fun c hc => Z.wp c hc
  have Sb : ∀ c, c < R → Bd 15 (Sx.sm N (W c)) := fun c hc => sm_bd (Z.wb c hc) (by omega)
  have B1 : ∀ c, c < R → ∀ k, k < m → 1 ≤ liftB N W A z c k := fun c hc k hk => by
    have e : liftB N W A z c k = Sx.sm N fun i => W c i * (A k i + z) := by
      unfold liftB dotF
      rw [← Sx.sm_mul, ← Sx.sm_add]
      exact Sx.sm_congr fun i _ => by rw [Int.mul_add, Int.mul_comm z]
    have : Sx.sm N (W c) ≤ Sx.sm N fun i => W c i * (A k i + z) := Sx.sm_le fun i hi => by
      have := Int.mul_le_mul_of_nonneg_left (lift k hk i hi) (Z.w0 c hc i hi)
      omega
    have := S1 c hc
    omega
  have Y0 : 0 < Sx.sm m y := by
    have r := L.reach 0 (by have := Z.r1; omega)
    have p1 : 0 < Sx.sm N (W 0) * s := Int.mul_pos (by have := S1 0 (by have := Z.r1; omega); omega) (by have := L.s1; omega)
    obtain ⟨i, hi, _, hy⟩ := dot_ex (f := liftB N W A z 0) (g := y) (fun i hi => by have := B1 0 (by have := Z.r1; omega) i hi; omega) (Int.lt_of_lt_of_le p1 r)
    exact sm_pos L.ynn hi hy
  have hR := hr Y0
  have eY : Sx.sm m y = Sx.sm R fun c => w c * Sx.sm N (W c) := by
    have h := L.total
    have e1 : dotF m (fun _ => 1) y = Sx.sm m y := Sx.sm_congr fun i _ => Int.one_mul _
    rw [e1] at h
    exact h
  have hs1 := L.s1
  have Yb : Bd 717 (Sx.sm m y) := sm_bd by_ (by omega)
  have wSb : ∀ c, c < R → Bd 727 (w c * Sx.sm N (W c)) := fun c hc => (bw c hc).mul (Sb c hc)
  have wS0 : ∀ c, c < R → 0 ≤ w c * Sx.sm N (W c) := fun c hc => Int.mul_nonneg (L.wnn c hc) (by have := S1 c hc; omega)
  have q0 := hR.q0
  obtain ⟨g1, hg1, ge1, gs1⟩ := low_sm (n := m) (f := y)
  obtain ⟨g2, hg2, ge2, gs2⟩ := low_sm (n := R) (f := fun c => w c * Sx.sm N (W c))
  have pos1 : (0 : Int) < g1 := by omega
  have pos2 : (0 : Int) < g2 := by omega
  have lY : 0 < Sx.sm m (lowF m y) := by
    refine Classical.byContradiction fun hc => ?_
    have := Int.mul_nonpos_of_nonneg_of_nonpos (show (0 : Int) ≤ g1 by omega) (show Sx.sm m (lowF m y) ≤ 0 by omega)
    omega
  have lS : 0 < Sx.sm R (lowF R fun c => w c * Sx.sm N (W c)) := by
    refine Classical.byContradiction fun hc => ?_
    have := Int.mul_nonpos_of_nonneg_of_nonpos (show (0 : Int) ≤ g2 by omega) (show Sx.sm R (lowF R fun c => w c * Sx.sm N (W c)) ≤ 0 by omega)
    omega
  have pY : p * Sx.sm m y = (s - z * Sx.sm m y) * q := hR.eq
  refine ⟨Y0, q0, hR.one, ?_, ?_, low_gcd, low_gcd, fun k hk => (bd_le (low_abs hk) (by_ k hk)).up (by omega), fun k hk => (bd_le (low_abs hk) (wSb k hk)).up (by omega), ⟨rfl, fun i hi => low_pos hi (L.ynn i hi), lY⟩, ⟨rfl, fun i hi => low_pos hi (wS0 i hi), lS⟩, fun c hc => ?_, fun M g hM hg k hk => ?_⟩
  · exact (bd_le hR.pa (bs.sub (bz.mul Yb))).up (by omega)
  · exact (bd_le hR.qa Yb).up (by omega)
  · have r := L.reach c hc
    have eD : dotF m (liftB N W A z c) y = dotF m y (fun k => dotF N (W c) (A k)) + z * Sx.sm N (W c) * Sx.sm m y := by
      show Sx.sm m (fun k => liftB N W A z c k * y k) = Sx.sm m (fun k => y k * dotF N (W c) (A k)) + _
      rw [← Sx.sm_mul m (z * Sx.sm N (W c)) y, ← Sx.sm_add]
      refine Sx.sm_congr fun k _ => ?_
      show (dotF N (W c) (A k) + z * Sx.sm N (W c)) * y k = y k * dotF N (W c) (A k) + z * Sx.sm N (W c) * y k
      rw [Int.add_mul, Int.mul_comm (dotF N (W c) (A k))]
    rw [eD] at r
    have h1 : p * Sx.sm m y * Sx.sm N (W c) ≤ dotF m y (fun k => dotF N (W c) (A k)) * q := by
      have a1 : p * Sx.sm m y * Sx.sm N (W c) = (Sx.sm N (W c) * s - z * Sx.sm N (W c) * Sx.sm m y) * q := by rw [pY]; grind
      rw [a1]
      exact Int.mul_le_mul_of_nonneg_right (by omega) (by omega)
    refine (mul_le_iff pos1).mp ?_
    have a2 : p * Sx.sm m (lowF m y) * Sx.sm N (W c) * g1 = p * (g1 * Sx.sm m (lowF m y)) * Sx.sm N (W c) := by grind
    have a3 : dotF m (lowF m y) (fun k => dotF N (W c) (A k)) * q * g1 = g1 * dotF m (lowF m y) (fun k => dotF N (W c) (A k)) * q := by grind
    rw [a2, a3, ← gs1, ← dot_scale' ge1]
    exact h1
  · have win := L.within k hk
    have eD : dotF R w (fun c => liftB N W A z c k) = Sx.sm R (fun c => w c * dotF N (W c) (A k)) + z * Sx.sm m y := by
      rw [eY]
      show Sx.sm R (fun c => w c * liftB N W A z c k) = _
      rw [← Sx.sm_mul R z, ← Sx.sm_add]
      refine Sx.sm_congr fun c _ => ?_
      show w c * (dotF N (W c) (A k) + z * Sx.sm N (W c)) = w c * dotF N (W c) (A k) + z * (w c * Sx.sm N (W c))
      rw [Int.mul_add]; grind
    rw [eD, Int.one_mul] at win
    have h1 : Sx.sm R (fun c => w c * Sx.sm N (W c) * dotF N (W c) (A k) * g c) = M * Sx.sm R (fun c => w c * dotF N (W c) (A k)) := by
      rw [← Sx.sm_mul]
      refine Sx.sm_congr fun c hc => ?_
      rw [← hg c hc]; grind
    have h2 : Sx.sm R (fun c => w c * Sx.sm N (W c) * dotF N (W c) (A k) * g c) * q ≤ p * M * Sx.sm m y := by
      have a1 : p * M * Sx.sm m y = M * (s - z * Sx.sm m y) * q := by
        have : p * M * Sx.sm m y = M * (p * Sx.sm m y) := by grind
        rw [this, pY]; grind
      rw [h1, a1]
      refine Int.mul_le_mul_of_nonneg_right (Int.mul_le_mul_of_nonneg_left (by omega) (by omega)) (by omega)
    refine (mul_le_iff pos2).mp ?_
    have a1 : Sx.sm R (fun c => lowF R (fun c => w c * Sx.sm N (W c)) c * dotF N (W c) (A k) * g c) * q * g2 = Sx.sm R (fun c => w c * Sx.sm N (W c) * dotF N (W c) (A k) * g c) * q := by
      have : Sx.sm R (fun c => w c * Sx.sm N (W c) * dotF N (W c) (A k) * g c) = g2 * Sx.sm R (fun c => lowF R (fun c => w c * Sx.sm N (W c)) c * dotF N (W c) (A k) * g c) := by
        rw [← Sx.sm_mul]
        refine Sx.sm_congr fun c hc => ?_
        have h := ge2 c hc
        have h : w c * Sx.sm N (W c) = g2 * lowF R (fun c => w c * Sx.sm N (W c)) c := h
        rw [h]; grind
      rw [this]; grind
    have a2 : p * M * Sx.sm R (lowF R fun c => w c * Sx.sm N (W c)) * g2 = p * M * Sx.sm m y := by
      rw [eY, gs2]; grind
    rw [a1, a2]
    exact h2
end
end PG
end

section
set_option maxRecDepth 100000
set_option maxHeartbeats 1000000
/-! best_mixture evaluated. -/
namespace PG
open L2 DL LW
def bmC0 : DL.Env → DL.M Rs := (eLc [12] (iE iterA (eVar 1)) (nName 12) tYesD (eA oMin (aCons (eVar 12) aNil)))
def bmC1 : DL.Env → DL.M Rs := (eLc [12] (iE iterA (eVar 1)) (nName 12) tYesD (e2 oAdd (eA (oCal 2 m_dot) (aCons (eVar 4) (aCons (eVar 12) aNil))) (e2 oMul (eVar 2) (eVar 5))))
def bmC2 : DL.Env → DL.M Rs := (eLc [13, 4] (iA oZip (aCons (eVar 9) (aCons (eVar 0) aNil))) (nTup 2 (nCons (nName 13) (nCons (nName 4) nNil))) tYesD (e2 oMul (eVar 13) (eA oSum (aCons (eVar 4) aNil))))
def bmB : DL.Env → DL.So := (sSeq (sSet 5 [4] (eA oSum (aCons (eVar 4) aNil))) (sApp 3 [5] (eA oTupD (aCons (nlE bmC1) (aCons (eVar 5) aNil)))))
def bmE : DL.Env → DL.So := (sSeq (sSet 10 [7, 2, 8, 8] (eA (oCal 2 m_ratio) (aCons (e2 oSub (eVar 7) (e2 oMul (eVar 2) (eA oSum (aCons (eVar 8) aNil)))) (aCons (eA oSum (aCons (eVar 8) aNil)) aNil)))) (sSeq (sSet 11 (List.range 64) bmC2) (sRet [10, 8, 11] (eA oTupD (aCons (eVar 10) (aCons (eA (oCal 1 m_lowest) (aCons (eVar 8) aNil)) (aCons (eA (oCal 1 m_lowest) (aCons (eVar 11) aNil)) aNil)))))))
theorem frz_lt (x : List DL.D) (y : Int) (A : List Nat) (env : DL.Env) : frzIf (.fz (.tup [.lst x, .int y])) A env = fzAll A env := (rfl)
section
variable {R N m : Nat} {W A : Nat → Nat → Int} {c c' : List DL.D → DL.D} {dl da : DL.D}
theorem zip_rowsC {f : Nat → Int} : (rowD R f).zip (rowsC c R N W) = (List.range R).map fun k => (D.int (f k), c (rowD N (W k))) := by
  simp only [rowsC, rowD]
  induction List.range R with
  | nil => rfl
  | cons x xs ih => simp [ih]
theorem best_mixture_is (Z : MxSz R N m W A) (hc : ∀ ds, Sq (c ds) ds) (hc' : ∀ ds, Sq (c' ds) ds) (hl : Sq dl (rowsC c R N W)) (ha : Sq da (rowsC c' m N A)) :
    ∃ p q wt sh, m_best_mixture [dl, da] = .ok (.fz (.tup [fr p q, .tup (rowD m wt), .tup (rowD R sh)])) ∧ MixIs R N m W A p q wt sh := by
  have rR := Z.rR
  have m5 := Z.m5
  have m1 := Z.m1
  have n30 := Z.nN
  have hb : b_best_mixture = sSeq (sSet 2 (List.range 64) (e2 oSub (eC (.int 1)) (eA oMin (aCons bmC0 aNil)))) (sSeq (sSet 3 [] (eA oLstD aNil)) (sSeq (sFor [0] (iE iterA (eVar 0)) (nName 4) bmB) (sSeq (sAsg [1, 3, 1] (nTup 4 (nCons (nName 6) (nCons (nName 7) (nCons (nName 8) (nCons (nName 9) nNil))))) (eA (oCal 3 m_least) (aCons (e2 oMul (eA oLstD (aCons (eC (.int 1)) aNil)) (eA oLen (aCons (eVar 1) aNil))) (aCons (eVar 3) (aCons (eA oLen (aCons (eVar 1) aNil)) aNil))))) bmE))) := rfl
  have : ∀ k, ∃ p, k < m → p < N ∧ oMin [c' (rowD N (A k))] = .ok (.fz (.int (A k p))) ∧ ∀ i, i < N → A k p ≤ A k i := fun k => by
    by_cases hk : k < m
    · obtain ⟨p, h1, h2, h3⟩ := min_v (f := A k) Z.n1 (hc' _)
      exact ⟨p, fun _ => ⟨h1, h2, h3⟩⟩
    · exact ⟨0, fun h => absurd h hk⟩
  obtain ⟨mn, hmn⟩ := Classical.axiomOfChoice this
  have cv0 : bmC0 [.fz dl, .fz da, .un, .un, .un, .un, .un, .un, .un, .un, .un, .un, .un, .un] = .ok (.ow (rowD m fun k => A k (mn k))) := by
    refine ev_lc (ds := rowsC c' m N A) (by simp) (by simp [ha.iter]) ?_ (.inr (by simp; omega))
    refine lcL_map (List.range m) _ (fun k => .int (A k (mn k))) fun k hk => ?_
    refine ⟨_, .fz (.int (A k (mn k))), rfl, rfl, ?_, rfl⟩
    simp [wipeE, (hmn k (List.mem_range.mp hk)).2.1]
  obtain ⟨k0, hk0, e0, h0⟩ := min_v (f := fun k => A k (mn k)) m1 (Sq.l (rowD m fun k => A k (mn k)))
  generalize hz : 1 - A k0 (mn k0) = z
  have bz : Bd 101 z := by
    rw [← hz]
    have := Z.ab k0 hk0 (mn k0) (hmn k0 hk0).1
    exact (bd_lit (n := 1) (x := 1) (by decide) (by decide)).sub this |>.up (by decide)
  have lift : ∀ k, k < m → ∀ i, i < N → 1 ≤ A k i + z := fun k hk i hi => by
    have h1 := (hmn k hk).2.2 i hi
    have h2 := h0 k hk
    have h2 : A k0 (mn k0) ≤ A k (mn k) := h2
    omega
  have Sb : ∀ c, c < R → Bd 15 (Sx.sm N (W c)) := fun c hc => sm_bd (Z.wb c hc) (by omega)
  have Bb : ∀ c, c < R → ∀ k, k < m → Bd 117 (liftB N W A z c k) := fun c hc k hk => ((dot_bd (Z.wb c hc) (Z.ab k hk) (by omega)).add (bz.mul (Sb c hc))).up (by decide)
  obtain ⟨e, l1, o4, o5, rfl⟩ := forL_nx (t := nName 4) (body := bmB) (ds := rowsC c R N W) (env := [.fz dl, .fz da, .fz (.int z), .ow [], .un, .un, .un, .un, .un, .un, .un, .un, .un, .un])
    (fun k e => ∃ o4 o5, e = [.fz dl, .fz da, .fz (.int z), .ow (rowsI k m (liftB N W A z) (fun c => Sx.sm N (W c)) .lst), o4, o5, .un, .un, .un, .un, .un, .un, .un, .un]) ⟨_, _, rfl⟩ (by
    rintro i d e hd ⟨o4, o5, rfl⟩
    obtain ⟨hi, rfl⟩ := rowsC_at hd
    refine ⟨_, rfl, [.fz dl, .fz da, .fz (.int z), .ow (rowsI (i + 1) m (liftB N W A z) (fun c => Sx.sm N (W c)) .lst), .fz (c (rowD N (W i))), .fz (.int (Sx.sm N (W i))), .un, .un, .un, .un, .un, .un, .un, .un], .inl ?_, _, _, rfl⟩
    have cv : bmC1 [.fz dl, .fz da, .fz (.int z), .ow (rowsI i m (liftB N W A z) (fun c => Sx.sm N (W c)) .lst), .fz (c (rowD N (W i))), .fz (.int (Sx.sm N (W i))), .un, .un, .un, .un, .un, .un, .un, .un] = .ok (.ow (rowD m (liftB N W A z i))) := by
      refine ev_lc (ds := rowsC c' m N A) (by simp) (by simp [ha.iter]) ?_ (.inr (by simp; omega))
      refine lcL_map (List.range m) _ (fun k => .int (liftB N W A z i k)) fun k hk => ?_
      have hk := List.mem_range.mp hk
      refine ⟨_, .fz (.int (liftB N W A z i k)), rfl, rfl, ?_, rfl⟩
      have dv := says_dotM (show N < 1000000 by omega) (hc (rowD N (W i))) (hc' (rowD N (A k))) fun j hj => mul_small ((Z.wb i hi j hj).sml (by omega)) ((Z.ab k hk j hj).sml (by omega))
      simp [wipeE, oCal, dv, mul_ok (bz.sml (by omega)) ((Sb i hi).sml (by omega)), liftB]
    have nl := ev_nl cv (by show D.nolAll (rowD m (liftB N W A z i)) = true; exact nol_row)
    have hsz : (rowsI i m (liftB N W A z) (fun c => Sx.sm N (W c)) .lst).length < PySem.sizeLine := by have := sz; simp; omega
    unfold bmB
    simp only [List.set, ev_seq, ev_set, ev_eA, ev_aCons, ev_vs, ev_v0f, ev_bok, ev_rfz, ev_aNil, (hc _).sum, ev_pok, ev_ofM, ev_frzInt, ev_sfz, ev_tn, ev_app, ev_ownS, ev_own0, nl, ev_row, tup_2, frz_lt, ev_fzCons, ev_fzNil, List.getD_cons_zero, List.getD_cons_succ, ev_frzF, hsz, if_true]
    rw [← rowsI_push])
  rw [rowsC_len] at l1
  have hK : (Sx.fac (m + 1) * (2 ^ 117) ^ (m + 1)) < 2 ^ 712 := by
    have : m = 1 ∨ m = 2 ∨ m = 3 ∨ m = 4 ∨ m = 5 := by omega
    rcases this with h | h | h | h | h <;> (rw [h]; decide +kernel)
  have hKl : (Sx.fac (m + 1) * (2 ^ 117) ^ (m + 1)).log2 < 9000 := by
    by_cases h : Sx.fac (m + 1) * (2 ^ 117) ^ (m + 1) = 0
    · rw [h]; decide
    · have := (Nat.log2_lt h).mpr hK
      omega
  obtain ⟨d, el, hd⟩ := least_is (R := R) (N := m) (K := 2 ^ 117) (W := liftB N W A z) (g := fun c => Sx.sm N (W c)) (l := fun _ => 1) (c := .lst) (dg := .lst (rowD m fun _ => 1)) (fun _ => rfl) (Sq.l _) (by omega) (by omega) (by decide)
    (fun k hk i hi => Nat.le_of_lt (Bb k hk i hi)) (fun k hk => Nat.le_of_lt ((Sb k hk).up (by decide))) (fun _ _ => by decide) (fun _ _ => by decide) hKl
  have B1 : ∀ c, c < R → ∀ k, k < m → 1 ≤ liftB N W A z c k := fun c hc k hk => by
    have e : liftB N W A z c k = Sx.sm N fun i => W c i * (A k i + z) := by
      unfold liftB dotF
      rw [← Sx.sm_mul, ← Sx.sm_add]
      exact Sx.sm_congr fun i _ => by rw [Int.mul_add, Int.mul_comm z]
    have : Sx.sm N (W c) ≤ Sx.sm N fun i => W c i * (A k i + z) := Sx.sm_le fun i hi => by
      have := Int.mul_le_mul_of_nonneg_left (lift k hk i hi) (Z.w0 c hc i hi)
      omega
    have := Z.wp c hc
    omega
  cases hd with
  | none h _ _ => exact absurd h (misses_not (fun c hc k hk => by have := B1 c hc k hk; omega) fun c hc => sm_pos (fun k hk => by have := B1 c hc k hk; omega) (show 0 < m by omega) (by have := B1 c hc 0 (by omega); omega))
  | @least s y w L one bs by_ bw =>
    have bs' : Bd 712 s := Nat.lt_of_le_of_lt bs hK
    have by' : ∀ k, k < m → Bd 712 (y k) := fun k hk => Nat.lt_of_le_of_lt (by_ k hk) hK
    have bw' : ∀ k, k < R → Bd 712 (w k) := fun k hk => Nat.lt_of_le_of_lt (bw k hk) hK
    have Yb : Bd 717 (Sx.sm m y) := sm_bd by' (by omega)
    have Y0 : 0 < Sx.sm m y := by
      have r := L.reach 0 (by have := Z.r1; omega)
      have p1 : 0 < Sx.sm N (W 0) * s := Int.mul_pos (Z.wp 0 (by have := Z.r1; omega)) (by have := L.s1; omega)
      obtain ⟨i, hi, _, hy⟩ := dot_ex (f := liftB N W A z 0) (g := y) (fun i hi => by have := B1 0 (by have := Z.r1; omega) i hi; omega) (Int.lt_of_lt_of_le p1 r)
      exact sm_pos L.ynn hi hy
    obtain ⟨p, q, er, hr⟩ := ratio_is (a := s - z * Sx.sm m y) (b := Sx.sm m y) Y0 ((bs'.sub (bz.mul Yb)).sml (by decide)) (Yb.sml (by omega))
    obtain ⟨_, M⟩ := mix_plain Z lift bz L bs' by' bw' fun _ => hr
    refine ⟨p, q, _, _, runD_ok ?_, M⟩
    have l1d : oLstD [.int 1] = .ok (.ow [.int 1]) := lst_ok (by simp)
    have l0d : oLstD [] = .ok (.ow []) := lst_ok (by simp)
    have fz4 : ∀ (A : List Nat) (env : DL.Env), frzIf (.fz (.tup [.str "least", .int s, .tup (rowD m y), .tup (rowD R w)])) A env = env := fun A env => by
      unfold frzIf
      rw [if_pos]
      have a : D.nolAll (rowD m y) = true := nol_row
      have b : D.nolAll (rowD R w) = true := nol_row
      simp [Rs.nol, D.nol, D.nolAll, a, b]
    have mz := mul_ok (bz.sml (show 101 ≤ 9000 by omega)) (Yb.sml (by omega))
    have wSb : ∀ c, c < R → Bd 727 (w c * Sx.sm N (W c)) := fun c hc => (bw' c hc).mul (Sb c hc)
    have cv2 : ∀ o4 o5 d6, bmC2 [.fz dl, .fz da, .fz (.int z), .ow (rowsI R m (liftB N W A z) (fun c => Sx.sm N (W c)) .lst), o4, o5, .fz d6, .fz (.int s), .fz (.tup (rowD m y)), .fz (.tup (rowD R w)), .fz (fr p q), .un, .un, .un] = .ok (.ow (rowD R fun c => w c * Sx.sm N (W c))) := fun o4 o5 d6 => by
      refine ev_lc (ds := (List.range R).map fun k => D.tup [.int (w k), c (rowD N (W k))]) (by simp) ?_ ?_ (.inr (by simp; omega))
      · simp [oZip, hl.seq, (Sq.t (rowD R w)).seq, zip_rowsC]
      · refine lcL_map (List.range R) _ (fun k => .int (w k * Sx.sm N (W k))) fun k hk => ?_
        have hk := List.mem_range.mp hk
        refine ⟨_, .fz (.int (w k * Sx.sm N (W k))), rfl, rfl, ?_, rfl⟩
        simp [wipeE, (hc _).sum, mul_ok ((bw' k hk).sml (by omega)) ((Sb k hk).sml (by omega))]
    have low1 := m_lowS (N := m) (f := y) (by omega) (Sq.t _) fun i hi => (by' i hi).sml (by omega)
    have low2 := m_lowS (N := R) (f := fun c => w c * Sx.sm N (W c)) (by omega) (Sq.l _) fun i hi => (wSb i hi).sml (by omega)
    have lenA : oLen [da] = .ok (.fz (.int m)) := by rw [ha.len, rowsC_len]
    rw [hb]
    show sSeq _ _ [.fz dl, .fz da, .un, .un, .un, .un, .un, .un, .un, .un, .un, .un, .un, .un] = _
    simp only [ev_seq, ev_set, ev_e2, ev_c, ev_eA, ev_aCons, cv0, ev_bok, ev_row, ev_aNil, e0, ev_pok, ev_rfz, ev_sub, hz, ev_ofM, ev_frzInt, ev_sfz, List.set, ev_tn, l0d]
    have fz0 : ∀ env : DL.Env, frzIf (.ow []) [] env = env := fun env => rfl
    simp only [ev_seq, ev_set, ev_eA, ev_aNil, ev_bok, ev_pok, ev_ofM, fz0, ev_sow, List.set, ev_tn, ev_for, ev_iE, ev_vs, ev_v0f, ev_rfz, hl.iter, ev_fzCons, ev_fzNil, List.getD_cons_zero, ev_frzF, l1, ev_asg, ev_e2, ev_c, ev_aCons, l1d, ev_row, lenA, reps 1 (show m < 1000000 by omega), ev_v0o, oCal, List.length_cons, List.length_nil, if_true, el, fz4, ev_nTup, ev_nCons, ev_name, Option.bind_some, ev_nNil, ev_ofO]
    unfold bmE
    have e4 : (([D.str "least", D.int s, D.tup (rowD m y), D.tup (rowD R w)] : List DL.D).length = 4) := rfl
    simp only [ev_seq, ev_set, ev_eA, ev_aCons, ev_e2, ev_vs, ev_v0f, ev_bok, ev_rfz, ev_aNil, (Sq.t (rowD m y)).sum, ev_pok, mz, ev_sub, oCal, List.length_cons, List.length_nil, if_true, er, ev_ofM, frz_fr, ev_sfz, List.set, ev_tn, cv2, ev_frzRow, ev_sow, ev_ret, ev_v0o, low1, low2, tup_3]
end
end PG
end

section
set_option maxRecDepth 100000
set_option maxHeartbeats 4000000
noncomputable section
namespace K62
open L2 DL PG LW
def b_law_lowest : DL.Env → DL.So :=
  (sSeq (sSet 1 [] (eC (.int 0))) (sSeq (sFor [0] (iE iterA (eVar 0)) (nName 2) (sSeq (sSet 3 [2] (eA oAbs (aCons (eVar 2) aNil))) (sFor [] (iA oRng1 (aCons (eC (.int 2000)) aNil)) (nName 4) (sSeq (sIf [3] (tV (e2 (cop .Eq) (eVar 3) (eC (.int 0)))) .bk sNext) (sAsg [3, 1, 3] (nTup 2 (nCons (nName 1) (nCons (nName 3) nNil))) (eA oTupD (aCons (eVar 3) (aCons (e2 oMod (eA oInt (aCons (eVar 1) aNil)) (eVar 3)) aNil)))))))) (sRet (List.range 64) (eA oTuple (aCons (eLc [2] (iE iterA (eVar 0)) (nName 2) tYesD (e2 oDiv (eVar 2) (eA oMax (aCons (eVar 1) (aCons (eC (.int 1)) aNil))))) aNil)))))
def m_law_lowest (ds : List DL.D) : DL.M DL.Rs := pureM (runD 5 b_law_lowest ds)
def b_law_lot : DL.Env → DL.So :=
  (sSeq (sSet 2 [0] (e2 oAdd (eC (.int 1)) (e2 oMod (eA oInt (aCons (e2 oIx (eVar 0) (eC (.int 1))) aNil)) (eC (.int 4))))) (sSeq (sIf [0] (tV (e2 (cop .Eq) (e2 oMod (eA oInt (aCons (e2 oIx (eVar 0) (eC (.int 2))) aNil)) (eC (.int 8))) (eC (.int 1)))) (sSet 2 [] (eC (.int 8))) sNext) (sSeq (sSet 3 [] (eA oLstD aNil)) (sSeq (sFor [2] (iA oRng1 (aCons (eVar 2) aNil)) (nName 4) (sSeq (sSet 5 (List.range 64) (eLc [6] (iA oRng1 (aCons (eVar 1) aNil)) (nName 6) tYesD (e2 oMod (eA oInt (aCons (e2 oIx (eVar 0) (e2 oAdd (e2 oAdd (eC (.int 10)) (e2 oMul (eC (.int 4)) (eVar 4))) (eVar 6))) aNil)) (eC (.int 10))))) (sSeq (sIf [5] (tV (e2 (cop .Eq) (eA oSum (aCons (eVar 5) aNil)) (eC (.int 0)))) (sSetIx 5 [] [0, 1] (eC (.int 1)) (e2 oMod (eA oInt (aCons (e2 oIx (eVar 0) (eC (.int 3))) aNil)) (eVar 1))) sNext) (sIf [5, 3] (tV (e2 (cop .NotIn) (eA (oCal 1 m_law_lowest) (aCons (eVar 5) aNil)) (eVar 3))) (sApp 3 [5] (eA (oCal 1 m_law_lowest) (aCons (eVar 5) aNil))) sNext)))) (sRetV 3)))))
def m_law_lot (ds : List DL.D) : DL.M DL.Rs := pureM (runD 7 b_law_lot ds)
def b_law_acts : DL.Env → DL.So :=
  (sSeq (sSet 2 [] (eC (.int 9))) (sSeq (sIf [0] (tV (e2 (cop .Eq) (e2 oMod (eA oInt (aCons (e2 oIx (eVar 0) (eC (.int 4))) aNil)) (eC (.int 8))) (eC (.int 1)))) (sSet 2 [] (eC (.int 99))) sNext) (sSeq (sSet 3 [] (eC (.int 1))) (sSeq (sIf [0] (tV (e2 (cop .Eq) (e2 oMod (eA oInt (aCons (e2 oIx (eVar 0) (eC (.int 4))) aNil)) (eC (.int 16))) (eC (.int 2)))) (sSet 3 [] (e2 oPow (eC (.int 10)) (eC (.int 20)))) sNext) (sSeq (sSet 4 [] (eA oLstD aNil)) (sSeq (sFor [0] (iA oRng1 (aCons (e2 oAdd (eC (.int 1)) (e2 oMod (eA oInt (aCons (e2 oIx (eVar 0) (eC (.int 5))) aNil)) (eC (.int 5)))) aNil)) (nName 5) (sSeq (sSet 6 (List.range 64) (eLc [7] (iA oRng1 (aCons (eVar 1) aNil)) (nName 7) tYesD (e2 oSub (e2 oMod (eA oInt (aCons (e2 oIx (eVar 0) (e2 oAdd (e2 oAdd (eC (.int 42)) (e2 oMul (eC (.int 4)) (eVar 5))) (eVar 7))) aNil)) (e2 oAdd (e2 oMul (eC (.int 2)) (eVar 2)) (eC (.int 1)))) (eVar 2)))) (sApp 4 (List.range 64) (eA oTuple (aCons (eLc [8] (iE iterA (eVar 6)) (nName 8) tYesD (e2 oMul (eVar 8) (eVar 3))) aNil))))) (sRetV 4)))))))
def m_law_acts (ds : List DL.D) : DL.M DL.Rs := pureM (runD 9 b_law_acts ds)
def b_law_changed : DL.Env → DL.So :=
  (sSeq (sSet 3 [0] (eA oList (aCons (eVar 0) aNil))) (sSeq (sSetIx 3 [3, 1, 2] [1] (e2 oAdd (e2 oIx (eVar 3) (eVar 1)) (eVar 2)) (eVar 1)) (sRet [3] (eA oTuple (aCons (eVar 3) aNil)))))
def m_law_changed (ds : List DL.D) : DL.M DL.Rs := pureM (runD 4 b_law_changed ds)
def b_law_integers : DL.Env → DL.So :=
  (sSeq (sIf [0, 0, 1] (tO (tN (tV (e1 (oIsi "tuple") (eVar 0)))) (tV (e2 (cop .NotEq) (eA oLen (aCons (eVar 0) aNil)) (eVar 1)))) (sRet [] (eC (.bl false))) sNext) (sSeq (sFor [0] (iE iterA (eVar 0)) (nName 2) (sIf [2, 2] (tO (tN (tV (e1 (oIsi "int") (eVar 2)))) (tV (e1 (oIsi "bool") (eVar 2)))) (sRet [] (eC (.bl false))) sNext)) (sRet [] (eC (.bl true)))))
def m_law_integers (ds : List DL.D) : DL.M DL.Rs := pureM (runD 3 b_law_integers ds)
def b_law_form : DL.Env → DL.So :=
  (sSeq (sIf [0, 0] (tO (tN (tV (e1 (oIsi "tuple") (eVar 0)))) (tV (e2 (cop .NotEq) (eA oLen (aCons (eVar 0) aNil)) (eC (.int 3))))) (sRet [] (eC (.bl false))) sNext) (sSeq (sAsg [0] (nTup 3 (nCons (nName 3) (nCons (nName 4) (nCons (nName 5) nNil)))) (eVar 0)) (sSeq (sIf [3, 3, 3, 3] (tO (tN (tV (eA (oCal 2 m_law_integers) (aCons (eVar 3) (aCons (eC (.int 2)) aNil))))) (tO (tV (e2 (cop .Lt) (e2 oIx (eVar 3) (eC (.int 1))) (eC (.int 1)))) (tV (e2 (cop .NotEq) (eA (oCal 1 m_law_lowest) (aCons (eVar 3) aNil)) (eVar 3))))) (sRet [] (eC (.bl false))) sNext) (sSeq (sIf [4, 2, 4, 4] (tO (tN (tV (eA (oCal 2 m_law_integers) (aCons (eVar 4) (aCons (eA oLen (aCons (eVar 2) aNil)) aNil))))) (tV (e2 (cop .NotEq) (eA (oCal 1 m_law_lowest) (aCons (eVar 4) aNil)) (eVar 4)))) (sRet [] (eC (.bl false))) sNext) (sRet [5, 1, 5, 5] (vAn (eA (oCal 2 m_law_integers) (aCons (eVar 5) (aCons (eA oLen (aCons (eVar 1) aNil)) aNil))) (e2 (cop .Eq) (eA (oCal 1 m_law_lowest) (aCons (eVar 5) aNil)) (eVar 5))))))))
def m_law_form (ds : List DL.D) : DL.M DL.Rs := pureM (runD 6 b_law_form ds)
def b_law_weighs : DL.Env → DL.So :=
  (sSeq (sIf [0, 1, 0] (tO (tV (e2 (cop .NotEq) (eA oLen (aCons (eVar 0) aNil)) (eVar 1))) (tV (e2 (cop .Eq) (eA oSum (aCons (eVar 0) aNil)) (eC (.int 0))))) (sRet [] (eC (.bl false))) sNext) (sSeq (sFor [0] (iE iterA (eVar 0)) (nName 2) (sIf [2] (tV (e2 (cop .Lt) (eVar 2) (eC (.int 0)))) (sRet [] (eC (.bl false))) sNext)) (sRet [] (eC (.bl true)))))
def m_law_weighs (ds : List DL.D) : DL.M DL.Rs := pureM (runD 3 b_law_weighs ds)
def b_law_shows : DL.Env → DL.So :=
  (sSeq (sIf [3, 1, 4, 0] (tO (tN (tV (eA (oCal 2 m_law_weighs) (aCons (eVar 3) (aCons (eA oLen (aCons (eVar 1) aNil)) aNil))))) (tN (tV (eA (oCal 2 m_law_weighs) (aCons (eVar 4) (aCons (eA oLen (aCons (eVar 0) aNil)) aNil)))))) (sRet [] (eC (.bl false))) sNext) (sSeq (sSet 5 [] (eC (.int 1))) (sSeq (sFor [0] (iE iterA (eVar 0)) (nName 6) (sSeq (sSet 5 [5, 6] (e2 oMul (eVar 5) (eA oSum (aCons (eVar 6) aNil)))) (sSeq (sSet 7 [] (eC (.int 0))) (sSeq (sFor [1] (iA oRng1 (aCons (eA oLen (aCons (eVar 1) aNil)) aNil)) (nName 8) (sSet 7 [7, 3, 8, 6, 1, 8] (e2 oAdd (eVar 7) (e2 oMul (e2 oIx (eVar 3) (eVar 8)) (eA (oCal 2 m_law_dot) (aCons (eVar 6) (aCons (e2 oIx (eVar 1) (eVar 8)) aNil))))))) (sIf [7, 2, 2, 3, 6] (tV (e2 (cop .Lt) (e2 oMul (eVar 7) (e2 oIx (eVar 2) (eC (.int 1)))) (e2 oMul (e2 oMul (e2 oIx (eVar 2) (eC (.int 0))) (eA oSum (aCons (eVar 3) aNil))) (eA oSum (aCons (eVar 6) aNil))))) (sRet [] (eC (.bl false))) sNext))))) (sSeq (sFor [1] (iE iterA (eVar 1)) (nName 9) (sSeq (sSet 7 [] (eC (.int 0))) (sSeq (sFor [0] (iA oRng1 (aCons (eA oLen (aCons (eVar 0) aNil)) aNil)) (nName 8) (sSet 7 [7, 4, 8, 0, 8, 9, 5, 0, 8] (e2 oAdd (eVar 7) (e2 oMul (e2 oMul (e2 oIx (eVar 4) (eVar 8)) (eA (oCal 2 m_law_dot) (aCons (e2 oIx (eVar 0) (eVar 8)) (aCons (eVar 9) aNil)))) (e2 oDiv (eVar 5) (eA oSum (aCons (e2 oIx (eVar 0) (eVar 8)) aNil))))))) (sIf [7, 2, 2, 5, 4] (tV (e2 (cop .Gt) (e2 oMul (eVar 7) (e2 oIx (eVar 2) (eC (.int 1)))) (e2 oMul (e2 oMul (e2 oIx (eVar 2) (eC (.int 0))) (eVar 5)) (eA oSum (aCons (eVar 4) aNil))))) (sRet [] (eC (.bl false))) sNext)))) (sRet [] (eC (.bl true)))))))
def m_law_shows (ds : List DL.D) : DL.M DL.Rs := pureM (runD 10 b_law_shows ds)
def b_law_says : DL.Env → DL.So :=
  (sSeq (sSet 5 [0, 1, 2, 3, 4] (eA (oCal 5 m_shows_mixture) (aCons (eA oList (aCons (eVar 0) aNil)) (aCons (eA oList (aCons (eVar 1) aNil)) (aCons (eVar 2) (aCons (eVar 3) (aCons (eVar 4) aNil))))))) (sRet [5, 5, 0, 1, 2, 3, 4] (vAn (e1 (oIsi "bool") (eVar 5)) (e2 (cop .Eq) (eVar 5) (eA (oCal 5 m_law_shows) (aCons (eVar 0) (aCons (eVar 1) (aCons (eVar 2) (aCons (eVar 3) (aCons (eVar 4) aNil))))))))))
def m_law_says (ds : List DL.D) : DL.M DL.Rs := pureM (runD 6 b_law_says ds)
def b_law : DL.Env → DL.So :=
  (sSeq (sSet 1 [0] (eA (oCal 2 m_law_numbers) (aCons (eVar 0) (aCons (eC (.int 64)) aNil)))) (sSeq (sSet 2 [1] (e2 oAdd (eC (.int 1)) (e2 oMod (eA oInt (aCons (e2 oIx (eVar 1) (eC (.int 0))) aNil)) (eC (.int 4))))) (sSeq (sSet 3 [1, 2] (eA (oCal 2 m_law_lot) (aCons (eVar 1) (aCons (eVar 2) aNil)))) (sSeq (sSet 4 [1, 2] (eA (oCal 2 m_law_acts) (aCons (eVar 1) (aCons (eVar 2) aNil)))) (sSeq (sSet 5 (List.range 64) (eLc [14] (iE iterA (eVar 3)) (nName 14) tYesD (eA oList (aCons (eVar 14) aNil)))) (sSeq (sSet 6 (List.range 64) (eLc [15] (iE iterA (eVar 4)) (nName 15) tYesD (eA oList (aCons (eVar 15) aNil)))) (sSeq (sSet 7 [5, 6] (eA (oCal 2 m_best_mixture) (aCons (eVar 5) (aCons (eVar 6) aNil)))) (sSeq (sIf ([5] ++ (List.range 64 ++ ([6] ++ List.range 64))) (tO (tV (e2 (cop .NotEq) (eVar 5) (eLc [14] (iE iterA (eVar 3)) (nName 14) tYesD (eA oList (aCons (eVar 14) aNil))))) (tV (e2 (cop .NotEq) (eVar 6) (eLc [15] (iE iterA (eVar 4)) (nName 15) tYesD (eA oList (aCons (eVar 15) aNil)))))) (sRet [] (eC (.bl false))) sNext) (sSeq (sIf [7, 3, 4] (tN (tV (eA (oCal 3 m_law_form) (aCons (eVar 7) (aCons (eVar 3) (aCons (eVar 4) aNil)))))) (sRet [] (eC (.bl false))) sNext) (sSeq (sAsg [7] (nTup 3 (nCons (nName 8) (nCons (nName 9) (nCons (nName 10) nNil)))) (eVar 7)) (sSeq (sIf [3, 4, 8, 9, 10, 3, 4, 8, 9, 10] (tO (tN (tV (eA (oCal 5 m_law_shows) (aCons (eVar 3) (aCons (eVar 4) (aCons (eVar 8) (aCons (eVar 9) (aCons (eVar 10) aNil)))))))) (tN (tV (eA (oCal 5 m_law_says) (aCons (eVar 3) (aCons (eVar 4) (aCons (eVar 8) (aCons (eVar 9) (aCons (eVar 10) aNil))))))))) (sRet [] (eC (.bl false))) sNext) (sSeq (sSet 11 [1] (e2 oSub (e2 oMul (eC (.int 2)) (e2 oMod (eA oInt (aCons (e2 oIx (eVar 1) (eC (.int 6))) aNil)) (eC (.int 2)))) (eC (.int 1)))) (sSeq (sSet 12 [8, 11, 8] (eA (oCal 1 m_law_lowest) (aCons (eA oTupD (aCons (e2 oAdd (e2 oIx (eVar 8) (eC (.int 0))) (eVar 11)) (aCons (e2 oIx (eVar 8) (eC (.int 1))) aNil))) aNil))) (sSeq (sIf [3, 4, 12, 9, 10] (tN (tV (eA (oCal 5 m_law_says) (aCons (eVar 3) (aCons (eVar 4) (aCons (eVar 12) (aCons (eVar 9) (aCons (eVar 10) aNil)))))))) (sRet [] (eC (.bl false))) sNext) (sSeq (sSet 13 [9, 1, 4, 11] (eA (oCal 3 m_law_changed) (aCons (eVar 9) (aCons (e2 oMod (eA oInt (aCons (e2 oIx (eVar 1) (eC (.int 7))) aNil)) (eA oLen (aCons (eVar 4) aNil))) (aCons (eVar 11) aNil))))) (sSeq (sIf [3, 4, 8, 13, 10, 3, 4, 8, 9, 10] (tO (tN (tV (eA (oCal 5 m_law_says) (aCons (eVar 3) (aCons (eVar 4) (aCons (eVar 8) (aCons (eVar 13) (aCons (eVar 10) aNil)))))))) (tN (tV (eA (oCal 5 m_law_says) (aCons (eVar 3) (aCons (eVar 4) (aCons (eVar 8) (aCons (e2 oAdd (eVar 9) (eA oTupD (aCons (eC (.int 0)) aNil))) (aCons (eVar 10) aNil))))))))) (sRet [] (eC (.bl false))) sNext) (sSeq (sSet 13 [10, 1, 3, 11] (eA (oCal 3 m_law_changed) (aCons (eVar 10) (aCons (e2 oMod (eA oInt (aCons (e2 oIx (eVar 1) (eC (.int 8))) aNil)) (eA oLen (aCons (eVar 3) aNil))) (aCons (eVar 11) aNil))))) (sRet [3, 4, 8, 9, 13, 3, 4, 8, 9, 10] (vAn (eA (oCal 5 m_law_says) (aCons (eVar 3) (aCons (eVar 4) (aCons (eVar 8) (aCons (eVar 9) (aCons (eVar 13) aNil)))))) (eA (oCal 5 m_law_says) (aCons (eVar 3) (aCons (eVar 4) (aCons (eVar 8) (aCons (eVar 9) (aCons (e3o oSl (eVar 10) (pSome (eC (.int 1))) pNo) aNil)))))))))))))))))))))))))
def m_law (ds : List DL.D) : DL.M DL.Rs := pureM (runD 16 b_law ds)
end K62
end
end

section
set_option maxRecDepth 100000
set_option maxHeartbeats 1000000
/-! Lots of drawn rows: shared by laws. -/
namespace LW
open L2 DL PG
theorem rg_lc {vs : List Nat} {it : DL.Env → DL.M (List DL.D)} {te : DL.Env → DL.M Rs} {env : DL.Env} {N i : Nat} {f : Nat → Int} (hN : N < 1000000) (hl : env.length ≤ 64) (hi : it env = .ok (rgD N)) (h : ∀ k : Nat, k < N → te ((wipeE (env.map Sl.frz) vs).set i (.fz (.int k))) = .ok (.fz (.int (f k)))) : eLc vs it (nName i) tYesD te env = .ok (.ow (rowD N f)) := by
  refine ev_lc (ds := rgD N) hl hi ?_ (.inr (by simpa using hN))
  refine lcL_map (List.range N) _ (fun k => .int (f k)) fun k hk => ?_
  exact ⟨_, _, rfl, rfl, h k (List.mem_range.mp hk), rfl⟩
theorem rowsT_push {R N : Nat} {W : Nat → Nat → Int} {f : Nat → Int} : rowsT R N W ++ [.tup (rowD N f)] = rowsT (R + 1) N fun k => if k = R then f else W k := by
  unfold rowsT
  rw [List.range_succ, List.map_append]
  congr 1
  · refine List.map_congr_left fun k hk => ?_
    have := List.mem_range.mp hk
    have : ¬ k = R := by omega
    simp [this]
  · simp
theorem frz_tup {N : Nat} {f : Nat → Int} (A : List Nat) (env : DL.Env) : frzIf (.fz (.tup (rowD N f))) A env = env := by
  unfold frzIf
  have : Rs.nol (.fz (.tup (rowD N f))) = true := nol_row
  rw [if_pos this]
theorem nm_rowT {n R N : Nat} {W : Nat → Nat → Int} : ∀ x, x ∈ rowsT R N W → Nm (n + 1) x := fun x hx => by
  obtain ⟨k, _, rfl⟩ := List.mem_map.mp hx
  exact .inr ⟨_, .inl rfl, nm_row⟩
theorem nm_tup {n N : Nat} {f : Nat → Int} : Nm (n + 1) (.tup (rowD N f)) := .inr ⟨_, .inl rfl, nm_row⟩
theorem notin_nil {n : Nat} (hn : n + 1 ≤ 64) {d : DL.D} (h : Nm n d) : oInL true d (.lst []) = .ok (.fz (.bl true)) := by
  obtain ⟨p, a1, a2, a3, a4⟩ := nm_py n d h
  unfold oInL
  have e : toPy (.lst []) = some (.list []) := by simp [toPy, toPyAll]
  simp only [a1, e]
  rw [if_pos ⟨PyOk.shaped (by omega) a2 a3, by decide⟩]
  rfl
/-- rows in lowest terms, of weights from 0, not all 0 -/
structure Lot (R N : Nat) (W : Nat → Nat → Int) : Prop where
  w0 : ∀ k, k < R → ∀ i, i < N → 0 ≤ W k i
  wp : ∀ k, k < R → 0 < Sx.sm N (W k)
  wb : ∀ k, k < R → ∀ i, i < N → Bd 10 (W k i)
theorem low_sum {N : Nat} {f : Nat → Int} (h : 0 < Sx.sm N f) : 0 < Sx.sm N (lowF N f) := by
  obtain ⟨g, hg, e⟩ := low_eq (N := N) (f := f)
  have : Sx.sm N f = g * Sx.sm N (lowF N f) := by rw [← Sx.sm_mul]; exact Sx.sm_congr e
  rw [this] at h
  refine Int.not_le.mp fun hc => ?_
  have := Int.mul_nonpos_of_nonneg_of_nonpos (a := (g : Int)) (by omega) hc
  omega
theorem Lot.push {R N : Nat} {W : Nat → Nat → Int} {f : Nat → Int} (L : Lot R N W) (h0 : ∀ i, i < N → 0 ≤ f i) (hb : ∀ i, i < N → Bd 10 (f i)) (hs : 0 < Sx.sm N f) : Lot (R + 1) N fun k => if k = R then lowF N f else W k := by
  refine ⟨fun k hk i hi => ?_, fun k hk => ?_, fun k hk i hi => ?_⟩
  · by_cases h : k = R
    · simp only [h, if_true]; exact low_pos hi (h0 i hi)
    · simp only [h, if_false]; exact L.w0 k (by omega) i hi
  · by_cases h : k = R
    · simp only [h, if_true]; exact low_sum hs
    · simp only [h, if_false]; exact L.wp k (by omega)
  · by_cases h : k = R
    · simp only [h, if_true]; exact Nat.lt_of_le_of_lt (low_abs hi) (hb i hi)
    · simp only [h, if_false]; exact L.wb k (by omega) i hi
/-- equal to itself -/
theorem eq_self {n : Nat} (hn : n ≤ 64) {d : DL.D} (h : Nm n d) : oEq d d = .ok (.fz (.bl true)) := by
  obtain ⟨p, a1, a2, a3, a4⟩ := nm_py n d h
  have hd : oDeepEq false d d = .ok (.fz (.bl true)) := by
    unfold oDeepEq
    simp [a1, PyOk.shaped hn a2 a3, a4]
  unfold oEq
  rw [hd]
  cases d with
  | int i => simp [oScalEq, DL.orM]
  | str i => simp [oScalEq, DL.orM]
  | bl i => simp [oScalEq, DL.orM]
  | _ => rfl
end LW
end

section
set_option maxRecDepth 100000
set_option maxHeartbeats 1000000
/-! _law_lowest, _law_lot. -/
namespace K62
open L2 DL PG LW
def loEu : DL.Env → DL.So := (sSeq (sIf [3] (tV (e2 (cop .Eq) (eVar 3) (eC (.int 0)))) .bk sNext) (sAsg [3, 1, 3] (nTup 2 (nCons (nName 1) (nCons (nName 3) nNil))) (eA oTupD (aCons (eVar 3) (aCons (e2 oMod (eA oInt (aCons (eVar 1) aNil)) (eVar 3)) aNil)))))
theorem loEu_loop {n t : Nat} (hn : n = 2 * t) {a b : Nat} (hb2 : b < 2 ^ t) {d0 d2 : DL.D} {o4 : DL.Sl} : ∃ q4, forL (nName 4) loEu (rgD n) [.fz d0, .fz (.int a), .fz d2, .fz (.int b), o4] = .nx [.fz d0, .fz (.int (Nat.gcd a b)), .fz d2, .fz (.int 0), q4] := by
  refine forL_gen (t := nName 4) (body := loEu) (ds := rgD n) (env := [.fz d0, .fz (.int a), .fz d2, .fz (.int b), o4])
    (fun k e => ∃ q4, e = [.fz d0, .fz (.int (euN k (a, b)).1), .fz d2, .fz (.int (euN k (a, b)).2), q4])
    (fun s => ∃ q4, s = .nx [.fz d0, .fz (.int (Nat.gcd a b)), .fz d2, .fz (.int 0), q4]) ⟨_, rfl⟩ (by
      rintro j d e hd ⟨q4, rfl⟩
      obtain ⟨hj, rfl⟩ := rng_get hd
      refine ⟨_, rfl, ?_⟩
      have hg := euN_gcd j (a, b)
      generalize hp : euN j (a, b) = p at hg
      by_cases h : p.2 = 0
      · refine .inr (.inr ⟨[.fz d0, .fz (.int (Nat.gcd a b)), .fz d2, .fz (.int 0), .fz (.int j)], ?_, _, rfl⟩)
        rw [h, Nat.gcd_zero_right] at hg
        unfold loEu
        simp [hp, h, hg]
      · refine .inl ⟨[.fz d0, .fz (.int (euN (j + 1) (a, b)).1), .fz d2, .fz (.int (euN (j + 1) (a, b)).2), .fz (.int j)], .inl ?_, _, rfl⟩
        have h' : 0 < p.2 := by omega
        have hne : ((p.2 : Nat) : Int) ≠ 0 := by omega
        obtain ⟨m1, m2⟩ := eu_pos h'
        have en : euN (j + 1) (a, b) = eu p := by rw [← hp]; rfl
        rw [en]
        unfold loEu
        simp only [List.set, ev_seq, ev_if, ev_tV, ev_e2, ev_vs, ev_v0f, ev_bok, ev_c, ev_copEq, ev_rfz, ev_eqI, hne, decide_false, ev_pok, ev_asB, ev_ofM, Bool.false_eq_true, if_false, ev_next, ev_tn, ev_asg, ev_aCons, ev_eA, ev_aNil, ev_int, ev_mod hne, tup_2, frz_ints, ev_nTup, List.length_cons, List.length_nil, if_true, ev_nCons, ev_name, Option.bind_some, ev_nNil, ev_ofO, m1, ← m2]) (fun e ⟨q4, he⟩ => ?_)
  have fin2 : (euN n (a, b)).2 = 0 := by rw [hn]; exact eu_end t _ hb2
  have fin1 : (euN n (a, b)).1 = Nat.gcd a b := by
    have := euN_gcd n (a, b)
    rw [fin2, Nat.gcd_zero_right] at this
    exact this
  refine ⟨q4, ?_⟩
  rw [he, rgD_len, fin1, fin2]
  rfl
def bodyLo : DL.Env → DL.So := (sSeq (sSet 3 [2] (eA oAbs (aCons (eVar 2) aNil))) (sFor [] (iA oRng1 (aCons (eC (.int 2000)) aNil)) (nName 4) loEu))
def cLow : DL.Env → DL.M Rs := (eLc [2] (iE iterA (eVar 0)) (nName 2) tYesD (e2 oDiv (eVar 2) (eA oMax (aCons (eVar 1) (aCons (eC (.int 1)) aNil)))))
theorem law_lowest_is {N : Nat} {f : Nat → Int} {d : DL.D} (hN : N < 1000000) (hd : Sq d (rowD N f)) (hf : ∀ i, i < N → Bd 1000 (f i)) : m_law_lowest [d] = .ok (.fz (.tup (rowD N (lowF N f)))) := by
  refine runD_ok ?_
  have hb : b_law_lowest = (sSeq (sSet 1 [] (eC (.int 0))) (sSeq (sFor [0] (iE iterA (eVar 0)) (nName 2) bodyLo) (sRet (List.range 64) (eA oTuple (aCons cLow aNil))))) := rfl
  obtain ⟨e, l, o2, o3, o4, rfl, ho⟩ := forL_nx (t := nName 2) (body := bodyLo) (ds := rowD N f) (env := [.fz d, .fz (.int 0), .un, .un, .un]) (fun k e => ∃ o2 o3 o4, e = [.fz d, .fz (.int (gcdN f k)), o2, o3, o4] ∧ True) ⟨_, _, _, rfl, trivial⟩ (by
    rintro i d' e hd ⟨o2, o3, o4, rfl, -⟩
    obtain ⟨hi, rfl⟩ := rowD_at hd
    refine ⟨_, rfl, ?_⟩
    obtain ⟨q4, l2⟩ := loEu_loop (n := 2000) (t := 1000) (by decide) (hf i hi) (a := gcdN f i) (d0 := d) (d2 := .int (f i)) (o4 := o4)
    refine ⟨[.fz d, .fz (.int (gcdN f (i + 1))), .fz (.int (f i)), .fz (.int 0), q4], .inl ?_, _, _, _, rfl, trivial⟩
    have r400 : oRng1 [.int 2000] = .ok (rgD 2000) := rng1 (n := 2000) (by omega)
    unfold bodyLo
    simp only [List.set, ev_seq, ev_set, ev_eA, ev_aCons, ev_vs, ev_v0f, ev_bok, ev_rfz, ev_aNil, abs_is, ev_pok, ev_ofM, ev_frzInt, ev_sfz, ev_tn, ev_for, ev_iA, ev_c, r400, ev_fzNil]
    exact l2)
  rw [hb]
  rw [rowD_len] at l
  have hc : cLow [.fz d, .fz (.int (gcdN f N)), o2, o3, o4] = .ok (.ow (rowD N (lowF N f))) := by
    refine ev_lc (ds := rowD N f) (by simp) (by simp [hd.iter]) ?_ (.inr (by simpa using hN))
    refine lcL_map (List.range N) _ _ fun i hi => ⟨_, .fz (.int (lowF N f i)), rfl, rfl, ?_, rfl⟩
    simp only [wipeE, List.map, List.set, ev_e2, ev_vs, ev_v0f, ev_bok, ev_eA, ev_aCons, ev_rfz, ev_c, ev_aNil, ev_frzF, max_is, ev_pok]
    rw [← low_div]
    have h0 : (if ((gcdN f N : Nat) : Int) < 1 then 1 else ((gcdN f N : Nat) : Int)) ≠ 0 := by split <;> omega
    have hl : (if ((gcdN f N : Nat) : Int) < 1 then 1 else ((gcdN f N : Nat) : Int)).natAbs.log2 < 9000 := by
      split
      · decide
      · by_cases hz : ∃ j, j < N ∧ f j ≠ 0
        · obtain ⟨j, hj, hz⟩ := hz
          have := Nat.le_of_dvd (by omega) (gcd_dvd (f := f) (N := N) hj)
          have h2 : (f j).natAbs < 2 ^ 1000 := hf j hj
          rw [Int.natAbs_natCast]
          by_cases hg : gcdN f N = 0
          · rw [hg]; decide
          · have := (Nat.log2_lt hg (k := 1000)).mpr (by omega)
            omega
        · have : gcdN f N = 0 := by
            have h' : (gcdN f N + 1) ∣ gcdN f N := dvd_gcdN fun i hi => by
              have : f i = 0 := Classical.byContradiction fun hc => hz ⟨i, hi, hc⟩
              rw [this]; exact Nat.dvd_zero _
            refine Classical.byContradiction fun hc => ?_
            have := Nat.le_of_dvd (by omega) h'
            omega
          omega
    rw [div_ok h0 hl]
    rfl
  simp only [startE, List.map, List.length, List.replicate, List.cons_append, List.nil_append, ev_seq, ev_set, ev_c, ev_ofM, ev_frzInt, ev_sfz, List.set, ev_tn, ev_for, ev_iE, ev_vs, ev_v0f, ev_bok, ev_rfz, hd.iter, ev_pok, ev_fzCons, ev_fzNil, List.getD_cons_zero, ev_frzF, l, ev_ret, ev_eA, ev_aCons, hc, ev_row, ev_aNil]
  rfl
/-! _law_lot -/
def ltC : DL.Env → DL.M Rs := (eLc [6] (iA oRng1 (aCons (eVar 1) aNil)) (nName 6) tYesD (e2 oMod (eA oInt (aCons (e2 oIx (eVar 0) (e2 oAdd (e2 oAdd (eC (.int 10)) (e2 oMul (eC (.int 4)) (eVar 4))) (eVar 6))) aNil)) (eC (.int 10))))
def ltM : DL.Env → DL.So := (sIf [5] (tV (e2 (cop .Eq) (eA oSum (aCons (eVar 5) aNil)) (eC (.int 0)))) (sSetIx 5 [] [0, 1] (eC (.int 1)) (e2 oMod (eA oInt (aCons (e2 oIx (eVar 0) (eC (.int 3))) aNil)) (eVar 1))) sNext)
def ltE : DL.Env → DL.So := (sIf [5, 3] (tV (e2 (cop .NotIn) (eA (oCal 1 m_law_lowest) (aCons (eVar 5) aNil)) (eVar 3))) (sApp 3 [5] (eA (oCal 1 m_law_lowest) (aCons (eVar 5) aNil))) sNext)
def ltB : DL.Env → DL.So := (sSeq (sSet 5 (List.range 64) ltC) (sSeq ltM ltE))
section
variable {R N : Nat} {W : Nat → Nat → Int} {nb : Nat → Int}
theorem ltE_ev {i : Nat} (hN : N < 30) (hR : R < 30) {f : Nat → Int} {e2 e4 e6 : DL.Sl} (h0 : ∀ i, i < N → 0 ≤ f i) (hb : ∀ i, i < N → Bd 10 (f i)) (hs : 0 < Sx.sm N f) (L : Lot R N W) (hRi : R ≤ i) (hR1 : 1 ≤ i → 1 ≤ R) :
    ∃ R' W', ltE [.fz (.lst (rowD 64 nb)), .fz (.int N), e2, .ow (rowsT R N W), e4, .ow (rowD N f), e6] = .nx [.fz (.lst (rowD 64 nb)), .fz (.int N), e2, .ow (rowsT R' N W'), e4, .ow (rowD N f), e6] ∧ Lot R' N W' ∧ R' ≤ i + 1 ∧ 1 ≤ R' := by
  have low := law_lowest_is (N := N) (f := f) (by omega) (Sq.l _) fun i hi => (hb i hi).up (by decide)
  have hsz : (rowsT R N W).length < PySem.sizeLine := by have := sz; simp; omega
  have L' := L.push h0 hb hs
  have cn : cop .NotIn = oInL true := rfl
  have key : ∃ b, oInL true (.tup (rowD N (lowF N f))) (.lst (rowsT R N W)) = .ok (.fz (.bl b)) ∧ (R = 0 → b = true) := by
    by_cases hz : R = 0
    · refine ⟨true, ?_, fun _ => rfl⟩
      have e0 : rowsT R N W = [] := by rw [hz]; rfl
      rw [e0]
      exact notin_nil (n := 1) (by decide) (nm_tup (n := 0))
    · obtain ⟨b, hb⟩ := in_says (n := 1) (by decide) (neg := true) (nm_tup (n := 0) (N := N) (f := lowF N f)) (nm_rowT (n := 0) (R := R) (N := N) (W := W))
      exact ⟨b, hb, fun h => absurd h hz⟩
  obtain ⟨b, hb, hb0⟩ := key
  unfold ltE
  cases b with
  | true =>
    refine ⟨_, _, ?_, L', by omega, by omega⟩
    simp only [ev_if, ev_tV, ev_e2, ev_eA, ev_aCons, ev_vs, ev_v0f, ev_v0o, ev_bok, ev_rfz, ev_row, ev_aNil, oCal, List.length_cons, List.length_nil, if_true, low, ev_pok, cn, hb, ev_asB, ev_ofM, ev_app, ev_ownS, ev_own0, frz_tup, hsz, List.set, rowsT_push]
  | false =>
    have hR0 : R ≠ 0 := fun h => by have := hb0 h; cases this
    refine ⟨_, _, ?_, L, by omega, by omega⟩
    simp only [ev_if, ev_tV, ev_e2, ev_eA, ev_aCons, ev_vs, ev_v0f, ev_v0o, ev_bok, ev_rfz, ev_row, ev_aNil, oCal, List.length_cons, List.length_nil, if_true, low, ev_pok, cn, hb, ev_asB, ev_ofM, Bool.false_eq_true, if_false, ev_next]
theorem ltB_ev {i : Nat} (n1 : 1 ≤ N) (hN : N ≤ 4) (hR : R < 30) (hi : i < 9) {e2 e5 : DL.Sl} (L : Lot R N W) (hRi : R ≤ i) (hR1 : 1 ≤ i → 1 ≤ R) :
    ∃ R' W' e5', ltB [.fz (.lst (rowD 64 nb)), .fz (.int N), e2, .ow (rowsT R N W), .fz (.int i), e5, .un] = .nx [.fz (.lst (rowD 64 nb)), .fz (.int N), e2, .ow (rowsT R' N W'), .fz (.int i), e5', .un] ∧ Lot R' N W' ∧ R' ≤ i + 1 ∧ 1 ≤ R' := by
  have rN : oRng1 [.int N] = .ok (rgD N) := rng1 (by omega)
  have msp : ∀ x : Int, oMod (.int x) (.int 10) = .ok (.fz (.int (x.fmod 10))) := fun x => ev_mod (by omega)
  have mN : ∀ x : Int, oMod (.int x) (.int N) = .ok (.fz (.int (x.fmod N))) := fun x => ev_mod (by omega)
  have m4 : ∀ x : Int, oMul (.int 4) (.int x) = .ok (.fz (.int (4 * x))) := fun x => mul_l (by decide)
  have eC : ltC [.fz (.lst (rowD 64 nb)), .fz (.int N), e2, .ow (rowsT R N W), .fz (.int i), e5, .un] = .ok (.ow (rowD N fun s => (nb (10 + 4 * i + s)).fmod 10)) := by
    refine rg_lc (by omega) (by simp) (by simp [rN]) fun k hk => ?_
    have o : atI (rowD 64 nb) (10 + 4 * (i : Int) + (k : Int)) = some (.int (nb (10 + 4 * i + k))) := by
      have := ix_row (f := nb) (N := 64) (j := 10 + 4 * i + k) (by omega)
      rw [← this]; simp
    simp only [wipeE, List.map, List.set, ev_frzO, ev_frzF, ev_e2, ev_eA, ev_aCons, ev_vs, ev_v0f, ev_bok, ev_rfz, ev_ixL, ev_c, m4, ev_add, o, ev_oR, ev_pok, ev_aNil, ev_int, msp]
  have rb : ∀ s, 0 ≤ (nb (10 + 4 * i + s)).fmod 10 ∧ (nb (10 + 4 * i + s)).fmod 10 < 10 := fun s => mod_b _ (by omega)
  have start : ltB [.fz (.lst (rowD 64 nb)), .fz (.int N), e2, .ow (rowsT R N W), .fz (.int i), e5, .un] = sSeq ltM ltE [.fz (.lst (rowD 64 nb)), .fz (.int N), e2, .ow (rowsT R N W), .fz (.int i), .ow (rowD N fun s => (nb (10 + 4 * i + s)).fmod 10), .un] := by
    unfold ltB
    rw [ev_seq]
    simp only [ev_set, eC, ev_ofM, ev_frzRow, ev_sow, List.set, ev_tn]
  by_cases hz : Sx.sm N (fun s => (nb (10 + 4 * i + s)).fmod 10) = 0
  · obtain ⟨p, hp, ep⟩ := mod_nat (nb 3) (m := N) (by omega)
    have c3 : atI (rowD 64 nb) 3 = some (.int (nb 3)) := ix_row (j := 3) (by decide)
    obtain ⟨R', W', a, b⟩ := ltE_ev (i := i) (nb := nb) (N := N) (R := R) (W := W) (f := fun k => if k = p then 1 else (nb (10 + 4 * i + k)).fmod 10) (e2 := e2) (e4 := .fz (.int i)) (e6 := .un) (by omega) hR
      (fun k _ => by have := rb k; show 0 ≤ (if k = p then 1 else (nb (10 + 4 * i + k)).fmod 10); split <;> omega)
      (fun k _ => by
        show Bd 10 (if k = p then 1 else (nb (10 + 4 * i + k)).fmod 10)
        have := rb k
        split <;> exact bd_lit (by simp; try omega) (by simp; try omega))
      (sm_pos (fun k _ => by have := rb k; show 0 ≤ (if k = p then 1 else (nb (10 + 4 * i + k)).fmod 10); split <;> omega) hp (by simp)) L hRi hR1
    refine ⟨R', W', _, Eq.trans ?_ a, b⟩
    rw [start]
    unfold ltM
    simp only [ev_seq, ev_if, ev_tV, ev_e2, ev_eA, ev_aCons, ev_vs, ev_v0o, ev_v0f, ev_bok, ev_rfz, ev_aNil, sum_row, hz, ev_pok, ev_c, ev_copEq, ev_eqI, decide_true, ev_asB, ev_ofM, if_true, ev_setIx, ev_ownS, ev_own0, ev_ixL, c3, ev_oR, ev_int, mN, ep, ev_frzInt, rowD_len, DL.ixN_nat hp, rowD_set hp, List.set, ev_tn]
  · have h0 : ∀ k, k < N → 0 ≤ (nb (10 + 4 * i + k)).fmod 10 := fun k _ => (rb k).1
    obtain ⟨R', W', a, b⟩ := ltE_ev (i := i) (nb := nb) (N := N) (R := R) (W := W) (f := fun k => (nb (10 + 4 * i + k)).fmod 10) (e2 := e2) (e4 := .fz (.int i)) (e6 := .un) (by omega) hR
      h0 (fun k _ => by
        show Bd 10 ((nb (10 + 4 * i + k)).fmod 10)
        have := rb k
        exact bd_lit (by simp; omega) (by simp; omega)) (by have := Sx.sm_nonneg h0; omega) L hRi hR1
    refine ⟨R', W', _, Eq.trans ?_ a, b⟩
    rw [start]
    unfold ltM
    simp only [ev_seq, ev_if, ev_tV, ev_e2, ev_eA, ev_aCons, ev_vs, ev_v0o, ev_v0f, ev_bok, ev_rfz, ev_aNil, sum_row, hz, ev_pok, ev_c, ev_copEq, ev_eqI, decide_false, ev_asB, ev_ofM, Bool.false_eq_true, if_false, ev_next, ev_tn]
theorem law_lot_is (n1 : 1 ≤ N) (hN : N ≤ 4) : ∃ R W, m_law_lot [.lst (rowD 64 nb), .int N] = .ok (.ow (rowsT R N W)) ∧ 1 ≤ R ∧ R < 30 ∧ Lot R N W := by
  have c1 : atI (rowD 64 nb) 1 = some (.int (nb 1)) := ix_row (j := 1) (by decide)
  have c2 : atI (rowD 64 nb) 2 = some (.int (nb 2)) := ix_row (j := 2) (by decide)
  have m8 : ∀ x : Int, oMod (.int x) (.int 8) = .ok (.fz (.int (x.fmod 8))) := fun x => ev_mod (by decide)
  have m4 : ∀ x : Int, oMod (.int x) (.int 4) = .ok (.fz (.int (x.fmod 4))) := fun x => ev_mod (by decide)
  obtain ⟨a, ha, ea⟩ := mod_nat (nb 1) (m := 4) (by decide)
  have ea : (nb 1).fmod 4 = a := ea
  have l0 : oLstD [] = .ok (.ow []) := lst_ok (by simp)
  have sh : b_law_lot = sSeq (sSet 2 [0] (e2 oAdd (eC (.int 1)) (e2 oMod (eA oInt (aCons (e2 oIx (eVar 0) (eC (.int 1))) aNil)) (eC (.int 4))))) (sSeq (sIf [0] (tV (e2 (cop .Eq) (e2 oMod (eA oInt (aCons (e2 oIx (eVar 0) (eC (.int 2))) aNil)) (eC (.int 8))) (eC (.int 1)))) (sSet 2 [] (eC (.int 8))) sNext) (sSeq (sSet 3 [] (eA oLstD aNil)) (sSeq (sFor [2] (iA oRng1 (aCons (eVar 2) aNil)) (nName 4) ltB) (sRetV 3)))) := rfl
  have go : ∃ m : Nat, 1 ≤ m ∧ m < 9 ∧ b_law_lot (startE 7 [.lst (rowD 64 nb), .int N]) = (sSeq (sSet 3 [] (eA oLstD aNil)) (sSeq (sFor [2] (iA oRng1 (aCons (eVar 2) aNil)) (nName 4) ltB) (sRetV 3))) [.fz (.lst (rowD 64 nb)), .fz (.int N), .fz (.int m), .un, .un, .un, .un] := by
    rw [sh]
    by_cases h8 : (nb 2).fmod 8 = 1
    · refine ⟨8, by omega, by omega, ?_⟩
      simp [startE, c1, c2, m4, m8, h8]
    · refine ⟨1 + a, by omega, by omega, ?_⟩
      simp [startE, c1, c2, m4, m8, h8, ea]
  obtain ⟨m, m1, m2, go⟩ := go
  obtain ⟨e, l, R, W, o4, o5, rfl, L, h1, h2⟩ := forL_nx (t := nName 4) (body := ltB) (ds := rgD m) (env := [.fz (.lst (rowD 64 nb)), .fz (.int N), .fz (.int m), .ow [], .un, .un, .un])
    (fun i e => ∃ R W o4 o5, e = [.fz (.lst (rowD 64 nb)), .fz (.int N), .fz (.int m), .ow (rowsT R N W), o4, o5, .un] ∧ Lot R N W ∧ R ≤ i ∧ (1 ≤ i → 1 ≤ R))
    ⟨0, fun _ _ => 0, _, _, rfl, ⟨fun k hk => by omega, fun k hk => by omega, fun k hk => by omega⟩, by omega, by omega⟩ (by
      rintro i d e hd ⟨R, W, o4, o5, rfl, L, h1, h2⟩
      obtain ⟨hi, rfl⟩ := rng_get hd
      obtain ⟨R', W', e5', ev, L', h3, h4⟩ := ltB_ev (nb := nb) (i := i) (e2 := .fz (.int m)) (e5 := o5) n1 hN (by omega) (by omega) L h1 h2
      exact ⟨_, rfl, _, .inl ev, R', W', _, e5', rfl, L', h3, fun _ => h4⟩)
  rw [rgD_len] at h1 h2
  refine ⟨R, W, runD_ok ?_, h2 m1, by omega, L⟩
  rw [go]
  have fz0 : ∀ env : DL.Env, frzIf (.ow []) [] env = env := fun env => rfl
  simp only [ev_seq, ev_set, ev_eA, ev_aNil, ev_bok, l0, ev_pok, ev_ofM, fz0, ev_sow, List.set, ev_tn, ev_for, ev_iA, ev_aCons, ev_vs, ev_v0f, ev_rfz, rng1 (show m < 1000000 by omega), ev_fzCons, ev_fzNil, List.getD_cons_zero, List.getD_cons_succ, ev_frzF, l, ev_retVs, ev_retVo]
end
end K62
end

section
set_option maxRecDepth 100000
set_option maxHeartbeats 1000000
/-! _law_acts, _law_changed, _law_integers, _law_weighs, _law_shows. -/
namespace K62
open L2 DL PG LW
def acC1 : DL.Env → DL.M Rs := (eLc [7] (iA oRng1 (aCons (eVar 1) aNil)) (nName 7) tYesD (e2 oSub (e2 oMod (eA oInt (aCons (e2 oIx (eVar 0) (e2 oAdd (e2 oAdd (eC (.int 42)) (e2 oMul (eC (.int 4)) (eVar 5))) (eVar 7))) aNil)) (e2 oAdd (e2 oMul (eC (.int 2)) (eVar 2)) (eC (.int 1)))) (eVar 2)))
def acC2 : DL.Env → DL.M Rs := (eLc [8] (iE iterA (eVar 6)) (nName 8) tYesD (e2 oMul (eVar 8) (eVar 3)))
def acB : DL.Env → DL.So := (sSeq (sSet 6 (List.range 64) acC1) (sApp 4 (List.range 64) (eA oTuple (aCons acC2 aNil))))
theorem law_acts_is {N : Nat} {nb : Nat → Int} (n1 : 1 ≤ N) (hN : N ≤ 4) : ∃ m A, m_law_acts [.lst (rowD 64 nb), .int N] = .ok (.ow (rowsT m N A)) ∧ 1 ≤ m ∧ m ≤ 5 ∧ ∀ k, k < m → ∀ i, i < N → Bd 100 (A k i) := by
  have c4 : atI (rowD 64 nb) 4 = some (.int (nb 4)) := ix_row (j := 4) (by decide)
  have c5 : atI (rowD 64 nb) 5 = some (.int (nb 5)) := ix_row (j := 5) (by decide)
  have m8 : ∀ x : Int, oMod (.int x) (.int 8) = .ok (.fz (.int (x.fmod 8))) := fun x => ev_mod (by decide)
  have m16 : ∀ x : Int, oMod (.int x) (.int 16) = .ok (.fz (.int (x.fmod 16))) := fun x => ev_mod (by decide)
  have m5 : ∀ x : Int, oMod (.int x) (.int 5) = .ok (.fz (.int (x.fmod 5))) := fun x => ev_mod (by decide)
  have pw : oPow (.int 10) (.int 20) = .ok (.fz (.int (10 ^ 20))) := by rfl
  obtain ⟨a, ha, ea⟩ := mod_nat (nb 5) (m := 5) (by decide)
  have ea : (nb 5).fmod 5 = a := ea
  have l0 : oLstD [] = .ok (.ow []) := lst_ok (by simp)
  have sh : b_law_acts = sSeq (sSet 2 [] (eC (.int 9))) (sSeq (sIf [0] (tV (e2 (cop .Eq) (e2 oMod (eA oInt (aCons (e2 oIx (eVar 0) (eC (.int 4))) aNil)) (eC (.int 8))) (eC (.int 1)))) (sSet 2 [] (eC (.int 99))) sNext) (sSeq (sSet 3 [] (eC (.int 1))) (sSeq (sIf [0] (tV (e2 (cop .Eq) (e2 oMod (eA oInt (aCons (e2 oIx (eVar 0) (eC (.int 4))) aNil)) (eC (.int 16))) (eC (.int 2)))) (sSet 3 [] (e2 oPow (eC (.int 10)) (eC (.int 20)))) sNext) (sSeq (sSet 4 [] (eA oLstD aNil)) (sSeq (sFor [0] (iA oRng1 (aCons (e2 oAdd (eC (.int 1)) (e2 oMod (eA oInt (aCons (e2 oIx (eVar 0) (eC (.int 5))) aNil)) (eC (.int 5)))) aNil)) (nName 5) acB) (sRetV 4)))))) := rfl
  have go : ∃ sp ti : Int, 1 ≤ sp ∧ sp ≤ 99 ∧ 1 ≤ ti ∧ ti ≤ 10 ^ 20 ∧ b_law_acts (startE 9 [.lst (rowD 64 nb), .int N]) = (sSeq (sSet 4 [] (eA oLstD aNil)) (sSeq (sFor [0] (iA oRng1 (aCons (e2 oAdd (eC (.int 1)) (e2 oMod (eA oInt (aCons (e2 oIx (eVar 0) (eC (.int 5))) aNil)) (eC (.int 5)))) aNil)) (nName 5) acB) (sRetV 4))) [.fz (.lst (rowD 64 nb)), .fz (.int N), .fz (.int sp), .fz (.int ti), .un, .un, .un, .un, .un] := by
    rw [sh]
    by_cases h8 : (nb 4).fmod 8 = 1 <;> by_cases h16 : (nb 4).fmod 16 = 2
    · exact ⟨99, 10 ^ 20, by decide, by decide, by decide, by decide, by simp [startE, c4, m8, m16, h8, h16, pw]⟩
    · exact ⟨99, 1, by decide, by decide, by decide, by decide, by simp [startE, c4, m8, m16, h8, h16, pw]⟩
    · exact ⟨9, 10 ^ 20, by decide, by decide, by decide, by decide, by simp [startE, c4, m8, m16, h8, h16, pw]⟩
    · exact ⟨9, 1, by decide, by decide, by decide, by decide, by simp [startE, c4, m8, m16, h8, h16, pw]⟩
  obtain ⟨sp, ti, s1, s2, t1, t2, go⟩ := go
  have rN : oRng1 [.int N] = .ok (rgD N) := rng1 (by omega)
  have m2 : ∀ x : Int, oMul (.int 2) (.int x) = .ok (.fz (.int (2 * x))) := fun x => mul_l (by decide)
  have m4 : ∀ x : Int, oMul (.int 4) (.int x) = .ok (.fz (.int (4 * x))) := fun x => mul_l (by decide)
  have md : ∀ x : Int, oMod (.int x) (.int (2 * sp + 1)) = .ok (.fz (.int (x.fmod (2 * sp + 1)))) := fun x => ev_mod (by omega)
  have bt : Bd 70 ti := by unfold Bd; omega
  obtain ⟨e, l, A, o5, o6, rfl, hA⟩ := forL_nx (t := nName 5) (body := acB) (ds := rgD (1 + a)) (env := [.fz (.lst (rowD 64 nb)), .fz (.int N), .fz (.int sp), .fz (.int ti), .ow [], .un, .un, .un, .un])
    (fun i e => ∃ A o5 o6, e = [.fz (.lst (rowD 64 nb)), .fz (.int N), .fz (.int sp), .fz (.int ti), .ow (rowsT i N A), o5, o6, .un, .un] ∧ ∀ k, k < i → ∀ i, i < N → Bd 100 (A k i)) ⟨fun _ _ => 0, _, _, rfl, fun k hk => by omega⟩ (by
      rintro i d e hd ⟨A, o5, o6, rfl, hA⟩
      obtain ⟨hi, rfl⟩ := rng_get hd
      have rb : ∀ s, Bd 10 ((nb (42 + 4 * i + s)).fmod (2 * sp + 1) - sp) := fun s => by
        have := mod_b (nb (42 + 4 * i + s)) (m := 2 * sp + 1) (by omega)
        exact bd_lit (by simp; omega) (by simp; omega)
      have e1 : acC1 [.fz (.lst (rowD 64 nb)), .fz (.int N), .fz (.int sp), .fz (.int ti), .ow (rowsT i N A), .fz (.int i), o6, .un, .un] = .ok (.ow (rowD N fun s => (nb (42 + 4 * i + s)).fmod (2 * sp + 1) - sp)) := by
        refine rg_lc (by omega) (by simp) (by simp [rN]) fun k hk => ?_
        have o : atI (rowD 64 nb) (42 + 4 * (i : Int) + (k : Int)) = some (.int (nb (42 + 4 * i + k))) := by
          have := ix_row (f := nb) (N := 64) (j := 42 + 4 * i + k) (by omega)
          rw [← this]; simp
        simp only [wipeE, List.map, List.set, ev_frzO, ev_frzF, ev_e2, ev_eA, ev_aCons, ev_vs, ev_v0f, ev_bok, ev_rfz, ev_ixL, ev_c, m4, m2, ev_add, ev_sub, o, ev_oR, ev_pok, ev_aNil, ev_int, md]
      have e2 : acC2 [.fz (.lst (rowD 64 nb)), .fz (.int N), .fz (.int sp), .fz (.int ti), .ow (rowsT i N A), .fz (.int i), .ow (rowD N fun s => (nb (42 + 4 * i + s)).fmod (2 * sp + 1) - sp), .un, .un] = .ok (.ow (rowD N fun s => ((nb (42 + 4 * i + s)).fmod (2 * sp + 1) - sp) * ti)) := by
        refine ev_lc (ds := rowD N fun s => (nb (42 + 4 * i + s)).fmod (2 * sp + 1) - sp) (by simp) (by simp) ?_ (.inr (by simp; omega))
        refine lcL_map (List.range N) _ (fun s => .int (((nb (42 + 4 * i + s)).fmod (2 * sp + 1) - sp) * ti)) fun k hk => ⟨_, .fz (.int (((nb (42 + 4 * i + k)).fmod (2 * sp + 1) - sp) * ti)), rfl, rfl, ?_, rfl⟩
        simp [wipeE, mul_ok ((rb k).sml (by omega)) (bt.sml (by omega))]
      have hsz : (rowsT i N A).length < PySem.sizeLine := by have := sz; simp; omega
      have ot : ∀ ds : List DL.D, oTuple [.lst ds] = .ok (.fz (.tup ds)) := fun _ => rfl
      refine ⟨_, rfl, [.fz (.lst (rowD 64 nb)), .fz (.int N), .fz (.int sp), .fz (.int ti), .ow (rowsT (i + 1) N fun k => if k = i then (fun s => ((nb (42 + 4 * i + s)).fmod (2 * sp + 1) - sp) * ti) else A k), .fz (.int i), .ow (rowD N fun s => (nb (42 + 4 * i + s)).fmod (2 * sp + 1) - sp), .un, .un], .inl ?_, _, _, _, rfl, fun k hk s hs => ?_⟩
      · unfold acB
        simp only [List.set, ev_seq, ev_set, e1, ev_ofM, ev_frzRow, ev_sow, ev_tn, ev_app, ev_ownS, ev_own0, ev_eA, ev_aCons, e2, ev_bok, ev_row, ev_aNil, ot, ev_pok, frz_tup, hsz, if_true, ev_rfz, rowsT_push]
      · show Bd 100 ((if k = i then (fun s => ((nb (42 + 4 * i + s)).fmod (2 * sp + 1) - sp) * ti) else A k) s)
        by_cases hki : k = i
        · rw [if_pos hki]; exact ((rb s).mul bt).up (by omega)
        · rw [if_neg hki]; exact hA k (by omega) s hs)
  rw [rgD_len] at l hA
  refine ⟨1 + a, A, runD_ok ?_, by omega, by omega, hA⟩
  rw [go]
  have r1 : oRng1 [.int (1 + (a : Int))] = .ok (rgD (1 + a)) := by
    have := rng1 (n := 1 + a) (by omega)
    rw [← this]; simp
  have fz0 : ∀ env : DL.Env, frzIf (.ow []) [] env = env := fun env => rfl
  simp only [ev_seq, ev_set, ev_eA, ev_e2, ev_aNil, ev_bok, l0, ev_pok, ev_ofM, fz0, ev_sow, List.set, ev_tn, ev_for, ev_iA, ev_aCons, ev_vs, ev_v0f, ev_rfz, ev_c, ev_ixL, c5, ev_oR, ev_int, m5, ea, ev_add, r1, ev_fzCons, ev_fzNil, List.getD_cons_zero, List.getD_cons_succ, ev_frzF, l, ev_retVs, ev_retVo]
theorem law_changed_is {n k : Nat} {f : Nat → Int} {st : Int} (hk : k < n) : m_law_changed [.tup (rowD n f), .int k, .int st] = .ok (.fz (.tup (rowD n fun i => if i = k then f k + st else f i))) := by
  refine runD_ok ?_
  have ol : ∀ ds : List DL.D, oList [.tup ds] = .ok (.ow ds) := fun _ => rfl
  have ot : ∀ ds : List DL.D, oTuple [.lst ds] = .ok (.fz (.tup ds)) := fun _ => rfl
  show b_law_changed [.fz (.tup (rowD n f)), .fz (.int k), .fz (.int st), .un] = _
  unfold b_law_changed
  simp only [ev_seq, ev_set, ev_eA, ev_aCons, ev_vs, ev_v0f, ev_v0o, ev_bok, ev_rfz, ev_row, ev_aNil, ol, ev_pok, ev_ofM, ev_frzRow, ev_sow, List.set, ev_tn, ev_setIx, ev_ownS, ev_own0, ev_e2, ev_ixL, ix_row hk, ev_oR, ev_add, ev_frzInt, rowD_len, DL.ixN_nat hk, rowD_set hk, ev_ret, ot]
def inB : DL.Env → DL.So := (sIf [2, 2] (tO (tN (tV (e1 (oIsi "int") (eVar 2)))) (tV (e1 (oIsi "bool") (eVar 2)))) (sRet [] (eC (.bl false))) sNext)
theorem law_integers_is {N : Nat} {f : Nat → Int} : m_law_integers [.tup (rowD N f), .int N] = .ok (.fz (.bl true)) := by
  refine runD_ok ?_
  have hb : b_law_integers = (sSeq (sIf [0, 0, 1] (tO (tN (tV (e1 (oIsi "tuple") (eVar 0)))) (tV (e2 (cop .NotEq) (eA oLen (aCons (eVar 0) aNil)) (eVar 1)))) (sRet [] (eC (.bl false))) sNext) (sSeq (sFor [0] (iE iterA (eVar 0)) (nName 2) inB) (sRet [] (eC (.bl true))))) := rfl
  have i1 : ∀ ds, oIsi "tuple" (.tup ds) = .ok (.fz (.bl true)) := fun _ => rfl
  have i2 : ∀ i, oIsi "int" (.int i) = .ok (.fz (.bl true)) := fun _ => rfl
  have i3 : ∀ i, oIsi "bool" (.int i) = .ok (.fz (.bl false)) := fun _ => rfl
  obtain ⟨e, l, o2, rfl⟩ := forL_nx (t := nName 2) (body := inB) (ds := rowD N f) (env := [.fz (.tup (rowD N f)), .fz (.int N), .un]) (fun k e => ∃ o2, e = [.fz (.tup (rowD N f)), .fz (.int N), o2]) ⟨_, rfl⟩ (by
    rintro i d e hd ⟨o2, rfl⟩
    obtain ⟨hi, rfl⟩ := rowD_at hd
    refine ⟨_, rfl, _, .inl ?_, .fz (.int (f i)), rfl⟩
    unfold inB
    simp [i2, i3])
  rw [hb]
  simp [startE, i1, l]
def weB : DL.Env → DL.So := (sIf [2] (tV (e2 (cop .Lt) (eVar 2) (eC (.int 0)))) (sRet [] (eC (.bl false))) sNext)
theorem law_weighs_says {M m : Nat} {w : Nat → Int} {d : DL.D} (hd : Sq d (rowD M w)) : Says (m_law_weighs [d, .int m]) (Wt M m w) := by
  have hb : b_law_weighs = (sSeq (sIf [0, 1, 0] (tO (tV (e2 (cop .NotEq) (eA oLen (aCons (eVar 0) aNil)) (eVar 1))) (tV (e2 (cop .Eq) (eA oSum (aCons (eVar 0) aNil)) (eC (.int 0))))) (sRet [] (eC (.bl false))) sNext) (sSeq (sFor [0] (iE iterA (eVar 0)) (nName 2) weB) (sRet [] (eC (.bl true))))) := rfl
  have fals : ∀ {P : Prop}, ¬ P → (false = true ↔ P) := fun h => ⟨fun h' => (by cases h'), fun h' => absurd h' h⟩
  by_cases h : M = m
  · subst h
    by_cases h0 : Sx.sm M w = 0
    · refine ⟨false, runD_ok ?_, fals fun h => by have := h.pos; omega⟩
      rw [hb]
      simp [startE, hd.len, hd.sum, h0]
    · have loop := forL_gen (t := nName 2) (body := weB) (ds := rowD M w) (env := [.fz d, .fz (.int M), .un])
        (fun i e => (∀ k, k < i → 0 ≤ w k) ∧ ∃ o2, e = [.fz d, .fz (.int M), o2])
        (fun z => (z = .rt (.fz (.bl false)) ∧ ¬ ∀ k, k < M → 0 ≤ w k) ∨ ∃ e, z = .nx e ∧ ∀ k, k < M → 0 ≤ w k) ⟨fun k hk => by omega, _, rfl⟩ (by
          rintro i dd e hdd ⟨good, o2, rfl⟩
          obtain ⟨hi, rfl⟩ := rowD_at hdd
          refine ⟨_, rfl, ?_⟩
          show _ ∨ _
          by_cases q : w i < 0
          · refine .inr (.inl ⟨_, ?_, .inl ⟨rfl, fun h => by have := h i hi; omega⟩⟩)
            unfold weB
            simp [q]
          · refine .inl ⟨[.fz d, .fz (.int M), .fz (.int (w i))], .inl ?_, fun k hk => ?_, _, rfl⟩
            · unfold weB
              simp [q]
            · by_cases hki : k = i
              · rw [hki]; omega
              · exact good k (by omega))
        (fun e ⟨good, _⟩ => .inr ⟨e, rfl, fun k hk => good k (by simpa using hk)⟩)
      have start : b_law_weighs (startE 3 [d, .int M]) = (forL (nName 2) weB (rowD M w) [.fz d, .fz (.int M), .un]).andThen (sRet [] (eC (.bl true))) := by
        rw [hb]
        simp [startE, hd.len, hd.sum, h0, hd.iter]
      rcases loop with ⟨l1, nk⟩ | ⟨e, l1, nn⟩
      · exact ⟨false, runD_ok (by rw [start, l1]; simp), fals fun h => nk h.nn⟩
      · exact ⟨true, runD_ok (by rw [start, l1]; simp), by simp only [true_iff]; exact ⟨rfl, nn, by have := Sx.sm_nonneg nn; omega⟩⟩
  · refine ⟨false, runD_ok ?_, fals fun h' => h h'.len⟩
    rw [hb]
    have h' : ¬ (M : Int) = (m : Int) := by omega
    simp [startE, hd.len, h']
end K62
end

section
set_option maxRecDepth 100000
set_option maxHeartbeats 1000000
/-! _law_shows. -/
namespace K62
open L2 DL PG LW
def pr (S : Nat → Int) : Nat → Int
  | 0 => 1
  | k+1 => pr S k * S k
theorem pr_pos {S : Nat → Int} : ∀ {k : Nat}, (∀ j, j < k → 0 < S j) → 0 < pr S k
  | 0, _ => Int.one_pos
  | k+1, h => Int.mul_pos (pr_pos fun j hj => h j (by omega)) (h k (by omega))
theorem pr_dvd {S : Nat → Int} : ∀ {k j : Nat}, j < k → S j ∣ pr S k
  | k+1, j, h => by
    by_cases hj : j = k
    · subst hj; exact Int.dvd_mul_left _ _
    · exact Int.dvd_trans (pr_dvd (show j < k by omega)) (Int.dvd_mul_right _ _)
theorem pr_bd {S : Nat → Int} {n : Nat} : ∀ {k : Nat}, (∀ j, j < k → Bd n (S j)) → Bd (n * k + 1) (pr S k)
  | 0, _ => by unfold Bd; show 1 < 2 ^ 1; decide
  | k+1, h => ((pr_bd (S := S) (n := n) (k := k) fun j hj => h j (by omega)).mul (h k (by omega))).up (by rw [Nat.mul_add]; omega)
def shI1 : DL.Env → DL.So := (sSet 7 [7, 3, 8, 6, 1, 8] (e2 oAdd (eVar 7) (e2 oMul (e2 oIx (eVar 3) (eVar 8)) (eA (oCal 2 m_law_dot) (aCons (eVar 6) (aCons (e2 oIx (eVar 1) (eVar 8)) aNil))))))
def shB1 : DL.Env → DL.So := (sSeq (sSet 5 [5, 6] (e2 oMul (eVar 5) (eA oSum (aCons (eVar 6) aNil)))) (sSeq (sSet 7 [] (eC (.int 0))) (sSeq (sFor [1] (iA oRng1 (aCons (eA oLen (aCons (eVar 1) aNil)) aNil)) (nName 8) shI1) (sIf [7, 2, 2, 3, 6] (tV (e2 (cop .Lt) (e2 oMul (eVar 7) (e2 oIx (eVar 2) (eC (.int 1)))) (e2 oMul (e2 oMul (e2 oIx (eVar 2) (eC (.int 0))) (eA oSum (aCons (eVar 3) aNil))) (eA oSum (aCons (eVar 6) aNil))))) (sRet [] (eC (.bl false))) sNext))))
def shI2 : DL.Env → DL.So := (sSet 7 [7, 4, 8, 0, 8, 9, 5, 0, 8] (e2 oAdd (eVar 7) (e2 oMul (e2 oMul (e2 oIx (eVar 4) (eVar 8)) (eA (oCal 2 m_law_dot) (aCons (e2 oIx (eVar 0) (eVar 8)) (aCons (eVar 9) aNil)))) (e2 oDiv (eVar 5) (eA oSum (aCons (e2 oIx (eVar 0) (eVar 8)) aNil))))))
def shB2 : DL.Env → DL.So := (sSeq (sSet 7 [] (eC (.int 0))) (sSeq (sFor [0] (iA oRng1 (aCons (eA oLen (aCons (eVar 0) aNil)) aNil)) (nName 8) shI2) (sIf [7, 2, 2, 5, 4] (tV (e2 (cop .Gt) (e2 oMul (eVar 7) (e2 oIx (eVar 2) (eC (.int 1)))) (e2 oMul (e2 oMul (e2 oIx (eVar 2) (eC (.int 0))) (eVar 5)) (eA oSum (aCons (eVar 4) aNil))))) (sRet [] (eC (.bl false))) sNext)))
def shR : DL.Env → DL.So := (sSeq (sFor [1] (iE iterA (eVar 1)) (nName 9) shB2) (sRet [] (eC (.bl true))))
section
variable {R N m : Nat} {W A : Nat → Nat → Int} {v0 v1 : Int} {wt sh : Nat → Int} {c c' : List DL.D → DL.D} {dl da dw ds : DL.D}
theorem law_shows_says {Mw Ms : Nat} (z : MxSz R N m W A) (hc : ∀ ds, Sq (c ds) ds) (hc' : ∀ ds, Sq (c' ds) ds) (hl : Sq dl (rowsC c R N W)) (ha : Sq da (rowsC c' m N A)) (hw : Sq dw (rowD Mw wt)) (hs : Sq ds (rowD Ms sh))
    (bv0 : Bd 900 v0) (bv1 : Bd 900 v1) (bw : ∀ i, i < Mw → Bd 900 (wt i)) (bs : ∀ i, i < Ms → Bd 900 (sh i)) :
    Says (m_law_shows [dl, da, fr v0 v1, dw, ds]) (Wt Mw m wt ∧ Wt Ms R sh ∧ Reach R N m W A v0 v1 wt ∧ WithinM R N m W A v0 v1 sh (pr (fun c => Sx.sm N (W c)) R) (fun c => (pr (fun c => Sx.sm N (W c)) R).fdiv (Sx.sm N (W c)))) := by
  have hb : b_law_shows = (sSeq (sIf [3, 1, 4, 0] (tO (tN (tV (eA (oCal 2 m_law_weighs) (aCons (eVar 3) (aCons (eA oLen (aCons (eVar 1) aNil)) aNil))))) (tN (tV (eA (oCal 2 m_law_weighs) (aCons (eVar 4) (aCons (eA oLen (aCons (eVar 0) aNil)) aNil)))))) (sRet [] (eC (.bl false))) sNext) (sSeq (sSet 5 [] (eC (.int 1))) (sSeq (sFor [0] (iE iterA (eVar 0)) (nName 6) shB1) shR))) := rfl
  have fals : ∀ {P : Prop}, ¬ P → (false = true ↔ P) := fun h => ⟨fun h' => (by cases h'), fun h' => absurd h' h⟩
  obtain ⟨b1, e1, i1⟩ := law_weighs_says (m := m) hw
  obtain ⟨b2, e2, i2⟩ := law_weighs_says (m := R) hs
  have la : oLen [da] = .ok (.fz (.int m)) := by rw [ha.len, rowsC_len]
  have ll : oLen [dl] = .ok (.fz (.int R)) := by rw [hl.len, rowsC_len]
  by_cases h1 : Wt Mw m wt
  · by_cases h2 : Wt Ms R sh
    · have hb1 : b1 = true := i1.mpr h1
      have hb2 : b2 = true := i2.mpr h2
      subst hb1 hb2
      obtain rfl := h1.len
      obtain rfl := h2.len.symm
      have rR := z.rR
      have nN := z.nN
      have m5 := z.m5
      have Sm : ∀ k, k < R → Bd 15 (Sx.sm N (W k)) := fun k hk => sm_bd (z.wb k hk) (by omega)
      have swb : Bd 905 (Sx.sm Mw wt) := sm_bd bw (by omega)
      have ssb : Bd 905 (Sx.sm R sh) := sm_bd bs (by omega)
      have mv0 : oMul (.int v0) (.int (Sx.sm Mw wt)) = .ok (.fz (.int (v0 * Sx.sm Mw wt))) := mul_ok (bv0.sml (by omega)) (swb.sml (by omega))
      generalize hS : (fun c => Sx.sm N (W c)) = S at *
      have hS' : ∀ k, Sx.sm N (W k) = S k := fun k => congrFun hS k
      have Sp : ∀ k, k < R → 0 < S k := fun k hk => by rw [← hS']; exact z.wp k hk
      have prb : ∀ k, k ≤ R → Bd 500 (pr S k) := fun k hk => (pr_bd (n := 15) fun j hj => by rw [← hS']; exact Sm j (by omega)).up (by omega)
      have ixA : ∀ k : Nat, k < Mw → oIx da (.int k) = .ok (.fz (c' (rowD N (A k)))) := fun k hk => by rw [ha.ix, ix_rowsC hk]; rfl
      have ixL : ∀ k : Nat, k < R → oIx dl (.int k) = .ok (.fz (c (rowD N (W k)))) := fun k hk => by rw [hl.ix, ix_rowsC hk]; rfl
      have ixw : ∀ k : Nat, k < Mw → oIx dw (.int k) = .ok (.fz (.int (wt k))) := fun k hk => by rw [hw.ix, ix_row hk]; rfl
      have ixs : ∀ k : Nat, k < R → oIx ds (.int k) = .ok (.fz (.int (sh k))) := fun k hk => by rw [hs.ix, ix_row hk]; rfl
      have db : ∀ c, c < R → ∀ k, k < Mw → Bd 115 (dotF N (W c) (A k)) := fun c hc k hk => dot_bd (z.wb c hc) (z.ab k hk) (by omega)
      have dt : ∀ cc, cc < R → ∀ k, k < Mw → m_law_dot [c (rowD N (W cc)), c' (rowD N (A k))] = .ok (.fz (.int (dotF N (W cc) (A k)))) := fun cc hcc k hk =>
        law_dot_is (show N < 1000000 by omega) (Nat.le_refl N) (hc _) (hc' _) fun j hj => mul_small ((z.wb cc hcc j hj).sml (by omega)) ((z.ab k hk j hj).sml (by omega))
      -- the first loop
      have in1 : ∀ cc, cc < R → ∀ (pc : Int) o8 o9, ∃ o8', forL (nName 8) shI1 (rgD Mw) [.fz dl, .fz da, .fz (fr v0 v1), .fz dw, .fz ds, .fz (.int pc), .fz (c (rowD N (W cc))), .fz (.int 0), o8, o9] = .nx [.fz dl, .fz da, .fz (fr v0 v1), .fz dw, .fz ds, .fz (.int pc), .fz (c (rowD N (W cc))), .fz (.int (dotF Mw wt fun k => dotF N (W cc) (A k))), o8', o9] := fun cc hcc pc o8 o9 => by
        obtain ⟨e, l, o8', rfl⟩ := forL_nx (t := nName 8) (body := shI1) (ds := rgD Mw) (env := [.fz dl, .fz da, .fz (fr v0 v1), .fz dw, .fz ds, .fz (.int pc), .fz (c (rowD N (W cc))), .fz (.int 0), o8, o9])
          (fun k e => ∃ o8, e = [.fz dl, .fz da, .fz (fr v0 v1), .fz dw, .fz ds, .fz (.int pc), .fz (c (rowD N (W cc))), .fz (.int (Sx.sm k fun k => wt k * dotF N (W cc) (A k))), o8, o9]) ⟨_, rfl⟩ (by
            rintro i d e hd ⟨o8, rfl⟩
            obtain ⟨hi, rfl⟩ := rng_get hd
            refine ⟨_, rfl, [.fz dl, .fz da, .fz (fr v0 v1), .fz dw, .fz ds, .fz (.int pc), .fz (c (rowD N (W cc))), .fz (.int (Sx.sm (i + 1) fun k => wt k * dotF N (W cc) (A k))), .fz (.int i), o9], .inl ?_, _, rfl⟩
            have ml := mul_ok ((bw i hi).sml (by omega)) ((db cc hcc i hi).sml (by omega))
            unfold shI1
            simp only [List.set, ev_set, ev_e2, ev_eA, ev_aCons, ev_vs, ev_v0f, ev_bok, ev_rfz, ev_aNil, ixA i hi, ixw i hi, ev_pok, oCal, List.length_cons, List.length_nil, if_true, dt cc hcc i hi, ml, ev_add, ev_ofM, ev_frzInt, ev_sfz, Sx.sm])
        rw [rgD_len] at l
        exact ⟨o8', l⟩
      have loop1 := forL_gen (t := nName 6) (body := shB1) (ds := rowsC c R N W) (env := [.fz dl, .fz da, .fz (fr v0 v1), .fz dw, .fz ds, .fz (.int 1), .un, .un, .un, .un])
        (fun i e => (∀ k, k < i → v0 * Sx.sm Mw wt * Sx.sm N (W k) ≤ dotF Mw wt (fun k' => dotF N (W k) (A k')) * v1) ∧ ∃ o6 o7 o8, e = [.fz dl, .fz da, .fz (fr v0 v1), .fz dw, .fz ds, .fz (.int (pr S i)), o6, o7, o8, .un])
        (fun y => (y = .rt (.fz (.bl false)) ∧ ¬ Reach R N Mw W A v0 v1 wt) ∨ ∃ o6 o7 o8, y = .nx [.fz dl, .fz da, .fz (fr v0 v1), .fz dw, .fz ds, .fz (.int (pr S R)), o6, o7, o8, .un] ∧ Reach R N Mw W A v0 v1 wt)
        ⟨fun k hk => by omega, _, _, _, rfl⟩ (by
          rintro i dd e hdd ⟨good, o6, o7, o8, rfl⟩
          obtain ⟨hi, rfl⟩ := rowsC_at hdd
          obtain ⟨o8', l1⟩ := in1 i hi (pr S (i + 1)) o8 .un
          refine ⟨_, rfl, ?_⟩
          show _ ∨ _
          have gb : Bd 1020 (dotF Mw wt fun k => dotF N (W i) (A k)) := (dot_bd bw (fun k hk => db i hi k hk) (by omega)).up (by omega)
          have mp : oMul (.int (pr S i)) (.int (S i)) = .ok (.fz (.int (pr S (i + 1)))) := mul_ok ((prb i (by omega)).sml (by omega)) (by rw [← hS']; exact (Sm i hi).sml (by omega))
          have mg := mul_ok (gb.sml (by omega)) (bv1.sml (by omega))
          have mr : oMul (.int (v0 * Sx.sm Mw wt)) (.int (S i)) = .ok (.fz (.int (v0 * Sx.sm Mw wt * S i))) := mul_ok ((bv0.mul swb).sml (by omega)) (by rw [← hS']; exact (Sm i hi).sml (by omega))
          have ev : shB1 [.fz dl, .fz da, .fz (fr v0 v1), .fz dw, .fz ds, .fz (.int (pr S i)), .fz (c (rowD N (W i))), o7, o8, .un] = if dotF Mw wt (fun k => dotF N (W i) (A k)) * v1 < v0 * Sx.sm Mw wt * S i then .rt (.fz (.bl false)) else .nx [.fz dl, .fz da, .fz (fr v0 v1), .fz dw, .fz ds, .fz (.int (pr S (i + 1))), .fz (c (rowD N (W i))), .fz (.int (dotF Mw wt fun k => dotF N (W i) (A k))), o8', .un] := by
            unfold shB1
            simp only [ev_seq, ev_set, ev_e2, ev_eA, ev_aCons, ev_vs, ev_v0f, ev_bok, ev_rfz, ev_aNil, (hc _).sum, hS', mp, ev_pok, ev_ofM, ev_frzInt, ev_sfz, List.set, ev_tn, ev_c, ev_for, ev_iA, la, rng1 (show Mw < 1000000 by omega), ev_fzCons, ev_fzNil, List.getD_cons_zero, List.getD_cons_succ, ev_frzF, l1, ev_if, ev_tV, fr_ix0, fr_ix1, mg, hw.sum, mv0, mr, ev_copLt, ev_lt, ev_asB, decide_eq_true_eq, ev_ret, ev_next]
          by_cases q : dotF Mw wt (fun k => dotF N (W i) (A k)) * v1 < v0 * Sx.sm Mw wt * S i
          · refine .inr (.inl ⟨_, by rw [show (_ : DL.Env).set 6 (.fz (c (rowD N (W i)))) = _ from rfl, List.set] ; exact ev.trans (if_pos q), .inl ⟨rfl, fun h => by have := h i hi; rw [hS'] at this; omega⟩⟩)
          · refine .inl ⟨[.fz dl, .fz da, .fz (fr v0 v1), .fz dw, .fz ds, .fz (.int (pr S (i + 1))), .fz (c (rowD N (W i))), .fz (.int (dotF Mw wt fun k => dotF N (W i) (A k))), o8', .un], .inl (ev.trans (if_neg q)), fun k hk => ?_, _, _, _, rfl⟩
            by_cases hki : k = i
            · rw [hki, hS']; omega
            · exact good k (by omega))
        (fun e ⟨good, o6, o7, o8, he⟩ => .inr ⟨o6, o7, o8, by rw [he, rowsC_len], fun k hk => good k (by simpa using hk)⟩)
      have start : b_law_shows (startE 10 [dl, da, fr v0 v1, dw, ds]) = (forL (nName 6) shB1 (rowsC c R N W) [.fz dl, .fz da, .fz (fr v0 v1), .fz dw, .fz ds, .fz (.int 1), .un, .un, .un, .un]).andThen shR := by
        rw [hb]
        show sSeq _ _ [.fz dl, .fz da, .fz (fr v0 v1), .fz dw, .fz ds, .un, .un, .un, .un, .un] = _
        simp only [ev_seq, ev_if, ev_tO, ev_tN, ev_tV, ev_eA, ev_aCons, ev_vs, ev_v0f, ev_bok, ev_rfz, ev_aNil, la, ll, ev_pok, oCal, List.length_cons, List.length_nil, if_true, e1, e2, ev_asB, Bool.not_true, Bool.false_eq_true, if_false, ev_ofM, ev_next, ev_tn, ev_set, ev_c, ev_frzInt, ev_sfz, List.set, ev_for, ev_iE, hl.iter, ev_fzCons, ev_fzNil, List.getD_cons_zero, ev_frzF]
      rcases loop1 with ⟨l1, nk⟩ | ⟨o6, o7, o8, l1, reach⟩
      · exact ⟨false, runD_ok (by rw [start, l1]; simp), fals fun h => nk h.2.2.1⟩
      · have gq : ∀ k, k < R → (pr S R).fdiv (S k) * S k = pr S R := fun k hk => by
          obtain ⟨q, hq⟩ := pr_dvd (S := S) hk
          have := Sp k hk
          rw [hq, Int.mul_fdiv_cancel_left _ (by omega), Int.mul_comm]
        have gb : ∀ k, k < R → Bd 500 ((pr S R).fdiv (S k)) := fun k hk => by
          have h3 := congrArg Int.natAbs (gq k hk)
          rw [Int.natAbs_mul] at h3
          have := Sp k hk
          refine bd_le (b := pr S R) ?_ (prb R (Nat.le_refl _))
          rw [← h3]
          exact Nat.le_mul_of_pos_right _ (by omega)
        have tb : ∀ k, k < Mw → ∀ c, c < R → Bd 1515 (sh c * dotF N (W c) (A k) * (pr S R).fdiv (S c)) := fun k hk c hc => (((bs c hc).mul (db c hc k hk)).mul (gb c hc)).up (by omega)
        have in2 : ∀ k, k < Mw → ∀ o6 o8, ∃ o8', forL (nName 8) shI2 (rgD R) [.fz dl, .fz da, .fz (fr v0 v1), .fz dw, .fz ds, .fz (.int (pr S R)), o6, .fz (.int 0), o8, .fz (c' (rowD N (A k)))] = .nx [.fz dl, .fz da, .fz (fr v0 v1), .fz dw, .fz ds, .fz (.int (pr S R)), o6, .fz (.int (Sx.sm R fun c => sh c * dotF N (W c) (A k) * (pr S R).fdiv (S c))), o8', .fz (c' (rowD N (A k)))] := fun k hk o6 o8 => by
          obtain ⟨e, l, o8', rfl⟩ := forL_nx (t := nName 8) (body := shI2) (ds := rgD R) (env := [.fz dl, .fz da, .fz (fr v0 v1), .fz dw, .fz ds, .fz (.int (pr S R)), o6, .fz (.int 0), o8, .fz (c' (rowD N (A k)))])
            (fun n e => ∃ o8, e = [.fz dl, .fz da, .fz (fr v0 v1), .fz dw, .fz ds, .fz (.int (pr S R)), o6, .fz (.int (Sx.sm n fun c => sh c * dotF N (W c) (A k) * (pr S R).fdiv (S c))), o8, .fz (c' (rowD N (A k)))]) ⟨_, rfl⟩ (by
              rintro i d e hd ⟨o8, rfl⟩
              obtain ⟨hi, rfl⟩ := rng_get hd
              refine ⟨_, rfl, [.fz dl, .fz da, .fz (fr v0 v1), .fz dw, .fz ds, .fz (.int (pr S R)), o6, .fz (.int (Sx.sm (i + 1) fun c => sh c * dotF N (W c) (A k) * (pr S R).fdiv (S c))), .fz (.int i), .fz (c' (rowD N (A k)))], .inl ?_, _, rfl⟩
              have m1 := mul_ok ((bs i hi).sml (by omega)) ((db i hi k hk).sml (by omega))
              have m2 := mul_ok (((bs i hi).mul (db i hi k hk)).sml (by omega)) ((gb i hi).sml (by omega))
              have dv : oDiv (.int (pr S R)) (.int (S i)) = .ok (.fz (.int ((pr S R).fdiv (S i)))) := div_ok (by have := Sp i hi; omega) (by rw [← hS']; exact (Sm i hi).sml (by omega))
              unfold shI2
              simp only [List.set, ev_set, ev_e2, ev_eA, ev_aCons, ev_vs, ev_v0f, ev_bok, ev_rfz, ev_aNil, ixL i hi, ixs i hi, ev_pok, oCal, List.length_cons, List.length_nil, if_true, dt i hi k hk, m1, (hc _).sum, hS', dv, m2, ev_add, ev_ofM, ev_frzInt, ev_sfz, Sx.sm])
          rw [rgD_len] at l
          exact ⟨o8', l⟩
        have loop2 := forL_gen (t := nName 9) (body := shB2) (ds := rowsC c' Mw N A) (env := [.fz dl, .fz da, .fz (fr v0 v1), .fz dw, .fz ds, .fz (.int (pr S R)), o6, o7, o8, .un])
          (fun i e => (∀ k, k < i → Sx.sm R (fun c => sh c * dotF N (W c) (A k) * (pr S R).fdiv (S c)) * v1 ≤ v0 * pr S R * Sx.sm R sh) ∧ ∃ o7 o8 o9, e = [.fz dl, .fz da, .fz (fr v0 v1), .fz dw, .fz ds, .fz (.int (pr S R)), o6, o7, o8, o9])
          (fun y => (y = .rt (.fz (.bl false)) ∧ ¬ WithinM R N Mw W A v0 v1 sh (pr S R) (fun c => (pr S R).fdiv (Sx.sm N (W c)))) ∨ ∃ e, y = .nx e ∧ WithinM R N Mw W A v0 v1 sh (pr S R) (fun c => (pr S R).fdiv (Sx.sm N (W c))))
          ⟨fun k hk => by omega, _, _, _, rfl⟩ (by
            rintro i dd e hdd ⟨good, o7, o8, o9, rfl⟩
            obtain ⟨hi, rfl⟩ := rowsC_at hdd
            obtain ⟨o8', l2⟩ := in2 i hi o6 o8
            refine ⟨_, rfl, ?_⟩
            show _ ∨ _
            have gb' : Bd 1520 (Sx.sm R fun c => sh c * dotF N (W c) (A i) * (pr S R).fdiv (S c)) := sm_bd (tb i hi) (by omega)
            have mg := mul_ok (gb'.sml (by omega)) (bv1.sml (by omega))
            have m1 := mul_ok (bv0.sml (by omega)) ((prb R (Nat.le_refl _)).sml (by omega))
            have m2 := mul_ok ((bv0.mul (prb R (Nat.le_refl _))).sml (by omega)) (ssb.sml (by omega))
            have ev : shB2 [.fz dl, .fz da, .fz (fr v0 v1), .fz dw, .fz ds, .fz (.int (pr S R)), o6, o7, o8, .fz (c' (rowD N (A i)))] = if v0 * pr S R * Sx.sm R sh < Sx.sm R (fun c => sh c * dotF N (W c) (A i) * (pr S R).fdiv (S c)) * v1 then .rt (.fz (.bl false)) else .nx [.fz dl, .fz da, .fz (fr v0 v1), .fz dw, .fz ds, .fz (.int (pr S R)), o6, .fz (.int (Sx.sm R fun c => sh c * dotF N (W c) (A i) * (pr S R).fdiv (S c))), o8', .fz (c' (rowD N (A i)))] := by
              unfold shB2
              simp only [ev_seq, ev_set, ev_e2, ev_eA, ev_aCons, ev_vs, ev_v0f, ev_bok, ev_rfz, ev_aNil, ev_pok, ev_ofM, ev_frzInt, ev_sfz, List.set, ev_tn, ev_c, ev_for, ev_iA, ll, rng1 (show R < 1000000 by omega), ev_fzCons, ev_fzNil, List.getD_cons_zero, ev_frzF, l2, ev_if, ev_tV, fr_ix0, fr_ix1, mg, hs.sum, m1, m2, ev_copGt, ev_gt, ev_asB, decide_eq_true_eq, ev_ret, ev_next]
            by_cases q : v0 * pr S R * Sx.sm R sh < Sx.sm R (fun c => sh c * dotF N (W c) (A i) * (pr S R).fdiv (S c)) * v1
            · refine .inr (.inl ⟨_, ev.trans (if_pos q), .inl ⟨rfl, fun h => by
                have := h i hi
                simp only [hS'] at this
                omega⟩⟩)
            · refine .inl ⟨_, .inl (ev.trans (if_neg q)), fun k hk => ?_, _, _, _, rfl⟩
              by_cases hki : k = i
              · rw [hki]; omega
              · exact good k (by omega))
          (fun e ⟨good, _⟩ => .inr ⟨e, rfl, fun k hk => by
            have := good k (by simpa using hk)
            simp only [hS']
            exact this⟩)
        have go : shR [.fz dl, .fz da, .fz (fr v0 v1), .fz dw, .fz ds, .fz (.int (pr S R)), o6, o7, o8, .un] = (forL (nName 9) shB2 (rowsC c' Mw N A) [.fz dl, .fz da, .fz (fr v0 v1), .fz dw, .fz ds, .fz (.int (pr S R)), o6, o7, o8, .un]).andThen (sRet [] (eC (.bl true))) := by
          unfold shR
          simp only [ev_seq, ev_for, ev_iE, ev_vs, ev_v0f, ev_bok, ev_rfz, ha.iter, ev_pok, ev_ofM, ev_fzCons, ev_fzNil, List.set, List.getD_cons_zero, List.getD_cons_succ, ev_frzF]
        rcases loop2 with ⟨l2, nk⟩ | ⟨e, l2, within⟩
        · exact ⟨false, runD_ok (by rw [start, l1, ev_tn, go, l2]; simp), fals fun h => nk h.2.2.2⟩
        · exact ⟨true, runD_ok (by rw [start, l1, ev_tn, go, l2]; simp), by simp only [true_iff]; exact ⟨h1, h2, reach, within⟩⟩
    · have hb1 : b1 = true := i1.mpr h1
      have hb2 : b2 = false := by cases b2 with | false => rfl | true => exact absurd (i2.mp rfl) h2
      subst hb1 hb2
      refine ⟨false, runD_ok ?_, fals fun h => h2 h.2.1⟩
      rw [hb]
      show sSeq _ _ [.fz dl, .fz da, .fz (fr v0 v1), .fz dw, .fz ds, .un, .un, .un, .un, .un] = _
      simp only [ev_seq, ev_if, ev_tO, ev_tN, ev_tV, ev_eA, ev_aCons, ev_vs, ev_v0f, ev_bok, ev_rfz, ev_aNil, la, ll, ev_pok, oCal, List.length_cons, List.length_nil, if_true, e1, e2, ev_asB, Bool.not_true, Bool.not_false, Bool.false_eq_true, if_false, ev_ofM, ev_ret, ev_c, ev_tr]
  · have hb1 : b1 = false := by cases b1 with | false => rfl | true => exact absurd (i1.mp rfl) h1
    subst hb1
    refine ⟨false, runD_ok ?_, fals fun h => h1 h.1⟩
    rw [hb]
    show sSeq _ _ [.fz dl, .fz da, .fz (fr v0 v1), .fz dw, .fz ds, .un, .un, .un, .un, .un] = _
    simp only [ev_seq, ev_if, ev_tO, ev_tN, ev_tV, ev_eA, ev_aCons, ev_vs, ev_v0f, ev_bok, ev_rfz, ev_aNil, la, ll, ev_pok, oCal, List.length_cons, List.length_nil, if_true, e1, ev_asB, Bool.not_false, ev_ofM, ev_ret, ev_c, ev_tr]
end
end K62
end

section
set_option maxRecDepth 100000
set_option maxHeartbeats 1000000
/-! _law_says, _law_form, the law. -/
namespace K62
open L2 DL PG LW
section
variable {R N m : Nat} {W A : Nat → Nat → Int} {v0 v1 p q : Int} {wt sh : Nat → Int}
theorem lc_g {S : Nat → Int} {k : Nat} (hS : ∀ j, j < R → 0 < S j) (hk : k < R) : ((lc S R : Nat) : Int).fdiv (S k) * S k = (lc S R : Nat) := by
  have h := fdiv_exact (a := ((lc S R : Nat) : Int)) (g := (S k).natAbs) (by have := hS k hk; omega) (by rw [Int.natAbs_natCast]; exact lc_dvd hk)
  have e : (((S k).natAbs : Nat) : Int) = S k := by have := hS k hk; omega
  rwa [e] at h
theorem pr_g {S : Nat → Int} {k : Nat} (hS : ∀ j, j < R → 0 < S j) (hk : k < R) : (pr S R).fdiv (S k) * S k = pr S R := by
  obtain ⟨q, hq⟩ := pr_dvd (S := S) hk
  have := hS k hk
  rw [hq, Int.mul_fdiv_cancel_left _ (by omega), Int.mul_comm]
theorem law_says_true {Mw Ms : Nat} (z : MxSz R N m W A) (hv : 0 < v1) (bv0 : Bd 900 v0) (bv1 : Bd 900 v1) (bw : ∀ i, i < Mw → Bd 900 (wt i)) (bs : ∀ i, i < Ms → Bd 900 (sh i)) :
    m_law_says [.lst (rowsT R N W), .lst (rowsT m N A), fr v0 v1, .tup (rowD Mw wt), .tup (rowD Ms sh)] = .ok (.fz (.bl true)) := by
  have hS : ∀ j, j < R → 0 < (fun c => Sx.sm N (W c)) j := z.wp
  obtain ⟨b1, e1, i1⟩ := says_shows_mixture (c := .tup) (c' := .tup) z Sq.t Sq.t (Sq.l (rowsT R N W)) (Sq.l (rowsT m N A)) (Sq.t (rowD Mw wt)) (Sq.t (rowD Ms sh)) hv bv0 bv1 bw bs
  obtain ⟨b2, e2, i2⟩ := law_shows_says (c := .tup) (c' := .tup) z Sq.t Sq.t (Sq.l (rowsT R N W)) (Sq.l (rowsT m N A)) (Sq.t (rowD Mw wt)) (Sq.t (rowD Ms sh)) bv0 bv1 bw bs
  have hL : (0 : Int) < (lc (fun c => Sx.sm N (W c)) R : Nat) := by have := lc_pos hS; omega
  have hP := pr_pos hS
  have hw : ∀ (sh : Nat → Int), WithinM R N m W A v0 v1 sh (lc (fun c => Sx.sm N (W c)) R : Nat) (fun c => ((lc (fun c => Sx.sm N (W c)) R : Nat) : Int).fdiv (Sx.sm N (W c))) ↔ WithinM R N m W A v0 v1 sh (pr (fun c => Sx.sm N (W c)) R) (fun c => (pr (fun c => Sx.sm N (W c)) R).fdiv (Sx.sm N (W c))) := fun sh =>
    ⟨within_same hL hP z.wp (fun c hc => lc_g hS hc) (fun c hc => pr_g hS hc), within_same hP hL z.wp (fun c hc => pr_g hS hc) (fun c hc => lc_g hS hc)⟩
  have hb : b1 = b2 := by rw [Bool.eq_iff_iff, i1, i2, hw]
  subst hb
  refine runD_ok ?_
  have i4 : oIsi "bool" (.bl b1) = .ok (.fz (.bl true)) := rfl
  have ol : ∀ ds : List DL.D, oList [.lst ds] = .ok (.ow ds) := fun _ => rfl
  show b_law_says [.fz (.lst (rowsT R N W)), .fz (.lst (rowsT m N A)), .fz (fr v0 v1), .fz (.tup (rowD Mw wt)), .fz (.tup (rowD Ms sh)), .un] = _
  unfold b_law_says
  simp only [ev_seq, ev_set, ev_eA, ev_e1, ev_e2, ev_aCons, ev_vs, ev_v0f, ev_bok, ev_rfz, ev_row, ev_aNil, ol, oCal, List.length_cons, List.length_nil, if_true, e1, ev_pok, ev_ofM, ev_frzBl, ev_sfz, List.set, ev_tn, e2, ev_ret, va, i4, ev_asB, ev_copEq, ev_eqB, decide_true]
theorem fr_row (a b : Int) : fr a b = .tup (rowD 2 fun i => if i = 0 then a else b) := (rfl)
theorem low_one {n : Nat} {f : Nat → Int} (h : gcdN f n < 2) : lowF n f = f := by unfold lowF; rw [if_pos h]
theorem fr_gcd (a b : Int) : gcdN (fun i => if i = 0 then a else b) 2 = Nat.gcd a.natAbs b.natAbs := by
  show Nat.gcd (Nat.gcd 0 a.natAbs) b.natAbs = _
  rw [Nat.gcd_zero_left]
theorem law_form_true (M : MixIs R N m W A p q wt sh) (hm : m < 1000) (hR : R < 1000) : m_law_form [.tup [fr p q, .tup (rowD m wt), .tup (rowD R sh)], .lst (rowsT R N W), .lst (rowsT m N A)] = .ok (.fz (.bl true)) := by
  have i1 : ∀ ds, oIsi "tuple" (.tup ds) = .ok (.fz (.bl true)) := fun _ => rfl
  have g2 := law_integers_is (N := 2) (f := fun i => if i = 0 then p else q)
  have l2 := law_lowest_is (N := 2) (f := fun i => if i = 0 then p else q) (by omega) (Sq.t _) fun i hi => by
    show Bd 1000 (if i = 0 then p else q)
    split
    · exact M.bp.up (by omega)
    · exact M.bq.up (by omega)
  rw [low_one (by rw [fr_gcd]; have := M.one; omega), ← fr_row] at l2
  rw [← fr_row] at g2
  have gw := law_integers_is (N := m) (f := wt)
  have lw := law_lowest_is (N := m) (f := wt) (by omega) (Sq.t _) fun i hi => (M.bw i hi).up (by omega)
  rw [low_one M.w1] at lw
  have gs := law_integers_is (N := R) (f := sh)
  have ls := law_lowest_is (N := R) (f := sh) (by omega) (Sq.t _) fun i hi => (M.bs i hi).up (by omega)
  rw [low_one M.s1] at ls
  have n1 : oNe (fr p q) (fr p q) = .ok (.fz (.bl false)) := by rw [fr_row]; exact ne_self (n := 1) (by decide) (nm_tup (n := 0))
  have n2 : oNe (.tup (rowD m wt)) (.tup (rowD m wt)) = .ok (.fz (.bl false)) := ne_self (n := 1) (by decide) (nm_tup (n := 0))
  have n3 : oEq (.tup (rowD R sh)) (.tup (rowD R sh)) = .ok (.fz (.bl true)) := eq_self (n := 1) (by decide) (nm_tup (n := 0))
  have q1 : ¬ q < 1 := by have := M.q0; omega
  have t3 : oLen [.tup [fr p q, .tup (rowD m wt), .tup (rowD R sh)]] = .ok (.fz (.int 3)) := rfl
  have fz3 : ∀ (A : List Nat) (env : DL.Env), frzIf (.fz (.tup [fr p q, .tup (rowD m wt), .tup (rowD R sh)])) A env = env := fun A env => by
    unfold frzIf
    rw [if_pos]
    have a : D.nolAll (rowD m wt) = true := nol_row
    have b : D.nolAll (rowD R sh) = true := nol_row
    simp [Rs.nol, D.nol, D.nolAll, a, b, fr]
  have lr : oLen [.lst (rowsT R N W)] = .ok (.fz (.int R)) := by rw [ev_lenL, rowsT_len]
  have lm : oLen [.lst (rowsT m N A)] = .ok (.fz (.int m)) := by rw [ev_lenL, rowsT_len]
  refine runD_ok ?_
  show b_law_form [.fz (.tup [fr p q, .tup (rowD m wt), .tup (rowD R sh)]), .fz (.lst (rowsT R N W)), .fz (.lst (rowsT m N A)), .un, .un, .un] = _
  unfold b_law_form
  have g2' : m_law_integers [fr p q, .int 2] = .ok (.fz (.bl true)) := g2
  simp only [ev_seq, ev_if, ev_tO, ev_tN, ev_tV, ev_e1, ev_e2, ev_eA, ev_aCons, ev_vs, ev_v0f, ev_bok, ev_rfz, ev_aNil, i1, t3, ev_pok, ev_asB, Bool.not_true, Bool.false_eq_true, if_false, ev_c, ev_copNe, ev_neI, decide_true, ev_ofM, ev_next, ev_tn, ev_asg, fz3, ev_nTup, List.length_cons, List.length_nil, if_true, ev_nCons, ev_name, Option.bind_some, ev_nNil, ev_ofO, List.set, oCal, g2', fr_ix1, ev_copLt, ev_lt, q1, decide_false, l2, n1, lm, gw, lw, n2, va, lr, gs, ls, ev_copEq, n3, ev_ret]
theorem nm_rowC {n R N : Nat} {W : Nat → Nat → Int} : Nm (n + 2) (.lst (rowsC .lst R N W)) := .inr ⟨_, .inr rfl, fun x hx => by
  obtain ⟨k, _, rfl⟩ := List.mem_map.mp hx
  exact .inr ⟨_, .inr rfl, nm_row⟩⟩
theorem nol_rowC {R N : Nat} {W : Nat → Nat → Int} (h : 1 ≤ R) : D.nolAll (rowsC .lst R N W) = false := by
  obtain ⟨r, rfl⟩ : ∃ r, R = r + 1 := ⟨R - 1, by omega⟩
  unfold rowsC
  rw [List.range_succ_eq_map]
  rfl
theorem frz_rowC {R N : Nat} {W : Nat → Nat → Int} (h : 1 ≤ R) (A : List Nat) (env : DL.Env) : frzIf (.ow (rowsC .lst R N W)) A env = fzAll A env := by
  unfold frzIf
  rw [if_neg (by show ¬ D.nolAll (rowsC .lst R N W) = true; rw [nol_rowC h]; decide)]
end
end K62
end

section
set_option maxRecDepth 100000
set_option maxHeartbeats 1000000
/-! The law is True. -/
noncomputable section
namespace K62
open L2 DL PG LW
def st0 : DL.Env → DL.So := (sSet 1 [0] (eA (oCal 2 m_law_numbers) (aCons (eVar 0) (aCons (eC (.int 64)) aNil))))
def st1 : DL.Env → DL.So := (sSet 2 [1] (e2 oAdd (eC (.int 1)) (e2 oMod (eA oInt (aCons (e2 oIx (eVar 1) (eC (.int 0))) aNil)) (eC (.int 4)))))
def st2 : DL.Env → DL.So := (sSet 3 [1, 2] (eA (oCal 2 m_law_lot) (aCons (eVar 1) (aCons (eVar 2) aNil))))
def st3 : DL.Env → DL.So := (sSet 4 [1, 2] (eA (oCal 2 m_law_acts) (aCons (eVar 1) (aCons (eVar 2) aNil))))
def st4 : DL.Env → DL.So := (sSet 5 (List.range 64) (eLc [14] (iE iterA (eVar 3)) (nName 14) tYesD (eA oList (aCons (eVar 14) aNil))))
def st5 : DL.Env → DL.So := (sSet 6 (List.range 64) (eLc [15] (iE iterA (eVar 4)) (nName 15) tYesD (eA oList (aCons (eVar 15) aNil))))
def st6 : DL.Env → DL.So := (sSet 7 [5, 6] (eA (oCal 2 m_best_mixture) (aCons (eVar 5) (aCons (eVar 6) aNil))))
def st7 : DL.Env → DL.So := (sIf ([5] ++ (List.range 64 ++ ([6] ++ List.range 64))) (tO (tV (e2 (cop .NotEq) (eVar 5) (eLc [14] (iE iterA (eVar 3)) (nName 14) tYesD (eA oList (aCons (eVar 14) aNil))))) (tV (e2 (cop .NotEq) (eVar 6) (eLc [15] (iE iterA (eVar 4)) (nName 15) tYesD (eA oList (aCons (eVar 15) aNil)))))) (sRet [] (eC (.bl false))) sNext)
def st8 : DL.Env → DL.So := (sIf [7, 3, 4] (tN (tV (eA (oCal 3 m_law_form) (aCons (eVar 7) (aCons (eVar 3) (aCons (eVar 4) aNil)))))) (sRet [] (eC (.bl false))) sNext)
def st9 : DL.Env → DL.So := (sAsg [7] (nTup 3 (nCons (nName 8) (nCons (nName 9) (nCons (nName 10) nNil)))) (eVar 7))
def st10 : DL.Env → DL.So := (sIf [3, 4, 8, 9, 10, 3, 4, 8, 9, 10] (tO (tN (tV (eA (oCal 5 m_law_shows) (aCons (eVar 3) (aCons (eVar 4) (aCons (eVar 8) (aCons (eVar 9) (aCons (eVar 10) aNil)))))))) (tN (tV (eA (oCal 5 m_law_says) (aCons (eVar 3) (aCons (eVar 4) (aCons (eVar 8) (aCons (eVar 9) (aCons (eVar 10) aNil))))))))) (sRet [] (eC (.bl false))) sNext)
def st11 : DL.Env → DL.So := (sSet 11 [1] (e2 oSub (e2 oMul (eC (.int 2)) (e2 oMod (eA oInt (aCons (e2 oIx (eVar 1) (eC (.int 6))) aNil)) (eC (.int 2)))) (eC (.int 1))))
def st12 : DL.Env → DL.So := (sSet 12 [8, 11, 8] (eA (oCal 1 m_law_lowest) (aCons (eA oTupD (aCons (e2 oAdd (e2 oIx (eVar 8) (eC (.int 0))) (eVar 11)) (aCons (e2 oIx (eVar 8) (eC (.int 1))) aNil))) aNil)))
def st13 : DL.Env → DL.So := (sIf [3, 4, 12, 9, 10] (tN (tV (eA (oCal 5 m_law_says) (aCons (eVar 3) (aCons (eVar 4) (aCons (eVar 12) (aCons (eVar 9) (aCons (eVar 10) aNil)))))))) (sRet [] (eC (.bl false))) sNext)
def st14 : DL.Env → DL.So := (sSet 13 [9, 1, 4, 11] (eA (oCal 3 m_law_changed) (aCons (eVar 9) (aCons (e2 oMod (eA oInt (aCons (e2 oIx (eVar 1) (eC (.int 7))) aNil)) (eA oLen (aCons (eVar 4) aNil))) (aCons (eVar 11) aNil)))))
def st15 : DL.Env → DL.So := (sIf [3, 4, 8, 13, 10, 3, 4, 8, 9, 10] (tO (tN (tV (eA (oCal 5 m_law_says) (aCons (eVar 3) (aCons (eVar 4) (aCons (eVar 8) (aCons (eVar 13) (aCons (eVar 10) aNil)))))))) (tN (tV (eA (oCal 5 m_law_says) (aCons (eVar 3) (aCons (eVar 4) (aCons (eVar 8) (aCons (e2 oAdd (eVar 9) (eA oTupD (aCons (eC (.int 0)) aNil))) (aCons (eVar 10) aNil))))))))) (sRet [] (eC (.bl false))) sNext)
def st16 : DL.Env → DL.So := (sSet 13 [10, 1, 3, 11] (eA (oCal 3 m_law_changed) (aCons (eVar 10) (aCons (e2 oMod (eA oInt (aCons (e2 oIx (eVar 1) (eC (.int 8))) aNil)) (eA oLen (aCons (eVar 3) aNil))) (aCons (eVar 11) aNil)))))
def st17 : DL.Env → DL.So := (sRet [3, 4, 8, 9, 13, 3, 4, 8, 9, 10] (vAn (eA (oCal 5 m_law_says) (aCons (eVar 3) (aCons (eVar 4) (aCons (eVar 8) (aCons (eVar 9) (aCons (eVar 13) aNil)))))) (eA (oCal 5 m_law_says) (aCons (eVar 3) (aCons (eVar 4) (aCons (eVar 8) (aCons (eVar 9) (aCons (e3o oSl (eVar 10) (pSome (eC (.int 1))) pNo) aNil))))))))
theorem st_chain : b_law = sSeq st0 (sSeq st1 (sSeq st2 (sSeq st3 (sSeq st4 (sSeq st5 (sSeq st6 (sSeq st7 (sSeq st8 (sSeq st9 (sSeq st10 (sSeq st11 (sSeq st12 (sSeq st13 (sSeq st14 (sSeq st15 (sSeq st16 (st17))))))))))))))))) := rfl
def lc14 : DL.Env → DL.M Rs := (eLc [14] (iE iterA (eVar 3)) (nName 14) tYesD (eA oList (aCons (eVar 14) aNil)))
def lc15 : DL.Env → DL.M Rs := (eLc [15] (iE iterA (eVar 4)) (nName 15) tYesD (eA oList (aCons (eVar 15) aNil)))
theorem m_law_true {ns : List Int} (hns : ns.length ≤ 63) : m_law [.scr ns] = .ok (.fz (.bl true)) := by
  obtain ⟨nb, en, hnb⟩ := law_numbers_is (M := 64) (by decide) hns
  have en : m_law_numbers [.scr ns, .int 64] = .ok (.ow (rowD 64 nb)) := en
  obtain ⟨n, hn, e0⟩ := mod_nat (nb 0) (m := 4) (by decide)
  have e0 : (nb 0).fmod 4 = n := e0
  have n4 : 1 + n ≤ 4 := by omega
  obtain ⟨R, W, eL, r1, rR, L⟩ := law_lot_is (nb := nb) (N := 1 + n) (by omega) n4
  obtain ⟨m, A, eA', m1, m5, ab⟩ := law_acts_is (nb := nb) (N := 1 + n) (by omega) n4
  generalize hN : 1 + n = N at *
  have hN' : (1 : Int) + (n : Int) = (N : Int) := by omega
  have n1 : 1 ≤ N := by omega
  have Z : MxSz R N m W A := ⟨r1, rR, m1, m5, by omega, n1, L.w0, L.wp, L.wb, ab⟩
  obtain ⟨p, q, wt, sh, eB, M⟩ := best_mixture_is (c := .lst) (c' := .lst) Z Sq.l Sq.l (Sq.l (rowsC .lst R N W)) (Sq.l (rowsC .lst m N A))
  have c0 : atI (rowD 64 nb) 0 = some (.int (nb 0)) := ix_row (j := 0) (by decide)
  have c6 : atI (rowD 64 nb) 6 = some (.int (nb 6)) := ix_row (j := 6) (by decide)
  have c7 : atI (rowD 64 nb) 7 = some (.int (nb 7)) := ix_row (j := 7) (by decide)
  have c8 : atI (rowD 64 nb) 8 = some (.int (nb 8)) := ix_row (j := 8) (by decide)
  have m4 : ∀ x : Int, oMod (.int x) (.int 4) = .ok (.fz (.int (x.fmod 4))) := fun x => ev_mod (by decide)
  have m2 : ∀ x : Int, oMod (.int x) (.int 2) = .ok (.fz (.int (x.fmod 2))) := fun x => ev_mod (by decide)
  have mm : ∀ x : Int, oMod (.int x) (.int m) = .ok (.fz (.int (x.fmod m))) := fun x => ev_mod (by omega)
  have mR : ∀ x : Int, oMod (.int x) (.int R) = .ok (.fz (.int (x.fmod R))) := fun x => ev_mod (by omega)
  have t2 : ∀ x : Int, oMul (.int 2) (.int x) = .ok (.fz (.int (2 * x))) := fun x => mul_l (by decide)
  obtain ⟨k7, h7, e7⟩ := mod_nat (nb 7) (m := m) (by omega)
  obtain ⟨k8, h8, e8⟩ := mod_nat (nb 8) (m := R) (by omega)
  have lr : oLen [.lst (rowsT R N W)] = .ok (.fz (.int R)) := by rw [ev_lenL, rowsT_len]
  have lm : oLen [.lst (rowsT m N A)] = .ok (.fz (.int m)) := by rw [ev_lenL, rowsT_len]
  have frzT : ∀ {R N : Nat} {W : Nat → Nat → Int} (A : List Nat) (env : DL.Env), frzIf (.ow (rowsT R N W)) A env = env := fun {R N W} A env => by
    unfold frzIf
    have : D.nolAll (rowsT R N W) = true := by
      unfold rowsT
      induction List.range R with
      | nil => rfl
      | cons x xs ih =>
        show (D.nolAll (rowD N (W x)) && D.nolAll (xs.map fun k => D.tup (rowD N (W k)))) = true
        rw [nol_row, ih]; rfl
    exact if_pos this
  have fz3 : ∀ (A : List Nat) (env : DL.Env), frzIf (.fz (.tup [fr p q, .tup (rowD m wt), .tup (rowD R sh)])) A env = env := fun A env => by
    unfold frzIf
    rw [if_pos]
    have a : D.nolAll (rowD m wt) = true := nol_row
    have b : D.nolAll (rowD R sh) = true := nol_row
    simp [Rs.nol, D.nol, D.nolAll, a, b, fr]
  have ol : ∀ ds : List DL.D, oList [.tup ds] = .ok (.ow ds) := fun _ => rfl
  have cp14 : ∀ env : DL.Env, env.length = 16 → eVar 3 env = .ok (.fz (.lst (rowsT R N W))) → lc14 env = .ok (.ow (rowsC .lst R N W)) := fun env hl h => by
    refine ev_lc (ds := rowsT R N W) (by omega) (by simp [h]) ?_ (.inr (by simp; omega))
    refine lcL_map (List.range R) _ (fun k => .lst (rowD N (W k))) fun k hk => ⟨_, .ow (rowD N (W k)), rfl, rfl, ?_, rfl⟩
    have hv : eVar 14 ((wipeE (env.map Sl.frz) [14]).set 14 (.fz (.tup (rowD N (W k))))) = .ok (.fz (.tup (rowD N (W k)))) := by
      have hlen : 14 < (wipeE (env.map Sl.frz) [14]).length := by simp [wipeE, hl]
      unfold eVar
      rw [List.getD_eq_getElem?_getD, List.getElem?_set_self hlen]
      rfl
    simp only [ev_eA, ev_aCons, hv, ev_bok, ev_aNil, ev_rfz, ol, ev_pok]
  have cp15 : ∀ env : DL.Env, env.length = 16 → eVar 4 env = .ok (.fz (.lst (rowsT m N A))) → lc15 env = .ok (.ow (rowsC .lst m N A)) := fun env hl h => by
    refine ev_lc (ds := rowsT m N A) (by omega) (by simp [h]) ?_ (.inr (by simp; omega))
    refine lcL_map (List.range m) _ (fun k => .lst (rowD N (A k))) fun k hk => ⟨_, .ow (rowD N (A k)), rfl, rfl, ?_, rfl⟩
    have hv : eVar 15 ((wipeE (env.map Sl.frz) [15]).set 15 (.fz (.tup (rowD N (A k))))) = .ok (.fz (.tup (rowD N (A k)))) := by
      have hlen : 15 < (wipeE (env.map Sl.frz) [15]).length := by simp [wipeE, hl]
      unfold eVar
      rw [List.getD_eq_getElem?_getD, List.getElem?_set_self hlen]
      rfl
    simp only [ev_eA, ev_aCons, hv, ev_bok, ev_aNil, ev_rfz, ol, ev_pok]
  have s03 : b_law [.fz (.scr ns), .un, .un, .un, .un, .un, .un, .un, .un, .un, .un, .un, .un, .un, .un, .un] = (sSeq st4 (sSeq st5 (sSeq st6 (sSeq st7 (sSeq st8 (sSeq st9 (sSeq st10 (sSeq st11 (sSeq st12 (sSeq st13 (sSeq st14 (sSeq st15 (sSeq st16 (st17)))))))))))))) [.fz (.scr ns), .ow (rowD 64 nb), .fz (.int N), .ow (rowsT R N W), .ow (rowsT m N A), .un, .un, .un, .un, .un, .un, .un, .un, .un, .un, .un] := by
    rw [st_chain, ev_seq]
    unfold st0
    simp only [ev_set, ev_eA, ev_aCons, ev_vs, ev_v0f, ev_bok, ev_c, ev_aNil, ev_rfz, oCal, List.length_cons, List.length_nil, if_true, en, ev_pok, ev_ofM, ev_frzRow, ev_sow, List.set, ev_tn]
    rw [ev_seq]
    unfold st1
    simp only [ev_set, ev_e2, ev_eA, ev_aCons, ev_vs, ev_v0o, ev_bok, ev_c, ev_aNil, ev_rfz, ev_ixL, c0, ev_oR, ev_int, m4, e0, ev_add, hN', ev_pok, ev_ofM, ev_frzInt, ev_sfz, List.set, ev_tn]
    rw [ev_seq]
    unfold st2
    simp only [ev_set, ev_eA, ev_aCons, ev_vs, ev_v0o, ev_v0f, ev_bok, ev_aNil, ev_rfz, oCal, List.length_cons, List.length_nil, if_true, eL, ev_pok, ev_ofM, frzT, ev_sow, List.set, ev_tn]
    rw [ev_seq]
    unfold st3
    simp only [ev_set, ev_eA, ev_aCons, ev_vs, ev_v0o, ev_v0f, ev_bok, ev_aNil, ev_rfz, oCal, List.length_cons, List.length_nil, if_true, eA', ev_pok, ev_ofM, frzT, ev_sow, List.set, ev_tn]
  have s46 : (sSeq st4 (sSeq st5 (sSeq st6 (sSeq st7 (sSeq st8 (sSeq st9 (sSeq st10 (sSeq st11 (sSeq st12 (sSeq st13 (sSeq st14 (sSeq st15 (sSeq st16 (st17)))))))))))))) [.fz (.scr ns), .ow (rowD 64 nb), .fz (.int N), .ow (rowsT R N W), .ow (rowsT m N A), .un, .un, .un, .un, .un, .un, .un, .un, .un, .un, .un] =
      (sSeq st7 (sSeq st8 (sSeq st9 (sSeq st10 (sSeq st11 (sSeq st12 (sSeq st13 (sSeq st14 (sSeq st15 (sSeq st16 (st17))))))))))) [.fz (.scr ns), .fz (.lst (rowD 64 nb)), .fz (.int N), .fz (.lst (rowsT R N W)), .fz (.lst (rowsT m N A)), .fz (.lst (rowsC .lst R N W)), .ow (rowsC .lst m N A), .fz (.tup [fr p q, .tup (rowD m wt), .tup (rowD R sh)]), .un, .un, .un, .un, .un, .un, .un, .un] := by
    have d4 : st4 = sSet 5 (List.range 64) lc14 := rfl
    have d5 : st5 = sSet 6 (List.range 64) lc15 := rfl
    rw [ev_seq, d4, ev_set, cp14 _ rfl rfl, ev_ofM, frz_rowC r1, frzAll_map _ _ (by simp)]
    simp only [List.map, ev_frzF, ev_frzO, ev_frzU, ev_sow, List.set, ev_tn]
    rw [ev_seq, d5, ev_set, cp15 _ rfl rfl, ev_ofM, frz_rowC m1, frzAll_map _ _ (by simp)]
    simp only [List.map, ev_frzF, ev_frzO, ev_frzU, ev_sow, List.set, ev_tn]
    rw [ev_seq]
    unfold st6
    simp only [ev_set, ev_eA, ev_aCons, ev_vs, ev_v0o, ev_v0f, ev_bok, ev_aNil, ev_rfz, oCal, List.length_cons, List.length_nil, if_true, eB, ev_pok, ev_ofM, fz3, ev_sfz, List.set, ev_tn]
  have form := law_form_true (W := W) (A := A) M (by omega) (by omega)
  have q0 := M.q0
  have says0 := law_says_true (wt := wt) (sh := sh) (Mw := m) (Ms := R) Z q0 (M.bp.up (by omega)) (M.bq.up (by omega)) (fun i hi => (M.bw i hi).up (by omega)) fun i hi => (M.bs i hi).up (by omega)
  obtain ⟨bs, es, is⟩ := law_shows_says (c := .tup) (c' := .tup) Z Sq.t Sq.t (Sq.l (rowsT R N W)) (Sq.l (rowsT m N A)) (Sq.t (rowD m wt)) (Sq.t (rowD R sh)) (v0 := p) (v1 := q) (M.bp.up (by omega)) (M.bq.up (by omega)) (fun i hi => (M.bw i hi).up (by omega)) fun i hi => (M.bs i hi).up (by omega)
  have hS : ∀ j, j < R → 0 < (fun c => Sx.sm N (W c)) j := Z.wp
  have bst : bs = true := is.mpr ⟨M.wtk, M.shk, M.reach, M.within _ _ (pr_pos hS) fun c hc => pr_g hS hc⟩
  subst bst
  have st' : ∃ s : Int, s = 2 * (nb 6).fmod 2 - 1 ∧ (s = 1 ∨ s = -1) := ⟨_, rfl, by have := mod_b (nb 6) (m := 2) (by decide); omega⟩
  obtain ⟨s, es', hs⟩ := st'
  have sb : Bd 1 s := by unfold Bd; omega
  have lo := law_lowest_is (N := 2) (f := fun i => if i = 0 then p + s else q) (by omega) (Sq.t _) fun i hi => by
    show Bd 1000 (if i = 0 then p + s else q)
    split
    · exact (M.bp.add sb).up (by omega)
    · exact M.bq.up (by omega)
  obtain ⟨g, hg, eg⟩ := low_eq (N := 2) (f := fun i => if i = 0 then p + s else q)
  have eo : ∃ a b, DL.D.tup (rowD 2 (lowF 2 fun i => if i = 0 then p + s else q)) = fr a b ∧ 0 < b ∧ Bd 891 a ∧ Bd 890 b := by
    refine ⟨lowF 2 (fun i => if i = 0 then p + s else q) 0, lowF 2 (fun i => if i = 0 then p + s else q) 1, rfl, ?_, ?_, ?_⟩
    · have h := eg 1 (by decide)
      have h : q = g * lowF 2 (fun i => if i = 0 then p + s else q) 1 := h
      refine Classical.byContradiction fun hc => ?_
      have := Int.mul_nonpos_of_nonneg_of_nonpos (show (0 : Int) ≤ g by omega) (show lowF 2 (fun i => if i = 0 then p + s else q) 1 ≤ 0 by omega)
      omega
    · exact bd_le (low_abs (show 0 < 2 by decide)) ((M.bp.add sb).up (by omega))
    · exact bd_le (low_abs (show 1 < 2 by decide)) M.bq
  obtain ⟨a, b, eo, b0, ba, bb⟩ := eo
  rw [eo, ← fr_row] at lo
  have says1 := law_says_true (wt := wt) (sh := sh) (Mw := m) (Ms := R) Z b0 (ba.up (by omega)) (bb.up (by omega)) (fun i hi => (M.bw i hi).up (by omega)) fun i hi => (M.bs i hi).up (by omega)
  have ch7 := law_changed_is (f := wt) (st := s) h7
  have ch8 := law_changed_is (f := sh) (st := s) h8
  have w7 : ∀ i, i < m → Bd 900 (if i = k7 then wt k7 + s else wt i) := fun i hi => by
    split
    · exact ((M.bw k7 h7).add sb).up (by omega)
    · exact (M.bw i hi).up (by omega)
  have w8 : ∀ i, i < R → Bd 900 (if i = k8 then sh k8 + s else sh i) := fun i hi => by
    split
    · exact ((M.bs k8 h8).add sb).up (by omega)
    · exact (M.bs i hi).up (by omega)
  have says2 := law_says_true (wt := fun i => if i = k7 then wt k7 + s else wt i) (sh := sh) (Mw := m) (Ms := R) Z q0 (M.bp.up (by omega)) (M.bq.up (by omega)) w7 fun i hi => (M.bs i hi).up (by omega)
  have says3 := law_says_true (wt := fun i => if i < m then wt i else 0) (sh := sh) (Mw := m + 1) (Ms := R) Z q0 (M.bp.up (by omega)) (M.bq.up (by omega)) (fun i hi => by
    show Bd 900 (if i < m then wt i else 0)
    split
    · rename_i h; exact (M.bw i h).up (by omega)
    · exact bd_0 _) fun i hi => (M.bs i hi).up (by omega)
  have says4 := law_says_true (wt := wt) (sh := fun i => if i = k8 then sh k8 + s else sh i) (Mw := m) (Ms := R) Z q0 (M.bp.up (by omega)) (M.bq.up (by omega)) (fun i hi => (M.bw i hi).up (by omega)) w8
  have says5 := law_says_true (wt := wt) (sh := fun i => sh (i + 1)) (Mw := m) (Ms := R - 1) Z q0 (M.bp.up (by omega)) (M.bq.up (by omega)) (fun i hi => (M.bw i hi).up (by omega)) fun i hi => (M.bs (i + 1) (by omega)).up (by omega)
  have ad : oAdd (.tup (rowD m wt)) (.tup [.int 0]) = .ok (.fz (.tup (rowD (m + 1) fun i => if i < m then wt i else 0))) := by
    show (if (rowD m wt).length + ([.int 0] : List DL.D).length ≤ PySem.sizeLine then DL.M.ok (Rs.fz (.tup (rowD m wt ++ [.int 0]))) else .bad) = _
    rw [if_pos (by have := sz; simp; omega), row_one, row_app]
  have ct : oSl (.tup (rowD R sh)) (some 1) none = .ok (.fz (.tup (rowD (R - 1) fun i => sh (i + 1)))) := by
    show DL.M.ok (Rs.fz (.tup (cutD (rowD R sh) (some ((1 : Nat) : Int)) none))) = _
    rw [cut_row_end r1]
  have ne1 : oNe (.lst (rowsC .lst R N W)) (.lst (rowsC .lst R N W)) = .ok (.fz (.bl false)) := ne_self (n := 2) (by decide) (nm_rowC (n := 0))
  have ne2 : oNe (.lst (rowsC .lst m N A)) (.lst (rowsC .lst m N A)) = .ok (.fz (.bl false)) := ne_self (n := 2) (by decide) (nm_rowC (n := 0))
  have e3' : ∀ (g : DL.D → Option Int → Option Int → DL.M Rs) (f : DL.Env → DL.M Rs) (l u : DL.Env → DL.M (Option Int)) (env : DL.Env), e3o g f l u env = (f env >>= fun r => l env >>= fun a => u env >>= fun b => pureM (g r.d a b)) := fun _ _ _ _ _ => rfl
  have ps : ∀ (f : DL.Env → DL.M Rs) (env : DL.Env), pSome f env = (f env >>= fun r => asI r) := fun _ _ => rfl
  have ai : ∀ i : Int, asI (.fz (.int i)) = .ok (some i) := fun _ => rfl
  have pn : ∀ env : DL.Env, pNo env = .ok none := fun _ => rfl
  refine runD_ok ?_
  show b_law [.fz (.scr ns), .un, .un, .un, .un, .un, .un, .un, .un, .un, .un, .un, .un, .un, .un, .un] = _
  rw [s03, s46]
  have d7 : st7 = (sIf ([5] ++ (List.range 64 ++ ([6] ++ List.range 64))) (tO (tV (e2 (cop .NotEq) (eVar 5) lc14)) (tV (e2 (cop .NotEq) (eVar 6) lc15))) (sRet [] (eC (.bl false))) sNext) := rfl
  rw [ev_seq, d7]
  simp only [ev_if, ev_tO, ev_tV, ev_e2, ev_vs, ev_v0f, ev_v0o, ev_bok, cp14 [.fz (.scr ns), .fz (.lst (rowD 64 nb)), .fz (.int N), .fz (.lst (rowsT R N W)), .fz (.lst (rowsT m N A)), .fz (.lst (rowsC .lst R N W)), .ow (rowsC .lst m N A), .fz (.tup [fr p q, .tup (rowD m wt), .tup (rowD R sh)]), .un, .un, .un, .un, .un, .un, .un, .un] rfl rfl, cp15 [.fz (.scr ns), .fz (.lst (rowD 64 nb)), .fz (.int N), .fz (.lst (rowsT R N W)), .fz (.lst (rowsT m N A)), .fz (.lst (rowsC .lst R N W)), .ow (rowsC .lst m N A), .fz (.tup [fr p q, .tup (rowD m wt), .tup (rowD R sh)]), .un, .un, .un, .un, .un, .un, .un, .un] rfl rfl, ev_rfz, ev_row, ev_copNe, ne1, ne2, ev_pok, ev_asB, ev_ofM, Bool.false_eq_true, if_false, ev_next, ev_tn]
  rw [ev_seq]; unfold st8
  simp only [ev_if, ev_tN, ev_tV, ev_eA, ev_aCons, ev_vs, ev_v0f, ev_bok, ev_aNil, ev_rfz, oCal, List.length_cons, List.length_nil, if_true, form, ev_pok, ev_asB, Bool.not_true, ev_ofM, Bool.false_eq_true, if_false, ev_next, ev_tn]
  rw [ev_seq]; unfold st9
  simp only [ev_asg, ev_vs, ev_v0f, ev_ofM, ev_rfz, fz3, ev_nTup, List.length_cons, List.length_nil, if_true, ev_nCons, ev_name, Option.bind_some, ev_nNil, ev_ofO, List.set, ev_tn]
  rw [ev_seq]; unfold st10
  simp only [ev_if, ev_tO, ev_tN, ev_tV, ev_eA, ev_aCons, ev_vs, ev_v0f, ev_bok, ev_aNil, ev_rfz, oCal, List.length_cons, List.length_nil, if_true, es, says0, ev_pok, ev_asB, Bool.not_true, ev_ofM, Bool.false_eq_true, if_false, ev_next, ev_tn]
  rw [ev_seq]; unfold st11
  simp only [ev_set, ev_e2, ev_eA, ev_aCons, ev_vs, ev_v0f, ev_bok, ev_c, ev_aNil, ev_rfz, ev_ixL, c6, ev_oR, ev_int, m2, t2, ev_sub, ← es', ev_pok, ev_ofM, ev_frzInt, ev_sfz, List.set, ev_tn]
  rw [ev_seq]; unfold st12
  have tu : oTupD [.int (p + s), .int q] = .ok (.fz (fr (p + s) q)) := tup_2 _ _
  simp only [ev_set, ev_e2, ev_eA, ev_aCons, ev_vs, ev_v0f, ev_bok, ev_c, ev_aNil, ev_rfz, fr_ix0, fr_ix1, ev_add, tu, oCal, List.length_cons, List.length_nil, if_true, lo, ev_pok, ev_ofM, frz_fr, ev_sfz, List.set, ev_tn]
  rw [ev_seq]; unfold st13
  simp only [ev_if, ev_tN, ev_tV, ev_eA, ev_aCons, ev_vs, ev_v0f, ev_bok, ev_aNil, ev_rfz, oCal, List.length_cons, List.length_nil, if_true, says1, ev_pok, ev_asB, Bool.not_true, ev_ofM, Bool.false_eq_true, if_false, ev_next, ev_tn]
  rw [ev_seq]; unfold st14
  simp only [ev_set, ev_e2, ev_eA, ev_aCons, ev_vs, ev_v0f, ev_bok, ev_c, ev_aNil, ev_rfz, ev_ixL, c7, ev_oR, ev_int, lm, mm, e7, oCal, List.length_cons, List.length_nil, if_true, ch7, ev_pok, ev_ofM, frz_tup, ev_sfz, List.set, ev_tn]
  rw [ev_seq]; unfold st15
  simp only [ev_if, ev_tO, ev_tN, ev_tV, ev_eA, ev_e2, ev_c, ev_aCons, ev_vs, ev_v0f, ev_bok, ev_aNil, ev_rfz, tup_1, ad, oCal, List.length_cons, List.length_nil, if_true, says2, says3, ev_pok, ev_asB, Bool.not_true, ev_ofM, Bool.false_eq_true, if_false, ev_next, ev_tn]
  rw [ev_seq]; unfold st16
  simp only [ev_set, ev_e2, ev_eA, ev_aCons, ev_vs, ev_v0f, ev_bok, ev_c, ev_aNil, ev_rfz, ev_ixL, c8, ev_oR, ev_int, lr, mR, e8, oCal, List.length_cons, List.length_nil, if_true, ch8, ev_pok, ev_ofM, frz_tup, ev_sfz, List.set, ev_tn]
  unfold st17
  simp only [ev_ret, va, ev_eA, ev_aCons, ev_vs, ev_v0f, ev_bok, ev_aNil, ev_rfz, e3', ps, ai, pn, ev_c, ct, oCal, List.length_cons, List.length_nil, if_true, says4, says5, ev_pok, ev_asB, ev_ofM]
end K62
end
end

section
set_option maxRecDepth 100000
set_option maxHeartbeats 4000000
namespace K62
open PySem L2 DL
def top (i : Nat) : Stmt := PySem.Challenge.pw_unsureminds_k62_best_mixture_of_acts.main.body.getD i (.Pass ⟨0, 0, 0, 0⟩)
end K62
end

section
set_option maxRecDepth 100000
set_option maxHeartbeats 1000000
namespace K62
open PySem L2 DL
variable {P : Program} {w : World} {mg : Str → Option Value} {base : Heap} {G : GC}
abbrev s_exchange : Stmt := top 13
abbrev N_exchange : List Str := ["table", "row", "column", "scale", "chosen", "lead", "index", "line", "factor", "fresh", "old", "other"]
theorem sc_exchange : FnScope N_exchange ["table", "row", "column", "scale"] (defScope s_exchange) := ⟨rfl, rfl, rfl, by decide +kernel, rfl, by decide +kernel, by decide +kernel⟩
def xLc : DL.Env → DL.M Rs := eLc [10, 11] (iA oZip (aCons (eVar 7) (aCons (eVar 4) aNil))) (nTup 2 (nCons (nName 10) (nCons (nName 11) nNil))) tYesD (e2 oDiv (e2 oSub (e2 oMul (eVar 5) (eVar 10)) (e2 oMul (eVar 8) (eVar 11))) (eVar 3))
def xTest : DL.Env → DL.M Bool := tO (tV (e2 (cop .Eq) (eVar 6) (eVar 1))) (tAn (tV (e2 (cop .Eq) (eVar 8) (eC (.int 0)))) (tV (e2 (cop .Eq) (eVar 5) (eVar 3))))
def x_t {G : GC} : TS :=
  (tSeq (tAsg (tOp (rIxL G.K) (tVar 0) (tVar 1)) (gName 4))
      (tSeq (tAsg (tOp (rIxL G.K) (tVar 4) (tVar 2)) (gName 5))
      (tSeq (tFor (iRng1 (tDA G W0 [0] (aCons (eA oLen (aCons (eVar 0) aNil)) aNil))) (gName 6)
        (tSeq (tAsg (tOp (rIxL G.K) (tVar 0) (tVar 6)) (gName 7))
        (tSeq (tAsg (tOp (rIxL G.K) (tVar 7) (tVar 2)) (gName 8))
        (tSeq (tIfS (tDT G W0 [6, 1, 8, 5, 3] xTest) tCont tNext)
        (tSeq (tAsg (tDE G W0 (List.range 64) xLc) (gName 9))
        (tSeq (tAsg (tDE G W0 [8] (e1 oNeg (eVar 8))) (gSub (tVar 9) (tVar 2) rSetL))
        (tAsg (tVar 9) (gSub (tVar 0) (tVar 6) rSetL))))))))
      (tSeq (tAsg (tVar 3) (gSub (tVar 4) (tVar 2) rSetL)) (tRet (tVar 5))))))
theorem exchange_body (n_len : mg "len" = none) (n_range : mg "range" = none) (n_zip : mg "zip" = none) {f : Addr} {cdv : Value} {A : Around} {outer : List PySem.Env} {s : Shared} {H : Hp} {E : XK}
    (hr : Room 0 (cxOf CX0 P w G.K mg base N_exchange "exchange" (defScope s_exchange) f cdv A outer s H E).nox.A) : ∃ t, PSs (cxOf CX0 P w G.K mg base N_exchange "exchange" (defScope s_exchange) f cdv A outer s H E).nox (defBody s_exchange) t ∧ t = x_t (G := G) := by
  have nd := sc_exchange.nd
  exact ⟨_, (pss_cons (ps_set (i := 4) nd rfl (.inl rfl) (pe_ix ix_list (pe_var (i := 0) rfl (.inl rfl)) (pe_var (i := 1) rfl (.inl rfl)) (fun _ _ => rfl)))
    (pss_cons (ps_set (i := 5) nd rfl (.inr rfl) (pe_ix ix_list (pe_var (i := 4) rfl (.inl rfl)) (pe_var (i := 2) rfl (.inl rfl)) (fun _ _ => rfl)))
    (pss_cons (ps_for PassesOwn.never rfl (pi_range1 rfl n_range (da_cons (d_len n_len (da_cons (d_var 0) da_nil)) da_nil).pa) (pg_name (i := 6) nd rfl (.inl rfl))
      (pss_cons (ps_set (i := 7) nd rfl (.inl rfl) (pe_ix ix_list (pe_var (i := 0) rfl (.inl rfl)) (pe_var (i := 6) rfl (.inl rfl)) (fun _ _ => rfl)))
      (pss_cons (ps_set (i := 8) nd rfl (.inr rfl) (pe_ix ix_list (pe_var (i := 7) rfl (.inl rfl)) (pe_var (i := 2) rfl (.inl rfl)) (fun _ _ => rfl)))
      (pss_cons (ps_if (DW.t (dw_or (t_cp hr (d_var 6) (d_var 1)) (dw_or1 (DW.t (dw_and (t_cp hr (d_var 8) d_int) (dw_and1 (t_cp hr (d_var 5) (d_var 3)))))))).pt (pss_one ps_continue) pss_nil)
      (pss_cons (ps_setLcD (i := 9) rfl nd rfl rfl (sw_true rfl rfl rfl (by decide +kernel)) (di_zip rfl n_zip (da_cons (d_var 7) (da_cons (d_var 4) da_nil))) (blkOk_by (own := [("old", 10), ("other", 11)]) (N := N_exchange) (sc := defScope s_exchange) (by decide +kernel)) (by decide) (fun _ _ _ _ _ => (dg_tup rfl rfl (dgs_cons (dg_name (i := 10) nd rfl (.inl rfl)) (dgs_cons (dg_name (i := 11) nd rfl (.inl rfl)) dgs_nil)))) (fun _ _ _ _ _ => dts_nil) (fun _ _ _ _ _ => (d_fdiv (d_sub (d_mul (d_var 5) (d_var 10)) (d_mul (d_var 8) (d_var 11))) (d_var 3))))
      (pss_cons (ps_asg (d_neg (d_var 8)).pe (pg_sub (pe_var (i := 9) rfl (.inl rfl)) (pe_var (i := 2) rfl (.inl rfl)) set_list))
      (pss_one (ps_asg (pe_var (i := 9) rfl (.inl rfl)) (pg_sub (pe_var (i := 0) rfl (.inl rfl)) (pe_var (i := 6) rfl (.inl rfl)) set_list)))))))))
    (pss_cons (ps_asg (pe_var (i := 3) rfl (.inr (.inl rfl))) (pg_sub (pe_var (i := 4) rfl (.inl rfl)) (pe_var (i := 2) rfl (.inl rfl)) set_list)) (pss_one (ps_ret (pe_var (i := 5) rfl (.inr (.inl rfl))))))))), rfl⟩
theorem e_test {r i : Nat} {sc le fa : Int}  : xTest [.un, .fz (.int r), .un, .fz (.int sc), .un, .fz (.int le), .fz (.int i), .un, .fz (.int fa), .un, .un, .un] = .ok (decide (i = r) || (decide (fa = 0) && decide (le = sc))) := by
  have hi : ((i : Int) = r) ↔ i = r := by omega
  simp [xTest, hi]
  by_cases h1 : i = r <;> by_cases h2 : fa = 0 <;> by_cases h3 : le = sc <;> simp [h1, h2, h3]
theorem e_lc {N : Nat} {le fa sc : Int} {f g : Nat → Int} (hN : N < 1000000) (h1 : le.natAbs.log2 < 9000) (h2 : fa.natAbs.log2 < 9000) (h3 : sc.natAbs.log2 < 9000) (h0 : sc ≠ 0)
    (hf : ∀ j, j < N → (f j).natAbs.log2 < 9000) (hg : ∀ j, j < N → (g j).natAbs.log2 < 9000) :
    xLc [.un, .un, .un, .fz (.int sc), .fz (.lst (rowD N g)), .fz (.int le), .un, .fz (.lst (rowD N f)), .fz (.int fa), .un, .un, .un] = .ok (.ow (rowD N fun j => (le * f j - fa * g j).fdiv sc)) := by
  refine ev_lc (ds := (List.range N).map fun j => D.tup [.int (f j), .int (g j)]) (by simp) ?_ ?_ (.inr (by simpa using hN))
  · simp [oZip, seqD, zip_rows]
  · refine lcL_map (List.range N) _ (fun j => .int ((le * f j - fa * g j).fdiv sc)) fun j hj => ?_
    have hj := List.mem_range.mp hj
    refine ⟨_, .fz (.int ((le * f j - fa * g j).fdiv sc)), rfl, rfl, ?_, rfl⟩
    simp [wipeE, Sl.frz, mul_ok h1 (hf j hj), mul_ok h2 (hg j hj), div_ok h0 h3]

/-- where the loop stands -/
def XI (H : Hp) (t cr : Addr) (rs : List Addr) (M N : Nat) (T : Nat → Nat → Int) (r c : Nat) (s : Int) (i : Nat) (σ : L2.St) (H2 : Hp) : Prop :=
  i ≤ M ∧ ∃ rs' o6 o7 o8 o9 o10 o11, σ = [some (.ref t), some (.int r), some (.int c), some (.int s), some (.ref cr), some (.int (T r c)), o6, o7, o8, o9, o10, o11] ∧
    Tab H2 t rs' M N (fun a j => if a < i ∧ a ≠ r then xNew T r c s a j else T a j) ∧ rs'[r]? = some cr ∧ Same (cut (fun a => a = t ∨ a ∈ rs) H) H2 ∧ ∀ a, a ∈ rs' → a ∈ rs ∨ H a = none
theorem exchange_run {t : Addr} {rs : List Addr} {M N : Nat} {T : Nat → Nat → Int} {r c : Nat} {s : Int} {H : Hp} {Q : VK} (tab : Tab H t rs M N T) (hr : r < M) (hc : c < N) (hs : s ≠ 0) (hM : M < 1000000) (hN : N < 1000000) (sm : Small M N T) (ss : s.natAbs.log2 < 9000)
    (hq : ∀ H' rs', Tab H' t rs' M N (xNew T r c s) → Same (cut (fun a => a = t ∨ a ∈ rs) H) H' → (∀ a, a ∈ rs' → a ∈ rs ∨ H a = none) → Q (.int (T r c)) H') : x_t (G := G) { nx := fun _ H' => Q .non H', rt := Q } (start N_exchange [.ref t, .int r, .int c, .int s]) H := by
  obtain ⟨cr, ecr, hcr⟩ := tab.at hr
  refine ⟨.ref t, rfl, .int r, rfl, t, _, r, .ref cr, rfl, rfl, .inl (.inl tab.ht), by rw [DL.atI_nat, List.getElem?_map, ecr]; rfl, ?_⟩
  refine ⟨.ref cr, rfl, .int c, rfl, cr, _, c, .int (T r c), rfl, rfl, .inl (.inl hcr), by rw [DL.atI_nat]; exact rowV_get hc, ?_⟩
  refine snap_A (env := [.fz (.lst (tabD M N T)), .un, .un, .un, .un, .un, .un, .un, .un, .un, .un, .un]) (r := [.int M])
    (.fz tab.rp0 (.un (.un (.un (.un (.un (.un (.un (.un (.un (.un (.un .nil)))))))))))) (by simp) fun vs H1 s1 r1 => ?_
  cases r1 with
  | cons h h' =>
  cases h
  cases h'
  refine ⟨M, rfl, by omega, by omega, ?_⟩
  have same0 : Same (cut (fun a => a = t ∨ a ∈ rs) H) H := cut_le
  refine ⟨fun i m σ H2 => m = M - i ∧ XI H t cr rs M N T r c s i σ H2, ⟨M, rfl, Nat.zero_le _, rs, _, _, _, _, _, _, rfl, ((tab.mono s1).congr fun i _ j _ => by simp), ecr, same0.trans s1, fun a h => .inl h⟩, ?_⟩
  rintro i m σ H2 ⟨rfl, hi, rs', o6, o7, o8, o9, o10, o11, rfl, tb, er, sm2, new⟩
  by_cases hlt : i < M
  · refine .inr ⟨by show i < Int.toNat (M : Int); omega, fun σ' H' => XI H t cr rs M N T r c s (i + 1) σ' H', fun σ' H' w => ⟨M - (i + 1), by omega, rfl, w⟩, ?_⟩
    rintro x H' ⟨rfl, ex⟩
    have ex : x = .int (i : Int) := by rw [ex]; simp
    subst ex
    obtain ⟨la, ela, hla⟩ := tb.at hlt
    have rowi : rowV N (fun j => if i < i ∧ i ≠ r then xNew T r c s i j else T i j) = rowV N (T i) := rowV_congr fun j _ => by simp
    simp only [rowi] at hla
    refine ⟨.ref t, rfl, .int i, rfl, t, _, i, .ref la, rfl, rfl, .inl (.inl tb.ht), by rw [DL.atI_nat, List.getElem?_map, ela]; rfl, ?_⟩
    refine ⟨.ref la, rfl, .int c, rfl, la, _, c, .int (T i c), rfl, rfl, .inl (.inl hla), by rw [DL.atI_nat]; exact rowV_get hc, ?_⟩
    refine snap_T (env := [.un, .fz (.int r), .un, .fz (.int s), .un, .fz (.int (T r c)), .fz (.int i), .un, .fz (.int (T i c)), .un, .un, .un]) (.un (.fz (.int _) (.un (.fz (.int _) (.un (.fz (.int _) (.fz (.int _) (.un (.fz (.int _) (.un (.un (.un .nil)))))))))))) e_test fun H3 s3 => ?_
    have tb3 := tb.mono s3
    by_cases hb : (decide (i = r) || (decide (T i c = 0) && decide (T r c = s))) = true
    · rw [if_pos hb]
      refine ⟨by omega, rs', _, _, _, _, _, _, rfl, tb3.congr fun a _ j _ => ?_, er, sm2.trans s3, new⟩
      by_cases ha : a = i
      · subst ha
        by_cases har : a = r
        · simp [har]
        · simp [har] at hb
          obtain ⟨z1, z2⟩ := hb
          have : xNew T r c s a j = T a j := by
            unfold xNew
            rw [if_neg har]
            split
            · next e => subst e; rw [z1]; rfl
            · rw [z1, z2, Int.zero_mul, Int.sub_zero, Int.mul_fdiv_cancel_left _ hs]
          simp [har, this]
      · have : (a < i + 1) = (a < i) := by apply propext; omega
        simp [this]
    · rw [if_neg hb]
      have hir : i ≠ r := by
        intro e
        simp [e] at hb
      have hcr3 : H3 cr = some (.lst (rowV N (T r))) := by
        have := tb3.row r cr er
        rwa [rowV_congr (g := T r) fun j _ => by simp] at this
      have hla3 : H3 la = some (.lst (rowV N (T i))) := s3 _ _ hla
      refine snap_E (env := [.un, .un, .un, .fz (.int s), .fz (.lst (rowD N (T r))), .fz (.int (T r c)), .un, .fz (.lst (rowD N (T i))), .fz (.int (T i c)), .un, .un, .un])
        (r := .ow (rowD N fun j => (T r c * T i j - T i c * T r j).fdiv s))
        (.un (.un (.un (.fz (.int _) (.fz (rp_row0 hcr3) (.fz (.int _) (.un (.fz (rp_row0 hla3) (.fz (.int _) (.un (.un (.un .nil))))))))))))
        (e_lc hN (sm r hr c hc) (sm i hlt c hc) ss hs (fun j hj => sm i hlt j hj) (fun j hj => sm r hr j hj)) fun v H4 s4 nv => ?_
      obtain ⟨p, vs, rfl, hp3, hp4, rv⟩ := nv
      have := rp_row_eq rv
      subst this
      refine snap_E (env := [.un, .un, .un, .un, .un, .un, .un, .un, .fz (.int (T i c)), .un, .un, .un]) (r := .fz (.int (-T i c)))
        (.un (.un (.un (.un (.un (.un (.un (.un (.fz (.int _) (.un (.un (.un .nil)))))))))))) (by simp) fun v H5 s5 nv => ?_
      have := rp_int nv
      subst this
      refine ⟨.ref p, rfl, .int c, rfl, p, _, c, c, rfl, rfl, s5 _ _ hp4, ixN_nat (by simpa using hc), ?_⟩
      rw [rowV_set hc]
      have hpt : p ≠ t := fun e => by rw [e, tb3.ht] at hp3; cases hp3
      have hpr : p ∉ rs' := fun e => by
        obtain ⟨k, hk⟩ := List.mem_iff_getElem?.mp e
        rw [tb3.row k p hk] at hp3; cases hp3
      have tb5 := ((tb3.mono s4).mono s5).other (o := .lst (rowV N fun k => if k = c then -T i c else (T r c * T i k - T i c * T r k).fdiv s)) hpt hpr
      refine ⟨.ref p, rfl, .ref t, rfl, .int i, rfl, t, _, i, i, rfl, rfl, tb5.ht, ixN_nat (by rw [List.length_map, tb.len]; exact hlt), ?_⟩
      refine ⟨by omega, rs'.set i p, _, _, _, _, _, _, rfl, (tb5.swap hlt upd_same hpt hpr).congr fun a _ j _ => ?_, ?_, fun a o ho => ?_, fun a ha => ?_⟩
      · by_cases ha : a = i
        · subst ha
          simp [hir, xNew]
        · have : (a < i + 1) = (a < i) := by apply propext; omega
          simp [ha, this]
      · rw [List.getElem?_set_ne hir]; exact er
      · have h3 := (sm2.trans s3) a o ho
        have hat : a ≠ t := by
          intro e
          rw [cut_pos (.inl e)] at ho; cases ho
        have hap : a ≠ p := by
          intro e
          rw [e, hp3] at h3; cases h3
        rw [upd_ne hat, upd_ne hap]
        exact s5 _ _ (s4 _ _ h3)
      · rcases List.mem_or_eq_of_mem_set ha with e | e
        · exact new a e
        · subst e
          by_cases hx : a ∈ rs
          · exact .inl hx
          · right
            cases q : H a with
            | none => rfl
            | some o =>
              have : cut (fun a => a = t ∨ a ∈ rs) H a = some o := by rw [cut_neg (by simp [hpt, hx])]; exact q
              rw [(sm2.trans s3) a o this] at hp3; cases hp3
  · have hiM : i = M := by omega
    subst hiM
    refine .inl ⟨by show Int.toNat (i : Int) ≤ i; omega, ?_⟩
    have hrow : H2 cr = some (.lst (rowV N (T r))) := by
      have := tb.row r cr er
      rwa [rowV_congr (g := T r) fun j _ => by simp] at this
    refine ⟨.int s, rfl, .ref cr, rfl, .int c, rfl, cr, _, c, c, rfl, rfl, hrow, ixN_nat (by simpa using hc), ?_⟩
    refine ⟨.int (T r c), rfl, ?_⟩
    rw [rowV_set hc]
    refine hq _ rs' ((tb.put er).congr fun a ha j _ => ?_) (fun a o ho => ?_) new
    · by_cases har : a = r
      · subst har
        simp [xNew]
      · simp [har, ha]
    · have hcrX : a ≠ cr := by
        intro e
        subst e
        rcases new a (List.mem_of_getElem? er) with h | h
        · rw [cut_pos (.inr h)] at ho; cases ho
        · have := cut_le a o ho
          rw [h] at this; cases this
      rw [upd_ne hcrX]
      exact sm2 a o ho
theorem fn_exchange {f : Addr} {fd : FuncData} (F : Fun G.K "exchange" "exchange" s_exchange f fd) (n_len : mg "len" = none) (n_range : mg "range" = none) (n_zip : mg "zip" = none) : FnOk P w G.K mg base CX0 1 f fd ["table", "row", "column", "scale"] spX := by
  refine F.ok sc_exchange (fun vs H Q E h => ?_) (fun cdv A outer s H vs Q E hr h => ?_)
  · obtain ⟨t, rs, M, N, T, r, c, s, rfl, _⟩ := h
    rfl
  · obtain ⟨t, rs, M, N, T, r, c, sc, rfl, tab, h1, h2, h3, h4, h5, h6, h7, hq⟩ := h
    obtain ⟨tr, hp, e⟩ := exchange_body (P := P) (w := w) (mg := mg) (base := base) (G := G) (f := f) (cdv := cdv) (A := A) (outer := outer) (s := s) (H := H) (E := E) n_len n_range n_zip hr
    subst e
    exact ⟨_, hp, exchange_run tab h1 h2 h3 h4 h5 h6 h7 hq⟩
end K62
end

section
set_option maxRecDepth 100000
set_option maxHeartbeats 1000000
namespace K62
open PySem L2 DL PG
variable {P : Program} {w : World} {mg : Str → Option Value} {base : Heap} {G : GC}
abbrev s_climb : Stmt := top 16
abbrev N_climb : List Str := ["columns", "limits", "gains", "many", "table", "basic", "loose", "scale", "column", "weights", "prices", "row", "place", "entries"]
theorem sc_climb : FnScope N_climb ["columns", "limits", "gains"] (defScope s_climb) := ⟨rfl, rfl, rfl, by decide +kernel, rfl, by decide +kernel, by decide +kernel⟩
def cElt : DL.Env → DL.M Rs := e2 oAdd (eLc [13] (iE iterA (eVar 0)) (nName 13) tYesD (e2 oIx (eVar 13) (eVar 12))) (eA oLstD (aCons (e2 oIx (eVar 1) (eVar 12)) aNil))
def cObj : DL.Env → DL.M Rs := e2 oAdd (eA oList (aCons (eVar 2) aNil)) (eA oLstD (aCons (eC (.int 0)) aNil))
def cBas : DL.Env → DL.M Rs := eLc [12] (iA oRng1 (aCons (eA oLen (aCons (eVar 1) aNil)) aNil)) (nName 12) tYesD (e2 oAdd (eVar 3) (eVar 12))
def cEnt : DL.Env → DL.M Rs := eA (oCal 2 m_entering_column) (aCons (e2 oIx (eVar 4) (e1 oNeg (eC (.int 1)))) (aCons (eVar 6) aNil))
def cLv : DL.Env → DL.M Rs := eA (oCal 3 m_leaving_row) (aCons (eVar 4) (aCons (eVar 5) (aCons (eVar 8) aNil)))
def cTop : DL.Env → DL.So := (sSeq (sAsg [4, 5, 6] (nTup 2 (nCons (nName 9) (nCons (nName 10) nNil))) (eA (oCal 3 m_top_of) (aCons (eVar 4) (aCons (eVar 5) (aCons (eVar 6) aNil))))) (sRet [7, 9, 10] (eA oTupD (aCons (eC (.str "top")) (aCons (eVar 7) (aCons (eVar 9) (aCons (eVar 10) aNil)))))))
def cRay : DL.Env → DL.So := (sRet [4, 5, 6, 8, 7] (eA oTupD (aCons (eC (.str "ray")) (aCons (eC (.int 1)) (aCons (eA (oCal 5 m_ray_of) (aCons (eVar 4) (aCons (eVar 5) (aCons (eVar 6) (aCons (eVar 8) (aCons (eVar 7) aNil)))))) (aCons (eA oLstD aNil) aNil))))))
def c_turn {G : GC} : TS :=
  (tSeq (tAsg (tDE G W0 [4, 6] cEnt) (gName 8))
  (tSeq (tIfS (tDT G W0 [8] (tV (e2 (cop .Lt) (eVar 8) (eC (.int 0))))) (tDS G W0 cTop) tNext)
  (tSeq (tAsg (tDE G W0 [4, 5, 8] cLv) (gName 11))
  (tSeq (tIfS (tDT G W0 [11] (tV (e2 (cop .Lt) (eVar 11) (eC (.int 0))))) (tDS G W0 cRay) tNext)
  (tSeq (tAsg (tCall spX [] E0 (tCons (tVar 4) (tCons (tVar 11) (tCons (tVar 8) (tCons (tVar 7) tNil))))) (gName 7))
  (tAsg (tTup (tCons (tOp (rIxL G.K) (tVar 6) (tVar 8)) (tCons (tOp (rIxL G.K) (tVar 5) (tVar 11)) tNil))) (gTup G.K 2 (gCons (gSub (tVar 5) (tVar 11) rSetL) (gCons (gSub (tVar 6) (tVar 8) rSetL) gNil)))))))))
def c_t {G : GC} : TS :=
  (tSeq (tAsg (tDE G W0 [0] (eA oLen (aCons (eVar 0) aNil))) (gName 3))
  (tSeq (tAsg (tLc (iRng1 (tDA G W0 [1] (aCons (eA oLen (aCons (eVar 1) aNil)) aNil))) (gName 12) tYes (tDE G W0 (List.range 64 ++ [1, 12]) cElt) [12]) (gName 4))
  (tSeq (tDrop (tBM G.K "list" rAppend (tVar 4) (tCons (tDE G W0 [2] cObj) tNil)))
  (tSeq (tAsg (tDE G W0 (List.range 64) cBas) (gName 5))
  (tSeq (tAsg (tLstRg (tRg1 (tVar 3))) (gName 6))
  (tSeq (tAsg (tDE G W0 [] (eC (.int 1))) (gName 7))
  (tWhile (tDT G W0 [] (tV (eC (.bl true)))) (c_turn (G := G)))))))))
theorem climb_body (n_len : mg "len" = none) (n_range : mg "range" = none) (n_list : mg "list" = none) (C_entering_column : Cal P w G.K mg base G "entering_column" 1 2 m_entering_column) (C_leaving_row : Cal P w G.K mg base G "leaving_row" 1 3 m_leaving_row) (C_top_of : Cal P w G.K mg base G "top_of" 1 3 m_top_of) (C_ray_of : Cal P w G.K mg base G "ray_of" 1 5 m_ray_of)
    (C_exchange : CalS P w G.K mg base "exchange" 1 spX) {f : Addr} {cdv : Value} {A : Around} {outer : List PySem.Env} {s : Shared} {H : Hp} {E : XK}
    (hr : Room 1 (cxOf CX0 P w G.K mg base N_climb "climb" (defScope s_climb) f cdv A outer s H E).nox.A) : ∃ t, PSs (cxOf CX0 P w G.K mg base N_climb "climb" (defScope s_climb) f cdv A outer s H E).nox (defBody s_climb) t ∧ t = c_t (G := G) := by
  have nd := sc_climb.nd
  exact ⟨_, (pss_cons (ps_set (i := 3) nd rfl (.inr rfl) (d_len n_len (da_cons (d_var 0) da_nil)).pe)
    (pss_cons (ps_setLc (i := 4) rfl nd rfl rfl (sw_true rfl rfl rfl (by decide +kernel)) (pi_range1 rfl n_range (da_cons (d_len n_len (da_cons (d_var 1) da_nil)) da_nil).pa) (blkOk_by (own := [("place", 12)]) (N := N_climb) (sc := defScope s_climb) (by decide +kernel))
        (fun _ _ _ _ _ => pg_name (i := 12) nd rfl (.inr rfl)) (fun _ _ _ _ _ => pts_nil)
        (fun _ _ _ _ _ => (d_add (d_lc rfl nd (di_any (d_var 0)) (blkOk_by (own := [("entries", 13)]) rfl) (by decide) (fun _ _ _ _ _ => (dg_name (i := 13) nd rfl (.inl rfl))) (fun _ _ _ _ _ => dts_nil) (fun _ _ _ _ _ => (d_ix (d_var 13) (d_var 12)))) (d_lst (da_cons (d_ix (d_var 1) (d_var 12)) da_nil))).pe))
    (pss_cons (ps_expr (pe_bm PySem.F.plainAttrs_list PySem.F.slot_list_append PySem.F.type_list_append mt_append (pe_var (i := 4) rfl (.inl rfl)) (pa_cons (d_add (d_listc n_list (da_cons (d_var 2) da_nil)) (d_lst (da_cons d_int da_nil))).pe pa_nil)))
    (pss_cons (ps_setLcD (i := 5) rfl nd rfl rfl (sw_true rfl rfl rfl (by decide +kernel)) (di_range1 rfl n_range (da_cons (d_len n_len (da_cons (d_var 1) da_nil)) da_nil)) (blkOk_by (own := [("place", 12)]) (N := N_climb) (sc := defScope s_climb) (by decide +kernel)) (by decide) (fun _ _ _ _ _ => (dg_name (i := 12) nd rfl (.inl rfl))) (fun _ _ _ _ _ => dts_nil) (fun _ _ _ _ _ => (d_add (d_var 3) (d_var 12))))
    (pss_cons (ps_set (i := 6) nd rfl (.inl rfl) (pe_listRg rfl rfl n_list (prg_1 rfl n_range (pe_var (i := 3) rfl (.inr (.inl rfl))))))
    (pss_cons (ps_set (i := 7) nd rfl (.inl rfl) (DE.pe d_int))
    (pss_one (ps_while PassesOwn.never (dt_val d_bl).pt
      (pss_cons (ps_set (i := 8) nd rfl (.inl rfl) (d_cal C_entering_column hr (by decide) (da_cons (d_ix (d_var 4) (d_neg d_int)) (da_cons (d_var 6) da_nil)) rfl).pe)
      (pss_cons (ps_if (t_cp hr (d_var 8) d_int).pt (dss_cons (ds_asg (d_cal C_top_of hr (by decide) (da_cons (d_var 4) (da_cons (d_var 5) (da_cons (d_var 6) da_nil))) rfl) (dg_tup rfl rfl (dgs_cons (dg_name (i := 9) nd rfl (.inl rfl)) (dgs_cons (dg_name (i := 10) nd rfl (.inl rfl)) dgs_nil)))) (dss_one (ds_ret (d_tup (da_cons d_str (da_cons (d_var 7) (da_cons (d_var 9) (da_cons (d_var 10) da_nil)))))))).ps pss_nil)
      (pss_cons (ps_set (i := 11) nd rfl (.inl rfl) (d_cal C_leaving_row hr (by decide) (da_cons (d_var 4) (da_cons (d_var 5) (da_cons (d_var 8) da_nil))) rfl).pe)
      (pss_cons (ps_if (t_cp hr (d_var 11) d_int).pt (dss_one (ds_ret (d_tup (da_cons d_str (da_cons d_int (da_cons (d_cal C_ray_of hr (by decide) (da_cons (d_var 4) (da_cons (d_var 5) (da_cons (d_var 6) (da_cons (d_var 8) (da_cons (d_var 7) da_nil))))) rfl) (da_cons (d_lst da_nil) da_nil))))))).ps pss_nil)
      (pss_cons (ps_set (i := 7) nd rfl (.inl rfl) (pe_calS C_exchange hr (by decide) (pa_cons (pe_var (i := 4) rfl (.inl rfl)) (pa_cons (pe_var (i := 11) rfl (.inl rfl)) (pa_cons (pe_var (i := 8) rfl (.inl rfl)) (pa_cons (pe_var (i := 7) rfl (.inl rfl)) pa_nil))))))
      (pss_one (ps_asg (pe_tup (pa_cons (pe_ix ix_list (pe_var (i := 6) rfl (.inl rfl)) (pe_var (i := 8) rfl (.inl rfl)) (fun _ _ => rfl)) (pa_cons (pe_ix ix_list (pe_var (i := 5) rfl (.inl rfl)) (pe_var (i := 11) rfl (.inl rfl)) (fun _ _ => rfl)) pa_nil)))
        (pg_tup rfl (pgs_cons (pg_sub (pe_var (i := 5) rfl (.inl rfl)) (pe_var (i := 11) rfl (.inl rfl)) set_list) (pgs_cons (pg_sub (pe_var (i := 6) rfl (.inl rfl)) (pe_var (i := 8) rfl (.inl rfl)) set_list) pgs_nil)))))))))))))))))), rfl⟩
end K62
end

section
set_option maxRecDepth 100000
set_option maxHeartbeats 1000000
namespace K62
open PySem L2 DL PG
variable {P : Program} {w : World} {mg : Str → Option Value} {base : Heap} {G : GC}
section
variable {cs : List (List Int)} {ls gs : List Int}
theorem e_elt {i : Nat} (ok : ClOk cs ls gs) (hi : i < ls.length) : cElt [.fz (.lst (cs.map lsD)), .fz (.lst (ls.map D.int)), .un, .un, .un, .un, .un, .un, .un, .un, .un, .un, .fz (.int i), .un] =
    .ok (.ow (rowD (cs.length + 1) ((Sx.St.init (lpOf cs ls gs)).T (lpOf cs ls gs) i))) := by
  have h1 : eLc [13] (iE iterA (eVar 0)) (nName 13) tYesD (e2 oIx (eVar 13) (eVar 12)) [.fz (.lst (cs.map lsD)), .fz (.lst (ls.map D.int)), .un, .un, .un, .un, .un, .un, .un, .un, .un, .un, .fz (.int i), .un] = .ok (.ow (rowD cs.length fun j => (cs.getD j []).getD i 0)) := by
    rw [← col_row]
    refine ev_lc (ds := cs.map lsD) (by simp) (by simp) ?_ (.inr (by have := ok.n; simp; omega))
    refine lcL_map cs lsD (fun c => D.int (c.getD i 0)) fun c hc => ?_
    refine ⟨_, .fz (.int (c.getD i 0)), rfl, rfl, ?_, rfl⟩
    have hl := ok.col c hc
    have : atI (c.map D.int) (i : Int) = some (.int (c.getD i 0)) := by
      rw [DL.atI_nat, List.getElem?_map, List.getElem?_eq_getElem (by omega)]
      simp [List.getD, show i < c.length by omega]
    simp [wipeE, lsD, this]
  have h2 : atI (ls.map D.int) (i : Int) = some (.int (ls.getD i 0)) := by
    rw [DL.atI_nat, List.getElem?_map, List.getElem?_eq_getElem (by omega)]
    simp [List.getD, hi]
  have h3 : ∀ a b : List DL.D, a.length + b.length ≤ PySem.sizeLine → oAdd (.lst a) (.lst b) = .ok (.ow (a ++ b)) := fun a b h => by
    show (if a.length + b.length ≤ PySem.sizeLine then DL.M.ok (Rs.ow (a ++ b)) else .bad) = _
    rw [if_pos h]
  have sz1 := sz
  have hn := ok.n
  have h4 : oLstD [DL.D.int (ls.getD i 0)] = .ok (.ow [.int (ls.getD i 0)]) := by unfold oLstD; rw [if_pos (by simp; omega)]
  rw [← T0_row hi, ← row_add]
  unfold cElt
  simp only [ev_e2, h1, ev_bok, ev_row, ev_eA, ev_aCons, ev_vs, ev_v0f, ev_rfz, ev_ixL, h2, ev_oR, ev_pok, ev_aNil, h4]
  rw [h3 _ _ (by simp; omega)]
  rfl
theorem e_obj (ok : ClOk cs ls gs) : cObj [.un, .un, .fz (.lst (gs.map D.int)), .un, .un, .un, .un, .un, .un, .un, .un, .un, .un, .un] = .ok (.ow (rowD (cs.length + 1) ((Sx.St.init (lpOf cs ls gs)).T (lpOf cs ls gs) ls.length))) := by
  have sz1 := sz
  have hn := ok.n
  have hl := ok.len
  have h4 : oLstD [DL.D.int 0] = .ok (.ow [.int 0]) := by unfold oLstD; rw [if_pos (by simp; omega)]
  have h5 : oList [.lst (gs.map D.int)] = .ok (.ow (gs.map D.int)) := rfl
  have h3 : oAdd (.lst (gs.map D.int)) (.lst [.int 0]) = .ok (.ow (gs.map D.int ++ [.int 0])) := by
    show (if (gs.map D.int).length + [DL.D.int 0].length ≤ PySem.sizeLine then DL.M.ok (Rs.ow _) else .bad) = _
    rw [if_pos (by simp; omega)]
  unfold cObj
  rw [← T0_obj ok.len]
  simp only [ev_e2, ev_eA, ev_aCons, ev_vs, ev_v0f, ev_bok, ev_rfz, ev_aNil, h5, ev_pok, ev_row, ev_c, h4, h3]
theorem e_bas (hm : ls.length < 400000) {n : Nat} : cBas [.un, .fz (.lst (ls.map D.int)), .un, .fz (.int n), .un, .un, .un, .un, .un, .un, .un, .un, .un, .un] = .ok (.ow (rowD ls.length fun k => ((n + k : Nat) : Int))) := by
  refine ev_lc (ds := rgD ls.length) (by simp) (by simp [rng1 (show ls.length < 1000000 by omega)]) ?_ (.inr (by simp; omega))
  refine lcL_map (List.range ls.length) _ (fun k => D.int ((n + k : Nat) : Int)) fun k hk => ?_
  refine ⟨_, .fz (.int ((n + k : Nat) : Int)), rfl, rfl, ?_, rfl⟩
  simp [wipeE]
theorem e_ent {P : Sx.LP} {s : Sx.St} (hn : P.n < 400000) : cEnt [.un, .un, .un, .un, .fz (.lst (tabD (P.m + 1) (P.n + 1) (s.T P))), .un, .fz (.lst (rowD P.n fun j => (s.lo j : Nat))), .un, .un, .un, .un, .un, .un, .un] = .ok (.fz (.int (optI (s.entB P P.n)))) := by
  unfold cEnt
  have := m_entering (P := P) (s := s) (by omega)
  simp [ix_tab_last, oCal, this]
theorem e_lv {P : Sx.LP} {s : Sx.St} {c : Nat} (hm : P.m < 400000) (hc : c < P.n) (sm : Small (P.m + 1) (P.n + 1) (s.T P)) :
    cLv [.un, .un, .un, .un, .fz (.lst (tabD (P.m + 1) (P.n + 1) (s.T P))), .fz (.lst (rowD P.m fun j => (s.ba j : Nat))), .un, .un, .fz (.int c), .un, .un, .un, .un, .un] = .ok (.fz (.int (optI (s.lvB P c P.m)))) := by
  unfold cLv
  have := m_leaving (P := P) (s := s) hc (by omega) sm
  simp [oCal, this]
theorem e_top {P : Sx.LP} {s : Sx.St} (hI : Sx.Inv P s) (hm : P.m < 400000) (hn : P.n < 400000) {o8 : DL.Sl} :
    cTop [.un, .un, .un, .un, .fz (.lst (tabD (P.m + 1) (P.n + 1) (s.T P))), .fz (.lst (rowD P.m fun j => (s.ba j : Nat))), .fz (.lst (rowD P.n fun j => (s.lo j : Nat))), .fz (.int (s.sc P)), .un, .un, .un, .un, .un, .un] = .rt (.fz (finD P (.top s))) := by
  unfold cTop
  have := m_top (P := P) (s := s) hI (by omega) (by omega)
  have sz1 := sz
  have h4 : ∀ a b c d : DL.D, oTupD [a, b, c, d] = .ok (.fz (.tup [a, b, c, d])) := fun a b c d => by unfold oTupD; rw [if_pos (by simp; omega)]
  have h5 : ∀ (A : List Nat) (env : DL.Env) (d : DL.D), (frzIf (.fz d) A env = env ∨ frzIf (.fz d) A env = fzAll A env) := fun A env d => by
    unfold frzIf; split
    · exact .inl rfl
    · exact .inr rfl
  simp only [ev_seq, ev_asg, ev_eA, ev_aCons, ev_vs, ev_v0f, ev_bok, ev_rfz, ev_aNil, oCal, List.length_cons, List.length_nil, if_true, this, ev_pok, ev_ofM]
  rcases h5 [4, 5, 6] [.un, .un, .un, .un, .fz (.lst (tabD (P.m + 1) (P.n + 1) (s.T P))), .fz (.lst (rowD P.m fun j => (s.ba j : Nat))), .fz (.lst (rowD P.n fun j => (s.lo j : Nat))), .fz (.int (s.sc P)), .un, .un, .un, .un, .un, .un] (.tup [.lst (rowD P.n (s.xOf P)), .lst (rowD P.m (s.yOf P))]) with e | e <;> rw [e] <;> simp [h4, finD]
theorem e_ray {P : Sx.LP} {s : Sx.St} (hI : Sx.Inv P s) {c : Nat} (hc : c < P.n) (hm : P.m < 400000) (hn : P.n < 400000) :
    cRay [.un, .un, .un, .un, .fz (.lst (tabD (P.m + 1) (P.n + 1) (s.T P))), .fz (.lst (rowD P.m fun j => (s.ba j : Nat))), .fz (.lst (rowD P.n fun j => (s.lo j : Nat))), .fz (.int (s.sc P)), .fz (.int c), .un, .un, .un, .un, .un] = .rt (.fz (finD P (.ray s c))) := by
  unfold cRay
  have := m_ray (P := P) (s := s) hI hc (by omega) (by omega)
  have sz1 := sz
  have h4 : ∀ a b c d : DL.D, oTupD [a, b, c, d] = .ok (.fz (.tup [a, b, c, d])) := fun a b c d => by unfold oTupD; rw [if_pos (by simp; omega)]
  have h5 : oLstD [] = .ok (.ow []) := by unfold oLstD; rw [if_pos (by simp)]
  simp [oCal, this, h4, h5, finD]
end
/-- where the climb stands -/
def CI (P : Sx.LP) (fin : Sx.Fin) (H0 : Hp) (f : Nat) (σ : L2.St) (H2 : Hp) : Prop :=
  ∃ s t rs pb pl o0 o1 o2 o8 o9 o10 o11 o12 o13, σ = [o0, o1, o2, some (.int P.n), some (.ref t), some (.ref pb), some (.ref pl), some (.int (s.sc P)), o8, o9, o10, o11, o12, o13] ∧ Sx.runS P f s = some fin ∧ Sx.Inv P s ∧
    Tab H2 t rs (P.m + 1) (P.n + 1) (s.T P) ∧ H2 pb = some (.lst (rowV P.m fun j => (s.ba j : Nat))) ∧ H2 pl = some (.lst (rowV P.n fun j => (s.lo j : Nat))) ∧ pb ≠ t ∧ pb ∉ rs ∧ pl ≠ t ∧ pl ∉ rs ∧ pb ≠ pl ∧
    Same H0 H2 ∧ H0 t = none ∧ (∀ a, a ∈ rs → H0 a = none) ∧ H0 pb = none ∧ H0 pl = none
structure LpOk (P : Sx.LP) : Prop where
  n : P.n < 400000
  m : P.m < 400000
  T : ∀ s : Sx.St, Small (P.m + 1) (P.n + 1) (s.T P)
  sc : ∀ s : Sx.St, (s.sc P).natAbs.log2 < 9000
theorem turn_run {P : Sx.LP} (ok : LpOk P) {fin : Sx.Fin} {hid : Addr → Prop} {H0 : Hp} (hh : ∀ a, hid a → H0 a ≠ none) {f : Nat} {σ : L2.St} {H2 : Hp} {D : Ends} (h : CI P fin H0 f σ H2)
    (hN : ∀ σ' H', (∃ f', f' < f ∧ CI P fin H0 f' σ' H') → D.nx σ' H') (hQ : ∀ v H', RetR G hid H0 H' v (.fz (finD P fin)) → D.rt v H') : c_turn (G := G) D σ H2 := by
  obtain ⟨s, t, rs, pb, pl, o0, o1, o2, o8, o9, o10, o11, o12, o13, rfl, run, hI, tab, hb, hl, n1, n2, n3, n4, n5, sm, f1, f2, f3, f4⟩ := h
  have hidb : ∀ {H' : Hp}, Same H0 H' → ∀ a, hid a → H' a ≠ none := fun {H'} s a h e => by
    cases q : H0 a with
    | none => exact hh a h q
    | some o => rw [s a o q] at e; cases e
  have ht : ¬ hid t := fun h => hh t h f1
  have hrs : ∀ a, a ∈ rs → ¬ hid a := fun a ha h => hh a h (f2 a ha)
  have hpb : ¬ hid pb := fun h => hh pb h f3
  have hpl : ¬ hid pl := fun h => hh pl h f4
  cases f with
  | zero => cases run
  | succ f =>
  refine snap_E (env := [.un, .un, .un, .un, .fz (.lst (tabD (P.m + 1) (P.n + 1) (s.T P))), .un, .fz (.lst (rowD P.n fun j => (s.lo j : Nat))), .un, .un, .un, .un, .un, .un, .un]) (r := .fz (.int (optI (s.entB P P.n))))
    (.un (.un (.un (.un (.fz tab.rp0 (.un (.fz (rp_row0 hl) (.un (.un (.un (.un (.un (.un (.un .nil)))))))))))))) (e_ent ok.n) fun v H3 s3 nv => ?_
  have := rp_int nv
  subst this
  have tab3 := tab.mono s3
  have hb3 := s3 _ _ hb
  have hl3 := s3 _ _ hl
  have sm3 := sm.trans s3
  refine snap_T (env := [.un, .un, .un, .un, .un, .un, .un, .un, .fz (.int (optI (s.entB P P.n))), .un, .un, .un, .un, .un]) (b := decide (optI (s.entB P P.n) < 0))
    (.un (.un (.un (.un (.un (.un (.un (.un (.fz (.int _) (.un (.un (.un (.un (.un .nil)))))))))))))) (by simp) fun H4 s4 => ?_
  have tab4 := tab3.mono s4
  have hb4 := s4 _ _ hb3
  have hl4 := s4 _ _ hl3
  have sm4 := sm3.trans s4
  simp only [Sx.runS] at run
  cases e1 : s.entB P P.n with
  | none =>
    rw [e1] at run
    cases run
    rw [if_pos (by simp [optI])]
    refine snap_R (hid := hid) (H0 := H0) (env := [.un, .un, .un, .un, .fz (.lst (tabD (P.m + 1) (P.n + 1) (s.T P))), .fz (.lst (rowD P.m fun j => (s.ba j : Nat))), .fz (.lst (rowD P.n fun j => (s.lo j : Nat))), .fz (.int (s.sc P)), .un, .un, .un, .un, .un, .un])
      (.un (.un (.un (.un (.fz (tab4.rp ht hrs) (.fz (.lst (by rw [cut_neg hpb]; exact hb4) rp_row) (.fz (.lst (by rw [cut_neg hpl]; exact hl4) rp_row) (.fz (.int _) (.un (.un (.un (.un (.un (.un .nil)))))))))))))) sm4 (hidb sm4) (e_top hI ok.m ok.n (o8 := .un)) hQ
  | some c =>
    have hE := Sx.ent_of e1
    have hc := hE.lt
    rw [e1] at run
    simp only at run
    rw [if_neg (fun h => by have := of_decide_eq_true h; simp only [optI] at this; omega)]
    refine snap_E (env := [.un, .un, .un, .un, .fz (.lst (tabD (P.m + 1) (P.n + 1) (s.T P))), .fz (.lst (rowD P.m fun j => (s.ba j : Nat))), .un, .un, .fz (.int c), .un, .un, .un, .un, .un]) (r := .fz (.int (optI (s.lvB P c P.m))))
      (.un (.un (.un (.un (.fz tab4.rp0 (.fz (rp_row0 hb4) (.un (.un (.fz (.int _) (.un (.un (.un (.un (.un .nil)))))))))))))) (e_lv ok.m hc (ok.T s)) fun v H5 s5 nv => ?_
    have := rp_int nv
    subst this
    have tab5 := tab4.mono s5
    have hb5 := s5 _ _ hb4
    have hl5 := s5 _ _ hl4
    have sm5 := sm4.trans s5
    refine snap_T (env := [.un, .un, .un, .un, .un, .un, .un, .un, .un, .un, .un, .fz (.int (optI (s.lvB P c P.m))), .un, .un]) (b := decide (optI (s.lvB P c P.m) < 0))
      (.un (.un (.un (.un (.un (.un (.un (.un (.un (.un (.un (.fz (.int _) (.un (.un .nil)))))))))))))) (by simp) fun H6 s6 => ?_
    have tab6 := tab5.mono s6
    have hb6 := s6 _ _ hb5
    have hl6 := s6 _ _ hl5
    have sm6 := sm5.trans s6
    cases e2 : s.lvB P c P.m with
    | none =>
      rw [e2] at run
      cases run
      rw [if_pos (by simp [optI])]
      refine snap_R (hid := hid) (H0 := H0) (env := [.un, .un, .un, .un, .fz (.lst (tabD (P.m + 1) (P.n + 1) (s.T P))), .fz (.lst (rowD P.m fun j => (s.ba j : Nat))), .fz (.lst (rowD P.n fun j => (s.lo j : Nat))), .fz (.int (s.sc P)), .fz (.int c), .un, .un, .un, .un, .un])
        (.un (.un (.un (.un (.fz (tab6.rp ht hrs) (.fz (.lst (by rw [cut_neg hpb]; exact hb6) rp_row) (.fz (.lst (by rw [cut_neg hpl]; exact hl6) rp_row) (.fz (.int _) (.fz (.int _) (.un (.un (.un (.un (.un .nil)))))))))))))) sm6 (hidb sm6) (e_ray hI hc ok.m ok.n) hQ
    | some r =>
      have hL := Sx.lv_of e2
      have hr := hL.lt
      rw [e2] at run
      simp only at run
      rw [if_neg (fun h => by have := of_decide_eq_true h; simp only [optI] at this; omega)]
      refine ⟨.ref t, rfl, .int r, rfl, .int c, rfl, .int (s.sc P), rfl, t, rs, P.m + 1, P.n + 1, s.T P, r, c, s.sc P, rfl, tab6, by omega, by omega, by have := hI.pos; omega, by have := ok.m; omega, by have := ok.n; omega, ok.T s, ok.sc s, fun H7 rs' tab7 sm7 new7 => ?_⟩
      have hb7 : H7 pb = _ := sm7 pb _ (by rw [cut_neg (by simp [n1, n2])]; exact hb6)
      have hl7 : H7 pl = _ := sm7 pl _ (by rw [cut_neg (by simp [n3, n4])]; exact hl6)
      have sm07 : Same H0 H7 := fun a o e => sm7 a o (by
        rw [cut_neg, sm6 a o e]
        rintro (h | h)
        · rw [h, f1] at e; cases e
        · rw [f2 a h] at e; cases e)
      have new0 : ∀ a, a ∈ rs' → H0 a = none := fun a ha => by
        rcases new7 a ha with h | h
        · exact f2 a h
        · cases q : H0 a with
          | none => rfl
          | some o => rw [sm6 a o q] at h; cases h
      have m1 : pb ∉ rs' := fun h => by
        rcases new7 pb h with h | h
        · exact n2 h
        · rw [hb6] at h; cases h
      have m2 : pl ∉ rs' := fun h => by
        rcases new7 pl h with h | h
        · exact n4 h
        · rw [hl6] at h; cases h
      have tab7 : Tab H7 t rs' (P.m + 1) (P.n + 1) ((s.piv r c).T P) := tab7.congr fun i hi j hj => Sx.new_eq hI (by omega) (by omega) (by omega)
      -- the pair
      refine ⟨.ref pl, rfl, .int c, rfl, pl, _, c, .int (s.lo c : Nat), rfl, rfl, .inl (.inl hl7), by rw [DL.atI_nat]; exact rowV_get hc, ?_⟩
      refine ⟨.ref pb, rfl, .int r, rfl, pb, _, r, .int (s.ba r : Nat), rfl, rfl, .inl (.inl hb7), by rw [DL.atI_nat]; exact rowV_get hr, ?_⟩
      refine ⟨by have := sz; show 2 ≤ sizeLine; omega, fun p hp => ?_⟩
      refine ⟨p, _, rfl, .inl (.inl upd_same), rfl, ?_⟩
      have ppb : pb ≠ p := fun e => by rw [← e, hb7] at hp; cases hp
      have ppl : pl ≠ p := fun e => by rw [← e, hl7] at hp; cases hp
      have tab8 := tab7.mono (same_new (o := .tup [.int (s.lo c : Nat), .int (s.ba r : Nat)]) hp)
      refine ⟨.int (s.lo c : Nat), _, rfl, ?_⟩
      refine ⟨.ref pb, rfl, .int r, rfl, pb, _, r, r, rfl, rfl, by rw [upd_ne ppb]; exact hb7, ixN_nat (by simpa using hr), ?_⟩
      refine ⟨.int (s.ba r : Nat), _, rfl, ?_⟩
      refine ⟨.ref pl, rfl, .int c, rfl, pl, _, c, c, rfl, rfl, by rw [upd_ne (Ne.symm n5), upd_ne ppl]; exact hl7, ixN_nat (by simpa using hc), rfl, ?_⟩
      refine hN _ _ ⟨f, by omega, s.piv r c, t, rs', pb, pl, o0, o1, o2, some (.int c), o9, o10, some (.int r), o12, o13, by rw [Sx.St.piv_sc]; rfl, run, Sx.inv_piv hI hc hL.toLv, (tab8.other n1 m1).other n3 m2, ?_, ?_, n1, m1, n3, m2, n5, fun a o e => ?_, f1, new0, f3, f4⟩
      · rw [upd_ne n5, upd_same, rowV_set hr]
        congr 2
        refine rowV_congr fun j hj => ?_
        simp only [Sx.St.piv, Sx.up]
        split <;> rfl
      · rw [upd_same, rowV_set hc]
        congr 2
        refine rowV_congr fun j hj => ?_
        simp only [Sx.St.piv, Sx.up]
        split <;> rfl
      · have h7 := sm07 a o e
        rw [upd_ne (fun h => by rw [h, f4] at e; cases e), upd_ne (fun h => by rw [h, f3] at e; cases e), upd_ne (fun h => by rw [h, hp] at h7; cases h7)]
        exact h7
end K62
end

section
set_option maxRecDepth 100000
set_option maxHeartbeats 1000000
namespace K62
open PySem L2 DL PG
variable {P : Program} {w : World} {mg : Str → Option Value} {base : Heap} {G : GC}
theorem CI.mono {P : Sx.LP} {fin : Sx.Fin} {H0 H2 H3 : Hp} {f : Nat} {σ : L2.St} (h : CI P fin H0 f σ H2) (e : Same H2 H3) : CI P fin H0 f σ H3 := by
  obtain ⟨s, t, rs, pb, pl, o0, o1, o2, o8, o9, o10, o11, o12, o13, rfl, run, hI, tab, hb, hl, n1, n2, n3, n4, n5, sm, f1⟩ := h
  exact ⟨s, t, rs, pb, pl, o0, o1, o2, o8, o9, o10, o11, o12, o13, rfl, run, hI, tab.mono e, e _ _ hb, e _ _ hl, n1, n2, n3, n4, n5, sm.trans e, f1⟩
theorem climb_run {cs : List (List Int)} {ls gs : List Int} (ok : ClOk cs ls gs) {fin : Sx.Fin} (run : Sx.runS (lpOf cs ls gs) (2 ^ (cs.length + ls.length) + 1) (Sx.St.init (lpOf cs ls gs)) = some fin) {hid : Addr → Prop} {H : Hp} (hh : ∀ a, hid a → H a ≠ none) {vs : List V}
    (hv : RpAll G (cut hid H) vs [.lst (cs.map lsD), .lst (ls.map D.int), .lst (gs.map D.int)]) {Q : VK} (hQ : ∀ v H', RetR G hid H H' v (.fz (finD (lpOf cs ls gs) fin)) → Q v H') :
    c_t (G := G) { nx := fun _ H' => Q .non H', rt := Q } (start N_climb vs) H := by
  cases hv with | @cons v0 _ _ _ r0 hv =>
  cases hv with | @cons v1 _ _ _ r1 hv =>
  cases hv with | @cons v2 _ _ _ r2 hv =>
  cases hv
  have r0 := r0.mono cut_le
  have r1 := r1.mono cut_le
  have r2 := r2.mono cut_le
  have hm := ok.m
  have hn := ok.n
  have hP : lpOf cs ls gs = lpOf cs ls gs := rfl
  have lok : LpOk (lpOf cs ls gs) := ⟨ok.n, ok.m, fun s => lp_T ok s, fun s => lp_sc ok s⟩
  have hI0 : Sx.Inv (lpOf cs ls gs) (Sx.St.init (lpOf cs ls gs)) := Sx.inv_init _ (fun p hp => by
    have hp : p < ls.length := hp
    show 0 ≤ ls.getD p 0
    rw [List.getD_eq_getElem?_getD, List.getElem?_eq_getElem hp]
    exact ok.pos _ (List.getElem_mem hp))
  -- many
  refine snap_E (env := [.fz (.lst (cs.map lsD)), .un, .un, .un, .un, .un, .un, .un, .un, .un, .un, .un, .un, .un]) (r := .fz (.int cs.length))
    (.fz r0 (.un (.un (.un (.un (.un (.un (.un (.un (.un (.un (.un (.un (.un .nil)))))))))))))) (by simp) fun v H1 s1 nv => ?_
  have := rp_int nv
  subst this
  -- the table
  refine snap_A (env := [.un, .fz (.lst (ls.map D.int)), .un, .un, .un, .un, .un, .un, .un, .un, .un, .un, .un, .un]) (r := [.int ls.length])
    (.un (.fz (r1.mono s1) (.un (.un (.un (.un (.un (.un (.un (.un (.un (.un (.un (.un .nil)))))))))))))) (by simp) fun us H2 s2 ru => ?_
  cases ru with | cons h h' =>
  cases h
  cases h'
  have s02 : Same H H2 := s1.trans s2
  refine ⟨ls.length, rfl, by omega, by omega, fun t ht => ?_⟩
  refine ⟨fun i k H' => k = ls.length - i ∧ i ≤ ls.length ∧ ∃ rs, Tab H' t rs i (cs.length + 1) ((Sx.St.init (lpOf cs ls gs)).T (lpOf cs ls gs)) ∧ Same H2 H' ∧ ∀ a, a ∈ rs → H2 a = none,
    ⟨_, rfl, Nat.zero_le _, [], tab_nil upd_same, same_new ht, fun a h => by simp at h⟩, ?_⟩
  rintro i k H' ⟨rfl, hi, rs, tab, sm, new⟩
  by_cases hlt : i < ls.length
  · refine .inr ⟨by show i < Int.toNat (ls.length : Int); omega, fun H'' => ∃ rs, Tab H'' t rs (i + 1) (cs.length + 1) ((Sx.St.init (lpOf cs ls gs)).T (lpOf cs ls gs)) ∧ Same H2 H'' ∧ ∀ a, a ∈ rs → H2 a = none,
      fun H'' w => ⟨ls.length - (i + 1), by omega, rfl, by omega, w⟩, ?_⟩
    rintro x H'' ⟨rfl, ex⟩
    have ex : x = .int (i : Int) := by rw [ex]; simp
    subst ex
    refine ⟨rfl, ?_⟩
    unfold tYes; dsimp only
    rw [if_pos rfl]
    refine snap_E (env := [.fz (.lst (cs.map lsD)), .fz (.lst (ls.map D.int)), .un, .un, .un, .un, .un, .un, .un, .un, .un, .un, .fz (.int i), .un])
      (.fz ((r0.mono s02).mono sm) (.fz ((r1.mono s02).mono sm) (.un (.un (.un (.un (.un (.un (.un (.un (.un (.un (.fz (.int _) (.un .nil)))))))))))))) (e_elt ok hlt) fun v H4 s4 nv => ?_
    obtain ⟨p, ws, rfl, hp, hp4, rv⟩ := nv
    have := rp_row_eq rv
    subst this
    have tab4 := tab.mono s4
    have hpt : p ≠ t := fun e => by rw [e, tab.ht] at hp; cases hp
    have hpr : p ∉ rs := fun e => by
      obtain ⟨k, hk⟩ := List.mem_iff_getElem?.mp e
      rw [tab.row k p hk] at hp; cases hp
    refine ⟨rs.map V.ref, tab4.ht, by rw [List.length_map, tab4.len]; have := sz; omega, rs ++ [p], tab4.push hp4 hpt hpr, fun a o e => ?_, fun a ha => ?_⟩
    · rw [upd_ne (fun h => by rw [h, ht] at e; cases e)]
      exact s4 _ _ (sm _ _ e)
    · rcases List.mem_append.mp ha with h | h
      · exact new a h
      · simp at h
        subst h
        cases q : H2 a with
        | none => rfl
        | some o => rw [sm _ _ q] at hp; cases hp
  have hi : i = ls.length := by omega
  subst hi
  refine .inl ⟨by show Int.toNat (ls.length : Int) ≤ ls.length; omega, ?_⟩
  have s0' := s02.trans sm
  -- the row of gains
  refine ⟨.ref t, rfl, .inl ⟨rfl, _, .inl (.inl tab.ht)⟩, ?_⟩
  refine snap_E (env := [.un, .un, .fz (.lst (gs.map D.int)), .un, .un, .un, .un, .un, .un, .un, .un, .un, .un, .un])
    (.un (.un (.fz (r2.mono s0') (.un (.un (.un (.un (.un (.un (.un (.un (.un (.un (.un .nil)))))))))))))) (e_obj ok) fun v H4 s4 nv => ?_
  obtain ⟨p, ws, rfl, hp, hp4, rv⟩ := nv
  have := rp_row_eq rv
  subst this
  have tab4 := tab.mono s4
  have hpt : p ≠ t := fun e => by rw [e, tab.ht] at hp; cases hp
  have hpr : p ∉ rs := fun e => by
    obtain ⟨k, hk⟩ := List.mem_iff_getElem?.mp e
    rw [tab.row k p hk] at hp; cases hp
  have h0t : H t = none := by
    cases q : H t with
    | none => rfl
    | some o => rw [s02 _ _ q] at ht; cases ht
  refine ⟨t, _, .ref p, rfl, rfl, tab4.ht, by rw [List.length_map, tab4.len]; have := sz; omega, ?_⟩
  have tab5 := tab4.push hp4 hpt hpr
  have s05 : Same H (upd H4 t (.lst (rs.map V.ref ++ [.ref p]))) := fun a o e => by
    rw [upd_ne (fun h => by rw [h, h0t] at e; cases e)]
    exact s4 _ _ (s0' _ _ e)
  have new5 : ∀ a, a ∈ rs ++ [p] → H a = none := fun a ha => by
    cases q : H a with
    | none => rfl
    | some o =>
      rcases List.mem_append.mp ha with h | h
      · have h1 := new a h; rw [s02 _ _ q] at h1; cases h1
      · simp at h
        subst h
        rw [s0' _ _ q] at hp; cases hp
  generalize hH5 : upd H4 t (.lst (rs.map V.ref ++ [.ref p])) = H5 at tab5 s05 ⊢
  generalize hrs : rs ++ [p] = rs5 at tab5 new5
  clear tab4 hpr hpt hp4 rv s4 tab new sm hp hrs hH5 s0'
  -- basic
  refine snap_E (env := [.un, .fz (.lst (ls.map D.int)), .un, .fz (.int cs.length), .un, .un, .un, .un, .un, .un, .un, .un, .un, .un])
    (.un (.fz (r1.mono s05) (.un (.fz (.int _) (.un (.un (.un (.un (.un (.un (.un (.un (.un (.un .nil)))))))))))))) (e_bas hm) fun v H6 s6 nv => ?_
  obtain ⟨pb, ws, rfl, hb, hb6, rv⟩ := nv
  have := rp_row_eq rv
  subst this
  have tab6 := tab5.mono s6
  have s06 := s05.trans s6
  have h0b : H pb = none := by
    cases q : H pb with
    | none => rfl
    | some o => rw [s05 _ _ q] at hb; cases hb
  have b1 : pb ≠ t := fun e => by rw [e, tab5.ht] at hb; cases hb
  have b2 : pb ∉ rs5 := fun e => by
    obtain ⟨k, hk⟩ := List.mem_iff_getElem?.mp e
    rw [tab5.row k pb hk] at hb; cases hb
  -- loose
  refine ⟨.int cs.length, rfl, cs.length, rfl, ⟨by omega, by omega, by omega, by omega, by omega⟩, fun pl hl => ?_⟩
  have l0 : pl ≠ pb := fun e => by rw [e, hb6] at hl; cases hl
  have l1 : pl ≠ t := fun e => by rw [e, tab6.ht] at hl; cases hl
  have l2 : pl ∉ rs5 := fun e => by
    obtain ⟨k, hk⟩ := List.mem_iff_getElem?.mp e
    rw [tab6.row k pl hk] at hl; cases hl
  have h0l : H pl = none := by
    cases q : H pl with
    | none => rfl
    | some o => rw [s06 _ _ q] at hl; cases hl
  have tab7 := tab6.other (o := .lst (rgV 0 cs.length)) l1 l2
  have s07 : Same H (upd H6 pl (.lst (rgV 0 cs.length))) := s06.trans (same_new hl)
  have hb7 : upd H6 pl (.lst (rgV 0 cs.length)) pb = some (.lst (rowV ls.length fun k => ((cs.length + k : Nat) : Int))) := by rw [upd_ne (Ne.symm l0)]; exact hb6
  have hl7 : upd H6 pl (.lst (rgV 0 cs.length)) pl = some (.lst (rowV cs.length fun j => (j : Int))) := by rw [upd_same, rgV_row]
  generalize upd H6 pl (.lst (rgV 0 cs.length)) = H7 at tab7 s07 hb7 hl7 ⊢
  -- scale
  refine snap_E (env := [.un, .un, .un, .un, .un, .un, .un, .un, .un, .un, .un, .un, .un, .un]) (r := .fz (.int 1))
    (.un (.un (.un (.un (.un (.un (.un (.un (.un (.un (.un (.un (.un (.un .nil)))))))))))))) (by simp) fun v H8 s8 nv => ?_
  have := rp_int nv
  subst this
  refine ⟨fun f σ H' => CI (lpOf cs ls gs) fin H f σ H', ⟨2 ^ (cs.length + ls.length) + 1, ?_⟩, ?_⟩
  · have ci : CI (lpOf cs ls gs) fin H (2 ^ (cs.length + ls.length) + 1) _ H7 := ⟨Sx.St.init (lpOf cs ls gs), t, rs5, pb, pl, some v0, some v1, some v2, none, none, none, none, none, none, rfl, run, hI0, tab7, hb7,
      by rw [hl7]; congr 2; exact rowV_congr fun j hj => by
            show (j : Int) = ((if j = (lpOf cs ls gs).n then _ else j : Nat) : Int)
            have : (lpOf cs ls gs).n = cs.length := rfl
            rw [if_neg (by omega)],
      b1, b2, l1, l2, Ne.symm l0, s07, h0t, new5, h0b, h0l⟩
    rw [Sx.sc_init] at ci
    exact ci.mono s8
  · intro f σ H' ci
    have ci' := ci
    obtain ⟨s, t, rs, pb, pl, o0, o1, o2, o8, o9, o10, o11, o12, o13, rfl, _⟩ := ci
    refine snap_T (env := [.un, .un, .un, .un, .un, .un, .un, .un, .un, .un, .un, .un, .un, .un]) (b := true)
      (.un (.un (.un (.un (.un (.un (.un (.un (.un (.un (.un (.un (.un (.un .nil)))))))))))))) (by simp) fun H9 s9 => ?_
    rw [if_pos rfl]
    refine ⟨fun σ' H' => ∃ f', f' < f ∧ CI (lpOf cs ls gs) fin H f' σ' H', fun σ' H' h => h, ?_⟩
    exact turn_run lok hh (ci'.mono s9) (fun σ' H' h => h) hQ
theorem c_climb (I : FnIn G.K mg "climb" s_climb ["columns", "limits", "gains"]) (C_entering_column : Cal P w G.K mg base G "entering_column" 1 2 m_entering_column) (C_leaving_row : Cal P w G.K mg base G "leaving_row" 1 3 m_leaving_row) (C_top_of : Cal P w G.K mg base G "top_of" 1 3 m_top_of) (C_ray_of : Cal P w G.K mg base G "ray_of" 1 5 m_ray_of)
    (C_exchange : CalS P w G.K mg base "exchange" 1 spX) (n_len : mg "len" = none) (n_range : mg "range" = none) (n_list : mg "list" = none) : Cal P w G.K mg base G "climb" 2 3 m_climb := by
  obtain ⟨f, fd, F, hm, hbi⟩ := I.ex
  refine ⟨f, fd, _, F.ok sc_climb (fun vs H Q E h => ?_) (fun cdv A outer s H vs Q E hr h => ?_), hm, F.kp, hbi⟩
  · obtain ⟨hid, ds, hl, _, r, _⟩ := h
    rw [r.len, hl]; rfl
  · obtain ⟨hid, ds, hl, hh, r, h⟩ := h
    obtain ⟨tr, hp, e⟩ := climb_body (P := P) (w := w) (mg := mg) (base := base) (G := G) (f := f) (cdv := cdv) (A := A) (outer := outer) (s := s) (H := H) (E := E) n_len n_range n_list C_entering_column C_leaving_row C_top_of C_ray_of C_exchange hr
    subst e
    refine ⟨_, hp, ?_⟩
    cases e : m_climb ds with
    | bad => rw [e] at h; exact h.elim
    | ex x => exact absurd e climb_noex
    | ok z =>
      rw [e] at h
      obtain ⟨cs, ls, gs, fin, rfl, ok, run, rfl⟩ := climb_in e
      exact climb_run ok run hh r h
theorem c_exchange (I : FnIn G.K mg "exchange" s_exchange ["table", "row", "column", "scale"]) (n_len : mg "len" = none) (n_range : mg "range" = none) (n_zip : mg "zip" = none) : CalS P w G.K mg base "exchange" 1 spX := by
  obtain ⟨f, fd, F, hm, hbi⟩ := I.ex
  exact ⟨f, fd, _, fn_exchange F n_len n_range n_zip, hm, F.kp, hbi⟩
end K62
end

section
set_option maxRecDepth 100000
set_option maxHeartbeats 4000000
namespace K62
open PySem L2 DL PG LW
variable {P : Program} {w : World} {mg : Str → Option Value} {base : Heap} {G : GC}
abbrev s_law_numbers : Stmt := top 26
abbrev N_law_numbers : List Str := ["script", "many", "found", "seed", "k", "cell", "step"]
theorem sc_law_numbers : FnScope N_law_numbers ["script", "many"] (defScope s_law_numbers) := ⟨rfl, rfl, rfl, by decide +kernel, rfl, by decide +kernel, by decide +kernel⟩
theorem c_law_numbers (I : FnIn G.K mg "_law_numbers" s_law_numbers ["script", "many"]) (n_len : mg "len" = none) (n_min : mg "min" = none) (n_range : mg "range" = none) (n_int : mg "int" = none) : Cal P w G.K mg base G "_law_numbers" 1 2 m_law_numbers :=
  have nd := sc_law_numbers.nd
  cal_by (k := 0) (b := b_law_numbers) I sc_law_numbers (fun f cdv A outer s H E hr =>
    (dss_cons (ds_set (i := 2) nd rfl (.inl rfl) (d_lst da_nil)) (dss_cons (ds_set (i := 3) nd rfl (.inl rfl) d_int) (dss_cons (ds_for PassesOwn.never rfl (di_range1 rfl n_range (da_cons (d_min2 rfl n_min (da_cons (d_len n_len (da_cons (d_var 0) da_nil)) (da_cons d_int da_nil))) da_nil)) (dg_name (i := 4) nd rfl (.inl rfl)) (dss_cons (ds_set (i := 5) nd rfl (.inl rfl) (d_intc n_int (da_cons (d_ix (d_var 0) (d_var 4)) da_nil))) (dss_cons (ds_set (i := 3) nd rfl (.inl rfl) (d_mod (d_intc n_int (da_cons (d_add (d_add (d_mul (d_var 3) d_int) (d_mul (d_var 5) d_int)) (d_var 4)) da_nil)) d_int)) (dss_cons (ds_if (t_cp hr (d_var 5) d_int) (dss_one (ds_set (i := 5) nd rfl (.inl rfl) (d_sub d_int (d_mul d_int (d_var 5))))) dss_nil) (dss_one (ds_if (t_cp hr (d_var 5) (d_pow d_int d_int)) (dss_one (ds_for PassesOwn.never rfl (di_range1 rfl n_range (da_cons d_int da_nil)) (dg_name (i := 6) nd rfl (.inl rfl)) (dss_one (ds_if (DW.t (dw_and (t_cp hr (d_var 5) d_int) (dw_and1 (t_cp hr (d_len n_len (da_cons (d_var 2) da_nil)) (d_var 1))))) (dss_cons (ds_app 2 (d_mod (d_intc n_int (da_cons (d_var 5) da_nil)) d_int)) (dss_one (ds_set (i := 5) nd rfl (.inl rfl) (d_fdiv (d_var 5) d_int)))) dss_nil)))) (dss_one (ds_if (t_cp hr (d_len n_len (da_cons (d_var 2) da_nil)) (d_var 1)) (dss_one (ds_app 2 (d_mod (d_mod (d_intc n_int (da_cons (d_mul (d_mod (d_intc n_int (da_cons (d_add (d_mul (d_var 5) d_int) (d_mul (d_var 4) d_int)) da_nil)) d_int) d_int) da_nil)) d_int) d_int))) dss_nil)))))))) (dss_cons (ds_for PassesOwn.never rfl (di_range1 rfl n_range (da_cons (d_var 1) da_nil)) (dg_name (i := 4) nd rfl (.inl rfl)) (dss_one (ds_if (t_cp hr (d_len n_len (da_cons (d_var 2) da_nil)) (d_var 1)) (dss_cons (ds_set (i := 3) nd rfl (.inl rfl) (d_mod (d_intc n_int (da_cons (d_add (d_mul (d_var 3) d_int) d_int) da_nil)) d_int)) (dss_one (ds_app 2 (d_mod (d_intc n_int (da_cons (d_fdiv (d_var 3) d_int) da_nil)) d_int)))) dss_nil))) (dss_one (ds_retV 2))))))) rfl rfl rfl rfl
abbrev s_law_lowest : Stmt := top 27
abbrev N_law_lowest : List Str := ["row", "common", "number", "rest", "step"]
theorem sc_law_lowest : FnScope N_law_lowest ["row"] (defScope s_law_lowest) := ⟨rfl, rfl, rfl, by decide +kernel, rfl, by decide +kernel, by decide +kernel⟩
theorem c_law_lowest (I : FnIn G.K mg "_law_lowest" s_law_lowest ["row"]) (n_abs : mg "abs" = none) (n_range : mg "range" = none) (n_int : mg "int" = none) (n_max : mg "max" = none) (n_tuple : mg "tuple" = none) : Cal P w G.K mg base G "_law_lowest" 1 1 m_law_lowest :=
  have nd := sc_law_lowest.nd
  cal_by (k := 0) (b := b_law_lowest) I sc_law_lowest (fun f cdv A outer s H E hr =>
    (dss_cons (ds_set (i := 1) nd rfl (.inr rfl) d_int) (dss_cons (ds_for PassesOwn.never rfl (di_any (d_var 0)) (dg_name (i := 2) nd rfl (.inl rfl)) (dss_cons (ds_set (i := 3) nd rfl (.inl rfl) (d_abs n_abs (da_cons (d_var 2) da_nil))) (dss_one (ds_for PassesOwn.never rfl (di_range1 rfl n_range (da_cons d_int da_nil)) (dg_name (i := 4) nd rfl (.inl rfl)) (dss_cons (ds_if (t_cp hr (d_var 3) d_int) (dss_one ds_break) dss_nil) (dss_one (ds_asg (d_tup (da_cons (d_var 3) (da_cons (d_mod (d_intc n_int (da_cons (d_var 1) da_nil)) (d_var 3)) da_nil))) (dg_tup rfl rfl (dgs_cons (dg_name (i := 1) nd rfl (.inr rfl)) (dgs_cons (dg_name (i := 3) nd rfl (.inl rfl)) dgs_nil)))))))))) (dss_one (ds_ret (d_tuplec n_tuple (da_cons (d_lc rfl nd (di_any (d_var 0)) (blkOk_by (own := [("number", 2)]) (N := N_law_lowest) (sc := defScope s_law_lowest) (by decide +kernel)) (by decide) (fun _ _ _ _ _ => (dg_name (i := 2) nd rfl (.inl rfl))) (fun _ _ _ _ _ => dts_nil) (fun _ _ _ _ _ => (d_fdiv (d_var 2) (d_max2 rfl n_max (da_cons (d_var 1) (da_cons d_int da_nil)))))) da_nil))))))) rfl rfl rfl rfl
abbrev s_law_lot : Stmt := top 30
abbrev N_law_lot : List Str := ["numbers", "states", "many", "found", "k", "row", "state"]
theorem sc_law_lot : FnScope N_law_lot ["numbers", "states"] (defScope s_law_lot) := ⟨rfl, rfl, rfl, by decide +kernel, rfl, by decide +kernel, by decide +kernel⟩
theorem c_law_lot (I : FnIn G.K mg "_law_lot" s_law_lot ["numbers", "states"]) (C_law_lowest : Cal P w G.K mg base G "_law_lowest" 1 1 m_law_lowest) (n_int : mg "int" = none) (n_range : mg "range" = none) (n_sum : mg "sum" = none) : Cal P w G.K mg base G "_law_lot" 2 2 m_law_lot :=
  have nd := sc_law_lot.nd
  cal_by (k := 1) (b := b_law_lot) I sc_law_lot (fun f cdv A outer s H E hr =>
    (dss_cons (ds_set (i := 2) nd rfl (.inl rfl) (d_add d_int (d_mod (d_intc n_int (da_cons (d_ix (d_var 0) d_int) da_nil)) d_int))) (dss_cons (ds_if (t_cp hr (d_mod (d_intc n_int (da_cons (d_ix (d_var 0) d_int) da_nil)) d_int) d_int) (dss_one (ds_set (i := 2) nd rfl (.inl rfl) d_int)) dss_nil) (dss_cons (ds_set (i := 3) nd rfl (.inl rfl) (d_lst da_nil)) (dss_cons (ds_for PassesOwn.never rfl (di_range1 rfl n_range (da_cons (d_var 2) da_nil)) (dg_name (i := 4) nd rfl (.inr rfl)) (dss_cons (ds_setLc (i := 5) rfl nd rfl rfl (sw_true rfl rfl rfl (by decide +kernel)) (di_range1 rfl n_range (da_cons (d_var 1) da_nil)) (blkOk_by (own := [("state", 6)]) (N := N_law_lot) (sc := defScope s_law_lot) (by decide +kernel)) (by decide) (fun _ _ _ _ _ => (dg_name (i := 6) nd rfl (.inl rfl))) (fun _ _ _ _ _ => dts_nil) (fun _ _ _ _ _ => (d_mod (d_intc n_int (da_cons (d_ix (d_var 0) (d_add (d_add d_int (d_mul d_int (d_var 4))) (d_var 6))) da_nil)) d_int))) (dss_cons (ds_if (t_cp hr (d_sum rfl n_sum (da_cons (d_var 5) da_nil)) d_int) (dss_one (ds_setIx 5 d_int (d_mod (d_intc n_int (da_cons (d_ix (d_var 0) d_int) da_nil)) (d_var 1)))) dss_nil) (dss_one (ds_if (t_cp hr (d_cal C_law_lowest hr (by decide) (da_cons (d_var 5) da_nil) rfl) (d_var 3)) (dss_one (ds_app 3 (d_cal C_law_lowest hr (by decide) (da_cons (d_var 5) da_nil) rfl))) dss_nil))))) (dss_one (ds_retV 3))))))) rfl rfl rfl rfl
abbrev s_law_acts : Stmt := top 31
abbrev N_law_acts : List Str := ["numbers", "states", "span", "times", "acts", "k", "act", "state", "worth"]
theorem sc_law_acts : FnScope N_law_acts ["numbers", "states"] (defScope s_law_acts) := ⟨rfl, rfl, rfl, by decide +kernel, rfl, by decide +kernel, by decide +kernel⟩
theorem c_law_acts (I : FnIn G.K mg "_law_acts" s_law_acts ["numbers", "states"]) (n_int : mg "int" = none) (n_range : mg "range" = none) (n_tuple : mg "tuple" = none) : Cal P w G.K mg base G "_law_acts" 1 2 m_law_acts :=
  have nd := sc_law_acts.nd
  cal_by (k := 0) (b := b_law_acts) I sc_law_acts (fun f cdv A outer s H E hr =>
    (dss_cons (ds_set (i := 2) nd rfl (.inr rfl) d_int) (dss_cons (ds_if (t_cp hr (d_mod (d_intc n_int (da_cons (d_ix (d_var 0) d_int) da_nil)) d_int) d_int) (dss_one (ds_set (i := 2) nd rfl (.inr rfl) d_int)) dss_nil) (dss_cons (ds_set (i := 3) nd rfl (.inr rfl) d_int) (dss_cons (ds_if (t_cp hr (d_mod (d_intc n_int (da_cons (d_ix (d_var 0) d_int) da_nil)) d_int) d_int) (dss_one (ds_set (i := 3) nd rfl (.inr rfl) (d_pow d_int d_int))) dss_nil) (dss_cons (ds_set (i := 4) nd rfl (.inl rfl) (d_lst da_nil)) (dss_cons (ds_for PassesOwn.never rfl (di_range1 rfl n_range (da_cons (d_add d_int (d_mod (d_intc n_int (da_cons (d_ix (d_var 0) d_int) da_nil)) d_int)) da_nil)) (dg_name (i := 5) nd rfl (.inr rfl)) (dss_cons (ds_setLc (i := 6) rfl nd rfl rfl (sw_true rfl rfl rfl (by decide +kernel)) (di_range1 rfl n_range (da_cons (d_var 1) da_nil)) (blkOk_by (own := [("state", 7)]) (N := N_law_acts) (sc := defScope s_law_acts) (by decide +kernel)) (by decide) (fun _ _ _ _ _ => (dg_name (i := 7) nd rfl (.inl rfl))) (fun _ _ _ _ _ => dts_nil) (fun _ _ _ _ _ => (d_sub (d_mod (d_intc n_int (da_cons (d_ix (d_var 0) (d_add (d_add d_int (d_mul d_int (d_var 5))) (d_var 7))) da_nil)) (d_add (d_mul d_int (d_var 2)) d_int)) (d_var 2)))) (dss_one (ds_app 4 (d_tuplec n_tuple (da_cons (d_lc rfl nd (di_any (d_var 6)) (blkOk_by (own := [("worth", 8)]) (N := N_law_acts) (sc := defScope s_law_acts) (by decide +kernel)) (by decide) (fun _ _ _ _ _ => (dg_name (i := 8) nd rfl (.inl rfl))) (fun _ _ _ _ _ => dts_nil) (fun _ _ _ _ _ => (d_mul (d_var 8) (d_var 3)))) da_nil)))))) (dss_one (ds_retV 4))))))))) rfl rfl rfl rfl
abbrev s_entering_column : Stmt := top 11
abbrev N_entering_column : List Str := ["gains", "loose", "best", "column"]
theorem sc_entering_column : FnScope N_entering_column ["gains", "loose"] (defScope s_entering_column) := ⟨rfl, rfl, rfl, by decide +kernel, rfl, by decide +kernel, by decide +kernel⟩
theorem c_entering_column (I : FnIn G.K mg "entering_column" s_entering_column ["gains", "loose"]) (n_len : mg "len" = none) (n_range : mg "range" = none) : Cal P w G.K mg base G "entering_column" 1 2 m_entering_column :=
  have nd := sc_entering_column.nd
  cal_by (k := 0) (b := b_entering_column) I sc_entering_column (fun f cdv A outer s H E hr =>
    (dss_cons (ds_set (i := 2) nd rfl (.inl rfl) (d_neg d_int)) (dss_cons (ds_for PassesOwn.never rfl (di_range1 rfl n_range (da_cons (d_len n_len (da_cons (d_var 1) da_nil)) da_nil)) (dg_name (i := 3) nd rfl (.inl rfl)) (dss_one (ds_if (DW.t (dw_and (t_cp hr (d_ix (d_var 0) (d_var 3)) d_int) (dw_and1 (DW.t (dw_or (t_cp hr (d_var 2) d_int) (dw_or1 (t_cp hr (d_ix (d_var 1) (d_var 3)) (d_ix (d_var 1) (d_var 2))))))))) (dss_one (ds_set (i := 2) nd rfl (.inl rfl) (d_var 3))) dss_nil))) (dss_one (ds_retV 2))))) rfl rfl rfl rfl
abbrev s_leaving_row : Stmt := top 12
abbrev N_leaving_row : List Str := ["table", "basic", "column", "best", "row", "step", "order"]
theorem sc_leaving_row : FnScope N_leaving_row ["table", "basic", "column"] (defScope s_leaving_row) := ⟨rfl, rfl, rfl, by decide +kernel, rfl, by decide +kernel, by decide +kernel⟩
theorem c_leaving_row (I : FnIn G.K mg "leaving_row" s_leaving_row ["table", "basic", "column"]) (n_len : mg "len" = none) (n_range : mg "range" = none) : Cal P w G.K mg base G "leaving_row" 1 3 m_leaving_row :=
  have nd := sc_leaving_row.nd
  cal_by (k := 0) (b := b_leaving_row) I sc_leaving_row (fun f cdv A outer s H E hr =>
    (dss_cons (ds_set (i := 3) nd rfl (.inl rfl) (d_neg d_int)) (dss_cons (ds_for PassesOwn.never rfl (di_range1 rfl n_range (da_cons (d_len n_len (da_cons (d_var 1) da_nil)) da_nil)) (dg_name (i := 4) nd rfl (.inl rfl)) (dss_cons (ds_set (i := 5) nd rfl (.inl rfl) (d_ix (d_ix (d_var 0) (d_var 4)) (d_var 2))) (dss_cons (ds_if (t_cp hr (d_var 5) d_int) (dss_one ds_continue) dss_nil) (dss_cons (ds_if (t_cp hr (d_var 3) d_int) (dss_cons (ds_set (i := 3) nd rfl (.inl rfl) (d_var 4)) (dss_one ds_continue)) dss_nil) (dss_cons (ds_set (i := 6) nd rfl (.inl rfl) (d_sub (d_mul (d_ix (d_ix (d_var 0) (d_var 4)) (d_neg d_int)) (d_ix (d_ix (d_var 0) (d_var 3)) (d_var 2))) (d_mul (d_ix (d_ix (d_var 0) (d_var 3)) (d_neg d_int)) (d_var 5)))) (dss_one (ds_if (DW.t (dw_or (t_cp hr (d_var 6) d_int) (dw_or1 (DW.t (dw_and (t_cp hr (d_var 6) d_int) (dw_and1 (t_cp hr (d_ix (d_var 1) (d_var 4)) (d_ix (d_var 1) (d_var 3))))))))) (dss_one (ds_set (i := 3) nd rfl (.inl rfl) (d_var 4))) dss_nil))))))) (dss_one (ds_retV 3))))) rfl rfl rfl rfl
abbrev s_top_of : Stmt := top 14
abbrev N_top_of : List Str := ["table", "basic", "loose", "many", "weights", "prices", "row", "column"]
theorem sc_top_of : FnScope N_top_of ["table", "basic", "loose"] (defScope s_top_of) := ⟨rfl, rfl, rfl, by decide +kernel, rfl, by decide +kernel, by decide +kernel⟩
theorem c_top_of (I : FnIn G.K mg "top_of" s_top_of ["table", "basic", "loose"]) (n_len : mg "len" = none) (n_range : mg "range" = none) : Cal P w G.K mg base G "top_of" 1 3 m_top_of :=
  have nd := sc_top_of.nd
  cal_by (k := 0) (b := b_top_of) I sc_top_of (fun f cdv A outer s H E hr =>
    (dss_cons (ds_set (i := 3) nd rfl (.inl rfl) (d_len n_len (da_cons (d_var 2) da_nil))) (dss_cons (ds_set (i := 4) nd rfl (.inl rfl) (d_mul (d_lst (da_cons d_int da_nil)) (d_var 3))) (dss_cons (ds_set (i := 5) nd rfl (.inl rfl) (d_mul (d_lst (da_cons d_int da_nil)) (d_len n_len (da_cons (d_var 1) da_nil)))) (dss_cons (ds_for PassesOwn.never rfl (di_range1 rfl n_range (da_cons (d_len n_len (da_cons (d_var 1) da_nil)) da_nil)) (dg_name (i := 6) nd rfl (.inl rfl)) (dss_one (ds_if (t_cp hr (d_ix (d_var 1) (d_var 6)) (d_var 3)) (dss_one (ds_setIx 4 (d_ix (d_ix (d_var 0) (d_var 6)) (d_neg d_int)) (d_ix (d_var 1) (d_var 6)))) dss_nil))) (dss_cons (ds_for PassesOwn.never rfl (di_range1 rfl n_range (da_cons (d_var 3) da_nil)) (dg_name (i := 7) nd rfl (.inl rfl)) (dss_one (ds_if (t_cp hr (d_ix (d_var 2) (d_var 7)) (d_var 3)) (dss_one (ds_setIx 5 (d_neg (d_ix (d_ix (d_var 0) (d_neg d_int)) (d_var 7))) (d_sub (d_ix (d_var 2) (d_var 7)) (d_var 3)))) dss_nil))) (dss_one (ds_ret (d_tup (da_cons (d_var 4) (da_cons (d_var 5) da_nil))))))))))) rfl rfl rfl rfl
abbrev s_ray_of : Stmt := top 15
abbrev N_ray_of : List Str := ["table", "basic", "loose", "column", "scale", "many", "weights", "row"]
theorem sc_ray_of : FnScope N_ray_of ["table", "basic", "loose", "column", "scale"] (defScope s_ray_of) := ⟨rfl, rfl, rfl, by decide +kernel, rfl, by decide +kernel, by decide +kernel⟩
theorem c_ray_of (I : FnIn G.K mg "ray_of" s_ray_of ["table", "basic", "loose", "column", "scale"]) (n_len : mg "len" = none) (n_range : mg "range" = none) : Cal P w G.K mg base G "ray_of" 1 5 m_ray_of :=
  have nd := sc_ray_of.nd
  cal_by (k := 0) (b := b_ray_of) I sc_ray_of (fun f cdv A outer s H E hr =>
    (dss_cons (ds_set (i := 5) nd rfl (.inl rfl) (d_len n_len (da_cons (d_var 2) da_nil))) (dss_cons (ds_set (i := 6) nd rfl (.inl rfl) (d_mul (d_lst (da_cons d_int da_nil)) (d_var 5))) (dss_cons (ds_if (t_cp hr (d_ix (d_var 2) (d_var 3)) (d_var 5)) (dss_one (ds_setIx 6 (d_var 4) (d_ix (d_var 2) (d_var 3)))) dss_nil) (dss_cons (ds_for PassesOwn.never rfl (di_range1 rfl n_range (da_cons (d_len n_len (da_cons (d_var 1) da_nil)) da_nil)) (dg_name (i := 7) nd rfl (.inl rfl)) (dss_one (ds_if (t_cp hr (d_ix (d_var 1) (d_var 7)) (d_var 5)) (dss_one (ds_setIx 6 (d_neg (d_ix (d_ix (d_var 0) (d_var 7)) (d_var 3))) (d_ix (d_var 1) (d_var 7)))) dss_nil))) (dss_one (ds_retV 6))))))) rfl rfl rfl rfl
abbrev s_lowest : Stmt := top 6
abbrev N_lowest : List Str := ["numbers", "divisor", "number"]
theorem sc_lowest : FnScope N_lowest ["numbers"] (defScope s_lowest) := ⟨rfl, rfl, rfl, by decide +kernel, rfl, by decide +kernel, by decide +kernel⟩
theorem c_lowest (I : FnIn G.K mg "lowest" s_lowest ["numbers"]) (n_tuple : mg "tuple" = none) (g_gcd : mg "gcd" = some (.builtin "math.gcd")) : Cal P w G.K mg base G "lowest" 1 1 m_lowest :=
  have nd := sc_lowest.nd
  cal_by (k := 0) (b := b_lowest) I sc_lowest (fun f cdv A outer s H E hr =>
    (dss_cons (ds_set (i := 1) nd rfl (.inr rfl) d_int) (dss_cons (ds_for PassesOwn.never rfl (di_any (d_var 0)) (dg_name (i := 2) nd rfl (.inl rfl)) (dss_one (ds_set (i := 1) nd rfl (.inr rfl) (d_gcd g_gcd (da_cons (d_var 1) (da_cons (d_var 2) da_nil)))))) (dss_cons (ds_if (t_cp hr (d_var 1) d_int) (dss_one (ds_ret (d_tuplec n_tuple (da_cons (d_var 0) da_nil)))) dss_nil) (dss_one (ds_ret (d_tuplec n_tuple (da_cons (d_lc rfl nd (di_any (d_var 0)) (blkOk_by (own := [("number", 2)]) (N := N_lowest) (sc := defScope s_lowest) (by decide +kernel)) (by decide) (fun _ _ _ _ _ => (dg_name (i := 2) nd rfl (.inl rfl))) (fun _ _ _ _ _ => dts_nil) (fun _ _ _ _ _ => (d_fdiv (d_var 2) (d_var 1)))) da_nil)))))))) rfl rfl rfl rfl
abbrev s_least : Stmt := top 17
abbrev N_least : List Str := ["goal", "rows", "count", "columns", "gains", "word", "scale", "weights", "prices", "numbers", "bound"]
theorem sc_least : FnScope N_least ["goal", "rows", "count"] (defScope s_least) := ⟨rfl, rfl, rfl, by decide +kernel, rfl, by decide +kernel, by decide +kernel⟩
theorem c_least (I : FnIn G.K mg "least" s_least ["goal", "rows", "count"]) (C_climb : Cal P w G.K mg base G "climb" 2 3 m_climb) (C_lowest : Cal P w G.K mg base G "lowest" 1 1 m_lowest) (n_list : mg "list" = none) : Cal P w G.K mg base G "least" 3 3 m_least :=
  have nd := sc_least.nd
  cal_by (k := 2) (b := b_least) I sc_least (fun f cdv A outer s H E hr =>
    (dss_cons (ds_setLc (i := 3) rfl nd rfl rfl (sw_true rfl rfl rfl (by decide +kernel)) (di_any (d_var 1)) (blkOk_by (own := [("weights", 7), ("bound", 10)]) (N := N_least) (sc := defScope s_least) (by decide +kernel)) (by decide) (fun _ _ _ _ _ => (dg_tup rfl rfl (dgs_cons (dg_name (i := 7) nd rfl (.inl rfl)) (dgs_cons (dg_name (i := 10) nd rfl (.inl rfl)) dgs_nil)))) (fun _ _ _ _ _ => dts_nil) (fun _ _ _ _ _ => (d_listc n_list (da_cons (d_var 7) da_nil)))) (dss_cons (ds_setLc (i := 4) rfl nd rfl rfl (sw_true rfl rfl rfl (by decide +kernel)) (di_any (d_var 1)) (blkOk_by (own := [("weights", 7), ("bound", 10)]) (N := N_least) (sc := defScope s_least) (by decide +kernel)) (by decide) (fun _ _ _ _ _ => (dg_tup rfl rfl (dgs_cons (dg_name (i := 7) nd rfl (.inl rfl)) (dgs_cons (dg_name (i := 10) nd rfl (.inl rfl)) dgs_nil)))) (fun _ _ _ _ _ => dts_nil) (fun _ _ _ _ _ => (d_var 10))) (dss_cons (ds_asg (d_cal C_climb hr (by decide) (da_cons (d_var 3) (da_cons (d_listc n_list (da_cons (d_var 0) da_nil)) (da_cons (d_var 4) da_nil))) rfl) (dg_tup rfl rfl (dgs_cons (dg_name (i := 5) nd rfl (.inl rfl)) (dgs_cons (dg_name (i := 6) nd rfl (.inl rfl)) (dgs_cons (dg_name (i := 7) nd rfl (.inl rfl)) (dgs_cons (dg_name (i := 8) nd rfl (.inl rfl)) dgs_nil)))))) (dss_cons (ds_if (t_cp hr (d_var 5) d_str) (dss_one (ds_ret (d_tup (da_cons d_str (da_cons (d_cal C_lowest hr (by decide) (da_cons (d_var 7) da_nil) rfl) da_nil))))) dss_nil) (dss_cons (ds_set (i := 9) nd rfl (.inl rfl) (d_cal C_lowest hr (by decide) (da_cons (d_add (d_add (d_lst (da_cons (d_var 6) da_nil)) (d_var 8)) (d_var 7)) da_nil) rfl)) (dss_one (ds_ret (d_tup (da_cons d_str (da_cons (d_ix (d_var 9) d_int) (da_cons (d_slice (d_var 9) (do_some d_int) (do_some (d_add (d_var 2) d_int))) (da_cons (d_slice (d_var 9) (do_some (d_add (d_var 2) d_int)) do_none) da_nil))))))))))))) rfl rfl rfl rfl
abbrev s_ratio : Stmt := top 2
abbrev N_ratio : List Str := ["top", "bottom", "divisor"]
theorem sc_ratio : FnScope N_ratio ["top", "bottom"] (defScope s_ratio) := ⟨rfl, rfl, rfl, by decide +kernel, rfl, by decide +kernel, by decide +kernel⟩
theorem c_ratio (I : FnIn G.K mg "ratio" s_ratio ["top", "bottom"]) (g_gcd : mg "gcd" = some (.builtin "math.gcd")) : Cal P w G.K mg base G "ratio" 1 2 m_ratio :=
  have nd := sc_ratio.nd
  cal_by (k := 0) (b := b_ratio) I sc_ratio (fun f cdv A outer s H E hr =>
    (dss_cons (ds_set (i := 2) nd rfl (.inl rfl) (d_gcd g_gcd (da_cons (d_var 0) (da_cons (d_var 1) da_nil)))) (dss_cons (ds_if (t_cp hr (d_var 1) d_int) (dss_one (ds_set (i := 2) nd rfl (.inl rfl) (d_neg (d_var 2)))) dss_nil) (dss_one (ds_ret (d_tup (da_cons (d_fdiv (d_var 0) (d_var 2)) (da_cons (d_fdiv (d_var 1) (d_var 2)) da_nil)))))))) rfl rfl rfl rfl
abbrev s_dot : Stmt := top 18
abbrev N_dot : List Str := ["left", "right", "first", "second"]
theorem sc_dot : FnScope N_dot ["left", "right"] (defScope s_dot) := ⟨rfl, rfl, rfl, by decide +kernel, rfl, by decide +kernel, by decide +kernel⟩
theorem c_dot (I : FnIn G.K mg "dot" s_dot ["left", "right"]) (n_zip : mg "zip" = none) (n_sum : mg "sum" = none) : Cal P w G.K mg base G "dot" 1 2 m_dot :=
  have nd := sc_dot.nd
  cal_by (k := 0) (b := b_dot) I sc_dot (fun f cdv A outer s H E hr =>
    (dss_one (ds_ret (d_sum rfl n_sum (da_cons (d_lc rfl nd (di_zip rfl n_zip (da_cons (d_var 0) (da_cons (d_var 1) da_nil))) (blkOk_by (own := [("first", 2), ("second", 3)]) (N := N_dot) (sc := defScope s_dot) (by decide +kernel)) (by decide) (fun _ _ _ _ _ => (dg_tup rfl rfl (dgs_cons (dg_name (i := 2) nd rfl (.inl rfl)) (dgs_cons (dg_name (i := 3) nd rfl (.inl rfl)) dgs_nil)))) (fun _ _ _ _ _ => dts_nil) (fun _ _ _ _ _ => (d_mul (d_var 2) (d_var 3)))) da_nil))))) rfl rfl rfl rfl
abbrev s_best_mixture : Stmt := top 22
abbrev N_best_mixture : List Str := ["lot", "acts", "shift", "rows", "chance", "total", "_", "scale", "point", "paper", "value", "shares", "act", "number"]
theorem sc_best_mixture : FnScope N_best_mixture ["lot", "acts"] (defScope s_best_mixture) := ⟨rfl, rfl, rfl, by decide +kernel, rfl, by decide +kernel, by decide +kernel⟩
theorem c_best_mixture (I : FnIn G.K mg "best_mixture" s_best_mixture ["lot", "acts"]) (C_dot : Cal P w G.K mg base G "dot" 1 2 m_dot) (C_least : Cal P w G.K mg base G "least" 3 3 m_least) (C_ratio : Cal P w G.K mg base G "ratio" 1 2 m_ratio) (C_lowest : Cal P w G.K mg base G "lowest" 1 1 m_lowest) (n_min : mg "min" = none) (n_sum : mg "sum" = none) (n_len : mg "len" = none) (n_zip : mg "zip" = none) : Cal P w G.K mg base G "best_mixture" 4 2 m_best_mixture :=
  have nd := sc_best_mixture.nd
  cal_by (k := 3) (b := b_best_mixture) I sc_best_mixture (fun f cdv A outer s H E hr =>
    (dss_cons (ds_set (i := 2) nd rfl (.inr rfl) (d_sub d_int (d_min1 rfl n_min (da_cons (d_lc rfl nd (di_any (d_var 1)) (blkOk_by (own := [("act", 12)]) (N := N_best_mixture) (sc := defScope s_best_mixture) (by decide +kernel)) (by decide) (fun _ _ _ _ _ => (dg_name (i := 12) nd rfl (.inl rfl))) (fun _ _ _ _ _ => dts_nil) (fun _ _ _ _ _ => (d_min1 rfl n_min (da_cons (d_var 12) da_nil)))) da_nil)))) (dss_cons (ds_set (i := 3) nd rfl (.inl rfl) (d_lst da_nil)) (dss_cons (ds_for PassesOwn.never rfl (di_any (d_var 0)) (dg_name (i := 4) nd rfl (.inr rfl)) (dss_cons (ds_set (i := 5) nd rfl (.inr rfl) (d_sum rfl n_sum (da_cons (d_var 4) da_nil))) (dss_one (ds_app 3 (d_tup (da_cons (d_nl (d_lc rfl nd (di_any (d_var 1)) (blkOk_by (own := [("act", 12)]) (N := N_best_mixture) (sc := defScope s_best_mixture) (by decide +kernel)) (by decide) (fun _ _ _ _ _ => (dg_name (i := 12) nd rfl (.inl rfl))) (fun _ _ _ _ _ => dts_nil) (fun _ _ _ _ _ => (d_add (d_cal C_dot hr (by decide) (da_cons (d_var 4) (da_cons (d_var 12) da_nil)) rfl) (d_mul (d_var 2) (d_var 5)))))) (da_cons (d_var 5) da_nil))))))) (dss_cons (ds_asg (d_cal C_least hr (by decide) (da_cons (d_mul (d_lst (da_cons d_int da_nil)) (d_len n_len (da_cons (d_var 1) da_nil))) (da_cons (d_var 3) (da_cons (d_len n_len (da_cons (d_var 1) da_nil)) da_nil))) rfl) (dg_tup rfl rfl (dgs_cons (dg_name (i := 6) nd rfl (.inl rfl)) (dgs_cons (dg_name (i := 7) nd rfl (.inl rfl)) (dgs_cons (dg_name (i := 8) nd rfl (.inl rfl)) (dgs_cons (dg_name (i := 9) nd rfl (.inl rfl)) dgs_nil)))))) (dss_cons (ds_set (i := 10) nd rfl (.inl rfl) (d_cal C_ratio hr (by decide) (da_cons (d_sub (d_var 7) (d_mul (d_var 2) (d_sum rfl n_sum (da_cons (d_var 8) da_nil)))) (da_cons (d_sum rfl n_sum (da_cons (d_var 8) da_nil)) da_nil)) rfl)) (dss_cons (ds_setLc (i := 11) rfl nd rfl rfl (sw_true rfl rfl rfl (by decide +kernel)) (di_zip rfl n_zip (da_cons (d_var 9) (da_cons (d_var 0) da_nil))) (blkOk_by (own := [("number", 13), ("chance", 4)]) (N := N_best_mixture) (sc := defScope s_best_mixture) (by decide +kernel)) (by decide) (fun _ _ _ _ _ => (dg_tup rfl rfl (dgs_cons (dg_name (i := 13) nd rfl (.inl rfl)) (dgs_cons (dg_name (i := 4) nd rfl (.inl rfl)) dgs_nil)))) (fun _ _ _ _ _ => dts_nil) (fun _ _ _ _ _ => (d_mul (d_var 13) (d_sum rfl n_sum (da_cons (d_var 4) da_nil))))) (dss_one (ds_ret (d_tup (da_cons (d_var 10) (da_cons (d_cal C_lowest hr (by decide) (da_cons (d_var 8) da_nil) rfl) (da_cons (d_cal C_lowest hr (by decide) (da_cons (d_var 11) da_nil) rfl) da_nil))))))))))))) rfl rfl rfl rfl
abbrev s_law_changed : Stmt := top 35
abbrev N_law_changed : List Str := ["row", "at", "step", "found"]
theorem sc_law_changed : FnScope N_law_changed ["row", "at", "step"] (defScope s_law_changed) := ⟨rfl, rfl, rfl, by decide +kernel, rfl, by decide +kernel, by decide +kernel⟩
theorem c_law_changed (I : FnIn G.K mg "_law_changed" s_law_changed ["row", "at", "step"]) (n_list : mg "list" = none) (n_tuple : mg "tuple" = none) : Cal P w G.K mg base G "_law_changed" 1 3 m_law_changed :=
  have nd := sc_law_changed.nd
  cal_by (k := 0) (b := b_law_changed) I sc_law_changed (fun f cdv A outer s H E hr =>
    (dss_cons (ds_set (i := 3) nd rfl (.inl rfl) (d_listc n_list (da_cons (d_var 0) da_nil))) (dss_cons (ds_setIx 3 (d_add (d_ix (d_var 3) (d_var 1)) (d_var 2)) (d_var 1)) (dss_one (ds_ret (d_tuplec n_tuple (da_cons (d_var 3) da_nil))))))) rfl rfl rfl rfl
abbrev s_law_integers : Stmt := top 28
abbrev N_law_integers : List Str := ["found", "many", "number"]
theorem sc_law_integers : FnScope N_law_integers ["found", "many"] (defScope s_law_integers) := ⟨rfl, rfl, rfl, by decide +kernel, rfl, by decide +kernel, by decide +kernel⟩
theorem c_law_integers (I : FnIn G.K mg "_law_integers" s_law_integers ["found", "many"]) (n_isinstance : mg "isinstance" = none) (n_tuple : mg "tuple" = none) (n_len : mg "len" = none) (n_int : mg "int" = none) (n_bool : mg "bool" = none) : Cal P w G.K mg base G "_law_integers" 1 2 m_law_integers :=
  have nd := sc_law_integers.nd
  cal_by (k := 0) (b := b_law_integers) I sc_law_integers (fun f cdv A outer s H E hr =>
    (dss_cons (ds_if (DW.t (dw_or (dt_not (dt_val (d_isi rfl n_isinstance (d_var 0) (pe_bltn rfl n_tuple (by decide +kernel) rfl) (ty_tuple _)))) (dw_or1 (t_cp hr (d_len n_len (da_cons (d_var 0) da_nil)) (d_var 1))))) (dss_one (ds_ret d_bl)) dss_nil) (dss_cons (ds_for PassesOwn.never rfl (di_any (d_var 0)) (dg_name (i := 2) nd rfl (.inl rfl)) (dss_one (ds_if (DW.t (dw_or (dt_not (dt_val (d_isi rfl n_isinstance (d_var 2) (pe_bltn rfl n_int (by decide +kernel) rfl) (ty_int _)))) (dw_or1 (dt_val (d_isi rfl n_isinstance (d_var 2) (pe_bltn rfl n_bool (by decide +kernel) rfl) (ty_bool _)))))) (dss_one (ds_ret d_bl)) dss_nil))) (dss_one (ds_ret d_bl))))) rfl rfl rfl rfl
abbrev s_law_form : Stmt := top 36
abbrev N_law_form : List Str := ["answer", "lot", "acts", "value", "weights", "shares"]
theorem sc_law_form : FnScope N_law_form ["answer", "lot", "acts"] (defScope s_law_form) := ⟨rfl, rfl, rfl, by decide +kernel, rfl, by decide +kernel, by decide +kernel⟩
theorem c_law_form (I : FnIn G.K mg "_law_form" s_law_form ["answer", "lot", "acts"]) (C_law_integers : Cal P w G.K mg base G "_law_integers" 1 2 m_law_integers) (C_law_lowest : Cal P w G.K mg base G "_law_lowest" 1 1 m_law_lowest) (n_isinstance : mg "isinstance" = none) (n_tuple : mg "tuple" = none) (n_len : mg "len" = none) : Cal P w G.K mg base G "_law_form" 2 3 m_law_form :=
  have nd := sc_law_form.nd
  cal_by (k := 1) (b := b_law_form) I sc_law_form (fun f cdv A outer s H E hr =>
    (dss_cons (ds_if (DW.t (dw_or (dt_not (dt_val (d_isi rfl n_isinstance (d_var 0) (pe_bltn rfl n_tuple (by decide +kernel) rfl) (ty_tuple _)))) (dw_or1 (t_cp hr (d_len n_len (da_cons (d_var 0) da_nil)) d_int)))) (dss_one (ds_ret d_bl)) dss_nil) (dss_cons (ds_asg (d_var 0) (dg_tup rfl rfl (dgs_cons (dg_name (i := 3) nd rfl (.inl rfl)) (dgs_cons (dg_name (i := 4) nd rfl (.inl rfl)) (dgs_cons (dg_name (i := 5) nd rfl (.inl rfl)) dgs_nil))))) (dss_cons (ds_if (DW.t (dw_or (dt_not (dt_val (d_cal C_law_integers hr (by decide) (da_cons (d_var 3) (da_cons d_int da_nil)) rfl))) (dw_or (t_cp hr (d_ix (d_var 3) d_int) d_int) (dw_or1 (t_cp hr (d_cal C_law_lowest hr (by decide) (da_cons (d_var 3) da_nil) rfl) (d_var 3)))))) (dss_one (ds_ret d_bl)) dss_nil) (dss_cons (ds_if (DW.t (dw_or (dt_not (dt_val (d_cal C_law_integers hr (by decide) (da_cons (d_var 4) (da_cons (d_len n_len (da_cons (d_var 2) da_nil)) da_nil)) rfl))) (dw_or1 (t_cp hr (d_cal C_law_lowest hr (by decide) (da_cons (d_var 4) da_nil) rfl) (d_var 4))))) (dss_one (ds_ret d_bl)) dss_nil) (dss_one (ds_ret (d_and (d_cal C_law_integers hr (by decide) (da_cons (d_var 5) (da_cons (d_len n_len (da_cons (d_var 1) da_nil)) da_nil)) rfl) (d_one (d_cp hr (d_cal C_law_lowest hr (by decide) (da_cons (d_var 5) da_nil) rfl) (d_var 5))))))))))) rfl rfl rfl rfl
abbrev s_mix : Stmt := top 9
abbrev N_mix : List Str := ["chances", "weights", "common", "chance", "total", "weight", "factor", "old", "part"]
theorem sc_mix : FnScope N_mix ["chances", "weights"] (defScope s_mix) := ⟨rfl, rfl, rfl, by decide +kernel, rfl, by decide +kernel, by decide +kernel⟩
theorem c_mix (I : FnIn G.K mg "mix" s_mix ["chances", "weights"]) (C_lowest : Cal P w G.K mg base G "lowest" 1 1 m_lowest) (n_sum : mg "sum" = none) (n_len : mg "len" = none) (n_zip : mg "zip" = none) (g_lcm : mg "lcm" = some (.builtin "math.lcm")) : Cal P w G.K mg base G "mix" 2 2 m_mix :=
  have nd := sc_mix.nd
  cal_by (k := 1) (b := b_mix) I sc_mix (fun f cdv A outer s H E hr =>
    (dss_cons (ds_set (i := 2) nd rfl (.inl rfl) d_int) (dss_cons (ds_for PassesOwn.never rfl (di_any (d_var 0)) (dg_name (i := 3) nd rfl (.inl rfl)) (dss_one (ds_set (i := 2) nd rfl (.inl rfl) (d_lcm g_lcm (da_cons (d_var 2) (da_cons (d_sum rfl n_sum (da_cons (d_var 3) da_nil)) da_nil)))))) (dss_cons (ds_set (i := 4) nd rfl (.inl rfl) (d_mul (d_lst (da_cons d_int da_nil)) (d_len n_len (da_cons (d_ix (d_var 0) d_int) da_nil)))) (dss_cons (ds_for PassesOwn.never rfl (di_zip rfl n_zip (da_cons (d_var 0) (da_cons (d_var 1) da_nil))) (dg_tup rfl rfl (dgs_cons (dg_name (i := 3) nd rfl (.inl rfl)) (dgs_cons (dg_name (i := 5) nd rfl (.inl rfl)) dgs_nil))) (dss_cons (ds_set (i := 6) nd rfl (.inr rfl) (d_mul (d_var 5) (d_fdiv (d_var 2) (d_sum rfl n_sum (da_cons (d_var 3) da_nil))))) (dss_one (ds_setLc (i := 4) rfl nd rfl rfl (sw_true rfl rfl rfl (by decide +kernel)) (di_zip rfl n_zip (da_cons (d_var 4) (da_cons (d_var 3) da_nil))) (blkOk_by (own := [("old", 7), ("part", 8)]) (N := N_mix) (sc := defScope s_mix) (by decide +kernel)) (by decide) (fun _ _ _ _ _ => (dg_tup rfl rfl (dgs_cons (dg_name (i := 7) nd rfl (.inl rfl)) (dgs_cons (dg_name (i := 8) nd rfl (.inl rfl)) dgs_nil)))) (fun _ _ _ _ _ => dts_nil) (fun _ _ _ _ _ => (d_add (d_var 7) (d_mul (d_var 6) (d_var 8)))))))) (dss_one (ds_ret (d_cal C_lowest hr (by decide) (da_cons (d_var 4) da_nil) rfl)))))))) rfl rfl rfl rfl
abbrev s_compare : Stmt := top 4
abbrev N_compare : List Str := ["left", "right", "difference"]
theorem sc_compare : FnScope N_compare ["left", "right"] (defScope s_compare) := ⟨rfl, rfl, rfl, by decide +kernel, rfl, by decide +kernel, by decide +kernel⟩
theorem c_compare (I : FnIn G.K mg "compare" s_compare ["left", "right"]) : Cal P w G.K mg base G "compare" 1 2 m_compare :=
  have nd := sc_compare.nd
  cal_by (k := 0) (b := b_compare) I sc_compare (fun f cdv A outer s H E hr =>
    (dss_cons (ds_set (i := 2) nd rfl (.inl rfl) (d_sub (d_mul (d_ix (d_var 0) d_int) (d_ix (d_var 1) d_int)) (d_mul (d_ix (d_var 1) d_int) (d_ix (d_var 0) d_int)))) (dss_cons (ds_if (t_cp hr (d_var 2) d_int) (dss_one (ds_ret (d_neg d_int))) dss_nil) (dss_cons (ds_if (t_cp hr (d_var 2) d_int) (dss_one (ds_ret d_int)) dss_nil) (dss_one (ds_ret d_int)))))) rfl rfl rfl rfl
abbrev s_weighs : Stmt := top 23
abbrev N_weighs : List Str := ["weights", "many"]
theorem sc_weighs : FnScope N_weighs ["weights", "many"] (defScope s_weighs) := ⟨rfl, rfl, rfl, by decide +kernel, rfl, by decide +kernel, by decide +kernel⟩
theorem c_weighs (I : FnIn G.K mg "weighs" s_weighs ["weights", "many"]) (n_len : mg "len" = none) (n_min : mg "min" = none) (n_sum : mg "sum" = none) : Cal P w G.K mg base G "weighs" 1 2 m_weighs :=
  have nd := sc_weighs.nd
  cal_by (k := 0) (b := b_weighs) I sc_weighs (fun f cdv A outer s H E hr =>
    (dss_one (ds_ret (d_and (d_cp hr (d_len n_len (da_cons (d_var 0) da_nil)) (d_var 1)) (d_and (d_cp hr (d_min1 rfl n_min (da_cons (d_var 0) da_nil)) d_int) (d_one (d_cp hr (d_sum rfl n_sum (da_cons (d_var 0) da_nil)) d_int))))))) rfl rfl rfl rfl
abbrev s_least_of : Stmt := top 5
abbrev N_least_of : List Str := ["fractions", "best", "fraction"]
theorem sc_least_of : FnScope N_least_of ["fractions"] (defScope s_least_of) := ⟨rfl, rfl, rfl, by decide +kernel, rfl, by decide +kernel, by decide +kernel⟩
theorem c_least_of (I : FnIn G.K mg "least_of" s_least_of ["fractions"]) (C_compare : Cal P w G.K mg base G "compare" 1 2 m_compare) : Cal P w G.K mg base G "least_of" 2 1 m_least_of :=
  have nd := sc_least_of.nd
  cal_by (k := 1) (b := b_least_of) I sc_least_of (fun f cdv A outer s H E hr =>
    (dss_cons (ds_set (i := 1) nd rfl (.inl rfl) (d_ix (d_var 0) d_int)) (dss_cons (ds_for PassesOwn.never rfl (di_any (d_var 0)) (dg_name (i := 2) nd rfl (.inl rfl)) (dss_one (ds_if (t_cp hr (d_cal C_compare hr (by decide) (da_cons (d_var 2) (da_cons (d_var 1) da_nil)) rfl) d_int) (dss_one (ds_set (i := 1) nd rfl (.inl rfl) (d_var 2))) dss_nil))) (dss_one (ds_retV 1))))) rfl rfl rfl rfl
abbrev s_mean : Stmt := top 8
abbrev N_mean : List Str := ["chance", "act", "weight", "worth"]
theorem sc_mean : FnScope N_mean ["chance", "act"] (defScope s_mean) := ⟨rfl, rfl, rfl, by decide +kernel, rfl, by decide +kernel, by decide +kernel⟩
theorem c_mean (I : FnIn G.K mg "mean" s_mean ["chance", "act"]) (C_ratio : Cal P w G.K mg base G "ratio" 1 2 m_ratio) (n_sum : mg "sum" = none) (n_zip : mg "zip" = none) : Cal P w G.K mg base G "mean" 2 2 m_mean :=
  have nd := sc_mean.nd
  cal_by (k := 1) (b := b_mean) I sc_mean (fun f cdv A outer s H E hr =>
    (dss_one (ds_ret (d_cal C_ratio hr (by decide) (da_cons (d_sum rfl n_sum (da_cons (d_lc rfl nd (di_zip rfl n_zip (da_cons (d_var 0) (da_cons (d_var 1) da_nil))) (blkOk_by (own := [("weight", 2), ("worth", 3)]) (N := N_mean) (sc := defScope s_mean) (by decide +kernel)) (by decide) (fun _ _ _ _ _ => (dg_tup rfl rfl (dgs_cons (dg_name (i := 2) nd rfl (.inl rfl)) (dgs_cons (dg_name (i := 3) nd rfl (.inl rfl)) dgs_nil)))) (fun _ _ _ _ _ => dts_nil) (fun _ _ _ _ _ => (d_mul (d_var 2) (d_var 3)))) da_nil)) (da_cons (d_sum rfl n_sum (da_cons (d_var 0) da_nil)) da_nil)) rfl)))) rfl rfl rfl rfl
abbrev s_worst : Stmt := top 20
abbrev N_worst : List Str := ["lot", "act", "chance"]
theorem sc_worst : FnScope N_worst ["lot", "act"] (defScope s_worst) := ⟨rfl, rfl, rfl, by decide +kernel, rfl, by decide +kernel, by decide +kernel⟩
theorem c_worst (I : FnIn G.K mg "worst" s_worst ["lot", "act"]) (C_mean : Cal P w G.K mg base G "mean" 2 2 m_mean) (C_least_of : Cal P w G.K mg base G "least_of" 2 1 m_least_of) : Cal P w G.K mg base G "worst" 3 2 m_worst :=
  have nd := sc_worst.nd
  cal_by (k := 2) (b := b_worst) I sc_worst (fun f cdv A outer s H E hr =>
    (dss_one (ds_ret (d_cal C_least_of hr (by decide) (da_cons (d_lc rfl nd (di_any (d_var 0)) (blkOk_by (own := [("chance", 2)]) (N := N_worst) (sc := defScope s_worst) (by decide +kernel)) (by decide) (fun _ _ _ _ _ => (dg_name (i := 2) nd rfl (.inl rfl))) (fun _ _ _ _ _ => dts_nil) (fun _ _ _ _ _ => (d_cal C_mean hr (by decide) (da_cons (d_var 2) (da_cons (d_var 1) da_nil)) rfl))) da_nil) rfl)))) rfl rfl rfl rfl
abbrev s_multiply : Stmt := top 3
abbrev N_multiply : List Str := ["left", "right"]
theorem sc_multiply : FnScope N_multiply ["left", "right"] (defScope s_multiply) := ⟨rfl, rfl, rfl, by decide +kernel, rfl, by decide +kernel, by decide +kernel⟩
theorem c_multiply (I : FnIn G.K mg "multiply" s_multiply ["left", "right"]) (C_ratio : Cal P w G.K mg base G "ratio" 1 2 m_ratio) : Cal P w G.K mg base G "multiply" 2 2 m_multiply :=
  have nd := sc_multiply.nd
  cal_by (k := 1) (b := b_multiply) I sc_multiply (fun f cdv A outer s H E hr =>
    (dss_one (ds_ret (d_cal C_ratio hr (by decide) (da_cons (d_mul (d_ix (d_var 0) d_int) (d_ix (d_var 1) d_int)) (da_cons (d_mul (d_ix (d_var 0) d_int) (d_ix (d_var 1) d_int)) da_nil)) rfl)))) rfl rfl rfl rfl
abbrev s_shows_mixture : Stmt := top 24
abbrev N_shows_mixture : List Str := ["lot", "acts", "value", "weights", "shares", "total", "chance", "column", "act"]
theorem sc_shows_mixture : FnScope N_shows_mixture ["lot", "acts", "value", "weights", "shares"] (defScope s_shows_mixture) := ⟨rfl, rfl, rfl, by decide +kernel, rfl, by decide +kernel, by decide +kernel⟩
theorem c_shows_mixture (I : FnIn G.K mg "shows_mixture" s_shows_mixture ["lot", "acts", "value", "weights", "shares"]) (C_weighs : Cal P w G.K mg base G "weighs" 1 2 m_weighs) (C_dot : Cal P w G.K mg base G "dot" 1 2 m_dot) (C_multiply : Cal P w G.K mg base G "multiply" 2 2 m_multiply) (C_worst : Cal P w G.K mg base G "worst" 3 2 m_worst) (C_compare : Cal P w G.K mg base G "compare" 1 2 m_compare) (C_mix : Cal P w G.K mg base G "mix" 2 2 m_mix) (C_mean : Cal P w G.K mg base G "mean" 2 2 m_mean) (n_len : mg "len" = none) (n_zip : mg "zip" = none) (n_sum : mg "sum" = none) (n_all : mg "all" = none) : Cal P w G.K mg base G "shows_mixture" 4 5 m_shows_mixture :=
  have nd := sc_shows_mixture.nd
  cal_by (k := 3) (b := b_shows_mixture) I sc_shows_mixture (fun f cdv A outer s H E hr =>
    (dss_cons (ds_if (DW.t (dw_or (dt_not (dt_val (d_cal C_weighs hr (by decide) (da_cons (d_var 3) (da_cons (d_len n_len (da_cons (d_var 1) da_nil)) da_nil)) rfl))) (dw_or1 (dt_not (dt_val (d_cal C_weighs hr (by decide) (da_cons (d_var 4) (da_cons (d_len n_len (da_cons (d_var 0) da_nil)) da_nil)) rfl)))))) (dss_one (ds_ret d_bl)) dss_nil) (dss_cons (ds_setLc (i := 5) rfl nd rfl rfl (sw_true rfl rfl rfl (by decide +kernel)) (di_zipN rfl n_zip (d_var 1)) (blkOk_by (own := [("column", 7)]) (N := N_shows_mixture) (sc := defScope s_shows_mixture) (by decide +kernel)) (by decide) (fun _ _ _ _ _ => (dg_name (i := 7) nd rfl (.inl rfl))) (fun _ _ _ _ _ => dts_nil) (fun _ _ _ _ _ => (d_cal C_dot hr (by decide) (da_cons (d_var 3) (da_cons (d_var 7) da_nil)) rfl))) (dss_cons (ds_if (t_cp hr (d_cal C_compare hr (by decide) (da_cons (d_cal C_worst hr (by decide) (da_cons (d_var 0) (da_cons (d_var 5) da_nil)) rfl) (da_cons (d_cal C_multiply hr (by decide) (da_cons (d_var 2) (da_cons (d_tup (da_cons (d_sum rfl n_sum (da_cons (d_var 3) da_nil)) (da_cons d_int da_nil))) da_nil)) rfl) da_nil)) rfl) d_int) (dss_one (ds_ret d_bl)) dss_nil) (dss_cons (ds_set (i := 6) nd rfl (.inr rfl) (d_cal C_mix hr (by decide) (da_cons (d_var 0) (da_cons (d_var 4) da_nil)) rfl)) (dss_one (ds_ret (d_all rfl n_all (da_cons (d_lc rfl nd (di_any (d_var 1)) (blkOk_by (own := [("act", 8)]) (N := N_shows_mixture) (sc := defScope s_shows_mixture) (by decide +kernel)) (by decide) (fun _ _ _ _ _ => (dg_name (i := 8) nd rfl (.inl rfl))) (fun _ _ _ _ _ => dts_nil) (fun _ _ _ _ _ => (d_cp hr (d_cal C_compare hr (by decide) (da_cons (d_cal C_mean hr (by decide) (da_cons (d_var 6) (da_cons (d_var 8) da_nil)) rfl) (da_cons (d_var 2) da_nil)) rfl) d_int))) da_nil))))))))) rfl rfl rfl rfl
abbrev s_law_weighs : Stmt := top 32
abbrev N_law_weighs : List Str := ["weights", "many", "weight"]
theorem sc_law_weighs : FnScope N_law_weighs ["weights", "many"] (defScope s_law_weighs) := ⟨rfl, rfl, rfl, by decide +kernel, rfl, by decide +kernel, by decide +kernel⟩
theorem c_law_weighs (I : FnIn G.K mg "_law_weighs" s_law_weighs ["weights", "many"]) (n_len : mg "len" = none) (n_sum : mg "sum" = none) : Cal P w G.K mg base G "_law_weighs" 1 2 m_law_weighs :=
  have nd := sc_law_weighs.nd
  cal_by (k := 0) (b := b_law_weighs) I sc_law_weighs (fun f cdv A outer s H E hr =>
    (dss_cons (ds_if (DW.t (dw_or (t_cp hr (d_len n_len (da_cons (d_var 0) da_nil)) (d_var 1)) (dw_or1 (t_cp hr (d_sum rfl n_sum (da_cons (d_var 0) da_nil)) d_int)))) (dss_one (ds_ret d_bl)) dss_nil) (dss_cons (ds_for PassesOwn.never rfl (di_any (d_var 0)) (dg_name (i := 2) nd rfl (.inl rfl)) (dss_one (ds_if (t_cp hr (d_var 2) d_int) (dss_one (ds_ret d_bl)) dss_nil))) (dss_one (ds_ret d_bl))))) rfl rfl rfl rfl
abbrev s_law_dot : Stmt := top 29
abbrev N_law_dot : List Str := ["left", "right", "total", "k"]
theorem sc_law_dot : FnScope N_law_dot ["left", "right"] (defScope s_law_dot) := ⟨rfl, rfl, rfl, by decide +kernel, rfl, by decide +kernel, by decide +kernel⟩
theorem c_law_dot (I : FnIn G.K mg "_law_dot" s_law_dot ["left", "right"]) (n_len : mg "len" = none) (n_range : mg "range" = none) : Cal P w G.K mg base G "_law_dot" 1 2 m_law_dot :=
  have nd := sc_law_dot.nd
  cal_by (k := 0) (b := b_law_dot) I sc_law_dot (fun f cdv A outer s H E hr =>
    (dss_cons (ds_set (i := 2) nd rfl (.inl rfl) d_int) (dss_cons (ds_for PassesOwn.never rfl (di_range1 rfl n_range (da_cons (d_len n_len (da_cons (d_var 0) da_nil)) da_nil)) (dg_name (i := 3) nd rfl (.inl rfl)) (dss_one (ds_set (i := 2) nd rfl (.inl rfl) (d_add (d_var 2) (d_mul (d_ix (d_var 0) (d_var 3)) (d_ix (d_var 1) (d_var 3))))))) (dss_one (ds_retV 2))))) rfl rfl rfl rfl
abbrev s_law_shows : Stmt := top 33
abbrev N_law_shows : List Str := ["lot", "acts", "value", "weights", "shares", "common", "chance", "gain", "k", "act"]
theorem sc_law_shows : FnScope N_law_shows ["lot", "acts", "value", "weights", "shares"] (defScope s_law_shows) := ⟨rfl, rfl, rfl, by decide +kernel, rfl, by decide +kernel, by decide +kernel⟩
theorem c_law_shows (I : FnIn G.K mg "_law_shows" s_law_shows ["lot", "acts", "value", "weights", "shares"]) (C_law_weighs : Cal P w G.K mg base G "_law_weighs" 1 2 m_law_weighs) (C_law_dot : Cal P w G.K mg base G "_law_dot" 1 2 m_law_dot) (n_len : mg "len" = none) (n_sum : mg "sum" = none) (n_range : mg "range" = none) : Cal P w G.K mg base G "_law_shows" 2 5 m_law_shows :=
  have nd := sc_law_shows.nd
  cal_by (k := 1) (b := b_law_shows) I sc_law_shows (fun f cdv A outer s H E hr =>
    (dss_cons (ds_if (DW.t (dw_or (dt_not (dt_val (d_cal C_law_weighs hr (by decide) (da_cons (d_var 3) (da_cons (d_len n_len (da_cons (d_var 1) da_nil)) da_nil)) rfl))) (dw_or1 (dt_not (dt_val (d_cal C_law_weighs hr (by decide) (da_cons (d_var 4) (da_cons (d_len n_len (da_cons (d_var 0) da_nil)) da_nil)) rfl)))))) (dss_one (ds_ret d_bl)) dss_nil) (dss_cons (ds_set (i := 5) nd rfl (.inl rfl) d_int) (dss_cons (ds_for PassesOwn.never rfl (di_any (d_var 0)) (dg_name (i := 6) nd rfl (.inl rfl)) (dss_cons (ds_set (i := 5) nd rfl (.inl rfl) (d_mul (d_var 5) (d_sum rfl n_sum (da_cons (d_var 6) da_nil)))) (dss_cons (ds_set (i := 7) nd rfl (.inl rfl) d_int) (dss_cons (ds_for PassesOwn.never rfl (di_range1 rfl n_range (da_cons (d_len n_len (da_cons (d_var 1) da_nil)) da_nil)) (dg_name (i := 8) nd rfl (.inl rfl)) (dss_one (ds_set (i := 7) nd rfl (.inl rfl) (d_add (d_var 7) (d_mul (d_ix (d_var 3) (d_var 8)) (d_cal C_law_dot hr (by decide) (da_cons (d_var 6) (da_cons (d_ix (d_var 1) (d_var 8)) da_nil)) rfl)))))) (dss_one (ds_if (t_cp hr (d_mul (d_var 7) (d_ix (d_var 2) d_int)) (d_mul (d_mul (d_ix (d_var 2) d_int) (d_sum rfl n_sum (da_cons (d_var 3) da_nil))) (d_sum rfl n_sum (da_cons (d_var 6) da_nil)))) (dss_one (ds_ret d_bl)) dss_nil)))))) (dss_cons (ds_for PassesOwn.never rfl (di_any (d_var 1)) (dg_name (i := 9) nd rfl (.inl rfl)) (dss_cons (ds_set (i := 7) nd rfl (.inl rfl) d_int) (dss_cons (ds_for PassesOwn.never rfl (di_range1 rfl n_range (da_cons (d_len n_len (da_cons (d_var 0) da_nil)) da_nil)) (dg_name (i := 8) nd rfl (.inl rfl)) (dss_one (ds_set (i := 7) nd rfl (.inl rfl) (d_add (d_var 7) (d_mul (d_mul (d_ix (d_var 4) (d_var 8)) (d_cal C_law_dot hr (by decide) (da_cons (d_ix (d_var 0) (d_var 8)) (da_cons (d_var 9) da_nil)) rfl)) (d_fdiv (d_var 5) (d_sum rfl n_sum (da_cons (d_ix (d_var 0) (d_var 8)) da_nil)))))))) (dss_one (ds_if (t_cp hr (d_mul (d_var 7) (d_ix (d_var 2) d_int)) (d_mul (d_mul (d_ix (d_var 2) d_int) (d_var 5)) (d_sum rfl n_sum (da_cons (d_var 4) da_nil)))) (dss_one (ds_ret d_bl)) dss_nil))))) (dss_one (ds_ret d_bl))))))) rfl rfl rfl rfl
abbrev s_law_says : Stmt := top 34
abbrev N_law_says : List Str := ["lot", "acts", "value", "weights", "shares", "said"]
theorem sc_law_says : FnScope N_law_says ["lot", "acts", "value", "weights", "shares"] (defScope s_law_says) := ⟨rfl, rfl, rfl, by decide +kernel, rfl, by decide +kernel, by decide +kernel⟩
theorem c_law_says (I : FnIn G.K mg "_law_says" s_law_says ["lot", "acts", "value", "weights", "shares"]) (C_shows_mixture : Cal P w G.K mg base G "shows_mixture" 4 5 m_shows_mixture) (C_law_shows : Cal P w G.K mg base G "_law_shows" 2 5 m_law_shows) (n_list : mg "list" = none) (n_isinstance : mg "isinstance" = none) (n_bool : mg "bool" = none) : Cal P w G.K mg base G "_law_says" 5 5 m_law_says :=
  have nd := sc_law_says.nd
  cal_by (k := 4) (b := b_law_says) I sc_law_says (fun f cdv A outer s H E hr =>
    (dss_cons (ds_set (i := 5) nd rfl (.inl rfl) (d_cal C_shows_mixture hr (by decide) (da_cons (d_listc n_list (da_cons (d_var 0) da_nil)) (da_cons (d_listc n_list (da_cons (d_var 1) da_nil)) (da_cons (d_var 2) (da_cons (d_var 3) (da_cons (d_var 4) da_nil))))) rfl)) (dss_one (ds_ret (d_and (d_isi rfl n_isinstance (d_var 5) (pe_bltn rfl n_bool (by decide +kernel) rfl) (ty_bool _)) (d_one (d_cp hr (d_var 5) (d_cal C_law_shows hr (by decide) (da_cons (d_var 0) (da_cons (d_var 1) (da_cons (d_var 2) (da_cons (d_var 3) (da_cons (d_var 4) da_nil))))) rfl)))))))) rfl rfl rfl rfl
abbrev s_law : Stmt := top 37
abbrev N_law : List Str := ["script", "numbers", "states", "lot", "acts", "rows", "handed", "answer", "value", "weights", "shares", "step", "other", "spoilt", "chance", "act"]
theorem sc_law : FnScope N_law ["script"] (defScope s_law) := ⟨rfl, rfl, rfl, by decide +kernel, rfl, by decide +kernel, by decide +kernel⟩
theorem o_law {f : Addr} {fd : FuncData} (F : Fun G.K "law" "law" s_law f fd) (C_law_numbers : Cal P w G.K mg base G "_law_numbers" 1 2 m_law_numbers) (C_law_lot : Cal P w G.K mg base G "_law_lot" 2 2 m_law_lot) (C_law_acts : Cal P w G.K mg base G "_law_acts" 1 2 m_law_acts) (C_best_mixture : Cal P w G.K mg base G "best_mixture" 4 2 m_best_mixture) (C_law_form : Cal P w G.K mg base G "_law_form" 2 3 m_law_form) (C_law_shows : Cal P w G.K mg base G "_law_shows" 2 5 m_law_shows) (C_law_says : Cal P w G.K mg base G "_law_says" 5 5 m_law_says) (C_law_lowest : Cal P w G.K mg base G "_law_lowest" 1 1 m_law_lowest) (C_law_changed : Cal P w G.K mg base G "_law_changed" 1 3 m_law_changed) (n_int : mg "int" = none) (n_list : mg "list" = none) (n_len : mg "len" = none) : FnOk P w G.K mg base CX0 6 f fd ["script"] (spD G 1 m_law) :=
  have nd := sc_law.nd
  fn_by (k := 5) (b := b_law) F sc_law (fun cdv A outer s H E hr =>
    (dss_cons (ds_set (i := 1) nd rfl (.inl rfl) (d_cal C_law_numbers hr (by decide) (da_cons (d_var 0) (da_cons d_int da_nil)) rfl)) (dss_cons (ds_set (i := 2) nd rfl (.inl rfl) (d_add d_int (d_mod (d_intc n_int (da_cons (d_ix (d_var 1) d_int) da_nil)) d_int))) (dss_cons (ds_set (i := 3) nd rfl (.inl rfl) (d_cal C_law_lot hr (by decide) (da_cons (d_var 1) (da_cons (d_var 2) da_nil)) rfl)) (dss_cons (ds_set (i := 4) nd rfl (.inl rfl) (d_cal C_law_acts hr (by decide) (da_cons (d_var 1) (da_cons (d_var 2) da_nil)) rfl)) (dss_cons (ds_setLc (i := 5) rfl nd rfl rfl (sw_true rfl rfl rfl (by decide +kernel)) (di_any (d_var 3)) (blkOk_by (own := [("chance", 14)]) (N := N_law) (sc := defScope s_law) (by decide +kernel)) (by decide) (fun _ _ _ _ _ => (dg_name (i := 14) nd rfl (.inl rfl))) (fun _ _ _ _ _ => dts_nil) (fun _ _ _ _ _ => (d_listc n_list (da_cons (d_var 14) da_nil)))) (dss_cons (ds_setLc (i := 6) rfl nd rfl rfl (sw_true rfl rfl rfl (by decide +kernel)) (di_any (d_var 4)) (blkOk_by (own := [("act", 15)]) (N := N_law) (sc := defScope s_law) (by decide +kernel)) (by decide) (fun _ _ _ _ _ => (dg_name (i := 15) nd rfl (.inl rfl))) (fun _ _ _ _ _ => dts_nil) (fun _ _ _ _ _ => (d_listc n_list (da_cons (d_var 15) da_nil)))) (dss_cons (ds_set (i := 7) nd rfl (.inl rfl) (d_cal C_best_mixture hr (by decide) (da_cons (d_var 5) (da_cons (d_var 6) da_nil)) rfl)) (dss_cons (ds_if (DW.t (dw_or (t_cp hr (d_var 5) (d_lc rfl nd (di_any (d_var 3)) (blkOk_by (own := [("chance", 14)]) (N := N_law) (sc := defScope s_law) (by decide +kernel)) (by decide) (fun _ _ _ _ _ => (dg_name (i := 14) nd rfl (.inl rfl))) (fun _ _ _ _ _ => dts_nil) (fun _ _ _ _ _ => (d_listc n_list (da_cons (d_var 14) da_nil))))) (dw_or1 (t_cp hr (d_var 6) (d_lc rfl nd (di_any (d_var 4)) (blkOk_by (own := [("act", 15)]) (N := N_law) (sc := defScope s_law) (by decide +kernel)) (by decide) (fun _ _ _ _ _ => (dg_name (i := 15) nd rfl (.inl rfl))) (fun _ _ _ _ _ => dts_nil) (fun _ _ _ _ _ => (d_listc n_list (da_cons (d_var 15) da_nil)))))))) (dss_one (ds_ret d_bl)) dss_nil) (dss_cons (ds_if (dt_not (dt_val (d_cal C_law_form hr (by decide) (da_cons (d_var 7) (da_cons (d_var 3) (da_cons (d_var 4) da_nil))) rfl))) (dss_one (ds_ret d_bl)) dss_nil) (dss_cons (ds_asg (d_var 7) (dg_tup rfl rfl (dgs_cons (dg_name (i := 8) nd rfl (.inl rfl)) (dgs_cons (dg_name (i := 9) nd rfl (.inl rfl)) (dgs_cons (dg_name (i := 10) nd rfl (.inl rfl)) dgs_nil))))) (dss_cons (ds_if (DW.t (dw_or (dt_not (dt_val (d_cal C_law_shows hr (by decide) (da_cons (d_var 3) (da_cons (d_var 4) (da_cons (d_var 8) (da_cons (d_var 9) (da_cons (d_var 10) da_nil))))) rfl))) (dw_or1 (dt_not (dt_val (d_cal C_law_says hr (by decide) (da_cons (d_var 3) (da_cons (d_var 4) (da_cons (d_var 8) (da_cons (d_var 9) (da_cons (d_var 10) da_nil))))) rfl)))))) (dss_one (ds_ret d_bl)) dss_nil) (dss_cons (ds_set (i := 11) nd rfl (.inl rfl) (d_sub (d_mul d_int (d_mod (d_intc n_int (da_cons (d_ix (d_var 1) d_int) da_nil)) d_int)) d_int)) (dss_cons (ds_set (i := 12) nd rfl (.inl rfl) (d_cal C_law_lowest hr (by decide) (da_cons (d_tup (da_cons (d_add (d_ix (d_var 8) d_int) (d_var 11)) (da_cons (d_ix (d_var 8) d_int) da_nil))) da_nil) rfl)) (dss_cons (ds_if (dt_not (dt_val (d_cal C_law_says hr (by decide) (da_cons (d_var 3) (da_cons (d_var 4) (da_cons (d_var 12) (da_cons (d_var 9) (da_cons (d_var 10) da_nil))))) rfl))) (dss_one (ds_ret d_bl)) dss_nil) (dss_cons (ds_set (i := 13) nd rfl (.inl rfl) (d_cal C_law_changed hr (by decide) (da_cons (d_var 9) (da_cons (d_mod (d_intc n_int (da_cons (d_ix (d_var 1) d_int) da_nil)) (d_len n_len (da_cons (d_var 4) da_nil))) (da_cons (d_var 11) da_nil))) rfl)) (dss_cons (ds_if (DW.t (dw_or (dt_not (dt_val (d_cal C_law_says hr (by decide) (da_cons (d_var 3) (da_cons (d_var 4) (da_cons (d_var 8) (da_cons (d_var 13) (da_cons (d_var 10) da_nil))))) rfl))) (dw_or1 (dt_not (dt_val (d_cal C_law_says hr (by decide) (da_cons (d_var 3) (da_cons (d_var 4) (da_cons (d_var 8) (da_cons (d_add (d_var 9) (d_tup (da_cons d_int da_nil))) (da_cons (d_var 10) da_nil))))) rfl)))))) (dss_one (ds_ret d_bl)) dss_nil) (dss_cons (ds_set (i := 13) nd rfl (.inl rfl) (d_cal C_law_changed hr (by decide) (da_cons (d_var 10) (da_cons (d_mod (d_intc n_int (da_cons (d_ix (d_var 1) d_int) da_nil)) (d_len n_len (da_cons (d_var 3) da_nil))) (da_cons (d_var 11) da_nil))) rfl)) (dss_one (ds_ret (d_and (d_cal C_law_says hr (by decide) (da_cons (d_var 3) (da_cons (d_var 4) (da_cons (d_var 8) (da_cons (d_var 9) (da_cons (d_var 13) da_nil))))) rfl) (d_one (d_cal C_law_says hr (by decide) (da_cons (d_var 3) (da_cons (d_var 4) (da_cons (d_var 8) (da_cons (d_var 9) (da_cons (d_slice (d_var 10) (do_some d_int) do_none) da_nil))))) rfl))))))))))))))))))))))) rfl rfl rfl rfl
end K62
end

section
set_option maxRecDepth 100000
set_option maxHeartbeats 4000000
namespace K62
open PySem L2 DL PG LW
variable {P : Program} {w : World} {mg : Str → Option Value} {base : Heap} {G : GC}
def G0 (K : PySem.W.Frag) : GC := ⟨K, fun _ => none⟩
def spLaw (K : PySem.W.Frag) : Sp := spD (G0 K) 1 m_law
theorem all_mk {l : PySem.W.OpenLaw} {w : World} {K : PySem.W.Frag} {h : Heap} {mg : Str → Option Value} {fa : Addr} (X : K.In h) (G : h.Ns mainGlobals mg) (hfa : mg "law" = some (.ref fa))
    {od1 an1 : Option Addr} {sl1 : Array (Option Value)} {oc1 kV1 dc1 pm1 cd1 ct1 : Value} {f1 : Addr} {od2 an2 : Option Addr} {sl2 : Array (Option Value)} {oc2 kV2 dc2 pm2 cd2 ct2 : Value} {f2 : Addr} {od3 an3 : Option Addr} {sl3 : Array (Option Value)} {oc3 kV3 dc3 pm3 cd3 ct3 : Value} {f3 : Addr} {od4 an4 : Option Addr} {sl4 : Array (Option Value)} {oc4 kV4 dc4 pm4 cd4 ct4 : Value} {f4 : Addr} {od5 an5 : Option Addr} {sl5 : Array (Option Value)} {oc5 kV5 dc5 pm5 cd5 ct5 : Value} {f5 : Addr} {od6 an6 : Option Addr} {sl6 : Array (Option Value)} {oc6 kV6 dc6 pm6 cd6 ct6 : Value} {f6 : Addr} {od7 an7 : Option Addr} {sl7 : Array (Option Value)} {oc7 kV7 dc7 pm7 cd7 ct7 : Value} {f7 : Addr} {od8 an8 : Option Addr} {sl8 : Array (Option Value)} {oc8 kV8 dc8 pm8 cd8 ct8 : Value} {f8 : Addr} {od9 an9 : Option Addr} {sl9 : Array (Option Value)} {oc9 kV9 dc9 pm9 cd9 ct9 : Value} {f9 : Addr} {od10 an10 : Option Addr} {sl10 : Array (Option Value)} {oc10 kV10 dc10 pm10 cd10 ct10 : Value} {f10 : Addr} {od11 an11 : Option Addr} {sl11 : Array (Option Value)} {oc11 kV11 dc11 pm11 cd11 ct11 : Value} {f11 : Addr} {od12 an12 : Option Addr} {sl12 : Array (Option Value)} {oc12 kV12 dc12 pm12 cd12 ct12 : Value} {f12 : Addr} {od13 an13 : Option Addr} {sl13 : Array (Option Value)} {oc13 kV13 dc13 pm13 cd13 ct13 : Value} {f13 : Addr} {od14 an14 : Option Addr} {sl14 : Array (Option Value)} {oc14 kV14 dc14 pm14 cd14 ct14 : Value} {f14 : Addr} {od15 an15 : Option Addr} {sl15 : Array (Option Value)} {oc15 kV15 dc15 pm15 cd15 ct15 : Value} {f15 : Addr} {od16 an16 : Option Addr} {sl16 : Array (Option Value)} {oc16 kV16 dc16 pm16 cd16 ct16 : Value} {f16 : Addr} {od17 an17 : Option Addr} {sl17 : Array (Option Value)} {oc17 kV17 dc17 pm17 cd17 ct17 : Value} {f17 : Addr} {od18 an18 : Option Addr} {sl18 : Array (Option Value)} {oc18 kV18 dc18 pm18 cd18 ct18 : Value} {f18 : Addr} {od19 an19 : Option Addr} {sl19 : Array (Option Value)} {oc19 kV19 dc19 pm19 cd19 ct19 : Value} {f19 : Addr} {od20 an20 : Option Addr} {sl20 : Array (Option Value)} {oc20 kV20 dc20 pm20 cd20 ct20 : Value} {f20 : Addr} {od21 an21 : Option Addr} {sl21 : Array (Option Value)} {oc21 kV21 dc21 pm21 cd21 ct21 : Value} {f21 : Addr} {od22 an22 : Option Addr} {sl22 : Array (Option Value)} {oc22 kV22 dc22 pm22 cd22 ct22 : Value} {f22 : Addr} {od23 an23 : Option Addr} {sl23 : Array (Option Value)} {oc23 kV23 dc23 pm23 cd23 ct23 : Value} {f23 : Addr} {od24 an24 : Option Addr} {sl24 : Array (Option Value)} {oc24 kV24 dc24 pm24 cd24 ct24 : Value} {f24 : Addr} {od25 an25 : Option Addr} {sl25 : Array (Option Value)} {oc25 kV25 dc25 pm25 cd25 ct25 : Value} {f25 : Addr} {od26 an26 : Option Addr} {sl26 : Array (Option Value)} {oc26 kV26 dc26 pm26 cd26 ct26 : Value} {f26 : Addr} {od27 an27 : Option Addr} {sl27 : Array (Option Value)} {oc27 kV27 dc27 pm27 cd27 ct27 : Value} {f27 : Addr} {od28 an28 : Option Addr} {sl28 : Array (Option Value)} {oc28 kV28 dc28 pm28 cd28 ct28 : Value} {f28 : Addr} {od29 an29 : Option Addr} {sl29 : Array (Option Value)} {oc29 kV29 dc29 pm29 cd29 ct29 : Value} {f29 : Addr} {od30 an30 : Option Addr} {sl30 : Array (Option Value)} {oc30 kV30 dc30 pm30 cd30 ct30 : Value} {f30 : Addr} {od31 an31 : Option Addr} {sl31 : Array (Option Value)} {oc31 kV31 dc31 pm31 cd31 ct31 : Value} {f31 : Addr}
    (a1 : PySem.W.nsIn K mainGlobals "_law_numbers" = some (some (.ref f1)))
    (l1 : K.lookup f1 = some ⟨oc1, od1, .func (PySem.W.fnOf "_law_numbers" "_law_numbers" (defArgs s_law_numbers) (defBody s_law_numbers) (defScope s_law_numbers) .none kV1 dc1 pm1 an1 cd1 ct1), sl1⟩)
    (c1 : PySem.W.codeIn K cd1 "_law_numbers" = true) (k1 : PySem.W.keepIn K (.ref f1) = true)
    (a2 : PySem.W.nsIn K mainGlobals "_law_lowest" = some (some (.ref f2)))
    (l2 : K.lookup f2 = some ⟨oc2, od2, .func (PySem.W.fnOf "_law_lowest" "_law_lowest" (defArgs s_law_lowest) (defBody s_law_lowest) (defScope s_law_lowest) .none kV2 dc2 pm2 an2 cd2 ct2), sl2⟩)
    (c2 : PySem.W.codeIn K cd2 "_law_lowest" = true) (k2 : PySem.W.keepIn K (.ref f2) = true)
    (a3 : PySem.W.nsIn K mainGlobals "_law_lot" = some (some (.ref f3)))
    (l3 : K.lookup f3 = some ⟨oc3, od3, .func (PySem.W.fnOf "_law_lot" "_law_lot" (defArgs s_law_lot) (defBody s_law_lot) (defScope s_law_lot) .none kV3 dc3 pm3 an3 cd3 ct3), sl3⟩)
    (c3 : PySem.W.codeIn K cd3 "_law_lot" = true) (k3 : PySem.W.keepIn K (.ref f3) = true)
    (a4 : PySem.W.nsIn K mainGlobals "_law_acts" = some (some (.ref f4)))
    (l4 : K.lookup f4 = some ⟨oc4, od4, .func (PySem.W.fnOf "_law_acts" "_law_acts" (defArgs s_law_acts) (defBody s_law_acts) (defScope s_law_acts) .none kV4 dc4 pm4 an4 cd4 ct4), sl4⟩)
    (c4 : PySem.W.codeIn K cd4 "_law_acts" = true) (k4 : PySem.W.keepIn K (.ref f4) = true)
    (a5 : PySem.W.nsIn K mainGlobals "entering_column" = some (some (.ref f5)))
    (l5 : K.lookup f5 = some ⟨oc5, od5, .func (PySem.W.fnOf "entering_column" "entering_column" (defArgs s_entering_column) (defBody s_entering_column) (defScope s_entering_column) .none kV5 dc5 pm5 an5 cd5 ct5), sl5⟩)
    (c5 : PySem.W.codeIn K cd5 "entering_column" = true) (k5 : PySem.W.keepIn K (.ref f5) = true)
    (a6 : PySem.W.nsIn K mainGlobals "leaving_row" = some (some (.ref f6)))
    (l6 : K.lookup f6 = some ⟨oc6, od6, .func (PySem.W.fnOf "leaving_row" "leaving_row" (defArgs s_leaving_row) (defBody s_leaving_row) (defScope s_leaving_row) .none kV6 dc6 pm6 an6 cd6 ct6), sl6⟩)
    (c6 : PySem.W.codeIn K cd6 "leaving_row" = true) (k6 : PySem.W.keepIn K (.ref f6) = true)
    (a7 : PySem.W.nsIn K mainGlobals "exchange" = some (some (.ref f7)))
    (l7 : K.lookup f7 = some ⟨oc7, od7, .func (PySem.W.fnOf "exchange" "exchange" (defArgs s_exchange) (defBody s_exchange) (defScope s_exchange) .none kV7 dc7 pm7 an7 cd7 ct7), sl7⟩)
    (c7 : PySem.W.codeIn K cd7 "exchange" = true) (k7 : PySem.W.keepIn K (.ref f7) = true)
    (a8 : PySem.W.nsIn K mainGlobals "top_of" = some (some (.ref f8)))
    (l8 : K.lookup f8 = some ⟨oc8, od8, .func (PySem.W.fnOf "top_of" "top_of" (defArgs s_top_of) (defBody s_top_of) (defScope s_top_of) .none kV8 dc8 pm8 an8 cd8 ct8), sl8⟩)
    (c8 : PySem.W.codeIn K cd8 "top_of" = true) (k8 : PySem.W.keepIn K (.ref f8) = true)
    (a9 : PySem.W.nsIn K mainGlobals "ray_of" = some (some (.ref f9)))
    (l9 : K.lookup f9 = some ⟨oc9, od9, .func (PySem.W.fnOf "ray_of" "ray_of" (defArgs s_ray_of) (defBody s_ray_of) (defScope s_ray_of) .none kV9 dc9 pm9 an9 cd9 ct9), sl9⟩)
    (c9 : PySem.W.codeIn K cd9 "ray_of" = true) (k9 : PySem.W.keepIn K (.ref f9) = true)
    (a10 : PySem.W.nsIn K mainGlobals "climb" = some (some (.ref f10)))
    (l10 : K.lookup f10 = some ⟨oc10, od10, .func (PySem.W.fnOf "climb" "climb" (defArgs s_climb) (defBody s_climb) (defScope s_climb) .none kV10 dc10 pm10 an10 cd10 ct10), sl10⟩)
    (c10 : PySem.W.codeIn K cd10 "climb" = true) (k10 : PySem.W.keepIn K (.ref f10) = true)
    (a11 : PySem.W.nsIn K mainGlobals "lowest" = some (some (.ref f11)))
    (l11 : K.lookup f11 = some ⟨oc11, od11, .func (PySem.W.fnOf "lowest" "lowest" (defArgs s_lowest) (defBody s_lowest) (defScope s_lowest) .none kV11 dc11 pm11 an11 cd11 ct11), sl11⟩)
    (c11 : PySem.W.codeIn K cd11 "lowest" = true) (k11 : PySem.W.keepIn K (.ref f11) = true)
    (a12 : PySem.W.nsIn K mainGlobals "least" = some (some (.ref f12)))
    (l12 : K.lookup f12 = some ⟨oc12, od12, .func (PySem.W.fnOf "least" "least" (defArgs s_least) (defBody s_least) (defScope s_least) .none kV12 dc12 pm12 an12 cd12 ct12), sl12⟩)
    (c12 : PySem.W.codeIn K cd12 "least" = true) (k12 : PySem.W.keepIn K (.ref f12) = true)
    (a13 : PySem.W.nsIn K mainGlobals "ratio" = some (some (.ref f13)))
    (l13 : K.lookup f13 = some ⟨oc13, od13, .func (PySem.W.fnOf "ratio" "ratio" (defArgs s_ratio) (defBody s_ratio) (defScope s_ratio) .none kV13 dc13 pm13 an13 cd13 ct13), sl13⟩)
    (c13 : PySem.W.codeIn K cd13 "ratio" = true) (k13 : PySem.W.keepIn K (.ref f13) = true)
    (a14 : PySem.W.nsIn K mainGlobals "dot" = some (some (.ref f14)))
    (l14 : K.lookup f14 = some ⟨oc14, od14, .func (PySem.W.fnOf "dot" "dot" (defArgs s_dot) (defBody s_dot) (defScope s_dot) .none kV14 dc14 pm14 an14 cd14 ct14), sl14⟩)
    (c14 : PySem.W.codeIn K cd14 "dot" = true) (k14 : PySem.W.keepIn K (.ref f14) = true)
    (a15 : PySem.W.nsIn K mainGlobals "best_mixture" = some (some (.ref f15)))
    (l15 : K.lookup f15 = some ⟨oc15, od15, .func (PySem.W.fnOf "best_mixture" "best_mixture" (defArgs s_best_mixture) (defBody s_best_mixture) (defScope s_best_mixture) .none kV15 dc15 pm15 an15 cd15 ct15), sl15⟩)
    (c15 : PySem.W.codeIn K cd15 "best_mixture" = true) (k15 : PySem.W.keepIn K (.ref f15) = true)
    (a16 : PySem.W.nsIn K mainGlobals "_law_changed" = some (some (.ref f16)))
    (l16 : K.lookup f16 = some ⟨oc16, od16, .func (PySem.W.fnOf "_law_changed" "_law_changed" (defArgs s_law_changed) (defBody s_law_changed) (defScope s_law_changed) .none kV16 dc16 pm16 an16 cd16 ct16), sl16⟩)
    (c16 : PySem.W.codeIn K cd16 "_law_changed" = true) (k16 : PySem.W.keepIn K (.ref f16) = true)
    (a17 : PySem.W.nsIn K mainGlobals "_law_integers" = some (some (.ref f17)))
    (l17 : K.lookup f17 = some ⟨oc17, od17, .func (PySem.W.fnOf "_law_integers" "_law_integers" (defArgs s_law_integers) (defBody s_law_integers) (defScope s_law_integers) .none kV17 dc17 pm17 an17 cd17 ct17), sl17⟩)
    (c17 : PySem.W.codeIn K cd17 "_law_integers" = true) (k17 : PySem.W.keepIn K (.ref f17) = true)
    (a18 : PySem.W.nsIn K mainGlobals "_law_form" = some (some (.ref f18)))
    (l18 : K.lookup f18 = some ⟨oc18, od18, .func (PySem.W.fnOf "_law_form" "_law_form" (defArgs s_law_form) (defBody s_law_form) (defScope s_law_form) .none kV18 dc18 pm18 an18 cd18 ct18), sl18⟩)
    (c18 : PySem.W.codeIn K cd18 "_law_form" = true) (k18 : PySem.W.keepIn K (.ref f18) = true)
    (a19 : PySem.W.nsIn K mainGlobals "mix" = some (some (.ref f19)))
    (l19 : K.lookup f19 = some ⟨oc19, od19, .func (PySem.W.fnOf "mix" "mix" (defArgs s_mix) (defBody s_mix) (defScope s_mix) .none kV19 dc19 pm19 an19 cd19 ct19), sl19⟩)
    (c19 : PySem.W.codeIn K cd19 "mix" = true) (k19 : PySem.W.keepIn K (.ref f19) = true)
    (a20 : PySem.W.nsIn K mainGlobals "compare" = some (some (.ref f20)))
    (l20 : K.lookup f20 = some ⟨oc20, od20, .func (PySem.W.fnOf "compare" "compare" (defArgs s_compare) (defBody s_compare) (defScope s_compare) .none kV20 dc20 pm20 an20 cd20 ct20), sl20⟩)
    (c20 : PySem.W.codeIn K cd20 "compare" = true) (k20 : PySem.W.keepIn K (.ref f20) = true)
    (a21 : PySem.W.nsIn K mainGlobals "weighs" = some (some (.ref f21)))
    (l21 : K.lookup f21 = some ⟨oc21, od21, .func (PySem.W.fnOf "weighs" "weighs" (defArgs s_weighs) (defBody s_weighs) (defScope s_weighs) .none kV21 dc21 pm21 an21 cd21 ct21), sl21⟩)
    (c21 : PySem.W.codeIn K cd21 "weighs" = true) (k21 : PySem.W.keepIn K (.ref f21) = true)
    (a22 : PySem.W.nsIn K mainGlobals "least_of" = some (some (.ref f22)))
    (l22 : K.lookup f22 = some ⟨oc22, od22, .func (PySem.W.fnOf "least_of" "least_of" (defArgs s_least_of) (defBody s_least_of) (defScope s_least_of) .none kV22 dc22 pm22 an22 cd22 ct22), sl22⟩)
    (c22 : PySem.W.codeIn K cd22 "least_of" = true) (k22 : PySem.W.keepIn K (.ref f22) = true)
    (a23 : PySem.W.nsIn K mainGlobals "mean" = some (some (.ref f23)))
    (l23 : K.lookup f23 = some ⟨oc23, od23, .func (PySem.W.fnOf "mean" "mean" (defArgs s_mean) (defBody s_mean) (defScope s_mean) .none kV23 dc23 pm23 an23 cd23 ct23), sl23⟩)
    (c23 : PySem.W.codeIn K cd23 "mean" = true) (k23 : PySem.W.keepIn K (.ref f23) = true)
    (a24 : PySem.W.nsIn K mainGlobals "worst" = some (some (.ref f24)))
    (l24 : K.lookup f24 = some ⟨oc24, od24, .func (PySem.W.fnOf "worst" "worst" (defArgs s_worst) (defBody s_worst) (defScope s_worst) .none kV24 dc24 pm24 an24 cd24 ct24), sl24⟩)
    (c24 : PySem.W.codeIn K cd24 "worst" = true) (k24 : PySem.W.keepIn K (.ref f24) = true)
    (a25 : PySem.W.nsIn K mainGlobals "multiply" = some (some (.ref f25)))
    (l25 : K.lookup f25 = some ⟨oc25, od25, .func (PySem.W.fnOf "multiply" "multiply" (defArgs s_multiply) (defBody s_multiply) (defScope s_multiply) .none kV25 dc25 pm25 an25 cd25 ct25), sl25⟩)
    (c25 : PySem.W.codeIn K cd25 "multiply" = true) (k25 : PySem.W.keepIn K (.ref f25) = true)
    (a26 : PySem.W.nsIn K mainGlobals "shows_mixture" = some (some (.ref f26)))
    (l26 : K.lookup f26 = some ⟨oc26, od26, .func (PySem.W.fnOf "shows_mixture" "shows_mixture" (defArgs s_shows_mixture) (defBody s_shows_mixture) (defScope s_shows_mixture) .none kV26 dc26 pm26 an26 cd26 ct26), sl26⟩)
    (c26 : PySem.W.codeIn K cd26 "shows_mixture" = true) (k26 : PySem.W.keepIn K (.ref f26) = true)
    (a27 : PySem.W.nsIn K mainGlobals "_law_weighs" = some (some (.ref f27)))
    (l27 : K.lookup f27 = some ⟨oc27, od27, .func (PySem.W.fnOf "_law_weighs" "_law_weighs" (defArgs s_law_weighs) (defBody s_law_weighs) (defScope s_law_weighs) .none kV27 dc27 pm27 an27 cd27 ct27), sl27⟩)
    (c27 : PySem.W.codeIn K cd27 "_law_weighs" = true) (k27 : PySem.W.keepIn K (.ref f27) = true)
    (a28 : PySem.W.nsIn K mainGlobals "_law_dot" = some (some (.ref f28)))
    (l28 : K.lookup f28 = some ⟨oc28, od28, .func (PySem.W.fnOf "_law_dot" "_law_dot" (defArgs s_law_dot) (defBody s_law_dot) (defScope s_law_dot) .none kV28 dc28 pm28 an28 cd28 ct28), sl28⟩)
    (c28 : PySem.W.codeIn K cd28 "_law_dot" = true) (k28 : PySem.W.keepIn K (.ref f28) = true)
    (a29 : PySem.W.nsIn K mainGlobals "_law_shows" = some (some (.ref f29)))
    (l29 : K.lookup f29 = some ⟨oc29, od29, .func (PySem.W.fnOf "_law_shows" "_law_shows" (defArgs s_law_shows) (defBody s_law_shows) (defScope s_law_shows) .none kV29 dc29 pm29 an29 cd29 ct29), sl29⟩)
    (c29 : PySem.W.codeIn K cd29 "_law_shows" = true) (k29 : PySem.W.keepIn K (.ref f29) = true)
    (a30 : PySem.W.nsIn K mainGlobals "_law_says" = some (some (.ref f30)))
    (l30 : K.lookup f30 = some ⟨oc30, od30, .func (PySem.W.fnOf "_law_says" "_law_says" (defArgs s_law_says) (defBody s_law_says) (defScope s_law_says) .none kV30 dc30 pm30 an30 cd30 ct30), sl30⟩)
    (c30 : PySem.W.codeIn K cd30 "_law_says" = true) (k30 : PySem.W.keepIn K (.ref f30) = true)
    (a31 : PySem.W.nsIn K mainGlobals "law" = some (some (.ref f31)))
    (l31 : K.lookup f31 = some ⟨oc31, od31, .func (PySem.W.fnOf "law" "law" (defArgs s_law) (defBody s_law) (defScope s_law) .none kV31 dc31 pm31 an31 cd31 ct31), sl31⟩)
    (c31 : PySem.W.codeIn K cd31 "law" = true) (k31 : PySem.W.keepIn K (.ref f31) = true)
    (z_len : PySem.W.nsIn K mainGlobals "len" = some none)
    (z_min : PySem.W.nsIn K mainGlobals "min" = some none)
    (z_range : PySem.W.nsIn K mainGlobals "range" = some none)
    (z_int : PySem.W.nsIn K mainGlobals "int" = some none)
    (z_abs : PySem.W.nsIn K mainGlobals "abs" = some none)
    (z_max : PySem.W.nsIn K mainGlobals "max" = some none)
    (z_tuple : PySem.W.nsIn K mainGlobals "tuple" = some none)
    (z_sum : PySem.W.nsIn K mainGlobals "sum" = some none)
    (z_zip : PySem.W.nsIn K mainGlobals "zip" = some none)
    (z_list : PySem.W.nsIn K mainGlobals "list" = some none)
    (z_isinstance : PySem.W.nsIn K mainGlobals "isinstance" = some none)
    (z_bool : PySem.W.nsIn K mainGlobals "bool" = some none)
    (z_all : PySem.W.nsIn K mainGlobals "all" = some none)
    (y_gcd : PySem.W.nsIn K mainGlobals "gcd" = some (some (.builtin "math.gcd")))
    (y_lcm : PySem.W.nsIn K mainGlobals "lcm" = some (some (.builtin "math.lcm"))) :
    ∃ fd : FuncData, (∀ (s : Shared) (v : Value), BindsTo s fd ⟨[v], []⟩ [("script", v)]) ∧ ∀ base : Heap, K.In base → base.Ns mainGlobals mg → FnOk l.prog w K mg base CX0 6 fa fd ["script"] (spLaw K) := by
  have e := hfa.symm.trans (PySem.W.mg_of X G a31)
  cases e
  have I_law_numbers : FnIn K mg "_law_numbers" s_law_numbers ["script", "many"] := ⟨f1, _, fun_mk (st := s_law_numbers) l1 c1 k1, PySem.W.mg_of X G a1, (fun_mk (st := s_law_numbers) l1 c1 k1).binds fun _ _ _ _ _ _ us hl => match us, hl with | [_, _], _ => rfl⟩
  have I_law_lowest : FnIn K mg "_law_lowest" s_law_lowest ["row"] := ⟨f2, _, fun_mk (st := s_law_lowest) l2 c2 k2, PySem.W.mg_of X G a2, (fun_mk (st := s_law_lowest) l2 c2 k2).binds fun _ _ _ _ _ _ us hl => match us, hl with | [_], _ => rfl⟩
  have I_law_lot : FnIn K mg "_law_lot" s_law_lot ["numbers", "states"] := ⟨f3, _, fun_mk (st := s_law_lot) l3 c3 k3, PySem.W.mg_of X G a3, (fun_mk (st := s_law_lot) l3 c3 k3).binds fun _ _ _ _ _ _ us hl => match us, hl with | [_, _], _ => rfl⟩
  have I_law_acts : FnIn K mg "_law_acts" s_law_acts ["numbers", "states"] := ⟨f4, _, fun_mk (st := s_law_acts) l4 c4 k4, PySem.W.mg_of X G a4, (fun_mk (st := s_law_acts) l4 c4 k4).binds fun _ _ _ _ _ _ us hl => match us, hl with | [_, _], _ => rfl⟩
  have I_entering_column : FnIn K mg "entering_column" s_entering_column ["gains", "loose"] := ⟨f5, _, fun_mk (st := s_entering_column) l5 c5 k5, PySem.W.mg_of X G a5, (fun_mk (st := s_entering_column) l5 c5 k5).binds fun _ _ _ _ _ _ us hl => match us, hl with | [_, _], _ => rfl⟩
  have I_leaving_row : FnIn K mg "leaving_row" s_leaving_row ["table", "basic", "column"] := ⟨f6, _, fun_mk (st := s_leaving_row) l6 c6 k6, PySem.W.mg_of X G a6, (fun_mk (st := s_leaving_row) l6 c6 k6).binds fun _ _ _ _ _ _ us hl => match us, hl with | [_, _, _], _ => rfl⟩
  have I_exchange : FnIn K mg "exchange" s_exchange ["table", "row", "column", "scale"] := ⟨f7, _, fun_mk (st := s_exchange) l7 c7 k7, PySem.W.mg_of X G a7, (fun_mk (st := s_exchange) l7 c7 k7).binds fun _ _ _ _ _ _ us hl => match us, hl with | [_, _, _, _], _ => rfl⟩
  have I_top_of : FnIn K mg "top_of" s_top_of ["table", "basic", "loose"] := ⟨f8, _, fun_mk (st := s_top_of) l8 c8 k8, PySem.W.mg_of X G a8, (fun_mk (st := s_top_of) l8 c8 k8).binds fun _ _ _ _ _ _ us hl => match us, hl with | [_, _, _], _ => rfl⟩
  have I_ray_of : FnIn K mg "ray_of" s_ray_of ["table", "basic", "loose", "column", "scale"] := ⟨f9, _, fun_mk (st := s_ray_of) l9 c9 k9, PySem.W.mg_of X G a9, (fun_mk (st := s_ray_of) l9 c9 k9).binds fun _ _ _ _ _ _ us hl => match us, hl with | [_, _, _, _, _], _ => rfl⟩
  have I_climb : FnIn K mg "climb" s_climb ["columns", "limits", "gains"] := ⟨f10, _, fun_mk (st := s_climb) l10 c10 k10, PySem.W.mg_of X G a10, (fun_mk (st := s_climb) l10 c10 k10).binds fun _ _ _ _ _ _ us hl => match us, hl with | [_, _, _], _ => rfl⟩
  have I_lowest : FnIn K mg "lowest" s_lowest ["numbers"] := ⟨f11, _, fun_mk (st := s_lowest) l11 c11 k11, PySem.W.mg_of X G a11, (fun_mk (st := s_lowest) l11 c11 k11).binds fun _ _ _ _ _ _ us hl => match us, hl with | [_], _ => rfl⟩
  have I_least : FnIn K mg "least" s_least ["goal", "rows", "count"] := ⟨f12, _, fun_mk (st := s_least) l12 c12 k12, PySem.W.mg_of X G a12, (fun_mk (st := s_least) l12 c12 k12).binds fun _ _ _ _ _ _ us hl => match us, hl with | [_, _, _], _ => rfl⟩
  have I_ratio : FnIn K mg "ratio" s_ratio ["top", "bottom"] := ⟨f13, _, fun_mk (st := s_ratio) l13 c13 k13, PySem.W.mg_of X G a13, (fun_mk (st := s_ratio) l13 c13 k13).binds fun _ _ _ _ _ _ us hl => match us, hl with | [_, _], _ => rfl⟩
  have I_dot : FnIn K mg "dot" s_dot ["left", "right"] := ⟨f14, _, fun_mk (st := s_dot) l14 c14 k14, PySem.W.mg_of X G a14, (fun_mk (st := s_dot) l14 c14 k14).binds fun _ _ _ _ _ _ us hl => match us, hl with | [_, _], _ => rfl⟩
  have I_best_mixture : FnIn K mg "best_mixture" s_best_mixture ["lot", "acts"] := ⟨f15, _, fun_mk (st := s_best_mixture) l15 c15 k15, PySem.W.mg_of X G a15, (fun_mk (st := s_best_mixture) l15 c15 k15).binds fun _ _ _ _ _ _ us hl => match us, hl with | [_, _], _ => rfl⟩
  have I_law_changed : FnIn K mg "_law_changed" s_law_changed ["row", "at", "step"] := ⟨f16, _, fun_mk (st := s_law_changed) l16 c16 k16, PySem.W.mg_of X G a16, (fun_mk (st := s_law_changed) l16 c16 k16).binds fun _ _ _ _ _ _ us hl => match us, hl with | [_, _, _], _ => rfl⟩
  have I_law_integers : FnIn K mg "_law_integers" s_law_integers ["found", "many"] := ⟨f17, _, fun_mk (st := s_law_integers) l17 c17 k17, PySem.W.mg_of X G a17, (fun_mk (st := s_law_integers) l17 c17 k17).binds fun _ _ _ _ _ _ us hl => match us, hl with | [_, _], _ => rfl⟩
  have I_law_form : FnIn K mg "_law_form" s_law_form ["answer", "lot", "acts"] := ⟨f18, _, fun_mk (st := s_law_form) l18 c18 k18, PySem.W.mg_of X G a18, (fun_mk (st := s_law_form) l18 c18 k18).binds fun _ _ _ _ _ _ us hl => match us, hl with | [_, _, _], _ => rfl⟩
  have I_mix : FnIn K mg "mix" s_mix ["chances", "weights"] := ⟨f19, _, fun_mk (st := s_mix) l19 c19 k19, PySem.W.mg_of X G a19, (fun_mk (st := s_mix) l19 c19 k19).binds fun _ _ _ _ _ _ us hl => match us, hl with | [_, _], _ => rfl⟩
  have I_compare : FnIn K mg "compare" s_compare ["left", "right"] := ⟨f20, _, fun_mk (st := s_compare) l20 c20 k20, PySem.W.mg_of X G a20, (fun_mk (st := s_compare) l20 c20 k20).binds fun _ _ _ _ _ _ us hl => match us, hl with | [_, _], _ => rfl⟩
  have I_weighs : FnIn K mg "weighs" s_weighs ["weights", "many"] := ⟨f21, _, fun_mk (st := s_weighs) l21 c21 k21, PySem.W.mg_of X G a21, (fun_mk (st := s_weighs) l21 c21 k21).binds fun _ _ _ _ _ _ us hl => match us, hl with | [_, _], _ => rfl⟩
  have I_least_of : FnIn K mg "least_of" s_least_of ["fractions"] := ⟨f22, _, fun_mk (st := s_least_of) l22 c22 k22, PySem.W.mg_of X G a22, (fun_mk (st := s_least_of) l22 c22 k22).binds fun _ _ _ _ _ _ us hl => match us, hl with | [_], _ => rfl⟩
  have I_mean : FnIn K mg "mean" s_mean ["chance", "act"] := ⟨f23, _, fun_mk (st := s_mean) l23 c23 k23, PySem.W.mg_of X G a23, (fun_mk (st := s_mean) l23 c23 k23).binds fun _ _ _ _ _ _ us hl => match us, hl with | [_, _], _ => rfl⟩
  have I_worst : FnIn K mg "worst" s_worst ["lot", "act"] := ⟨f24, _, fun_mk (st := s_worst) l24 c24 k24, PySem.W.mg_of X G a24, (fun_mk (st := s_worst) l24 c24 k24).binds fun _ _ _ _ _ _ us hl => match us, hl with | [_, _], _ => rfl⟩
  have I_multiply : FnIn K mg "multiply" s_multiply ["left", "right"] := ⟨f25, _, fun_mk (st := s_multiply) l25 c25 k25, PySem.W.mg_of X G a25, (fun_mk (st := s_multiply) l25 c25 k25).binds fun _ _ _ _ _ _ us hl => match us, hl with | [_, _], _ => rfl⟩
  have I_shows_mixture : FnIn K mg "shows_mixture" s_shows_mixture ["lot", "acts", "value", "weights", "shares"] := ⟨f26, _, fun_mk (st := s_shows_mixture) l26 c26 k26, PySem.W.mg_of X G a26, (fun_mk (st := s_shows_mixture) l26 c26 k26).binds fun _ _ _ _ _ _ us hl => match us, hl with | [_, _, _, _, _], _ => rfl⟩
  have I_law_weighs : FnIn K mg "_law_weighs" s_law_weighs ["weights", "many"] := ⟨f27, _, fun_mk (st := s_law_weighs) l27 c27 k27, PySem.W.mg_of X G a27, (fun_mk (st := s_law_weighs) l27 c27 k27).binds fun _ _ _ _ _ _ us hl => match us, hl with | [_, _], _ => rfl⟩
  have I_law_dot : FnIn K mg "_law_dot" s_law_dot ["left", "right"] := ⟨f28, _, fun_mk (st := s_law_dot) l28 c28 k28, PySem.W.mg_of X G a28, (fun_mk (st := s_law_dot) l28 c28 k28).binds fun _ _ _ _ _ _ us hl => match us, hl with | [_, _], _ => rfl⟩
  have I_law_shows : FnIn K mg "_law_shows" s_law_shows ["lot", "acts", "value", "weights", "shares"] := ⟨f29, _, fun_mk (st := s_law_shows) l29 c29 k29, PySem.W.mg_of X G a29, (fun_mk (st := s_law_shows) l29 c29 k29).binds fun _ _ _ _ _ _ us hl => match us, hl with | [_, _, _, _, _], _ => rfl⟩
  have I_law_says : FnIn K mg "_law_says" s_law_says ["lot", "acts", "value", "weights", "shares"] := ⟨f30, _, fun_mk (st := s_law_says) l30 c30 k30, PySem.W.mg_of X G a30, (fun_mk (st := s_law_says) l30 c30 k30).binds fun _ _ _ _ _ _ us hl => match us, hl with | [_, _, _, _, _], _ => rfl⟩
  have n_len := PySem.W.mg_none_of X G z_len
  have n_min := PySem.W.mg_none_of X G z_min
  have n_range := PySem.W.mg_none_of X G z_range
  have n_int := PySem.W.mg_none_of X G z_int
  have n_abs := PySem.W.mg_none_of X G z_abs
  have n_max := PySem.W.mg_none_of X G z_max
  have n_tuple := PySem.W.mg_none_of X G z_tuple
  have n_sum := PySem.W.mg_none_of X G z_sum
  have n_zip := PySem.W.mg_none_of X G z_zip
  have n_list := PySem.W.mg_none_of X G z_list
  have n_isinstance := PySem.W.mg_none_of X G z_isinstance
  have n_bool := PySem.W.mg_none_of X G z_bool
  have n_all := PySem.W.mg_none_of X G z_all
  have g_gcd := PySem.W.mg_of X G y_gcd
  have g_lcm := PySem.W.mg_of X G y_lcm
  refine ⟨PySem.W.fnOf "law" "law" (defArgs s_law) (defBody s_law) (defScope s_law) .none kV31 dc31 pm31 an31 cd31 ct31, fun s v => .of_eq rfl, fun base _ _ => ?_⟩
  have C_law_numbers := c_law_numbers (P := l.prog) (w := w) (base := base) (G := G0 K) I_law_numbers n_len n_min n_range n_int
  have C_law_lowest := c_law_lowest (P := l.prog) (w := w) (base := base) (G := G0 K) I_law_lowest n_abs n_range n_int n_max n_tuple
  have C_law_lot := c_law_lot (P := l.prog) (w := w) (base := base) (G := G0 K) I_law_lot C_law_lowest n_int n_range n_sum
  have C_law_acts := c_law_acts (P := l.prog) (w := w) (base := base) (G := G0 K) I_law_acts n_int n_range n_tuple
  have C_entering_column := c_entering_column (P := l.prog) (w := w) (base := base) (G := G0 K) I_entering_column n_len n_range
  have C_leaving_row := c_leaving_row (P := l.prog) (w := w) (base := base) (G := G0 K) I_leaving_row n_len n_range
  have C_exchange := c_exchange (P := l.prog) (w := w) (base := base) (G := G0 K) I_exchange n_len n_range n_zip
  have C_top_of := c_top_of (P := l.prog) (w := w) (base := base) (G := G0 K) I_top_of n_len n_range
  have C_ray_of := c_ray_of (P := l.prog) (w := w) (base := base) (G := G0 K) I_ray_of n_len n_range
  have C_climb := c_climb (P := l.prog) (w := w) (base := base) (G := G0 K) I_climb C_entering_column C_leaving_row C_top_of C_ray_of C_exchange n_len n_range n_list
  have C_lowest := c_lowest (P := l.prog) (w := w) (base := base) (G := G0 K) I_lowest n_tuple g_gcd
  have C_least := c_least (P := l.prog) (w := w) (base := base) (G := G0 K) I_least C_climb C_lowest n_list
  have C_ratio := c_ratio (P := l.prog) (w := w) (base := base) (G := G0 K) I_ratio g_gcd
  have C_dot := c_dot (P := l.prog) (w := w) (base := base) (G := G0 K) I_dot n_zip n_sum
  have C_best_mixture := c_best_mixture (P := l.prog) (w := w) (base := base) (G := G0 K) I_best_mixture C_dot C_least C_ratio C_lowest n_min n_sum n_len n_zip
  have C_law_changed := c_law_changed (P := l.prog) (w := w) (base := base) (G := G0 K) I_law_changed n_list n_tuple
  have C_law_integers := c_law_integers (P := l.prog) (w := w) (base := base) (G := G0 K) I_law_integers n_isinstance n_tuple n_len n_int n_bool
  have C_law_form := c_law_form (P := l.prog) (w := w) (base := base) (G := G0 K) I_law_form C_law_integers C_law_lowest n_isinstance n_tuple n_len
  have C_mix := c_mix (P := l.prog) (w := w) (base := base) (G := G0 K) I_mix C_lowest n_sum n_len n_zip g_lcm
  have C_compare := c_compare (P := l.prog) (w := w) (base := base) (G := G0 K) I_compare
  have C_weighs := c_weighs (P := l.prog) (w := w) (base := base) (G := G0 K) I_weighs n_len n_min n_sum
  have C_least_of := c_least_of (P := l.prog) (w := w) (base := base) (G := G0 K) I_least_of C_compare
  have C_mean := c_mean (P := l.prog) (w := w) (base := base) (G := G0 K) I_mean C_ratio n_sum n_zip
  have C_worst := c_worst (P := l.prog) (w := w) (base := base) (G := G0 K) I_worst C_mean C_least_of
  have C_multiply := c_multiply (P := l.prog) (w := w) (base := base) (G := G0 K) I_multiply C_ratio
  have C_shows_mixture := c_shows_mixture (P := l.prog) (w := w) (base := base) (G := G0 K) I_shows_mixture C_weighs C_dot C_multiply C_worst C_compare C_mix C_mean n_len n_zip n_sum n_all
  have C_law_weighs := c_law_weighs (P := l.prog) (w := w) (base := base) (G := G0 K) I_law_weighs n_len n_sum
  have C_law_dot := c_law_dot (P := l.prog) (w := w) (base := base) (G := G0 K) I_law_dot n_len n_range
  have C_law_shows := c_law_shows (P := l.prog) (w := w) (base := base) (G := G0 K) I_law_shows C_law_weighs C_law_dot n_len n_sum n_range
  have C_law_says := c_law_says (P := l.prog) (w := w) (base := base) (G := G0 K) I_law_says C_shows_mixture C_law_shows n_list n_isinstance n_bool
  exact o_law (P := l.prog) (w := w) (base := base) (G := G0 K) (fun_mk (st := s_law) l31 c31 k31) C_law_numbers C_law_lot C_law_acts C_best_mixture C_law_form C_law_shows C_law_says C_law_lowest C_law_changed n_int n_list n_len
theorem walk {l : PySem.W.OpenLaw} {q : Program} {loose : List Str} {XP : (Str → Option Value) → Heap → Prop} {YP : World → Heap → Prop} {d : DefRec} {K : Params → PySem.W.Frag} (hn : l.most = some 63) (hdf : d.params.defaults = [])
    (hY : ∀ (w : World) (h : Heap), YP w h → (K w.params).In h)
    (F : ∀ (w : World) (mg : Str → Option Value) (fa : Addr) (h : Heap), (K w.params).In h → h.Ns mainGlobals mg → mg d.name = some (.ref fa) →
      ∃ fd : FuncData, (∀ (s : Shared) (u : Value), BindsTo s fd ⟨[u], []⟩ [("script", u)]) ∧ ∀ base : Heap, (K w.params).In base → base.Ns mainGlobals mg → FnOk l.prog w (K w.params) mg base CX0 6 fa fd ["script"] (spLaw (K w.params))) :
    PySem.W.WalkO q loose XP YP l.row.toRowW d [] (fun f vs => PySem.call f vs) :=
  L2.walk_of (n := 63) (k := 6) (x := "script") (CX := fun _ => CX0) (sp := fun w => spLaw (K w.params)) hn (by decide) hdf ⟨rfl, by decide, by decide⟩ hY F (fun _ _ _ _ hl _ hS => sp_true (G0 _) rfl hS (m_law_true hl)) fun _ _ _ _ _ z => z
end K62
open PySem PySem.W PyProof.Rows in
set_option maxRecDepth 100000 in
set_option maxHeartbeats 0 in
theorem PySem.Challenge.cw_unsureminds_k62_best_mixture_of_acts_holds : PySem.Challenge.rw_unsureminds_k62_best_mixture_of_acts.Holds := by
  w_on; o_law; k_head; (case hw => w_witness2)
  k_fill
  refine K62.walk (l := PySem.Challenge.rw_unsureminds_k62_best_mixture_of_acts) rfl rfl (fun w h Y => PySem.W.kIn_of Y) ?F
  case F =>
    intro w mg fa h KX G hmg
    refine' K62.all_mk KX G hmg ?a1 ?l1 ?c1 ?k1 ?a2 ?l2 ?c2 ?k2 ?a3 ?l3 ?c3 ?k3 ?a4 ?l4 ?c4 ?k4 ?a5 ?l5 ?c5 ?k5 ?a6 ?l6 ?c6 ?k6 ?a7 ?l7 ?c7 ?k7 ?a8 ?l8 ?c8 ?k8 ?a9 ?l9 ?c9 ?k9 ?a10 ?l10 ?c10 ?k10 ?a11 ?l11 ?c11 ?k11 ?a12 ?l12 ?c12 ?k12 ?a13 ?l13 ?c13 ?k13 ?a14 ?l14 ?c14 ?k14 ?a15 ?l15 ?c15 ?k15 ?a16 ?l16 ?c16 ?k16 ?a17 ?l17 ?c17 ?k17 ?a18 ?l18 ?c18 ?k18 ?a19 ?l19 ?c19 ?k19 ?a20 ?l20 ?c20 ?k20 ?a21 ?l21 ?c21 ?k21 ?a22 ?l22 ?c22 ?k22 ?a23 ?l23 ?c23 ?k23 ?a24 ?l24 ?c24 ?k24 ?a25 ?l25 ?c25 ?k25 ?a26 ?l26 ?c26 ?k26 ?a27 ?l27 ?c27 ?k27 ?a28 ?l28 ?c28 ?k28 ?a29 ?l29 ?c29 ?k29 ?a30 ?l30 ?c30 ?k30 ?a31 ?l31 ?c31 ?k31 ?z_len ?z_min ?z_range ?z_int ?z_abs ?z_max ?z_tuple ?z_sum ?z_zip ?z_list ?z_isinstance ?z_bool ?z_all ?y_gcd ?y_lcm
    (case a1 => k_is)
    (case l1 => k_is)
    (case c1 => k_is)
    (case k1 => k_is)
    (case a2 => k_is)
    (case l2 => k_is)
    (case c2 => k_is)
    (case k2 => k_is)
    (case a3 => k_is)
    (case l3 => k_is)
    (case c3 => k_is)
    (case k3 => k_is)
    (case a4 => k_is)
    (case l4 => k_is)
    (case c4 => k_is)
    (case k4 => k_is)
    (case a5 => k_is)
    (case l5 => k_is)
    (case c5 => k_is)
    (case k5 => k_is)
    (case a6 => k_is)
    (case l6 => k_is)
    (case c6 => k_is)
    (case k6 => k_is)
    (case a7 => k_is)
    (case l7 => k_is)
    (case c7 => k_is)
    (case k7 => k_is)
    (case a8 => k_is)
    (case l8 => k_is)
    (case c8 => k_is)
    (case k8 => k_is)
    (case a9 => k_is)
    (case l9 => k_is)
    (case c9 => k_is)
    (case k9 => k_is)
    (case a10 => k_is)
    (case l10 => k_is)
    (case c10 => k_is)
    (case k10 => k_is)
    (case a11 => k_is)
    (case l11 => k_is)
    (case c11 => k_is)
    (case k11 => k_is)
    (case a12 => k_is)
    (case l12 => k_is)
    (case c12 => k_is)
    (case k12 => k_is)
    (case a13 => k_is)
    (case l13 => k_is)
    (case c13 => k_is)
    (case k13 => k_is)
    (case a14 => k_is)
    (case l14 => k_is)
    (case c14 => k_is)
    (case k14 => k_is)
    (case a15 => k_is)
    (case l15 => k_is)
    (case c15 => k_is)
    (case k15 => k_is)
    (case a16 => k_is)
    (case l16 => k_is)
    (case c16 => k_is)
    (case k16 => k_is)
    (case a17 => k_is)
    (case l17 => k_is)
    (case c17 => k_is)
    (case k17 => k_is)
    (case a18 => k_is)
    (case l18 => k_is)
    (case c18 => k_is)
    (case k18 => k_is)
    (case a19 => k_is)
    (case l19 => k_is)
    (case c19 => k_is)
    (case k19 => k_is)
    (case a20 => k_is)
    (case l20 => k_is)
    (case c20 => k_is)
    (case k20 => k_is)
    (case a21 => k_is)
    (case l21 => k_is)
    (case c21 => k_is)
    (case k21 => k_is)
    (case a22 => k_is)
    (case l22 => k_is)
    (case c22 => k_is)
    (case k22 => k_is)
    (case a23 => k_is)
    (case l23 => k_is)
    (case c23 => k_is)
    (case k23 => k_is)
    (case a24 => k_is)
    (case l24 => k_is)
    (case c24 => k_is)
    (case k24 => k_is)
    (case a25 => k_is)
    (case l25 => k_is)
    (case c25 => k_is)
    (case k25 => k_is)
    (case a26 => k_is)
    (case l26 => k_is)
    (case c26 => k_is)
    (case k26 => k_is)
    (case a27 => k_is)
    (case l27 => k_is)
    (case c27 => k_is)
    (case k27 => k_is)
    (case a28 => k_is)
    (case l28 => k_is)
    (case c28 => k_is)
    (case k28 => k_is)
    (case a29 => k_is)
    (case l29 => k_is)
    (case c29 => k_is)
    (case k29 => k_is)
    (case a30 => k_is)
    (case l30 => k_is)
    (case c30 => k_is)
    (case k30 => k_is)
    (case a31 => k_is)
    (case l31 => k_is)
    (case c31 => k_is)
    (case k31 => k_is)
    (case z_len => k_is)
    (case z_min => k_is)
    (case z_range => k_is)
    (case z_int => k_is)
    (case z_abs => k_is)
    (case z_max => k_is)
    (case z_tuple => k_is)
    (case z_sum => k_is)
    (case z_zip => k_is)
    (case z_list => k_is)
    (case z_isinstance => k_is)
    (case z_bool => k_is)
    (case z_all => k_is)
    (case y_gcd => k_is)
    (case y_lcm => k_is)
end
