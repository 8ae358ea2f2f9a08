import PyProof.Rows.All
import Wide.All
import OpenK.AllK
import Wide.FinOn
import HandS.ForMost
import HandS.Walk
import HandS.Exc
import HandS.Wide
import HandS.Deep
import HandS.TupAny
import HandS.TupLe
import HandS.Gcd
import HandS.Flow
import HandS.SortKw
import KE.DataMinMax
import KE.GoesMore
import KE.GoesEnum
import HandS.IsInst
import HandS.Style
import HandS.Conv
import HandS.WideBits
import PySem.Challenge.RW_unsureminds_k03_whole_least_goal_by_dual
set_option Elab.async false
set_option linter.all false
section
set_option maxRecDepth 100000
set_option maxHeartbeats 4000000
/-! The data layer: what a def computes, told without the heap. Values are data D; a list that the def itself made and still owns may be changed. -/
namespace DL
open PySem PySem.Spec PyProof.Rows L2

/-- data -/
inductive D where
  | non | bl (b : Bool) | int (i : Int) | str (x : Str) | tup (ds : List D) | lst (ds : List D) | scr (ns : List Int) | obj (c : Str) (fs : List (Str × D))
/-- what an expression gives: data, or a new list that nobody else holds -/
inductive Rs where
  | fz (d : D) | ow (ds : List D)
/-- an exception: its class's name, its fields -/
structure Exc where
  cls : Str
  fs : List (Str × D)
/-- nothing known; a value; an exception -/
inductive M (α : Type) where
  | bad | ok (a : α) | ex (x : Exc)
namespace M
def bind {α β : Type} (m : M α) (f : α → M β) : M β := match m with | .bad => .bad | .ok a => f a | .ex x => .ex x
instance : Monad M where
  pure := .ok
  bind := M.bind
theorem bind_ok {α β : Type} (a : α) (f : α → M β) : (M.ok a >>= f) = f a := rfl
theorem bind_bad {α β : Type} (f : α → M β) : ((M.bad : M α) >>= f) = .bad := rfl
theorem bind_ex {α β : Type} (x : Exc) (f : α → M β) : ((M.ex x : M α) >>= f) = .ex x := rfl
theorem pure_ok {α : Type} (a : α) : (pure a : M α) = .ok a := rfl
def ofO {α : Type} : Option α → M α | none => .bad | some a => .ok a
end M
def Rs.d : Rs → D | .fz d => d | .ow ds => .lst ds
def D.scal : D → Bool | .non => true | .bl _ => true | .int _ => true | .str _ => true | _ => false
def Rs.scal : Rs → Bool | .fz d => d.scal | .ow _ => false

/-- a slot: nothing known; data; a list of its own -/
inductive Sl where
  | un | fz (d : D) | ow (ds : List D)
abbrev Env := List Sl
def Rs.sl : Rs → Sl | .fz d => .fz d | .ow ds => .ow ds
def Sl.frz : Sl → Sl | .ow ds => .fz (.lst ds) | s => s
def fzAll : List Nat → Env → Env
  | [], env => env
  | i :: is, env => fzAll is (env.set i ((env.getD i .un).frz))

/-- the written part, and where the classes stand -/
structure GC where
  K : PySem.W.Frag
  cl : Str → Option Addr

mutual
inductive Rp (G : GC) (H : Hp) : V → D → Prop
  | non : Rp G H .non .non
  | bl (b : Bool) : Rp G H (.bl b) (.bl b)
  | int (i : Int) : Rp G H (.int i) (.int i)
  | str (x : Str) : Rp G H (.str x) (.str x)
  | lst {a : Addr} {xs : List V} {ds : List D} : H a = some (.lst xs) → RpAll G H xs ds → Rp G H (.ref a) (.lst ds)
  | scr {a : Addr} {ns : List Int} : SqL G.K H a (ns.map .int) → Rp G H (.ref a) (.scr ns)
  | tup {a : Addr} {xs : List V} {ds : List D} : SqT G.K H a xs → RpAll G H xs ds → Rp G H (.ref a) (.tup ds)
  | obj {a C dx : Addr} {c : Str} {fs : List (Str × V)} {ds : List (Str × D)} : G.cl c = some C → H a = some (.ins C dx fs) → RpFs G H fs ds → Rp G H (.ref a) (.obj c ds)
inductive RpAll (G : GC) (H : Hp) : List V → List D → Prop
  | nil : RpAll G H [] []
  | cons {v : V} {vs : List V} {d : D} {ds : List D} : Rp G H v d → RpAll G H vs ds → RpAll G H (v :: vs) (d :: ds)
inductive RpFs (G : GC) (H : Hp) : List (Str × V) → List (Str × D) → Prop
  | nil : RpFs G H [] []
  | cons {f : Str} {v : V} {fs : List (Str × V)} {d : D} {ds : List (Str × D)} : Rp G H v d → RpFs G H fs ds → RpFs G H ((f, v) :: fs) ((f, d) :: ds)
end

theorem same_rd {H H' : Hp} {a : Addr} {u : HO} (e : Same H H') (h : Rd H a u) : Rd H' a u := by
  rcases h with h | ⟨o, h⟩
  · exact .inl (e a _ h)
  · exact .inr ⟨o, e a _ h⟩
theorem same_t {K : PySem.W.Frag} {H H' : Hp} {a : Addr} {xs : List V} (e : Same H H') (h : SqT K H a xs) : SqT K H' a xs := by
  rcases h with h | h
  · exact .inl (same_rd e h)
  · exact .inr h

section
variable {G : GC} {H H' : Hp}
mutual
theorem Rp.mono (e : Same H H') : ∀ {v : V} {d : D}, Rp G H v d → Rp G H' v d
  | _, _, .non => .non
  | _, _, .bl b => .bl b
  | _, _, .int i => .int i
  | _, _, .str x => .str x
  | _, _, .lst h r => .lst (e _ _ h) (RpAll.mono e r)
  | _, _, .scr h => .scr (e.seq h)
  | _, _, .tup h r => .tup (same_t e h) (RpAll.mono e r)
  | _, _, .obj c h r => .obj c (e _ _ h) (RpFs.mono e r)
theorem RpAll.mono (e : Same H H') : ∀ {vs : List V} {ds : List D}, RpAll G H vs ds → RpAll G H' vs ds
  | _, _, .nil => .nil
  | _, _, .cons h r => .cons (Rp.mono e h) (RpAll.mono e r)
theorem RpFs.mono (e : Same H H') : ∀ {vs : List (Str × V)} {ds : List (Str × D)}, RpFs G H vs ds → RpFs G H' vs ds
  | _, _, .nil => .nil
  | _, _, .cons h r => .cons (Rp.mono e h) (RpFs.mono e r)
end
theorem RpAll.len {vs : List V} {ds : List D} (h : RpAll G H vs ds) : vs.length = ds.length := by
  induction ds generalizing vs with
  | nil => cases h; rfl
  | cons d ds ih =>
    cases h with
    | cons h r => simp [ih r]
theorem RpAll.get {vs : List V} {ds : List D} (h : RpAll G H vs ds) {i : Nat} {d : D} (e : ds[i]? = some d) : ∃ v, vs[i]? = some v ∧ Rp G H v d := by
  induction ds generalizing vs i with
  | nil => simp at e
  | cons d' ds ih =>
    cases h with
    | @cons v vs _ _ h r =>
      cases i with
      | zero =>
        simp at e
        subst e
        exact ⟨v, rfl, h⟩
      | succ i => simpa using ih r (i := i) (by simpa using e)
theorem RpAll.getV {vs : List V} {ds : List D} (h : RpAll G H vs ds) {i : Nat} {v : V} (e : vs[i]? = some v) : ∃ d, ds[i]? = some d ∧ Rp G H v d := by
  have hi : i < ds.length := by rw [← h.len]; exact (List.getElem?_eq_some_iff.mp e).1
  obtain ⟨v', e', r⟩ := h.get (List.getElem?_eq_getElem hi)
  rw [e] at e'
  cases e'
  exact ⟨_, List.getElem?_eq_getElem hi, r⟩
theorem RpAll.app {vs ws : List V} {ds es : List D} (h : RpAll G H vs ds) (g : RpAll G H ws es) : RpAll G H (vs ++ ws) (ds ++ es) := by
  induction ds generalizing vs with
  | nil => cases h; exact g
  | cons d ds ih =>
    cases h with
    | cons h r => exact .cons h (ih r)
theorem RpAll.set {vs : List V} {ds : List D} (h : RpAll G H vs ds) {v : V} {d : D} (hv : Rp G H v d) (i : Nat) : RpAll G H (vs.set i v) (ds.set i d) := by
  induction ds generalizing vs i with
  | nil => cases h; exact .nil
  | cons d' ds ih =>
    cases h with
    | cons h r =>
      cases i with
      | zero => exact .cons hv r
      | succ i => exact .cons h (ih r i)
theorem RpAll.take {vs : List V} {ds : List D} (h : RpAll G H vs ds) (n : Nat) : RpAll G H (vs.take n) (ds.take n) := by
  induction ds generalizing vs n with
  | nil => cases h; simp; exact .nil
  | cons d' ds ih =>
    cases h with
    | cons h r =>
      cases n with
      | zero => exact .nil
      | succ n => exact .cons h (ih r n)
theorem RpAll.drop {vs : List V} {ds : List D} (h : RpAll G H vs ds) (n : Nat) : RpAll G H (vs.drop n) (ds.drop n) := by
  induction ds generalizing vs n with
  | nil => cases h; simp; exact .nil
  | cons d' ds ih =>
    cases h with
    | cons h r =>
      cases n with
      | zero => exact .cons h r
      | succ n => exact ih r n
theorem RpAll.rev {vs : List V} {ds : List D} (h : RpAll G H vs ds) : RpAll G H vs.reverse ds.reverse := by
  induction ds generalizing vs with
  | nil => cases h; exact .nil
  | cons d' ds ih =>
    cases h with
    | cons h r =>
      rw [List.reverse_cons, List.reverse_cons]
      exact (ih r).app (.cons h .nil)
theorem RpFs.get {fs : List (Str × V)} {ds : List (Str × D)} (h : RpFs G H fs ds) {f : Str} {d : D} (e : ds.lookup f = some d) : ∃ v, fs.lookup f = some v ∧ Rp G H v d := by
  induction ds generalizing fs with
  | nil => simp at e
  | cons p ds ih =>
    cases h with
    | @cons g v fs d' _ h r =>
      rw [List.lookup_cons] at e ⊢
      split at e
      · cases e
        simp_all
      · simp_all
end

/-- H without the addresses X -/
noncomputable def cut (X : Addr → Prop) (H : Hp) : Hp := fun a => open Classical in if X a then none else H a
theorem cut_pos {X : Addr → Prop} {H : Hp} {a : Addr} (h : X a) : cut X H a = none := by unfold cut; rw [if_pos h]
theorem cut_neg {X : Addr → Prop} {H : Hp} {a : Addr} (h : ¬ X a) : cut X H a = H a := by unfold cut; rw [if_neg h]
theorem cut_le {X : Addr → Prop} {H : Hp} : Same (cut X H) H := fun a o h => by
  by_cases x : X a
  · rw [cut_pos x] at h; cases h
  · rwa [cut_neg x] at h
theorem cut_ex {X : Addr → Prop} {H H' : Hp} (e : Same H H') : Same (cut X H) (cut X H') := fun a o h => by
  by_cases x : X a
  · rw [cut_pos x] at h; cases h
  · rw [cut_neg x] at h ⊢; exact e a o h
theorem cut_sub {X Y : Addr → Prop} {H : Hp} (h : ∀ a, Y a → X a) : Same (cut X H) (cut Y H) := fun a o e => by
  by_cases x : X a
  · rw [cut_pos x] at e; cases e
  · rw [cut_neg x] at e; rwa [cut_neg fun y => x (h a y)]
/-- more is cut, but only what was not there -/
theorem cut_new {X Y : Addr → Prop} {H : Hp} (h : ∀ a, Y a → X a ∨ H a = none) : Same (cut X H) (cut Y H) := fun a o e => by
  by_cases x : X a
  · rw [cut_pos x] at e; cases e
  · rw [cut_neg x] at e
    rw [cut_neg fun y => (h a y).elim x fun n => by rw [n] at e; cases e]
    exact e
theorem same_new {H : Hp} {p : Addr} {o : HO} (h : H p = none) : Same H (upd H p o) := fun a u e => by
  rw [upd_ne (ne_of_none e h)]; exact e

def Own (env : Env) (σ : L2.St) (p : Addr) : Prop := ∃ (i : Nat) (ds : List D), env[i]? = some (Sl.ow ds) ∧ σ[i]? = some (some (V.ref p))
/-- what the data cannot see -/
def Z (hid : Addr → Prop) (env : Env) (σ : L2.St) (a : Addr) : Prop := hid a ∨ Own env σ a

structure Real (G : GC) (hid : Addr → Prop) (H0 : Hp) (env : Env) (σ : L2.St) (H : Hp) : Prop where
  len : env.length = σ.length
  fz : ∀ (i : Nat) d, env[i]? = some (.fz d) → ∃ v, σ[i]? = some (some v) ∧ Rp G (cut (Z hid env σ) H) v d
  ow : ∀ (i : Nat) ds, env[i]? = some (.ow ds) → ∃ p vs, σ[i]? = some (some (.ref p)) ∧ H p = some (.lst vs) ∧ RpAll G (cut (Z hid env σ) H) vs ds
  inj : ∀ (i j : Nat) ds es p, env[i]? = some (.ow ds) → env[j]? = some (.ow es) → σ[i]? = some (some (.ref p)) → σ[j]? = some (some (.ref p)) → i = j
  base : Same H0 H
  fresh : ∀ p, Own env σ p → H0 p = none ∧ ¬ hid p
  hidb : ∀ a, hid a → H a ≠ none

section
variable {G : GC} {hid : Addr → Prop} {H0 H H' : Hp} {env : Env} {σ : L2.St}
theorem Real.mono (R : Real G hid H0 env σ H) (e : Same H H') : Real G hid H0 env σ H' :=
  ⟨R.len, fun i d h => let ⟨v, a, b⟩ := R.fz i d h; ⟨v, a, b.mono (cut_ex e)⟩, fun i ds h => let ⟨p, vs, a, b, c⟩ := R.ow i ds h; ⟨p, vs, a, e _ _ b, c.mono (cut_ex e)⟩,
    R.inj, R.base.trans e, R.fresh, fun a h n => by
      cases q : H a with
      | none => exact R.hidb a h q
      | some o => rw [e a o q] at n; cases n⟩
theorem Real.owned (R : Real G hid H0 env σ H) {p : Addr} (h : Own env σ p) : ∃ vs, H p = some (.lst vs) := by
  obtain ⟨i, ds, a, b⟩ := h
  obtain ⟨q, vs, c, d, _⟩ := R.ow i ds a
  rw [b] at c
  cases c
  exact ⟨vs, d⟩
theorem Real.zthere (R : Real G hid H0 env σ H) {a : Addr} (h : Z hid env σ a) : H a ≠ none := by
  rcases h with h | h
  · exact R.hidb a h
  · obtain ⟨vs, e⟩ := R.owned h
    rw [e]
    simp
theorem Real.free (R : Real G hid H0 env σ H) {a : Addr} (h : H a = none) : ¬ Z hid env σ a := fun z => R.zthere z h
end
theorem getD_set {α : Type} {l : List α} {i j : Nat} {a b : α} : (l.set i a).getD j b = if i = j ∧ i < l.length then a else l.getD j b := by
  simp only [List.getD_eq_getElem?_getD, List.getElem?_set]
  by_cases h : i = j
  · subst h
    by_cases h2 : i < l.length
    · simp [h2]
    · simp [h2]
  · simp [h]
theorem frz_not_ow (s : Sl) : ∀ ds, s.frz ≠ .ow ds := by cases s <;> simp [Sl.frz]
theorem fzAll_len : ∀ (A : List Nat) (env : Env), (fzAll A env).length = env.length
  | [], _ => rfl
  | i :: is, env => by rw [fzAll, fzAll_len is, List.length_set]
/-- a frozen slot: as it was, or frozen -/
theorem fzAll_get : ∀ (A : List Nat) (env : Env) (i : Nat), (fzAll A env)[i]? = env[i]? ∨ ∃ ds, env[i]? = some (.ow ds) ∧ (fzAll A env)[i]? = some (.fz (.lst ds))
  | [], _, _ => .inl rfl
  | j :: is, env, i => by
    rw [fzAll]
    have h := fzAll_get is (env.set j ((env.getD j .un).frz)) i
    by_cases e : j = i
    · subst e
      by_cases hl : j < env.length
      · have e1 : (env.set j ((env.getD j .un).frz))[j]? = some ((env.getD j .un).frz) := by simp [hl]
        have e2 : env.getD j .un = env[j] := by simp [List.getD, hl]
        rw [e1, e2] at h
        rw [e2]
        rcases h with h | ⟨ds, h, _⟩
        · cases q : env[j] with
          | un =>
            rw [q] at h
            left
            rw [h, List.getElem?_eq_getElem hl, q]
            rfl
          | fz d =>
            rw [q] at h
            left
            rw [h, List.getElem?_eq_getElem hl, q]
            rfl
          | ow ds =>
            rw [q] at h
            right
            exact ⟨ds, by rw [List.getElem?_eq_getElem hl, q], by rw [h]; rfl⟩
        · exact absurd (Option.some.inj h) (frz_not_ow _ _)
      · have : env.set j ((env.getD j .un).frz) = env := List.set_eq_of_length_le (by omega)
        rw [this] at h ⊢
        exact h
    · have e1 : (env.set j ((env.getD j .un).frz))[i]? = env[i]? := by rw [List.getElem?_set_ne e]
      rw [e1] at h
      exact h
theorem own_fz {A : List Nat} {env : Env} {σ : L2.St} {p : Addr} (h : Own (fzAll A env) σ p) : Own env σ p := by
  obtain ⟨i, ds, a, b⟩ := h
  rcases fzAll_get A env i with e | ⟨es, _, e⟩
  · exact ⟨i, ds, by rw [← e]; exact a, b⟩
  · rw [e] at a
    cases a
theorem z_fz {hid : Addr → Prop} {A : List Nat} {env : Env} {σ : L2.St} {p : Addr} (h : Z hid (fzAll A env) σ p) : Z hid env σ p := h.imp id own_fz
theorem Real.frz {G : GC} {hid : Addr → Prop} {H0 H : Hp} {env : Env} {σ : L2.St} (R : Real G hid H0 env σ H) (A : List Nat) : Real G hid H0 (fzAll A env) σ H := by
  have sub : Same (cut (Z hid env σ) H) (cut (Z hid (fzAll A env) σ) H) := cut_sub fun a => z_fz
  refine ⟨by rw [fzAll_len]; exact R.len, fun i d h => ?_, fun i ds h => ?_, fun i j ds es p a b => ?_, R.base, fun p h => R.fresh p (own_fz h), R.hidb⟩
  · rcases fzAll_get A env i with e | ⟨es, e0, e⟩
    · obtain ⟨v, a, b⟩ := R.fz i d (by rw [← e]; exact h)
      exact ⟨v, a, b.mono sub⟩
    · rw [e] at h
      cases h
      obtain ⟨p, vs, a, b, c⟩ := R.ow i es e0
      refine ⟨.ref p, a, .lst ?_ (c.mono sub)⟩
      rw [cut_neg, b]
      rintro (z | ⟨j, fs, z1, z2⟩)
      · exact (R.fresh p ⟨i, es, e0, a⟩).2 z
      · rcases fzAll_get A env j with q | ⟨ks, q0, q⟩
        · have := R.inj i j es fs p e0 (by rw [← q]; exact z1) a z2
          subst this
          rw [e] at z1
          cases z1
        · rw [q] at z1
          cases z1
  · rcases fzAll_get A env i with e | ⟨es, _, e⟩
    · obtain ⟨p, vs, a, b, c⟩ := R.ow i ds (by rw [← e]; exact h)
      exact ⟨p, vs, a, b, c.mono sub⟩
    · rw [e] at h
      cases h
  · rcases fzAll_get A env i with e | ⟨_, _, e⟩
    · rcases fzAll_get A env j with e' | ⟨_, _, e'⟩
      · exact R.inj i j ds es p (by rw [← e]; exact a) (by rw [← e']; exact b)
      · rw [e'] at b
        cases b
    · rw [e] at a
      cases a
end DL
end

section
set_option maxRecDepth 100000
set_option maxHeartbeats 4000000
namespace DL
open PySem PySem.Spec PyProof.Rows L2

theorem fzAll_app : ∀ (A B : List Nat) (env : Env), fzAll (A ++ B) env = fzAll B (fzAll A env)
  | [], _, _ => rfl
  | i :: A, B, env => by
    show fzAll (A ++ B) _ = _
    rw [fzAll_app A B]
    rfl
theorem set_frz_ow {env : Env} {j i : Nat} {ds : List D} : (env.set j ((env.getD j .un).frz))[i]? = some (.ow ds) ↔ env[i]? = some (.ow ds) ∧ i ≠ j := by
  by_cases e : j = i
  · subst e
    simp only [ne_eq, not_true_eq_false, and_false, iff_false]
    by_cases hl : j < env.length
    · rw [List.getElem?_set_self hl]
      intro h
      exact frz_not_ow _ _ (Option.some.inj h)
    · rw [List.set_eq_of_length_le (by omega), List.getElem?_eq_none (by omega)]
      simp
  · rw [List.getElem?_set_ne e]
    simp [Ne.symm e]
theorem fz_ow_iff : ∀ {A : List Nat} {env : Env} {i : Nat} {ds : List D}, (fzAll A env)[i]? = some (.ow ds) ↔ env[i]? = some (.ow ds) ∧ i ∉ A
  | [], _, _, _ => by simp [fzAll]
  | j :: A, env, i, ds => by
    rw [fzAll, fz_ow_iff, set_frz_ow]
    simp [and_assoc]
theorem own_mono {A B : List Nat} {env : Env} {σ : L2.St} {p : Addr} (h : ∀ i, i ∈ A → i ∈ B) : Own (fzAll B env) σ p → Own (fzAll A env) σ p := fun ⟨i, ds, a, b⟩ => by
  rw [fz_ow_iff] at a
  exact ⟨i, ds, fz_ow_iff.mpr ⟨a.1, fun z => a.2 (h i z)⟩, b⟩
theorem z_mono {hid : Addr → Prop} {A B : List Nat} {env : Env} {σ : L2.St} {p : Addr} (h : ∀ i, i ∈ A → i ∈ B) : Z hid (fzAll B env) σ p → Z hid (fzAll A env) σ p := fun z => z.imp id (own_mono h)

/-- what may be seen once the slots A are frozen -/
noncomputable abbrev See (hid : Addr → Prop) (A : List Nat) (env : Env) (σ : L2.St) (H : Hp) : Hp := cut (Z hid (fzAll A env) σ) H
theorem see_mono {hid : Addr → Prop} {A B : List Nat} {env : Env} {σ : L2.St} {H H' : Hp} (h : ∀ i, i ∈ A → i ∈ B) (e : Same H H') : Same (See hid A env σ H) (See hid B env σ H') :=
  (cut_ex e).trans (cut_sub fun _ => z_mono h)

def Res (G : GC) (hid : Addr → Prop) (A : List Nat) (env : Env) (σ : L2.St) (H H' : Hp) (v : V) : Rs → Prop
  | .fz d => Rp G (See hid A env σ H') v d
  | .ow ds => ∃ p vs, v = .ref p ∧ H p = none ∧ H' p = some (.lst vs) ∧ RpAll G (cut (fun a => Z hid (fzAll A env) σ a ∨ a = p) H') vs ds
def ExR (G : GC) (S H : Hp) (x : Exc) (c : Value) (d : Option Addr) : Prop := ∃ C dx fs, G.cl x.cls = some C ∧ c = .ref C ∧ d = some dx ∧ H dx = some (.xd fs) ∧ RpFs G S fs x.fs

def Post (G : GC) (W : WX) (hid : Addr → Prop) (A : List Nat) (env : Env) (σ : L2.St) (H : Hp) (Q : VK) : M Rs → Prop
  | .bad => False
  | .ok r => ∀ v H', Same H H' → Res G hid A env σ H H' v r → Q v H'
  | .ex x => ∀ c d H', Same H H' → ExR G (See hid A env σ H') H' x c d → W c d σ H'
def PostA (G : GC) (W : WX) (hid : Addr → Prop) (A : List Nat) (env : Env) (σ : L2.St) (H : Hp) (Q : List V → Hp → Prop) : M (List D) → Prop
  | .bad => False
  | .ok r => ∀ v H', Same H H' → RpAll G (See hid A env σ H') v r → Q v H'
  | .ex x => ∀ c d H', Same H H' → ExR G (See hid A env σ H') H' x c d → W c d σ H'
def PostT (G : GC) (W : WX) (hid : Addr → Prop) (A : List Nat) (env : Env) (σ : L2.St) (H : Hp) (Q : Bool → Hp → Prop) : M Bool → Prop
  | .bad => False
  | .ok b => ∀ H', Same H H' → Q b H'
  | .ex x => ∀ c d H', Same H H' → ExR G (See hid A env σ H') H' x c d → W c d σ H'
def tDE (G : GC) (W : WX) (A : List Nat) (f : Env → M Rs) : TE := fun σ H Q => ∃ hid H0 env, Real G hid H0 env σ H ∧ Post G W hid A env σ H Q (f env)
def tDA (G : GC) (W : WX) (A : List Nat) (f : Env → M (List D)) : TA := fun σ H Q => ∃ hid H0 env, Real G hid H0 env σ H ∧ PostA G W hid A env σ H Q (f env)
def tDT (G : GC) (W : WX) (A : List Nat) (f : Env → M Bool) : TT := fun σ H Q => ∃ hid H0 env, Real G hid H0 env σ H ∧ PostT G W hid A env σ H Q (f env)

structure DE (G : GC) (W : WX) (X : Cx) (e : Expr) (A : List Nat) (f : Env → M Rs) : Prop where
  pe : PE X e (tDE G W A f)
  k : G.K = X.K
structure DA (G : GC) (W : WX) (X : Cx) (es : List Expr) (A : List Nat) (f : Env → M (List D)) : Prop where
  pa : PA X es (tDA G W A f)
  k : G.K = X.K
structure DT (G : GC) (W : WX) (X : Cx) (e : Expr) (A : List Nat) (f : Env → M Bool) : Prop where
  pt : PT X e (tDT G W A f)
  k : G.K = X.K
theorem weakE {X : Cx} {e : Expr} {t u : TE} (h : PE X e t) (w : ∀ σ H Q, u σ H Q → t σ H Q) : PE X e u := ⟨fun pins s σ H Q I q => h.run pins s σ H Q I (w σ H Q q)⟩
theorem weakT {X : Cx} {e : Expr} {t u : TT} (h : PT X e t) (w : ∀ σ H Q, u σ H Q → t σ H Q) : PT X e u := ⟨fun pins s σ H Q I q => h.run pins s σ H Q I (w σ H Q q)⟩
theorem weakW {X : Cx} {e : Expr} {t u : TT} (h : PW X e t) (w : ∀ σ H Q, u σ H Q → t σ H Q) : PW X e u := ⟨fun wh pins s σ H Q I q => h.run wh pins s σ H Q I (w σ H Q q)⟩
theorem weakA {X : Cx} {e : List Expr} {t u : TA} (h : PA X e t) (w : ∀ σ H Q, u σ H Q → t σ H Q) : PA X e u := ⟨fun p pins s σ H Q I q => h.run p pins s σ H Q I (w σ H Q q)⟩

/-- a frozen result -/
theorem Res.rp {G : GC} {hid : Addr → Prop} {A : List Nat} {env : Env} {σ : L2.St} {H H' : Hp} {v : V} {r : Rs} {H0 : Hp} (R : Real G hid H0 env σ H) (h : Res G hid A env σ H H' v r) : Rp G (See hid A env σ H') v r.d := by
  cases r with
  | fz d => exact h
  | ow ds =>
    obtain ⟨p, vs, rfl, h1, h2, h3⟩ := h
    refine .lst ?_ (h3.mono (cut_sub fun a z => .inl z))
    exact Eq.trans (cut_neg fun z => R.free h1 (z_fz z)) h2

section
variable {G : GC} {W : WX} {X : Cx} {pos : Pos}
/-! ### names, constants -/
def eVar (i : Nat) : Env → M Rs := fun env => match env.getD i .un with | .un => .bad | .fz d => .ok (.fz d) | .ow ds => .ok (.fz (.lst ds))
def eC (d : D) : Env → M Rs := fun _ => .ok (.fz d)
theorem Real.var {hid : Addr → Prop} {H0 H : Hp} {env : Env} {σ : L2.St} (R : Real G hid H0 env σ H) {i : Nat} {r : Rs} (h : eVar i env = .ok r) : ∃ v d, r = .fz d ∧ σ[i]? = some (some v) ∧ Rp G (See hid [i] env σ H) v d := by
  unfold eVar at h
  cases q : env.getD i .un with
  | un => rw [q] at h; cases h
  | fz d =>
    rw [q] at h
    cases h
    have hi : env[i]? = some (.fz d) := by
      rw [List.getD_eq_getElem?_getD] at q
      cases e : env[i]? with
      | none => rw [e] at q; cases q
      | some x => rw [e] at q; cases q; rfl
    obtain ⟨v, a, b⟩ := R.fz i d hi
    exact ⟨v, d, rfl, a, b.mono (cut_sub fun _ => z_fz)⟩
  | ow ds =>
    rw [q] at h
    cases h
    have hi : env[i]? = some (.ow ds) := by
      rw [List.getD_eq_getElem?_getD] at q
      cases e : env[i]? with
      | none => rw [e] at q; cases q
      | some x => rw [e] at q; cases q; rfl
    have R' := R.frz [i]
    have e' : (fzAll [i] env)[i]? = some (.fz (.lst ds)) := by
      rcases fzAll_get [i] env i with e | ⟨es, e0, e⟩
      · rw [hi] at e
        have := (fz_ow_iff.mp e).2
        simp at this
      · rw [hi] at e0
        cases e0
        exact e
    obtain ⟨v, a, b⟩ := R'.fz i _ e'
    exact ⟨v, _, rfl, a, b⟩
theorem eVar_noex {i : Nat} {env : Env} {x : Exc} : eVar i env ≠ .ex x := by
  unfold eVar
  split <;> simp
theorem d_var (i : Nat) {x : Str} (k : G.K = X.K := by rfl) (hN : X.N[i]? = some x := by rfl) (hv : Vis X.env.scope x := by first | exact Or.inl rfl | exact Or.inr (Or.inl rfl) | exact Or.inr (Or.inr rfl)) (hd : (x == ("__debug__" : Str)) = false := by decide)
    (hcd : (x == ("__classdict__" : Str)) = false := by decide) : DE G W X (.Name x pos) [i] (eVar i) := ⟨weakE (pe_var hN hv hd hcd) fun σ H Q h => by
  obtain ⟨hid, H0, env, R, h⟩ := h
  cases e : eVar i env with
  | bad => rw [e] at h; exact h.elim
  | ex x => exact absurd e eVar_noex
  | ok r =>
    rw [e] at h
    obtain ⟨v, d, rfl, a, b⟩ := R.var e
    exact ⟨v, a, h v H (Same.refl H) b⟩, k⟩
theorem d_c {e : Expr} {v : V} {d : D} (h : PE X e (tC v)) (r : ∀ H, Rp G H v d) (k : G.K = X.K := by rfl) : DE G W X e [] (eC d) := ⟨weakE h fun σ H Q h => by
  obtain ⟨hid, H0, env, R, h⟩ := h
  exact h v H (Same.refl H) (r _), k⟩
theorem d_int {i : Int} {j : Nat} (k : G.K = X.K := by rfl) : DE G W X (.Constant (.int i) j pos) [] (eC (.int i)) := d_c pe_int (fun _ => .int i) k
theorem d_bl {b : Bool} {j : Nat} (k : G.K = X.K := by rfl) : DE G W X (.Constant (.bool b) j pos) [] (eC (.bl b)) := d_c pe_bl (fun _ => .bl b) k
theorem d_non {j : Nat} (k : G.K = X.K := by rfl) : DE G W X (.Constant .none j pos) [] (eC .non) := d_c pe_non (fun _ => .non) k
theorem d_str {x : Str} {j : Nat} (k : G.K = X.K := by rfl) : DE G W X (.Constant (.str x) j pos) [] (eC (.str x)) := d_c pe_str (fun _ => .str x) k

/-! ### operators on values -/
/-- what an operation gives, from the data S that is seen and the heap H -/
def NewR (G : GC) (S H : Hp) (v : V) (H' : Hp) : Rs → Prop
  | .fz d => Same H H' ∧ ∃ S', Same S S' ∧ Same S' H' ∧ (∀ a, H a ≠ none → S a = none → S' a = none) ∧ Rp G S' v d
  | .ow ds => Same H H' ∧ ∃ p vs, v = .ref p ∧ H p = none ∧ H' p = some (.lst vs) ∧ ∃ S', Same S S' ∧ Same S' H' ∧ (∀ a, H a ≠ none → S a = none → S' a = none) ∧ S' p = none ∧ RpAll G S' vs ds
theorem NewR.same {S H H' : Hp} {v : V} {r : Rs} (h : NewR G S H v H' r) : Same H H' := by
  cases r with
  | fz d => exact h.1
  | ow ds => exact h.1
theorem NewR.val {S H : Hp} {v : V} {d : D} (hS : Same S H) (h : Rp G S v d) : NewR G S H v H (.fz d) := ⟨Same.refl H, S, Same.refl S, hS, fun _ _ z => z, h⟩
theorem NewR.lst {S H : Hp} {vs : List V} {ds : List D} {p : Addr} (hS : Same S H) (hp : H p = none) (h : RpAll G S vs ds) : NewR G S H (.ref p) (upd H p (.lst vs)) (.ow ds) :=
  ⟨same_new hp, p, vs, rfl, hp, upd_same, S, Same.refl S, hS.trans (same_new hp), fun _ _ z => z, hS.free hp, h⟩
theorem NewR.tup {S H : Hp} {vs : List V} {ds : List D} {p : Addr} (hS : Same S H) (hp : H p = none) (h : RpAll G S vs ds) : NewR G S H (.ref p) (upd H p (.tup vs)) (.fz (.tup ds)) := by
  have e1 : Same S (upd S p (.tup vs)) := same_new (hS.free hp)
  refine ⟨same_new hp, upd S p (.tup vs), e1, fun a o z => ?_, fun a z1 z2 => ?_, .tup (.inl (.inl upd_same)) (h.mono e1)⟩
  · by_cases e : a = p
    · subst e
      rw [upd_same] at z ⊢
      exact z
    · rw [upd_ne e] at z ⊢
      exact hS a o z
  · by_cases e : a = p
    · subst e; exact absurd hp z1
    · rw [upd_ne e]; exact z2
theorem grow_cut {Y : Addr → Prop} {H H' S' : Hp} (hY : ∀ a, Y a → H a ≠ none) (h1 : Same S' H') (h2 : ∀ a, H a ≠ none → cut Y H a = none → S' a = none) : Same S' (cut Y H') := fun a o e => by
  by_cases y : Y a
  · rw [h2 a (hY a y) (cut_pos y)] at e
    cases e
  · rw [cut_neg y]
    exact h1 a o e
theorem NewR.res {hid : Addr → Prop} {A : List Nat} {H0 H H' : Hp} {env : Env} {σ : L2.St} {v : V} {r : Rs} (R : Real G hid H0 env σ H) (h : NewR G (See hid A env σ H) H v H' r) : Res G hid A env σ H H' v r := by
  have hz : ∀ a, Z hid (fzAll A env) σ a → H a ≠ none := fun a z => R.zthere (z_fz z)
  cases r with
  | fz d =>
    obtain ⟨_, S', h1, h2, h3, h4⟩ := h
    exact h4.mono (grow_cut hz h2 h3)
  | ow ds =>
    obtain ⟨_, p, vs, rfl, hp, hq, S', h1, h2, h3, h5, h4⟩ := h
    refine ⟨p, vs, rfl, hp, hq, h4.mono fun a o e => ?_⟩
    have e' := grow_cut hz h2 h3 a o e
    by_cases y : Z hid (fzAll A env) σ a
    · rw [cut_pos y] at e'; cases e'
    · rw [cut_neg y] at e'
      rw [cut_neg]
      · exact e'
      · rintro (z | rfl)
        · exact y z
        · rw [h5] at e; cases e

/-- an operation r is told by g -/
def OpS (G : GC) (r : R2) (g : D → D → M Rs) : Prop := ∀ (S H : Hp) (x y : V) (d e : D) (z : Rs), Same S H → Rp G S x d → Rp G S y e → g d e = .ok z → ∀ Q : VK, (∀ v H', NewR G S H v H' z → Q v H') → r x y H Q
def UnS (G : GC) (r : V → Hp → VK → Prop) (g : D → M Rs) : Prop := ∀ (S H : Hp) (x : V) (d : D) (z : Rs), Same S H → Rp G S x d → g d = .ok z → ∀ Q : VK, (∀ v H', NewR G S H v H' z → Q v H') → r x H Q
def CallS (G : GC) (r : List V → Hp → VK → Prop) (g : List D → M Rs) : Prop := ∀ (S H : Hp) (xs : List V) (ds : List D) (z : Rs), Same S H → RpAll G S xs ds → g ds = .ok z → ∀ Q : VK, (∀ v H', NewR G S H v H' z → Q v H') → r xs H Q
/-- operations raise nothing -/
def pureM {α : Type} (m : M α) : M α := match m with | .ex _ => .bad | m => m
def e2 (g : D → D → M Rs) (f1 f2 : Env → M Rs) : Env → M Rs := fun env => do let x ← f1 env; let y ← f2 env; pureM (g x.d y.d)
def e1 (g : D → M Rs) (f1 : Env → M Rs) : Env → M Rs := fun env => do let x ← f1 env; pureM (g x.d)
theorem pureM_ok {α : Type} {m : M α} {a : α} (h : pureM m = .ok a) : m = .ok a := by
  cases m <;> simp_all [pureM]
theorem pureM_ex {α : Type} {m : M α} {x : Exc} : pureM m ≠ .ex x := by
  cases m <;> simp [pureM]
theorem sub_l {A B : List Nat} : ∀ i, i ∈ A → i ∈ A ++ B := fun i h => List.mem_append_left _ h
theorem sub_r {A B : List Nat} : ∀ i, i ∈ B → i ∈ A ++ B := fun i h => List.mem_append_right _ h
theorem ExR.mono {S S' H : Hp} {x : Exc} {c : Value} {d : Option Addr} (h : Same S S') (e : ExR G S H x c d) : ExR G S' H x c d := by
  obtain ⟨C, dx, fs, a, b, c', d', r⟩ := e
  exact ⟨C, dx, fs, a, b, c', d', r.mono h⟩
/-- two expressions, one behind the other -/
theorem two_run {A B : List Nat} {f1 f2 : Env → M Rs} {σ : L2.St} {H : Hp} {hid : Addr → Prop} {H0 : Hp} {env : Env} {g : Rs → Rs → M Rs} {Q : VK} (R : Real G hid H0 env σ H)
    (h : Post G W hid (A ++ B) env σ H Q (do let x ← f1 env; let y ← f2 env; g x y)) {T : V → V → Hp → Prop}
    (hT : ∀ v w H2 x y, Same H H2 → f1 env = .ok x → f2 env = .ok y → Rp G (See hid (A ++ B) env σ H2) v x.d → Rp G (See hid (A ++ B) env σ H2) w y.d → Post G W hid (A ++ B) env σ H Q (g x y) → T v w H2) :
    tDE G W A f1 σ H fun x H1 => tDE G W B f2 σ H1 fun y H2 => T x y H2 := by
  refine ⟨hid, H0, env, R, ?_⟩
  cases e1 : f1 env with
  | bad => rw [e1] at h; exact h
  | ex x =>
    rw [e1] at h
    intro c d H' e r
    exact h c d H' e (r.mono (see_mono sub_l (Same.refl _)))
  | ok x =>
    rw [e1] at h
    intro v H1 s1 r1
    have R1 := R.mono s1
    refine ⟨hid, H0, env, R1, ?_⟩
    have h' : Post G W hid (A ++ B) env σ H Q (f2 env >>= fun y => g x y) := h
    cases e2 : f2 env with
    | bad => rw [e2] at h'; exact h'
    | ex z =>
      rw [e2] at h'
      intro c d H' e r
      exact h' c d H' (s1.trans e) (r.mono (see_mono sub_r (Same.refl _)))
    | ok y =>
      rw [e2] at h'
      intro w H2 s2 r2
      exact hT v w H2 x y (s1.trans s2) e1 e2 ((r1.rp R).mono (see_mono sub_l s2)) ((r2.rp R1).mono (see_mono sub_r (Same.refl _))) h'
/-- the operation itself -/
theorem op_end {r : R2} {g : D → D → M Rs} (hs : OpS G r g) {hid : Addr → Prop} {A : List Nat} {env : Env} {σ : L2.St} {H0 H H2 : Hp} {Q : VK} {x y : Rs} {v w : V} (R : Real G hid H0 env σ H) (s : Same H H2)
    (hv : Rp G (See hid A env σ H2) v x.d) (hw : Rp G (See hid A env σ H2) w y.d) (h : Post G W hid A env σ H Q (pureM (g x.d y.d))) : r v w H2 Q := by
  cases e : pureM (g x.d y.d) with
  | bad => rw [e] at h; exact h.elim
  | ex z => exact absurd e pureM_ex
  | ok z =>
    rw [e] at h
    refine hs _ H2 v w _ _ z cut_le hv hw (pureM_ok e) Q fun v' H' n => h v' H' (s.trans n.same) ?_
    have q := NewR.res (R.mono s) n
    cases z with
    | fz d => exact q
    | ow ds =>
      obtain ⟨p, vs, a, b, c⟩ := q
      refine ⟨p, vs, a, ?_, c⟩
      exact s.free b
theorem d_op {op : Operator} {a b : Expr} {r : R2} {g : D → D → M Rs} {A B : List Nat} {f1 f2 : Env → M Rs} (ho : OpR X (binaryOp op) r) (hs : OpS G r g) (h1 : DE G W X a A f1) (h2 : DE G W X b B f2) : DE G W X (.BinOp a op b pos) (A ++ B) (e2 g f1 f2) :=
  ⟨weakE (pe_op ho h1.pe h2.pe) fun σ H Q ⟨hid, H0, env, R, h⟩ => two_run R h fun v w H2 x y s _ _ hv hw q => op_end hs R s hv hw q, h1.k⟩
theorem d_cmp {op : CmpOp} {a b : Expr} {r : R2} {g : D → D → M Rs} {A B : List Nat} {f1 f2 : Env → M Rs} (ho : OpR X (compareOp op) r) (hs : OpS G r g) (h1 : DE G W X a A f1) (h2 : DE G W X b B f2) (hm : behindInMarks op b = false) :
    DE G W X (.Compare a [op] [b] pos) (A ++ B) (e2 g f1 f2) :=
  ⟨weakE (pe_cmpR ho h1.pe h2.pe hm) fun σ H Q ⟨hid, H0, env, R, h⟩ => two_run R h fun v w H2 x y s _ _ hv hw q => op_end hs R s hv hw q, h1.k⟩
theorem d_ixG {a b : Expr} {r : R2} {g : D → D → M Rs} {A B : List Nat} {f1 f2 : Env → M Rs} (ho : IxR X r) (hs : OpS G r g) (h1 : DE G W X a A f1) (h2 : DE G W X b B f2) (hp : PlainIx b) : DE G W X (.Subscript a b pos) (A ++ B) (e2 g f1 f2) :=
  ⟨weakE (pe_ix ho h1.pe h2.pe hp) fun σ H Q ⟨hid, H0, env, R, h⟩ => two_run R h fun v w H2 x y s _ _ hv hw q => op_end hs R s hv hw q, h1.k⟩
theorem d_un {op : UnaryOp} {a : Expr} {r : V → Hp → VK → Prop} {g : D → M Rs} {A : List Nat} {f1 : Env → M Rs} (ho : UnR X (unaryOp op) r) (hs : UnS G r g) (h1 : DE G W X a A f1) : DE G W X (.UnaryOp op a pos) A (e1 g f1) :=
  ⟨weakE (pe_un ho h1.pe) fun σ H Q ⟨hid, H0, env, R, h⟩ => by
    refine ⟨hid, H0, env, R, ?_⟩
    have h : Post G W hid A env σ H Q (f1 env >>= fun x => pureM (g x.d)) := h
    cases e : f1 env with
    | bad => rw [e] at h; exact h
    | ex x => rw [e] at h; exact h
    | ok x =>
      rw [e] at h
      intro v H1 s1 r1
      have h : Post G W hid A env σ H Q (pureM (g x.d)) := h
      cases e2 : pureM (g x.d) with
      | bad => rw [e2] at h; exact h.elim
      | ex z => exact absurd e2 pureM_ex
      | ok z =>
        rw [e2] at h
        refine hs _ H1 v _ z cut_le (r1.rp R) (pureM_ok e2) Q fun v' H' n => h v' H' (s1.trans n.same) ?_
        have q := NewR.res (R.mono s1) n
        cases z with
        | fz d => exact q
        | ow ds =>
          obtain ⟨p, vs, a, b, c⟩ := q
          exact ⟨p, vs, a, s1.free b, c⟩, h1.k⟩

/-! ### arguments, displays, calls -/
def aNil : Env → M (List D) := fun _ => .ok []
def aCons (f : Env → M Rs) (g : Env → M (List D)) : Env → M (List D) := fun env => do let x ← f env; let ys ← g env; .ok (x.d :: ys)
theorem da_nil (k : G.K = X.K := by rfl) : DA G W X [] [] aNil := ⟨weakA pa_nil fun σ H Q ⟨hid, H0, env, R, h⟩ => h [] H (Same.refl H) .nil, k⟩
theorem da_cons {e : Expr} {es : List Expr} {A B : List Nat} {f : Env → M Rs} {g : Env → M (List D)} (h1 : DE G W X e A f) (h2 : DA G W X es B g) (hs : starEach (e :: es) X.env = (false, eval e X.env) :: starEach es X.env := by rfl) :
    DA G W X (e :: es) (A ++ B) (aCons f g) := ⟨weakA (pa_cons h1.pe h2.pa hs) fun σ H Q ⟨hid, H0, env, R, h⟩ => by
  have h : PostA G W hid (A ++ B) env σ H Q (f env >>= fun x => g env >>= fun ys => .ok (x.d :: ys)) := h
  refine ⟨hid, H0, env, R, ?_⟩
  cases e1 : f env with
  | bad => rw [e1] at h; exact h
  | ex x =>
    rw [e1] at h
    intro c d H' e r
    exact h c d H' e (r.mono (see_mono sub_l (Same.refl _)))
  | ok x =>
    rw [e1] at h
    intro v H1 s1 r1
    have R1 := R.mono s1
    refine ⟨hid, H0, env, R1, ?_⟩
    have h : PostA G W hid (A ++ B) env σ H Q (g env >>= fun ys => .ok (x.d :: ys)) := h
    cases e2 : g env with
    | bad => rw [e2] at h; exact h
    | ex z =>
      rw [e2] at h
      intro c d H' e r
      exact h c d H' (s1.trans e) (r.mono (see_mono sub_r (Same.refl _)))
    | ok ys =>
      rw [e2] at h
      intro ws H2 s2 r2
      exact h (v :: ws) H2 (s1.trans s2) (.cons ((r1.rp R).mono (see_mono sub_l s2)) (r2.mono (see_mono sub_r (Same.refl _)))), h1.k⟩
def eA (g : List D → M Rs) (f : Env → M (List D)) : Env → M Rs := fun env => do let ds ← f env; pureM (g ds)
theorem args_run {A : List Nat} {f : Env → M (List D)} {g : List D → M Rs} {r : List V → Hp → VK → Prop} (hs : CallS G r g) {σ : L2.St} {H : Hp} {Q : VK} (h : tDE G W A (eA g f) σ H Q) : tDA G W A f σ H fun vs H1 => r vs H1 Q := by
  obtain ⟨hid, H0, env, R, h⟩ := h
  refine ⟨hid, H0, env, R, ?_⟩
  have h : Post G W hid A env σ H Q (f env >>= fun ds => pureM (g ds)) := h
  cases e1 : f env with
  | bad => rw [e1] at h; exact h
  | ex x => rw [e1] at h; exact h
  | ok ds =>
    rw [e1] at h
    intro vs H1 s1 r1
    have h : Post G W hid A env σ H Q (pureM (g ds)) := h
    cases e2 : pureM (g ds) with
    | bad => rw [e2] at h; exact h.elim
    | ex z => exact absurd e2 pureM_ex
    | ok z =>
      rw [e2] at h
      refine hs _ H1 vs _ z cut_le r1 (pureM_ok e2) Q fun v' H' n => h v' H' (s1.trans n.same) ?_
      have q := NewR.res (R.mono s1) n
      cases z with
      | fz d => exact q
      | ow ds =>
        obtain ⟨p, vs, a, b, c⟩ := q
        exact ⟨p, vs, a, s1.free b, c⟩
def oTupD (ds : List D) : M Rs := if ds.length ≤ sizeLine then .ok (.fz (.tup ds)) else .bad
def oLstD (ds : List D) : M Rs := if ds.length ≤ sizeLine then .ok (.ow ds) else .bad
theorem cs_tup : CallS G (fun xs H Q => xs.length ≤ sizeLine ∧ ∀ p, H p = none → Q (.ref p) (upd H p (.tup xs))) oTupD := fun S H xs ds z hS r h Q q => by
  unfold oTupD at h
  split at h
  · cases h
    rename_i hl
    exact ⟨by rw [r.len]; exact hl, fun p hp => q _ _ (.tup hS hp r)⟩
  · cases h
theorem cs_lst : CallS G (fun xs H Q => xs.length ≤ sizeLine ∧ ∀ p, H p = none → Q (.ref p) (upd H p (.lst xs))) oLstD := fun S H xs ds z hS r h Q q => by
  unfold oLstD at h
  split at h
  · cases h
    rename_i hl
    exact ⟨by rw [r.len]; exact hl, fun p hp => q _ _ (.lst hS hp r)⟩
  · cases h
theorem d_tup {es : List Expr} {x1 : Nat} {A : List Nat} {f : Env → M (List D)} (h : DA G W X es A f) : DE G W X (.Tuple es x1 pos) A (eA oTupD f) := ⟨weakE (pe_tup h.pa) fun σ H Q q => args_run cs_tup q, h.k⟩
theorem d_lst {es : List Expr} {A : List Nat} {f : Env → M (List D)} (h : DA G W X es A f) : DE G W X (.List es pos) A (eA oLstD f) := ⟨weakE (pe_lst h.pa) fun σ H Q q => args_run cs_lst q, h.k⟩
theorem d_callB {x : Str} {id : String} {p : Pos} {e : Expr} {es : List Expr} {r : List V → Hp → VK → Prop} {g : List D → M Rs} {A : List Nat} {f : Env → M (List D)} (hc : CallR X (.builtin id) r) (hs : CallS G r g) (hg : Gl X x) (hm : X.mg x = none) (hv : bootBuiltins x = some (.builtin id))
    (h : DA G W X (e :: es) A f) (hn : x ≠ "__name__" := by decide) (hdb : (x == ("__debug__" : Str)) = false := by decide)
    (he : starEach (e :: es) X.env = (false, eval e X.env) :: starEach es X.env := by rfl) (hpl : (backTo pos (starEach es X.env)).any (·.1) = false := by rfl) : DE G W X (.Call (.Name x p) (e :: es) [] pos) A (eA g f) :=
  ⟨weakE (pe_callB hc hg hm hv h.pa hn hdb he hpl) fun σ H Q q => args_run hs q, h.k⟩
theorem d_callTy {x : Str} {T : String} {p : Pos} {e : Expr} {es : List Expr} {r : List V → Hp → VK → Prop} {g : List D → M Rs} {A : List Nat} {f : Env → M (List D)} (hc : CallR X (.type T) r) (hs : CallS G r g) (hg : Gl X x) (hm : X.mg x = none) (hv : bootBuiltins x = some (.type T))
    (h : DA G W X (e :: es) A f) (hn : x ≠ "__name__" := by decide) (hdb : (x == ("__debug__" : Str)) = false := by decide)
    (he : starEach (e :: es) X.env = (false, eval e X.env) :: starEach es X.env := by rfl) (hpl : (backTo pos (starEach es X.env)).any (·.1) = false := by rfl) : DE G W X (.Call (.Name x p) (e :: es) [] pos) A (eA g f) :=
  ⟨weakE (pe_callTy hc hg hm hv h.pa hn hdb he hpl) fun σ H Q q => args_run hs q, h.k⟩
end
end DL
end

section
set_option maxRecDepth 100000
set_option maxHeartbeats 4000000
namespace DL
open PySem PySem.Spec PyProof.Rows L2

def orM {α : Type} (a b : M α) : M α := match a with | .ok z => .ok z | _ => b
theorem orM_ok {α : Type} {a b : M α} {z : α} (h : orM a b = .ok z) : a = .ok z ∨ b = .ok z := by
  cases a with
  | ok x => exact .inl h
  | bad => exact .inr h
  | ex x => exact .inr h
theorem OpS.or {G : GC} {r r' : R2} {g g' : D → D → M Rs} (h : OpS G r g) (h' : OpS G r' g') : OpS G (fun x y H Q => r x y H Q ∨ r' x y H Q) (fun d e => orM (g d e) (g' d e)) :=
  fun S H x y d e z hS hx hy hz Q q => (orM_ok hz).elim (fun e1 => .inl (h S H x y d e z hS hx hy e1 Q q)) fun e1 => .inr (h' S H x y d e z hS hx hy e1 Q q)
theorem OpS.imp {G : GC} {r r' : R2} {g g' : D → D → M Rs} (h : OpS G r g) (hr : ∀ x y H Q, r x y H Q → r' x y H Q) (hg : ∀ d e z, g' d e = .ok z → g d e = .ok z) : OpS G r' g' :=
  fun S H x y d e z hS hx hy hz Q q => hr _ _ _ _ (h S H x y d e z hS hx hy (hg d e z hz) Q q)
theorem CallS.or {G : GC} {r r' : List V → Hp → VK → Prop} {g g' : List D → M Rs} (h : CallS G r g) (h' : CallS G r' g') : CallS G (fun x H Q => r x H Q ∨ r' x H Q) (fun d => orM (g d) (g' d)) :=
  fun S H x d z hS hx hz Q q => (orM_ok hz).elim (fun e1 => .inl (h S H x d z hS hx e1 Q q)) fun e1 => .inr (h' S H x d z hS hx e1 Q q)
section
variable {G : GC} {X : Cx}
/-! ### ints -/
def oI (g : Int → Int → D) : D → D → M Rs | .int i, .int j => .ok (.fz (g i j)) | _, _ => .bad
def oIc (c : Int → Int → Bool) (g : Int → Int → D) : D → D → M Rs | .int i, .int j => if c i j then .ok (.fz (g i j)) else .bad | _, _ => .bad
theorem rp_int {S : Hp} {x : V} {i : Int} (h : Rp G S x (.int i)) : x = .int i := by cases h; rfl
theorem rp_bl {S : Hp} {x : V} {b : Bool} (h : Rp G S x (.bl b)) : x = .bl b := by cases h; rfl
theorem rp_str {S : Hp} {x : V} {z : Str} (h : Rp G S x (.str z)) : x = .str z := by cases h; rfl
theorem rp_lst {S : Hp} {x : V} {ds : List D} (h : Rp G S x (.lst ds)) : ∃ a xs, x = .ref a ∧ S a = some (.lst xs) ∧ RpAll G S xs ds := by
  cases h with
  | lst h r => exact ⟨_, _, rfl, h, r⟩
theorem rp_tup {S : Hp} {x : V} {ds : List D} (h : Rp G S x (.tup ds)) : ∃ a xs, x = .ref a ∧ SqT G.K S a xs ∧ RpAll G S xs ds := by
  cases h with
  | tup h r => exact ⟨_, _, rfl, h, r⟩
theorem rp_scr {S : Hp} {x : V} {ns : List Int} (h : Rp G S x (.scr ns)) : ∃ a, x = .ref a ∧ SqL G.K S a (ns.map .int) := by
  cases h with
  | scr h => exact ⟨_, rfl, h⟩
theorem os_I {g : Int → Int → V} {g' : Int → Int → D} (hg : ∀ i j S, Rp G S (g i j) (g' i j)) : OpS G (rI0 g) (oI g') := fun S H x y d e z hS hx hy hz Q q => by
  unfold oI at hz
  split at hz
  · cases hz
    rw [rp_int hx, rp_int hy]
    exact ⟨_, _, rfl, rfl, q _ _ (.val hS (hg _ _ S))⟩
  · cases hz
theorem os_Ic {C : Int → Int → Prop} {c : Int → Int → Bool} {g : Int → Int → V} {g' : Int → Int → D} (hc : ∀ i j, c i j = true → C i j) (hg : ∀ i j S, Rp G S (g i j) (g' i j)) : OpS G (rI C g) (oIc c g') := fun S H x y d e z hS hx hy hz Q q => by
  unfold oIc at hz
  split at hz
  · split at hz
    · cases hz
      rename_i h
      rw [rp_int hx, rp_int hy]
      exact ⟨_, _, rfl, rfl, hc _ _ h, q _ _ (.val hS (hg _ _ S))⟩
    · cases hz
  · cases hz
/-- what may be multiplied -/
def mulOk (i j : Int) : Bool := decide (i.natAbs < 2 ^ 64) || decide (j.natAbs < 2 ^ 64) || decide (i.natAbs.log2 + j.natAbs.log2 < 130000000)
theorem mulOk_ok {i j : Int} (h : mulOk i j = true) : IntMulOk i j := by
  unfold mulOk at h
  rw [Bool.or_eq_true, Bool.or_eq_true, decide_eq_true_iff, decide_eq_true_iff, decide_eq_true_iff] at h
  rcases h with (h | h) | h
  · exact IntMulOk.of_left (intBits_le_64 (by omega) (by omega))
  · exact IntMulOk.of_right (intBits_le_64 (by omega) (by omega))
  · have b : ∀ x : Int, Builtin.Int.intBits x ≤ x.natAbs.log2 + 1 := fun x => by
      unfold Builtin.Int.intBits
      split <;> omega
    have h1 := b i
    have h2 := b j
    have e : bitsLine = 134217728 := by decide
    unfold IntMulOk
    intro z
    rw [Bool.and_eq_true] at z
    have z2 := z.2
    unfold Builtin.Int.intTooBig at z2
    have z3 := of_decide_eq_true z2
    rw [e] at z3
    omega
theorem op_mulD : OpR X (binaryOp .Mult) (rI IntMulOk fun i j => .int (i * j)) := opI fun _ _ _ _ _ _ _ hc q => mul_int q hc
def divOk (_ j : Int) : Bool := decide (j ≠ 0) && decide (j.natAbs.log2 < 9000)
theorem op_divD : OpR X (binaryOp .FloorDiv) (rI (fun _ j => j ≠ 0 ∧ j.natAbs.log2 < 9000) fun i j => .int (i.fdiv j)) := opI fun i j _ _ _ _ _ hc q => floordiv_int hc.1 q (.inl (PyProof.noPylong_of_log2 hc.2))
def powOk (i j : Int) : Bool := decide (0 ≤ j) && decide (j ≤ 1000000) && decide (i.natAbs < 2 ^ 64)

def oCatL : D → D → M Rs | .lst a, .lst b => if a.length + b.length ≤ sizeLine then .ok (.ow (a ++ b)) else .bad | _, _ => .bad
def oCatT : D → D → M Rs | .tup a, .tup b => if a.length + b.length ≤ sizeLine then .ok (.fz (.tup (a ++ b))) else .bad | _, _ => .bad
def oCatS : D → D → M Rs | .str a, .str b => if a.length + b.length ≤ sizeLine then .ok (.fz (.str (a ++ b))) else .bad | _, _ => .bad
theorem os_catL : OpS G rCat oCatL := fun S H x y d e z hS hx hy hz Q q => by
  unfold oCatL at hz
  split at hz
  · split at hz
    · cases hz
      rename_i h
      obtain ⟨a, xs, rfl, ha, ra⟩ := rp_lst hx
      obtain ⟨b, ys, rfl, hb, rb⟩ := rp_lst hy
      exact ⟨a, b, xs, ys, rfl, rfl, hS _ _ ha, hS _ _ hb, by rw [ra.len, rb.len]; exact h, fun p hp => q _ _ (.lst hS hp (ra.app rb))⟩
    · cases hz
  · cases hz
theorem os_catT : OpS G (rCatA G.K) oCatT := fun S H x y d e z hS hx hy hz Q q => by
  unfold oCatT at hz
  split at hz
  · split at hz
    · cases hz
      rename_i h
      obtain ⟨a, xs, rfl, ha, ra⟩ := rp_tup hx
      obtain ⟨b, ys, rfl, hb, rb⟩ := rp_tup hy
      refine ⟨a, b, xs, ys, rfl, rfl, same_t hS ha, same_t hS hb, by rw [ra.len, rb.len]; exact h, ?_⟩
      refine ⟨fun e0 => ?_, fun e0 e1 => ?_, fun e0 e1 p hp => q _ _ (.tup hS hp (ra.app rb))⟩
      · subst e0
        cases ra
        exact q _ _ (.val hS hy)
      · subst e1
        cases rb
        rw [List.append_nil] at q
        exact q _ _ (.val hS hx)
    · cases hz
  · cases hz
theorem os_catS : OpS G (fun x y H Q => ∃ i j, x = .str i ∧ y = .str j ∧ i.length + j.length ≤ sizeLine ∧ Q (.str (i ++ j)) H) oCatS := fun S H x y d e z hS hx hy hz Q q => by
  unfold oCatS at hz
  split at hz
  · split at hz
    · cases hz
      rename_i h
      rw [rp_str hx, rp_str hy]
      exact ⟨_, _, rfl, rfl, h, q _ _ (.val hS (.str _))⟩
    · cases hz
  · cases hz
/-- a + b -/
def oAdd : D → D → M Rs
  | .int i, .int j => .ok (.fz (.int (i + j)))
  | .lst a, .lst b => if a.length + b.length ≤ sizeLine then .ok (.ow (a ++ b)) else .bad
  | .tup a, .tup b => if a.length + b.length ≤ sizeLine then .ok (.fz (.tup (a ++ b))) else .bad
  | .str a, .str b => if a.length + b.length ≤ sizeLine then .ok (.fz (.str (a ++ b))) else .bad
  | _, _ => .bad
theorem os_add : OpS G (fun x y H Q => rI0 (fun i j => .int (i + j)) x y H Q ∨ (rCat x y H Q ∨ (rCatA G.K x y H Q ∨ (fun x y H Q => ∃ i j, x = .str i ∧ y = .str j ∧ i.length + j.length ≤ sizeLine ∧ Q (.str (i ++ j)) H) x y H Q))) oAdd :=
  OpS.imp (OpS.or (os_I (g' := fun i j => .int (i + j)) fun i j S => .int _) (OpS.or os_catL (OpS.or os_catT os_catS))) (fun _ _ _ _ h => h) fun d e z h => by
    unfold oAdd at h
    split at h <;> first | (cases h; done) | (cases h; rfl) | (split at h <;> first | (cases h; done) | (cases h; simp [orM, oI, oCatL, oCatT, oCatS, *]))
theorem op_addD : OpR X (binaryOp .Add) (fun x y H Q => rI0 (fun i j => .int (i + j)) x y H Q ∨ (rCat x y H Q ∨ (rCatA X.K x y H Q ∨ (fun x y H Q => ∃ i j, x = .str i ∧ y = .str j ∧ i.length + j.length ≤ sizeLine ∧ Q (.str (i ++ j)) H) x y H Q))) :=
  OpR.or op_add (OpR.or op_cat (OpR.or op_catA op_add_str))
def oSub : D → D → M Rs := oI fun i j => .int (i - j)
theorem os_sub : OpS G (rI0 fun i j => .int (i - j)) oSub := os_I fun i j S => .int _
/-- a * b: ints, or a list times an int -/
def oMul : D → D → M Rs
  | .int i, .int j => if mulOk i j then .ok (.fz (.int (i * j))) else .bad
  | .lst a, .int k => if a.length * k.toNat ≤ sizeLine ∧ k < 2 ^ 63 ∧ -(2 ^ 63) ≤ k then .ok (.ow (List.replicate k.toNat a).flatten) else .bad
  | _, _ => .bad
theorem rp_rep {S : Hp} {vs : List V} {ds : List D} (h : RpAll G S vs ds) : ∀ n : Nat, RpAll G S (List.replicate n vs).flatten (List.replicate n ds).flatten
  | 0 => .nil
  | n + 1 => by
    rw [List.replicate_succ, List.replicate_succ, List.flatten_cons, List.flatten_cons]
    exact h.app (rp_rep h n)
def oRepL : D → D → M Rs
  | .lst a, .int k => if a.length * k.toNat ≤ sizeLine ∧ k < 2 ^ 63 ∧ -(2 ^ 63) ≤ k then .ok (.ow (List.replicate k.toNat a).flatten) else .bad
  | _, _ => .bad
theorem os_rep : OpS G rRep oRepL := fun S H x y d e z hS hx hy hz Q q => by
  unfold oRepL at hz
  split at hz
  · split at hz
    · cases hz
      rename_i h
      obtain ⟨a, xs, rfl, ha, ra⟩ := rp_lst hx
      rw [rp_int hy]
      exact ⟨a, _, xs, rfl, rfl, hS _ _ ha, h.2.2, h.2.1, by rw [ra.len]; exact h.1, fun p hp => q _ _ (.lst hS hp (rp_rep ra _))⟩
    · cases hz
  · cases hz
theorem os_mul : OpS G (fun x y H Q => rI IntMulOk (fun i j => .int (i * j)) x y H Q ∨ rRep x y H Q) oMul :=
  OpS.imp (OpS.or (os_Ic (c := mulOk) (g' := fun i j => .int (i * j)) (fun _ _ => mulOk_ok) fun i j S => .int _) os_rep) (fun _ _ _ _ h => h) fun d e z h => by
    unfold oMul at h
    split at h
    · split at h
      · cases h; simp [orM, oIc, *]
      · cases h
    · split at h
      · rename_i h0
        cases h
        show orM M.bad (if _ then _ else _) = _
        rw [if_pos h0]
        rfl
      · cases h
    · cases h
theorem op_mulA : OpR X (binaryOp .Mult) (fun x y H Q => rI IntMulOk (fun i j => .int (i * j)) x y H Q ∨ rRep x y H Q) := OpR.or op_mulD op_rep
def oDiv : D → D → M Rs := oIc divOk fun i j => .int (i.fdiv j)
theorem os_div : OpS G (rI (fun _ j => j ≠ 0 ∧ j.natAbs.log2 < 9000) fun i j => .int (i.fdiv j)) oDiv := os_Ic (fun i j h => by
  unfold divOk at h
  rw [Bool.and_eq_true, decide_eq_true_iff, decide_eq_true_iff] at h
  exact h) fun i j S => .int _
def oMod : D → D → M Rs := oIc (fun _ j => decide (j ≠ 0)) fun i j => .int (i.fmod j)
theorem os_mod : OpS G (rI (fun _ j => j ≠ 0) fun i j => .int (i.fmod j)) oMod := os_Ic (fun i j h => of_decide_eq_true h) fun i j S => .int _
def oPow : D → D → M Rs := oIc powOk fun i j => .int (i ^ j.toNat)
theorem powOk_ok {i j : Int} (h : powOk i j = true) : CPow i j := by
  unfold powOk at h
  rw [Bool.and_eq_true, Bool.and_eq_true, decide_eq_true_iff, decide_eq_true_iff, decide_eq_true_iff] at h
  exact ⟨h.1.1, h.1.2, h.2⟩
theorem os_pow : OpS G (rI CPow fun i j => .int (i ^ j.toNat)) oPow := os_Ic (fun i j h => powOk_ok h) fun i j S => .int _
def oShl : D → D → M Rs := oIc powOk fun i j => .int (i * 2 ^ j.toNat)
theorem os_shl : OpS G (rI CPow fun i j => .int (i * 2 ^ j.toNat)) oShl := os_Ic (fun i j h => powOk_ok h) fun i j S => .int _
def oShr : D → D → M Rs := oIc (fun _ j => decide (0 ≤ j)) fun i j => .int (i / 2 ^ j.toNat)
theorem os_shr : OpS G (rI (fun _ j => 0 ≤ j) fun i j => .int (i / 2 ^ j.toNat)) oShr := os_Ic (fun i j h => of_decide_eq_true h) fun i j S => .int _
def oAnd : D → D → M Rs := oI fun i j => .int (Builtin.bitAnd i j)
theorem os_and : OpS G (rI0 fun i j => .int (Builtin.bitAnd i j)) oAnd := os_I fun i j S => .int _
def oOr : D → D → M Rs := oI fun i j => .int (Builtin.bitOr i j)
theorem os_or : OpS G (rI0 fun i j => .int (Builtin.bitOr i j)) oOr := os_I fun i j S => .int _
def oNeg : D → M Rs | .int i => .ok (.fz (.int (-i))) | _ => .bad
theorem us_neg : UnS G (rU fun i => .int (-i)) oNeg := fun S H x d z hS hx hz Q q => by
  unfold oNeg at hz
  split at hz
  · cases hz
    rw [rp_int hx]
    exact ⟨_, rfl, q _ _ (.val hS (.int _))⟩
  · cases hz

/-! ### comparisons -/
def toInts : List D → Option (List Int)
  | [] => some []
  | .int i :: ds => (toInts ds).map (i :: ·)
  | _ => none
theorem toInts_rp {S : Hp} : ∀ {ds : List D} {xs : List V} {ns : List Int}, RpAll G S xs ds → toInts ds = some ns → xs = ns.map V.int
  | [], _, _, .nil, h => by cases h; rfl
  | .int i :: ds, _, _, .cons r rs, h => by
    unfold toInts at h
    cases e : toInts ds with
    | none => rw [e] at h; cases h
    | some ms =>
      rw [e] at h
      cases h
      rw [toInts_rp rs e, rp_int r]
      rfl
  | .non :: _, _, _, _, h => by cases h
  | .bl _ :: _, _, _, _, h => by cases h
  | .str _ :: _, _, _, _, h => by cases h
  | .tup _ :: _, _, _, _, h => by cases h
  | .lst _ :: _, _, _, _, h => by cases h
  | .scr _ :: _, _, _, _, h => by cases h
  | .obj _ _ :: _, _, _, _, h => by cases h
def oTt (p : List Int → List Int → Bool) : D → D → M Rs
  | .tup a, .tup b => match toInts a, toInts b with | some ns, some ms => .ok (.fz (.bl (p ns ms))) | _, _ => .bad
  | _, _ => .bad
theorem os_Tt {p : List Int → List Int → Bool} {r : R2} (hr : ∀ (a b : Addr) (ns ms : List Int) (H : Hp) (Q : VK), SqT G.K H a (ns.map V.int) → SqT G.K H b (ms.map V.int) → Q (.bl (p ns ms)) H → r (.ref a) (.ref b) H Q) : OpS G r (oTt p) := fun S H x y d e z hS hx hy hz Q q => by
  unfold oTt at hz
  split at hz
  · split at hz
    · cases hz
      rename_i e1 e2
      obtain ⟨a, xs, rfl, ha, ra⟩ := rp_tup hx
      obtain ⟨b, ys, rfl, hb, rb⟩ := rp_tup hy
      rw [toInts_rp ra e1] at ha
      rw [toInts_rp rb e2] at hb
      exact hr a b _ _ H Q (same_t hS ha) (same_t hS hb) (q _ _ (.val hS (.bl _)))
    · cases hz
  · cases hz
def oLt : D → D → M Rs := fun d e => orM (oI (fun i j => .bl (decide (i < j))) d e) (oTt HT.lexLt d e)
theorem os_lt : OpS G (fun x y H Q => rI0 (fun i j => .bl (decide (i < j))) x y H Q ∨ rLtT G.K x y H Q) oLt :=
  OpS.or (os_I fun i j S => .bl _) (os_Tt fun a b ns ms H Q ha hb q => ⟨a, b, ns, ms, rfl, rfl, ha, hb, q⟩)
theorem op_ltD (hu : X.A.units < cLine) : OpR X (compareOp .Lt) (fun x y H Q => rI0 (fun i j => .bl (decide (i < j))) x y H Q ∨ rLtT X.K x y H Q) := OpR.or op_lt (op_ltT hu)
def oGt : D → D → M Rs := oI fun i j => .bl (decide (j < i))
theorem os_gt : OpS G (rI0 fun i j => .bl (decide (j < i))) oGt := os_I fun i j S => .bl _
def oLe : D → D → M Rs := oI fun i j => .bl (decide (i ≤ j))
theorem os_le : OpS G (rI0 fun i j => .bl (decide (i ≤ j))) oLe := os_I fun i j S => .bl _
def oGe : D → D → M Rs := oI fun i j => .bl (decide (j ≤ i))
theorem os_ge : OpS G (rI0 fun i j => .bl (decide (j ≤ i))) oGe := os_I fun i j S => .bl _

mutual
def toPy : D → Option PyData
  | .non => some .none
  | .bl b => some (.bool b)
  | .int i => some (.int i)
  | .str x => some (.str x)
  | .tup ds => (toPyAll ds).map .tuple
  | .lst ds => (toPyAll ds).map .list
  | .scr _ => none
  | .obj _ _ => none
def toPyAll : List D → Option (List PyData)
  | [] => some []
  | d :: ds => (toPy d).bind fun p => (toPyAll ds).map (p :: ·)
end
mutual
theorem toPy_dp {S : Hp} : ∀ {d : D} {x : V} {p : PyData}, Rp G S x d → toPy d = some p → Dp G.K S x p
  | _, _, _, .non, h => by cases h; exact .non
  | _, _, _, .bl b, h => by cases h; exact .bl b
  | _, _, _, .int b, h => by cases h; exact .int b
  | _, _, _, .str b, h => by cases h; exact .str b
  | .tup ds, _, _, .tup hx r, h => by
    unfold toPy at h
    cases e : toPyAll ds with
    | none => rw [e] at h; cases h
    | some ps => rw [e] at h; cases h; exact .tup hx (toPyAll_dp r e)
  | .lst ds, _, _, .lst hx r, h => by
    unfold toPy at h
    cases e : toPyAll ds with
    | none => rw [e] at h; cases h
    | some ps => rw [e] at h; cases h; exact .lst (.inl (.inl hx)) (toPyAll_dp r e)
  | .scr _, _, _, _, h => by cases h
  | .obj _ _, _, _, _, h => by cases h
theorem toPyAll_dp {S : Hp} : ∀ {ds : List D} {xs : List V} {ps : List PyData}, RpAll G S xs ds → toPyAll ds = some ps → DpAll G.K S xs ps
  | _, _, _, .nil, h => by cases h; exact .nil
  | d :: ds, _, _, .cons r rs, h => by
    unfold toPyAll at h
    cases e : toPy d with
    | none => rw [e] at h; cases h
    | some p =>
      cases e2 : toPyAll ds with
      | none => rw [e, e2] at h; cases h
      | some ps => rw [e, e2] at h; cases h; exact .cons (toPy_dp r e) (toPyAll_dp rs e2)
end
mutual
theorem dp_mono {K : PySem.W.Frag} {H H' : Hp} (e : Same H H') : ∀ {v : V} {d : PyData}, Dp K H v d → Dp K H' v d
  | _, _, .non => .non
  | _, _, .bl b => .bl b
  | _, _, .int i => .int i
  | _, _, .str x => .str x
  | _, _, .lst h r => .lst (e.seq h) (dpAll_mono e r)
  | _, _, .tup h r => .tup (same_t e h) (dpAll_mono e r)
theorem dpAll_mono {K : PySem.W.Frag} {H H' : Hp} (e : Same H H') : ∀ {vs : List V} {ds : List PyData}, DpAll K H vs ds → DpAll K H' vs ds
  | _, _, .nil => .nil
  | _, _, .cons h r => .cons (dp_mono e h) (dpAll_mono e r)
end
def oScalEq (neg : Bool) : D → D → M Rs
  | .int i, .int j => .ok (.fz (.bl (if neg then !decide (i = j) else decide (i = j))))
  | .str i, .str j => .ok (.fz (.bl (if neg then !decide (i = j) else decide (i = j))))
  | .bl i, .bl j => .ok (.fz (.bl (if neg then !decide (i = j) else decide (i = j))))
  | _, _ => .bad
def oDeepEq (neg : Bool) (d e : D) : M Rs := match toPy d, toPy e with
  | some p, some q => if SeqAt.shaped p = true ∧ SeqAt.shaped q = true then .ok (.fz (.bl (if neg then !PyData.eqv p q else PyData.eqv p q))) else .bad
  | _, _ => .bad
theorem os_deep {neg : Bool} {r : R2} (hr : ∀ x y d e H Q, Dp G.K H x d → Dp G.K H y e → SeqAt.shaped d = true → SeqAt.shaped e = true → Q (.bl (if neg then !PyData.eqv d e else PyData.eqv d e)) H → r x y H Q) : OpS G r (oDeepEq neg) := fun S H x y d e z hS hx hy hz Q q => by
  unfold oDeepEq at hz
  split at hz
  · split at hz
    · cases hz
      rename_i p p' e1 e2 h
      exact hr _ _ _ _ _ _ (dp_mono hS (toPy_dp hx e1)) (dp_mono hS (toPy_dp hy e2)) h.1 h.2 (q _ _ (.val hS (.bl _)))
    · cases hz
  · cases hz
theorem os_scal {neg : Bool} {r : R2} (hr : ∀ x y H (Q : VK), scal x y = true → Q (.bl (if neg then !decide (x = y) else decide (x = y))) H → r x y H Q) : OpS G r (oScalEq neg) := fun S H x y d e z hS hx hy hz Q q => by
  unfold oScalEq at hz
  split at hz <;> first | (cases hz; done) | skip
  · cases hz
    rw [rp_int hx, rp_int hy]
    refine hr _ _ H Q rfl ?_
    have := q _ _ (.val hS (.bl _))
    simpa using this
  · cases hz
    rw [rp_str hx, rp_str hy]
    refine hr _ _ H Q rfl ?_
    have := q _ _ (.val hS (.bl _))
    simpa using this
  · cases hz
    rw [rp_bl hx, rp_bl hy]
    refine hr _ _ H Q rfl ?_
    have := q _ _ (.val hS (.bl _))
    simpa using this
def oEq : D → D → M Rs := fun d e => orM (oScalEq false d e) (oDeepEq false d e)
def oNe : D → D → M Rs := fun d e => orM (oScalEq true d e) (oDeepEq true d e)
theorem os_eq : OpS G (fun x y H Q => rEq x y H Q ∨ rEqD G.K x y H Q) oEq := OpS.or (os_scal fun x y H Q h q => ⟨h, q⟩) (os_deep fun x y d e H Q a b c d' q => ⟨d, e, a, b, c, d', q⟩)
theorem os_ne : OpS G (fun x y H Q => rNe x y H Q ∨ rNeD G.K x y H Q) oNe := OpS.or (os_scal fun x y H Q h q => ⟨h, q⟩) (os_deep fun x y d e H Q a b c d' q => ⟨d, e, a, b, c, d', q⟩)
theorem op_eqA (hu : X.A.units + 64 < cLine) : OpR X (compareOp .Eq) (fun x y H Q => rEq x y H Q ∨ rEqD X.K x y H Q) := OpR.or op_eq (op_eqD hu)
theorem op_neA (hu : X.A.units + 64 < cLine) : OpR X (compareOp .NotEq) (fun x y H Q => rNe x y H Q ∨ rNeD X.K x y H Q) := OpR.or op_ne (op_neD hu)
/-- x in xs, a list of data of any depth -/
def oInL (neg : Bool) (d e : D) : M Rs := match toPy d, toPy e with
  | some p, some (.list qs) => if SeqAt.shaped p = true ∧ SeqAt.shaped (.list qs) = true then .ok (.fz (.bl (if neg then !qs.any fun z => PyData.eqv z p else qs.any fun z => PyData.eqv z p))) else .bad
  | _, _ => .bad
theorem os_in : OpS G (rInD G.K) (oInL false) := fun S H x y d e z hS hx hy hz Q q => by
  unfold oInL at hz
  split at hz
  · split at hz
    · cases hz
      rename_i p p' e1 e2 h
      exact ⟨_, _, dp_mono hS (toPy_dp hx e1), dp_mono hS (toPy_dp hy e2), h.1, h.2, q _ _ (.val hS (.bl _))⟩
    · cases hz
  · cases hz
theorem os_notin : OpS G (rNotInD G.K) (oInL true) := fun S H x y d e z hS hx hy hz Q q => by
  unfold oInL at hz
  split at hz
  · split at hz
    · cases hz
      rename_i p p' e1 e2 h
      exact ⟨_, _, dp_mono hS (toPy_dp hx e1), dp_mono hS (toPy_dp hy e2), h.1, h.2, q _ _ (.val hS (.bl _))⟩
    · cases hz
  · cases hz
def oIsB (neg : Bool) : D → D → M Rs | .bl a, .bl b => .ok (.fz (.bl (if neg then !decide (a = b) else decide (a = b)))) | _, _ => .bad
theorem os_isB : OpS G (fun x y H Q => ∃ a b, x = .bl a ∧ y = .bl b ∧ Q (.bl (decide (a = b))) H) (oIsB false) := fun S H x y d e z hS hx hy hz Q q => by
  unfold oIsB at hz
  split at hz
  · cases hz
    rw [rp_bl hx, rp_bl hy]
    exact ⟨_, _, rfl, rfl, q _ _ (.val hS (.bl _))⟩
  · cases hz
theorem os_notB : OpS G (fun x y H Q => ∃ a b, x = .bl a ∧ y = .bl b ∧ Q (.bl (!decide (a = b))) H) (oIsB true) := fun S H x y d e z hS hx hy hz Q q => by
  unfold oIsB at hz
  split at hz
  · cases hz
    rw [rp_bl hx, rp_bl hy]
    exact ⟨_, _, rfl, rfl, q _ _ (.val hS (.bl _))⟩
  · cases hz

/-! ### items -/
def oR : Option D → M Rs | some d => .ok (.fz d) | none => .bad
def oIx : D → D → M Rs
  | .lst xs, .int i => oR (atI xs i)
  | .tup xs, .int i => oR (atI xs i)
  | .scr ns, .int i => oR ((atI ns i).map .int)
  | _, _ => .bad
theorem RpAll.at {S : Hp} {vs : List V} {ds : List D} (h : RpAll G S vs ds) {i : Int} {d : D} (e : atI ds i = some d) : ∃ v, atI vs i = some v ∧ Rp G S v d := by
  unfold atI at e ⊢
  rw [h.len]
  cases q : ixN ds.length i with
  | none => rw [q] at e; cases e
  | some j =>
    rw [q] at e
    exact h.get e
theorem atI_map {α β : Type} (f : α → β) (xs : List α) (i : Int) : atI (xs.map f) i = (atI xs i).map f := by
  unfold atI
  rw [List.length_map]
  cases ixN xs.length i with
  | none => rfl
  | some j => simp
theorem IxR.or {r r' : R2} (h : IxR X r) (h' : IxR X r') : IxR X (fun x y H Q => r x y H Q ∨ r' x y H Q) := by
  intro a b pins s σ H x y v u Q I rx ry hq e
  rcases hq with q | q
  · exact h a b pins s σ H x y v u Q I rx ry q e
  · exact h' a b pins s σ H x y v u Q I rx ry q e
theorem ix_D : IxR X (fun x y H Q => rIxL X.K x y H Q ∨ rIxT X.K x y H Q) := IxR.or ix_list ix_tup
theorem os_ix : OpS G (fun x y H Q => rIxL G.K x y H Q ∨ rIxT G.K x y H Q) oIx := fun S H x y d e z hS hx hy hz Q q => by
  unfold oIx at hz
  split at hz
  · rename_i xs i
    obtain ⟨a, vs, rfl, ha, ra⟩ := rp_lst hx
    rw [rp_int hy]
    cases e : atI xs i with
    | none => rw [e] at hz; cases hz
    | some d =>
      rw [e] at hz
      cases hz
      obtain ⟨v, e1, rv⟩ := ra.at e
      exact .inl ⟨a, vs, i, v, rfl, rfl, .inl (.inl (hS _ _ ha)), e1, q _ _ (.val hS rv)⟩
  · rename_i xs i
    obtain ⟨a, vs, rfl, ha, ra⟩ := rp_tup hx
    rw [rp_int hy]
    cases e : atI xs i with
    | none => rw [e] at hz; cases hz
    | some d =>
      rw [e] at hz
      cases hz
      obtain ⟨v, e1, rv⟩ := ra.at e
      exact .inr ⟨a, vs, i, v, rfl, rfl, same_t hS ha, e1, q _ _ (.val hS rv)⟩
  · rename_i ns i
    obtain ⟨a, rfl, ha⟩ := rp_scr hx
    rw [rp_int hy]
    cases e : atI ns i with
    | none => rw [e] at hz; cases hz
    | some n =>
      rw [e] at hz
      cases hz
      exact .inl ⟨a, _, i, .int n, rfl, rfl, hS.seq ha, by rw [atI_map, e]; rfl, q _ _ (.val hS (.int n))⟩
  · cases hz

/-! ### calls of built-ins -/
def oLen : List D → M Rs
  | [.lst xs] => .ok (.fz (.int xs.length))
  | [.tup xs] => .ok (.fz (.int xs.length))
  | [.scr xs] => .ok (.fz (.int xs.length))
  | _ => .bad
theorem rp1 {S : Hp} {xs : List V} {d : D} (h : RpAll G S xs [d]) : ∃ v, xs = [v] ∧ Rp G S v d := by
  cases h with
  | cons h r => cases r; exact ⟨_, rfl, h⟩
theorem rp2 {S : Hp} {xs : List V} {d e : D} (h : RpAll G S xs [d, e]) : ∃ v w, xs = [v, w] ∧ Rp G S v d ∧ Rp G S w e := by
  cases h with
  | cons h r =>
    obtain ⟨w, rfl, q⟩ := rp1 r
    exact ⟨_, w, rfl, h, q⟩
theorem cs_len : CallS G (fun xs H Q => ∃ p ys, xs = [.ref p] ∧ (SqL G.K H p ys ∨ SqT G.K H p ys) ∧ Q (.int ys.length) H) oLen := fun S H xs ds z hS hr hz Q q => by
  unfold oLen at hz
  split at hz
  · cases hz
    obtain ⟨v, rfl, r⟩ := rp1 hr
    obtain ⟨a, vs, rfl, ha, ra⟩ := rp_lst r
    exact ⟨a, vs, rfl, .inl (.inl (.inl (hS _ _ ha))), by rw [ra.len]; exact q _ _ (.val hS (.int _))⟩
  · cases hz
    obtain ⟨v, rfl, r⟩ := rp1 hr
    obtain ⟨a, vs, rfl, ha, ra⟩ := rp_tup r
    exact ⟨a, vs, rfl, .inr (same_t hS ha), by rw [ra.len]; exact q _ _ (.val hS (.int _))⟩
  · cases hz
    rename_i ns
    obtain ⟨v, rfl, r⟩ := rp1 hr
    obtain ⟨a, rfl, ha⟩ := rp_scr r
    refine ⟨a, _, rfl, .inl (hS.seq ha), ?_⟩
    have : ((ns.map V.int).length : Int) = ns.length := by simp
    rw [this]
    exact q _ _ (.val hS (.int _))
  · cases hz
def oList : List D → M Rs
  | [.lst xs] => .ok (.ow xs)
  | [.tup xs] => .ok (.ow xs)
  | _ => .bad
theorem cs_list : CallS G (fun xs H Q => ∃ p ys, xs = [.ref p] ∧ (SqL G.K H p ys ∨ SqT G.K H p ys) ∧ ∀ l, H l = none → Q (.ref l) (upd H l (.lst ys))) oList := fun S H xs ds z hS hr hz Q q => by
  unfold oList at hz
  split at hz
  · cases hz
    obtain ⟨v, rfl, r⟩ := rp1 hr
    obtain ⟨a, vs, rfl, ha, ra⟩ := rp_lst r
    exact ⟨a, vs, rfl, .inl (.inl (.inl (hS _ _ ha))), fun l hl => q _ _ (.lst hS hl ra)⟩
  · cases hz
    obtain ⟨v, rfl, r⟩ := rp1 hr
    obtain ⟨a, vs, rfl, ha, ra⟩ := rp_tup r
    exact ⟨a, vs, rfl, .inr (same_t hS ha), fun l hl => q _ _ (.lst hS hl ra)⟩
  · cases hz
def oTuple : List D → M Rs
  | [.lst xs] => .ok (.fz (.tup xs))
  | [.tup xs] => .ok (.fz (.tup xs))
  | _ => .bad
theorem cs_tuple : CallS G (fun xs H Q => ∃ p ys, xs = [.ref p] ∧ ((SqL G.K H p ys ∧ ∀ l, H l = none → Q (.ref l) (upd H l (.tup ys))) ∨ (SqT G.K H p ys ∧ Q (.ref p) H))) oTuple := fun S H xs ds z hS hr hz Q q => by
  unfold oTuple at hz
  split at hz
  · cases hz
    obtain ⟨v, rfl, r⟩ := rp1 hr
    obtain ⟨a, vs, rfl, ha, ra⟩ := rp_lst r
    exact ⟨a, vs, rfl, .inl ⟨.inl (.inl (hS _ _ ha)), fun l hl => q _ _ (.tup hS hl ra)⟩⟩
  · cases hz
    obtain ⟨v, rfl, r⟩ := rp1 hr
    obtain ⟨a, vs, rfl, ha, ra⟩ := rp_tup r
    exact ⟨a, vs, rfl, .inr ⟨same_t hS ha, q _ _ (.val hS r)⟩⟩
  · cases hz
def oInt : List D → M Rs
  | [.int i] => .ok (.fz (.int i))
  | [.bl b] => .ok (.fz (.int (if b then 1 else 0)))
  | _ => .bad
theorem cs_int : CallS G (fun xs H Q => (∃ i, xs = [.int i] ∧ Q (.int i) H) ∨ ∃ k, xs = [.bl k] ∧ Q (.int (if k then 1 else 0)) H) oInt := fun S H xs ds z hS hr hz Q q => by
  unfold oInt at hz
  split at hz
  · cases hz
    obtain ⟨v, rfl, r⟩ := rp1 hr
    rw [rp_int r]
    exact .inl ⟨_, rfl, q _ _ (.val hS (.int _))⟩
  · cases hz
    obtain ⟨v, rfl, r⟩ := rp1 hr
    rw [rp_bl r]
    exact .inr ⟨_, rfl, q _ _ (.val hS (.int _))⟩
  · cases hz
def oAbs : List D → M Rs
  | [.int i] => .ok (.fz (.int (if i < 0 then -i else i)))
  | _ => .bad
theorem cs_abs : CallS G (fun xs H Q => ∃ i, xs = [.int i] ∧ Q (.int (if i < 0 then -i else i)) H) oAbs := fun S H xs ds z hS hr hz Q q => by
  unfold oAbs at hz
  split at hz
  · cases hz
    obtain ⟨v, rfl, r⟩ := rp1 hr
    rw [rp_int r]
    exact ⟨_, rfl, q _ _ (.val hS (.int _))⟩
  · cases hz
def oII (g : Int → Int → Int) : List D → M Rs
  | [.int i, .int j] => .ok (.fz (.int (g i j)))
  | _ => .bad
theorem cs_II {g : Int → Int → Int} : CallS G (fun xs H Q => ∃ i j, xs = [.int i, .int j] ∧ Q (.int (g i j)) H) (oII g) := fun S H xs ds z hS hr hz Q q => by
  unfold oII at hz
  split at hz
  · cases hz
    obtain ⟨v, w, rfl, r, r2⟩ := rp2 hr
    rw [rp_int r, rp_int r2]
    exact ⟨_, _, rfl, q _ _ (.val hS (.int _))⟩
  · cases hz
def oMax2 : List D → M Rs := oII fun i j => if j > i then j else i
def oMin2 : List D → M Rs := oII fun i j => if j < i then j else i
def oGcd : List D → M Rs := oII fun i j => ((Nat.gcd i.natAbs j.natAbs : Nat) : Int)
end
end DL
end

section
set_option maxRecDepth 100000
set_option maxHeartbeats 4000000
namespace DL
open PySem PySem.Spec PyProof.Rows L2

/-! ### the state changes -/
section
variable {G : GC} {hid : Addr → Prop} {H0 H H1 : Hp} {env : Env} {σ : L2.St}
abbrev Gro (hid : Addr → Prop) (env : Env) (σ : L2.St) (H : Hp) (env' : Env) (σ' : L2.St) (H' : Hp) : Prop := Same (cut (Z hid env σ) H) (cut (Z hid env' σ') H')
theorem own_set_fz {i : Nat} {d : D} {v : Option V} {q : Addr} (h : Own (env.set i (.fz d)) (σ.set i v) q) : Own env σ q := by
  obtain ⟨j, ds, a, b⟩ := h
  by_cases e : i = j
  · subst e
    by_cases hl : i < env.length
    · rw [List.getElem?_set_self hl] at a; cases a
    · rw [List.getElem?_eq_none (by simp; omega)] at a; cases a
  · rw [List.getElem?_set_ne e] at a b
    exact ⟨j, ds, a, b⟩
theorem own_set_ow {i : Nat} {d : List D} {p : Addr} {q : Addr} (h : Own (env.set i (.ow d)) (σ.set i (some (.ref p))) q) (hl : env.length = σ.length) : q = p ∨ Own env σ q := by
  obtain ⟨j, ds, a, b⟩ := h
  by_cases e : i = j
  · subst e
    by_cases hl' : i < env.length
    · rw [List.getElem?_set_self (by omega)] at b
      cases b
      exact .inl rfl
    · rw [List.getElem?_eq_none (by simp; omega)] at a; cases a
  · rw [List.getElem?_set_ne e] at a b
    exact .inr ⟨j, ds, a, b⟩
theorem Real.setFz (R : Real G hid H0 env σ H) {i : Nat} {v : V} {d : D} (h : Rp G (cut (Z hid env σ) H) v d) : Real G hid H0 (env.set i (.fz d)) (σ.set i (some v)) H ∧ Gro hid env σ H (env.set i (.fz d)) (σ.set i (some v)) H := by
  have sub : Gro hid env σ H (env.set i (.fz d)) (σ.set i (some v)) H := cut_sub fun a z => z.imp id own_set_fz
  refine ⟨⟨by simp [R.len], fun j d' e => ?_, fun j ds e => ?_, fun j k ds es p a b c d' => ?_, R.base, fun p o => R.fresh p (own_set_fz o), R.hidb⟩, sub⟩
  · by_cases q : i = j
    · subst q
      by_cases hl : i < env.length
      · rw [List.getElem?_set_self hl] at e
        cases e
        exact ⟨v, by rw [List.getElem?_set_self (by rw [← R.len]; exact hl)], h.mono sub⟩
      · rw [List.getElem?_eq_none (by simp; omega)] at e; cases e
    · rw [List.getElem?_set_ne q] at e ⊢
      obtain ⟨w, a, b⟩ := R.fz j d' e
      exact ⟨w, a, b.mono sub⟩
  · by_cases q : i = j
    · subst q
      by_cases hl : i < env.length
      · rw [List.getElem?_set_self hl] at e
        cases e
      · rw [List.getElem?_eq_none (by simp; omega)] at e; cases e
    · rw [List.getElem?_set_ne q] at e ⊢
      obtain ⟨p, vs, a, b, c⟩ := R.ow j ds e
      exact ⟨p, vs, a, b, c.mono sub⟩
  · have ne : ∀ (j : Nat) (es : List D), (env.set i (.fz d))[j]? = some (.ow es) → i ≠ j := fun j es e q => by
      subst q
      by_cases hl : i < env.length
      · rw [List.getElem?_set_self hl] at e
        cases e
      · rw [List.getElem?_eq_none (by simp; omega)] at e; cases e
    have n1 := ne _ _ a
    have n2 := ne _ _ b
    rw [List.getElem?_set_ne n1] at a c
    rw [List.getElem?_set_ne n2] at b d'
    exact R.inj j k ds es p a b c d'
theorem Real.setOw (R : Real G hid H0 env σ H) (s : Same H H1) {i : Nat} {p : Addr} {vs : List V} {ds : List D} (hp : H p = none) (h1 : H1 p = some (.lst vs)) (h : RpAll G (cut (fun a => Z hid env σ a ∨ a = p) H1) vs ds) :
    Real G hid H0 (env.set i (.ow ds)) (σ.set i (some (.ref p))) H1 ∧ Gro hid env σ H (env.set i (.ow ds)) (σ.set i (some (.ref p))) H1 := by
  have zz : ∀ a, Z hid (env.set i (.ow ds)) (σ.set i (some (.ref p))) a → Z hid env σ a ∨ a = p := fun a z => by
    rcases z with z | z
    · exact .inl (.inl z)
    · rcases own_set_ow z R.len with e | e
      · exact .inr e
      · exact .inl (.inr e)
  have sub1 : Same (cut (fun a => Z hid env σ a ∨ a = p) H1) (cut (Z hid (env.set i (.ow ds)) (σ.set i (some (.ref p)))) H1) := cut_sub zz
  have sub0 : Same (cut (Z hid env σ) H) (cut (fun a => Z hid env σ a ∨ a = p) H1) := fun a o e => by
    by_cases z : Z hid env σ a
    · rw [cut_pos z] at e; cases e
    · rw [cut_neg z] at e
      rw [cut_neg]
      · exact s a o e
      · rintro (w | rfl)
        · exact z w
        · rw [hp] at e; cases e
  have sub := sub0.trans sub1
  have H0p : H0 p = none := R.base.free hp
  have notOwn : ∀ (j : Nat) (es : List D), env[j]? = some (.ow es) → σ[j]? ≠ some (some (.ref p)) := fun j es a b => by
    obtain ⟨q, ws, c, d, _⟩ := R.ow j es a
    rw [b] at c
    cases c
    rw [hp] at d
    cases d
  refine ⟨⟨by simp [R.len], fun j d' e => ?_, fun j es e => ?_, fun j k es es' q a b c d' => ?_, R.base.trans s, fun q o => ?_, (R.mono s).hidb⟩, sub⟩
  · by_cases q : i = j
    · subst q
      by_cases hl : i < env.length
      · rw [List.getElem?_set_self hl] at e
        cases e
      · rw [List.getElem?_eq_none (by simp; omega)] at e; cases e
    · rw [List.getElem?_set_ne q] at e ⊢
      obtain ⟨w, a, b⟩ := R.fz j d' e
      exact ⟨w, a, b.mono sub⟩
  · by_cases q : i = j
    · subst q
      by_cases hl : i < env.length
      · rw [List.getElem?_set_self hl] at e
        cases e
        exact ⟨p, vs, by rw [List.getElem?_set_self (by rw [← R.len]; exact hl)], h1, h.mono sub1⟩
      · rw [List.getElem?_eq_none (by simp; omega)] at e; cases e
    · rw [List.getElem?_set_ne q] at e ⊢
      obtain ⟨p', ws, a, b, c⟩ := R.ow j es e
      exact ⟨p', ws, a, s _ _ b, c.mono sub⟩
  · have cs : ∀ (j : Nat) (es : List D), (env.set i (.ow ds))[j]? = some (.ow es) → (σ.set i (some (.ref p)))[j]? = some (some (.ref q)) → (i = j ∧ q = p) ∨ (i ≠ j ∧ env[j]? = some (.ow es) ∧ σ[j]? = some (some (.ref q))) := fun j es a c => by
      by_cases e : i = j
      · subst e
        by_cases hl : i < env.length
        · rw [List.getElem?_set_self (by rw [← R.len]; exact hl)] at c
          cases c
          exact .inl ⟨rfl, rfl⟩
        · rw [List.getElem?_eq_none (by simp; omega)] at a; cases a
      · rw [List.getElem?_set_ne e] at a c
        exact .inr ⟨e, a, c⟩
    rcases cs j es a c with ⟨e1, e2⟩ | ⟨e1, e2, e3⟩
    · rcases cs k es' b d' with ⟨f1, f2⟩ | ⟨f1, f2, f3⟩
      · rw [← e1, ← f1]
      · rw [e2] at f3
        exact absurd f3 (notOwn _ _ f2)
    · rcases cs k es' b d' with ⟨f1, f2⟩ | ⟨f1, f2, f3⟩
      · rw [f2] at e3
        exact absurd e3 (notOwn _ _ e2)
      · exact R.inj j k es es' q e2 f2 e3 f3
  · rcases own_set_ow o R.len with e | e
    · rw [e]; exact ⟨H0p, fun h => R.hidb p h hp⟩
    · exact R.fresh q e
theorem cut_upd {X : Addr → Prop} {p : Addr} {o : HO} (h : X p) : cut X (upd H p o) = cut X H := by
  funext a
  by_cases e : a = p
  · subst e
    rw [cut_pos h, cut_pos h]
  · unfold cut
    rw [upd_ne e]
/-- the list of its own in slot i is changed -/
theorem Real.chg (R : Real G hid H0 env σ H) {i : Nat} {ds ds' : List D} (hi : env[i]? = some (.ow ds)) {p : Addr} {vs' : List V} (hp : σ[i]? = some (some (.ref p))) (h : RpAll G (cut (Z hid env σ) H) vs' ds') :
    Real G hid H0 (env.set i (.ow ds')) σ (upd H p (.lst vs')) ∧ Gro hid env σ H (env.set i (.ow ds')) σ (upd H p (.lst vs')) := by
  have hil : i < env.length := (List.getElem?_eq_some_iff.mp hi).1
  have own : ∀ q, Own (env.set i (.ow ds')) σ q ↔ Own env σ q := fun q => by
    constructor
    · rintro ⟨j, es, a, b⟩
      by_cases e : i = j
      · subst e
        exact ⟨i, ds, hi, b⟩
      · rw [List.getElem?_set_ne e] at a
        exact ⟨j, es, a, b⟩
    · rintro ⟨j, es, a, b⟩
      by_cases e : i = j
      · subst e
        exact ⟨i, ds', by rw [List.getElem?_set_self hil], b⟩
      · exact ⟨j, es, by rw [List.getElem?_set_ne e]; exact a, b⟩
  have zz : Z hid (env.set i (.ow ds')) σ = Z hid env σ := by
    funext a
    exact propext (or_congr Iff.rfl (own a))
  have pz : Z hid env σ p := .inr ⟨i, ds, hi, hp⟩
  have ce : cut (Z hid (env.set i (.ow ds')) σ) (upd H p (.lst vs')) = cut (Z hid env σ) H := by rw [zz, cut_upd pz]
  refine ⟨⟨by simp [R.len], fun j d' e => ?_, fun j es e => ?_, fun j k es es' q a b c d' => ?_, fun a o e => ?_, fun q o => R.fresh q ((own q).mp o), fun a h => ?_⟩, by show Same _ _; rw [ce]; exact Same.refl _⟩
  · rw [ce]
    by_cases q : i = j
    · subst q
      rw [List.getElem?_set_self hil] at e
      cases e
    · rw [List.getElem?_set_ne q] at e
      exact R.fz j d' e
  · rw [ce]
    by_cases q : i = j
    · subst q
      rw [List.getElem?_set_self hil] at e
      cases e
      exact ⟨p, vs', hp, upd_same, h⟩
    · rw [List.getElem?_set_ne q] at e
      obtain ⟨q', ws, a, b, c⟩ := R.ow j es e
      have : q' ≠ p := fun z => q (R.inj i j ds es p hi e hp (by rw [← z]; exact a))
      exact ⟨q', ws, a, by rw [upd_ne this]; exact b, c⟩
  · have gen : ∀ (j : Nat) (es : List D), (env.set i (.ow ds'))[j]? = some (.ow es) → ∃ es', env[j]? = some (.ow es') := fun j es a => by
      by_cases e : i = j
      · subst e; exact ⟨ds, hi⟩
      · rw [List.getElem?_set_ne e] at a; exact ⟨es, a⟩
    obtain ⟨_, a'⟩ := gen _ _ a
    obtain ⟨_, b'⟩ := gen _ _ b
    exact R.inj j k _ _ q a' b' c d'
  · have : a ≠ p := fun z => by
      rw [z, (R.fresh p ⟨i, ds, hi, hp⟩).1] at e
      cases e
    rw [upd_ne this]
    exact R.base a o e
  · by_cases e : a = p
    · rw [e, upd_same]; simp
    · rw [upd_ne e]; exact R.hidb a h
end

/-! ### statements -/
inductive So where
  | bad | nx (env : Env) | rt (r : Rs) | bk (env : Env) | ct (env : Env) | ex (x : Exc) (env : Env)
def RetR (G : GC) (hid : Addr → Prop) (H0 H' : Hp) (v : V) : Rs → Prop
  | .fz d => Same H0 H' ∧ Rp G (cut hid H') v d
  | .ow ds => Same H0 H' ∧ ∃ p vs, v = .ref p ∧ H0 p = none ∧ H' p = some (.lst vs) ∧ RpAll G (cut (fun a => hid a ∨ a = p) H') vs ds
def PostS (G : GC) (W : WX) (hid : Addr → Prop) (H0 : Hp) (env : Env) (σ : L2.St) (H : Hp) (D : Ends) : So → Prop
  | .bad => False
  | .nx e' => ∀ σ' H', Real G hid H0 e' σ' H' → Gro hid env σ H e' σ' H' → D.nx σ' H'
  | .bk e' => ∀ σ' H', Real G hid H0 e' σ' H' → Gro hid env σ H e' σ' H' → D.bk σ' H'
  | .ct e' => ∀ σ' H', Real G hid H0 e' σ' H' → Gro hid env σ H e' σ' H' → D.ct σ' H'
  | .rt r => ∀ v H', RetR G hid H0 H' v r → D.rt v H'
  | .ex x e' => ∀ c d σ' H', Real G hid H0 e' σ' H' → Gro hid env σ H e' σ' H' → ExR G (cut (Z hid e' σ') H') H' x c d → W c d σ' H'
def tDS (G : GC) (W : WX) (g : Env → So) : TS := fun D σ H => ∃ hid H0 env, Real G hid H0 env σ H ∧ PostS G W hid H0 env σ H D (g env)
structure DS (G : GC) (W : WX) (X : Cx) (st : Stmt) (g : Env → So) : Prop where
  ps : PS X st (tDS G W g)
structure DSs (G : GC) (W : WX) (X : Cx) (st : List Stmt) (g : Env → So) : Prop where
  ps : PSs X st (tDS G W g)
theorem weakS {X : Cx} {e : Stmt} {t u : TS} (h : PS X e t) (w : ∀ D σ H, u D σ H → t D σ H) : PS X e u := ⟨fun pins s σ H D I q => h.run pins s σ H D I (w D σ H q)⟩
theorem weakSs {X : Cx} {e : List Stmt} {t u : TS} (h : PSs X e t) (w : ∀ D σ H, u D σ H → t D σ H) : PSs X e u := ⟨fun pins s σ H D I q => h.run pins s σ H D I (w D σ H q)⟩

section
variable {G : GC} {W : WX} {X : Cx} {pos : Pos}
/-- what a statement makes of an expression's value -/
def ofM {α : Type} (m : M α) (env : Env) (A : List Nat) (k : α → So) : So := match m with | .bad => .bad | .ok a => k a | .ex x => .ex x (fzAll A env)
mutual
/-- no list within -/
def D.nol : D → Bool
  | .non => true | .bl _ => true | .int _ => true | .str _ => true | .tup ds => D.nolAll ds | .lst _ => false | .scr _ => false | .obj _ fs => D.nolFs fs
def D.nolAll : List D → Bool
  | [] => true
  | d :: ds => D.nol d && D.nolAll ds
def D.nolFs : List (Str × D) → Bool
  | [] => true
  | (_, d) :: ds => D.nol d && D.nolFs ds
end
def Rs.nol : Rs → Bool | .fz d => d.nol | .ow ds => D.nolAll ds
/-- data without lists do not lean on lists -/
def Nl (H H' : Hp) : Prop := ∀ a o, H a = some o → (∀ xs, o ≠ .lst xs) → H' a = some o
theorem nl_t {K : PySem.W.Frag} {H H' : Hp} {a : Addr} {xs : List V} (e : Nl H H') (h : SqT K H a xs) : SqT K H' a xs := by
  rcases h with (h | ⟨o, h⟩) | h
  · exact .inl (.inl (e _ _ h (by simp)))
  · exact .inl (.inr ⟨o, e _ _ h (by simp)⟩)
  · exact .inr h
mutual
theorem Rp.nl {H H' : Hp} (e : Nl H H') : ∀ {v : V} {d : D}, d.nol = true → Rp G H v d → Rp G H' v d
  | _, _, _, .non => .non
  | _, _, _, .bl b => .bl b
  | _, _, _, .int i => .int i
  | _, _, _, .str x => .str x
  | _, _, h, .lst _ _ => by cases h
  | _, _, h, .scr _ => by cases h
  | _, _, h, .tup t r => .tup (nl_t e t) (RpAll.nl e h r)
  | _, _, h, .obj c t r => .obj c (e _ _ t (by simp)) (RpFs.nl e h r)
theorem RpAll.nl {H H' : Hp} (e : Nl H H') : ∀ {vs : List V} {ds : List D}, D.nolAll ds = true → RpAll G H vs ds → RpAll G H' vs ds
  | _, _, _, .nil => .nil
  | _, _, h, .cons a r => by
    unfold D.nolAll at h
    rw [Bool.and_eq_true] at h
    exact .cons (Rp.nl e h.1 a) (RpAll.nl e h.2 r)
theorem RpFs.nl {H H' : Hp} (e : Nl H H') : ∀ {vs : List (Str × V)} {ds : List (Str × D)}, D.nolFs ds = true → RpFs G H vs ds → RpFs G H' vs ds
  | _, _, _, .nil => .nil
  | _, _, h, .cons a r => by
    unfold D.nolFs at h
    rw [Bool.and_eq_true] at h
    exact .cons (Rp.nl e h.1 a) (RpFs.nl e h.2 r)
end
def frzIf (r : Rs) (A : List Nat) (env : Env) : Env := if r.nol then env else fzAll A env
theorem nl_own {hid : Addr → Prop} {H0 H : Hp} {env : Env} {σ : L2.St} {X Y : Addr → Prop} (R : Real G hid H0 env σ H) (hX : ∀ a, X a → Y a ∨ Own env σ a) : Nl (cut Y H) (cut X H) := fun a o e n => by
  by_cases y : Y a
  · rw [cut_pos y] at e; cases e
  · rw [cut_neg y] at e
    rw [cut_neg]
    · exact e
    · intro x
      rcases hX a x with z | z
      · exact y z
      · obtain ⟨vs, q⟩ := R.owned z
        rw [q] at e
        cases e
        exact n vs rfl
theorem Res.frzIf {hid : Addr → Prop} {A : List Nat} {env : Env} {σ : L2.St} {H0 H H' : Hp} {v : V} {r : Rs} (R : Real G hid H0 env σ H') (h : Res G hid A env σ H H' v r) : Res G hid [] (frzIf r A env) σ H H' v r := by
  unfold DL.frzIf
  cases e : r.nol with
  | false => exact h
  | true =>
    show Res G hid [] env σ H H' v r
    cases r with
    | fz d => exact Rp.nl (nl_own R fun a z => z.imp .inl id) e h
    | ow ds =>
      obtain ⟨p, vs, a, b, c, d⟩ := h
      refine ⟨p, vs, a, b, c, RpAll.nl (nl_own R fun a z => ?_) e d⟩
      rcases z with z | z
      · exact z.imp (fun w => .inl (.inl w)) id
      · exact .inl (.inr z)
theorem Real.frzIf {hid : Addr → Prop} {H0 H : Hp} {env : Env} {σ : L2.St} (R : Real G hid H0 env σ H) (r : Rs) (A : List Nat) : Real G hid H0 (frzIf r A env) σ H ∧ Gro hid env σ H (DL.frzIf r A env) σ H := by
  unfold DL.frzIf
  split
  · exact ⟨R, Same.refl _⟩
  · exact ⟨R.frz A, cut_sub fun _ => z_fz⟩
theorem Gro.left {hid : Addr → Prop} {env env' : Env} {σ σ' : L2.St} {H H1 H' : Hp} (s : Same H H1) (g : Gro hid env σ H1 env' σ' H') : Gro hid env σ H env' σ' H' := (cut_ex s).trans g
/-- an expression runs, then the rest -/
theorem expr_run {A : List Nat} {f : Env → M Rs} {k : Env → Rs → So} {D : Ends} {σ : L2.St} {H : Hp} {T : V → Hp → Prop} (h : tDS G W (fun env => ofM (f env) env A (k env)) D σ H)
    (hT : ∀ hid H0 env r v H', Real G hid H0 env σ H → Same H H' → f env = .ok r → Res G hid A env σ H H' v r → PostS G W hid H0 env σ H D (k env r) → T v H') : tDE G W A f σ H T := by
  obtain ⟨hid, H0, env, R, h⟩ := h
  refine ⟨hid, H0, env, R, ?_⟩
  have h : PostS G W hid H0 env σ H D (ofM (f env) env A (k env)) := h
  cases e : f env with
  | bad => rw [e] at h; exact h
  | ok r =>
    rw [e] at h
    exact fun v H' s q => hT hid H0 env r v H' R s e q h
  | ex x =>
    rw [e] at h
    exact fun c d H' s q => h c d σ H' ((R.mono s).frz A) ((cut_ex s).trans (cut_sub fun _ => z_fz)) q
def sSet (i : Nat) (A : List Nat) (f : Env → M Rs) : Env → So := fun env => ofM (f env) env A fun r => .nx ((frzIf r A env).set i r.sl)
theorem set_run {hid : Addr → Prop} {H0 : Hp} {A : List Nat} {env : Env} {σ : L2.St} {H H' : Hp} {v : V} {r : Rs} {i : Nat} (R : Real G hid H0 env σ H) (s : Same H H') (h : Res G hid A env σ H H' v r) :
    Real G hid H0 ((frzIf r A env).set i r.sl) (σ.set i (some v)) H' ∧ Gro hid env σ H ((frzIf r A env).set i r.sl) (σ.set i (some v)) H' := by
  obtain ⟨R1, g1⟩ := R.frzIf r A
  have h1 := h.frzIf (R.mono s)
  cases r with
  | fz d =>
    obtain ⟨R2, g2⟩ := (R1.mono s).setFz (i := i) (v := v) (d := d) h1
    exact ⟨R2, g1.trans ((cut_ex s).trans g2)⟩
  | ow ds =>
    obtain ⟨p, vs, rfl, hp, hq, hr⟩ := h1
    obtain ⟨R2, g2⟩ := R1.setOw s (i := i) hp hq hr
    exact ⟨R2, g1.trans g2⟩
theorem ds_set {i : Nat} {x : Str} {e : Expr} {pos' : Pos} {A : List Nat} {f : Env → M Rs} (hN : X.N.Nodup) (hi : X.N[i]? = some x) (hx : Loc X.env.scope x) (he : DE G W X e A f) (hs : swapsWith e (some (.Name x pos')) pos.line X.env = pure false := by rfl)
    (hf : X.fn x = true ∨ X.env.scope.names.lookup x = some .local := by first | exact .inl rfl | exact .inr rfl | assumption) : DS G W X (.Assign [.Name x pos'] e pos) (sSet i A f) :=
  ⟨weakS (ps_set hN hi hx he.pe hs hf) fun D σ H h => expr_run (f := f) (k := fun env r => .nx ((frzIf r A env).set i r.sl)) h fun hid H0 env r v H' R s e q p => by
    obtain ⟨R2, g⟩ := set_run (i := i) R s q
    exact p _ _ R2 g⟩
def sRet (A : List Nat) (f : Env → M Rs) : Env → So := fun env => ofM (f env) env A fun r => .rt r
theorem ret_run {hid : Addr → Prop} {H0 : Hp} {A : List Nat} {env : Env} {σ : L2.St} {H H' : Hp} {v : V} {r : Rs} (R : Real G hid H0 env σ H) (s : Same H H') (h : Res G hid A env σ H H' v r) : RetR G hid H0 H' v r := by
  cases r with
  | fz d => exact ⟨R.base.trans s, Rp.mono (cut_sub fun a z => .inl z) h⟩
  | ow ds =>
    obtain ⟨p, vs, rfl, hp, hq, hr⟩ := h
    exact ⟨R.base.trans s, p, vs, rfl, R.base.free hp, hq, hr.mono (cut_sub fun a z => z.imp .inl id)⟩
theorem ds_ret {e : Expr} {A : List Nat} {f : Env → M Rs} (he : DE G W X e A f) : DS G W X (.Return (some e) pos) (sRet A f) :=
  ⟨weakS (ps_ret he.pe) fun D σ H h => expr_run (f := f) (k := fun env r => .rt r) h fun hid H0 env r v H' R s e q p => p v H' (ret_run R s q)⟩
/-- return x: a list of its own goes out as one -/
def sRetV (i : Nat) : Env → So := fun env => match env.getD i .un with | .un => .bad | .fz d => .rt (.fz d) | .ow ds => .rt (.ow ds)
theorem getD_some {env : Env} {i : Nat} {s : Sl} (h : env.getD i .un = s) (hs : s ≠ .un) : env[i]? = some s := by
  rw [List.getD_eq_getElem?_getD] at h
  cases e : env[i]? with
  | none => rw [e] at h; exact absurd h.symm hs
  | some x => rw [e] at h; rw [← h]; rfl
theorem ds_retV (i : Nat) {x : Str} {p' : Pos} (hN : X.N[i]? = some x := by rfl) (hv : Vis X.env.scope x := by first | exact Or.inl rfl | exact Or.inr (Or.inl rfl) | exact Or.inr (Or.inr rfl)) (hd : (x == ("__debug__" : Str)) = false := by decide)
    (hcd : (x == ("__classdict__" : Str)) = false := by decide) : DS G W X (.Return (some (.Name x p')) pos) (sRetV i) :=
  ⟨weakS (ps_ret (pe_var hN hv hd hcd)) fun D σ H h => by
    obtain ⟨hid, H0, env, R, h⟩ := h
    show ∃ v, _
    unfold sRetV at h
    cases e : env.getD i .un with
    | un => rw [e] at h; exact h.elim
    | fz d =>
      rw [e] at h
      obtain ⟨v, a, b⟩ := R.fz i d (getD_some e (by simp))
      exact ⟨v, a, h v H ⟨R.base, b.mono (cut_sub fun a z => .inl z)⟩⟩
    | ow ds =>
      rw [e] at h
      obtain ⟨p, vs, a, b, c⟩ := R.ow i ds (getD_some e (by simp))
      have o : Own env σ p := ⟨i, ds, getD_some e (by simp), a⟩
      refine ⟨.ref p, a, h _ H ⟨R.base, p, vs, rfl, (R.fresh p o).1, b, c.mono (cut_sub fun a z => ?_)⟩⟩
      rcases z with z | rfl
      · exact .inl z
      · exact .inr o⟩
def sRetN : Env → So := fun _ => .rt (.fz .non)
theorem ds_retN : DS G W X (.Return none pos) sRetN := ⟨weakS ps_retN fun D σ H h => by
  obtain ⟨hid, H0, env, R, h⟩ := h
  exact h .non H ⟨R.base, .non⟩⟩
def sNext : Env → So := .nx
theorem ds_pass : DS G W X (.Pass pos) sNext := ⟨weakS ps_pass fun D σ H ⟨hid, H0, env, R, h⟩ => h σ H R (Same.refl _)⟩
theorem ds_doc {x : Str} {j : Nat} {pos' : Pos} : DS G W X (.Expr (.Constant (.str x) j pos) pos') sNext := ⟨weakS ps_doc fun D σ H ⟨hid, H0, env, R, h⟩ => h σ H R (Same.refl _)⟩
theorem ds_break : DS G W X (.Break pos) .bk := ⟨weakS ps_break fun D σ H ⟨hid, H0, env, R, h⟩ => h σ H R (Same.refl _)⟩
theorem ds_continue : DS G W X (.Continue pos) .ct := ⟨weakS ps_continue fun D σ H ⟨hid, H0, env, R, h⟩ => h σ H R (Same.refl _)⟩
def sDrop (A : List Nat) (f : Env → M Rs) : Env → So := fun env => ofM (f env) env A fun _ => .nx env
theorem ds_expr {e : Expr} {A : List Nat} {f : Env → M Rs} (he : DE G W X e A f) (hs : swapsWith e none pos.line X.env = pure false := by rfl) : DS G W X (.Expr e pos) (sDrop A f) :=
  ⟨weakS (ps_expr he.pe hs) fun D σ H h => expr_run (f := f) (k := fun env r => .nx env) h fun hid H0 env r v H' R s e q p => p σ H' (R.mono s) (cut_ex s)⟩
/-! blocks -/
def So.andThen (s : So) (g : Env → So) : So := match s with | .nx e => g e | s => s
def sSeq (f g : Env → So) : Env → So := fun env => (f env).andThen g
theorem PostS.gro {hid : Addr → Prop} {H0 : Hp} {env e1 : Env} {σ σ1 : L2.St} {H H1 : Hp} {D : Ends} {s : So} (g : Gro hid env σ H e1 σ1 H1) (h : PostS G W hid H0 env σ H D s) : PostS G W hid H0 e1 σ1 H1 D s := by
  cases s with
  | bad => exact h
  | nx e' => exact fun σ' H' R q => h σ' H' R (g.trans q)
  | bk e' => exact fun σ' H' R q => h σ' H' R (g.trans q)
  | ct e' => exact fun σ' H' R q => h σ' H' R (g.trans q)
  | rt r => exact h
  | ex x e' => exact fun c d σ' H' R q => h c d σ' H' R (g.trans q)
theorem dss_nil : DSs G W X [] sNext := ⟨weakSs pss_nil fun D σ H ⟨hid, H0, env, R, h⟩ => h σ H R (Same.refl _)⟩
theorem dss_one {st : Stmt} {g : Env → So} (h : DS G W X st g) : DSs G W X [st] g := ⟨pss_one h.ps⟩
theorem dss_cons {st : Stmt} {rest : List Stmt} {f g : Env → So} (h1 : DS G W X st f) (h2 : DSs G W X rest g) : DSs G W X (st :: rest) (sSeq f g) :=
  ⟨weakSs (pss_cons h1.ps h2.ps) fun D σ H ⟨hid, H0, env, R, h⟩ => by
    refine ⟨hid, H0, env, R, ?_⟩
    unfold sSeq at h
    cases e : f env with
    | nx e' =>
      rw [e] at h
      exact fun σ' H' R' g' => ⟨hid, H0, e', R', PostS.gro g' h⟩
    | bad => rw [e] at h; exact h
    | bk e' => rw [e] at h; exact h
    | ct e' => rw [e] at h; exact h
    | rt e' => rw [e] at h; exact h
    | ex x e' => rw [e] at h; exact h⟩
/-! if -/
def sIf (A : List Nat) (c : Env → M Bool) (f g : Env → So) : Env → So := fun env => ofM (c env) env A fun b => if b then f env else g env
theorem test_run {A : List Nat} {c : Env → M Bool} {k : Env → Bool → So} {D : Ends} {σ : L2.St} {H : Hp} {T : Bool → Hp → Prop} (h : tDS G W (fun env => ofM (c env) env A (k env)) D σ H)
    (hT : ∀ hid H0 env b H', Real G hid H0 env σ H → Same H H' → c env = .ok b → PostS G W hid H0 env σ H D (k env b) → T b H') : tDT G W A c σ H T := by
  obtain ⟨hid, H0, env, R, h⟩ := h
  refine ⟨hid, H0, env, R, ?_⟩
  have h : PostS G W hid H0 env σ H D (ofM (c env) env A (k env)) := h
  cases e : c env with
  | bad => rw [e] at h; exact h
  | ok r =>
    rw [e] at h
    exact fun H' s => hT hid H0 env r H' R s e h
  | ex x =>
    rw [e] at h
    exact fun c d H' s q => h c d σ H' ((R.mono s).frz A) ((cut_ex s).trans (cut_sub fun _ => z_fz)) q
theorem ds_if {c : Expr} {a b : List Stmt} {A : List Nat} {f : Env → M Bool} {g k : Env → So} (hc : DT G W X c A f) (ha : DSs G W X a g) (hb : DSs G W X b k) : DS G W X (.If c a b pos) (sIf A f g k) :=
  ⟨weakS (ps_if hc.pt ha.ps hb.ps) fun D σ H h => test_run (c := f) (k := fun env b => if b then g env else k env) h fun hid H0 env b H' R s e p => by
    have p' := PostS.gro (cut_ex s) p
    cases b with
    | true =>
      show tDS G W g D σ H'
      exact ⟨hid, H0, env, R.mono s, p'⟩
    | false =>
      show tDS G W k D σ H'
      exact ⟨hid, H0, env, R.mono s, p'⟩⟩
end
end DL
end

section
set_option maxRecDepth 100000
set_option maxHeartbeats 4000000
namespace DL
open PySem PySem.Spec PyProof.Rows L2
section
variable {G : GC} {W : WX} {X : Cx} {pos : Pos}
theorem Res.rpIf {hid : Addr → Prop} {A : List Nat} {env : Env} {σ : L2.St} {H0 H H' : Hp} {v : V} {r : Rs} (R : Real G hid H0 env σ H) (s : Same H H') (h : Res G hid A env σ H H' v r) : Rp G (cut (Z hid (DL.frzIf r A env) σ) H') v r.d :=
  (Res.frzIf (R.mono s) h).rp (R.frzIf r A).1
/-! ### a list of its own changes -/
def ownAt (env : Env) (i : Nat) (k : List D → So) : So := match env.getD i .un with | .ow ds => k ds | _ => .bad
/-- x.append(e) -/
def sApp (i : Nat) (A : List Nat) (f : Env → M Rs) : Env → So := fun env => ownAt env i fun _ => ofM (f env) env A fun r => ownAt (DL.frzIf r A env) i fun ds => if ds.length < sizeLine then .nx ((DL.frzIf r A env).set i (.ow (ds ++ [r.d]))) else .bad
theorem ownAt_ok {hid : Addr → Prop} {H0 : Hp} {env e0 : Env} {σ : L2.St} {H : Hp} {D : Ends} {i : Nat} {k : List DL.D → So} (h : PostS G W hid H0 e0 σ H D (ownAt env i k)) : ∃ ds, env[i]? = some (.ow ds) ∧ PostS G W hid H0 e0 σ H D (k ds) := by
  unfold ownAt at h
  split at h
  · rename_i ds e
    exact ⟨ds, getD_some e (by simp), h⟩
  · exact h.elim
theorem ds_app (i : Nat) {x : Str} {e : Expr} {p' a' p2 : Pos} {A : List Nat} {f : Env → M Rs} (he : DE G W X e A f) (hN : X.N[i]? = some x := by rfl) (hv : Vis X.env.scope x := by first | exact Or.inl rfl | exact Or.inr (Or.inl rfl) | exact Or.inr (Or.inr rfl))
    (hd : (x == ("__debug__" : Str)) = false := by decide) (hcd : (x == ("__classdict__" : Str)) = false := by decide)
    (hs : swapsWith (.Call (.Attribute (.Name x p') "append" a') [e] [] p2) none pos.line X.env = pure false := by rfl)
    (hst : starEach [e] X.env = (false, eval e X.env) :: starEach [] X.env := by rfl)
    (hb : attributeBase (.Name x p') "append" X.env (eval (.Name x p') X.env) = eval (.Name x p') X.env := by rfl)
    (hpe : PE X (.Name x p') (tVar i) → PA X [e] (tCons (tDE G W A f) tNil) → PE X (.Call (.Attribute (.Name x p') "append" a') [e] [] p2) (tBM X.K "list" rAppend (tVar i) (tCons (tDE G W A f) tNil)) := by
      exact fun h1 h2 => pe_bm PySem.F.plainAttrs_list PySem.F.slot_list_append PySem.F.type_list_append mt_append h1 h2) :
    DS G W X (.Expr (.Call (.Attribute (.Name x p') "append" a') [e] [] p2) pos) (sApp i A f) :=
  ⟨weakS (ps_expr (hpe (pe_var hN hv hd hcd) (pa_cons he.pe pa_nil hst)) hs) fun D σ H h => by
    obtain ⟨hid, H0, env, R, h⟩ := h
    obtain ⟨ds0, e0, h⟩ := ownAt_ok h
    obtain ⟨p, vs0, ep, b0, _⟩ := R.ow i ds0 e0
    refine ⟨.ref p, ep, .inl ⟨rfl, vs0, .inl (.inl b0)⟩, ?_⟩
    refine ⟨hid, H0, env, R, ?_⟩
    cases e : f env with
    | bad => rw [e] at h; exact h
    | ex x =>
      rw [e] at h
      exact fun c d H' s q => h c d σ H' ((R.mono s).frz A) ((cut_ex s).trans (cut_sub fun _ => z_fz)) q
    | ok r =>
      rw [e] at h
      intro v H' s q
      obtain ⟨ds, ei, po⟩ := ownAt_ok h
      obtain ⟨R1, g1⟩ := R.frzIf r A
      obtain ⟨p', vs, a, b, c⟩ := (R1.mono s).ow i ds ei
      rw [ep] at a
      cases a
      have hr := Res.rpIf R s q
      by_cases hl : ds.length < sizeLine
      · rw [if_pos hl] at po
        obtain ⟨R2, g2⟩ := (R1.mono s).chg ei ep (c.app (.cons hr .nil))
        exact ⟨p, vs, v, rfl, rfl, b, by rw [c.len]; exact hl, po _ _ R2 ((g1.trans (cut_ex s)).trans g2)⟩
      · rw [if_neg hl] at po
        exact po.elim⟩
/-- x[k] = e -/
def sSetIx (i : Nat) (A B : List Nat) (f g : Env → M Rs) : Env → So := fun env => ownAt env i fun _ => ofM (f env) env A fun r => ofM (g env) env B fun k => ownAt (DL.frzIf r A env) i fun ds =>
  match k.d with | .int n => (match ixN ds.length n with | some j => .nx ((DL.frzIf r A env).set i (.ow (ds.set j r.d))) | none => .bad) | _ => .bad
theorem ds_setIx (i : Nat) {x : Str} {e k : Expr} {p' tp : Pos} {A B : List Nat} {f g : Env → M Rs} (he : DE G W X e A f) (hk : DE G W X k B g) (hN : X.N[i]? = some x := by rfl) (hv : Vis X.env.scope x := by first | exact Or.inl rfl | exact Or.inr (Or.inl rfl) | exact Or.inr (Or.inr rfl))
    (hd : (x == ("__debug__" : Str)) = false := by decide) (hcd : (x == ("__classdict__" : Str)) = false := by decide)
    (hpg : PE X (.Name x p') (tVar i) → PE X k (tDE G W B g) → PG X (.Subscript (.Name x p') k tp) (gSub (tVar i) (tDE G W B g) rSetL) := by exact fun h1 h2 => pg_sub h1 h2 set_list)
    (hps : PE X e (tDE G W A f) → PG X (.Subscript (.Name x p') k tp) (gSub (tVar i) (tDE G W B g) rSetL) → PS X (.Assign [.Subscript (.Name x p') k tp] e pos) (tAsg (tDE G W A f) (gSub (tVar i) (tDE G W B g) rSetL)) := by exact fun h1 h2 => ps_asg h1 h2) :
    DS G W X (.Assign [.Subscript (.Name x p') k tp] e pos) (sSetIx i A B f g) :=
  ⟨weakS (hps he.pe (hpg (pe_var hN hv hd hcd) hk.pe)) fun D σ H h => by
    obtain ⟨hid, H0, env, R, h⟩ := h
    obtain ⟨ds0, e0, h⟩ := ownAt_ok h
    obtain ⟨p, vs0, ep, b0, _⟩ := R.ow i ds0 e0
    refine ⟨hid, H0, env, R, ?_⟩
    cases e1 : f env with
    | bad => rw [e1] at h; exact h
    | ex x =>
      rw [e1] at h
      exact fun c d H' s q => h c d σ H' ((R.mono s).frz A) ((cut_ex s).trans (cut_sub fun _ => z_fz)) q
    | ok r =>
      rw [e1] at h
      intro v H' s q
      have po : PostS G W hid H0 env σ H D (ofM (g env) env B fun k => ownAt (DL.frzIf r A env) i fun ds => match k.d with | .int n => (match ixN ds.length n with | some j => .nx ((DL.frzIf r A env).set i (.ow (ds.set j r.d))) | none => .bad) | _ => .bad) := h
      obtain ⟨R1, g1⟩ := R.frzIf r A
      have hr := Res.rpIf R s q
      show ∃ o, σ[i]? = some (some o) ∧ tDE G W B g σ H' fun y H2 => rSetL o y v H2 fun H3 => D.nx σ H3
      refine ⟨.ref p, ep, hid, H0, env, R.mono s, ?_⟩
      cases e2 : g env with
      | bad => rw [e2] at po; exact po.elim
      | ex x =>
        rw [e2] at po
        exact fun c d H'' s' q' => po c d σ H'' ((R.mono (s.trans s')).frz B) ((cut_ex (s.trans s')).trans (cut_sub fun _ => z_fz)) q'
      | ok kk =>
        rw [e2] at po
        obtain ⟨ds, ei, po⟩ := ownAt_ok po
        intro y H2 s2 q2
        cases e3 : kk.d with
        | int n =>
          rw [e3] at po
          cases e4 : ixN ds.length n with
          | none => simp only [e4] at po; exact po.elim
          | some j =>
            simp only [e4] at po
            have hy := q2.rp (R.mono s)
            rw [e3] at hy
            have R1' := R1.mono (s.trans s2)
            obtain ⟨p', vs', ep', b', c'⟩ := R1'.ow i ds ei
            rw [ep] at ep'
            cases ep'
            obtain ⟨R2, g2⟩ := R1'.chg ei ep (c'.set (hr.mono (cut_ex s2)) j)
            exact ⟨p, vs', n, j, rfl, rp_int hy, b', by rw [c'.len]; exact e4, po _ _ R2 ((g1.trans (cut_ex (s.trans s2))).trans g2)⟩
        | _ => rw [e3] at po; exact po.elim⟩
end
end DL
end

section
set_option maxRecDepth 100000
set_option maxHeartbeats 4000000
namespace DL
open PySem PySem.Spec PyProof.Rows L2
section
variable {G : GC} {W : WX} {X : Cx} {pos : Pos}
/-! ### targets -/
/-- outside T the slots stay -/
def Agr (T : List Nat) (σ σ' : L2.St) : Prop := σ'.length = σ.length ∧ ∀ i, i ∉ T → σ'[i]? = σ[i]?
theorem Agr.refl (T : List Nat) (σ : L2.St) : Agr T σ σ := ⟨rfl, fun _ _ => rfl⟩
theorem Agr.app {T U : List Nat} {σ σ1 σ2 : L2.St} (a : Agr T σ σ1) (b : Agr U σ1 σ2) : Agr (T ++ U) σ σ2 :=
  ⟨b.1.trans a.1, fun i h => (b.2 i fun z => h (List.mem_append_right _ z)).trans (a.2 i fun z => h (List.mem_append_left _ z))⟩
def tDG (G : GC) (T : List Nat) (t : D → Env → Option Env) : TG := fun v σ H Q => ∃ hid H0 env d e', Real G hid H0 env σ H ∧ Rp G (cut (Z hid env σ) H) v d ∧ t d env = some e' ∧ ∀ σ', Real G hid H0 e' σ' H → Gro hid env σ H e' σ' H → Agr T σ σ' → Q σ' H
def tDGs (G : GC) (T : List Nat) (t : List D → Env → Option Env) : TGs := fun vs σ H Q => ∃ hid H0 env ds e', Real G hid H0 env σ H ∧ RpAll G (cut (Z hid env σ) H) vs ds ∧ t ds env = some e' ∧ ∀ σ', Real G hid H0 e' σ' H → Gro hid env σ H e' σ' H → Agr T σ σ' → Q σ' H
structure DG (G : GC) (X : Cx) (tg : Expr) (T : List Nat) (t : D → Env → Option Env) : Prop where
  pg : PG X tg (tDG G T t)
structure DGs (G : GC) (X : Cx) (tg : List Expr) (T : List Nat) (t : List D → Env → Option Env) : Prop where
  pgs : PGs X tg (tDGs G T t)
def nName (i : Nat) : D → Env → Option Env := fun d env => some (env.set i (.fz d))
def nNil : List D → Env → Option Env := fun ds env => match ds with | [] => some env | _ => none
def nCons (t : D → Env → Option Env) (u : List D → Env → Option Env) : List D → Env → Option Env := fun ds env => match ds with | [] => none | d :: ds => (t d env).bind (u ds)
def nTup (n : Nat) (u : List D → Env → Option Env) : D → Env → Option Env := fun d env => match d with | .tup ds => if ds.length = n then u ds env else none | _ => none
theorem dg_name {i : Nat} {x : Str} (hN : X.N.Nodup) (hi : X.N[i]? = some x) (hx : Loc X.env.scope x) (hf : X.fn x = true ∨ X.env.scope.names.lookup x = some .local := by first | exact .inl rfl | exact .inr rfl | assumption) : DG G X (.Name x pos) [i] (nName i) :=
  ⟨⟨fun pins s σ H v u Q I r ⟨hid, H0, env, d, e', R, h1, h2, h3⟩ => (pg_name hN hi hx hf).run pins s σ H v u Q I r (by
    cases h2
    obtain ⟨R2, g⟩ := R.setFz (i := i) h1
    refine h3 _ R2 g ⟨by simp, fun j hj => ?_⟩
    rw [List.getElem?_set_ne (by intro e; subst e; simp at hj)])⟩⟩
theorem dgs_nil : DGs G X [] [] nNil := ⟨⟨fun pins s σ H vs us Q I r ⟨hid, H0, env, ds, e', R, h1, h2, h3⟩ => pgs_nil.run pins s σ H vs us Q I r (by
  unfold nNil at h2
  split at h2
  · cases h2
    cases h1
    exact ⟨rfl, h3 σ R (Same.refl _) (Agr.refl _ _)⟩
  · cases h2)⟩⟩
theorem dgs_cons {e : Expr} {es : List Expr} {T U : List Nat} {t : D → Env → Option Env} {u : List D → Env → Option Env} (h1 : DG G X e T t) (h2 : DGs G X es U u)
    (hs : PG X e (tDG G T t) → PGs X es (tDGs G U u) → PGs X (e :: es) (gCons (tDG G T t) (tDGs G U u)) := by exact fun a b => pgs_cons a b) : DGs G X (e :: es) (T ++ U) (nCons t u) :=
  ⟨⟨fun pins s σ H vs us Q I r ⟨hid, H0, env, ds, e', R, q1, q2, q3⟩ => (hs h1.pg h2.pgs).run pins s σ H vs us Q I r (by
    cases q1 with
    | nil => cases q2
    | @cons v vs d ds a b =>
      unfold nCons at q2
      cases e1 : t d env with
      | none => rw [show (match d :: ds with | [] => none | d :: ds => (t d env).bind (u ds)) = (t d env).bind (u ds) from rfl, e1] at q2; cases q2
      | some e1' =>
        have q2 : (t d env).bind (u ds) = some e' := q2
        rw [e1] at q2
        refine ⟨v, vs, rfl, hid, H0, env, d, e1', R, a, e1, fun σ' R' g ag => ?_⟩
        exact ⟨hid, H0, e1', ds, e', R', b.mono g, q2, fun σ'' R'' g' ag' => q3 σ'' R'' (g.trans g') (ag.app ag')⟩)⟩⟩
theorem dg_tup {es : List Expr} {k n : Nat} {T : List Nat} {u : List D → Env → Option Env} (hc : X.calm = true) (hk : G.K = X.K) (h : DGs G X es T u) (hn : (assignEach es X.env).length = n := by rfl) (hst : (assignEach es X.env).findIdx? (·.1) = none := by rfl) : DG G X (.Tuple es k pos) T (nTup n u) :=
  ⟨⟨fun pins s σ H v w Q I r ⟨hid, H0, env, d, e', R, q1, q2, q3⟩ => (pg_tup hc h.pgs hn hst).run pins s σ H v w Q I r (by
    unfold nTup at q2
    split at q2
    · split at q2
      · rename_i ds hl
        obtain ⟨a, xs, rfl, ha, ra⟩ := rp_tup q1
        refine ⟨a, xs, rfl, hk ▸ same_t cut_le ha, by rw [ra.len]; exact hl, hid, H0, env, ds, e', R, ra, q2, q3⟩
      · cases q2
    · cases q2)⟩⟩
/-- target = e -/
def ofO (o : Option Env) : So := match o with | none => .bad | some e => .nx e
def sAsg (A : List Nat) (t : D → Env → Option Env) (f : Env → M Rs) : Env → So := fun env => ofM (f env) env A fun r => ofO (t r.d (DL.frzIf r A env))
theorem ds_asg {tg e : Expr} {T : List Nat} {t : D → Env → Option Env} {A : List Nat} {f : Env → M Rs} (he : DE G W X e A f) (hg : DG G X tg T t) (hps : PE X e (tDE G W A f) → PG X tg (tDG G T t) → PS X (.Assign [tg] e pos) (tAsg (tDE G W A f) (tDG G T t)) := by exact fun a b => ps_asg a b) :
    DS G W X (.Assign [tg] e pos) (sAsg A t f) :=
  ⟨weakS (hps he.pe hg.pg) fun D σ H h => expr_run (f := f) (k := fun env r => ofO (t r.d (DL.frzIf r A env))) h fun hid H0 env r v H' R s e q po => by
    obtain ⟨R1, g1⟩ := R.frzIf r A
    have hr := Res.rpIf R s q
    cases e1 : t r.d (DL.frzIf r A env) with
    | none => rw [e1] at po; exact po.elim
    | some e' =>
      rw [e1] at po
      exact ⟨hid, H0, _, r.d, e', R1.mono s, hr, e1, fun σ' R' g _ => po σ' H' R' ((g1.trans (cut_ex s)).trans g)⟩⟩
/-- a, b = e1, e2 -/
def par2 (i j : Nat) (env : Env) : List D → So | [a, b] => .nx ((env.set i (.fz a)).set j (.fz b)) | _ => .bad
def sPar (i j : Nat) (A : List Nat) (f : Env → M (List D)) : Env → So := fun env => ofM (f env) env A fun ds => par2 i j (fzAll A env) ds
theorem ds_par {i j : Nat} {x y : Str} {a b : Expr} {A : List Nat} {f : Env → M (List D)} {px py pt : Pos} {kt k2 : Nat} {pt2 : Pos} (ha : DA G W X [a, b] A f)
    (hps : PA X [a, b] (tDA G W A f) → PS X (.Assign [.Tuple [.Name x px, .Name y py] kt pt] (.Tuple [a, b] k2 pt2) pos) (tPar i j (tDA G W A f))) : DS G W X (.Assign [.Tuple [.Name x px, .Name y py] kt pt] (.Tuple [a, b] k2 pt2) pos) (sPar i j A f) :=
  ⟨weakS (hps ha.pa) fun D σ H h => by
    obtain ⟨hid, H0, env, R, h⟩ := h
    refine ⟨hid, H0, env, R, ?_⟩
    unfold sPar at h
    cases e : f env with
    | bad => rw [e] at h; exact h
    | ex x =>
      rw [e] at h
      exact fun c d H' s q => h c d σ H' ((R.mono s).frz A) ((cut_ex s).trans (cut_sub fun _ => z_fz)) q
    | ok ds =>
      rw [e] at h
      intro vs H' s q
      have h : PostS G W hid H0 env σ H D (par2 i j (fzAll A env) ds) := h
      match ds, q, h with
      | [d1, d2], q, h =>
        obtain ⟨v, w, rfl, q1, q2⟩ := rp2 q
        obtain ⟨R1, g1⟩ := ((R.mono s).frz A).setFz (i := i) q1
        obtain ⟨R2, g2⟩ := R1.setFz (i := j) (q2.mono g1)
        exact ⟨v, w, rfl, h _ _ R2 ((((cut_ex s).trans (cut_sub fun _ => z_fz)).trans g1).trans g2)⟩
      | [], _, h => exact h.elim
      | [_], _, h => exact h.elim
      | _ :: _ :: _ :: _, _, h => exact h.elim⟩
/-- x += e, ints -/
def sAug (i : Nat) (op : Int → Int → Int) (A : List Nat) (f : Env → M Rs) : Env → So := fun env => match env.getD i .un with
  | .fz (.int a) => ofM (f env) env A fun r => match r.d with | .int b => .nx (env.set i (.fz (.int (op a b)))) | _ => .bad
  | _ => .bad
theorem ds_aug {i : Nat} {x : Str} {e : Expr} {op : Operator} {g : Int → Int → Int} {pos' : Pos} {A : List Nat} {f : Env → M Rs} (hN : X.N.Nodup) (hi : X.N[i]? = some x) (hx : Loc X.env.scope x) (he : DE G W X e A f) (ho : PIp X op (ipI g))
    (hf : X.fn x = true ∨ X.env.scope.names.lookup x = some .local := by first | exact .inl rfl | exact .inr rfl | assumption) : DS G W X (.AugAssign (.Name x pos') op e pos) (sAug i g A f) :=
  ⟨weakS (ps_aug hN hi hx he.pe ho hf) fun D σ H h => by
    obtain ⟨hid, H0, env, R, h⟩ := h
    unfold sAug at h
    split at h
    · rename_i a e0
      obtain ⟨v, ea, eb⟩ := R.fz i _ (getD_some e0 (by simp))
      refine ⟨v, ea, hid, H0, env, R, ?_⟩
      cases e1 : f env with
      | bad => rw [e1] at h; exact h
      | ex x =>
        rw [e1] at h
        exact fun c d H' s q => h c d σ H' ((R.mono s).frz A) ((cut_ex s).trans (cut_sub fun _ => z_fz)) q
      | ok r =>
        rw [e1] at h
        have h : PostS G W hid H0 env σ H D (match r.d with | .int b => .nx (env.set i (.fz (.int (g a b)))) | _ => .bad) := h
        intro w H' s q
        have hw := q.rp R
        split at h
        · rename_i b e2
          rw [e2] at hw
          obtain ⟨R2, g2⟩ := (R.mono s).setFz (i := i) (v := .int (g a b)) (d := .int (g a b)) (.int _)
          exact ⟨a, b, rp_int eb, rp_int hw, h _ _ R2 ((cut_ex s).trans g2)⟩
        · exact h.elim
    · exact h.elim⟩

/-! ### what a for walks -/
structure WalkD (G : GC) (S : Hp) (J : It) (ds : List D) : Prop where
  goes : ∀ i H, i < ds.length → Same S H → J.go i H
  stops : ∀ H, Same S H → J.stop ds.length H
  yields : ∀ i H x H', i < ds.length → Same S H → J.yld i H x H' → ∃ d, ds[i]? = some d ∧ ∀ S1, Same S S1 → Same S1 H → NewR G S1 H x H' (.fz d)
def tDI (G : GC) (W : WX) (A : List Nat) (f : Env → M (List D)) : TI := fun σ H R => ∃ hid H0 env, Real G hid H0 env σ H ∧ match f env with
  | .bad => False
  | .ok ds => ∀ J H', Same H H' → WalkD G (See hid A env σ H') J ds → R J H'
  | .ex x => ∀ c d H', Same H H' → ExR G (See hid A env σ H') H' x c d → W c d σ H'
structure DI (G : GC) (W : WX) (X : Cx) (tg iter : Expr) (A : List Nat) (f : Env → M (List D)) : Prop where
  pi : PI X tg iter (tDI G W A f)
theorem weakI {X : Cx} {tg e : Expr} {t u : TI} (h : PI X tg e t) (w : ∀ σ H R, u σ H R → t σ H R) : PI X tg e u := ⟨fun pins s σ H R I q => h.run pins s σ H R I (w σ H R q)⟩
/-- over an expression's value -/
def iterD : D → M (List D) | .lst ds => .ok ds | _ => .bad
def iterT : D → M (List D) | .tup ds => .ok ds | _ => .bad
def iE (g : D → M (List D)) (f : Env → M Rs) : Env → M (List D) := fun env => do let r ← f env; pureM (g r.d)
theorem walkD_of {J : It} {S : Hp} {ds : List D} {xs : List V} {n : Nat} {Gd : Hp → Prop} (w : Walk J n Gd (YAt xs)) (hn : n = ds.length) (hG : ∀ H, Same S H → Gd H) (r : RpAll G S xs ds) : WalkD G S J ds :=
  ⟨fun i H hi s => w.goes i H (by omega) (hG H s), fun H s => hn ▸ w.stops H (hG H s), fun i H x H' hi s y => by
    obtain ⟨rfl, e⟩ := w.yields i H x H' (by omega) (hG H s) y
    obtain ⟨d, e1, rd⟩ := r.getV e
    exact ⟨d, e1, fun S1 s1 s2 => .val s2 (rd.mono s1)⟩⟩
theorem iE_run {A : List Nat} {f : Env → M Rs} {g : D → M (List D)} {σ : L2.St} {H : Hp} {R : It → Hp → Prop} {T : V → Hp → Prop} (h : tDI G W A (iE g f) σ H R)
    (hT : ∀ hid H0 env r v H' ds, Real G hid H0 env σ H → Same H H' → Rp G (See hid A env σ H') v (Rs.d r) → g r.d = .ok ds → (∀ J H'', Same H' H'' → WalkD G (See hid A env σ H'') J ds → R J H'') → T v H') : tDE G W A f σ H T := by
  obtain ⟨hid, H0, env, Rl, h⟩ := h
  refine ⟨hid, H0, env, Rl, ?_⟩
  unfold iE at h
  cases e : f env with
  | bad => rw [e] at h; exact h
  | ex x => rw [e] at h; exact h
  | ok r =>
    rw [e] at h
    intro v H' s q
    cases e2 : pureM (g r.d) with
    | bad =>
      have h : match pureM (g r.d) with | .bad => False | .ok ds => ∀ J H', Same H H' → WalkD G (See hid A env σ H') J ds → R J H' | .ex x => ∀ c d H', Same H H' → ExR G (See hid A env σ H') H' x c d → W c d σ H' := h
      rw [e2] at h
      exact h.elim
    | ex z => exact absurd e2 pureM_ex
    | ok ds =>
      have h : match pureM (g r.d) with | .bad => False | .ok ds => ∀ J H', Same H H' → WalkD G (See hid A env σ H') J ds → R J H' | .ex x => ∀ c d H', Same H H' → ExR G (See hid A env σ H') H' x c d → W c d σ H' := h
      rw [e2] at h
      exact hT hid H0 env r v H' ds Rl s (q.rp Rl) (pureM_ok e2) fun J H'' s' w => h J H'' (s.trans s') w
theorem di_list {tg e : Expr} {A : List Nat} {f : Env → M Rs} (he : DE G W X e A f) : DI G W X tg e A (iE iterD f) := ⟨weakI (pi_list he.pe) fun σ H R h => iE_run h fun hid H0 env r v H' ds Rl s q e k => by
  unfold iterD at e
  split at e
  · rename_i xs e2
    cases e
    rw [e2] at q
    obtain ⟨a, vs, rfl, ha, ra⟩ := rp_lst q
    have hk := he.k
    exact ⟨a, rfl, ⟨vs, .inl (.inl (cut_le _ _ ha))⟩, k _ H' (Same.refl _) (walkD_of (walk_list (xs := vs)) ra.len (fun H2 s2 => .inl (.inl (s2 _ _ ha))) ra)⟩
  · cases e⟩
theorem di_tup {tg e : Expr} {A : List Nat} {f : Env → M Rs} (he : DE G W X e A f) : DI G W X tg e A (iE iterT f) := ⟨weakI (pi_tup he.pe) fun σ H R h => iE_run h fun hid H0 env r v H' ds Rl s q e k => by
  unfold iterT at e
  split at e
  · rename_i xs e2
    cases e
    rw [e2] at q
    obtain ⟨a, vs, rfl, ha, ra⟩ := rp_tup q
    have hk := he.k
    exact ⟨a, rfl, ⟨vs, hk ▸ same_t cut_le ha⟩, k _ H' (Same.refl _) (walkD_of (walk_tup (xs := vs)) ra.len (fun H2 s2 => hk ▸ same_t s2 ha) ra)⟩
  · cases e⟩
def upTo (lo : Int) (n : Nat) : List D := (List.range n).map fun (i : Nat) => D.int (lo + (i : Int))
def rngOk (i : Int) : Bool := decide (-(2 ^ 62) ≤ i) && decide (i < 2 ^ 62)
def oRng1 : List D → M (List D) | [.int j] => if rngOk j then .ok (upTo 0 j.toNat) else .bad | _ => .bad
def oRng2 : List D → M (List D) | [.int i, .int j] => if rngOk i && rngOk j then .ok (upTo i (j - i).toNat) else .bad | _ => .bad
def iA (g : List D → M (List D)) (f : Env → M (List D)) : Env → M (List D) := fun env => do let ds ← f env; pureM (g ds)
theorem walkD_range {S : Hp} {lo : Int} {n : Nat} : WalkD G S (Itr lo n) (upTo lo n) := by
  have hl : (upTo lo n).length = n := by simp [upTo]
  refine ⟨fun i H hi s => by rw [hl] at hi; exact hi, fun H s => by rw [hl]; exact Nat.le_refl _, fun i H x H' hi s y => ?_⟩
  obtain ⟨rfl, rfl⟩ := y
  rw [hl] at hi
  exact ⟨.int (lo + i), by simp [upTo, hi], fun S1 s1 s2 => .val s2 (.int _)⟩
theorem iA_run {A : List Nat} {f : Env → M (List D)} {g : List D → M (List D)} {σ : L2.St} {H : Hp} {R : It → Hp → Prop} {T : List V → Hp → Prop} (h : tDI G W A (iA g f) σ H R)
    (hT : ∀ hid H0 env as vs H' ds, Real G hid H0 env σ H → Same H H' → RpAll G (See hid A env σ H') vs as → g as = .ok ds → (∀ J H'', Same H' H'' → WalkD G (See hid A env σ H'') J ds → R J H'') → T vs H') : tDA G W A f σ H T := by
  obtain ⟨hid, H0, env, Rl, h⟩ := h
  refine ⟨hid, H0, env, Rl, ?_⟩
  unfold iA at h
  cases e : f env with
  | bad => rw [e] at h; exact h
  | ex x => rw [e] at h; exact h
  | ok as =>
    rw [e] at h
    intro vs H' s q
    have h : match pureM (g as) with | .bad => False | .ok ds => ∀ J H', Same H H' → WalkD G (See hid A env σ H') J ds → R J H' | .ex x => ∀ c d H', Same H H' → ExR G (See hid A env σ H') H' x c d → W c d σ H' := h
    cases e2 : pureM (g as) with
    | bad =>
      rw [e2] at h
      exact h.elim
    | ex z => exact absurd e2 pureM_ex
    | ok ds =>
      rw [e2] at h
      exact hT hid H0 env as vs H' ds Rl s q (pureM_ok e2) fun J H'' s' w => h J H'' (s.trans s') w
theorem rngOk_ok {i : Int} (h : rngOk i = true) : -(2 ^ 62) ≤ i ∧ i < 2 ^ 62 := by
  unfold rngOk at h
  rw [Bool.and_eq_true, decide_eq_true_iff, decide_eq_true_iff] at h
  exact h
theorem di_range1 {tg a : Expr} {A : List Nat} {f : Env → M (List D)} {p : Pos} (hg : Gl X "range") (hm : X.mg "range" = none) (ha : DA G W X [a] A f) (hs : starEach [a] X.env = [(false, eval a X.env)] := by rfl) : DI G W X tg (.Call (.Name "range" p) [a] [] pos) A (iA oRng1 f) :=
  ⟨weakI (pi_range1 hg hm ha.pa hs) fun σ H R h => iA_run h fun hid H0 env as vs H' ds Rl s q e k => by
    unfold oRng1 at e
    split at e
    · split at e
      · rename_i j hj
        cases e
        obtain ⟨v, rfl, r⟩ := rp1 q
        rw [rp_int r]
        have := rngOk_ok hj
        exact ⟨j, rfl, this.1, this.2, k _ H' (Same.refl _) walkD_range⟩
      · cases e
    · cases e⟩
theorem di_range2 {tg a b : Expr} {A : List Nat} {f : Env → M (List D)} {p : Pos} (hg : Gl X "range") (hm : X.mg "range" = none) (ha : DA G W X [a, b] A f) (hs : starEach [a, b] X.env = [(false, eval a X.env), (false, eval b X.env)] := by rfl) (hs2 : starEach [b] X.env = [(false, eval b X.env)] := by rfl) :
    DI G W X tg (.Call (.Name "range" p) [a, b] [] pos) A (iA oRng2 f) :=
  ⟨weakI (pi_range2 hg hm ha.pa hs hs2) fun σ H R h => iA_run h fun hid H0 env as vs H' ds Rl s q e k => by
    unfold oRng2 at e
    split at e
    · split at e
      · rename_i i j hj
        cases e
        rw [Bool.and_eq_true] at hj
        obtain ⟨v, w, rfl, r, r2⟩ := rp2 q
        rw [rp_int r, rp_int r2]
        have h1 := rngOk_ok hj.1
        have h2 := rngOk_ok hj.2
        exact ⟨i, j, rfl, ⟨h1.1, h1.2, h2.1, h2.2⟩, k _ H' (Same.refl _) walkD_range⟩
      · cases e
    · cases e⟩

/-! ### for -/
def forL (t : D → Env → Option Env) (body : Env → So) : List D → Env → So
  | [], env => .nx env
  | d :: ds, env => match t d env with
    | none => .bad
    | some e1 => match body e1 with
      | .nx e2 => forL t body ds e2
      | .ct e2 => forL t body ds e2
      | .bk e2 => .nx e2
      | s => s
def sFor (A : List Nat) (it : Env → M (List D)) (t : D → Env → Option Env) (body : Env → So) : Env → So := fun env => ofM (it env) env A fun ds => forL t body ds (fzAll A env)
theorem ds_for {tg iter : Expr} {body : List Stmt} {T A : List Nat} {it : Env → M (List D)} {t : D → Env → Option Env} {g : Env → So} (hp : PassesOwn (model X.prog X.w) X.A X.env X.xe) (hc : X.calm = true) (hi : DI G W X tg iter A it) (hg : DG G X tg T t) (hb : DSs G W X body g) (hs : ∀ x, foldedSetIterable iter X.env x = pure x := by intro _; rfl) :
    DS G W X (.For tg iter body [] pos) (sFor A it t g) :=
  ⟨weakS (ps_for hp hc hi.pi hg.pg hb.ps (hs := hs)) fun D σ H h => by
    obtain ⟨hid, H0, env, R, h⟩ := h
    refine ⟨hid, H0, env, R, ?_⟩
    have h : PostS G W hid H0 env σ H D (ofM (it env) env A fun ds => forL t g ds (fzAll A env)) := h
    cases e : it env with
    | bad => rw [e] at h; exact h
    | ex x =>
      rw [e] at h
      exact fun c d H' s q => h c d σ H' ((R.mono s).frz A) ((cut_ex s).trans (cut_sub fun _ => z_fz)) q
    | ok ds =>
      rw [e] at h
      intro J H1 s1 w
      have h : PostS G W hid H0 env σ H D (forL t g ds (fzAll A env)) := h
      have R1 := (R.mono s1).frz A
      have g1 : Gro hid env σ H (fzAll A env) σ H1 := (cut_ex s1).trans (cut_sub fun _ => z_fz)
      refine ⟨fun i m σ' H' => m = ds.length - i ∧ i ≤ ds.length ∧ ∃ e', Real G hid H0 e' σ' H' ∧ Same (See hid A env σ H1) (cut (Z hid e' σ') H') ∧ Gro hid env σ H e' σ' H' ∧ PostS G W hid H0 env σ H D (forL t g (ds.drop i) e'),
        ⟨ds.length, by simp, Nat.zero_le _, _, R1, Same.refl _, g1, h⟩, ?_⟩
      rintro i m σ' H' ⟨rfl, hi', e', R', sS, gr, po⟩
      have sH : Same (See hid A env σ H1) H' := sS.trans cut_le
      by_cases hlt : i < ds.length
      · refine .inr ⟨w.goes i H' hlt sH, fun σ2 H2 => ∃ e2, Real G hid H0 e2 σ2 H2 ∧ Same (See hid A env σ H1) (cut (Z hid e2 σ2) H2) ∧ Gro hid env σ H e2 σ2 H2 ∧ PostS G W hid H0 env σ H D (forL t g (ds.drop (i + 1)) e2),
          fun σ2 H2 ⟨e2, q1, q2, q3, q4⟩ => ⟨ds.length - (i + 1), by omega, rfl, hlt, e2, q1, q2, q3, q4⟩, fun x H2 y => ?_⟩
        obtain ⟨d, ed, nw⟩ := w.yields i H' x H2 hlt sH y
        have nr := nw _ sS cut_le
        have sH2 := nr.same
        have R2 := R'.mono sH2
        have rx : Rp G (cut (Z hid e' σ') H2) x d := by
          obtain ⟨_, S', h1, h2, h3, h4⟩ := nr
          exact h4.mono (grow_cut (fun a z => R'.zthere z) h2 h3)
        have ed' : ds.drop i = d :: ds.drop (i + 1) := by
          rw [List.drop_eq_getElem_cons hlt]
          rw [List.getElem?_eq_getElem hlt] at ed
          cases ed
          rfl
        rw [ed'] at po
        unfold forL at po
        cases et : t d e' with
        | none => rw [et] at po; exact po.elim
        | some e1 =>
          rw [et] at po
          refine ⟨hid, H0, e', d, e1, R2, rx, et, fun σ3 R3 g3 _ => ?_⟩
          have gr3 : Gro hid env σ H e1 σ3 H2 := (gr.trans (cut_ex sH2)).trans g3
          have sS3 : Same (See hid A env σ H1) (cut (Z hid e1 σ3) H2) := (sS.trans (cut_ex sH2)).trans g3
          refine ⟨hid, H0, e1, R3, ?_⟩
          have po : PostS G W hid H0 env σ H D (match g e1 with | .nx e2 => forL t g (ds.drop (i + 1)) e2 | .ct e2 => forL t g (ds.drop (i + 1)) e2 | .bk e2 => .nx e2 | s => s) := po
          cases eb : g e1 with
          | bad => rw [eb] at po; exact po.elim
          | nx e2 => rw [eb] at po; exact fun σ4 H4 R4 g4 => ⟨e2, R4, sS3.trans g4, gr3.trans g4, po⟩
          | ct e2 => rw [eb] at po; exact fun σ4 H4 R4 g4 => ⟨e2, R4, sS3.trans g4, gr3.trans g4, po⟩
          | bk e2 => rw [eb] at po; exact fun σ4 H4 R4 g4 => po σ4 H4 R4 (gr3.trans g4)
          | rt r => rw [eb] at po; exact po
          | ex x e2 => rw [eb] at po; exact fun c d σ4 H4 R4 g4 => po c d σ4 H4 R4 (gr3.trans g4)
      · have ei : i = ds.length := by omega
        subst ei
        rw [List.drop_length] at po
        exact .inl ⟨w.stops H' sH, po σ' H' R' gr⟩⟩

/-! ### while -/
def whileN (c : Env → M Bool) (A : List Nat) (body : Env → So) : Nat → Env → So
  | 0, _ => .bad
  | n + 1, env => ofM (c env) env A fun b => if b then (match body env with
      | .nx e2 => whileN c A body n e2
      | .ct e2 => whileN c A body n e2
      | .bk e2 => .nx e2
      | s => s) else .nx env
/-- enough turns for an end -/
noncomputable def sWhile (c : Env → M Bool) (A : List Nat) (body : Env → So) : Env → So := fun env => open Classical in if h : ∃ n, whileN c A body n env ≠ .bad then whileN c A body (Classical.choose h) env else .bad
theorem whileN_more {c : Env → M Bool} {A : List Nat} {body : Env → So} : ∀ {n : Nat} {env : Env}, whileN c A body n env ≠ .bad → ∀ m, n ≤ m → whileN c A body m env = whileN c A body n env
  | 0, _, h, _, _ => absurd rfl h
  | n + 1, env, h, 0, hm => by omega
  | n + 1, env, h, m + 1, hm => by
    unfold whileN at h ⊢
    cases e : c env with
    | bad => rfl
    | ex x => rfl
    | ok b =>
      rw [e] at h
      cases b with
      | false => rfl
      | true =>
        show (match body env with | .nx e2 => whileN c A body m e2 | .ct e2 => whileN c A body m e2 | .bk e2 => .nx e2 | s => s) = (match body env with | .nx e2 => whileN c A body n e2 | .ct e2 => whileN c A body n e2 | .bk e2 => .nx e2 | s => s)
        have h : (match body env with | .nx e2 => whileN c A body n e2 | .ct e2 => whileN c A body n e2 | .bk e2 => .nx e2 | s => s) ≠ .bad := h
        cases eb : body env with
        | nx e2 => rw [eb] at h; exact whileN_more (n := n) h m (by omega)
        | ct e2 => rw [eb] at h; exact whileN_more (n := n) h m (by omega)
        | bad => rfl
        | bk e2 => rfl
        | rt e2 => rfl
        | ex x e2 => rfl
theorem sWhile_of {c : Env → M Bool} {A : List Nat} {body : Env → So} {n : Nat} {env : Env} {s : So} (h : whileN c A body n env = s) (hs : s ≠ .bad) : sWhile c A body env = s := by
  have hx : ∃ n, whileN c A body n env ≠ .bad := ⟨n, by rw [h]; exact hs⟩
  unfold sWhile
  rw [dif_pos hx]
  have h2 := Classical.choose_spec hx
  have e1 := whileN_more h2 (max n (Classical.choose hx)) (by omega)
  have e2 := whileN_more (n := n) (env := env) (by rw [h]; exact hs) (max n (Classical.choose hx)) (by omega)
  rw [← e1, e2, h]
theorem ds_while {c : Expr} {body : List Stmt} {A : List Nat} {f : Env → M Bool} {g : Env → So} (hp : PassesOwn (model X.prog X.w) X.A X.env X.xe) (hc : DT G W X c A f) (hb : DSs G W X body g) : DS G W X (.While c body [] pos) (sWhile f A g) :=
  ⟨weakS (ps_while hp hc.pt hb.ps) fun D σ H h => by
    obtain ⟨hid, H0, env, R, h⟩ := h
    have hx : ∃ n, whileN f A g n env ≠ .bad := by
      apply Classical.byContradiction
      intro hn
      unfold sWhile at h
      rw [dif_neg hn] at h
      exact h
    unfold sWhile at h
    rw [dif_pos hx] at h
    refine ⟨fun m σ' H' => ∃ e', Real G hid H0 e' σ' H' ∧ Gro hid env σ H e' σ' H' ∧ PostS G W hid H0 env σ H D (whileN f A g m e'), ⟨_, env, R, Same.refl _, h⟩, ?_⟩
    rintro m σ' H' ⟨e', R', gr, po⟩
    refine ⟨hid, H0, e', R', ?_⟩
    cases m with
    | zero => exact po.elim
    | succ m =>
      unfold whileN at po
      cases e : f e' with
      | bad => rw [e] at po; exact po
      | ex x =>
        rw [e] at po
        exact fun c d H2 s q => po c d σ' H2 ((R'.mono s).frz A) (gr.trans ((cut_ex s).trans (cut_sub fun _ => z_fz))) q
      | ok b =>
        rw [e] at po
        intro H2 s2
        have gr2 := gr.trans (cut_ex (X := Z hid e' σ') s2)
        cases b with
        | false => exact po σ' H2 (R'.mono s2) gr2
        | true =>
          have po : PostS G W hid H0 env σ H D (match g e' with | .nx e2 => whileN f A g m e2 | .ct e2 => whileN f A g m e2 | .bk e2 => .nx e2 | s => s) := po
          show ∃ N, _
          refine ⟨fun σ3 H3 => ∃ e2, Real G hid H0 e2 σ3 H3 ∧ Gro hid env σ H e2 σ3 H3 ∧ PostS G W hid H0 env σ H D (whileN f A g m e2), fun σ3 H3 q => ⟨m, Nat.lt_succ_self _, q⟩, hid, H0, e', R'.mono s2, ?_⟩
          cases eb : g e' with
          | bad => rw [eb] at po; exact po.elim
          | nx e2 => rw [eb] at po; exact fun σ4 H4 R4 g4 => ⟨e2, R4, gr2.trans g4, po⟩
          | ct e2 => rw [eb] at po; exact fun σ4 H4 R4 g4 => ⟨e2, R4, gr2.trans g4, po⟩
          | bk e2 => rw [eb] at po; exact fun σ4 H4 R4 g4 => po σ4 H4 R4 (gr2.trans g4)
          | rt r => rw [eb] at po; exact po
          | ex x e2 => rw [eb] at po; exact fun c d σ4 H4 R4 g4 => po c d σ4 H4 R4 (gr2.trans g4)⟩
end
end DL
end

section
set_option maxRecDepth 100000
set_option maxHeartbeats 4000000
namespace DL
open PySem PySem.Spec PyProof.Rows L2
section
variable {G : GC} {W : WX} {X : Cx} {pos : Pos}
/-! ### tests -/
def asB : Rs → M Bool | .fz (.bl b) => .ok b | _ => .bad
def tV (f : Env → M Rs) : Env → M Bool := fun env => do let r ← f env; asB r
theorem tV_run {A : List Nat} {f : Env → M Rs} {σ : L2.St} {H : Hp} {Q : Bool → Hp → Prop} (h : tDT G W A (tV f) σ H Q) : tDE G W A f σ H fun x H1 => ∃ c, x = .bl c ∧ Q c H1 := by
  obtain ⟨hid, H0, env, R, h⟩ := h
  refine ⟨hid, H0, env, R, ?_⟩
  unfold tV at h
  cases e : f env with
  | bad => rw [e] at h; exact h
  | ex x => rw [e] at h; exact h
  | ok r =>
    rw [e] at h
    have h : PostT G W hid A env σ H Q (asB r) := h
    intro v H' s q
    have q' := q.rp R
    unfold asB at h
    split at h
    · exact ⟨_, rp_bl q', h H' s⟩
    · exact h.elim
theorem dt_val {e : Expr} {A : List Nat} {f : Env → M Rs} (h : DE G W X e A f) (he : ∀ whole, isTrue e X.env whole = (do let v ← whole; standAt e.pos; holding [v] (truthy v)) := by intro _; rfl) : DT G W X e A (tV f) :=
  ⟨weakT (pt_val h.pe he) fun σ H Q h => tV_run h, h.k⟩
theorem dt_cmp {op : CmpOp} {a b : Expr} {r : R2} {g : D → D → M Rs} {A B : List Nat} {f1 f2 : Env → M Rs} (ho : OpR X (compareOp op) r) (hs : OpS G r g) (h1 : DE G W X a A f1) (h2 : DE G W X b B f2) (hm : behindInMarks op b = false) :
    DT G W X (.Compare a [op] [b] pos) (A ++ B) (tV (e2 g f1 f2)) :=
  ⟨weakT (pt_cmpR ho h1.pe h2.pe hm) fun σ H Q h => by
    obtain ⟨hid, H0, env, R, h⟩ := tV_run h
    exact two_run R h fun v w H2 x y s _ _ hv hw q => op_end hs R s hv hw q, h1.k⟩
/-- the truth of an int, a list, a tuple -/
def asTr : Rs → M Bool
  | .fz (.bl b) => .ok b
  | .fz (.int i) => .ok (i != 0)
  | .fz (.lst ds) => .ok (!ds.isEmpty)
  | .fz (.tup ds) => .ok (!ds.isEmpty)
  | .ow ds => .ok (!ds.isEmpty)
  | .fz .non => .ok false
  | _ => .bad
def tTr (f : Env → M Rs) : Env → M Bool := fun env => do let r ← f env; asTr r
theorem RpAll.emp {H : Hp} {vs : List V} {ds : List D} (h : RpAll G H vs ds) : vs.isEmpty = ds.isEmpty := by
  cases h <;> rfl
theorem dt_tr {e : Expr} {A : List Nat} {f : Env → M Rs} (h : DE G W X e A f) (he : ∀ whole, isTrue e X.env whole = (do let v ← whole; standAt e.pos; holding [v] (truthy v)) := by intro _; rfl) : DT G W X e A (tTr f) :=
  ⟨weakT (pt_truth h.pe he) fun σ H Q hh => by
    obtain ⟨hid, H0, env, R, hh⟩ := hh
    refine ⟨hid, H0, env, R, ?_⟩
    unfold tTr at hh
    cases e : f env with
    | bad => rw [e] at hh; exact hh
    | ex x => rw [e] at hh; exact hh
    | ok r =>
      rw [e] at hh
      have hh : PostT G W hid A env σ H Q (asTr r) := hh
      intro v H' s q
      have q' := q.rp R
      have hk := h.k
      unfold asTr at hh
      split at hh
      · rw [rp_bl q']; exact ⟨_, rfl, hh H' s⟩
      · rw [rp_int q']; exact ⟨_, rfl, hh H' s⟩
      · obtain ⟨a, xs, rfl, ha, ra⟩ := rp_lst q'
        exact ⟨_, .inl ⟨xs, .inl (.inl (cut_le _ _ ha)), rfl⟩, by rw [ra.emp]; exact hh H' s⟩
      · obtain ⟨a, xs, rfl, ha, ra⟩ := rp_tup q'
        exact ⟨_, .inr (.inl ⟨xs, hk ▸ same_t cut_le ha, rfl⟩), by rw [ra.emp]; exact hh H' s⟩
      · obtain ⟨a, xs, rfl, ha, ra⟩ := rp_lst q'
        exact ⟨_, .inl ⟨xs, .inl (.inl (cut_le _ _ ha)), rfl⟩, by rw [ra.emp]; exact hh H' s⟩
      · cases q'
        exact ⟨_, rfl, hh H' s⟩
      · exact hh.elim, h.k⟩
structure DW (G : GC) (W : WX) (X : Cx) (e : Expr) (A : List Nat) (f : Env → M Bool) : Prop where
  pw : PW X e (tDT G W A f)
  k : G.K = X.K
theorem DW.t {e : Expr} {A : List Nat} {f : Env → M Bool} (h : DW G W X e A f) : DT G W X e A f := ⟨h.pw.pt, h.k⟩
def tAn (f g : Env → M Bool) : Env → M Bool := fun env => do let b ← f env; if b then g env else .ok false
def tO (f g : Env → M Bool) : Env → M Bool := fun env => do let b ← f env; if b then .ok true else g env
def tN (f : Env → M Bool) : Env → M Bool := fun env => do let b ← f env; .ok (!b)
theorem PostT.frz {hid : Addr → Prop} {A : List Nat} {env : Env} {σ : L2.St} {H H' : Hp} {Q : Bool → Hp → Prop} {m : M Bool} (s : Same H H') (h : PostT G W hid A env σ H Q m) : PostT G W hid A env σ H' Q m := by
  cases m with
  | bad => exact h
  | ok b => exact fun H2 s2 => h H2 (s.trans s2)
  | ex x => exact fun c d H2 s2 => h c d H2 (s.trans s2)
theorem PostT.sub {hid : Addr → Prop} {A B : List Nat} {env : Env} {σ : L2.St} {H : Hp} {Q : Bool → Hp → Prop} {m : M Bool} (hs : ∀ i, i ∈ A → i ∈ B) (h : PostT G W hid B env σ H Q m) : PostT G W hid A env σ H Q m := by
  cases m with
  | bad => exact h
  | ok b => exact h
  | ex x => exact fun c d H2 s2 r => h c d H2 s2 (r.mono (see_mono hs (Same.refl _)))
theorem bT_run {A B : List Nat} {f : Env → M Bool} {k : Env → Bool → M Bool} {σ : L2.St} {H : Hp} {Q T : Bool → Hp → Prop} (hAB : ∀ i, i ∈ A → i ∈ B) (h : tDT G W B (fun env => f env >>= k env) σ H Q)
    (hT : ∀ hid H0 env b H', Real G hid H0 env σ H' → PostT G W hid B env σ H' Q (k env b) → T b H') : tDT G W A f σ H T := by
  obtain ⟨hid, H0, env, R, h⟩ := h
  refine ⟨hid, H0, env, R, ?_⟩
  have h : PostT G W hid B env σ H Q (f env >>= k env) := h
  cases e : f env with
  | bad => rw [e] at h; exact h
  | ex x => rw [e] at h; exact PostT.sub hAB h
  | ok b =>
    rw [e] at h
    exact fun H' s => hT hid H0 env b H' (R.mono s) (PostT.frz s h)
theorem dw_and1 {e : Expr} {A : List Nat} {f : Env → M Bool} (h : DT G W X e A f) : DW G W X (.BoolOp .And [e] pos) A f := ⟨pw_and1 h.pt, h.k⟩
theorem dw_or1 {e : Expr} {A : List Nat} {f : Env → M Bool} (h : DT G W X e A f) : DW G W X (.BoolOp .Or [e] pos) A f := ⟨pw_or1 h.pt, h.k⟩
theorem dw_and {a b : Expr} {rest : List Expr} {A B : List Nat} {f g : Env → M Bool} (h1 : DT G W X a A f) (h2 : DW G W X (.BoolOp .And (b :: rest) pos) B g) : DW G W X (.BoolOp .And (a :: b :: rest) pos) (A ++ B) (tAn f g) :=
  ⟨weakW (pw_and h1.pt h2.pw) fun σ H Q h => bT_run (k := fun env b => if b then g env else .ok false) sub_l h fun hid H0 env b H' R q => by
    cases b with
    | true => exact ⟨hid, H0, env, R, PostT.sub sub_r q⟩
    | false => exact q H' (Same.refl _), h1.k⟩
theorem dw_or {a b : Expr} {rest : List Expr} {A B : List Nat} {f g : Env → M Bool} (h1 : DT G W X a A f) (h2 : DW G W X (.BoolOp .Or (b :: rest) pos) B g) : DW G W X (.BoolOp .Or (a :: b :: rest) pos) (A ++ B) (tO f g) :=
  ⟨weakW (pw_or h1.pt h2.pw) fun σ H Q h => bT_run (k := fun env b => if b then .ok true else g env) sub_l h fun hid H0 env b H' R q => by
    cases b with
    | true => exact q H' (Same.refl _)
    | false => exact ⟨hid, H0, env, R, PostT.sub sub_r q⟩, h1.k⟩
theorem dt_not {a : Expr} {A : List Nat} {f : Env → M Bool} (h : DT G W X a A f) : DT G W X (.UnaryOp .Not a pos) A (tN f) :=
  ⟨weakT (pt_not h.pt) fun σ H Q hh => bT_run (k := fun env b => .ok (!b)) (fun _ h => h) hh fun hid H0 env b H' R q => q H' (Same.refl _), h.k⟩
/-! ### values by truth -/
def vAn (f g : Env → M Rs) : Env → M Rs := fun env => do let r ← f env; let b ← asB r; if b then g env else .ok (.fz (.bl false))
def vO (f g : Env → M Rs) : Env → M Rs := fun env => do let r ← f env; let b ← asB r; if b then .ok (.fz (.bl true)) else g env
def vN (f : Env → M Rs) : Env → M Rs := fun env => do let r ← f env; let b ← asB r; .ok (.fz (.bl (!b)))
theorem Post.frz {hid : Addr → Prop} {A : List Nat} {env : Env} {σ : L2.St} {H H' : Hp} {Q : VK} {m : M Rs} (s : Same H H') (h : Post G W hid A env σ H Q m) : Post G W hid A env σ H' Q m := by
  cases m with
  | bad => exact h
  | ok r =>
    intro v H2 s2 q
    refine h v H2 (s.trans s2) ?_
    cases r with
    | fz d => exact q
    | ow ds =>
      obtain ⟨p, vs, a, b, c⟩ := q
      exact ⟨p, vs, a, s.free b, c⟩
  | ex x => exact fun c d H2 s2 => h c d H2 (s.trans s2)
theorem Post.sub {hid : Addr → Prop} {A B : List Nat} {env : Env} {σ : L2.St} {H : Hp} {Q : VK} {m : M Rs} (hs : ∀ i, i ∈ A → i ∈ B) (h : Post G W hid B env σ H Q m) : Post G W hid A env σ H Q m := by
  cases m with
  | bad => exact h
  | ok r =>
    intro v H2 s2 q
    refine h v H2 s2 ?_
    cases r with
    | fz d => exact Rp.mono (see_mono hs (Same.refl _)) q
    | ow ds =>
      obtain ⟨p, vs, a, b, c, d⟩ := q
      exact ⟨p, vs, a, b, c, d.mono (cut_sub fun a z => z.imp (z_mono hs) id)⟩
  | ex x => exact fun c d H2 s2 r => h c d H2 s2 (r.mono (see_mono hs (Same.refl _)))
theorem bV_run {A B : List Nat} {f : Env → M Rs} {k : Env → Bool → M Rs} {σ : L2.St} {H : Hp} {Q : VK} {T : V → Hp → Prop} (hAB : ∀ i, i ∈ A → i ∈ B) (h : tDE G W B (fun env => f env >>= fun r => asB r >>= k env) σ H Q)
    (hT : ∀ hid H0 env b H', Real G hid H0 env σ H' → Post G W hid B env σ H' Q (k env b) → T (.bl b) H') : tDE G W A f σ H T := by
  obtain ⟨hid, H0, env, R, h⟩ := h
  refine ⟨hid, H0, env, R, ?_⟩
  have h : Post G W hid B env σ H Q (f env >>= fun r => asB r >>= k env) := h
  cases e : f env with
  | bad => rw [e] at h; exact h
  | ex x => rw [e] at h; exact Post.sub hAB h
  | ok r =>
    rw [e] at h
    have h : Post G W hid B env σ H Q (asB r >>= k env) := h
    intro v H' s q
    have q' := q.rp R
    unfold asB at h
    split at h
    · rw [rp_bl q']
      exact hT hid H0 env _ H' (R.mono s) (Post.frz s h)
    · exact h.elim
theorem d_one {op : BoolOp} {e : Expr} {A : List Nat} {f : Env → M Rs} (h : DE G W X e A f) : DE G W X (.BoolOp op [e] pos) A f := ⟨pe_one h.pe, h.k⟩
theorem d_and {a b : Expr} {rest : List Expr} {A B : List Nat} {f g : Env → M Rs} (h1 : DE G W X a A f) (h2 : DE G W X (.BoolOp .And (b :: rest) pos) B g) : DE G W X (.BoolOp .And (a :: b :: rest) pos) (A ++ B) (vAn f g) :=
  ⟨weakE (pe_and h1.pe h2.pe) fun σ H Q h => bV_run (k := fun env b => if b then g env else .ok (.fz (.bl false))) sub_l h fun hid H0 env b H' R q => by
    refine ⟨b, rfl, ?_⟩
    cases b with
    | true => exact ⟨hid, H0, env, R, Post.sub sub_r q⟩
    | false => exact q _ H' (Same.refl _) (.bl false), h1.k⟩
theorem d_or {a b : Expr} {rest : List Expr} {A B : List Nat} {f g : Env → M Rs} (h1 : DE G W X a A f) (h2 : DE G W X (.BoolOp .Or (b :: rest) pos) B g) : DE G W X (.BoolOp .Or (a :: b :: rest) pos) (A ++ B) (vO f g) :=
  ⟨weakE (pe_or h1.pe h2.pe) fun σ H Q h => bV_run (k := fun env b => if b then .ok (.fz (.bl true)) else g env) sub_l h fun hid H0 env b H' R q => by
    refine ⟨b, rfl, ?_⟩
    cases b with
    | true => exact q _ H' (Same.refl _) (.bl true)
    | false => exact ⟨hid, H0, env, R, Post.sub sub_r q⟩, h1.k⟩
theorem d_not {a : Expr} {A : List Nat} {f : Env → M Rs} (h : DE G W X a A f) : DE G W X (.UnaryOp .Not a pos) A (vN f) :=
  ⟨weakE (pe_not h.pe) fun σ H Q hh => bV_run (k := fun env b => .ok (.fz (.bl (!b)))) (fun _ h => h) hh fun hid H0 env b H' R q => ⟨b, rfl, q _ H' (Same.refl _) (.bl _)⟩, h.k⟩
def vIf (c : Env → M Bool) (f g : Env → M Rs) : Env → M Rs := fun env => do let b ← c env; if b then f env else g env
theorem d_if {c a b : Expr} {A B C : List Nat} {t : Env → M Bool} {f g : Env → M Rs} (hc : DT G W X c A t) (ha : DE G W X a B f) (hb : DE G W X b C g) : DE G W X (.IfExp c a b pos) (A ++ (B ++ C)) (vIf t f g) :=
  ⟨weakE (pe_ifExp hc.pt ha.pe hb.pe) fun σ H Q h => by
    obtain ⟨hid, H0, env, R, h⟩ := h
    refine ⟨hid, H0, env, R, ?_⟩
    have h : Post G W hid (A ++ (B ++ C)) env σ H Q (t env >>= fun b => if b then f env else g env) := h
    cases e : t env with
    | bad => rw [e] at h; exact h
    | ex x =>
      rw [e] at h
      exact fun c d H2 s2 r => h c d H2 s2 (r.mono (see_mono sub_l (Same.refl _)))
    | ok b =>
      rw [e] at h
      intro H' s
      have h : Post G W hid (A ++ (B ++ C)) env σ H Q (if b then f env else g env) := h
      cases b with
      | true =>
        show tDE G W B f σ H' Q
        exact ⟨hid, H0, env, R.mono s, Post.frz s (Post.sub (fun i m => List.mem_append_right _ (List.mem_append_left _ m)) h)⟩
      | false =>
        show tDE G W C g σ H' Q
        exact ⟨hid, H0, env, R.mono s, Post.frz s (Post.sub (fun i m => List.mem_append_right _ (List.mem_append_right _ m)) h)⟩, hc.k⟩
/-! ### slices -/
def PostO (G : GC) (W : WX) (hid : Addr → Prop) (A : List Nat) (env : Env) (σ : L2.St) (H : Hp) (Q : Option Int → Hp → Prop) : M (Option Int) → Prop
  | .bad => False
  | .ok b => ∀ H', Same H H' → Q b H'
  | .ex x => ∀ c d H', Same H H' → ExR G (See hid A env σ H') H' x c d → W c d σ H'
def tDO (G : GC) (W : WX) (A : List Nat) (f : Env → M (Option Int)) : TO := fun σ H Q => ∃ hid H0 env, Real G hid H0 env σ H ∧ PostO G W hid A env σ H Q (f env)
structure DO (G : GC) (W : WX) (X : Cx) (e : Option Expr) (A : List Nat) (f : Env → M (Option Int)) : Prop where
  po : PO X e (tDO G W A f)
theorem weakO {X : Cx} {e : Option Expr} {t u : TO} (h : PO X e t) (w : ∀ σ H Q, u σ H Q → t σ H Q) : PO X e u := ⟨fun pins s σ H Q I q => h.run pins s σ H Q I (w σ H Q q)⟩
def pNo : Env → M (Option Int) := fun _ => .ok none
def asI : Rs → M (Option Int) | .fz (.int i) => .ok (some i) | _ => .bad
def pSome (f : Env → M Rs) : Env → M (Option Int) := fun env => do let r ← f env; asI r
theorem do_none : DO G W X none [] pNo := ⟨weakO po_none fun σ H Q ⟨hid, H0, env, R, h⟩ => h H (Same.refl _)⟩
theorem do_some {e : Expr} {A : List Nat} {f : Env → M Rs} (h : DE G W X e A f) : DO G W X (some e) A (pSome f) := ⟨weakO (po_some h.pe) fun σ H Q hh => by
  obtain ⟨hid, H0, env, R, hh⟩ := hh
  refine ⟨hid, H0, env, R, ?_⟩
  unfold pSome at hh
  cases e : f env with
  | bad => rw [e] at hh; exact hh
  | ex x => rw [e] at hh; exact hh
  | ok r =>
    rw [e] at hh
    have hh : PostO G W hid A env σ H Q (asI r) := hh
    intro v H' s q
    have q' := q.rp R
    unfold asI at hh
    split at hh
    · exact ⟨_, rp_int q', hh H' s⟩
    · exact hh.elim⟩
def cutD {α : Type} (xs : List α) (lo hi : Option Int) : List α := (xs.drop (HT.sIx xs.length 0 lo)).take (HT.sIx xs.length xs.length hi - HT.sIx xs.length 0 lo)
def oSl (d : D) (lo hi : Option Int) : M Rs := match d with | .lst xs => .ok (.ow (cutD xs lo hi)) | .tup xs => .ok (.fz (.tup (cutD xs lo hi))) | _ => .bad
theorem RpAll.cutD {S : Hp} {vs : List V} {ds : List D} (h : RpAll G S vs ds) (lo hi : Option Int) : RpAll G S (cutV vs lo hi) (DL.cutD ds lo hi) := by
  unfold cutV DL.cutD
  rw [h.len]
  exact (h.drop _).take _
theorem SlR.or {r r' : V → Option Int → Option Int → Hp → VK → Prop} (h : SlR X r) (h' : SlR X r') : SlR X (fun x lo hi H Q => r x lo hi H Q ∨ r' x lo hi H Q) := by
  intro pins s σ H x v vl vu lo hi sl Q I rx hs pl pu hq
  rcases hq with q | q
  · exact h _ _ _ _ _ _ _ _ _ _ _ _ I rx hs pl pu q
  · exact h' _ _ _ _ _ _ _ _ _ _ _ _ I rx hs pl pu q
def e3o (g : D → Option Int → Option Int → M Rs) (f : Env → M Rs) (l u : Env → M (Option Int)) : Env → M Rs := fun env => do let r ← f env; let a ← l env; let b ← u env; pureM (g r.d a b)
theorem d_slice {e : Expr} {lo hi : Option Expr} {p2 : Pos} {A B C : List Nat} {f : Env → M Rs} {l u : Env → M (Option Int)} (he : DE G W X e A f) (hl : DO G W X lo B l) (hu : DO G W X hi C u) : DE G W X (.Subscript e (.Slice lo hi none p2) pos) (A ++ (B ++ C)) (e3o oSl f l u) :=
  ⟨weakE (pe_slice (SlR.or sl_list sl_tupA) he.pe hl.po hu.po) fun σ H Q h => by
    obtain ⟨hid, H0, env, R, h⟩ := h
    refine ⟨hid, H0, env, R, ?_⟩
    have h : Post G W hid (A ++ (B ++ C)) env σ H Q (f env >>= fun r => l env >>= fun a => u env >>= fun b => pureM (oSl r.d a b)) := h
    cases e1 : f env with
    | bad => rw [e1] at h; exact h
    | ex x =>
      rw [e1] at h
      exact fun c d H2 s2 r => h c d H2 s2 (r.mono (see_mono sub_l (Same.refl _)))
    | ok r =>
      rw [e1] at h
      intro v H1 s1 q1
      have R1 := R.mono s1
      have rv := (q1.rp R).mono (see_mono (B := A ++ (B ++ C)) sub_l (Same.refl _))
      refine ⟨hid, H0, env, R1, ?_⟩
      have h : Post G W hid (A ++ (B ++ C)) env σ H Q (l env >>= fun a => u env >>= fun b => pureM (oSl r.d a b)) := h
      cases e2 : l env with
      | bad => rw [e2] at h; exact h
      | ex x =>
        rw [e2] at h
        exact fun c d H2 s2 r => h c d H2 (s1.trans s2) (r.mono (see_mono (fun i m => List.mem_append_right _ (List.mem_append_left _ m)) (Same.refl _)))
      | ok a =>
        rw [e2] at h
        intro H2 s2
        have R2 := R1.mono s2
        refine ⟨hid, H0, env, R2, ?_⟩
        have h : Post G W hid (A ++ (B ++ C)) env σ H Q (u env >>= fun b => pureM (oSl r.d a b)) := h
        cases e3 : u env with
        | bad => rw [e3] at h; exact h
        | ex x =>
          rw [e3] at h
          exact fun c d H3 s3 r => h c d H3 ((s1.trans s2).trans s3) (r.mono (see_mono (fun i m => List.mem_append_right _ (List.mem_append_right _ m)) (Same.refl _)))
        | ok b =>
          rw [e3] at h
          intro H3 s3
          have s : Same H H3 := (s1.trans s2).trans s3
          have h : Post G W hid (A ++ (B ++ C)) env σ H Q (pureM (oSl r.d a b)) := h
          have rv3 := rv.mono (see_mono (fun i m => m) (s2.trans s3))
          have fin : ∀ {v' : V} {H' : Hp} {z : Rs}, pureM (oSl r.d a b) = .ok z → NewR G (See hid (A ++ (B ++ C)) env σ H3) H3 v' H' z → Q v' H' := fun {v' H' z} ez n => by
            rw [ez] at h
            refine h v' H' (s.trans n.same) ?_
            have q := NewR.res (R.mono s) n
            cases z with
            | fz d => exact q
            | ow ds =>
              obtain ⟨p, vs, a, b, c⟩ := q
              exact ⟨p, vs, a, s.free b, c⟩
          unfold oSl at h fin
          split at h
          · rename_i xs ex
            rw [ex] at rv3
            obtain ⟨p, vs, rfl, hp, rp⟩ := rp_lst rv3
            rw [ex] at fin
            exact .inl ⟨p, vs, rfl, .inl (.inl (cut_le _ _ hp)), fun q hq => fin rfl (.lst cut_le hq (rp.cutD a b))⟩
          · rename_i xs ex
            rw [ex] at rv3
            obtain ⟨p, vs, rfl, hp, rp⟩ := rp_tup rv3
            rw [ex] at fin
            refine .inr ⟨p, vs, rfl, he.k ▸ same_t cut_le hp, fun hw => fin rfl (NewR.val cut_le ?_), fun hw q hq => fin rfl (.tup cut_le hq (rp.cutD a b))⟩
            have : DL.cutD xs a b = xs := by
              unfold DL.cutD
              rw [← rp.len, hw.1, hw.2, List.drop_zero, Nat.sub_zero, rp.len, List.take_length]
            rw [this]
            exact rv3
          · exact h.elim, he.k⟩
end
end DL
end

section
set_option maxRecDepth 100000
set_option maxHeartbeats 4000000
namespace DL
open PySem PySem.Spec PyProof.Rows L2
/-- a comprehension's slots are cleared -/
def wipeE (env : Env) : List Nat → Env
  | [] => env
  | v :: vs => (wipeE env vs).set v .un
theorem wipeE_len (env : Env) : ∀ vs, (wipeE env vs).length = env.length
  | [] => rfl
  | v :: vs => by rw [wipeE, List.length_set, wipeE_len env vs]
theorem wipeE_some {env : Env} {i : Nat} {s : Sl} (hs : s ≠ .un) : ∀ {vs : List Nat}, (wipeE env vs)[i]? = some s → env[i]? = some s ∧ i ∉ vs
  | [], h => ⟨h, by simp⟩
  | v :: vs, h => by
    rw [wipeE] at h
    by_cases e : v = i
    · subst e
      by_cases hl : v < (wipeE env vs).length
      · rw [List.getElem?_set_self hl] at h
        exact absurd (Option.some.inj h).symm hs
      · rw [List.getElem?_eq_none (by simp; omega)] at h
        cases h
    · rw [List.getElem?_set_ne e] at h
      obtain ⟨a, b⟩ := wipeE_some hs h
      exact ⟨a, by simp [b, Ne.symm e]⟩
theorem wipe_out' {σ : L2.St} {i : Nat} : ∀ {vs : List Nat}, i ∉ vs → (wipe σ vs)[i]? = σ[i]?
  | [], _ => rfl
  | v :: vs, h => by
    unfold wipe
    rw [List.getElem?_set_ne (by intro e; subst e; simp at h)]
    exact wipe_out' fun z => h (List.mem_cons_of_mem _ z)
theorem wipe_agr {σ σ' : L2.St} {vs T : List Nat} (hT : ∀ i, i ∈ T → i ∈ vs) (a : Agr T (wipe σ vs) σ') : wipe σ' vs = wipe σ vs := by
  apply List.ext_getElem?
  intro i
  have hl : σ'.length = σ.length := by rw [a.1, wipe_length]
  by_cases h : i ∈ vs
  · have key : ∀ (τ : L2.St) (us : List Nat), i ∈ us → (wipe τ us)[i]? = if i < τ.length then some none else none := by
      intro τ us
      induction us with
      | nil => intro h; cases h
      | cons u us ih =>
        intro hu
        unfold wipe
        by_cases e : u = i
        · subst e
          by_cases hl : u < τ.length
          · rw [List.getElem?_set_self (by rw [wipe_length]; exact hl), if_pos hl]
          · rw [List.getElem?_eq_none (by rw [List.length_set, wipe_length]; omega), if_neg hl]
        · rw [List.getElem?_set_ne e]
          exact ih (by simpa [Ne.symm e] using hu)
    rw [key σ' vs h, key σ vs h, hl]
  · rw [wipe_out' h, a.2 i fun z => h (hT i z)]
section
variable {G : GC} {W : WX} {X : Cx} {pos : Pos}
theorem frzAll_map (env : Env) : ∀ n, env.length ≤ n → fzAll (List.range n) env = env.map Sl.frz := by
  intro n hn
  apply List.ext_getElem?
  intro i
  rw [List.getElem?_map]
  have h1 := fun (A : List Nat) (env : Env) (i : Nat) => fzAll_get A env i
  rcases h1 (List.range n) env i with e | ⟨ds, e1, e2⟩
  · rw [e]
    cases q : env[i]? with
    | none => rfl
    | some s =>
      cases s with
      | un => rfl
      | fz d => rfl
      | ow ds =>
        rw [q] at e
        have := (fz_ow_iff.mp e).2
        have hi : i < env.length := (List.getElem?_eq_some_iff.mp q).1
        exact absurd (List.mem_range.mpr (by omega)) this
  · rw [e1, e2]
    rfl
theorem noOwn_map {env : Env} {σ : L2.St} {vs : List Nat} {p : Addr} : ¬ Own (wipeE (env.map Sl.frz) vs) σ p := fun ⟨i, ds, a, _⟩ => by
  obtain ⟨h, _⟩ := wipeE_some (by simp) a
  rw [List.getElem?_map] at h
  cases q : env[i]? with
  | none => rw [q] at h; cases h
  | some s =>
    rw [q] at h
    exact frz_not_ow _ _ (Option.some.inj h)
/-- what a comprehension makes -/
def lcL (t : D → Env → Option Env) (tt : Env → M Bool) (te : Env → M Rs) (env : Env) : List D → M (List D)
  | [] => .ok []
  | d :: ds => match t d env with
    | none => .bad
    | some e2 => do
      let b ← tt e2
      if b then do
        let r ← te e2
        let rest ← lcL t tt te env ds
        .ok (r.d :: rest)
      else lcL t tt te env ds
def eLc (vs : List Nat) (it : Env → M (List D)) (t : D → Env → Option Env) (tt : Env → M Bool) (te : Env → M Rs) : Env → M Rs := fun env => do
  let _ ← (if env.length ≤ 64 then M.ok () else M.bad)
  let ds ← it env
  let rs ← pureM (lcL t tt te (wipeE (env.map Sl.frz) vs) ds)
  if ds.length < sizeLine then .ok (.ow rs) else .bad
structure DTs (G : GC) (W : WX) (X : Cx) (e : List Expr) (A : List Nat) (f : Env → M Bool) : Prop where
  pts : PTs X e (tDT G W A f)
theorem weakTs {X : Cx} {e : List Expr} {t u : TT} (h : PTs X e t) (w : ∀ σ H Q, u σ H Q → t σ H Q) : PTs X e u := ⟨fun pins s σ H Q I q => h.run pins s σ H Q I (w σ H Q q)⟩
def tYesD : Env → M Bool := fun _ => .ok true
theorem dts_nil : DTs G W X [] [] tYesD := ⟨weakTs pts_nil fun σ H Q ⟨hid, H0, env, R, h⟩ => h H (Same.refl _)⟩
theorem dts_one {c : Expr} {A : List Nat} {f : Env → M Bool} (h : DT G W X c A f) : DTs G W X [c] A f := ⟨pts_one h.pt⟩
abbrev W0 : WX := fun _ _ _ _ => False
theorem noOwn_fz {A : List Nat} {env : Env} {σ : L2.St} {p : Addr} (h : ∀ p, ¬ Own env σ p) : ¬ Own (fzAll A env) σ p := fun o => h p (own_fz o)
theorem no_own_tgt {hid : Addr → Prop} {env env' : Env} {σ σ' : L2.St} {H : Hp} : True := trivial
theorem Res.plain {hid : Addr → Prop} {A : List Nat} {H0 H H' : Hp} {env : Env} {σ : L2.St} {v : V} {r : Rs} (R : Real G hid H0 env σ H) (h : Res G hid A env σ H H' v r) : Rp G (cut hid H') v r.d :=
  (h.rp R).mono (cut_sub fun a z => .inl z)
/-- the comprehension's reading -/
theorem lc_run {T A B C : List Nat} {it : Env → M (List D)} {t : D → Env → Option Env} {tt : Env → M Bool} {te : Env → M Rs} {vs : List Nat} (hT : ∀ i, i ∈ T → i ∈ vs) {σ : L2.St} {H : Hp} {Q : VK}
    (h : tDE G W (List.range 64) (eLc vs it t tt te) σ H Q) : tLc (tDI G W A it) (tDG G T t) (tDT G W0 B tt) (tDE G W0 C te) vs σ H Q := by
  obtain ⟨hid, H0, env, R, h⟩ := h
  refine ⟨hid, H0, env, R, ?_⟩
  have h64 : env.length ≤ 64 := by
    by_cases hl : env.length ≤ 64
    · exact hl
    · unfold eLc at h
      rw [if_neg hl] at h
      exact h.elim
  have h : Post G W hid (List.range 64) env σ H Q (it env >>= fun ds => pureM (lcL t tt te (wipeE (env.map Sl.frz) vs) ds) >>= fun rs => if ds.length < sizeLine then .ok (.ow rs) else .bad) := by
    unfold eLc at h
    rw [if_pos h64] at h
    exact h
  have sub : ∀ {H2 : Hp}, env.length ≤ 64 → Same (See hid A env σ H2) (See hid (List.range 64) env σ H2) := fun {H2} hl => cut_sub fun a z => by
    rcases z with z | ⟨i, ds, z1, z2⟩
    · exact .inl z
    · have := (fz_ow_iff.mp z1)
      have hi : i < env.length := (List.getElem?_eq_some_iff.mp this.1).1
      exact absurd (List.mem_range.mpr (by omega)) this.2
  have subx : ∀ {H2 : Hp}, Same (See hid A env σ H2) (See hid (A ++ List.range 64) env σ H2) := fun {H2} => see_mono sub_l (Same.refl _)
  cases e : it env with
  | bad => rw [e] at h; exact h
  | ex x =>
    rw [e] at h
    intro c d H' s q
    exact h c d H' s (q.mono (sub h64))
  | ok ds =>
    rw [e] at h
    intro J H1 s1 w D hD
    cases e2 : pureM (lcL t tt te (wipeE (env.map Sl.frz) vs) ds) with
    | bad =>
      have h : Post G W hid (List.range 64) env σ H Q (pureM (lcL t tt te (wipeE (env.map Sl.frz) vs) ds) >>= fun rs => if ds.length < sizeLine then .ok (.ow rs) else .bad) := h
      rw [e2] at h
      exact h.elim
    | ex z => exact absurd e2 pureM_ex
    | ok rs =>
      have h : Post G W hid (List.range 64) env σ H Q (pureM (lcL t tt te (wipeE (env.map Sl.frz) vs) ds) >>= fun rs => if ds.length < sizeLine then .ok (.ow rs) else .bad) := h
      rw [e2] at h
      have h : Post G W hid (List.range 64) env σ H Q (if ds.length < sizeLine then .ok (.ow rs) else .bad) := h
      by_cases hc : ds.length < sizeLine
      · rw [if_pos hc] at h
        have e3 := pureM_ok e2
        have Rf := (R.mono s1).frz (List.range 64)
        rw [frzAll_map env 64 h64] at Rf
        -- the block's state
        let hC : Addr → Prop := fun a => hid a ∨ a = D
        have RC : ∀ {H2 : Hp}, Same H1 H2 → H2 D ≠ none → Real G hC H1 (wipeE (env.map Sl.frz) vs) (wipe σ vs) H2 := fun {H2} s2 d2 => by
          refine ⟨by rw [wipeE_len, wipe_length, List.length_map, R.len], fun i d hi => ?_, fun i es hi => ?_, fun i j es es' p a => ?_, s2, fun p o => absurd o noOwn_map, fun a ha n => ?_⟩
          · obtain ⟨a, b⟩ := wipeE_some (by simp) hi
            obtain ⟨v, c, d'⟩ := Rf.fz i d a
            refine ⟨v, by rw [wipe_out' b]; exact c, d'.mono fun a o q => ?_⟩
            by_cases z : Z hid (env.map Sl.frz) σ a
            · rw [cut_pos z] at q; cases q
            · rw [cut_neg z] at q
              rw [cut_neg]
              · exact s2 a o q
              · rintro ((y | rfl) | y)
                · exact z (.inl y)
                · rw [hD] at q; cases q
                · exact noOwn_map y
          · obtain ⟨a, b⟩ := wipeE_some (by simp) hi
            rw [List.getElem?_map] at a
            cases q : env[i]? with
            | none => rw [q] at a; cases a
            | some s => rw [q] at a; exact absurd (Option.some.inj a) (frz_not_ow _ _)
          · obtain ⟨a, b⟩ := wipeE_some (by simp) a
            rw [List.getElem?_map] at a
            cases q : env[i]? with
            | none => rw [q] at a; cases a
            | some s => rw [q] at a; exact absurd (Option.some.inj a) (frz_not_ow _ _)
          · rcases ha with ha | rfl
            · cases q : H1 a with
              | none => exact (R.mono s1).hidb a ha q
              | some o => rw [s2 a o q] at n; cases n
            · exact d2 n
        have seeS : ∀ {H2 : Hp}, Same H1 H2 → Same (See hid A env σ H1) (cut hC H2) := fun {H2} s2 a o q => by
          by_cases z : Z hid (fzAll A env) σ a
          · rw [show See hid A env σ H1 a = none from cut_pos z] at q; cases q
          · rw [show See hid A env σ H1 a = H1 a from cut_neg z] at q
            rw [cut_neg]
            · exact s2 a o q
            · rintro (y | rfl)
              · exact z (.inl y)
              · rw [hD] at q; cases q
        refine ⟨fun i m H2 => m = ds.length - i ∧ i ≤ ds.length ∧ ∃ ws acc rest, Same H1 H2 ∧ H2 D = some (.lst ws) ∧ RpAll G (cut hC H2) ws acc ∧ lcL t tt te (wipeE (env.map Sl.frz) vs) (ds.drop i) = .ok rest ∧ acc ++ rest = rs ∧ acc.length ≤ i,
          ⟨ds.length, by simp, Nat.zero_le _, [], [], rs, same_new hD, upd_same, .nil, e3, rfl, Nat.le_refl _⟩, ?_⟩
        rintro i m H2 ⟨rfl, hi, ws, acc, rest, s2, hw, ra, el, ea, hl⟩
        have sA : Same (See hid A env σ H1) H2 := (seeS s2).trans cut_le
        by_cases hlt : i < ds.length
        · refine .inr ⟨w.goes i H2 hlt sA, fun H3 => ∃ ws acc rest, Same H1 H3 ∧ H3 D = some (.lst ws) ∧ RpAll G (cut hC H3) ws acc ∧ lcL t tt te (wipeE (env.map Sl.frz) vs) (ds.drop (i + 1)) = .ok rest ∧ acc ++ rest = rs ∧ acc.length ≤ i + 1,
            fun H3 q => ⟨ds.length - (i + 1), by omega, rfl, hlt, q⟩, fun x H3 y => ?_⟩
          obtain ⟨d, ed, nw⟩ := w.yields i H2 x H3 hlt sA y
          have R2 := RC s2 (by rw [hw]; simp)
          have nr := nw (cut hC H2) (seeS s2) cut_le
          have s3 := nr.same
          have R3 := R2.mono s3
          have zC : Z hC (wipeE (env.map Sl.frz) vs) (wipe σ vs) = hC := by
            funext a
            exact propext ⟨fun z => z.elim id fun o => absurd o noOwn_map, .inl⟩
          have rx : Rp G (cut (Z hC (wipeE (env.map Sl.frz) vs) (wipe σ vs)) H3) x d := by
            obtain ⟨_, S', h1, h2, h3, h4⟩ := nr
            rw [zC]
            refine h4.mono (grow_cut (fun a z => R2.hidb a z) h2 h3)
          have ed' : ds.drop i = d :: ds.drop (i + 1) := by
            rw [List.drop_eq_getElem_cons hlt]
            rw [List.getElem?_eq_getElem hlt] at ed
            cases ed
            rfl
          rw [ed'] at el
          unfold lcL at el
          cases et : t d (wipeE (env.map Sl.frz) vs) with
          | none => rw [et] at el; cases el
          | some e4 =>
            rw [et] at el
            refine ⟨hC, H1, _, d, e4, R3, rx, et, fun σ4 R4 g4 ag => ⟨wipe_agr hT ag, hC, H1, e4, R4, ?_⟩⟩
            have el : (tt e4 >>= fun b => if b then te e4 >>= fun r => lcL t tt te (wipeE (env.map Sl.frz) vs) (ds.drop (i + 1)) >>= fun rest => .ok (r.d :: rest) else lcL t tt te (wipeE (env.map Sl.frz) vs) (ds.drop (i + 1))) = .ok rest := el
            cases eb : tt e4 with
            | bad => rw [eb] at el; cases el
            | ex z => rw [eb] at el; cases el
            | ok b =>
              rw [eb] at el
              intro H4 s4
              cases b with
              | false =>
                have el : lcL t tt te (wipeE (env.map Sl.frz) vs) (ds.drop (i + 1)) = .ok rest := el
                show ∃ ws acc rest, _
                exact ⟨ws, acc, rest, (s2.trans s3).trans s4, s4 _ _ (s3 _ _ hw), ra.mono (cut_ex (s3.trans s4)), el, ea, by omega⟩
              | true =>
                have el : (te e4 >>= fun r => lcL t tt te (wipeE (env.map Sl.frz) vs) (ds.drop (i + 1)) >>= fun rest => .ok (r.d :: rest)) = .ok rest := el
                show tDE G W0 C te σ4 H4 _
                have R5 := R4.mono s4
                refine ⟨hC, H1, e4, R5, ?_⟩
                cases ee : te e4 with
                | bad => rw [ee] at el; cases el
                | ex z => rw [ee] at el; cases el
                | ok r =>
                  rw [ee] at el
                  have el : (lcL t tt te (wipeE (env.map Sl.frz) vs) (ds.drop (i + 1)) >>= fun rest => .ok (r.d :: rest)) = .ok rest := el
                  intro v H5 s5 q5
                  cases er : lcL t tt te (wipeE (env.map Sl.frz) vs) (ds.drop (i + 1)) with
                  | bad => rw [er] at el; cases el
                  | ex z => rw [er] at el; cases el
                  | ok rest' =>
                    rw [er] at el
                    cases el
                    have s25 : Same H2 H5 := (s3.trans s4).trans s5
                    have hw5 := s25 _ _ hw
                    have al : ws.length = acc.length := ra.len
                    refine ⟨ws, hw5, by omega, ws ++ [v], acc ++ [r.d], rest', ?_, upd_same, ?_, rfl, by simp [← ea], by simp; omega⟩
                    · intro a o q
                      rw [upd_ne (ne_of_none q hD)]
                      exact s25 a o (s2 a o q)
                    · have hcD : hC D := .inr rfl
                      rw [cut_upd hcD]
                      exact (ra.mono (cut_ex s25)).app (.cons (q5.plain R5) .nil)
        · have ei : i = ds.length := by omega
          subst ei
          rw [List.drop_length] at el
          cases el
          rw [List.append_nil] at ea
          subst ea
          refine .inl ⟨w.stops H2 sA, h _ H2 (s1.trans s2) ⟨D, ws, rfl, s1.free hD, hw, ra.mono (cut_sub fun a z => ?_)⟩⟩
          rcases z with z | z
          · rcases z with z | ⟨j, es, z1, z2⟩
            · exact .inl z
            · have := fz_ow_iff.mp z1
              have hj : j < env.length := (List.getElem?_eq_some_iff.mp this.1).1
              exact absurd (List.mem_range.mpr (by omega)) this.2
          · exact .inr z
      · rw [if_neg hc] at h
        exact h.elim
end
end DL
end

section
set_option maxRecDepth 100000
set_option maxHeartbeats 4000000
namespace DL
open PySem PySem.Spec PyProof.Rows L2
section
variable {G : GC} {W : WX} {X : Cx} {pos : Pos}
theorem d_lc {elt tg iter : Expr} {ifs : List Expr} {scope : Scope} {own : List (Str × Nat)} {T A B C : List Nat} {it : Env → M (List D)} {t : D → Env → Option Env} {tt : Env → M Bool} {te : Env → M Rs} (hc : X.calm = true) (hN : X.N.Nodup) (hi : DI G W X tg iter A it)
    (ok : BlkOk X.N X.env.scope scope own) (hT : ∀ i, i ∈ T → i ∈ own.map (·.2))
    (hg : ∀ (s : Shared) (H : Hp) (C : Addr) (cl : List (Str × Addr)) (fp : List Addr), DG G (X.blk s H scope (compEnvC scope cl C X.env) fp) tg T t)
    (ht : ∀ (s : Shared) (H : Hp) (C : Addr) (cl : List (Str × Addr)) (fp : List Addr), DTs G W0 (X.blk s H scope (compEnvC scope cl C X.env) fp) ifs B tt)
    (he : ∀ (s : Shared) (H : Hp) (C' : Addr) (cl : List (Str × Addr)) (fp : List Addr), DE G W0 (X.blk s H scope (compEnvC scope cl C' X.env) fp) elt C te)
    (k : G.K = X.K := by rfl) (hs : ∀ x, foldedSetIterable iter X.env x = pure x := by intro _; rfl) : DE G W X (.ListComp elt [⟨tg, iter, ifs, 0⟩] scope pos) (List.range 64) (eLc (own.map (·.2)) it t tt te) :=
  ⟨weakE (pe_lc hc hN hi.pi ok (fun s H C cl fp => (hg s H C cl fp).pg) (fun s H C cl fp => (ht s H C cl fp).pts) (fun s H C cl fp => (he s H C cl fp).pe) hs) fun σ H Q h => lc_run hT h, k⟩
theorem ds_setLc {i : Nat} {y : Str} {py : Pos} {elt tg iter : Expr} {ifs : List Expr} {scope : Scope} {own : List (Str × Nat)} {cpos : Pos} {T A B C : List Nat} {it : Env → M (List D)} {t : D → Env → Option Env} {tt : Env → M Bool} {te : Env → M Rs} (hc : X.calm = true) (hN : X.N.Nodup)
    (hy : X.N[i]? = some y) (hyl : X.env.scope.names.lookup y = some .local) (hsw : swapsWith (.ListComp elt [⟨tg, iter, ifs, 0⟩] scope cpos) (some (.Name y py)) pos.line X.env = pure true) (hi : DI G W X tg iter A it)
    (ok : BlkOk X.N X.env.scope scope own) (hT : ∀ i, i ∈ T → i ∈ own.map (·.2))
    (hg : ∀ (s : Shared) (H : Hp) (C : Addr) (cl : List (Str × Addr)) (fp : List Addr), DG G (X.blk s H scope (compEnvC scope cl C X.env) fp) tg T t)
    (ht : ∀ (s : Shared) (H : Hp) (C : Addr) (cl : List (Str × Addr)) (fp : List Addr), DTs G W0 (X.blk s H scope (compEnvC scope cl C X.env) fp) ifs B tt)
    (he : ∀ (s : Shared) (H : Hp) (C' : Addr) (cl : List (Str × Addr)) (fp : List Addr), DE G W0 (X.blk s H scope (compEnvC scope cl C' X.env) fp) elt C te)
    (hs : ∀ x, foldedSetIterable iter X.env x = pure x := by intro _; rfl) : DS G W X (.Assign [.Name y py] (.ListComp elt [⟨tg, iter, ifs, 0⟩] scope cpos) pos) (sSet i (List.range 64) (eLc (own.map (·.2)) it t tt te)) :=
  ⟨weakS (ps_setLc hc hN hy hyl hsw hi.pi ok (fun s H C cl fp => (hg s H C cl fp).pg) (fun s H C cl fp => (ht s H C cl fp).pts) (fun s H C cl fp => (he s H C cl fp).pe) hs) fun D σ H h =>
    lc_run hT (expr_run (f := eLc (own.map (·.2)) it t tt te) (k := fun env r => .nx ((DL.frzIf r (List.range 64) env).set i r.sl)) h fun hid H0 env r v H' R s e q p => by
      obtain ⟨R2, g⟩ := set_run (i := i) R s q
      exact p _ _ R2 g)⟩
/-! ### own defs -/
def spD (G : GC) (n : Nat) (g : List D → M Rs) : Sp := fun vs H Q E => ∃ hid ds, ds.length = n ∧ (∀ a, hid a → H a ≠ none) ∧ RpAll G (cut hid H) vs ds ∧ match g ds with
  | .bad => False
  | .ok r => ∀ v H', RetR G hid H H' v r → Q v H'
  | .ex x => ∀ c d H', Same H H' → ExR G (cut hid H') H' x c d → E c d H'
theorem RetR.same {hid : Addr → Prop} {H H' : Hp} {v : V} {r : Rs} (h : RetR G hid H H' v r) : Same H H' := by
  cases r with
  | fz d => exact h.1
  | ow ds => exact h.1
theorem RetR.res {hid : Addr → Prop} {A : List Nat} {env : Env} {σ : L2.St} {H H1 H' : Hp} {v : V} {r : Rs} (s : Same H H1) (h : RetR G (Z hid (fzAll A env) σ) H1 H' v r) : Res G hid A env σ H H' v r := by
  cases r with
  | fz d => exact h.2
  | ow ds =>
    obtain ⟨_, p, vs, a, b, c, d⟩ := h
    exact ⟨p, vs, a, s.free b, c, d⟩
theorem d_call {k n : Nat} {f : Addr} {fd : FuncData} {ps : List Str} {g : List D → M Rs} {x : Str} {p : Pos} {e : Expr} {es : List Expr} {A : List Nat} {fa : Env → M (List D)} (F : FnOk X.prog X.w X.K X.mg X.base CX0 k f fd ps (spD G n g)) (hr : Room k X.A) (hg : Gl X x) (hm : X.mg x = some (.ref f))
    (hk : PySem.W.keepIn X.K (.ref f) = true) (hb : Binds X.K fd ps []) (ha : DA G W X (e :: es) A fa) (hn : (e :: es).length = n) (hdb : (x == ("__debug__" : Str)) = false := by decide) (he : starEach (e :: es) X.env = (false, eval e X.env) :: starEach es X.env := by rfl)
    (hpl : (backTo pos (starEach es X.env)).any (·.1) = false := by rfl) : DE G W X (.Call (.Name x p) (e :: es) [] pos) A (eA (fun ds => if ds.length = n then g ds else .bad) fa) :=
  ⟨weakE (pe_call F hr hg hm hk hb .nil pass0 ha.pa hdb he hpl) fun σ H Q h => by
    obtain ⟨hid, H0, env, R, h⟩ := h
    refine ⟨hid, H0, env, R, ?_⟩
    have h : Post G W hid A env σ H Q (fa env >>= fun ds => pureM (if ds.length = n then g ds else .bad)) := h
    cases e1 : fa env with
    | bad => rw [e1] at h; exact h
    | ex x => rw [e1] at h; exact h
    | ok ds =>
      rw [e1] at h
      intro vs H1 s1 r1
      have h : Post G W hid A env σ H Q (pureM (if ds.length = n then g ds else .bad)) := h
      have R1 := R.mono s1
      rw [List.append_nil]
      by_cases hl : ds.length = n
      · rw [if_pos hl] at h
        refine ⟨Z hid (fzAll A env) σ, ds, hl, fun a z => R1.zthere (z_fz z), r1, ?_⟩
        cases e2 : g ds with
        | bad => rw [e2] at h; exact h
        | ex z => rw [e2] at h; exact h.elim
        | ok z =>
          rw [e2] at h
          exact fun v H' q => h v H' (s1.trans q.same) (q.res s1)
      · rw [if_neg hl] at h
        exact h.elim, ha.k⟩
def startE (n : Nat) (ds : List D) : Env := ds.map Sl.fz ++ List.replicate (n - ds.length) .un
def runD (n : Nat) (b : Env → So) (ds : List D) : M Rs := match b (startE n ds) with
  | .rt r => .ok r
  | .nx _ => .ok (.fz .non)
  | .ex x _ => .ex x
  | _ => .bad
theorem real_start {N : List Str} {hid : Addr → Prop} {H : Hp} {vs : List V} {ds : List D} (hh : ∀ a, hid a → H a ≠ none) (r : RpAll G (cut hid H) vs ds) : Real G hid H (startE N.length ds) (start N vs) H := by
  have hl := r.len
  have no : ∀ (i : Nat) es, (startE N.length ds)[i]? ≠ some (.ow es) := fun i es e => by
    unfold startE at e
    rw [List.getElem?_append] at e
    split at e
    · rw [List.getElem?_map] at e
      cases q : ds[i]? with
      | none => rw [q] at e; cases e
      | some d => rw [q] at e; cases e
    · rw [List.getElem?_replicate] at e
      split at e <;> cases e
  have noO : ∀ p, ¬ Own (startE N.length ds) (start N vs) p := fun p ⟨i, es, e, _⟩ => no i es e
  refine ⟨by simp [startE, L2.start, hl], fun i d e => ?_, fun i es e => absurd e (no i es), fun i j es es' p a => absurd a (no i es), Same.refl _, fun p o => absurd o (noO p), hh⟩
  unfold startE at e
  rw [List.getElem?_append] at e
  split at e
  · rename_i hi
    rw [List.getElem?_map] at e
    cases q : ds[i]? with
    | none => rw [q] at e; cases e
    | some d' =>
      rw [q] at e
      cases e
      obtain ⟨v, a, b⟩ := r.get q
      refine ⟨v, ?_, b.mono (cut_sub fun a z => z.elim id fun o => absurd o (noO a))⟩
      unfold L2.start
      rw [List.getElem?_append_left (by simp; rw [hl]; simpa using hi), List.getElem?_map, a]
      rfl
  · rw [List.getElem?_replicate] at e
    split at e <;> cases e
end
section
variable {P : Program} {w : World} {K : PySem.W.Frag} {mg : Str → Option Value} {base : Heap}
theorem fn_D {G : GC} (hG : G.K = K) {x qual : Str} {st : Stmt} {f : Addr} {fd : FuncData} {N ps : List Str} {k : Nat} {b : Env → So} (F : Fun K x qual st f fd) (S : FnScope N ps (defScope st))
    (hb : ∀ (cdv : Value) (A : Around) (outer : List PySem.Env) (s : Shared) (H : Hp) (E : XK), Room k (A.deeper (envOfC qual (defScope st) s.heap.objs.size f cdv)) →
      DSs G W0 (cxOf CX0 P w K mg base N qual (defScope st) f cdv A outer s H E).nox (defBody st) b) : FnOk P w K mg base CX0 (k + 1) f fd ps (spD G ps.length fun ds => pureM (runD N.length b ds)) := by
  refine F.ok S (fun vs H Q E h => ?_) (fun cdv A outer s H vs Q E hr h => ?_)
  · obtain ⟨hid, ds, hl, _, r, _⟩ := h
    rw [r.len, hl]
  · obtain ⟨hid, ds, hl, hh, r, h⟩ := h
    refine ⟨_, (hb cdv A outer s H E hr).ps, hid, H, startE N.length ds, real_start hh r, ?_⟩
    have h : match pureM (match b (startE N.length ds) with | .rt r => M.ok r | .nx _ => .ok (.fz .non) | .ex x _ => .ex x | _ => .bad) with | .bad => False | .ok r => ∀ v H', RetR G hid H H' v r → Q v H' | .ex x => ∀ c d H', Same H H' → ExR G (cut hid H') H' x c d → E c d H' := h
    cases e : b (startE N.length ds) with
    | bad => rw [e] at h; exact h
    | nx e' =>
      rw [e] at h
      exact fun σ' H' R g => h .non H' ⟨R.base, .non⟩
    | rt r =>
      rw [e] at h
      exact fun v H' q => h v H' q
    | bk e' => rw [e] at h; exact h.elim
    | ct e' => rw [e] at h; exact h.elim
    | ex x e' => rw [e] at h; exact h.elim
end
end DL
end

section
set_option maxRecDepth 100000
set_option maxHeartbeats 4000000
/-! further rules by values: sum, max, min over a tuple; min, max with a default -/
namespace PySem
section
variable {prog : Program} {w : World} {A : Around} {E : Value → Shared → Prop} {s : Shared} {l : Addr} {xs : Array (Int × Tok)}
theorem x_iterTup {Q : Value → Shared → Prop} (hl : s.heap.IsTuple l (intItems xs))
    (h : ∀ s₂ : Shared, s₂ = { s with heap := s.heap.push { cls := .type "tuple_iterator", data := .fields #[.ref l, .int 0 0] } } →
      (s₂.heap.IsTupleIter s.heap.objs.size l 0 ∧ s₂.heap.IsTuple l (intItems xs)) → (∀ b ∈ [s.heap.objs.size, l], b < s₂.heap.objs.size) → l ≠ s.heap.objs.size → Q (.ref s.heap.objs.size) s₂) :
    wpAny (model prog w) A (pyIter (.ref l)) Q E s := by
  have hlt : l < s.heap.objs.size := by obtain ⟨_, e, _⟩ := hl; exact Heap.lt_size e
  refine wpAny_pyIter_tuple hl (h _ rfl ⟨⟨_, Heap.get?_push_size _ rfl, rfl, rfl⟩, hl.push _⟩ (fun b hb => ?_) (Nat.ne_of_lt hlt))
  show b < (s.heap.push _).objs.size
  rw [Heap.size_push]
  rcases List.mem_cons.mp hb with rfl | hb
  · exact Nat.lt_succ_self _
  · rcases List.mem_cons.mp hb with rfl | hb
    · exact Nat.lt_succ_of_lt hlt
    · cases hb
theorem x_oldT {h' : Heap} {ob : Obj} (hk : ∀ b o, b ∉ [s.heap.objs.size] → (s.heap.push ob).get? b = some o → h'.get? b = some o) :
    ∀ b o, s.heap.get? b = some o → h'.get? b = some o := fun b o e => by
  refine hk b o (fun hm => ?_) (Heap.get?_push_of_some _ e)
  rcases List.mem_cons.mp hm with e1 | hm
  · exact absurd (e1 ▸ Heap.lt_size e) (Nat.lt_irrefl _)
  · cases hm
theorem x_sumTup {Q : Value → Shared → Prop} (hh : A.handled = none) (hl : s.heap.IsTuple l (intItems xs))
    (h : ∀ h' tk t', (∀ b o, s.heap.get? b = some o → h'.get? b = some o) → Q (.int (preSum (numAt xs) xs.size) t') { s with heap := h', toks := tk }) :
    wpAny (model prog w) A (call (.builtin "sum") [.ref l]) Q E s := by
  refine call_sum_walkG (x_iterTup hl fun s₂ e st hfp hlI => ?_)
  subst e
  refine ⟨_, _, _, _, _, _, numAt xs, rfl, Walks.tuple (A := A.in1) hh _ l hlI (intItems xs), st, hfp, (fun _ _ => intItems_at), fun h' tk t' hk => ?_⟩
  have := h h' tk t' (x_oldT hk)
  simpa [intItems] using this
theorem x_maxTup {Q : Value → Shared → Prop} (hh : A.handled = none) (hl : s.heap.IsTuple l (intItems xs)) (hne : 0 < xs.size)
    (h : ∀ v h' tk, (intItems xs)[argBest (fun i j => decide (numAt xs i > numAt xs j)) (xs.size - 1)]? = some v → (∀ b o, s.heap.get? b = some o → h'.get? b = some o) → Q v { s with heap := h', toks := tk }) :
    wpAny (model prog w) A (call (.builtin "max") [.ref l]) Q E s := by
  refine call_max_walk (x_iterTup hl fun s₂ e st hfp hlI => ?_)
  subst e
  refine ⟨_, _, _, _, _, _, _, rfl, Walks.tuple (A := A.in1) hh _ l hlI (intItems xs), st, hfp, by simpa [intItems] using hne, CmpOf.ints_gt (numAt xs) (fun _ _ => intItems_at), fun v h' tk hP hk => ?_⟩
  exact h v h' tk (by simpa [intItems] using hP) (x_oldT hk)
theorem x_minTup {Q : Value → Shared → Prop} (hh : A.handled = none) (hl : s.heap.IsTuple l (intItems xs)) (hne : 0 < xs.size)
    (h : ∀ v h' tk, (intItems xs)[argBest (fun i j => decide (numAt xs i < numAt xs j)) (xs.size - 1)]? = some v → (∀ b o, s.heap.get? b = some o → h'.get? b = some o) → Q v { s with heap := h', toks := tk }) :
    wpAny (model prog w) A (call (.builtin "min") [.ref l]) Q E s := by
  refine call_min_walk (x_iterTup hl fun s₂ e st hfp hlI => ?_)
  subst e
  refine ⟨_, _, _, _, _, _, _, rfl, Walks.tuple (A := A.in1) hh _ l hlI (intItems xs), st, hfp, by simpa [intItems] using hne, CmpOf.ints_lt (numAt xs) (fun _ _ => intItems_at), fun v h' tk hP hk => ?_⟩
  exact h v h' tk (by simpa [intItems] using hP) (x_oldT hk)
theorem x_cmpIn {op : CmpOp} {H : Heap} {P : Nat → Value → Prop} {bt : Nat → Nat → Bool} (h : CmpOf prog w A op P bt) : CmpIn prog w A op H P bt := fun i j vi vj s Q E _ a b c => h i j vi vj s Q E a b c
/-- min(x, default=d) of a tuple or list of ints: the default where it is empty -/
theorem x_minD {x : Value} {d : Value} {Q : Value → Shared → Prop} (hh : A.handled = none)
    (hx : (∃ l, x = .ref l ∧ s.heap.IsTuple l (intItems xs)) ∨ (∃ l, x = .ref l ∧ s.heap.IsList l (intItems xs)))
    (h0 : xs.size = 0 → ∀ h' tk, (∀ b o, s.heap.get? b = some o → h'.get? b = some o) → Q d { s with heap := h', toks := tk })
    (h : 0 < xs.size → ∀ v h' tk, (intItems xs)[argBest (fun i j => decide (numAt xs i < numAt xs j)) (xs.size - 1)]? = some v → (∀ b o, s.heap.get? b = some o → h'.get? b = some o) → Q v { s with heap := h', toks := tk }) :
    wpAny (model prog w) A (call (.builtin "min") [x] [(Str.ofString "default", d)]) Q E s := by
  have mv : ∀ {ob : Obj} {s' : Shared}, Moved [s.heap.objs.size] (fun a b => b = a) { s with heap := s.heap.push ob } s' → ∃ h' tk, s' = { s with heap := h', toks := tk } ∧ ∀ b o, s.heap.get? b = some o → h'.get? b = some o := fun {ob s'} m => by
    obtain ⟨hp, g, dd, tk, os⟩ := s'
    have h1 : g = s.gens := m.gens
    have h2 : dd = s.drawn := m.drawn
    have h3 : os = s.os := m.os
    subst h1 h2 h3
    exact ⟨hp, tk, rfl, fun b o e => m.heap b o (fun hm => by
      rcases List.mem_cons.mp hm with e1 | hm
      · exact absurd (e1 ▸ Heap.lt_size e) (Nat.lt_irrefl _)
      · cases hm) (Heap.get?_push_of_some _ e)⟩
  have fin : ∀ {l : Addr} {ob : Obj} {St : Nat → Heap → Prop}, Walks prog w A.in1 s.heap.objs.size [s.heap.objs.size, l] [s.heap.objs.size] (intItems xs).size (fun i v => (intItems xs)[i]? = some v) St → St 0 (s.heap.push ob) →
      (∀ b ∈ [s.heap.objs.size, l], b < (s.heap.push ob).objs.size) →
      ∃ I fp wr G n P St H bt, (Value.ref s.heap.objs.size) = .ref I ∧ WalksS prog w A.in1 I fp wr G n P St ∧ St 0 { s with heap := s.heap.push ob } ∧ (∀ b ∈ fp, b < (s.heap.push ob).objs.size) ∧
      (∀ b o, H.get? b = some o → b ∉ wr) ∧ (∀ b o, H.get? b = some o → (s.heap.push ob).get? b = some o) ∧ (n = 0 → ∀ s', Moved wr G { s with heap := s.heap.push ob } s' → Q d s') ∧
      (0 < n → CmpIn prog w A.in1 .Lt H P bt ∧ ∀ v s', P (argBest bt (n - 1)) v → Moved wr G { s with heap := s.heap.push ob } s' → Q v s') := fun {l ob St} W st hfp => by
    have hsz : (intItems xs).size = xs.size := by simp [intItems]
    refine ⟨_, _, _, _, _, _, _, s.heap, _, rfl, W.toS, st, hfp, fun b o e hb => absurd (Heap.lt_size e) ((List.mem_singleton.mp hb) ▸ Nat.lt_irrefl _), fun b o e => Heap.get?_push_of_some _ e, fun hn s' m => ?_,
      fun hn => ⟨x_cmpIn (CmpOf.ints_lt (numAt xs) (fun _ _ => intItems_at)), fun v s' hP m => ?_⟩⟩
    · obtain ⟨h', tk, rfl, k⟩ := mv m
      exact h0 (by omega) h' tk k
    · obtain ⟨h', tk, rfl, k⟩ := mv m
      rw [hsz] at hP
      exact h (by omega) v h' tk hP k
  refine call_min_walkD ?_
  rcases hx with ⟨l, rfl, hl⟩ | ⟨l, rfl, hl⟩
  · refine x_iterTup hl fun s₂ e st hfp hlI => ?_
    subst e
    exact fin (Walks.tuple (A := A.in1) hh _ l hlI (intItems xs)) st hfp
  · refine iter_intList hl fun s₂ e st hfp hlI => ?_
    subst e
    exact fin (Walks.list (A := A.in1) hh _ l hlI (intItems xs)) st hfp
end
end PySem
namespace L2
open PySem PySem.Spec PyProof.Rows
section
variable {X : Cx}
def rSumT (K : PySem.W.Frag) : List V → Hp → VK → Prop := fun vs H Q => ∃ (a : Addr) (ns : List Int), vs = [V.ref a] ∧ SqT K H a (ns.map V.int) ∧ Q (.int ns.sum) H
theorem x_ints {its : List Value} {ns : List Int} (hi : IntsAre its ns) : ∃ xs : Array (Int × Tok), its.toArray = intItems xs ∧ xs.toList.map (·.1) = ns := by
  obtain ⟨xs, e⟩ := hi.allInts.items
  have hn : numsOf (intItems xs).toList = ns := by rw [← e]; exact hi.numsOf
  rw [nums_intItems] at hn
  exact ⟨xs, e, hn⟩
theorem cr_sumT (hc : X.calm = true) : CallR X (.builtin "sum") (rSumT X.K) := by
  intro pins s σ H vs us Q I r h
  obtain ⟨a, ns, rfl, hs, q⟩ := h
  obtain ⟨its, rv, hl, _⟩ := I.tuple hs
  rw [Vals.ref1 r]
  obtain ⟨xs, e, hn⟩ := x_ints rv.ints
  rw [e] at hl
  refine PySem.x_sumTup (I.ok.hd hc) hl fun h' tk t' hk => ?_
  rw [preSum_eq, List.take_of_length_le (by simp), hn]
  exact ⟨.int _, H, I.kept hk, ⟨_, rfl⟩, q⟩
def IsMax (ns : List Int) (m : Int) : Prop := m ∈ ns ∧ ∀ y, y ∈ ns → y ≤ m
def IsMin (ns : List Int) (m : Int) : Prop := m ∈ ns ∧ ∀ y, y ∈ ns → m ≤ y
theorem x_bestMax {xs : Array (Int × Tok)} {ns : List Int} (hn : xs.toList.map (·.1) = ns) (hne : 0 < xs.size) {v : Value} (hv : (intItems xs)[argBest (fun i j => decide (numAt xs i > numAt xs j)) (xs.size - 1)]? = some v) :
    ∃ m t, v = .int m t ∧ IsMax ns m := by
  obtain ⟨t, rfl⟩ := intItems_at hv
  obtain ⟨h1, h2⟩ := argBest_gt (numAt xs) (xs.size - 1)
  subst hn
  refine ⟨_, t, rfl, ?_, fun a ha => ?_⟩
  · rw [numAt_eq]; exact PySem.getD_mem (by rw [List.length_map, Array.length_toList]; omega)
  · obtain ⟨j, hj, rfl⟩ := mem_getD ha
    rw [List.length_map, Array.length_toList] at hj
    rw [← numAt_eq]; exact h2 j (by omega)
theorem x_bestMin {xs : Array (Int × Tok)} {ns : List Int} (hn : xs.toList.map (·.1) = ns) (hne : 0 < xs.size) {v : Value} (hv : (intItems xs)[argBest (fun i j => decide (numAt xs i < numAt xs j)) (xs.size - 1)]? = some v) :
    ∃ m t, v = .int m t ∧ IsMin ns m := by
  obtain ⟨t, rfl⟩ := intItems_at hv
  obtain ⟨h1, h2⟩ := argBest_lt (numAt xs) (xs.size - 1)
  subst hn
  refine ⟨_, t, rfl, ?_, fun a ha => ?_⟩
  · rw [numAt_eq]; exact PySem.getD_mem (by rw [List.length_map, Array.length_toList]; omega)
  · obtain ⟨j, hj, rfl⟩ := mem_getD ha
    rw [List.length_map, Array.length_toList] at hj
    rw [← numAt_eq]; exact h2 j (by omega)
def rMaxT (K : PySem.W.Frag) : List V → Hp → VK → Prop := fun vs H Q => ∃ (a : Addr) (ns : List Int), vs = [V.ref a] ∧ SqT K H a (ns.map V.int) ∧ 0 < ns.length ∧ ∀ m, m ∈ ns → (∀ y, y ∈ ns → y ≤ m) → Q (.int m) H
def rMinT (K : PySem.W.Frag) : List V → Hp → VK → Prop := fun vs H Q => ∃ (a : Addr) (ns : List Int), vs = [V.ref a] ∧ SqT K H a (ns.map V.int) ∧ 0 < ns.length ∧ ∀ m, m ∈ ns → (∀ y, y ∈ ns → m ≤ y) → Q (.int m) H
theorem x_size {xs : Array (Int × Tok)} {ns : List Int} (hn : xs.toList.map (·.1) = ns) : ns.length = xs.size := by rw [← hn, List.length_map, Array.length_toList]
theorem cr_maxT (hc : X.calm = true) : CallR X (.builtin "max") (rMaxT X.K) := by
  intro pins s σ H vs us Q I r h
  obtain ⟨a, ns, rfl, hs, hne, q⟩ := h
  obtain ⟨its, rv, hl, _⟩ := I.tuple hs
  rw [Vals.ref1 r]
  obtain ⟨xs, e, hn⟩ := x_ints rv.ints
  rw [e] at hl
  have hsz := x_size hn
  refine PySem.x_maxTup (I.ok.hd hc) hl (by omega) fun v h' tk hv hk => ?_
  obtain ⟨m, t, rfl, h1, h2⟩ := x_bestMax hn (by omega) hv
  exact ⟨.int m, H, I.kept hk, ⟨_, rfl⟩, q m h1 h2⟩
theorem cr_minT (hc : X.calm = true) : CallR X (.builtin "min") (rMinT X.K) := by
  intro pins s σ H vs us Q I r h
  obtain ⟨a, ns, rfl, hs, hne, q⟩ := h
  obtain ⟨its, rv, hl, _⟩ := I.tuple hs
  rw [Vals.ref1 r]
  obtain ⟨xs, e, hn⟩ := x_ints rv.ints
  rw [e] at hl
  have hsz := x_size hn
  refine PySem.x_minTup (I.ok.hd hc) hl (by omega) fun v h' tk hv hk => ?_
  obtain ⟨m, t, rfl, h1, h2⟩ := x_bestMin hn (by omega) hv
  exact ⟨.int m, H, I.kept hk, ⟨_, rfl⟩, q m h1 h2⟩
def rMinDf (K : PySem.W.Frag) : List V → List V → Hp → VK → Prop := fun vs zs H Q => ∃ (a : Addr) (ns : List Int) (d : V), vs = [V.ref a] ∧ zs = [d] ∧ (SqT K H a (ns.map V.int) ∨ SqL K H a (ns.map V.int)) ∧ (ns = [] → Q d H) ∧ ∀ m, m ∈ ns → (∀ y, y ∈ ns → m ≤ y) → Q (.int m) H
theorem cr_minDf (hc : X.calm = true) : CallRK X (.builtin "min") [Str.ofString "default"] (rMinDf X.K) := by
  intro pins s σ H vs zs us ws Q I r rz h
  obtain ⟨a, ns, d, rfl, rfl, hs, q0, q⟩ := h
  rw [Vals.ref1 r]
  obtain ⟨u, rfl, ru⟩ := vals1 rz
  have main : ∀ {its : List Value}, Vals (ns.map V.int) its → (s.heap.IsTuple a its.toArray ∨ s.heap.IsList a its.toArray) → wpAny (model X.prog X.w) X.A (call (.builtin "min") [.ref a] [(Str.ofString "default", u)]) (EP X pins σ Q) X.xe s := fun {its} rv hl => by
    obtain ⟨xs, e, hn⟩ := x_ints rv.ints
    rw [e] at hl
    have hsz := x_size hn
    refine PySem.x_minD (xs := xs) (I.ok.hd hc) (hl.elim (fun h => .inl ⟨a, rfl, h⟩) fun h => .inr ⟨a, rfl, h⟩) (fun h0 h' tk hk => ?_) fun h0 v h' tk hv hk => ?_
    · exact ⟨d, H, I.kept hk, ru, q0 (List.length_eq_zero_iff.mp (by omega))⟩
    · obtain ⟨m, t, rfl, h1, h2⟩ := x_bestMin hn (by omega) hv
      exact ⟨.int m, H, I.kept hk, ⟨_, rfl⟩, q m h1 h2⟩
  rcases hs with hs | hs
  · obtain ⟨its, rv, hl, _⟩ := I.tuple hs
    exact main rv (.inl hl)
  · obtain ⟨its, rv, hl, _⟩ := I.list hs
    exact main rv (.inr hl.isList)
end
end L2
end

section
set_option maxRecDepth 100000
set_option maxHeartbeats 4000000
/-! zip of two sequences, each a list or a tuple -/
namespace L2
open PySem PySem.Spec PyProof.Rows
/-- a sequence at a: a tuple (k) or a list -/
def SqK (k : Bool) (K : PySem.W.Frag) (H : Hp) (a : Addr) (xs : List V) : Prop := match k with | true => SqT K H a xs | false => SqL K H a xs
def ItK (k : Bool) (h : Heap) (it a : Addr) (i : Nat) : Prop := match k with | true => h.IsTupleIter it a i | false => h.IsListIter it a i
def RwK (k : Bool) (h : Heap) (a : Addr) (its : Array Value) : Prop := match k with | true => h.IsTuple a its | false => h.IsList a its
def itObj (k : Bool) (a : Addr) : Obj := match k with
  | true => { cls := .type "tuple_iterator", data := .fields #[.ref a, .int 0 0] }
  | false => { cls := .type "list_iterator", data := .fields #[.ref a, .int 0 0] }
theorem rw_at {k : Bool} {h h' : Heap} {a : Addr} {its : Array Value} (x : RwK k h a its) (e : ∀ o, h.get? a = some o → h'.get? a = some o) : RwK k h' a its := by
  cases k
  · exact Heap.IsList.at x e
  · exact Heap.IsTuple.at x e
theorem it_at {k : Bool} {h h' : Heap} {it a : Addr} {i : Nat} (x : ItK k h it a i) (e : ∀ o, h.get? it = some o → h'.get? it = some o) : ItK k h' it a i := by
  cases k
  · exact Heap.IsListIter.at x e
  · exact Heap.IsTupleIter.at x e
theorem it_obj {k : Bool} {h : Heap} {it a : Addr} {i : Nat} (x : ItK k h it a i) : ∃ o, h.get? it = some o ∧ ∀ v, o.data ≠ .cell v := by
  cases k
  · obtain ⟨o, e, _, d⟩ := x
    exact ⟨o, e, fun v q => by rw [d] at q; cases q⟩
  · obtain ⟨o, e, _, d⟩ := x
    exact ⟨o, e, fun v q => by rw [d] at q; cases q⟩
theorem it_new {k : Bool} {h : Heap} {it a : Addr} (e : h.get? it = some (itObj k a)) : ItK k h it a 0 := by
  cases k
  · exact ⟨_, e, rfl, rfl⟩
  · exact ⟨_, e, rfl, rfl⟩
theorem rw_begins (k : Bool) (a : Addr) (its : Array Value) : Begins (.ref a) (itObj k a) fun h => RwK k h a its := by
  cases k
  · exact begins_list a its
  · exact begins_tuple a its
theorem rw_draws {k : Bool} {prog : Program} {w : World} {A : Around} (hh : A.handled = none) (it a : Addr) (hne : a ≠ it) (its : Array Value) :
    Draws prog w A it [it, a] its.size (fun i v => its[i]? = some v) (fun i h => ItK k h it a i ∧ RwK k h a its) := by
  cases k
  · exact Draws.list hh it a hne its
  · exact Draws.tuple hh it a hne its
section
variable {X : Cx} {pins : List (Addr × Obj)} {σ : St} {H : Hp} {s : Shared}
theorem Inv.seqK {k : Bool} {a : Addr} {xs : List V} (I : Inv X pins σ H s) (h : SqK k X.K H a xs) : ∃ its : List Value, Vals xs its ∧ RwK k s.heap a its.toArray := by
  cases k
  · obtain ⟨its, r, p, _⟩ := I.list h
    exact ⟨its, r, p.isList⟩
  · obtain ⟨its, r, p, _⟩ := I.tuple h
    exact ⟨its, r, p⟩
theorem rw_lt {k : Bool} {h : Heap} {a : Addr} {its : Array Value} (x : RwK k h a its) : a < h.objs.size := by
  cases k
  · obtain ⟨_, e, _⟩ := x; exact Heap.lt_size e
  · obtain ⟨_, e, _⟩ := x; exact Heap.lt_size e
theorem Inv.seqK_inj {k : Bool} {a : Addr} {xs ys : List V} (I : Inv X pins σ H s) (h : SqK k X.K H a xs) (h' : SqK k X.K H a ys) : xs = ys := by
  cases k
  · exact I.list_inj h h'
  · exact I.tuple_inj h h'
end
/-- the two sequences as they stand at each turn, their items in new pairs -/
def Itq (K : PySem.W.Frag) (k l : Bool) (a b : Addr) : It :=
  ⟨fun i H => ∃ (xs ys : List V) (x y : V), SqK k K H a xs ∧ SqK l K H b ys ∧ xs[i]? = some x ∧ ys[i]? = some y,
    fun i H v H' => ∃ T x y, v = .ref T ∧ H T = none ∧ H' = upd H T (.tup [x, y]) ∧ (∀ xs, SqK k K H a xs → xs[i]? = some x) ∧ ∀ ys, SqK l K H b ys → ys[i]? = some y,
    fun i H => ∃ xs ys : List V, SqK k K H a xs ∧ SqK l K H b ys ∧ i ≤ xs.length ∧ i ≤ ys.length ∧ (i = xs.length ∨ i = ys.length)⟩
theorem rw_ne {k : Bool} {h : Heap} {a it : Addr} {i : Nat} {its : Array Value} (x : RwK k h a its) (y : ItK k h it a i) : a ≠ it := fun e => by
  subst e
  cases k
  · obtain ⟨o, e1, n, c1, _⟩ := x
    obtain ⟨o', e2, c2, _⟩ := y
    rw [e1] at e2
    cases e2
    simp_all
  · obtain ⟨o, e1, c1, _⟩ := x
    obtain ⟨o', e2, c2, _⟩ := y
    rw [e1] at e2
    cases e2
    rw [c1] at c2
    injection c2 with e3
    exact absurd e3 (by decide)
theorem turn_q {P : Program} {w : World} {K : PySem.W.Frag} {elts : List Expr} {kk : Nat} {tpos : Pos} {k l : Bool} {a b z TI TO i1 i2 : Addr} (S : ZipSep2 z TI TO i1 i2 [i1, a] [i2, b]) :
    Turn P w K (.Tuple elts kk tpos) (Itq K k l a b) [z, TI, TO, i1, i2] z (fun i h => IsZip h z TI TO .none ∧ IsTupOf2 h TI (.ref i1) (.ref i2) ∧ (∃ x y, IsTupOf2 h TO x y) ∧ ItK k h i1 a i ∧ ItK l h i2 b i) where
  mem := List.mem_cons_self ..
  obj := fun i h st c hc => by
    obtain ⟨hz, hTI, ⟨x, y, hTO⟩, q1, q2⟩ := st
    simp only [List.mem_cons, List.not_mem_nil, or_false] at hc
    rcases hc with rfl | rfl | rfl | rfl | rfl
    · exact ⟨_, hz, fun v q => nomatch q⟩
    · exact ⟨_, hTI, fun v q => nomatch q⟩
    · exact ⟨_, hTO, fun v q => nomatch q⟩
    · exact it_obj q1
    · exact it_obj q2
  keep := fun i h h' st kp => by
    obtain ⟨hz, hTI, ⟨x, y, hTO⟩, q1, q2⟩ := st
    exact ⟨kp z (by simp) _ hz, kp TI (by simp) _ hTI, ⟨x, y, kp TO (by simp) _ hTO⟩, it_at q1 fun o q => kp i1 (by simp) o q, it_at q2 fun o q => kp i2 (by simp) o q⟩
  item := by
    intro X hP hw hK hc i pins s σ H E I hf st hg
    subst hP hw hK
    obtain ⟨hz, hTI, ⟨x0, y0, hTO⟩, q1, q2⟩ := st
    obtain ⟨xs, ys, x, y, hqx, hqy, hx, hy⟩ := hg
    obtain ⟨its, rv, p⟩ := I.seqK hqx
    obtain ⟨its2, rv2, p2⟩ := I.seqK hqy
    obtain ⟨u, hu, ru⟩ := rv.get hx
    obtain ⟨u2, hu2, ru2⟩ := rv2.get hy
    have hzl : z < s.heap.objs.size := Heap.lt_size hz
    have hh : X.A.in1.handled = none := I.ok.hd hc
    refine wpAny_pyNext_zipD2_item S (rw_draws hh i1 a (rw_ne p q1) its.toArray) (rw_draws hh i2 b (rw_ne p2 q2) its2.toArray) hz hTI hTO ⟨q1, p⟩ ⟨q2, p2⟩ (by
      have := (List.getElem?_eq_some_iff.mp hu).1
      simpa using this) (by
      have := (List.getElem?_eq_some_iff.mp hu2).1
      simpa using this) fun v1 v2 h' tk e1 e2 z' TO' st1 st2 hT hsz kp => ?_
    have e1' : its.toArray[i]? = some v1 := e1
    have e2' : its2.toArray[i]? = some v2 := e2
    have f1 : v1 = u := by
      rw [List.getElem?_toArray] at e1'
      rw [hu] at e1'
      exact (Option.some.inj e1').symm
    have f2 : v2 = u2 := by
      rw [List.getElem?_toArray] at e2'
      rw [hu2] at e2'
      exact (Option.some.inj e2').symm
    subst f1 f2
    refine ⟨_, rfl, wpAny_letOwnedTupleGo_zip (s := { s with heap := h', toks := tk }) z' fun h'' z'' sb => ?_⟩
    have hT2 : h''.get? s.heap.objs.size = some { cls := .type "tuple", data := .seq #[v1, v2] } := (sb.2 _ (Nat.ne_of_gt hzl)).trans hT
    have new : ObjOk X.prog X.w (upd H s.heap.objs.size (.tup [x, y])) h'' s.heap.objs.size (.tup [x, y]) :=
      ⟨by show 2 ≤ sizeLine; decide, [v1, v2], .cons ru (.cons ru2 .nil), ⟨_, hT2, rfl, _, rfl⟩⟩
    have I1 : Inv X pins σ (upd H s.heap.objs.size (.tup [x, y])) { s with heap := h'', toks := tk } :=
      I.turnedNew (t' := tk) (ch := [z, TI, TO, i1, i2]) (fun c o hb q => by
        simp only [List.mem_cons, List.not_mem_nil, or_false, not_or] at hb
        exact (sb.2 c hb.1).trans (kp c o hb.1 hb.2.2.1 hb.2.2.2.1 hb.2.2.2.2 q)) hf (Nat.le_refl _) new
    have iz1 : i1 ≠ z := fun e => S.zf1 (by rw [← e]; exact S.mem1)
    have iz2 : i2 ≠ z := fun e => S.zf2 (by rw [← e]; exact S.mem2)
    refine ⟨.ref s.heap.objs.size, _, I1, rfl, ⟨_, x, y, rfl, I.hok.fresh (Nat.le_refl _), rfl, fun l' hl => by rw [I.seqK_inj hl hqx]; exact hx, fun l' hl => by rw [I.seqK_inj hl hqy]; exact hy⟩, ⟨z'', ?_, ⟨v1, v2, ?_⟩, ?_, ?_⟩, fun c hcm => ?_⟩
    · exact (sb.2 _ S.TIz).trans (kp _ _ S.TIz S.TITO S.TIi1 S.TIi2 hTI)
    · exact (sb.2 _ S.TOz).trans TO'
    · exact it_at st1.1 fun o q => (sb.2 _ iz1).trans q
    · exact it_at st2.1 fun o q => (sb.2 _ iz2).trans q
    · have hlt : c < s.heap.objs.size := by
        have w0 : ∀ {k : Bool} {it a : Addr}, ItK k s.heap it a i → it < s.heap.objs.size := fun {k it a} x => by
          obtain ⟨o, e, _⟩ := it_obj x
          exact Heap.lt_size e
        simp only [List.mem_cons, List.not_mem_nil, or_false] at hcm
        rcases hcm with rfl | rfl | rfl | rfl | rfl
        · exact hzl
        · exact Heap.lt_size hTI
        · exact Heap.lt_size hTO
        · exact w0 q1
        · exact w0 q2
      rw [upd_ne (Nat.ne_of_lt hlt)]
      exact (hf c hcm).1
  done := by
    intro X hP hw hK hc i pins s σ H E I hf st hg
    subst hP hw hK
    obtain ⟨hz, hTI, ⟨x0, y0, hTO⟩, q1, q2⟩ := st
    obtain ⟨xs, ys, hqx, hqy, l1, l2, hend⟩ := hg
    obtain ⟨its, rv, p⟩ := I.seqK hqx
    obtain ⟨its2, rv2, p2⟩ := I.seqK hqy
    have n1 := rv.length
    have n2 := rv2.length
    have hh : X.A.in1.handled = none := I.ok.hd hc
    exact wpAny_pyNext_zipD2_end S (rw_draws hh i1 a (rw_ne p q1) its.toArray) (rw_draws hh i2 b (rw_ne p2 q2) its2.toArray) hz hTI hTO ⟨q1, p⟩ ⟨q2, p2⟩ (by simp; omega) (by simp; omega) (by simp; omega) fun h' tk kp =>
      ⟨rfl, I.turnedL (t' := tk) (ch := [z, TI, TO, i1, i2]) (fun c o hb q => by
        simp only [List.mem_cons, List.not_mem_nil, or_false, not_or] at hb
        exact kp c o hb.1 hb.2.2.1 hb.2.2.2.1 hb.2.2.2.2 q) hf⟩
  self := fun A i s Q E st h => wpAny_pyIter_zip st.1 h
def iZipK (K : PySem.W.Frag) (ta : TA) : TI := fun σ H R => ta σ H fun vs H1 => ∃ k l a b xs ys, vs = [.ref a, .ref b] ∧ SqK k K H1 a xs ∧ SqK l K H1 b ys ∧ R (Itq K k l a b) H1
theorem pi_zipK {X : Cx} {e e2 : Expr} {ta : TA} {p pos tpos : Pos} {elts : List Expr} {kk : Nat} (hg : Gl X "zip") (hm : X.mg "zip" = none) (ha : PA X [e, e2] ta)
    (hs : starEach [e, e2] X.env = (false, eval e X.env) :: starEach [e2] X.env := by rfl) (hpl : (backTo pos (starEach [e2] X.env)).any (·.1) = false := by rfl) :
    PI X (.Tuple elts kk tpos) (.Call (.Name "zip" p) [e, e2] [] pos) (iZipK X.K ta) := by
  refine ⟨fun pins s σ H R I h => ?_⟩
  refine Call_ (ld_blt I hg hm PyProof.Rows.boot_zip (PyProof.Rows.callWith_type1 (thn (ha.run pos pins s σ H _ I h) fun us s1 ⟨vs, H1, I1, r1, q1⟩ => ?_) hs hpl))
  obtain ⟨k, l, a, b, xs, ys, ex, hqx, hqy, q⟩ := q1
  subst ex
  obtain ⟨u, u', rfl, r, r'⟩ := vals2 r1
  cases r
  cases r'
  obtain ⟨its, rv, p1⟩ := I1.seqK hqx
  obtain ⟨its2, rv2, p2⟩ := I1.seqK hqy
  refine zip_begins2 (rw_begins k a its.toArray) (rw_begins l b its2.toArray) p1 p2 fun h' hz hTI hTO o1 o2 hsz hk => wpAny_pyIter_zip hz ?_
  have I2 : Inv X pins σ H1 { s1 with heap := h' } := I1.kept (t' := s1.toks) hk
  have sep : ZipSep2 (s1.heap.objs.size + 4) (s1.heap.objs.size + 2) (s1.heap.objs.size + 3) s1.heap.objs.size (s1.heap.objs.size + 1) [s1.heap.objs.size, a] [s1.heap.objs.size + 1, b] :=
    zip_sep2 (fun c hc => by rw [List.mem_singleton.mp hc]; exact rw_lt p1) fun c hc => by rw [List.mem_singleton.mp hc]; exact rw_lt p2
  refine ⟨s1.heap.objs.size + 4, [s1.heap.objs.size + 4, s1.heap.objs.size + 2, s1.heap.objs.size + 3, s1.heap.objs.size, s1.heap.objs.size + 1], _, _, H1, rfl, I2, turn_q (k := k) (l := l) sep, ⟨hz, hTI, ⟨_, _, hTO⟩, it_new o1, it_new o2⟩, fun c hc => ?_, q⟩
  have hle : s1.heap.objs.size ≤ c := by
    simp only [List.mem_cons, List.not_mem_nil, or_false] at hc
    rcases hc with rfl | rfl | rfl | rfl | rfl <;> first | exact Nat.le_add_right _ _ | exact Nat.le_refl _
  exact I1.fpOk hle (I1.hok.fresh hle)
/-- a sequence of either kind, walked -/
def itKind (k : Bool) (K : PySem.W.Frag) (a : Addr) : It := match k with | true => Itt K a | false => Itl K a
def iAny (K : PySem.W.Frag) (tl : TE) : TI := fun σ H R => tl σ H fun x H1 => ∃ k a xs, x = .ref a ∧ SqK k K H1 a xs ∧ R (itKind k K a) H1
theorem pi_any {X : Cx} {tg e : Expr} {tl : TE} (hl : PE X e tl) : PI X tg e (iAny X.K tl) := by
  refine ⟨fun pins s σ H R I h => thn (hl.run pins s σ H _ I h) fun v s1 ⟨x, H1, I1, r1, k, a, xs, ex, hq, q⟩ => ?_⟩
  subst ex
  cases r1
  obtain ⟨its, rv, p⟩ := I1.seqK hq
  refine (rw_begins k a its.toArray).iter _ _ _ _ s1 _ p ?_
  have I2 : Inv X pins σ H1 { s1 with heap := s1.heap.push (itObj k a) } := I1.kept (t' := s1.toks) fun b o e => Heap.get?_push_of_some _ e
  have hn : (s1.heap.push (itObj k a)).get? s1.heap.objs.size = some (itObj k a) := Heap.get?_push_size _ (rw_begins k a its.toArray).free
  have fp : ∀ b ∈ [s1.heap.objs.size], FpOk X pins H1 b := fun b hb => by
    rw [List.mem_singleton.mp hb]
    exact I1.fpOk (Nat.le_refl _) (I1.hok.fresh (Nat.le_refl _))
  cases k
  · exact ⟨s1.heap.objs.size, [s1.heap.objs.size], _, _, H1, rfl, I2, turn_list a _, ⟨_, hn, rfl, rfl⟩, fp, q⟩
  · exact ⟨s1.heap.objs.size, [s1.heap.objs.size], _, _, H1, rfl, I2, turn_tuple a _, ⟨_, hn, rfl, rfl⟩, fp, q⟩
end L2
end

section
set_option maxRecDepth 100000
set_option maxHeartbeats 4000000
namespace DL
open PySem PySem.Spec PyProof.Rows L2
section
variable {G : GC} {W : WX} {X : Cx} {pos : Pos}
/-! ### sum, least, greatest -/
def ofInts (f : List Int → M Rs) : D → M Rs
  | .lst ds => (match toInts ds with | some ns => f ns | none => .bad)
  | .tup ds => (match toInts ds with | some ns => f ns | none => .bad)
  | _ => .bad
def one1 (f : D → M Rs) : List D → M Rs | [d] => f d | _ => .bad
theorem cs_ints {r : List V → Hp → VK → Prop} {f : List Int → M Rs} (h : ∀ (a : Addr) (ns : List Int) (H : Hp) (Q : VK) (z : Rs), (SqL G.K H a (ns.map V.int) ∨ SqT G.K H a (ns.map V.int)) → f ns = .ok z → (∀ v, (∀ S, NewR G S H v H z ∨ ¬ Same S H) → Q v H) → r [.ref a] H Q) : CallS G r (one1 (ofInts f)) := fun S H xs ds z hS hr hz Q q => by
  unfold one1 at hz
  split at hz
  · rename_i d
    obtain ⟨v, rfl, rv⟩ := rp1 hr
    unfold ofInts at hz
    split at hz
    · obtain ⟨a, vs, rfl, ha, ra⟩ := rp_lst rv
      split at hz
      · rename_i ns e
        rw [toInts_rp ra e] at ha
        refine h a ns H Q z (.inl (.inl (.inl (hS _ _ ha)))) hz fun v hv => ?_
        rcases hv S with w | w
        · exact q v H w
        · exact absurd hS w
      · cases hz
    · obtain ⟨a, vs, rfl, ha, ra⟩ := rp_tup rv
      split at hz
      · rename_i ns e
        rw [toInts_rp ra e] at ha
        refine h a ns H Q z (.inr (same_t hS ha)) hz fun v hv => ?_
        rcases hv S with w | w
        · exact q v H w
        · exact absurd hS w
      · cases hz
    · cases hz
  · cases hz
theorem int_new (H : Hp) (i : Int) : ∀ S, NewR G S H (.int i) H (.fz (.int i)) ∨ ¬ Same S H := fun S => by
  by_cases h : Same S H
  · exact .inl (.val h (.int i))
  · exact .inr h
theorem CallR.alt {f : Value} {r r' : List V → Hp → VK → Prop} (h : CallR X f r) (h' : CallR X f r') : CallR X f (fun xs H Q => r xs H Q ∨ r' xs H Q) := CallR.or h h'
def oSum : List D → M Rs := one1 (ofInts fun ns => .ok (.fz (.int ns.sum)))
theorem cs_sum : CallS G (fun xs H Q => rSum G.K xs H Q ∨ rSumT G.K xs H Q) oSum := cs_ints fun a ns H Q z hs hz q => by
  cases hz
  have := q _ (int_new H ns.sum)
  rcases hs with h | h
  · exact .inl ⟨a, ns, rfl, h, this⟩
  · exact .inr ⟨a, ns, rfl, h, this⟩
theorem cr_sumA (hc : X.calm = true) : CallR X (.builtin "sum") (fun xs H Q => rSum X.K xs H Q ∨ rSumT X.K xs H Q) := CallR.or (cr_sum hc) (cr_sumT hc)
def maxI : List Int → Int | [] => 0 | n :: ns => ns.foldl max n
def minI : List Int → Int | [] => 0 | n :: ns => ns.foldl min n
theorem foldl_max_ge : ∀ (ns : List Int) (n : Int), n ≤ ns.foldl max n ∧ ∀ y ∈ ns, y ≤ ns.foldl max n
  | [], n => ⟨Int.le_refl _, fun y h => by cases h⟩
  | m :: ns, n => by
    obtain ⟨a, b⟩ := foldl_max_ge ns (max n m)
    simp only [List.foldl_cons]
    refine ⟨by omega, fun y h => ?_⟩
    rcases List.mem_cons.mp h with rfl | h
    · omega
    · exact b y h
theorem foldl_max_mem : ∀ (ns : List Int) (n : Int), ns.foldl max n = n ∨ ns.foldl max n ∈ ns
  | [], n => .inl rfl
  | m :: ns, n => by
    simp only [List.foldl_cons]
    rcases foldl_max_mem ns (max n m) with h | h
    · rw [h]
      by_cases c : n ≤ m
      · right; rw [show max n m = m by omega]; exact List.mem_cons_self ..
      · left; omega
    · exact .inr (List.mem_cons_of_mem _ h)
theorem maxI_is {ns : List Int} {m : Int} (h : m ∈ ns) (hm : ∀ y ∈ ns, y ≤ m) : m = maxI ns := by
  cases ns with
  | nil => cases h
  | cons n ns =>
    obtain ⟨a, b⟩ := foldl_max_ge ns n
    have h1 : m ≤ maxI (n :: ns) := by
      rcases List.mem_cons.mp h with rfl | h
      · exact a
      · exact b m h
    have h2 : maxI (n :: ns) ≤ m := by
      show ns.foldl max n ≤ m
      rcases foldl_max_mem ns n with e | e
      · rw [e]; exact hm n (List.mem_cons_self ..)
      · exact hm _ (List.mem_cons_of_mem _ e)
    omega
theorem maxI_ge {ns : List Int} : ∀ y ∈ ns, y ≤ maxI ns := fun y h => by
  cases ns with
  | nil => cases h
  | cons n ns =>
    obtain ⟨a, b⟩ := foldl_max_ge ns n
    rcases List.mem_cons.mp h with rfl | h
    · exact a
    · exact b y h
theorem maxI_mem {ns : List Int} (h : ns ≠ []) : maxI ns ∈ ns := by
  cases ns with
  | nil => exact absurd rfl h
  | cons n ns =>
    rcases foldl_max_mem ns n with e | e
    · show ns.foldl max n ∈ _
      rw [e]; exact List.mem_cons_self ..
    · exact List.mem_cons_of_mem _ e
theorem foldl_min_le : ∀ (ns : List Int) (n : Int), ns.foldl min n ≤ n ∧ ∀ y ∈ ns, ns.foldl min n ≤ y
  | [], n => ⟨Int.le_refl _, fun y h => by cases h⟩
  | m :: ns, n => by
    obtain ⟨a, b⟩ := foldl_min_le ns (min n m)
    simp only [List.foldl_cons]
    refine ⟨by omega, fun y h => ?_⟩
    rcases List.mem_cons.mp h with rfl | h
    · omega
    · exact b y h
theorem foldl_min_mem : ∀ (ns : List Int) (n : Int), ns.foldl min n = n ∨ ns.foldl min n ∈ ns
  | [], n => .inl rfl
  | m :: ns, n => by
    simp only [List.foldl_cons]
    rcases foldl_min_mem ns (min n m) with h | h
    · rw [h]
      by_cases c : m ≤ n
      · right; rw [show min n m = m by omega]; exact List.mem_cons_self ..
      · left; omega
    · exact .inr (List.mem_cons_of_mem _ h)
theorem minI_le {ns : List Int} : ∀ y ∈ ns, minI ns ≤ y := fun y h => by
  cases ns with
  | nil => cases h
  | cons n ns =>
    obtain ⟨a, b⟩ := foldl_min_le ns n
    rcases List.mem_cons.mp h with rfl | h
    · exact a
    · exact b y h
theorem minI_mem {ns : List Int} (h : ns ≠ []) : minI ns ∈ ns := by
  cases ns with
  | nil => exact absurd rfl h
  | cons n ns =>
    rcases foldl_min_mem ns n with e | e
    · show ns.foldl min n ∈ _
      rw [e]; exact List.mem_cons_self ..
    · exact List.mem_cons_of_mem _ e
theorem minI_is {ns : List Int} {m : Int} (h : m ∈ ns) (hm : ∀ y ∈ ns, m ≤ y) : m = minI ns := by
  have h0 : ns ≠ [] := fun e => by rw [e] at h; cases h
  have h1 := minI_le m h
  have h2 := hm _ (minI_mem h0)
  omega
def oMax1 : List D → M Rs := one1 (ofInts fun ns => if ns = [] then .bad else .ok (.fz (.int (maxI ns))))
def oMin1 : List D → M Rs := one1 (ofInts fun ns => if ns = [] then .bad else .ok (.fz (.int (minI ns))))
theorem cs_max1 : CallS G (fun xs H Q => rMax G.K xs H Q ∨ rMaxT G.K xs H Q) oMax1 := cs_ints fun a ns H Q z hs hz q => by
  split at hz
  · cases hz
  · rename_i h0
    cases hz
    have key : ∀ m, m ∈ ns → (∀ y, y ∈ ns → y ≤ m) → Q (.int m) H := fun m h1 h2 => by
      rw [maxI_is h1 h2]
      exact q _ (int_new H _)
    have hl := List.length_pos_iff.mpr h0
    rcases hs with h | h
    · exact .inl ⟨a, ns, rfl, h, hl, key⟩
    · exact .inr ⟨a, ns, rfl, h, hl, key⟩
theorem cs_min1 : CallS G (fun xs H Q => rMin G.K xs H Q ∨ rMinT G.K xs H Q) oMin1 := cs_ints fun a ns H Q z hs hz q => by
  split at hz
  · cases hz
  · rename_i h0
    cases hz
    have key : ∀ m, m ∈ ns → (∀ y, y ∈ ns → m ≤ y) → Q (.int m) H := fun m h1 h2 => by
      rw [minI_is h1 h2]
      exact q _ (int_new H _)
    have hl := List.length_pos_iff.mpr h0
    rcases hs with h | h
    · exact .inl ⟨a, ns, rfl, h, hl, key⟩
    · exact .inr ⟨a, ns, rfl, h, hl, key⟩
def r2I (g : Int → Int → Int) : List V → Hp → VK → Prop := fun xs H Q => ∃ i j, xs = [.int i, .int j] ∧ Q (.int (g i j)) H
def oMax : List D → M Rs := fun ds => orM (oMax1 ds) (oMax2 ds)
def oMin : List D → M Rs := fun ds => orM (oMin1 ds) (oMin2 ds)
theorem cs_max : CallS G (fun xs H Q => (rMax G.K xs H Q ∨ rMaxT G.K xs H Q) ∨ r2I (fun i j => if j > i then j else i) xs H Q) oMax := CallS.or cs_max1 cs_II
theorem cs_min : CallS G (fun xs H Q => (rMin G.K xs H Q ∨ rMinT G.K xs H Q) ∨ r2I (fun i j => if j < i then j else i) xs H Q) oMin := CallS.or cs_min1 cs_II
theorem cr_maxA (hc : X.calm = true) : CallR X (.builtin "max") (fun xs H Q => (rMax X.K xs H Q ∨ rMaxT X.K xs H Q) ∨ r2I (fun i j => if j > i then j else i) xs H Q) := CallR.or (CallR.or (cr_max hc) (cr_maxT hc)) (call_max2 hc)
theorem cr_minA (hc : X.calm = true) : CallR X (.builtin "min") (fun xs H Q => (rMin X.K xs H Q ∨ rMinT X.K xs H Q) ∨ r2I (fun i j => if j < i then j else i) xs H Q) := CallR.or (CallR.or (cr_min hc) (cr_minT hc)) (call_min2 hc)

/-- min(xs, default=d) -/
def oMinDf (x d : D) : M Rs := ofInts (fun ns => if ns = [] then .ok (.fz d) else .ok (.fz (.int (minI ns)))) x
theorem os_minDf : OpS G (fun x y H Q => rMinDf G.K [x] [y] H Q) oMinDf := fun S H x y d e z hS hx hy hz Q q => by
  have key : ∀ (a : Addr) (ns : List Int), x = .ref a → (SqT G.K H a (ns.map V.int) ∨ SqL G.K H a (ns.map V.int)) → (if ns = [] then (.ok (.fz e) : M Rs) else .ok (.fz (.int (minI ns)))) = .ok z → rMinDf G.K [x] [y] H Q := fun a ns ex hs h => by
    refine ⟨a, ns, y, by rw [ex], rfl, hs, fun h0 => ?_, fun m h1 h2 => ?_⟩
    · rw [if_pos h0] at h
      cases h
      exact q _ _ (.val hS hy)
    · rw [if_neg (by intro h0; rw [h0] at h1; cases h1)] at h
      cases h
      rw [minI_is h1 h2]
      exact q _ _ (.val hS (.int _))
  unfold oMinDf ofInts at hz
  split at hz
  · obtain ⟨a, vs, rfl, ha, ra⟩ := rp_lst hx
    split at hz
    · rename_i ns e1
      rw [toInts_rp ra e1] at ha
      exact key a ns rfl (.inr (.inl (.inl (hS _ _ ha)))) hz
    · cases hz
  · obtain ⟨a, vs, rfl, ha, ra⟩ := rp_tup hx
    split at hz
    · rename_i ns e1
      rw [toInts_rp ra e1] at ha
      exact key a ns rfl (.inl (same_t hS ha)) hz
    · cases hz
  · cases hz
theorem d_minDf {p kpos : Pos} {e e2' : Expr} {A B : List Nat} {f f2 : Env → M Rs} (hc : X.calm = true) (hg : Gl X "min") (hm : X.mg "min" = none) (h1 : DE G W X e A f) (h2 : DE G W X e2' B f2)
    (hpe : PA X [e] (tCons (tDE G W A f) tNil) → PK X [⟨some (Str.ofString "default"), e2', kpos⟩] (tCons (tDE G W B f2) tNil) → PE X (.Call (.Name "min" p) [e] [⟨some (Str.ofString "default"), e2', kpos⟩] pos) (tCKw (rMinDf X.K) (tCons (tDE G W A f) tNil) (tCons (tDE G W B f2) tNil)))
    (hst : starEach [e] X.env = (false, eval e X.env) :: starEach [] X.env := by rfl) :
    DE G W X (.Call (.Name "min" p) [e] [⟨some (Str.ofString "default"), e2', kpos⟩] pos) (A ++ B) (e2 oMinDf f f2) :=
  ⟨weakE (hpe (pa_cons h1.pe pa_nil hst) (pk_cons h2.pe pk_nil)) fun σ H Q ⟨hid, H0, env, R, h⟩ => two_run R h fun v w H2 x y s _ _ hv hw q => h1.k ▸ op_end (r := fun x y H Q => rMinDf G.K [x] [y] H Q) os_minDf R s hv hw q, h1.k⟩

/-! ### zip -/
def seqD : D → Option (List D) | .lst ds => some ds | .tup ds => some ds | _ => none
def oZip : List D → M (List D)
  | [a, b] => (match seqD a, seqD b with | some xs, some ys => .ok ((xs.zip ys).map fun p => .tup [p.1, p.2]) | _, _ => .bad)
  | _ => .bad
theorem seqK_of {S H : Hp} {x : V} {d : D} {ds : List D} (hS : Same S H) (r : Rp G S x d) (h : seqD d = some ds) : ∃ k a vs, x = .ref a ∧ (∀ H', Same S H' → SqK k G.K H' a vs) ∧ RpAll G S vs ds := by
  unfold seqD at h
  split at h
  · cases h
    obtain ⟨a, vs, rfl, ha, ra⟩ := rp_lst r
    exact ⟨false, a, vs, rfl, fun H' s => .inl (.inl (s _ _ ha)), ra⟩
  · cases h
    obtain ⟨a, vs, rfl, ha, ra⟩ := rp_tup r
    exact ⟨true, a, vs, rfl, fun H' s => same_t s ha, ra⟩
  · cases h
theorem di_zip {e e2' : Expr} {p tpos : Pos} {elts : List Expr} {kk : Nat} {A : List Nat} {f : Env → M (List D)} (hg : Gl X "zip") (hm : X.mg "zip" = none) (ha : DA G W X [e, e2'] A f)
    (hs : starEach [e, e2'] X.env = (false, eval e X.env) :: starEach [e2'] X.env := by rfl) (hpl : (backTo pos (starEach [e2'] X.env)).any (·.1) = false := by rfl) :
    DI G W X (.Tuple elts kk tpos) (.Call (.Name "zip" p) [e, e2'] [] pos) A (iA oZip f) :=
  ⟨weakI (pi_zipK hg hm ha.pa hs hpl) fun σ H R h => iA_run h fun hid H0 env as vs H' ds Rl s q e k => by
    unfold oZip at e
    split at e
    · split at e
      · rename_i d1 d2 xs ys e1 e2
        cases e
        obtain ⟨v, w, rfl, r1, r2⟩ := rp2 q
        obtain ⟨k1, a, vs, rfl, h1, ra⟩ := seqK_of cut_le r1 e1
        obtain ⟨k2, b, ws, rfl, h2, rb⟩ := seqK_of cut_le r2 e2
        have hk := ha.k
        refine ⟨k1, k2, a, b, vs, ws, rfl, hk ▸ h1 H' cut_le, hk ▸ h2 H' cut_le, k _ H' (Same.refl _) ?_⟩
        have l1 := ra.len
        have l2 := rb.len
        refine ⟨fun i H2 hi s2 => ?_, fun H2 s2 => ?_, fun i H2 x H3 hi s2 y => ?_⟩
        · simp only [List.length_map, List.length_zip] at hi
          exact ⟨vs, ws, vs[i], ws[i], hk ▸ h1 H2 s2, hk ▸ h2 H2 s2, List.getElem?_eq_getElem (by omega), List.getElem?_eq_getElem (by omega)⟩
        · refine ⟨vs, ws, hk ▸ h1 H2 s2, hk ▸ h2 H2 s2, ?_⟩
          simp only [List.length_map, List.length_zip]
          omega
        · simp only [List.length_map, List.length_zip] at hi
          obtain ⟨T, x1, y1, rfl, hT, rfl, q1, q2⟩ := y
          have g1 := q1 vs (hk ▸ h1 H2 s2)
          have g2 := q2 ws (hk ▸ h2 H2 s2)
          obtain ⟨dx, f1, p1⟩ := ra.getV g1
          obtain ⟨dy, f2, p2⟩ := rb.getV g2
          refine ⟨.tup [dx, dy], ?_, fun S1 s3 s4 => .tup s4 hT (.cons (p1.mono s3) (.cons (p2.mono s3) .nil))⟩
          rw [List.getElem?_map, (List.getElem?_zip_eq_some (z := (dx, dy))).mpr ⟨f1, f2⟩]
          rfl
      · cases e
    · cases e⟩

/-! ### isinstance with a built-in class -/
def tyD : D → Option String
  | .non => some "NoneType" | .bl _ => some "bool" | .int _ => some "int" | .str _ => some "str" | .tup _ => some "tuple" | .lst _ => some "list" | .scr _ => some "list" | .obj _ _ => none
def subTy (t u : String) : Bool := t == u || (t == "bool" && u == "int")
def oIsi (u : String) (d : D) : M Rs := match tyD d with | some t => .ok (.fz (.bl (subTy t u))) | none => .bad
theorem tyX_of {S H : Hp} {x : V} {d : D} {t : String} (hS : Same S H) (r : Rp G S x d) (h : tyD d = some t) : TyX G.K H x (.type t) := by
  cases r with
  | non => cases h; exact .base .non
  | bl b => cases h; exact .base (.bl b)
  | int b => cases h; exact .base (.int b)
  | str b => cases h; exact .base (.str b)
  | lst e _ => cases h; exact .base (.lst (hS _ _ e))
  | scr e =>
    cases h
    rcases hS.seq e with (e | ⟨o, e⟩) | ⟨o, its, n, e, c, _⟩
    · exact .base (.lst e)
    · exact .base (.frz e)
    · exact .kList e c
  | tup e _ =>
    cases h
    rcases same_t hS e with (e | ⟨o, e⟩) | ⟨o, its, n, e, c, _⟩
    · exact .base (.tup e)
    · exact .fTuple e
    · exact .kTuple e c
  | obj _ _ _ => cases h
def TyOk (K : PySem.W.Frag) (u : String) : Prop := ∀ t, t ∈ ["NoneType", "bool", "int", "str", "tuple", "list"] → PySem.W.kitOne K (.type t) (.type u) = some (subTy t u)
theorem tyD_mem {d : D} {t : String} (h : tyD d = some t) : t ∈ ["NoneType", "bool", "int", "str", "tuple", "list"] := by
  cases d <;> first | (cases h; done) | (cases h; simp)
theorem d_isi {u : String} {p p2 : Pos} {e : Expr} {x : Str} {A : List Nat} {f : Env → M Rs} (hg : Gl X "isinstance") (hm : X.mg "isinstance" = none) (he : DE G W X e A f) (hx : PE X (.Name x p2) (tC (.ty u))) (hu : TyOk X.K u)
    (hst : starEach [e, .Name x p2] X.env = (false, eval e X.env) :: starEach [.Name x p2] X.env := by rfl) (hst2 : starEach [.Name x p2] X.env = (false, eval (.Name x p2) X.env) :: starEach [] X.env := by rfl)
    (hpl : (backTo pos (starEach [.Name x p2] X.env)).any (·.1) = false := by rfl) : DE G W X (.Call (.Name "isinstance" p) [e, .Name x p2] [] pos) A (e1 (oIsi u) f) :=
  ⟨weakE (pe_callB call_isi hg hm (by decide +kernel) (pa_cons he.pe (pa_cons hx pa_nil hst2) hst) (by decide) (by decide) hst hpl) fun σ H Q h => by
    obtain ⟨hid, H0, env, R, h⟩ := h
    refine ⟨hid, H0, env, R, ?_⟩
    have h : Post G W hid A env σ H Q (f env >>= fun r => pureM (oIsi u r.d)) := h
    cases e1 : f env with
    | bad => rw [e1] at h; exact h
    | ex x => rw [e1] at h; exact h
    | ok r =>
      rw [e1] at h
      have h : Post G W hid A env σ H Q (pureM (oIsi u r.d)) := h
      intro v H' s q
      have rv := q.rp R
      have hk := he.k
      cases e2 : tyD r.d with
      | none =>
        unfold oIsi at h
        rw [e2] at h
        exact h.elim
      | some t =>
        unfold oIsi at h
        rw [e2] at h
        exact ⟨v, .ty u, .type t, .type u, subTy t u, rfl, .ty u, hk ▸ tyX_of cut_le rv e2, hu t (tyD_mem e2), h _ H' s (.bl _)⟩, he.k⟩
/-- gcd by its import -/
theorem d_callM {x : Str} {id : String} {p : Pos} {e : Expr} {es : List Expr} {r : List V → Hp → VK → Prop} {g : List D → M Rs} {A : List Nat} {f : Env → M (List D)} (hc : CallR X (.builtin id) r) (hs : CallS G r g) (hg : Gl X x) (hm : X.mg x = some (.builtin id))
    (h : DA G W X (e :: es) A f) (hdb : (x == ("__debug__" : Str)) = false := by decide)
    (he : starEach (e :: es) X.env = (false, eval e X.env) :: starEach es X.env := by rfl) (hpl : (backTo pos (starEach es X.env)).any (·.1) = false := by rfl) : DE G W X (.Call (.Name x p) (e :: es) [] pos) A (eA g f) :=
  ⟨weakE (pe_callBfun hc hg hm h.pa hdb he hpl) fun σ H Q q => args_run hs q, h.k⟩
/-! ### a for over a list or a tuple -/
def iterA : D → M (List D) | .lst ds => .ok ds | .tup ds => .ok ds | _ => .bad
theorem di_any {tg e : Expr} {A : List Nat} {f : Env → M Rs} (he : DE G W X e A f) : DI G W X tg e A (iE iterA f) := ⟨weakI (pi_any he.pe) fun σ H R h => iE_run h fun hid H0 env r v H' ds Rl s q e k => by
  have hk := he.k
  unfold iterA at e
  split at e
  · rename_i xs e2
    cases e
    rw [e2] at q
    obtain ⟨a, vs, rfl, ha, ra⟩ := rp_lst q
    exact ⟨false, a, vs, rfl, .inl (.inl (cut_le _ _ ha)), k _ H' (Same.refl _) (walkD_of (walk_list (xs := vs)) ra.len (fun H2 s2 => .inl (.inl (s2 _ _ ha))) ra)⟩
  · rename_i xs e2
    cases e
    rw [e2] at q
    obtain ⟨a, vs, rfl, ha, ra⟩ := rp_tup q
    exact ⟨true, a, vs, rfl, hk ▸ same_t cut_le ha, k _ H' (Same.refl _) (walkD_of (walk_tup (xs := vs)) ra.len (fun H2 s2 => hk ▸ same_t s2 ha) ra)⟩
  · cases e⟩
end
theorem ty_int (K : PySem.W.Frag) : TyOk K "int" := fun t h => by
  simp only [List.mem_cons, List.not_mem_nil, or_false] at h
  rcases h with rfl | rfl | rfl | rfl | rfl | rfl <;> rfl
theorem ty_bool (K : PySem.W.Frag) : TyOk K "bool" := fun t h => by
  simp only [List.mem_cons, List.not_mem_nil, or_false] at h
  rcases h with rfl | rfl | rfl | rfl | rfl | rfl <;> rfl
theorem ty_tuple (K : PySem.W.Frag) : TyOk K "tuple" := fun t h => by
  simp only [List.mem_cons, List.not_mem_nil, or_false] at h
  rcases h with rfl | rfl | rfl | rfl | rfl | rfl <;> rfl
theorem ty_list (K : PySem.W.Frag) : TyOk K "list" := fun t h => by
  simp only [List.mem_cons, List.not_mem_nil, or_false] at h
  rcases h with rfl | rfl | rfl | rfl | rfl | rfl <;> rfl
theorem ty_str (K : PySem.W.Frag) : TyOk K "str" := fun t h => by
  simp only [List.mem_cons, List.not_mem_nil, or_false] at h
  rcases h with rfl | rfl | rfl | rfl | rfl | rfl <;> rfl
end DL
end

section
set_option maxRecDepth 100000
set_option maxHeartbeats 4000000
namespace DL
open PySem PySem.Spec PyProof.Rows L2
section
variable {G : GC} {W : WX} {X : Cx} {pos : Pos} {a b : Expr} {A B : List Nat} {f1 f2 : Env → M Rs}
theorem d_add (h1 : DE G W X a A f1) (h2 : DE G W X b B f2) : DE G W X (.BinOp a .Add b pos) (A ++ B) (e2 oAdd f1 f2) := by
  obtain ⟨K, cl⟩ := G
  have hk : K = X.K := h1.k
  subst hk
  exact d_op op_addD os_add h1 h2
theorem d_sub (h1 : DE G W X a A f1) (h2 : DE G W X b B f2) : DE G W X (.BinOp a .Sub b pos) (A ++ B) (e2 oSub f1 f2) := d_op op_sub os_sub h1 h2
theorem d_mul (h1 : DE G W X a A f1) (h2 : DE G W X b B f2) : DE G W X (.BinOp a .Mult b pos) (A ++ B) (e2 oMul f1 f2) := d_op op_mulA os_mul h1 h2
theorem d_fdiv (h1 : DE G W X a A f1) (h2 : DE G W X b B f2) : DE G W X (.BinOp a .FloorDiv b pos) (A ++ B) (e2 oDiv f1 f2) := d_op op_divD os_div h1 h2
theorem d_mod (h1 : DE G W X a A f1) (h2 : DE G W X b B f2) : DE G W X (.BinOp a .Mod b pos) (A ++ B) (e2 oMod f1 f2) := d_op op_modN os_mod h1 h2
theorem d_pow (h1 : DE G W X a A f1) (h2 : DE G W X b B f2) : DE G W X (.BinOp a .Pow b pos) (A ++ B) (e2 oPow f1 f2) := d_op op_pow os_pow h1 h2
theorem d_shl (h1 : DE G W X a A f1) (h2 : DE G W X b B f2) : DE G W X (.BinOp a .LShift b pos) (A ++ B) (e2 oShl f1 f2) := d_op op_shl os_shl h1 h2
theorem d_shr (h1 : DE G W X a A f1) (h2 : DE G W X b B f2) : DE G W X (.BinOp a .RShift b pos) (A ++ B) (e2 oShr f1 f2) := d_op op_shr os_shr h1 h2
theorem d_band (h1 : DE G W X a A f1) (h2 : DE G W X b B f2) : DE G W X (.BinOp a .BitAnd b pos) (A ++ B) (e2 oAnd f1 f2) := d_op op_and os_and h1 h2
theorem d_bor (h1 : DE G W X a A f1) (h2 : DE G W X b B f2) : DE G W X (.BinOp a .BitOr b pos) (A ++ B) (e2 oOr f1 f2) := d_op op_or os_or h1 h2
theorem d_neg (h1 : DE G W X a A f1) : DE G W X (.UnaryOp .USub a pos) A (e1 oNeg f1) := d_un un_neg us_neg h1
theorem d_ix (h1 : DE G W X a A f1) (h2 : DE G W X b B f2) (hp : PlainIx b := by exact fun _ _ => rfl) : DE G W X (.Subscript a b pos) (A ++ B) (e2 oIx f1 f2) := by
  obtain ⟨K, cl⟩ := G
  have hk : K = X.K := h1.k
  subst hk
  exact d_ixG ix_D os_ix h1 h2 hp
/-! comparisons, as values (d_) and as tests (t_) -/
def isN : D → Bool | .non => true | _ => false
def oIsN (neg : Bool) : D → D → M Rs | d, .non => .ok (.fz (.bl (if neg then !isN d else isN d))) | _, _ => .bad
theorem isN_eq {G : GC} {S : Hp} {x : V} {d : D} (h : Rp G S x d) : decide (x = .non) = isN d := by cases h <;> rfl
theorem rp_non {G : GC} {S : Hp} {y : V} (h : Rp G S y .non) : y = .non := by cases h; rfl
theorem os_isN {G : GC} : OpS G (fun x y H Q => y = .non ∧ Q (.bl (decide (x = .non))) H) (oIsN false) := fun S H x y d e z hS hx hy hz Q q => by
  cases e <;> simp only [oIsN] at hz <;> try cases hz
  refine ⟨rp_non hy, q _ _ ?_⟩
  rw [isN_eq hx]
  exact NewR.val hS (.bl _)
theorem os_isnotN {G : GC} : OpS G (fun x y H Q => y = .non ∧ Q (.bl (!decide (x = .non))) H) (oIsN true) := fun S H x y d e z hS hx hy hz Q q => by
  cases e <;> simp only [oIsN] at hz <;> try cases hz
  refine ⟨rp_non hy, q _ _ ?_⟩
  rw [isN_eq hx]
  exact NewR.val hS (.bl _)
def oIs (neg : Bool) : D → D → M Rs := fun d e => orM (oIsN neg d e) (oIsB neg d e)
def cop : CmpOp → D → D → M Rs
  | .Lt => oLt | .LtE => oLe | .Gt => oGt | .GtE => oGe | .Eq => oEq | .NotEq => oNe | .In => oInL false | .NotIn => oInL true | .Is => oIs false | .IsNot => oIs true
theorem cop_ok (op : CmpOp) {k : Nat} (hr : Room k X.A) (hk : G.K = X.K) : ∃ r, OpR X (compareOp op) r ∧ OpS G r (cop op) := by
  obtain ⟨K, cl⟩ := G
  have hk : K = X.K := hk
  subst hk
  have hu : X.A.units + 65 < cLine := by have := hr.un; omega
  cases op
  · exact ⟨_, op_eqA hr.units, os_eq⟩
  · exact ⟨_, op_neA hr.units, os_ne⟩
  · exact ⟨_, op_ltD hr.units0, os_lt⟩
  · exact ⟨_, op_le, os_le⟩
  · exact ⟨_, op_gt, os_gt⟩
  · exact ⟨_, op_ge, os_ge⟩
  · exact ⟨_, OpR.or op_isN op_is_bl, OpS.or os_isN os_isB⟩
  · exact ⟨_, OpR.or op_notN op_isnot_bl, OpS.or os_isnotN os_notB⟩
  · exact ⟨_, op_inD hu, os_in⟩
  · exact ⟨_, op_notInD hu, os_notin⟩
theorem d_cp {op : CmpOp} {k : Nat} (hr : Room k X.A) (h1 : DE G W X a A f1) (h2 : DE G W X b B f2) (hm : behindInMarks op b = false := by first | exact nomark _ | rfl) : DE G W X (.Compare a [op] [b] pos) (A ++ B) (e2 (cop op) f1 f2) := by
  obtain ⟨r, q1, q2⟩ := cop_ok (G := G) op hr h1.k
  exact d_cmp q1 q2 h1 h2 hm
theorem t_cp {op : CmpOp} {k : Nat} (hr : Room k X.A) (h1 : DE G W X a A f1) (h2 : DE G W X b B f2) (hm : behindInMarks op b = false := by first | exact nomark _ | rfl) : DT G W X (.Compare a [op] [b] pos) (A ++ B) (tV (e2 (cop op) f1 f2)) := by
  obtain ⟨r, q1, q2⟩ := cop_ok (G := G) op hr h1.k
  exact dt_cmp q1 q2 h1 h2 hm
/-! built-in calls -/
section
variable {p : Pos} {e e' : Expr} {fa : Env → M (List D)}
theorem d_len (hm : X.mg "len" = none) (ha : DA G W X [e] A fa) (hg : Gl X "len" := by rfl) (he : starEach [e] X.env = (false, eval e X.env) :: starEach [] X.env := by rfl) : DE G W X (.Call (.Name "len" p) [e] [] pos) A (eA oLen fa) := by
  obtain ⟨K, cl⟩ := G
  have hk : K = X.K := ha.k
  subst hk
  exact d_callB call_len_seq cs_len hg hm PySem.boot_len ha (by decide) (by decide) he rfl
theorem d_sum (hc : X.calm = true) (hm : X.mg "sum" = none) (ha : DA G W X [e] A fa) (hg : Gl X "sum" := by rfl) (he : starEach [e] X.env = (false, eval e X.env) :: starEach [] X.env := by rfl) : DE G W X (.Call (.Name "sum" p) [e] [] pos) A (eA oSum fa) := by
  obtain ⟨K, cl⟩ := G
  have hk : K = X.K := ha.k
  subst hk
  exact d_callB (cr_sumA hc) cs_sum hg hm (by decide +kernel) ha (by decide) (by decide) he rfl
theorem d_max1 (hc : X.calm = true) (hm : X.mg "max" = none) (ha : DA G W X [e] A fa) (hg : Gl X "max" := by rfl) (he : starEach [e] X.env = (false, eval e X.env) :: starEach [] X.env := by rfl) : DE G W X (.Call (.Name "max" p) [e] [] pos) A (eA oMax fa) := by
  obtain ⟨K, cl⟩ := G
  have hk : K = X.K := ha.k
  subst hk
  exact d_callB (cr_maxA hc) cs_max hg hm (by decide +kernel) ha (by decide) (by decide) he rfl
theorem d_min1 (hc : X.calm = true) (hm : X.mg "min" = none) (ha : DA G W X [e] A fa) (hg : Gl X "min" := by rfl) (he : starEach [e] X.env = (false, eval e X.env) :: starEach [] X.env := by rfl) : DE G W X (.Call (.Name "min" p) [e] [] pos) A (eA oMin fa) := by
  obtain ⟨K, cl⟩ := G
  have hk : K = X.K := ha.k
  subst hk
  exact d_callB (cr_minA hc) cs_min hg hm (by decide +kernel) ha (by decide) (by decide) he rfl
theorem d_max2 (hc : X.calm = true) (hm : X.mg "max" = none) (ha : DA G W X [e, e'] A fa) (hg : Gl X "max" := by rfl) (he : starEach [e, e'] X.env = (false, eval e X.env) :: starEach [e'] X.env := by rfl) (hpl : (backTo pos (starEach [e'] X.env)).any (·.1) = false := by rfl) : DE G W X (.Call (.Name "max" p) [e, e'] [] pos) A (eA oMax fa) := by
  obtain ⟨K, cl⟩ := G
  have hk : K = X.K := ha.k
  subst hk
  exact d_callB (cr_maxA hc) cs_max hg hm (by decide +kernel) ha (by decide) (by decide) he hpl
theorem d_min2 (hc : X.calm = true) (hm : X.mg "min" = none) (ha : DA G W X [e, e'] A fa) (hg : Gl X "min" := by rfl) (he : starEach [e, e'] X.env = (false, eval e X.env) :: starEach [e'] X.env := by rfl) (hpl : (backTo pos (starEach [e'] X.env)).any (·.1) = false := by rfl) : DE G W X (.Call (.Name "min" p) [e, e'] [] pos) A (eA oMin fa) := by
  obtain ⟨K, cl⟩ := G
  have hk : K = X.K := ha.k
  subst hk
  exact d_callB (cr_minA hc) cs_min hg hm (by decide +kernel) ha (by decide) (by decide) he hpl
theorem d_abs (hm : X.mg "abs" = none) (ha : DA G W X [e] A fa) (hg : Gl X "abs" := by rfl) (he : starEach [e] X.env = (false, eval e X.env) :: starEach [] X.env := by rfl) : DE G W X (.Call (.Name "abs" p) [e] [] pos) A (eA oAbs fa) :=
  d_callB call_abs cs_abs hg hm (by decide +kernel) ha (by decide) (by decide) he rfl
theorem d_intc (hm : X.mg "int" = none) (ha : DA G W X [e] A fa) (hg : Gl X "int" := by rfl) (he : starEach [e] X.env = (false, eval e X.env) :: starEach [] X.env := by rfl) : DE G W X (.Call (.Name "int" p) [e] [] pos) A (eA oInt fa) :=
  d_callTy call_int1 cs_int hg hm (by decide +kernel) ha (by decide) (by decide) he rfl
theorem d_listc (hm : X.mg "list" = none) (ha : DA G W X [e] A fa) (hg : Gl X "list" := by rfl) (he : starEach [e] X.env = (false, eval e X.env) :: starEach [] X.env := by rfl) : DE G W X (.Call (.Name "list" p) [e] [] pos) A (eA oList fa) := by
  obtain ⟨K, cl⟩ := G
  have hk : K = X.K := ha.k
  subst hk
  exact d_callTy call_list_of cs_list hg hm (by decide +kernel) ha (by decide) (by decide) he rfl
theorem d_tuplec (hm : X.mg "tuple" = none) (ha : DA G W X [e] A fa) (hg : Gl X "tuple" := by rfl) (he : starEach [e] X.env = (false, eval e X.env) :: starEach [] X.env := by rfl) : DE G W X (.Call (.Name "tuple" p) [e] [] pos) A (eA oTuple fa) := by
  obtain ⟨K, cl⟩ := G
  have hk : K = X.K := ha.k
  subst hk
  exact d_callTy call_tuple_of cs_tuple hg hm (by decide +kernel) ha (by decide) (by decide) he rfl
theorem d_gcd (hm : X.mg "gcd" = some (.builtin "math.gcd")) (ha : DA G W X [e, e'] A fa) (hg : Gl X "gcd" := by rfl) (he : starEach [e, e'] X.env = (false, eval e X.env) :: starEach [e'] X.env := by rfl) (hpl : (backTo pos (starEach [e'] X.env)).any (·.1) = false := by rfl) : DE G W X (.Call (.Name "gcd" p) [e, e'] [] pos) A (eA oGcd fa) :=
  d_callM cr_gcd (g := oGcd) (cs_II (g := fun i j => ((Nat.gcd i.natAbs j.natAbs : Nat) : Int))) hg hm ha (by decide) he hpl
end
end
def oCal (n : Nat) (g : List D → M Rs) : List D → M Rs := fun ds => if ds.length = n then g ds else .bad
/-- a def of the text, known by its name -/
structure Cal (P : Program) (w : World) (K : PySem.W.Frag) (mg : Str → Option Value) (base : Heap) (G : GC) (x : Str) (k n : Nat) (g : List D → M Rs) : Prop where
  ex : ∃ (f : Addr) (fd : FuncData) (ps : List Str), FnOk P w K mg base CX0 k f fd ps (spD G n g) ∧ mg x = some (.ref f) ∧ PySem.W.keepIn K (.ref f) = true ∧ Binds K fd ps []
structure FnIn (K : PySem.W.Frag) (mg : Str → Option Value) (x : Str) (st : Stmt) (ps : List Str) : Prop where
  ex : ∃ (f : Addr) (fd : FuncData), Fun K x x st f fd ∧ mg x = some (.ref f) ∧ Binds K fd ps []
theorem d_cal {G : GC} {W : WX} {X : Cx} {pos : Pos} {x : Str} {k n : Nat} {g : List D → M Rs} {j : Nat} {p : Pos} {e : Expr} {es : List Expr} {A : List Nat} {fa : Env → M (List D)} (C : Cal X.prog X.w X.K X.mg X.base G x k n g) (hr : Room j X.A) (hj : k ≤ j) (ha : DA G W X (e :: es) A fa)
    (hn : (e :: es).length = n) (hg : Gl X x := by rfl) (hdb : (x == ("__debug__" : Str)) = false := by decide) (he : starEach (e :: es) X.env = (false, eval e X.env) :: starEach es X.env := by rfl)
    (hpl : (backTo pos (starEach es X.env)).any (·.1) = false := by rfl) : DE G W X (.Call (.Name x p) (e :: es) [] pos) A (eA (oCal n g) fa) := by
  obtain ⟨f, fd, ps, F, hm, hk, hb⟩ := C.ex
  exact d_call F (hr.mono hj) hg hm hk hb ha hn hdb he hpl
theorem cal_of {P : Program} {w : World} {K : PySem.W.Frag} {mg : Str → Option Value} {base : Heap} {G : GC} (hG : G.K = K) {x : Str} {st : Stmt} {N ps : List Str} {k : Nat} {b : Env → So} (I : FnIn K mg x st ps) (S : FnScope N ps (defScope st))
    (hb : ∀ (f : Addr) (cdv : Value) (A : Around) (outer : List PySem.Env) (s : Shared) (H : Hp) (E : XK), Room k (A.deeper (envOfC x (defScope st) s.heap.objs.size f cdv)) →
      DSs G W0 (cxOf CX0 P w K mg base N x (defScope st) f cdv A outer s H E).nox (defBody st) b) : Cal P w K mg base G x (k + 1) ps.length fun ds => pureM (runD N.length b ds) := by
  obtain ⟨f, fd, F, hm, hbi⟩ := I.ex
  exact ⟨f, fd, ps, fn_D hG F S (hb f), hm, F.kp, hbi⟩
theorem cal_by {P : Program} {w : World} {mg : Str → Option Value} {base : Heap} {G : GC} {x : Str} {st : Stmt} {N ps : List Str} {k j n : Nat} {b b' : Env → So} {m : List D → M Rs} (I : FnIn G.K mg x st ps) (S : FnScope N ps (defScope st))
    (hb : ∀ (f : Addr) (cdv : Value) (A : Around) (outer : List PySem.Env) (s : Shared) (H : Hp) (E : XK), Room k (A.deeper (envOfC x (defScope st) s.heap.objs.size f cdv)) →
      DSs G W0 (cxOf CX0 P w G.K mg base N x (defScope st) f cdv A outer s H E).nox (defBody st) b') (e : b' = b) (hm : m = fun ds => pureM (runD N.length b ds)) (hn : ps.length = n) (hj : k + 1 = j) : Cal P w G.K mg base G x j n m := by
  subst e hm hn hj
  exact cal_of rfl I S hb
/-- the same def, by its own record -/
theorem fn_same {P : Program} {w : World} {K : PySem.W.Frag} {mg : Str → Option Value} {base : Heap} {G : GC} {x : Str} {k n : Nat} {m : List D → M Rs} {f : Addr} {fd : FuncData} {y : Str} {oc : Value} {od : Option Addr} {sl : Array (Option Value)}
    (C : ∃ (g : Addr) (gd : FuncData) (ps : List Str), FnOk P w K mg base CX0 k g gd ps (spD G n m) ∧ mg x = some (.ref g) ∧ ps = [y] ∧ K.lookup g = some ⟨oc, od, .func gd, sl⟩) (hm : mg x = some (.ref f)) (l : K.lookup f = some ⟨oc, od, .func fd, sl⟩) : FnOk P w K mg base CX0 k f fd [y] (spD G n m) := by
  obtain ⟨g, gd, ps, F, h1, h2, h3⟩ := C
  rw [hm] at h1
  cases h1
  rw [l] at h3
  cases h3
  subst h2
  exact F
/-- the law's promise, where it gives True -/
theorem sp_true {K : PySem.W.Frag} (G : GC) (hG : G.K = K := by rfl) {H : Hp} {a : Addr} {ns : List Int} {m : List D → M Rs} (hS : SqL K H a (ns.map V.int)) (h : m [.scr ns] = .ok (.fz (.bl true))) : spD G 1 m [.ref a] H (fun v _ => v = .bl true) fun _ _ _ => False := by
  subst hG
  refine ⟨fun _ => False, [.scr ns], rfl, fun _ z => z.elim, .cons (.scr (Same.seq (fun b o e => by rw [cut_neg id]; exact e) hS)) .nil, ?_⟩
  rw [h]
  rintro v H' ⟨_, r⟩
  exact rp_bl r
end DL
end

section
set_option maxRecDepth 100000
set_option maxHeartbeats 4000000
/-! Data at a moment; tables (a list of lists that nobody else holds). -/
namespace DL
open PySem PySem.Spec PyProof.Rows L2

inductive SnapL (G : GC) (S : Hp) : Env → L2.St → Prop
  | nil : SnapL G S [] []
  | un {o : Option V} {env : Env} {σ : L2.St} : SnapL G S env σ → SnapL G S (.un :: env) (o :: σ)
  | fz {v : V} {d : D} {env : Env} {σ : L2.St} : Rp G S v d → SnapL G S env σ → SnapL G S (.fz d :: env) (some v :: σ)
section
variable {G : GC} {W : WX} {S H H0 : Hp} {env : Env} {σ : L2.St} {hid : Addr → Prop}
theorem SnapL.len (h : SnapL G S env σ) : env.length = σ.length := by
  induction h with
  | nil => rfl
  | un h ih => simp [ih]
  | fz r h ih => simp [ih]
theorem SnapL.no (h : SnapL G S env σ) : ∀ (i : Nat) ds, env[i]? ≠ some (.ow ds) := by
  induction h with
  | nil => intro i ds e; simp at e
  | un h ih => intro i ds e; cases i with
    | zero => simp at e
    | succ i => exact ih i ds (by simpa using e)
  | fz r h ih => intro i ds e; cases i with
    | zero => simp at e
    | succ i => exact ih i ds (by simpa using e)
theorem SnapL.get (h : SnapL G S env σ) : ∀ (i : Nat) d, env[i]? = some (.fz d) → ∃ v, σ[i]? = some (some v) ∧ Rp G S v d := by
  induction h with
  | nil => intro i ds e; simp at e
  | un h ih => intro i ds e; cases i with
    | zero => simp at e
    | succ i => simpa using ih i ds (by simpa using e)
  | fz r h ih => intro i ds e; cases i with
    | zero => simp at e; subst e; exact ⟨_, rfl, r⟩
    | succ i => simpa using ih i ds (by simpa using e)
theorem SnapL.noOwn (h : SnapL G S env σ) {p : Addr} : ¬ Own env σ p := fun ⟨i, ds, e, _⟩ => h.no i ds e
theorem SnapL.real (h : SnapL G (cut hid H) env σ) (b : Same H0 H) (hb : ∀ a, hid a → H a ≠ none) : Real G hid H0 env σ H :=
  ⟨h.len, fun i d e => let ⟨v, a, r⟩ := h.get i d e; ⟨v, a, r.mono (cut_sub fun a z => z.elim id fun o => absurd o h.noOwn)⟩, fun i ds e => absurd e (h.no i ds),
    fun i j ds es p e => absurd e (h.no i ds), b, fun p o => absurd o h.noOwn, hb⟩
theorem SnapL.mono {S' : Hp} (e : Same S S') (h : SnapL G S env σ) : SnapL G S' env σ := by
  induction h with
  | nil => exact .nil
  | un h ih => exact .un ih
  | fz r h ih => exact .fz (r.mono e) ih
/-- a value, seen from outside -/
def NewV (G : GC) (H H' : Hp) (v : V) : Rs → Prop
  | .fz d => Rp G H' v d
  | .ow ds => ∃ p vs, v = .ref p ∧ H p = none ∧ H' p = some (.lst vs) ∧ RpAll G (cut (fun a => a = p) H') vs ds
theorem same_cut0 : Same H (cut (fun _ => False) H) := fun a o e => by rw [cut_neg id]; exact e
theorem snap_E {f : Env → M Rs} {A : List Nat} {r : Rs} {Q : VK} (h : SnapL G H env σ) (e : f env = .ok r) (q : ∀ v H', Same H H' → NewV G H H' v r → Q v H') : tDE G W A f σ H Q := by
  refine ⟨fun _ => False, H, env, (h.mono same_cut0).real (Same.refl H) (fun _ z => z.elim), ?_⟩
  rw [e]
  intro v H' s k
  refine q v H' s ?_
  cases r with
  | fz d => exact Rp.mono cut_le k
  | ow ds =>
    obtain ⟨p, vs, a, b, c, k⟩ := k
    exact ⟨p, vs, a, b, c, k.mono (cut_sub fun x z => .inr z)⟩
theorem snap_T {f : Env → M Bool} {A : List Nat} {b : Bool} {Q : Bool → Hp → Prop} (h : SnapL G H env σ) (e : f env = .ok b) (q : ∀ H', Same H H' → Q b H') : tDT G W A f σ H Q := by
  refine ⟨fun _ => False, H, env, (h.mono same_cut0).real (Same.refl H) (fun _ z => z.elim), ?_⟩
  rw [e]
  exact q
theorem snap_R {g : Env → So} {r : Rs} {D : Ends} (h : SnapL G (cut hid H) env σ) (b : Same H0 H) (hb : ∀ a, hid a → H a ≠ none) (e : g env = .rt r) (q : ∀ v H', RetR G hid H0 H' v r → D.rt v H') : tDS G W g D σ H := by
  refine ⟨hid, H0, env, h.real b hb, ?_⟩
  rw [e]
  exact q
end

/-! ### rows of numbers -/
def rowV (N : Nat) (f : Nat → Int) : List V := (List.range N).map fun j => V.int (f j)
def rowD (N : Nat) (f : Nat → Int) : List D := (List.range N).map fun j => D.int (f j)
def tabD (M N : Nat) (T : Nat → Nat → Int) : List D := (List.range M).map fun i => D.lst (rowD N (T i))
@[simp] theorem rowV_len {N : Nat} {f : Nat → Int} : (rowV N f).length = N := by simp [rowV]
@[simp] theorem rowD_len {N : Nat} {f : Nat → Int} : (rowD N f).length = N := by simp [rowD]
@[simp] theorem tabD_len {M N : Nat} {T : Nat → Nat → Int} : (tabD M N T).length = M := by simp [tabD]
theorem rowV_get {N : Nat} {f : Nat → Int} {j : Nat} (h : j < N) : (rowV N f)[j]? = some (.int (f j)) := by simp [rowV, h]
theorem rowD_get {N : Nat} {f : Nat → Int} {j : Nat} (h : j < N) : (rowD N f)[j]? = some (.int (f j)) := by simp [rowD, h]
theorem tabD_get {M N : Nat} {T : Nat → Nat → Int} {i : Nat} (h : i < M) : (tabD M N T)[i]? = some (.lst (rowD N (T i))) := by simp [tabD, h]
theorem rowV_congr {N : Nat} {f g : Nat → Int} (h : ∀ j, j < N → f j = g j) : rowV N f = rowV N g := by
  simp only [rowV]
  exact List.map_congr_left fun j hj => by rw [h j (List.mem_range.mp hj)]
theorem rowD_congr {N : Nat} {f g : Nat → Int} (h : ∀ j, j < N → f j = g j) : rowD N f = rowD N g := by
  simp only [rowD]
  exact List.map_congr_left fun j hj => by rw [h j (List.mem_range.mp hj)]
theorem tabD_congr {M N : Nat} {T U : Nat → Nat → Int} (h : ∀ i, i < M → ∀ j, j < N → T i j = U i j) : tabD M N T = tabD M N U := by
  simp only [tabD]
  exact List.map_congr_left fun i hi => by rw [rowD_congr (h i (List.mem_range.mp hi))]
theorem rp_row {G : GC} {S : Hp} {N : Nat} {f : Nat → Int} : RpAll G S (rowV N f) (rowD N f) := by
  simp only [rowV, rowD]
  induction List.range N with
  | nil => exact .nil
  | cons j js ih => exact .cons (.int _) ih
theorem rp_row_eq {G : GC} {S : Hp} {N : Nat} {f : Nat → Int} {vs : List V} (h : RpAll G S vs (rowD N f)) : vs = rowV N f := by
  apply List.ext_getElem?
  intro j
  by_cases hj : j < N
  · rw [rowV_get hj]
    obtain ⟨v, e, r⟩ := h.get (rowD_get hj)
    rw [e, rp_int r]
  · rw [List.getElem?_eq_none (by rw [h.len]; simp; omega), List.getElem?_eq_none (by simp; omega)]
theorem rowV_set {N : Nat} {f : Nat → Int} {j : Nat} {x : Int} (h : j < N) : (rowV N f).set j (.int x) = rowV N (fun k => if k = j then x else f k) := by
  apply List.ext_getElem?
  intro k
  rw [List.getElem?_set]
  by_cases hk : k < N
  · rw [rowV_get hk, rowV_get hk]
    by_cases e : j = k
    · subst e; simp [h]
    · rw [if_neg e, if_neg (Ne.symm e)]
  · rw [List.getElem?_eq_none (l := rowV N f) (by simp; omega), List.getElem?_eq_none (by simp; omega)]
    split
    · next e => subst e; omega
    · rfl
theorem atI_nat {α : Type} {xs : List α} {i : Nat} : atI xs (i : Int) = xs[i]? := by
  unfold atI ixN
  rw [if_pos (by omega)]
  by_cases h : i < xs.length
  · rw [if_pos (by omega)]; simp
  · rw [if_neg (by omega), List.getElem?_eq_none (by omega)]; rfl
theorem atI_last {α : Type} {xs : List α} : atI xs (-1) = xs[xs.length - 1]? := by
  unfold atI ixN
  rw [if_neg (by omega)]
  cases xs with
  | nil => simp
  | cons x xs =>
    rw [if_pos (by simp; omega)]
    simp only [Option.bind_some, List.length_cons, Nat.add_sub_cancel]
    have : ((-1 : Int) + ((xs.length + 1 : Nat) : Int)).toNat = xs.length := by omega
    rw [this]
theorem ixN_nat {n i : Nat} (h : i < n) : ixN n (i : Int) = some i := by
  unfold ixN
  rw [if_pos (by omega), if_pos (by omega)]; simp
theorem RpAll.of_get {G : GC} {S : Hp} {vs : List V} {ds : List D} (hl : vs.length = ds.length) (h : ∀ (i : Nat) v d, vs[i]? = some v → ds[i]? = some d → Rp G S v d) : RpAll G S vs ds := by
  induction vs generalizing ds with
  | nil => cases ds with
    | nil => exact .nil
    | cons => simp at hl
  | cons v vs ih => cases ds with
    | nil => simp at hl
    | cons d ds => exact .cons (h 0 v d rfl rfl) (ih (by simpa using hl) fun i v d e f => h (i + 1) v d (by simpa using e) (by simpa using f))

/-! ### tables -/
structure Tab (H : Hp) (t : Addr) (rs : List Addr) (M N : Nat) (T : Nat → Nat → Int) : Prop where
  ht : H t = some (.lst (rs.map .ref))
  len : rs.length = M
  nd : rs.Nodup
  tn : t ∉ rs
  row : ∀ (i : Nat) a, rs[i]? = some a → H a = some (.lst (rowV N (T i)))
section
variable {G : GC} {H H' : Hp} {t : Addr} {rs : List Addr} {M N : Nat} {T U : Nat → Nat → Int}
theorem Tab.mono (h : Tab H t rs M N T) (e : Same H H') : Tab H' t rs M N T := ⟨e _ _ h.ht, h.len, h.nd, h.tn, fun i a k => e _ _ (h.row i a k)⟩
theorem Tab.lt (h : Tab H t rs M N T) {i : Nat} {a : Addr} (e : rs[i]? = some a) : i < M := by
  rw [← h.len]; exact (List.getElem?_eq_some_iff.mp e).1
theorem Tab.at (h : Tab H t rs M N T) {i : Nat} (hi : i < M) : ∃ a, rs[i]? = some a ∧ H a = some (.lst (rowV N (T i))) := by
  have hl : i < rs.length := by rw [h.len]; exact hi
  exact ⟨rs[i], List.getElem?_eq_getElem hl, h.row i _ (List.getElem?_eq_getElem hl)⟩
theorem Tab.congr (h : Tab H t rs M N T) (e : ∀ i, i < M → ∀ j, j < N → T i j = U i j) : Tab H t rs M N U :=
  ⟨h.ht, h.len, h.nd, h.tn, fun i a k => by rw [h.row i a k, rowV_congr (e i (h.lt k))]⟩
theorem Tab.rp {hid : Addr → Prop} (h : Tab H t rs M N T) (ht : ¬ hid t) (hr : ∀ a, a ∈ rs → ¬ hid a) : Rp G (cut hid H) (.ref t) (.lst (tabD M N T)) := by
  refine .lst (by rw [cut_neg ht]; exact h.ht) (RpAll.of_get (by simp [h.len]) fun i v d e f => ?_)
  rw [List.getElem?_map] at e
  cases q : rs[i]? with
  | none => rw [q] at e; cases e
  | some a =>
    rw [q] at e
    cases e
    rw [tabD_get (h.lt q)] at f
    cases f
    exact .lst (by rw [cut_neg (hr a (List.mem_of_getElem? q))]; exact h.row i a q) rp_row
/-- another cell of the heap -/
theorem Tab.other (h : Tab H t rs M N T) {p : Addr} {o : HO} (hp : p ≠ t) (hr : p ∉ rs) : Tab (upd H p o) t rs M N T :=
  ⟨by rw [upd_ne (Ne.symm hp)]; exact h.ht, h.len, h.nd, h.tn, fun i a k => by
    have : a ≠ p := fun e => hr (by rw [← e]; exact List.mem_of_getElem? k)
    rw [upd_ne this]; exact h.row i a k⟩
/-- a row written through its own name -/
theorem Tab.put (h : Tab H t rs M N T) {r : Nat} {a : Addr} (hr : rs[r]? = some a) {f : Nat → Int} : Tab (upd H a (.lst (rowV N f))) t rs M N (fun i => if i = r then f else T i) := by
  have ha : a ≠ t := fun e => h.tn (e ▸ List.mem_of_getElem? hr)
  refine ⟨by rw [upd_ne (Ne.symm ha)]; exact h.ht, h.len, h.nd, h.tn, fun i b k => ?_⟩
  by_cases e : i = r
  · subst e
    rw [hr] at k
    cases k
    simp only [if_true]
    exact upd_same
  · simp only [if_neg e]
    have : b ≠ a := fun eb => by
      subst eb
      have l1 := (List.getElem?_eq_some_iff.mp k).1
      exact e ((List.getElem?_inj l1 h.nd).mp (by rw [k, hr]))
    rw [upd_ne this]; exact h.row i b k
/-- a row replaced by another list -/
theorem Tab.swap (h : Tab H t rs M N T) {r : Nat} (hr : r < M) {p : Addr} {f : Nat → Int} (hp : H p = some (.lst (rowV N f))) (hpt : p ≠ t) (hpr : p ∉ rs) :
    Tab (upd H t (.lst ((rs.map V.ref).set r (.ref p)))) t (rs.set r p) M N (fun i => if i = r then f else T i) := by
  refine ⟨by rw [upd_same, List.map_set], by rw [List.length_set]; exact h.len, ?_, ?_, fun i b k => ?_⟩
  · unfold List.Nodup
    rw [List.pairwise_iff_getElem]
    intro i j hi hj hij e
    rw [List.getElem_set, List.getElem_set] at e
    have nd := List.pairwise_iff_getElem.mp h.nd i j (by simpa using hi) (by simpa using hj) hij
    by_cases e1 : r = i
    · rw [if_pos e1, if_neg (by omega)] at e
      exact hpr (e ▸ List.getElem_mem _)
    · rw [if_neg e1] at e
      by_cases e2 : r = j
      · rw [if_pos e2] at e
        exact hpr (e ▸ List.getElem_mem _)
      · rw [if_neg e2] at e
        exact nd e
  · intro hm
    rcases List.mem_or_eq_of_mem_set hm with e | e
    · exact h.tn e
    · exact hpt e.symm
  · rw [List.getElem?_set] at k
    by_cases e : r = i
    · subst e
      rw [if_pos rfl, if_pos (by rw [h.len]; exact hr)] at k
      cases k
      simp only [if_true]
      rw [upd_ne hpt]; exact hp
    · rw [if_neg e] at k
      simp only [if_neg (Ne.symm e)]
      have : b ≠ t := fun eb => h.tn (eb ▸ List.mem_of_getElem? k)
      rw [upd_ne this]; exact h.row i b k
end
end DL
end

section
set_option maxRecDepth 100000
set_option maxHeartbeats 4000000
/-! The contract of an exchange; a comprehension that is stored, by its value. -/
namespace DL
open PySem PySem.Spec PyProof.Rows L2
section
variable {G : GC} {W : WX} {X : Cx} {pos : Pos}
theorem ps_setLcD {i : Nat} {y : Str} {py : Pos} {elt tg iter : Expr} {ifs : List Expr} {scope : Scope} {own : List (Str × Nat)} {cpos : Pos} {T A B C : List Nat} {it : Env → M (List D)} {t : D → Env → Option Env} {tt : Env → M Bool} {te : Env → M Rs} (hc : X.calm = true) (hN : X.N.Nodup)
    (hy : X.N[i]? = some y) (hyl : X.env.scope.names.lookup y = some .local) (hsw : swapsWith (.ListComp elt [⟨tg, iter, ifs, 0⟩] scope cpos) (some (.Name y py)) pos.line X.env = pure true) (hi : DI G W X tg iter A it)
    (ok : BlkOk X.N X.env.scope scope own) (hT : ∀ i, i ∈ T → i ∈ own.map (·.2))
    (hg : ∀ (s : Shared) (H : Hp) (C : Addr) (cl : List (Str × Addr)) (fp : List Addr), DG G (X.blk s H scope (compEnvC scope cl C X.env) fp) tg T t)
    (ht : ∀ (s : Shared) (H : Hp) (C : Addr) (cl : List (Str × Addr)) (fp : List Addr), DTs G W0 (X.blk s H scope (compEnvC scope cl C X.env) fp) ifs B tt)
    (he : ∀ (s : Shared) (H : Hp) (C' : Addr) (cl : List (Str × Addr)) (fp : List Addr), DE G W0 (X.blk s H scope (compEnvC scope cl C' X.env) fp) elt C te)
    (hs : ∀ x, foldedSetIterable iter X.env x = pure x := by intro _; rfl) : PS X (.Assign [.Name y py] (.ListComp elt [⟨tg, iter, ifs, 0⟩] scope cpos) pos) (tAsg (tDE G W (List.range 64) (eLc (own.map (·.2)) it t tt te)) (gName i)) :=
  weakS (ps_setLc hc hN hy hyl hsw hi.pi ok (fun s H C cl fp => (hg s H C cl fp).pg) (fun s H C cl fp => (ht s H C cl fp).pts) (fun s H C cl fp => (he s H C cl fp).pe) hs) fun D σ H h => lc_run hT h
end
section
variable {G : GC} {W : WX} {S H H0 : Hp} {env : Env} {σ : L2.St} {hid : Addr → Prop}
theorem snap_A {f : Env → M (List D)} {A : List Nat} {r : List D} {Q : List V → Hp → Prop} (h : SnapL G H env σ) (e : f env = .ok r) (q : ∀ vs H', Same H H' → RpAll G H' vs r → Q vs H') : tDA G W A f σ H Q := by
  refine ⟨fun _ => False, H, env, (h.mono same_cut0).real (Same.refl H) (fun _ z => z.elim), ?_⟩
  rw [e]
  exact fun v H' s k => q v H' s (k.mono cut_le)
theorem Tab.rp0 {H : Hp} {t : Addr} {rs : List Addr} {M N : Nat} {T : Nat → Nat → Int} (h : Tab H t rs M N T) : Rp G H (.ref t) (.lst (tabD M N T)) :=
  (h.rp (G := G) (hid := fun _ => False) id fun _ _ z => z).mono cut_le
theorem rp_row0 {H : Hp} {a : Addr} {N : Nat} {f : Nat → Int} (h : H a = some (.lst (rowV N f))) : Rp G H (.ref a) (.lst (rowD N f)) := .lst h rp_row
end

/-- the numbers that an exchange writes -/
def xNew (T : Nat → Nat → Int) (r c : Nat) (s : Int) (i j : Nat) : Int :=
  if i = r then (if j = c then s else T r j)
  else if j = c then - T i c
  else (T r c * T i j - T i c * T r j).fdiv s
def Small (M N : Nat) (T : Nat → Nat → Int) : Prop := ∀ i, i < M → ∀ j, j < N → (T i j).natAbs.log2 < 9000
def spX : Sp := fun vs H Q _ => ∃ t rs M N T, ∃ r c : Nat, ∃ s : Int, vs = [.ref t, .int r, .int c, .int s] ∧ Tab H t rs M N T ∧ r < M ∧ c < N ∧ s ≠ 0 ∧ M < 1000000 ∧ N < 1000000 ∧ Small M N T ∧ s.natAbs.log2 < 9000 ∧
  ∀ H' rs', Tab H' t rs' M N (xNew T r c s) → Same (cut (fun a => a = t ∨ a ∈ rs) H) H' → (∀ a, a ∈ rs' → a ∈ rs ∨ H a = none) → Q (.int (T r c)) H'
theorem sz : (1000000 : Nat) < sizeLine := by decide +kernel
theorem mul_small {a b : Int} (ha : a.natAbs.log2 < 9000) (hb : b.natAbs.log2 < 9000) : mulOk a b = true := by
  unfold mulOk
  rw [Bool.or_eq_true, decide_eq_true_iff]
  exact .inr (by omega)
theorem div_ok {b : Int} (h0 : b ≠ 0) (hb : b.natAbs.log2 < 9000) {a : Int} : oDiv (.int a) (.int b) = .ok (.fz (.int (a.fdiv b))) := by
  unfold oDiv oIc divOk
  simp [h0, hb]
theorem mul_ok {a b : Int} (ha : a.natAbs.log2 < 9000) (hb : b.natAbs.log2 < 9000) : oMul (.int a) (.int b) = .ok (.fz (.int (a * b))) := by
  unfold oMul
  simp [mul_small ha hb]
/-- the comprehension's loop, where each turn gives a value -/
theorem lcL_map {α : Type} {t : D → Env → Option Env} {tt : Env → M Bool} {te : Env → M Rs} {env : Env} (xs : List α) (f : α → D) (g : α → D)
    (h : ∀ x, x ∈ xs → ∃ e2 r, t (f x) env = some e2 ∧ tt e2 = .ok true ∧ te e2 = .ok r ∧ r.d = g x) : lcL t tt te env (xs.map f) = .ok (xs.map g) := by
  induction xs with
  | nil => rfl
  | cons x xs ih =>
    obtain ⟨e2, r, h1, h2, h3, h4⟩ := h x (List.mem_cons_self ..)
    simp only [List.map_cons, lcL, h1, h2, h3, M.bind_ok, if_true]
    rw [ih (fun y hy => h y (List.mem_cons_of_mem _ hy))]
    simp only [M.bind_ok, h4]
theorem zip_rows {N : Nat} {f g : Nat → Int} : (rowD N f).zip (rowD N g) = (List.range N).map fun j => (D.int (f j), D.int (g j)) := by
  simp only [rowD]
  induction List.range N with
  | nil => rfl
  | cons x xs ih => simp [ih]
end DL
end

section
set_option maxRecDepth 100000
set_option maxHeartbeats 1000000
/-! Reckoning with mirrors: a set of rewriting rules. -/
namespace DL
open L2
variable {env : Env} {α : Type}
@[simp] theorem ev_bok (a : α) {β : Type} (f : α → M β) : (M.ok a >>= f) = f a := (rfl)
@[simp] theorem ev_bbad {β : Type} (f : α → M β) : ((M.bad : M α) >>= f) = .bad := (rfl)
@[simp] theorem ev_pok (a : α) : pureM (.ok a) = .ok a := (rfl)
@[simp] theorem ev_pbad : pureM (.bad : M α) = .bad := (rfl)
@[simp] theorem ev_rfz (d : D) : (Rs.fz d).d = d := (rfl)
@[simp] theorem ev_row (ds : List D) : (Rs.ow ds).d = .lst ds := (rfl)
@[simp] theorem ev_sfz (d : D) : (Rs.fz d).sl = .fz d := (rfl)
@[simp] theorem ev_sow (ds : List D) : (Rs.ow ds).sl = .ow ds := (rfl)
@[simp] theorem ev_v0f (d : D) : eVar 0 (.fz d :: env) = .ok (.fz d) := (rfl)
@[simp] theorem ev_v0o (ds : List D) : eVar 0 (.ow ds :: env) = .ok (.fz (.lst ds)) := (rfl)
@[simp] theorem ev_vs (i : Nat) (s : Sl) : eVar (i + 1) (s :: env) = eVar i env := (rfl)
@[simp] theorem ev_c (d : D) : eC d env = .ok (.fz d) := (rfl)
@[simp] theorem ev_e1 (g : D → M Rs) (f : Env → M Rs) : e1 g f env = (f env >>= fun x => pureM (g x.d)) := (rfl)
@[simp] theorem ev_e2 (g : D → D → M Rs) (f1 f2 : Env → M Rs) : e2 g f1 f2 env = (f1 env >>= fun x => f2 env >>= fun y => pureM (g x.d y.d)) := (rfl)
@[simp] theorem ev_eA (g : List D → M Rs) (f : Env → M (List D)) : eA g f env = (f env >>= fun ds => pureM (g ds)) := (rfl)
@[simp] theorem ev_aNil : aNil env = .ok [] := (rfl)
@[simp] theorem ev_aCons (f : Env → M Rs) (g : Env → M (List D)) : aCons f g env = (f env >>= fun x => g env >>= fun ys => .ok (x.d :: ys)) := (rfl)
@[simp] theorem ev_iA (g : List D → M (List D)) (f : Env → M (List D)) : iA g f env = (f env >>= fun ds => pureM (g ds)) := (rfl)
@[simp] theorem ev_iE (g : D → M (List D)) (f : Env → M Rs) : iE g f env = (f env >>= fun r => pureM (g r.d)) := (rfl)
@[simp] theorem ev_iterL (ds : List D) : iterA (.lst ds) = .ok ds := (rfl)
@[simp] theorem ev_iterT (ds : List D) : iterA (.tup ds) = .ok ds := (rfl)
@[simp] theorem ev_add (i j : Int) : oAdd (.int i) (.int j) = .ok (.fz (.int (i + j))) := (rfl)
@[simp] theorem ev_sub (i j : Int) : oSub (.int i) (.int j) = .ok (.fz (.int (i - j))) := (rfl)
@[simp] theorem ev_neg (i : Int) : oNeg (.int i) = .ok (.fz (.int (-i))) := (rfl)
@[simp] theorem ev_lt (i j : Int) : oLt (.int i) (.int j) = .ok (.fz (.bl (decide (i < j)))) := (rfl)
@[simp] theorem ev_gt (i j : Int) : oGt (.int i) (.int j) = .ok (.fz (.bl (decide (j < i)))) := (rfl)
@[simp] theorem ev_le (i j : Int) : oLe (.int i) (.int j) = .ok (.fz (.bl (decide (i ≤ j)))) := (rfl)
@[simp] theorem ev_ge (i j : Int) : oGe (.int i) (.int j) = .ok (.fz (.bl (decide (j ≤ i)))) := (rfl)
@[simp] theorem ev_eqI (i j : Int) : oEq (.int i) (.int j) = .ok (.fz (.bl (decide (i = j)))) := (rfl)
@[simp] theorem ev_eqB (i j : Bool) : oEq (.bl i) (.bl j) = .ok (.fz (.bl (decide (i = j)))) := (rfl)
@[simp] theorem ev_eqS (i j : PySem.Str) : oEq (.str i) (.str j) = .ok (.fz (.bl (decide (i = j)))) := (rfl)
@[simp] theorem ev_neI (i j : Int) : oNe (.int i) (.int j) = .ok (.fz (.bl (!decide (i = j)))) := (rfl)
@[simp] theorem ev_neS (i j : PySem.Str) : oNe (.str i) (.str j) = .ok (.fz (.bl (!decide (i = j)))) := (rfl)
@[simp] theorem ev_isB (n i j : Bool) : oIs n (.bl i) (.bl j) = .ok (.fz (.bl (if n then !decide (i = j) else decide (i = j)))) := (rfl)
@[simp] theorem ev_copLt : cop .Lt = oLt := (rfl)
@[simp] theorem ev_copGt : cop .Gt = oGt := (rfl)
@[simp] theorem ev_copLe : cop .LtE = oLe := (rfl)
@[simp] theorem ev_copGe : cop .GtE = oGe := (rfl)
@[simp] theorem ev_copEq : cop .Eq = oEq := (rfl)
@[simp] theorem ev_copNe : cop .NotEq = oNe := (rfl)
@[simp] theorem ev_copIs : cop .Is = oIs false := (rfl)
@[simp] theorem ev_copIsN : cop .IsNot = oIs true := (rfl)
theorem ev_mul {i j : Int} (h : mulOk i j = true) : oMul (.int i) (.int j) = .ok (.fz (.int (i * j))) := by simp [oMul, h]
theorem ev_mod {i j : Int} (h : j ≠ 0) : oMod (.int i) (.int j) = .ok (.fz (.int (i.fmod j))) := by simp [oMod, oIc, h]
@[simp] theorem ev_lenL (ds : List D) : oLen [.lst ds] = .ok (.fz (.int ds.length)) := (rfl)
@[simp] theorem ev_lenT (ds : List D) : oLen [.tup ds] = .ok (.fz (.int ds.length)) := (rfl)
@[simp] theorem ev_lenS (ns : List Int) : oLen [.scr ns] = .ok (.fz (.int ns.length)) := (rfl)
@[simp] theorem ev_int (i : Int) : oInt [.int i] = .ok (.fz (.int i)) := (rfl)
@[simp] theorem ev_intB (b : Bool) : oInt [.bl b] = .ok (.fz (.int (if b then 1 else 0))) := (rfl)
@[simp] theorem ev_ixL (ds : List D) (i : Int) : oIx (.lst ds) (.int i) = oR (atI ds i) := (rfl)
@[simp] theorem ev_ixT (ds : List D) (i : Int) : oIx (.tup ds) (.int i) = oR (atI ds i) := (rfl)
@[simp] theorem ev_oR (d : D) : oR (some d) = .ok (.fz d) := (rfl)
@[simp] theorem ev_asB (b : Bool) : asB (.fz (.bl b)) = .ok b := (rfl)
@[simp] theorem ev_tV (f : Env → M Rs) : tV f env = (f env >>= fun r => asB r) := (rfl)
@[simp] theorem ev_tAn (f g : Env → M Bool) : tAn f g env = (f env >>= fun b => if b then g env else .ok false) := (rfl)
@[simp] theorem ev_tO (f g : Env → M Bool) : tO f g env = (f env >>= fun b => if b then .ok true else g env) := (rfl)
@[simp] theorem ev_tN (f : Env → M Bool) : tN f env = (f env >>= fun b => .ok (!b)) := (rfl)
@[simp] theorem ev_vIf (c : Env → M Bool) (f g : Env → M Rs) : vIf c f g env = (c env >>= fun b => if b then f env else g env) := (rfl)
@[simp] theorem ev_tYes : tYesD env = .ok true := (rfl)
@[simp] theorem ev_name (i : Nat) (d : D) : nName i d env = some (env.set i (.fz d)) := (rfl)
@[simp] theorem ev_nNil : nNil [] env = some env := (rfl)
@[simp] theorem ev_nCons (t : D → Env → Option Env) (u : List D → Env → Option Env) (d : D) (ds : List D) : nCons t u (d :: ds) env = (t d env).bind (u ds) := (rfl)
@[simp] theorem ev_nTup (n : Nat) (u : List D → Env → Option Env) (ds : List D) : nTup n u (.tup ds) env = if ds.length = n then u ds env else none := (rfl)
@[simp] theorem ev_seq (f g : Env → So) : sSeq f g env = (f env).andThen g := (rfl)
@[simp] theorem ev_tn (e : Env) (g : Env → So) : So.andThen (.nx e) g = g e := (rfl)
@[simp] theorem ev_tr (r : Rs) (g : Env → So) : So.andThen (.rt r) g = .rt r := (rfl)
@[simp] theorem ev_tc (e : Env) (g : Env → So) : So.andThen (.ct e) g = .ct e := (rfl)
@[simp] theorem ev_tb (e : Env) (g : Env → So) : So.andThen (.bk e) g = .bk e := (rfl)
@[simp] theorem ev_ofM (a : α) (A : List Nat) (k : α → So) : ofM (.ok a) env A k = k a := (rfl)
@[simp] theorem ev_set (i : Nat) (A : List Nat) (f : Env → M Rs) : sSet i A f env = ofM (f env) env A fun r => .nx ((frzIf r A env).set i r.sl) := (rfl)
@[simp] theorem ev_ret (A : List Nat) (f : Env → M Rs) : sRet A f env = ofM (f env) env A fun r => .rt r := (rfl)
@[simp] theorem ev_next : sNext env = .nx env := (rfl)
@[simp] theorem ev_if (A : List Nat) (c : Env → M Bool) (f g : Env → So) : sIf A c f g env = ofM (c env) env A fun b => if b then f env else g env := (rfl)
@[simp] theorem ev_for (A : List Nat) (it : Env → M (List D)) (t : D → Env → Option Env) (b : Env → So) : sFor A it t b env = ofM (it env) env A fun ds => forL t b ds (fzAll A env) := (rfl)
@[simp] theorem ev_frzInt (i : Int) (A : List Nat) : frzIf (.fz (.int i)) A env = env := (rfl)
@[simp] theorem ev_frzBl (b : Bool) (A : List Nat) : frzIf (.fz (.bl b)) A env = env := (rfl)
@[simp] theorem ev_frzStr (b : PySem.Str) (A : List Nat) : frzIf (.fz (.str b)) A env = env := (rfl)
theorem nol_row {N : Nat} {f : Nat → Int} : D.nolAll (rowD N f) = true := by
  simp only [rowD]
  induction List.range N with
  | nil => rfl
  | cons x xs ih => simpa [D.nolAll, D.nol] using ih
@[simp] theorem ev_frzRow (N : Nat) (f : Nat → Int) (A : List Nat) : frzIf (.ow (rowD N f)) A env = env := by
  simp [frzIf, Rs.nol, nol_row]
theorem ev_rng1 {n : Nat} (h : n < 2 ^ 62) : oRng1 [.int n] = .ok ((List.range n).map fun (i : Nat) => D.int (i : Int)) := by
  unfold oRng1 rngOk
  have h1 : (-(2 ^ 62) : Int) ≤ (n : Int) := by omega
  have h2 : (n : Int) < 2 ^ 62 := by omega
  simp [h1, upTo]
  omega
theorem ev_lc {vs : List Nat} {it : Env → M (List D)} {t : D → Env → Option Env} {tt : Env → M Bool} {te : Env → M Rs} {ds rs : List D} (h : env.length ≤ 64) (hi : it env = .ok ds)
    (hl : lcL t tt te (wipeE (env.map Sl.frz) vs) ds = .ok rs) (hz : ds.length < PySem.sizeLine ∨ ds.length < 1000000) : eLc vs it t tt te env = .ok (.ow rs) := by
  unfold eLc
  rw [if_pos h]
  simp only [ev_bok, hi, hl, ev_pok]
  rw [if_pos]
  rcases hz with z | z
  · exact z
  · exact Nat.lt_trans z sz
/-- a loop by its invariant -/
theorem forL_gen {t : D → Env → Option Env} {body : Env → So} {ds : List D} {env : Env} (I : Nat → Env → Prop) (Q : So → Prop) (h0 : I 0 env)
    (step : ∀ i d e, ds[i]? = some d → I i e → ∃ e1, t d e = some e1 ∧ ((∃ e2, (body e1 = .nx e2 ∨ body e1 = .ct e2) ∧ I (i + 1) e2) ∨ (∃ r, body e1 = .rt r ∧ Q (.rt r)) ∨ (∃ e2, body e1 = .bk e2 ∧ Q (.nx e2))))
    (hend : ∀ e, I ds.length e → Q (.nx e)) : Q (forL t body ds env) := by
  induction ds generalizing I env with
  | nil => exact hend env h0
  | cons d ds ih =>
    obtain ⟨e1, ht, hb⟩ := step 0 d env rfl h0
    simp only [forL, ht]
    rcases hb with ⟨e2, hb, h1⟩ | ⟨r, hb, q⟩ | ⟨e2, hb, q⟩
    · have go : Q (forL t body ds e2) := ih (fun i => I (i + 1)) h1 (fun i d' e hd hi => step (i + 1) d' e (by simpa using hd) hi) (fun e he => hend e (by simpa using he))
      rcases hb with hb | hb <;> rw [hb] <;> exact go
    · rw [hb]; exact q
    · rw [hb]; exact q
theorem forL_nx {t : D → Env → Option Env} {body : Env → So} {ds : List D} {env : Env} (I : Nat → Env → Prop) (h0 : I 0 env)
    (step : ∀ i d e, ds[i]? = some d → I i e → ∃ e1, t d e = some e1 ∧ (∃ e2, (body e1 = .nx e2 ∨ body e1 = .ct e2) ∧ I (i + 1) e2)) : ∃ e, forL t body ds env = .nx e ∧ I ds.length e :=
  forL_gen I (fun s => ∃ e, s = .nx e ∧ I ds.length e) h0 (fun i d e hd hi => let ⟨e1, a, b⟩ := step i d e hd hi; ⟨e1, a, .inl b⟩) (fun e he => ⟨e, rfl, he⟩)
end DL
namespace DL
open L2
variable {env : Env}
@[simp] theorem ev_retVf (d : D) : sRetV 0 (.fz d :: env) = .rt (.fz d) := (rfl)
@[simp] theorem ev_retVo (ds : List D) : sRetV 0 (.ow ds :: env) = .rt (.ow ds) := (rfl)
@[simp] theorem ev_retVs (i : Nat) (s : Sl) : sRetV (i + 1) (s :: env) = sRetV i env := (rfl)
@[simp] theorem ev_own0 (ds : List D) (k : List D → So) : ownAt (.ow ds :: env) 0 k = k ds := (rfl)
@[simp] theorem ev_ownS (i : Nat) (s : Sl) (k : List D → So) : ownAt (s :: env) (i + 1) k = ownAt env i k := (rfl)
@[simp] theorem ev_setIx (i : Nat) (A B : List Nat) (f g : Env → M Rs) : sSetIx i A B f g env = ownAt env i fun _ => ofM (f env) env A fun r => ofM (g env) env B fun k => ownAt (DL.frzIf r A env) i fun ds =>
  match k.d with | .int n => (match ixN ds.length n with | some j => .nx ((DL.frzIf r A env).set i (.ow (ds.set j r.d))) | none => .bad) | _ => .bad := (rfl)
@[simp] theorem ev_app (i : Nat) (A : List Nat) (f : Env → M Rs) : sApp i A f env = ownAt env i fun _ => ofM (f env) env A fun r => ownAt (DL.frzIf r A env) i fun ds => if ds.length < PySem.sizeLine then .nx ((DL.frzIf r A env).set i (.ow (ds ++ [r.d]))) else .bad := (rfl)
@[simp] theorem ev_asg (A : List Nat) (t : D → Env → Option Env) (f : Env → M Rs) : sAsg A t f env = ofM (f env) env A fun r => ofO (t r.d (DL.frzIf r A env)) := (rfl)
@[simp] theorem ev_ofO (e : Env) : ofO (some e) = .nx e := (rfl)
@[simp] theorem ev_fzNil : fzAll [] env = env := (rfl)
@[simp] theorem ev_fzCons (i : Nat) (is : List Nat) : fzAll (i :: is) env = fzAll is (env.set i ((env.getD i .un).frz)) := (rfl)
@[simp] theorem ev_frzU : Sl.frz .un = .un := (rfl)
@[simp] theorem ev_frzF (d : D) : Sl.frz (.fz d) = .fz d := (rfl)
@[simp] theorem ev_frzO (ds : List D) : Sl.frz (.ow ds) = .fz (.lst ds) := (rfl)
theorem runD_ok {n : Nat} {b : Env → So} {ds : List D} {r : Rs} (h : b (startE n ds) = .rt r) : pureM (runD n b ds) = .ok r := by
  unfold runD; rw [h]; rfl
end DL
namespace DL
@[simp] theorem ev_isN (n : Bool) (d : D) : oIs n d .non = .ok (.fz (.bl (if n then !isN d else isN d))) := by cases d <;> rfl
end DL
end

section
set_option maxRecDepth 100000
set_option maxHeartbeats 1000000
/-! A def that changes a table, known by its name; a table that grows. -/
namespace DL
open PySem PySem.Spec PyProof.Rows L2
structure CalS (P : Program) (w : World) (K : PySem.W.Frag) (mg : Str → Option Value) (base : Heap) (x : Str) (k : Nat) (sp : Sp) : Prop where
  ex : ∃ (f : Addr) (fd : FuncData) (ps : List Str), FnOk P w K mg base CX0 k f fd ps sp ∧ mg x = some (.ref f) ∧ PySem.W.keepIn K (.ref f) = true ∧ Binds K fd ps []
theorem pe_calS {X : Cx} {pos : Pos} {x : Str} {k : Nat} {sp : Sp} {j : Nat} {p : Pos} {e : Expr} {es : List Expr} {t : TA} (C : CalS X.prog X.w X.K X.mg X.base x k sp) (hr : Room j X.A) (hj : k ≤ j) (ha : PA X (e :: es) t)
    (hg : Gl X x := by rfl) (hdb : (x == ("__debug__" : Str)) = false := by decide) (he : starEach (e :: es) X.env = (false, eval e X.env) :: starEach es X.env := by rfl)
    (hpl : (backTo pos (starEach es X.env)).any (·.1) = false := by rfl) : PE X (.Call (.Name x p) (e :: es) [] pos) (tCall sp [] E0 t) := by
  obtain ⟨f, fd, ps, F, hm, hk, hb⟩ := C.ex
  exact pe_call F (hr.mono hj) hg hm hk hb .nil pass0 ha hdb he hpl
theorem Tab.push {H : Hp} {t : Addr} {rs : List Addr} {M N : Nat} {T : Nat → Nat → Int} (h : Tab H t rs M N T) {p : Addr} (hp : H p = some (.lst (rowV N (T M)))) (hpt : p ≠ t) (hpr : p ∉ rs) :
    Tab (upd H t (.lst (rs.map V.ref ++ [.ref p]))) t (rs ++ [p]) (M + 1) N T := by
  refine ⟨by rw [upd_same]; simp, by simp [h.len], ?_, ?_, fun i b k => ?_⟩
  · rw [List.nodup_append]
    refine ⟨h.nd, by simp, fun a ha b hb e => ?_⟩
    simp at hb
    subst hb
    exact hpr (e ▸ ha)
  · intro hm
    rcases List.mem_append.mp hm with e | e
    · exact h.tn e
    · simp at e
      exact hpt e.symm
  · rw [List.getElem?_append] at k
    split at k
    · have : b ≠ t := fun eb => h.tn (eb ▸ List.mem_of_getElem? k)
      rw [upd_ne this]; exact h.row i b k
    · next hl =>
      have hi : i - rs.length = 0 := by
        cases q : i - rs.length with
        | zero => rfl
        | succ n => rw [q] at k; simp at k
      rw [hi] at k
      simp at k
      subst k
      have : i = M := by rw [← h.len]; omega
      subst this
      rw [upd_ne hpt]; exact hp
theorem tab_nil {H : Hp} {t : Addr} {N : Nat} {T : Nat → Nat → Int} (h : H t = some (.lst [])) : Tab H t [] 0 N T :=
  ⟨h, rfl, List.nodup_nil, by simp, fun i a k => by simp at k⟩
theorem rgV_row (n : Nat) : rgV 0 n = rowV n fun j => (j : Int) := by
  simp [rgV, rowV]
end DL
namespace DL
open PySem PySem.Spec PyProof.Rows L2
theorem fn_by {P : Program} {w : World} {mg : Str → Option Value} {base : Heap} {G : GC} {x qual : Str} {st : Stmt} {f : Addr} {fd : FuncData} {N ps : List Str} {k j n : Nat} {b b' : Env → So} {m : List D → M Rs} (F : Fun G.K x qual st f fd) (S : FnScope N ps (defScope st))
    (hb : ∀ (cdv : Value) (A : Around) (outer : List PySem.Env) (s : Shared) (H : Hp) (E : XK), Room k (A.deeper (envOfC qual (defScope st) s.heap.objs.size f cdv)) →
      DSs G W0 (cxOf CX0 P w G.K mg base N qual (defScope st) f cdv A outer s H E).nox (defBody st) b') (e : b' = b) (hm : m = fun ds => pureM (runD N.length b ds)) (hn : ps.length = n) (hj : k + 1 = j) : FnOk P w G.K mg base CX0 j f fd ps (spD G n m) := by
  subst e hm hn hj
  exact fn_D rfl F S hb
end DL
end

section
set_option maxRecDepth 100000
set_option maxHeartbeats 1000000
/-! Further operations; a def that calls itself. -/
namespace DL
open PySem PySem.Spec PyProof.Rows L2
section
variable {G : GC} {W : WX} {X : Cx} {pos : Pos}
theorem un_run {r : V → Hp → VK → Prop} {g : D → M Rs} {A : List Nat} {f1 : Env → M Rs} (hs : UnS G r g) {σ : L2.St} {H : Hp} {Q : VK} (h : tDE G W A (e1 g f1) σ H Q) : tDE G W A f1 σ H fun x H1 => r x H1 Q := by
  obtain ⟨hid, H0, env, R, h⟩ := h
  refine ⟨hid, H0, env, R, ?_⟩
  have h : Post G W hid A env σ H Q (f1 env >>= fun x => pureM (g x.d)) := h
  cases e : f1 env with
  | bad => rw [e] at h; exact h
  | ex x => rw [e] at h; exact h
  | ok x =>
    rw [e] at h
    intro v H1 s1 q1
    have h : Post G W hid A env σ H Q (pureM (g x.d)) := h
    cases e2 : pureM (g x.d) with
    | bad => rw [e2] at h; exact h.elim
    | ex z => exact absurd e2 pureM_ex
    | ok z =>
      rw [e2] at h
      refine hs _ H1 v _ z cut_le (q1.rp R) (pureM_ok e2) Q fun v' H' n => h v' H' (s1.trans n.same) ?_
      have q := NewR.res (R.mono s1) n
      cases z with
      | fz d => exact q
      | ow ds =>
        obtain ⟨p, vs, a, b, c⟩ := q
        exact ⟨p, vs, a, s1.free b, c⟩
/-! x.bit_length() -/
def oBits : D → M Rs | .int i => .ok (.fz (.int (Builtin.Int.intBits i : Nat))) | _ => .bad
theorem us_bits : UnS G (fun x H Q => ∃ i, x = .int i ∧ Q (.int (Builtin.Int.intBits i : Nat)) H) oBits := fun S H x d z hS hx hz Q q => by
  unfold oBits at hz
  split at hz
  · cases hz
    rw [rp_int hx]
    exact ⟨_, rfl, q _ _ (NewR.val hS (.int _))⟩
  · cases hz
theorem d_bits {e : Expr} {apos : Pos} {A : List Nat} {f : Env → M Rs} (h : DE G W X e A f) (hbase : attributeBase e "bit_length" X.env (eval e X.env) = eval e X.env := by rfl) (hline : (apos.endLine == pos.line) = true := by rfl) :
    DE G W X (.Call (.Attribute e "bit_length" apos) [] [] pos) A (e1 oBits f) :=
  ⟨weakE (pe_bits h.pe hbase hline) fun σ H Q q => un_run us_bits q, h.k⟩
end
/-- a def of which nothing is promised yet -/
theorem cal_bad {P : Program} {w : World} {mg : Str → Option Value} {base : Heap} {G : GC} {x : Str} {st : Stmt} {N ps : List Str} {n : Nat} (I : FnIn G.K mg x st ps) (S : FnScope N ps (defScope st)) (hn : ps.length = n) : Cal P w G.K mg base G x 1 n fun _ => .bad := by
  obtain ⟨f, fd, F, hm, hbi⟩ := I.ex
  refine ⟨f, fd, ps, F.ok S (fun vs H Q E h => ?_) (fun cdv A outer s H vs Q E hr h => ?_), hm, F.kp, hbi⟩
  · obtain ⟨hid, ds, hl, _, r, h⟩ := h
    exact h.elim
  · obtain ⟨hid, ds, hl, _, r, h⟩ := h
    exact h.elim
/-- the mirror of a def that calls itself, by the depth of its calls -/
def recM (n : Nat) (b : (List D → M Rs) → Env → So) : Nat → List D → M Rs
  | 0 => fun _ => .bad
  | d+1 => fun ds => pureM (runD n (b (recM n b d)) ds)
theorem cal_rec {P : Program} {w : World} {mg : Str → Option Value} {base : Heap} {G : GC} {x : Str} {st : Stmt} {N ps : List Str} {k n : Nat} {b : (List D → M Rs) → Env → So} (I : FnIn G.K mg x st ps) (S : FnScope N ps (defScope st)) (hn : ps.length = n)
    (step : ∀ (j : Nat) (m : List D → M Rs), k ≤ j → Cal P w G.K mg base G x j n m → ∀ (f : Addr) (cdv : Value) (A : Around) (outer : List PySem.Env) (s : Shared) (H : Hp) (E : XK), Room j (A.deeper (envOfC x (defScope st) s.heap.objs.size f cdv)) →
      ∃ b', DSs G W0 (cxOf CX0 P w G.K mg base N x (defScope st) f cdv A outer s H E).nox (defBody st) b' ∧ b' = b m) (hk : 1 ≤ k) (d : Nat) : Cal P w G.K mg base G x (k + d) n (recM N.length b d) := by
  induction d with
  | zero =>
    obtain ⟨f, fd, ps', F, h⟩ := (cal_bad (P := P) (w := w) (base := base) I S hn).ex
    exact ⟨f, fd, ps', F.mono (by omega), h⟩
  | succ d ih =>
    refine cal_by (k := k + d) (b := b (recM N.length b d)) I S (fun f cdv A outer s H E hr => ?_) rfl rfl hn rfl
    obtain ⟨b', h, e⟩ := step (k + d) _ (by omega) ih f cdv A outer s H E hr
    subst e
    exact h
end DL
end

section
set_option maxRecDepth 100000
set_option maxHeartbeats 4000000
/-! An int in a tuple of ints. -/
namespace DL
open PySem PySem.Spec PyProof.Rows L2
variable {G : GC} {W : WX} {X : Cx} {pos : Pos}
def oInI (neg : Bool) (d e : D) : M Rs := match d, e with
  | .int i, .tup ds => (match toInts ds with | some ns => .ok (.fz (.bl (if neg then !ns.any (fun j => decide (j = i)) else ns.any fun j => decide (j = i)))) | none => .bad)
  | _, _ => .bad
theorem all_flat (ns : List Int) : (ns.map V.int).all flatV = true := by
  induction ns with
  | nil => rfl
  | cons n ns ih => simp only [List.map_cons, List.all_cons, ih, Bool.and_true]; rfl
theorem eqV_ints (j i : Int) : eqV (.int j) (.int i) = decide (j = i) := by
  by_cases h : j = i
  · subst h; simp [eqV]
  · simp [eqV, h]
theorem in_ints (i : Int) (ns : List Int) : inV (.int i) (ns.map V.int) = ns.any fun j => decide (j = i) := by
  unfold inV
  induction ns with
  | nil => rfl
  | cons n ns ih => simp only [List.map_cons, List.any_cons, ih, eqV_ints]
theorem os_inI {neg : Bool} : OpS G (rIn G.K neg) (oInI neg) := fun S H x y d e z hS hx hy hz Q q => by
  unfold oInI at hz
  split at hz
  · split at hz
    · rename_i i ds ns e1
      cases hz
      rw [rp_int hx]
      obtain ⟨a, vs, rfl, ha, ra⟩ := rp_tup hy
      have := toInts_rp ra e1
      subst this
      refine ⟨a, _, rfl, .inr (same_t hS ha), rfl, all_flat ns, ?_⟩
      rw [in_ints]
      exact q _ _ (.val hS (.bl _))
    · cases hz
  · cases hz
theorem t_notInI {a b : Expr} {A B : List Nat} {f1 f2 : Env → M Rs} (h1 : DE G W X a A f1) (h2 : DE G W X b B f2) (hm : behindInMarks .NotIn b = false := by first | exact nomark _ | rfl) : DT G W X (.Compare a [.NotIn] [b] pos) (A ++ B) (tV (e2 (oInI true) f1 f2)) := by
  obtain ⟨K, cl⟩ := G
  have hk : K = X.K := h1.k
  subst hk
  exact dt_cmp op_notIn_seq os_inI h1 h2 hm
theorem t_inI {a b : Expr} {A B : List Nat} {f1 f2 : Env → M Rs} (h1 : DE G W X a A f1) (h2 : DE G W X b B f2) (hm : behindInMarks .In b = false := by first | exact nomark _ | rfl) : DT G W X (.Compare a [.In] [b] pos) (A ++ B) (tV (e2 (oInI false) f1 f2)) := by
  obtain ⟨K, cl⟩ := G
  have hk : K = X.K := h1.k
  subst hk
  exact dt_cmp op_in_seq os_inI h1 h2 hm
end DL
end

section
/-! Sums and determinants over functions. -/
namespace Sx

def sm : Nat → (Nat → Int) → Int
  | 0, _ => 0
  | n+1, f => sm n f + f n

theorem sm_congr {n : Nat} {f g : Nat → Int} (h : ∀ i, i < n → f i = g i) : sm n f = sm n g := by
  induction n with
  | zero => rfl
  | succ n ih =>
    simp only [sm]
    rw [ih (fun i hi => h i (Nat.lt_succ_of_lt hi)), h n (Nat.lt_succ_self n)]

theorem sm_add (n : Nat) (f g : Nat → Int) : sm n (fun i => f i + g i) = sm n f + sm n g := by
  induction n with
  | zero => rfl
  | succ n ih => simp only [sm, ih]; omega

theorem sm_mul (n : Nat) (c : Int) (f : Nat → Int) : sm n (fun i => c * f i) = c * sm n f := by
  induction n with
  | zero => simp [sm]
  | succ n ih => simp only [sm, ih, Int.mul_add]

theorem sm_neg (n : Nat) (f : Nat → Int) : sm n (fun i => - f i) = - sm n f := by
  induction n with
  | zero => simp [sm]
  | succ n ih => simp only [sm, ih]; omega

theorem sm_zero {n : Nat} {f : Nat → Int} (h : ∀ i, i < n → f i = 0) : sm n f = 0 := by
  induction n with
  | zero => rfl
  | succ n ih =>
    simp only [sm]
    rw [ih (fun i hi => h i (Nat.lt_succ_of_lt hi)), h n (Nat.lt_succ_self n)]; rfl

theorem sm_one {n : Nat} {f : Nat → Int} (k : Nat) (hk : k < n) (h : ∀ i, i < n → i ≠ k → f i = 0) : sm n f = f k := by
  induction n with
  | zero => omega
  | succ n ih =>
    simp only [sm]
    by_cases e : k = n
    · subst e
      rw [sm_zero (fun i hi => h i (Nat.lt_succ_of_lt hi) (by omega))]; omega
    · rw [ih (by omega) (fun i hi hn => h i (Nat.lt_succ_of_lt hi) hn), h n (Nat.lt_succ_self n) (by omega)]; omega

theorem sm_split {n : Nat} {f : Nat → Int} (k : Nat) (hk : k < n) :
    sm n f = f k + sm n (fun i => if i = k then 0 else f i) := by
  have e1 : sm n f = sm n (fun i => (if i = k then f k else 0) + (if i = k then 0 else f i)) :=
    sm_congr (fun i _ => by
      by_cases e : i = k
      · subst e; simp
      · simp [e])
  rw [e1, sm_add, sm_one k hk (fun i _ hn => by simp [hn])]
  simp

theorem sm_two {n : Nat} {f : Nat → Int} (k l : Nat) (hk : k < n) (hl : l < n) (hkl : k ≠ l)
    (h : ∀ i, i < n → i ≠ k → i ≠ l → f i = 0) : sm n f = f k + f l := by
  rw [sm_split k hk, sm_one l hl (fun i hi hn => by
    by_cases e : i = k
    · simp [e]
    · simp [e, h i hi e hn])]
  simp [Ne.symm hkl]

theorem sm_le {n : Nat} {f g : Nat → Int} (h : ∀ i, i < n → f i ≤ g i) : sm n f ≤ sm n g := by
  induction n with
  | zero => exact Int.le_refl _
  | succ n ih =>
    simp only [sm]
    exact Int.add_le_add (ih (fun i hi => h i (Nat.lt_succ_of_lt hi))) (h n (Nat.lt_succ_self n))

theorem sm_nonneg {n : Nat} {f : Nat → Int} (h : ∀ i, i < n → 0 ≤ f i) : 0 ≤ sm n f := by
  have e := sm_le (f := fun _ => 0) h
  rwa [sm_zero (fun _ _ => rfl)] at e

theorem sm_nonpos {n : Nat} {f : Nat → Int} (h : ∀ i, i < n → f i ≤ 0) : sm n f ≤ 0 := by
  have e := sm_le (g := fun _ => 0) h
  rwa [sm_zero (n := n) (f := fun _ => 0) (fun _ _ => rfl)] at e

theorem sm_swap (n m : Nat) (f : Nat → Nat → Int) :
    sm n (fun i => sm m (fun j => f i j)) = sm m (fun j => sm n (fun i => f i j)) := by
  induction n with
  | zero => simp only [sm]; exact (sm_zero (fun _ _ => rfl)).symm
  | succ n ih => simp only [sm, ih, sm_add]

theorem sm_exists_neg {n : Nat} {f : Nat → Int} (h : sm n f < 0) : ∃ i, i < n ∧ f i < 0 := by
  refine Classical.byContradiction fun hc => ?_
  have : 0 ≤ sm n f := sm_nonneg (fun i hi => Classical.byContradiction fun hh => hc ⟨i, hi, by omega⟩)
  omega

theorem sm_abs {n : Nat} {f : Nat → Int} {K : Nat} (h : ∀ i, i < n → (f i).natAbs ≤ K) : (sm n f).natAbs ≤ n * K := by
  induction n with
  | zero => simp [sm]
  | succ n ih =>
    simp only [sm]
    have a := ih (fun i hi => h i (Nat.lt_succ_of_lt hi))
    have b := h n (Nat.lt_succ_self n)
    have c := Int.natAbs_add_le (sm n f) (f n)
    rw [Nat.succ_mul]; omega

/-! ## determinants -/
abbrev Mx := Nat → Nat → Int

def skip (k r : Nat) : Nat := if r < k then r else r + 1
def sg (k : Nat) : Int := if k % 2 = 0 then 1 else -1
def mn (A : Mx) (k : Nat) : Mx := fun r p => A (skip k r) (p + 1)
def up {α : Type} (A : Nat → α) (i : Nat) (v : α) : Nat → α := fun k => if k = i then v else A k

@[simp] theorem up_same {α : Type} (A : Nat → α) (i : Nat) (v : α) : up A i v i = v := by simp [up]
theorem up_ne {α : Type} {A : Nat → α} {i k : Nat} {v : α} (h : k ≠ i) : up A i v k = A k := by simp [up, h]
theorem up_up {α : Type} (A : Nat → α) (i : Nat) (v w : α) : up (up A i v) i w = up A i w := by
  funext k; simp only [up]; split <;> rfl
theorem up_comm {α : Type} (A : Nat → α) {i j : Nat} (h : i ≠ j) (v w : α) :
    up (up A i v) j w = up (up A j w) i v := by
  funext k; simp only [up]; split <;> split <;> first | rfl | omega
theorem up_self {α : Type} (A : Nat → α) (i : Nat) : up A i (A i) = A := by
  funext k; simp only [up]; split
  · next h => rw [h]
  · rfl

def det : Nat → Mx → Int
  | 0, _ => 1
  | n+1, A => sm (n+1) (fun k => sg k * (A k 0 * det n (mn A k)))

theorem skip_lt {k r n : Nat} (h : r < n) : skip k r < n + 1 := by
  simp only [skip]; split <;> omega
theorem skip_ne (k r : Nat) : skip k r ≠ k := by
  simp only [skip]; split <;> omega

theorem det_congr {n : Nat} {A B : Mx} (h : ∀ k, k < n → ∀ p, p < n → A k p = B k p) : det n A = det n B := by
  induction n generalizing A B with
  | zero => rfl
  | succ n ih =>
    simp only [det]
    refine sm_congr (fun k hk => ?_)
    rw [h k hk 0 (by omega), ih (A := mn A k) (B := mn B k)
      (fun r hr p hp => h _ (skip_lt hr) _ (by omega))]

/-- position of row `i` after row `k` is left out -/
def pull (k i : Nat) : Nat := if i < k then i else i - 1

theorem skip_eq_iff {k i r : Nat} (h : k ≠ i) : (skip k r = i) = (r = pull k i) := by
  simp only [skip, pull]; apply propext; split <;> split <;> constructor <;> intro <;> omega

theorem mn_up_same (A : Mx) (k : Nat) (v : Nat → Int) : mn (up A k v) k = mn A k := by
  funext r p; simp only [mn, up]; rw [if_neg (skip_ne k r)]

theorem mn_up_ne (A : Mx) {k i : Nat} (v : Nat → Int) (h : k ≠ i) :
    mn (up A i v) k = up (mn A k) (pull k i) (fun p => v (p + 1)) := by
  funext r p; simp only [mn, up, skip_eq_iff h]
  by_cases e : r = pull k i
  · simp only [if_pos e]
  · simp only [if_neg e]; rfl

theorem pull_lt {k i n : Nat} (h : k ≠ i) (hk : k < n + 1) (hi : i < n + 1) : pull k i < n := by
  simp only [pull]; split <;> omega

theorem det_lin {n : Nat} (A : Mx) {i : Nat} (hi : i < n) (a b : Int) (u w : Nat → Int) :
    det n (up A i (fun p => a * u p + b * w p)) = a * det n (up A i u) + b * det n (up A i w) := by
  induction n generalizing A i u w with
  | zero => omega
  | succ n ih =>
    simp only [det]
    rw [← sm_mul, ← sm_mul, ← sm_add]
    refine sm_congr (fun k hk => ?_)
    by_cases e : k = i
    · subst e
      simp only [mn_up_same, up_same]; grind
    · simp only [mn_up_ne A _ e, up_ne e]
      rw [ih (mn A k) (pull_lt e hk hi)]; grind

theorem det_row0 {n : Nat} (A : Mx) {i : Nat} (hi : i < n) (h : ∀ p, A i p = 0) : det n A = 0 := by
  have e := det_lin A hi 0 0 (fun _ => 0) (fun _ => 0)
  simp only [Int.zero_mul, Int.add_zero] at e
  rw [← e]
  refine det_congr (fun k _ p _ => ?_)
  simp only [up]; split
  · next h' => rw [h', h]
  · rfl

theorem det_sum {n : Nat} (A : Mx) {i : Nat} (hi : i < n) (N : Nat) (c : Nat → Int) (W : Nat → Nat → Int) :
    det n (up A i (fun q => sm N (fun p => c p * W p q))) = sm N (fun p => c p * det n (up A i (W p))) := by
  induction N with
  | zero =>
    simp only [sm]
    exact det_row0 _ hi (fun p => by simp [up])
  | succ N ih =>
    simp only [sm]
    have e := det_lin A hi 1 (c N) (fun q => sm N (fun p => c p * W p q)) (W N)
    simp only [Int.one_mul] at e
    rw [e, ih]

theorem sg_succ (k : Nat) : sg (k + 1) = - sg k := by
  simp only [sg]; split <;> split <;> omega

/-- two rows that stand side by side and are the same -/
theorem det_adj {n : Nat} (A : Mx) {i : Nat} (hi : i + 1 < n) (h : ∀ p, A i p = A (i + 1) p) : det n A = 0 := by
  induction n generalizing A i with
  | zero => omega
  | succ n ih =>
    simp only [det]
    rw [sm_two i (i + 1) (by omega) hi (by omega)]
    · have e : mn A (i + 1) = mn A i := by
        funext r p
        simp only [mn, skip]
        by_cases e : r = i
        · subst e; simp [h]
        · split <;> split <;> first | rfl | omega
      rw [e, h 0, sg_succ]; grind
    · intro k hk h1 h2
      have e : det n (mn A k) = 0 := by
        by_cases hh : k < i
        · refine ih (mn A k) (i := i - 1) (by omega) (fun p => ?_)
          simp only [mn, skip]
          rw [if_neg (by omega), if_neg (by omega)]
          have : i - 1 + 1 = i := by omega
          rw [this, h]
        · refine ih (mn A k) (i := i) (by omega) (fun p => ?_)
          simp only [mn, skip]
          rw [if_pos (by omega), if_pos (by omega), h]
      rw [e]; simp

theorem det_adj_swap {n : Nat} (A : Mx) {i : Nat} (hi : i + 1 < n) (u w : Nat → Int) :
    det n (up (up A i u) (i + 1) w) = - det n (up (up A i w) (i + 1) u) := by
  have ne : i ≠ i + 1 := by omega
  have z : ∀ v, det n (up (up A i v) (i + 1) v) = 0 := fun v =>
    det_adj _ hi (fun p => by simp [up])
  have e := z (fun p => 1 * u p + 1 * w p)
  rw [det_lin _ hi 1 1 u w] at e
  rw [up_comm A ne, up_comm A ne, det_lin _ (by omega) 1 1 u w, det_lin _ (by omega) 1 1 u w] at e
  rw [← up_comm A ne, ← up_comm A ne, ← up_comm A ne, ← up_comm A ne] at e
  rw [z u, z w] at e
  omega

theorem det_eq_rows {n : Nat} (d : Nat) : ∀ (A : Mx) {i : Nat}, i + d + 1 < n → (∀ p, A i p = A (i + d + 1) p) → det n A = 0 := by
  induction d with
  | zero => intro A i hi h; exact det_adj A hi h
  | succ d ih =>
    intro A i hi h
    have e1 : A = up (up A (i + d + 1) (A (i + d + 1))) (i + d + 1 + 1) (A (i + d + 1 + 1)) := by
      rw [up_self, up_self]
    rw [e1, det_adj_swap A (by omega)]
    rw [ih _ (i := i) (by omega) (fun p => ?_)]
    · rfl
    · have h1 : i ≠ i + d + 1 := by omega
      have h2 : i ≠ i + d + 1 + 1 := by omega
      have h3 : i + d + 1 ≠ i + d + 1 + 1 := by omega
      rw [up_ne h2, up_ne h1, up_ne h3, up_same]
      exact h p

/-- two rows that are the same -/
theorem det_alt {n : Nat} (A : Mx) {i j : Nat} (hi : i < n) (hj : j < n) (hij : i ≠ j) (h : ∀ p, A i p = A j p) :
    det n A = 0 := by
  by_cases hh : i < j
  · obtain ⟨d, rfl⟩ : ∃ d, j = i + d + 1 := ⟨j - i - 1, by omega⟩
    exact det_eq_rows d A hj h
  · obtain ⟨d, rfl⟩ : ∃ d, i = j + d + 1 := ⟨i - j - 1, by omega⟩
    exact det_eq_rows d A hi (fun p => (h p).symm)

theorem det_swap {n : Nat} (A : Mx) {i j : Nat} (hi : i < n) (hj : j < n) (ne : i ≠ j) (u w : Nat → Int) :
    det n (up (up A i u) j w) = - det n (up (up A i w) j u) := by
  have z : ∀ v, det n (up (up A i v) j v) = 0 := fun v =>
    det_alt _ hi hj ne (fun p => by simp [up])
  have e := z (fun p => 1 * u p + 1 * w p)
  rw [det_lin _ hj 1 1 u w] at e
  rw [up_comm A ne, up_comm A ne, det_lin _ hi 1 1 u w, det_lin _ hi 1 1 u w] at e
  rw [← up_comm A ne, ← up_comm A ne, ← up_comm A ne, ← up_comm A ne] at e
  rw [z u, z w] at e
  omega

def I : Mx := fun k p => if k = p then 1 else 0

theorem det_I (n : Nat) : det n I = 1 := by
  induction n with
  | zero => rfl
  | succ n ih =>
    simp only [det]
    rw [sm_one 0 (by omega)]
    · have e : mn I 0 = I := by
        funext r p; simp only [mn, skip, I]; simp
      rw [e, ih]; simp [sg, I]
    · intro k _ hk; simp [I, hk]

theorem det_up_I {n i : Nat} (hi : i < n) (a : Nat → Int) : det n (up I i a) = a i := by
  have e : det n (up I i a) = det n (up I i (fun q => sm n (fun p => a p * I p q))) := by
    refine det_congr (fun k _ q hq => ?_)
    simp only [up]; split
    · show a q = sm n (fun p => a p * I p q)
      rw [sm_one q hq (fun p _ hp => by simp [I, hp])]; simp [I]
    · rfl
  rw [e, det_sum I hi, sm_one i hi]
  · rw [up_self, det_I]; simp
  · intro p hp hne
    rw [det_alt (up I i (I p)) hi hp (Ne.symm hne) (fun q => by rw [up_same, up_ne hne])]; simp

def fac : Nat → Nat
  | 0 => 1
  | n+1 => (n+1) * fac n

theorem det_bound {n K : Nat} (A : Mx) (h : ∀ k, k < n → ∀ p, p < n → (A k p).natAbs ≤ K) : (det n A).natAbs ≤ fac n * K ^ n := by
  induction n generalizing A with
  | zero => simp [det, fac]
  | succ n ih =>
    simp only [det]
    have e : (n + 1) * (K * (fac n * K ^ n)) = fac (n + 1) * K ^ (n + 1) := by
      simp only [fac, Nat.pow_succ]; grind
    rw [← e]
    refine sm_abs (fun k hk => ?_)
    have a := h k hk 0 (by omega)
    have b := ih (mn A k) (fun r hr p hp => h _ (skip_lt hr) _ (by omega))
    have c : (sg k).natAbs = 1 := by simp only [sg]; split <;> rfl
    rw [Int.natAbs_mul, c, Int.natAbs_mul, Nat.one_mul]
    exact Nat.mul_le_mul a b

end Sx
end

section
/-! A table of determinants and one exchange of it. -/
namespace Sx

structure LP where
  m : Nat
  n : Nat
  a : Nat → Nat → Int
  l : Nat → Int
  g : Nat → Int

/-- the vector of a variable: a column with its gain, a unit, the limits -/
def LP.vec (P : LP) (v : Nat) (p : Nat) : Int :=
  if v < P.n then (if p < P.m then P.a p v else if p = P.m then P.g v else 0)
  else if v ≤ P.n + P.m then I (v - P.n) p
  else (if p < P.m then P.l p else 0)

structure St where
  ba : Nat → Nat
  lo : Nat → Nat

def St.B (s : St) (P : LP) : Mx := fun k => P.vec (s.ba k)
def St.T (s : St) (P : LP) (i j : Nat) : Int := det (P.m + 1) (up (s.B P) i (P.vec (s.lo j)))
def St.sc (s : St) (P : LP) : Int := det (P.m + 1) (s.B P)
def St.piv (s : St) (r c : Nat) : St := ⟨up s.ba r (s.lo c), up s.lo c (s.ba r)⟩
def St.init (P : LP) : St := ⟨fun k => P.n + k, fun j => if j = P.n then P.n + P.m + 1 else j⟩

structure Inv (P : LP) (s : St) : Prop where
  bm : s.ba P.m = P.n + P.m
  ln : s.lo P.n = P.n + P.m + 1
  pos : 0 < s.sc P
  V : ∀ j, j ≤ P.n → ∀ p, p ≤ P.m → s.sc P * P.vec (s.lo j) p = sm (P.m + 1) (fun k => s.T P k j * s.B P k p)
  bl : ∀ k, k < P.m → s.ba k < P.n + P.m
  ll : ∀ j, j < P.n → s.lo j < P.n + P.m
  bi : ∀ k, k < P.m → ∀ k', k' < P.m → s.ba k = s.ba k' → k = k'
  li : ∀ j, j < P.n → ∀ j', j' < P.n → s.lo j = s.lo j' → j = j'
  ne : ∀ k, k < P.m → ∀ j, j < P.n → s.ba k ≠ s.lo j
  cov : ∀ v, v < P.n + P.m → (∃ k, k < P.m ∧ s.ba k = v) ∨ (∃ j, j < P.n ∧ s.lo j = v)
  nn : ∀ k, k < P.m → 0 ≤ s.T P k P.n

theorem St.piv_B (s : St) (P : LP) (r c : Nat) : (s.piv r c).B P = up (s.B P) r (P.vec (s.lo c)) := by
  funext k; simp only [St.B, St.piv, up]; split <;> rfl

theorem St.piv_sc (s : St) (P : LP) (r c : Nat) : (s.piv r c).sc P = s.T P r c := by
  simp only [St.sc, St.piv_B, St.T]

theorem St.T_piv_rc (s : St) (P : LP) (r c : Nat) : (s.piv r c).T P r c = s.sc P := by
  simp only [St.T, St.piv_B, St.sc, up_up]
  have : P.vec ((s.piv r c).lo c) = s.B P r := by simp [St.piv, St.B]
  rw [this, up_self]

theorem St.T_piv_r (s : St) (P : LP) {r c j : Nat} (h : j ≠ c) : (s.piv r c).T P r j = s.T P r j := by
  have e : (s.piv r c).lo j = s.lo j := by simp only [St.piv]; rw [up_ne h]
  simp only [St.T, St.piv_B, up_up, e]

theorem St.T_piv_c (s : St) (P : LP) {r c i : Nat} (hr : r < P.m + 1) (hi : i < P.m + 1) (h : i ≠ r) :
    (s.piv r c).T P i c = - s.T P i c := by
  simp only [St.T, St.piv_B]
  have : P.vec ((s.piv r c).lo c) = s.B P r := by simp [St.piv, St.B]
  rw [this, up_comm _ (Ne.symm h), det_swap _ hi hr h, up_comm _ h, up_self]

/-- the exact division of an exchange -/
theorem T_piv {P : LP} {s : St} (hI : Inv P s) {r c i j : Nat} (hr : r < P.m + 1) (hi : i < P.m + 1) (hj : j ≤ P.n)
    (hir : i ≠ r) (hjc : j ≠ c) :
    s.sc P * (s.piv r c).T P i j = s.T P r c * s.T P i j - s.T P i c * s.T P r j := by
  have e1 : (s.piv r c).T P i j = det (P.m + 1) (up (up (s.B P) r (P.vec (s.lo c))) i (P.vec (s.lo j))) := by
    have e : (s.piv r c).lo j = s.lo j := by simp only [St.piv]; rw [up_ne hjc]
    simp only [St.T, St.piv_B, e]
  have lin := det_lin (up (s.B P) r (P.vec (s.lo c))) hi (s.sc P) 0 (P.vec (s.lo j)) (fun _ => 0)
  simp only [Int.zero_mul, Int.add_zero] at lin
  rw [e1, ← lin]
  have e2 : det (P.m + 1) (up (up (s.B P) r (P.vec (s.lo c))) i (fun p => s.sc P * P.vec (s.lo j) p)) =
      det (P.m + 1) (up (up (s.B P) r (P.vec (s.lo c))) i (fun q => sm (P.m + 1) (fun k => s.T P k j * s.B P k q))) := by
    refine det_congr (fun k _ p hp => ?_)
    simp only [up]; split
    · exact hI.V j hj p (by omega)
    · rfl
  rw [e2, det_sum _ hi, sm_two i r hi hr hir]
  · have a1 : det (P.m + 1) (up (up (s.B P) r (P.vec (s.lo c))) i (s.B P i)) = s.T P r c := by
      rw [up_comm _ (Ne.symm hir), up_self]; rfl
    have a2 : det (P.m + 1) (up (up (s.B P) r (P.vec (s.lo c))) i (s.B P r)) = - s.T P i c := by
      rw [up_comm _ (Ne.symm hir), det_swap _ hi hr hir, up_comm _ hir, up_self]; rfl
    rw [a1, a2]; grind
  · intro k hk h1 h2
    have : det (P.m + 1) (up (up (s.B P) r (P.vec (s.lo c))) i (s.B P k)) = 0 :=
      det_alt _ hi hk (Ne.symm h1) (fun p => by rw [up_same, up_ne h1, up_ne h2])
    rw [this]; simp

theorem T_piv_div {P : LP} {s : St} (hI : Inv P s) {r c i j : Nat} (hr : r < P.m + 1) (hi : i < P.m + 1) (hj : j ≤ P.n)
    (hir : i ≠ r) (hjc : j ≠ c) :
    (s.T P r c * s.T P i j - s.T P i c * s.T P r j).fdiv (s.sc P) = (s.piv r c).T P i j := by
  rw [← T_piv hI hr hi hj hir hjc]
  exact Int.mul_fdiv_cancel_left _ (by have := hI.pos; omega)

/-- what the program's exchange writes into row `i`, column `j` -/
def St.new (s : St) (P : LP) (r c i j : Nat) : Int :=
  if i = r then (if j = c then s.sc P else s.T P r j)
  else if j = c then - s.T P i c
  else (s.T P r c * s.T P i j - s.T P i c * s.T P r j).fdiv (s.sc P)

theorem new_eq {P : LP} {s : St} (hI : Inv P s) {r c i j : Nat} (hr : r < P.m + 1) (hi : i < P.m + 1) (hj : j ≤ P.n) :
    s.new P r c i j = (s.piv r c).T P i j := by
  simp only [St.new]
  by_cases h1 : i = r
  · subst h1; rw [if_pos rfl]
    by_cases h2 : j = c
    · subst h2; rw [if_pos rfl, St.T_piv_rc]
    · rw [if_neg h2, St.T_piv_r s P h2]
  · rw [if_neg h1]
    by_cases h2 : j = c
    · subst h2; rw [if_pos rfl, St.T_piv_c s P hr hi h1]
    · rw [if_neg h2, T_piv_div hI hr hi hj h1 h2]

theorem T_basic {P : LP} {s : St} {i k : Nat} (hi : i < P.m + 1) (hk : k < P.m + 1) (h : i ≠ k) :
    det (P.m + 1) (up (s.B P) i (s.B P k)) = 0 :=
  det_alt _ hi hk h (fun p => by rw [up_same, up_ne (Ne.symm h)])

theorem inv_init (P : LP) (hl : ∀ p, p < P.m → 0 ≤ P.l p) : Inv P (St.init P) := by
  have eB : ∀ k, k < P.m + 1 → (St.init P).B P k = I k := by
    intro k hk
    simp only [St.B, St.init]
    funext p
    simp only [LP.vec]
    rw [if_neg (by omega), if_pos (by omega)]
    congr 1; omega
  have eD : ∀ i v, i < P.m + 1 → det (P.m + 1) (up ((St.init P).B P) i v) = v i := by
    intro i v hi
    rw [← det_up_I hi v]
    refine det_congr (fun k hk p _ => ?_)
    simp only [up]; split
    · rfl
    · rw [eB k hk]
  have eS : (St.init P).sc P = 1 := by
    simp only [St.sc]; rw [← det_I (P.m + 1)]
    exact det_congr (fun k hk p _ => by rw [eB k hk])
  have eT : ∀ i j, i < P.m + 1 → (St.init P).T P i j = P.vec ((St.init P).lo j) i := fun i j hi => eD i _ hi
  refine ⟨rfl, by simp [St.init], by rw [eS]; decide, ?_, ?_, ?_, ?_, ?_, ?_, ?_, ?_⟩
  · intro j hj p hp
    rw [eS, sm_one p (by omega)]
    · rw [eT p j (by omega), eB p (by omega)]; simp [I]
    · intro k hk hn; rw [eB k hk]; simp [I, hn]
  · intro k hk; simp only [St.init]; omega
  · intro j hj; simp only [St.init]; rw [if_neg (by omega)]; omega
  · intro k hk k' hk' h; simp only [St.init] at h; omega
  · intro j hj j' hj' h; simp only [St.init] at h; rw [if_neg (by omega), if_neg (by omega)] at h; exact h
  · intro k hk j hj; simp only [St.init]; rw [if_neg (by omega)]; omega
  · intro v hv
    by_cases h : v < P.n
    · exact .inr ⟨v, h, by simp only [St.init]; rw [if_neg (by omega)]⟩
    · exact .inl ⟨v - P.n, by omega, by simp only [St.init]; omega⟩
  · intro k hk
    rw [eT k P.n (by omega)]
    simp only [St.init, LP.vec, if_true]
    rw [if_neg (by omega), if_neg (by omega), if_pos hk]; exact hl k hk

theorem T_init (P : LP) {i j : Nat} (hi : i < P.m + 1) : (St.init P).T P i j = P.vec ((St.init P).lo j) i := by
  simp only [St.T]
  rw [← det_up_I hi (P.vec ((St.init P).lo j))]
  refine det_congr (fun k hk p _ => ?_)
  simp only [up]; split
  · rfl
  · next hne =>
    show LP.vec P (P.n + k) p = I k p
    simp only [LP.vec]
    rw [if_neg (by omega), if_pos (by omega)]
    congr 1; omega

theorem sc_init (P : LP) : (St.init P).sc P = 1 := by
  simp only [St.sc]; rw [← det_I (P.m + 1)]
  refine det_congr (fun k hk p _ => ?_)
  show LP.vec P (P.n + k) p = I k p
  simp only [LP.vec]
  rw [if_neg (by omega), if_pos (by omega)]
  congr 1; omega

/-- what is asked of the row that leaves -/
structure Lv (P : LP) (s : St) (r c : Nat) : Prop where
  lt : r < P.m
  pos : 0 < s.T P r c
  min : ∀ k, k < P.m → 0 < s.T P k c → s.T P r P.n * s.T P k c ≤ s.T P k P.n * s.T P r c

theorem inv_piv {P : LP} {s : St} (hI : Inv P s) {r c : Nat} (hc : c < P.n) (hL : Lv P s r c) : Inv P (s.piv r c) := by
  have hr := hL.lt
  have hs := hI.pos
  refine ⟨?_, ?_, ?_, ?_, ?_, ?_, ?_, ?_, ?_, ?_, ?_⟩
  · simp only [St.piv]; rw [up_ne (by omega)]; exact hI.bm
  · simp only [St.piv]; rw [up_ne (by omega)]; exact hI.ln
  · rw [St.piv_sc]; exact hL.pos
  · intro j hj p hp
    rw [St.piv_sc, St.piv_B]
    by_cases hjc : j = c
    · subst hjc
      have e : P.vec ((s.piv r j).lo j) = s.B P r := by simp [St.piv, St.B]
      rw [e]
      have v := hI.V j hj p hp
      rw [sm_split r (by omega)] at v ⊢
      rw [St.T_piv_rc, up_same]
      have e2 : sm (P.m + 1) (fun i => if i = r then 0 else (s.piv r j).T P i j * up (s.B P) r (P.vec (s.lo j)) i p) =
          - sm (P.m + 1) (fun i => if i = r then 0 else s.T P i j * s.B P i p) := by
        rw [← sm_neg]
        refine sm_congr (fun i hi => ?_)
        by_cases h : i = r
        · simp [h]
        · rw [if_neg h, if_neg h, up_ne h, St.T_piv_c s P (by omega) hi h]; grind
      rw [e2]; grind
    · have e : P.vec ((s.piv r c).lo j) = P.vec (s.lo j) := by simp only [St.piv]; rw [up_ne hjc]
      rw [e]
      refine Int.eq_of_mul_eq_mul_left (a := s.sc P) (by omega) ?_
      have v := hI.V j hj p hp
      have w := hI.V c (by omega) p hp
      rw [sm_split r (by omega)] at v w ⊢
      rw [St.T_piv_r s P hjc, up_same, Int.mul_add, ← sm_mul]
      have e2 : sm (P.m + 1) (fun i => s.sc P * (if i = r then 0 else (s.piv r c).T P i j * up (s.B P) r (P.vec (s.lo c)) i p)) =
          s.T P r c * sm (P.m + 1) (fun i => if i = r then 0 else s.T P i j * s.B P i p) +
          - (s.T P r j * sm (P.m + 1) (fun i => if i = r then 0 else s.T P i c * s.B P i p)) := by
        rw [← sm_mul, ← sm_mul, ← sm_neg, ← sm_add]
        refine sm_congr (fun i hi => ?_)
        by_cases h : i = r
        · simp [h]
        · rw [if_neg h, if_neg h, if_neg h, up_ne h]
          have t := T_piv hI (r := r) (c := c) (by omega) hi hj h hjc
          grind
      rw [e2]; grind
  · intro k hk; simp only [St.piv, up]; split
    · exact hI.ll c hc
    · exact hI.bl k hk
  · intro j hj; simp only [St.piv, up]; split
    · exact hI.bl r hr
    · exact hI.ll j hj
  · intro k hk k' hk'; simp only [St.piv, up]; split <;> split
    · omega
    · intro h; exact absurd h.symm (hI.ne k' hk' c hc)
    · intro h; exact absurd h (hI.ne k hk c hc)
    · exact hI.bi k hk k' hk'
  · intro j hj j' hj'; simp only [St.piv, up]; split <;> split
    · omega
    · intro h; exact absurd h (hI.ne r hr j' hj')
    · intro h; exact absurd h.symm (hI.ne r hr j hj)
    · exact hI.li j hj j' hj'
  · intro k hk j hj; simp only [St.piv, up]; split <;> split
    · exact fun h => hI.ne r hr c hc h.symm
    · next h => intro e; exact h (hI.li _ hc _ hj e).symm
    · next h _ => intro e; exact h (hI.bi _ hk _ hr e)
    · exact hI.ne k hk j hj
  · intro v hv
    rcases hI.cov v hv with ⟨k, hk, e⟩ | ⟨j, hj, e⟩
    · by_cases h : k = r
      · exact .inr ⟨c, hc, by simp only [St.piv, up_same]; rw [← h]; exact e⟩
      · exact .inl ⟨k, hk, by simp only [St.piv]; rw [up_ne h]; exact e⟩
    · by_cases h : j = c
      · exact .inl ⟨r, hr, by simp only [St.piv, up_same]; rw [← h]; exact e⟩
      · exact .inr ⟨j, hj, by simp only [St.piv]; rw [up_ne h]; exact e⟩
  · intro k hk
    by_cases h : k = r
    · subst h; rw [St.T_piv_r s P (by omega)]; exact hI.nn k hk
    · have t := T_piv hI (r := r) (c := c) (j := P.n) (by omega) (i := k) (by omega) (Nat.le_refl _) h (by omega)
      have n1 := hI.nn k hk
      have n2 := hI.nn r hr
      have lp := hL.pos
      refine Classical.byContradiction fun hc' => ?_
      have neg : s.sc P * (s.piv r c).T P k P.n < 0 := Int.mul_neg_of_pos_of_neg hs (by omega)
      rw [t] at neg
      by_cases hk0 : 0 < s.T P k c
      · have := hL.min k hk hk0
        grind
      · have a1 : 0 ≤ s.T P r c * s.T P k P.n := Int.mul_nonneg (by omega) n1
        have a2 : 0 ≤ (- s.T P k c) * s.T P r P.n := Int.mul_nonneg (by omega) n2
        rw [Int.neg_mul] at a2
        omega

/-! ## the end -/
/-- the functional of the objective row -/
def St.f (s : St) (P : LP) (v : Nat → Int) : Int := det (P.m + 1) (up (s.B P) P.m v)

theorem f_lin (s : St) (P : LP) (N : Nat) (c : Nat → Int) (W : Nat → Nat → Int) :
    s.f P (fun q => sm N (fun p => c p * W p q)) = sm N (fun p => c p * s.f P (W p)) := det_sum _ (by omega) _ _ _

theorem f_congr (s : St) (P : LP) {v w : Nat → Int} (h : ∀ p, p ≤ P.m → v p = w p) : s.f P v = s.f P w := by
  refine det_congr (fun k _ p hp => ?_)
  simp only [up]; split
  · exact h p (by omega)
  · rfl

theorem f_unit {P : LP} {s : St} (hI : Inv P s) : s.f P (I P.m) = s.sc P := by
  have : I P.m = s.B P P.m := by
    funext p; simp only [St.B, hI.bm, LP.vec]; rw [if_neg (by omega), if_pos (by omega)]; congr 1; omega
  simp only [St.f, this, up_self]; rfl

theorem f_basic {P : LP} {s : St} {k : Nat} (hk : k < P.m) : s.f P (P.vec (s.ba k)) = 0 :=
  T_basic (P := P) (s := s) (i := P.m) (k := k) (by omega) (by omega) (by omega)

theorem f_loose {P : LP} {s : St} (j : Nat) : s.f P (P.vec (s.lo j)) = s.T P P.m j := rfl

/-- the value of the functional from the units -/
theorem f_units {P : LP} {s : St} (v : Nat → Int) : s.f P v = sm (P.m + 1) (fun p => v p * s.f P (I p)) := by
  rw [← f_lin]
  refine f_congr s P (fun p hp => ?_)
  rw [sm_one p (by omega) (fun i _ hi => by simp [I, hi])]; simp [I]

end Sx
end

section
/-! What a table tells where it ends: weights and prices, or a ray. -/
namespace Sx

theorem sm_append (n m : Nat) (f : Nat → Int) : sm (n + m) f = sm n f + sm m (fun i => f (n + i)) := by
  induction m with
  | zero => simp [sm]
  | succ m ih => rw [← Nat.add_assoc]; simp only [sm, ih]; omega

theorem reindex {P : LP} {s : St} (hI : Inv P s) (h : Nat → Int) :
    sm (P.n + P.m) h = sm P.m (fun k => h (s.ba k)) + sm P.n (fun j => h (s.lo j)) := by
  have e1 : ∀ v, v < P.n + P.m → h v = sm P.m (fun k => if s.ba k = v then h v else 0) + sm P.n (fun j => if s.lo j = v then h v else 0) := by
    intro v hv
    rcases hI.cov v hv with ⟨k, hk, e⟩ | ⟨j, hj, e⟩
    · rw [sm_one k hk, sm_zero]
      · simp [e]
      · intro j hj; rw [if_neg]; intro hh; exact hI.ne k hk j hj (by omega)
      · intro k' hk' hn; rw [if_neg]; intro hh; exact hn (hI.bi k' hk' k hk (by omega))
    · rw [sm_one (n := P.n) j hj, sm_zero]
      · simp [e]
      · intro k hk; rw [if_neg]; intro hh; exact hI.ne k hk j hj (by omega)
      · intro j' hj' hn; rw [if_neg]; intro hh; exact hn (hI.li j' hj' j hj (by omega))
  rw [sm_congr e1, sm_add, sm_swap (P.n + P.m) P.m, sm_swap (P.n + P.m) P.n]
  congr 1
  · refine sm_congr (fun k hk => ?_)
    rw [sm_one (s.ba k) (hI.bl k hk) (fun v _ hv => if_neg (Ne.symm hv))]; simp
  · refine sm_congr (fun j hj => ?_)
    rw [sm_one (s.lo j) (hI.ll j hj) (fun v _ hv => if_neg (Ne.symm hv))]; simp

theorem vec_col {P : LP} {v p : Nat} (hv : v < P.n) (hp : p < P.m) : P.vec v p = P.a p v := by
  simp [LP.vec, hv, hp]
theorem vec_gain {P : LP} {v : Nat} (hv : v < P.n) : P.vec v P.m = P.g v := by
  simp [LP.vec, hv]
theorem vec_unit {P : LP} {i p : Nat} (hi : i ≤ P.m) : P.vec (P.n + i) p = I i p := by
  simp only [LP.vec]; rw [if_neg (by omega), if_pos (by omega)]; congr 1; omega
theorem vec_lim {P : LP} {p : Nat} (hp : p < P.m) : P.vec (P.n + P.m + 1) p = P.l p := by
  simp only [LP.vec]; rw [if_neg (by omega), if_neg (by omega), if_pos hp]
theorem vec_lim_m {P : LP} : P.vec (P.n + P.m + 1) P.m = 0 := by
  simp only [LP.vec]; rw [if_neg (by omega), if_neg (by omega), if_neg (by omega)]

/-- the sum over all variables, coordinate by coordinate -/
theorem sm_vec {P : LP} (x : Nat → Int) {p : Nat} (hp : p < P.m) :
    sm (P.n + P.m) (fun v => x v * P.vec v p) = sm P.n (fun v => x v * P.a p v) + x (P.n + p) := by
  rw [sm_append]
  congr 1
  · exact sm_congr (fun v hv => by rw [vec_col hv hp])
  · rw [sm_one p hp]
    · rw [vec_unit (by omega)]; simp [I]
    · intro i hi hn; rw [vec_unit (by omega)]; simp [I, hn]

theorem sm_vec_m {P : LP} (x : Nat → Int) :
    sm (P.n + P.m) (fun v => x v * P.vec v P.m) = sm P.n (fun v => x v * P.g v) := by
  rw [sm_append, sm_zero (n := P.m)]
  · rw [Int.add_zero]; exact sm_congr (fun v hv => by rw [vec_gain hv])
  · intro i hi; rw [vec_unit (by omega)]; simp only [I]; rw [if_neg (by omega)]; simp

/-- the weights that stand in the limits' column -/
structure IsX (P : LP) (s : St) (x : Nat → Int) : Prop where
  ba : ∀ k, k < P.m → x (s.ba k) = s.T P k P.n
  lo : ∀ j, j < P.n → x (s.lo j) = 0

theorem sm_x {P : LP} {s : St} (hI : Inv P s) {x : Nat → Int} (hx : IsX P s x) {p : Nat} (hp : p ≤ P.m) :
    s.sc P * P.vec (P.n + P.m + 1) p = sm (P.n + P.m) (fun v => x v * P.vec v p) + s.T P P.m P.n * I P.m p := by
  have v := hI.V P.n (Nat.le_refl _) p hp
  rw [hI.ln] at v
  rw [v, reindex hI]
  simp only [sm]
  rw [sm_zero (n := P.n) (fun j hj => by rw [hx.lo j hj]; simp)]
  have e1 : s.B P P.m p = I P.m p := by simp only [St.B, hI.bm]; exact vec_unit (Nat.le_refl _)
  rw [e1, sm_congr (n := P.m) (f := fun k => x (s.ba k) * P.vec (s.ba k) p) (g := fun k => s.T P k P.n * s.B P k p)
    (fun k hk => by rw [hx.ba k hk]; rfl)]
  omega

theorem x_nonneg {P : LP} {s : St} (hI : Inv P s) {x : Nat → Int} (hx : IsX P s x) {v : Nat} (hv : v < P.n + P.m) : 0 ≤ x v := by
  rcases hI.cov v hv with ⟨k, hk, e⟩ | ⟨j, hj, e⟩
  · rw [← e, hx.ba k hk]; exact hI.nn k hk
  · rw [← e, hx.lo j hj]; exact Int.le_refl _

/-- the weights stay within the limits -/
theorem x_within {P : LP} {s : St} (hI : Inv P s) {x : Nat → Int} (hx : IsX P s x) {p : Nat} (hp : p < P.m) :
    sm P.n (fun v => x v * P.a p v) ≤ s.sc P * P.l p := by
  have e := sm_x hI hx (p := p) (by omega)
  rw [vec_lim hp, sm_vec x hp] at e
  have n1 := x_nonneg hI hx (v := P.n + p) (by omega)
  have z : I P.m p = 0 := by simp only [I]; rw [if_neg (by omega)]
  rw [z] at e; omega

theorem x_total {P : LP} {s : St} (hI : Inv P s) {x : Nat → Int} (hx : IsX P s x) :
    sm P.n (fun v => x v * P.g v) = - s.T P P.m P.n := by
  have e := sm_x hI hx (p := P.m) (Nat.le_refl _)
  rw [vec_lim_m, sm_vec_m x] at e
  have z : I P.m P.m = 1 := by simp [I]
  rw [z] at e; omega

/-- the ray that stands in column `c` -/
structure IsR (P : LP) (s : St) (c : Nat) (w : Nat → Int) : Prop where
  ba : ∀ k, k < P.m → w (s.ba k) = - s.T P k c
  at_c : w (s.lo c) = s.sc P
  lo : ∀ j, j < P.n → j ≠ c → w (s.lo j) = 0

theorem sm_r {P : LP} {s : St} (hI : Inv P s) {c : Nat} (hc : c < P.n) {w : Nat → Int} (hw : IsR P s c w) {p : Nat} (hp : p ≤ P.m) :
    sm (P.n + P.m) (fun v => w v * P.vec v p) = s.T P P.m c * I P.m p := by
  have v := hI.V c (by omega) p hp
  rw [reindex hI, sm_one (n := P.n) c hc (fun j hj hn => by rw [hw.lo j hj hn]; simp), hw.at_c, v]
  simp only [sm]
  have e1 : s.B P P.m p = I P.m p := by simp only [St.B, hI.bm]; exact vec_unit (Nat.le_refl _)
  rw [e1, sm_congr (n := P.m) (f := fun k => w (s.ba k) * P.vec (s.ba k) p) (g := fun k => - (s.T P k c * s.B P k p))
    (fun k hk => by rw [hw.ba k hk]; exact Int.neg_mul _ _), sm_neg]
  omega

theorem r_nonneg {P : LP} {s : St} (hI : Inv P s) {c : Nat} {w : Nat → Int} (hw : IsR P s c w)
    (hn : ∀ k, k < P.m → s.T P k c ≤ 0) {v : Nat} (hv : v < P.n + P.m) : 0 ≤ w v := by
  rcases hI.cov v hv with ⟨k, hk, e⟩ | ⟨j, hj, e⟩
  · rw [← e, hw.ba k hk]; have := hn k hk; omega
  · by_cases h : j = c
    · subst h; rw [← e, hw.at_c]; exact Int.le_of_lt hI.pos
    · rw [← e, hw.lo j hj h]; exact Int.le_refl _

theorem r_within {P : LP} {s : St} (hI : Inv P s) {c : Nat} (hc : c < P.n) {w : Nat → Int} (hw : IsR P s c w)
    (hn : ∀ k, k < P.m → s.T P k c ≤ 0) {p : Nat} (hp : p < P.m) : sm P.n (fun v => w v * P.a p v) ≤ 0 := by
  have e := sm_r hI hc hw (p := p) (by omega)
  rw [sm_vec w hp] at e
  have n1 := r_nonneg hI hw hn (v := P.n + p) (by omega)
  have z : I P.m p = 0 := by simp only [I]; rw [if_neg (by omega)]
  rw [z] at e; omega

theorem r_total {P : LP} {s : St} (hI : Inv P s) {c : Nat} (hc : c < P.n) {w : Nat → Int} (hw : IsR P s c w) :
    sm P.n (fun v => w v * P.g v) = s.T P P.m c := by
  have e := sm_r hI hc hw (p := P.m) (Nat.le_refl _)
  rw [sm_vec_m w] at e
  have z : I P.m P.m = 1 := by simp [I]
  rw [z] at e; omega

/-- the prices that stand in the row of gains -/
structure IsP (P : LP) (s : St) (y : Nat → Int) : Prop where
  lo : ∀ j, j < P.n → ∀ i, s.lo j = P.n + i → y i = - s.T P P.m j
  ba : ∀ k, k < P.m → ∀ i, s.ba k = P.n + i → y i = 0

theorem p_f {P : LP} {s : St} (hI : Inv P s) {y : Nat → Int} (hy : IsP P s y) {i : Nat} (hi : i < P.m) : s.f P (I i) = - y i := by
  have e0 : I i = P.vec (P.n + i) := by funext p; exact (vec_unit (by omega)).symm
  rcases hI.cov (P.n + i) (by omega) with ⟨k, hk, e⟩ | ⟨j, hj, e⟩
  · rw [hy.ba k hk i e, e0, ← e, f_basic hk]; rfl
  · rw [hy.lo j hj i e, e0, ← e, f_loose]; omega

theorem p_nonneg {P : LP} {s : St} (hI : Inv P s) {y : Nat → Int} (hy : IsP P s y) (hn : ∀ j, j < P.n → s.T P P.m j ≤ 0)
    {i : Nat} (hi : i < P.m) : 0 ≤ y i := by
  rcases hI.cov (P.n + i) (by omega) with ⟨k, hk, e⟩ | ⟨j, hj, e⟩
  · rw [hy.ba k hk i e]; exact Int.le_refl _
  · rw [hy.lo j hj i e]; have := hn j hj; omega

theorem p_col {P : LP} {s : St} (hI : Inv P s) {y : Nat → Int} (hy : IsP P s y) {v : Nat} (hv : v < P.n) :
    s.f P (P.vec v) = s.sc P * P.g v - sm P.m (fun i => P.a i v * y i) := by
  rw [f_units]
  simp only [sm]
  rw [f_unit hI, vec_gain hv, sm_congr (n := P.m) (g := fun i => - (P.a i v * y i))
    (fun i hi => by rw [vec_col hv hi, p_f hI hy hi, Int.mul_neg]), sm_neg, Int.mul_comm]
  omega

/-- the prices reach every gain -/
theorem p_reach {P : LP} {s : St} (hI : Inv P s) {y : Nat → Int} (hy : IsP P s y) (hn : ∀ j, j < P.n → s.T P P.m j ≤ 0)
    {v : Nat} (hv : v < P.n) : s.sc P * P.g v ≤ sm P.m (fun i => P.a i v * y i) := by
  have e := p_col hI hy hv
  have le : s.f P (P.vec v) ≤ 0 := by
    rcases hI.cov v (by omega) with ⟨k, hk, e⟩ | ⟨j, hj, e⟩
    · rw [← e, f_basic hk]; exact Int.le_refl _
    · rw [← e, f_loose]; exact hn j hj
  omega

theorem p_total {P : LP} {s : St} (hI : Inv P s) {y : Nat → Int} (hy : IsP P s y) :
    sm P.m (fun i => P.l i * y i) = - s.T P P.m P.n := by
  have e : s.f P (P.vec (P.n + P.m + 1)) = s.T P P.m P.n := by rw [← hI.ln]; rfl
  rw [f_units] at e
  simp only [sm] at e
  rw [vec_lim_m, sm_congr (n := P.m) (g := fun i => - (P.l i * y i))
    (fun i hi => by rw [vec_lim hi, p_f hI hy hi, Int.mul_neg]), sm_neg] at e
  omega

end Sx
end

section
/-! The rule of the first variable ends. -/
namespace Sx

/-- the column that enters -/
structure Ent (P : LP) (s : St) (c : Nat) : Prop where
  lt : c < P.n
  pos : 0 < s.T P P.m c
  min : ∀ j, j < P.n → 0 < s.T P P.m j → s.lo c ≤ s.lo j

/-- the row that leaves, first among equals -/
structure Lvb (P : LP) (s : St) (r c : Nat) : Prop extends Lv P s r c where
  first : ∀ k, k < P.m → 0 < s.T P k c → s.T P r P.n * s.T P k c = s.T P k P.n * s.T P r c → s.ba r ≤ s.ba k

theorem pigeon (N : Nat) : ∀ (f : Nat → Nat), (∀ i, i ≤ N → f i < N) → ∃ i j, i < j ∧ j ≤ N ∧ f i = f j := by
  induction N with
  | zero => intro f h; exact absurd (h 0 (Nat.le_refl 0)) (by omega)
  | succ N ih =>
    intro f h
    by_cases hh : ∃ i, i ≤ N ∧ f i = f (N + 1)
    · obtain ⟨i, hi, e⟩ := hh; exact ⟨i, N + 1, by omega, by omega, e⟩
    · have nn : ∀ i, i ≤ N → f i ≠ f (N + 1) := fun i hi e => hh ⟨i, hi, e⟩
      have hl := h (N + 1) (Nat.le_refl _)
      let f' : Nat → Nat := fun i => if f i = N then f (N + 1) else f i
      obtain ⟨i, j, hij, hj, e⟩ := ih f' (fun i hi => by
        have a := h i (by omega); have b := nn i hi
        show (if f i = N then f (N + 1) else f i) < N
        split <;> omega)
      refine ⟨i, j, hij, by omega, ?_⟩
      have a := nn i (by omega); have b := nn j hj
      change (if f i = N then f (N + 1) else f i) = (if f j = N then f (N + 1) else f j) at e
      split at e <;> split at e <;> omega

open Classical in
noncomputable def code (Q : Nat → Prop) : Nat → Nat
  | 0 => 0
  | n+1 => code Q n + (if Q n then 2 ^ n else 0)

theorem code_lt (Q : Nat → Prop) (n : Nat) : code Q n < 2 ^ n := by
  induction n with
  | zero => simp [code]
  | succ n ih => simp only [code, Nat.pow_succ]; split <;> omega

theorem code_inj {Q R : Nat → Prop} {n : Nat} (h : code Q n = code R n) : ∀ v, v < n → (Q v ↔ R v) := by
  induction n with
  | zero => intro v hv; omega
  | succ n ih =>
    simp only [code] at h
    have a := code_lt Q n; have b := code_lt R n
    have e : (Q n ↔ R n) ∧ code Q n = code R n := by
      by_cases q : Q n <;> by_cases r : R n <;> simp only [q, r, if_true, if_false] at h ⊢ <;> simp <;> omega
    intro v hv
    by_cases hn : v = n
    · subst hn; exact e.1
    · exact ih e.2 v (by omega)

theorem ivt {Q : Nat → Prop} {a : Nat} (d : Nat) : Q a → ¬ Q (a + d) → ∃ t, a ≤ t ∧ t < a + d ∧ Q t ∧ ¬ Q (t + 1) := by
  induction d with
  | zero => intro h h'; exact absurd h h'
  | succ d ih =>
    intro h h'
    by_cases hd : Q (a + d)
    · exact ⟨a + d, by omega, by omega, hd, h'⟩
    · obtain ⟨t, h1, h2, h3⟩ := ih h hd
      exact ⟨t, h1, by omega, h3⟩

theorem ivt' {Q : Nat → Prop} {a b : Nat} (hab : a ≤ b) (h : Q a) (h' : ¬ Q b) : ∃ t, a ≤ t ∧ t < b ∧ Q t ∧ ¬ Q (t + 1) := by
  obtain ⟨d, rfl⟩ : ∃ d, b = a + d := ⟨b - a, by omega⟩
  exact ivt d h h'

theorem largest {Q : Nat → Prop} (N : Nat) (hb : ∀ v, Q v → v < N) (hex : ∃ v, Q v) : ∃ v, Q v ∧ ∀ w, Q w → w ≤ v := by
  induction N with
  | zero => obtain ⟨v, hv⟩ := hex; exact absurd (hb v hv) (by omega)
  | succ N ih =>
    by_cases h : Q N
    · exact ⟨N, h, fun w hw => by have := hb w hw; omega⟩
    · exact ih (fun v hv => by
        have := hb v hv
        have : v ≠ N := fun e => h (e ▸ hv)
        omega)

def Bas (P : LP) (s : St) (v : Nat) : Prop := ∃ k, k < P.m ∧ s.ba k = v

theorem bas_piv_in {P : LP} {s : St} {r c : Nat} (hr : r < P.m) : Bas P (s.piv r c) (s.lo c) :=
  ⟨r, hr, by simp [St.piv]⟩

theorem not_bas_lo {P : LP} {s : St} (hI : Inv P s) {j : Nat} (hj : j < P.n) : ¬ Bas P s (s.lo j) :=
  fun ⟨k, hk, e⟩ => hI.ne k hk j hj e

theorem bas_enter {P : LP} {s : St} {r c v : Nat} (h : ¬ Bas P s v) (h' : Bas P (s.piv r c) v) : v = s.lo c := by
  obtain ⟨k, hk, e⟩ := h'
  simp only [St.piv, up] at e
  split at e
  · exact e.symm
  · exact absurd ⟨k, hk, e⟩ h

theorem bas_leave {P : LP} {s : St} {r c v : Nat} (h : Bas P s v) (h' : ¬ Bas P (s.piv r c) v) : v = s.ba r := by
  obtain ⟨k, hk, e⟩ := h
  by_cases hk' : k = r
  · subst hk'; exact e.symm
  · exact absurd ⟨k, hk, by simp only [St.piv]; rw [up_ne hk']; exact e⟩ h'

theorem f_not_bas {P : LP} {s : St} (hI : Inv P s) {v : Nat} (hv : v < P.n + P.m) (h : s.f P (P.vec v) ≠ 0) :
    ∃ j, j < P.n ∧ s.lo j = v := by
  rcases hI.cov v hv with ⟨k, hk, e⟩ | x
  · exact absurd (e ▸ f_basic hk) h
  · exact x

def Zer (P : LP) (s : St) (v : Nat) : Prop := ∀ k, k < P.m → s.ba k = v → s.T P k P.n = 0

theorem zer_piv {P : LP} {s : St} (hI : Inv P s) {r c v : Nat} (hc : c < P.n) (hL : Lv P s r c) (hz : s.T P r P.n = 0) :
    Zer P s v ↔ Zer P (s.piv r c) v := by
  have hr := hL.lt
  have key : ∀ k, k < P.m → k ≠ r → (s.T P k P.n = 0 ↔ (s.piv r c).T P k P.n = 0) := by
    intro k hk hkr
    have t := T_piv hI (r := r) (c := c) (j := P.n) (i := k) (by omega) (by omega) (Nat.le_refl _) hkr (by omega)
    rw [hz, Int.mul_zero, Int.sub_zero] at t
    have h1 := hI.pos
    have h2 := hL.pos
    constructor
    · intro e; rw [e, Int.mul_zero] at t
      rcases Int.mul_eq_zero.mp t with h | h
      · omega
      · exact h
    · intro e; rw [e, Int.mul_zero] at t
      rcases Int.mul_eq_zero.mp t.symm with h | h
      · omega
      · exact h
  constructor
  · intro h k hk e
    by_cases hkr : k = r
    · subst hkr; rw [St.T_piv_r s P (by omega)]; exact hz
    · simp only [St.piv] at e; rw [up_ne hkr] at e
      exact (key k hk hkr).1 (h k hk e)
  · intro h k hk e
    by_cases hkr : k = r
    · subst hkr; exact hz
    · exact (key k hk hkr).2 (h k hk (by simp only [St.piv]; rw [up_ne hkr]; exact e))

theorem obj_same {P : LP} {s u : St} (hI : Inv P s) (hJ : Inv P u) (h : ∀ v, v < P.n + P.m → (Bas P s v → Bas P u v)) :
    s.sc P * u.T P P.m P.n = s.T P P.m P.n * u.sc P := by
  have e1 : u.T P P.m P.n = u.f P (P.vec (s.lo P.n)) := by
    rw [hI.ln, ← hJ.ln]; rfl
  have e2 := f_lin u P 1 (fun _ => s.sc P) (fun _ => P.vec (s.lo P.n))
  simp only [sm, Int.zero_add] at e2
  have e3 := f_lin u P (P.m + 1) (fun k => s.T P k P.n) (fun k => s.B P k)
  have e4 : u.f P (fun q => s.sc P * P.vec (s.lo P.n) q) = u.f P (fun q => sm (P.m + 1) (fun p => s.T P p P.n * s.B P p q)) :=
    f_congr u P (fun p hp => hI.V P.n (Nat.le_refl _) p hp)
  rw [e1, ← e2, e4, e3]
  simp only [sm]
  rw [sm_zero (fun k hk => ?_)]
  · have : s.B P P.m = I P.m := by
      funext p; simp only [St.B, hI.bm]; exact vec_unit (Nat.le_refl _)
    rw [this, f_unit hJ]; omega
  · obtain ⟨k', hk', e⟩ := h (s.ba k) (hI.bl k hk) ⟨k, hk, rfl⟩
    have : s.B P k = P.vec (u.ba k') := by simp only [St.B, e]
    rw [this, f_basic hk', Int.mul_zero]

/-- no run is longer than the count of the sets of basic variables -/
theorem bland {P : LP} (st : Nat → St) (r c : Nat → Nat)
    (hI : ∀ t, t ≤ 2 ^ (P.n + P.m) → Inv P (st t))
    (hE : ∀ t, t < 2 ^ (P.n + P.m) → Ent P (st t) (c t))
    (hL : ∀ t, t < 2 ^ (P.n + P.m) → Lvb P (st t) (r t) (c t))
    (hS : ∀ t, t < 2 ^ (P.n + P.m) → st (t + 1) = (st t).piv (r t) (c t)) : False := by
  obtain ⟨i, j, hij, hj, hc⟩ := pigeon (2 ^ (P.n + P.m)) (fun t => code (Bas P (st t)) (P.n + P.m)) (fun t _ => code_lt _ _)
  have same := code_inj hc
  have I' : ∀ t, t ≤ j → Inv P (st t) := fun t ht => hI t (by omega)
  -- the objective never grows
  have mono1 : ∀ t, t < j → (st t).sc P * (st (t + 1)).T P P.m P.n = (st (t+1)).sc P * (st t).T P P.m P.n
      - (st t).T P P.m (c t) * (st t).T P (r t) P.n := by
    intro t ht
    have l := hL t (by omega)
    have e := hE t (by omega)
    have hlt := e.lt
    have := l.lt
    rw [hS t (by omega), St.piv_sc]
    exact T_piv (I' t (by omega)) (r := r t) (c := c t) (i := P.m) (j := P.n) (by omega) (by omega) (Nat.le_refl _) (by omega) (by omega)
  have nn : ∀ t, t < j → 0 ≤ (st t).T P P.m (c t) * (st t).T P (r t) P.n := by
    intro t ht
    have l := hL t (by omega); have e := hE t (by omega)
    exact Int.mul_nonneg (Int.le_of_lt e.pos) ((I' t (by omega)).nn _ l.lt)
  have pos : ∀ t, t ≤ j → 0 < (st t).sc P := fun t ht => (I' t ht).pos
  have mono : ∀ d a, a + d ≤ j → (st a).sc P * (st (a + d)).T P P.m P.n ≤ (st (a + d)).sc P * (st a).T P P.m P.n := by
    intro d a
    induction d with
    | zero => intro _; rw [Nat.add_zero]; exact Int.le_refl _
    | succ d ih =>
      intro h
      have h1 := ih (by omega)
      have h2 := mono1 (a + d) (by omega)
      have h3 := nn (a + d) (by omega)
      have p0 := pos a (by omega)
      have p1 := pos (a + d) (by omega)
      have p2 := pos (a + d + 1) (by omega)
      rw [← Nat.add_assoc]
      refine Int.le_of_mul_le_mul_left (a := (st (a + d)).sc P) ?_ p1
      have q1 := Int.mul_le_mul_of_nonneg_left h1 (Int.le_of_lt p2)
      have h4 : (st (a + d)).sc P * (st (a + d + 1)).T P P.m P.n ≤ (st (a + d + 1)).sc P * (st (a + d)).T P P.m P.n := by omega
      have q2 := Int.mul_le_mul_of_nonneg_left h4 (Int.le_of_lt p0)
      grind
  have eqij : (st i).sc P * (st j).T P P.m P.n = (st i).T P P.m P.n * (st j).sc P :=
    obj_same (I' i (by omega)) (I' j (by omega)) (fun v hv h => (same v hv).1 h)
  have zero : ∀ t, i ≤ t → t < j → (st t).T P (r t) P.n = 0 := by
    intro t h1 h2
    have l := hL t (by omega); have e := hE t (by omega)
    have m1 := mono (t - i) i (by omega)
    have m2 := mono (j - (t + 1)) (t + 1) (by omega)
    have e1 : i + (t - i) = t := by omega
    have e2 : t + 1 + (j - (t + 1)) = j := by omega
    rw [e1] at m1; rw [e2] at m2
    have m3 := mono1 t h2
    have p0 := pos i (by omega); have p1 := pos t (by omega); have p2 := pos (t + 1) (by omega); have p3 := pos j (by omega)
    have n0 := (I' t (by omega)).nn _ l.lt
    refine Classical.byContradiction fun hne => ?_
    have str : 0 < (st t).T P P.m (c t) * (st t).T P (r t) P.n := Int.mul_pos e.pos (by omega)
    have m4 : (st t).sc P * (st (t + 1)).T P P.m P.n < (st (t + 1)).sc P * (st t).T P P.m P.n := by omega
    -- multiply all together
    generalize (st i).sc P = si at *
    generalize (st t).sc P = s0 at *
    generalize (st (t+1)).sc P = s1 at *
    generalize (st j).sc P = sj at *
    generalize (st i).T P P.m P.n = zi at *
    generalize (st t).T P P.m P.n = z0 at *
    generalize (st (t+1)).T P P.m P.n = z1 at *
    generalize (st j).T P P.m P.n = zj at *
    -- si*z0 ≤ s0*zi ; s1*zj ≤ sj*z1 ; s0*z1 < s1*z0 ; si*zj = zi*sj
    have a1 := Int.mul_le_mul_of_nonneg_left m1 (Int.le_of_lt (Int.mul_pos p2 p3))
    have a2 := Int.mul_le_mul_of_nonneg_left m2 (Int.le_of_lt (Int.mul_pos p0 p1))
    have a3 := Int.mul_lt_mul_of_pos_left m4 (Int.mul_pos p0 p3)
    have a4 : s0 * s1 * (si * zj) = s0 * s1 * (zi * sj) := by rw [eqij]
    grind
  -- fickle variables
  let F : Nat → Prop := fun v => v < P.n + P.m ∧ (∃ t, i ≤ t ∧ t ≤ j ∧ Bas P (st t) v) ∧ (∃ t, i ≤ t ∧ t ≤ j ∧ ¬ Bas P (st t) v)
  have fe : ∀ t, i ≤ t → t < j → F ((st t).lo (c t)) := by
    intro t h1 h2
    have e := hE t (by omega); have l := hL t (by omega)
    refine ⟨(I' t (by omega)).ll _ e.lt, ⟨t + 1, by omega, by omega, ?_⟩, ⟨t, h1, by omega, not_bas_lo (I' t (by omega)) e.lt⟩⟩
    rw [hS t (by omega)]; exact bas_piv_in l.lt
  obtain ⟨q, hq, qmax⟩ := largest (Q := F) (P.n + P.m) (fun v hv => hv.1) ⟨_, fe i (Nat.le_refl _) hij⟩
  obtain ⟨qlt, ⟨tb, tb1, tb2, hb⟩, ⟨tn, tn1, tn2, hn⟩⟩ := hq
  have zer : ∀ v, F v → ∀ t, i ≤ t → t ≤ j → Zer P (st t) v := by
    intro v hv
    obtain ⟨_, _, ⟨t0, h1, h2, h3⟩⟩ := hv
    have base : Zer P (st t0) v := fun k hk e => absurd ⟨k, hk, e⟩ h3
    have stp : ∀ t, i ≤ t → t < j → (Zer P (st t) v ↔ Zer P (st (t + 1)) v) := by
      intro t h1 h2
      rw [hS t (by omega)]
      exact zer_piv (I' t (by omega)) (hE t (by omega)).lt (hL t (by omega)).toLv (zero t h1 h2)
    have fromi : ∀ d, i + d ≤ j → (Zer P (st i) v ↔ Zer P (st (i + d)) v) := by
      intro d
      induction d with
      | zero => intro _; exact Iff.rfl
      | succ d ih => intro h; exact (ih (by omega)).trans (stp (i + d) (by omega) (by omega))
    intro t g1 g2
    have a := fromi (t0 - i) (by omega)
    have b := fromi (t - i) (by omega)
    have e1 : i + (t0 - i) = t0 := by omega
    have e2 : i + (t - i) = t := by omega
    rw [e1] at a; rw [e2] at b
    exact b.1 (a.2 base)
  have same_q := same q qlt
  -- q leaves at t1
  obtain ⟨t1, a1, a2, a3, a4⟩ : ∃ t, i ≤ t ∧ t < j ∧ Bas P (st t) q ∧ ¬ Bas P (st (t + 1)) q := by
    by_cases hbi : Bas P (st i) q
    · obtain ⟨t, x1, x2, x3⟩ := ivt' (Q := fun t => Bas P (st t) q) tn1 hbi hn
      exact ⟨t, x1, by omega, x3⟩
    · have : ¬ Bas P (st j) q := fun h => hbi (same_q.2 h)
      obtain ⟨t, x1, x2, x3⟩ := ivt' (Q := fun t => Bas P (st t) q) tb2 hb this
      exact ⟨t, by omega, x2, x3⟩
  -- q enters at t2
  obtain ⟨t2, b1, b2, b3, b4⟩ : ∃ t, i ≤ t ∧ t < j ∧ ¬ Bas P (st t) q ∧ Bas P (st (t + 1)) q := by
    by_cases hbi : Bas P (st i) q
    · have hbj : Bas P (st j) q := same_q.1 hbi
      obtain ⟨t, x1, x2, x3, x4⟩ := ivt' (Q := fun t => ¬ Bas P (st t) q) tn2 hn (fun h => h hbj)
      exact ⟨t, by omega, x2, x3, Classical.byContradiction x4⟩
    · obtain ⟨t, x1, x2, x3, x4⟩ := ivt' (Q := fun t => ¬ Bas P (st t) q) tb1 hbi (fun h => h hb)
      exact ⟨t, x1, by omega, x3, Classical.byContradiction x4⟩
  have I1 := I' t1 (by omega)
  have I2 := I' t2 (by omega)
  have E1 := hE t1 (by omega); have L1 := hL t1 (by omega)
  have E2 := hE t2 (by omega); have L2 := hL t2 (by omega)
  rw [hS t1 (by omega)] at a4
  rw [hS t2 (by omega)] at b4
  have q1 : q = (st t1).ba (r t1) := bas_leave a3 a4
  have q2 : q = (st t2).lo (c t2) := bas_enter b3 b4
  have fq : 0 < (st t2).f P (P.vec q) := by rw [q2]; exact E2.pos
  -- loose variables below q have no gain at t2
  have low : ∀ v, v < P.n + P.m → v < q → (st t2).f P (P.vec v) ≤ 0 := by
    intro v hv hvq
    refine Classical.byContradiction fun hc => ?_
    obtain ⟨jj, hjj, e⟩ := f_not_bas I2 hv (by omega)
    have := E2.min jj hjj (by rw [← e] at hc; have h : (st t2).f P (P.vec ((st t2).lo jj)) = (st t2).T P P.m jj := rfl; omega)
    omega
  have fe1 := fe t1 a1 a2
  have elt : (st t1).lo (c t1) < q := by
    have le := qmax _ fe1
    have : (st t1).lo (c t1) ≠ q := by
      rw [q1]; exact fun h => I1.ne _ L1.lt _ E1.lt h.symm
    omega
  have fe0 := low _ (I1.ll _ E1.lt) elt
  -- the sum
  have V := f_congr (st t2) P (v := fun p => (st t1).sc P * P.vec ((st t1).lo (c t1)) p)
    (w := fun p => sm (P.m + 1) (fun k => (st t1).T P k (c t1) * (st t1).B P k p))
    (fun p hp => I1.V (c t1) (Nat.le_of_lt E1.lt) p hp)
  have e2 := f_lin (st t2) P 1 (fun _ => (st t1).sc P) (fun _ => P.vec ((st t1).lo (c t1)))
  simp only [sm, Int.zero_add] at e2
  rw [f_lin (st t2) P (P.m + 1) (fun k => (st t1).T P k (c t1)) (fun k => (st t1).B P k)] at V
  rw [e2] at V
  simp only [sm] at V
  have um : (st t1).B P P.m = I P.m := by
    funext p; simp only [St.B, I1.bm]; exact vec_unit (Nat.le_refl _)
  rw [um, f_unit I2] at V
  have pm : 0 < (st t1).T P P.m (c t1) * (st t2).sc P := Int.mul_pos E1.pos I2.pos
  have le0 : (st t1).sc P * (st t2).f P (P.vec ((st t1).lo (c t1))) ≤ 0 := Int.mul_nonpos_of_nonneg_of_nonpos (Int.le_of_lt I1.pos) fe0
  obtain ⟨k, hk, hneg⟩ := sm_exists_neg (n := P.m) (f := fun k => (st t1).T P k (c t1) * (st t2).f P ((st t1).B P k)) (by omega)
  have vlt := I1.bl k hk
  have hB : (st t1).B P k = P.vec ((st t1).ba k) := rfl
  rw [hB] at hneg
  have fne : (st t2).f P (P.vec ((st t1).ba k)) ≠ 0 := by
    intro h; rw [h, Int.mul_zero] at hneg; omega
  obtain ⟨jj, hjj, ejj⟩ := f_not_bas I2 vlt fne
  have fv : F ((st t1).ba k) := ⟨vlt, ⟨t1, a1, by omega, ⟨k, hk, rfl⟩⟩, ⟨t2, b1, by omega, by rw [← ejj]; exact not_bas_lo I2 hjj⟩⟩
  have vle := qmax _ fv
  by_cases veq : (st t1).ba k = q
  · have : k = r t1 := I1.bi k hk _ L1.lt (by rw [veq, q1])
    rw [veq, this] at hneg
    have := Int.mul_pos L1.pos fq
    omega
  · have f0 := low _ vlt (by omega)
    have tk : 0 < (st t1).T P k (c t1) := by
      refine Classical.byContradiction fun hc => ?_
      have := Int.mul_nonneg_of_nonpos_of_nonpos (a := (st t1).T P k (c t1)) (b := (st t2).f P (P.vec ((st t1).ba k))) (by omega) f0
      omega
    have z1 := zero t1 a1 a2
    have z2 := zer _ fv t1 a1 (by omega) k hk rfl
    have := L1.first k hk tk (by rw [z1, z2]; simp)
    omega

end Sx
end

section
/-! The choices of column and row, and the whole climb. -/
namespace Sx

/-- the column that the program takes, of the first k -/
def St.entB (s : St) (P : LP) : Nat → Option Nat
  | 0 => none
  | k+1 => match s.entB P k with
    | none => if 0 < s.T P P.m k then some k else none
    | some b => if 0 < s.T P P.m k ∧ s.lo k < s.lo b then some k else some b

theorem entB_none {P : LP} {s : St} {k : Nat} (h : s.entB P k = none) : ∀ j, j < k → s.T P P.m j ≤ 0 := by
  induction k with
  | zero => intro j hj; omega
  | succ k ih =>
    simp only [St.entB] at h
    cases e : s.entB P k with
    | none =>
      rw [e] at h
      intro j hj
      by_cases hjk : j = k
      · subst hjk
        refine Int.not_lt.mp fun hp => ?_
        simp [hp] at h
      · exact ih e j (by omega)
    | some b => rw [e] at h; simp only at h; split at h <;> cases h

theorem entB_some {P : LP} {s : St} {k c : Nat} (h : s.entB P k = some c) : c < k ∧ 0 < s.T P P.m c ∧ ∀ j, j < k → 0 < s.T P P.m j → s.lo c ≤ s.lo j := by
  induction k generalizing c with
  | zero => simp [St.entB] at h
  | succ k ih =>
    simp only [St.entB] at h
    cases e : s.entB P k with
    | none =>
      rw [e] at h
      simp only at h
      split at h
      · next hp =>
        cases h
        refine ⟨by omega, hp, fun j hj hjp => ?_⟩
        by_cases hjk : j = k
        · subst hjk; exact Nat.le_refl _
        · have := entB_none e j (by omega); omega
      · cases h
    | some b =>
      rw [e] at h
      simp only at h
      obtain ⟨h1, h2, h3⟩ := ih e
      split at h
      · next hp =>
        cases h
        refine ⟨by omega, hp.1, fun j hj hjp => ?_⟩
        by_cases hjk : j = k
        · subst hjk; exact Nat.le_refl _
        · have := h3 j (by omega) hjp; omega
      · next hp =>
        cases h
        refine ⟨by omega, h2, fun j hj hjp => ?_⟩
        by_cases hjk : j = k
        · subst hjk
          have : ¬ (s.lo j < s.lo c) := fun hl => hp ⟨hjp, hl⟩
          omega
        · exact h3 j (by omega) hjp

theorem ent_of {P : LP} {s : St} {c : Nat} (h : s.entB P P.n = some c) : Ent P s c :=
  let ⟨a, b, d⟩ := entB_some h; ⟨a, b, d⟩

/-- the row that the program takes, of the first k -/
def St.lvB (s : St) (P : LP) (c : Nat) : Nat → Option Nat
  | 0 => none
  | k+1 => if s.T P k c ≤ 0 then s.lvB P c k else match s.lvB P c k with
    | none => some k
    | some b => if s.T P k P.n * s.T P b c - s.T P b P.n * s.T P k c < 0 ∨ (s.T P k P.n * s.T P b c - s.T P b P.n * s.T P k c = 0 ∧ s.ba k < s.ba b) then some k else some b

theorem lvB_none {P : LP} {s : St} {c k : Nat} (h : s.lvB P c k = none) : ∀ j, j < k → s.T P j c ≤ 0 := by
  induction k with
  | zero => intro j hj; omega
  | succ k ih =>
    simp only [St.lvB] at h
    split at h
    · next hk =>
      intro j hj
      by_cases hjk : j = k
      · subst hjk; exact hk
      · exact ih h j (by omega)
    · cases e : s.lvB P c k with
      | none => rw [e] at h; cases h
      | some b => rw [e] at h; simp only at h; split at h <;> cases h

theorem lvB_some {P : LP} {s : St} {c k r : Nat} (h : s.lvB P c k = some r) : r < k ∧ 0 < s.T P r c ∧
    ∀ j, j < k → 0 < s.T P j c → s.T P r P.n * s.T P j c ≤ s.T P j P.n * s.T P r c ∧ (s.T P r P.n * s.T P j c = s.T P j P.n * s.T P r c → s.ba r ≤ s.ba j) := by
  induction k generalizing r with
  | zero => simp [St.lvB] at h
  | succ k ih =>
    simp only [St.lvB] at h
    split at h
    · next hk =>
      obtain ⟨h1, h2, h3⟩ := ih h
      refine ⟨by omega, h2, fun j hj hjp => ?_⟩
      by_cases hjk : j = k
      · subst hjk; omega
      · exact h3 j (by omega) hjp
    · next hk =>
      have hk : 0 < s.T P k c := by omega
      cases e : s.lvB P c k with
      | none =>
        rw [e] at h
        cases h
        refine ⟨by omega, hk, fun j hj hjp => ?_⟩
        by_cases hjk : j = k
        · subst hjk; exact ⟨Int.le_refl _, fun _ => Nat.le_refl _⟩
        · have := lvB_none e j (by omega); omega
      | some b =>
        rw [e] at h
        simp only at h
        obtain ⟨h1, h2, h3⟩ := ih e
        split at h
        · next hp =>
          cases h
          refine ⟨by omega, hk, fun j hj hjp => ?_⟩
          by_cases hjk : j = k
          · subst hjk; exact ⟨Int.le_refl _, fun _ => Nat.le_refl _⟩
          · obtain ⟨g1, g2⟩ := h3 j (by omega) hjp
            generalize s.T P k P.n = yk at *
            generalize s.T P k c = xk at *
            generalize s.T P b P.n = yb at *
            generalize s.T P b c = xb at *
            generalize s.T P j P.n = yj at *
            generalize s.T P j c = xj at *
            have q1 : yb * xj * xk ≤ yj * xb * xk := Int.mul_le_mul_of_nonneg_right g1 (by omega)
            rcases hp with hp | ⟨hp, hb⟩
            · have hp' : yk * xb < yb * xk := by omega
              have q2 : yk * xb * xj < yb * xk * xj := Int.mul_lt_mul_of_pos_right hp' hjp
              have q3 : (yk * xj) * xb < (yj * xk) * xb := by grind
              have q4 : yk * xj < yj * xk := Int.lt_of_mul_lt_mul_right q3 (by omega)
              exact ⟨by omega, fun h => by omega⟩
            · have hp' : yk * xb = yb * xk := by omega
              have q2 : yk * xb * xj = yb * xk * xj := by rw [hp']
              have r1 : yk * xj * xb = yk * xb * xj := by ac_rfl
              have r2 : yj * xk * xb = yj * xb * xk := by ac_rfl
              have r3 : yb * xk * xj = yb * xj * xk := by ac_rfl
              have q3 : (yk * xj) * xb ≤ (yj * xk) * xb := by omega
              have q4 : yk * xj ≤ yj * xk := Int.le_of_mul_le_mul_right q3 h2
              refine ⟨q4, fun h => ?_⟩
              have : yb * xj = yj * xb := by
                have q5 : (yb * xj) * xk = (yj * xb) * xk := by grind
                exact Int.eq_of_mul_eq_mul_right (by omega) q5
              have := g2 this
              omega
        · next hp =>
          cases h
          refine ⟨by omega, h2, fun j hj hjp => ?_⟩
          by_cases hjk : j = k
          · subst hjk
            refine ⟨?_, fun h => ?_⟩
            · refine Int.not_lt.mp fun hl => hp (.inl (by omega))
            · refine Nat.not_lt.mp fun hl => hp (.inr ⟨by omega, hl⟩)
          · exact h3 j (by omega) hjp

theorem lv_of {P : LP} {s : St} {c r : Nat} (h : s.lvB P c P.m = some r) : Lvb P s r c :=
  let ⟨a, b, d⟩ := lvB_some h
  { lt := a, pos := b, min := fun k hk hp => (d k hk hp).1, first := fun k hk hp e => (d k hk hp).2 e }

inductive Fin where
  | top (s : St)
  | ray (s : St) (c : Nat)

def runS (P : LP) : Nat → St → Option Fin
  | 0, _ => none
  | f+1, s => match s.entB P P.n with
    | none => some (.top s)
    | some c => match s.lvB P c P.m with
      | none => some (.ray s c)
      | some r => runS P f (s.piv r c)

/-- a step, if there is one -/
def nextS (P : LP) (s : St) : St := match s.entB P P.n with
  | none => s
  | some c => match s.lvB P c P.m with
    | none => s
    | some r => s.piv r c
def iter (P : LP) (s : St) : Nat → St
  | 0 => s
  | t+1 => nextS P (iter P s t)
theorem iter_next (P : LP) (s : St) (t : Nat) : iter P (nextS P s) t = iter P s (t + 1) := by
  induction t with
  | zero => rfl
  | succ t ih => simp only [iter] at ih ⊢; rw [ih]

theorem runS_none {P : LP} (f : Nat) : ∀ s, runS P f s = none → ∀ t, t < f → ∃ c r, (iter P s t).entB P P.n = some c ∧ (iter P s t).lvB P c P.m = some r := by
  induction f with
  | zero => intro s _ t ht; omega
  | succ f ih =>
    intro s h t ht
    simp only [runS] at h
    cases e : s.entB P P.n with
    | none => rw [e] at h; cases h
    | some c =>
      rw [e] at h
      simp only at h
      cases e2 : s.lvB P c P.m with
      | none => rw [e2] at h; cases h
      | some r =>
        rw [e2] at h
        simp only at h
        cases t with
        | zero => exact ⟨c, r, e, e2⟩
        | succ t =>
          have hn : nextS P s = s.piv r c := by simp only [nextS, e, e2]
          rw [← iter_next, hn]
          exact ih _ h t (by omega)

theorem inv_next {P : LP} {s : St} (hI : Inv P s) : Inv P (nextS P s) := by
  simp only [nextS]
  cases e : s.entB P P.n with
  | none => exact hI
  | some c =>
    simp only
    cases e2 : s.lvB P c P.m with
    | none => exact hI
    | some r => exact inv_piv hI (ent_of e).lt (lv_of e2).toLv
theorem inv_iter {P : LP} {s : St} (hI : Inv P s) (t : Nat) : Inv P (iter P s t) := by
  induction t with
  | zero => exact hI
  | succ t ih => exact inv_next ih

/-- the climb ends -/
theorem runS_ends {P : LP} {s : St} (hI : Inv P s) : ∃ fin, runS P (2 ^ (P.n + P.m) + 1) s = some fin := by
  cases h : runS P (2 ^ (P.n + P.m) + 1) s with
  | some fin => exact ⟨fin, rfl⟩
  | none =>
    exfalso
    have hs := runS_none _ s h
    let c : Nat → Nat := fun t => ((iter P s t).entB P P.n).getD 0
    let r : Nat → Nat := fun t => ((iter P s t).lvB P (c t) P.m).getD 0
    have key : ∀ t, t < 2 ^ (P.n + P.m) + 1 → (iter P s t).entB P P.n = some (c t) ∧ (iter P s t).lvB P (c t) P.m = some (r t) := by
      intro t ht
      obtain ⟨c', r', e1, e2⟩ := hs t ht
      have hc : c t = c' := by show ((iter P s t).entB P P.n).getD 0 = c'; rw [e1]; rfl
      have hr : r t = r' := by show ((iter P s t).lvB P (c t) P.m).getD 0 = r'; rw [hc, e2]; rfl
      rw [hr, hc]; exact ⟨e1, e2⟩
    refine bland (P := P) (fun t => iter P s t) r c (fun t _ => inv_iter hI t) (fun t ht => ent_of (key t (by omega)).1) (fun t ht => lv_of (key t (by omega)).2) (fun t ht => ?_)
    obtain ⟨e1, e2⟩ := key t (by omega)
    show nextS P (iter P s t) = _
    simp only [nextS, e1, e2]

/-- what is known where the climb ends -/
inductive FinOk (P : LP) : Fin → Prop
  | top {s : St} (hI : Inv P s) (h : ∀ j, j < P.n → s.T P P.m j ≤ 0) : FinOk P (.top s)
  | ray {s : St} {c : Nat} (hI : Inv P s) (hc : Ent P s c) (h : ∀ k, k < P.m → s.T P k c ≤ 0) : FinOk P (.ray s c)
theorem runS_ok {P : LP} (f : Nat) : ∀ {s : St} {fin : Fin}, Inv P s → runS P f s = some fin → FinOk P fin := by
  induction f with
  | zero => intro s fin _ h; cases h
  | succ f ih =>
    intro s fin hI h
    simp only [runS] at h
    cases e : s.entB P P.n with
    | none => rw [e] at h; cases h; exact .top hI (entB_none e)
    | some c =>
      rw [e] at h
      simp only at h
      cases e2 : s.lvB P c P.m with
      | none => rw [e2] at h; cases h; exact .ray hI (ent_of e) (lvB_none e2)
      | some r => rw [e2] at h; exact ih (inv_piv hI (ent_of e).lt (lv_of e2).toLv) h

/-! the numbers stay small -/
theorem vec_small {P : LP} {K : Nat} (hK : 1 ≤ K) (ha : ∀ i, i < P.m → ∀ j, j < P.n → (P.a i j).natAbs ≤ K) (hl : ∀ i, i < P.m → (P.l i).natAbs ≤ K) (hg : ∀ j, j < P.n → (P.g j).natAbs ≤ K) (v p : Nat) : (P.vec v p).natAbs ≤ K := by
  simp only [LP.vec]
  split
  · split
    · exact ha _ (by assumption) _ (by assumption)
    · split
      · exact hg _ (by assumption)
      · simp
  · split
    · simp only [I]; split <;> simp <;> omega
    · split
      · exact hl _ (by assumption)
      · simp
theorem T_small {P : LP} {K : Nat} (hK : 1 ≤ K) (ha : ∀ i, i < P.m → ∀ j, j < P.n → (P.a i j).natAbs ≤ K) (hl : ∀ i, i < P.m → (P.l i).natAbs ≤ K) (hg : ∀ j, j < P.n → (P.g j).natAbs ≤ K) (s : St) (i j : Nat) :
    (s.T P i j).natAbs ≤ fac (P.m + 1) * K ^ (P.m + 1) := by
  refine det_bound _ fun k _ p _ => ?_
  simp only [up]
  split
  · exact vec_small hK ha hl hg _ _
  · exact vec_small hK ha hl hg _ _
theorem sc_small {P : LP} {K : Nat} (hK : 1 ≤ K) (ha : ∀ i, i < P.m → ∀ j, j < P.n → (P.a i j).natAbs ≤ K) (hl : ∀ i, i < P.m → (P.l i).natAbs ≤ K) (hg : ∀ j, j < P.n → (P.g j).natAbs ≤ K) (s : St) :
    (s.sc P).natAbs ≤ fac (P.m + 1) * K ^ (P.m + 1) := det_bound _ fun k _ p _ => vec_small hK ha hl hg _ _

/-! what the end tells, as functions -/
def St.xOf (s : St) (P : LP) (v : Nat) : Int := sm P.m (fun k => if s.ba k = v then s.T P k P.n else 0)
def St.yOf (s : St) (P : LP) (i : Nat) : Int := sm P.n (fun j => if s.lo j = P.n + i then - s.T P P.m j else 0)
def St.wOf (s : St) (P : LP) (c v : Nat) : Int := (if v = s.lo c then s.sc P else 0) + sm P.m (fun k => if s.ba k = v then - s.T P k c else 0)
theorem xOf_ok {P : LP} {s : St} (hI : Inv P s) : IsX P s (s.xOf P) := by
  refine ⟨fun k hk => ?_, fun j hj => ?_⟩
  · simp only [St.xOf]
    rw [sm_one k hk (fun i hi hn => if_neg fun e => hn (hI.bi i hi k hk e))]; simp
  · exact sm_zero fun k hk => if_neg (hI.ne k hk j hj)
theorem yOf_ok {P : LP} {s : St} (hI : Inv P s) : IsP P s (s.yOf P) := by
  refine ⟨fun j hj i e => ?_, fun k hk i e => ?_⟩
  · simp only [St.yOf]
    rw [sm_one j hj (fun j' hj' hn => if_neg fun e' => hn (hI.li j' hj' j hj (by omega)))]; simp [e]
  · exact sm_zero fun j hj => if_neg fun e' => hI.ne k hk j hj (by omega)
theorem wOf_ok {P : LP} {s : St} (hI : Inv P s) {c : Nat} (hc : c < P.n) : IsR P s c (s.wOf P c) := by
  refine ⟨fun k hk => ?_, ?_, fun j hj hn => ?_⟩
  · simp only [St.wOf]
    rw [if_neg (hI.ne k hk c hc), sm_one k hk (fun i hi hn => if_neg fun e => hn (hI.bi i hi k hk e))]; simp
  · simp only [St.wOf]
    rw [sm_zero fun k hk => if_neg (hI.ne k hk c hc)]; simp
  · simp only [St.wOf]
    rw [sm_zero fun k hk => if_neg (hI.ne k hk j hj), if_neg fun e => hn (hI.li j hj c hc e)]; rfl
end Sx
end

section
set_option maxRecDepth 100000
set_option maxHeartbeats 4000000
namespace PG
open L2 DL
def b_entering_column : DL.Env → DL.So :=
  (sSeq (sSet 2 [] (e1 oNeg (eC (.int 1)))) (sSeq (sFor [1] (iA oRng1 (aCons (eA oLen (aCons (eVar 1) aNil)) aNil)) (nName 3) (sIf [0, 3, 2, 1, 3, 1, 2] (tAn (tV (e2 (cop .Gt) (e2 oIx (eVar 0) (eVar 3)) (eC (.int 0)))) (tO (tV (e2 (cop .Lt) (eVar 2) (eC (.int 0)))) (tV (e2 (cop .Lt) (e2 oIx (eVar 1) (eVar 3)) (e2 oIx (eVar 1) (eVar 2)))))) (sSet 2 [3] (eVar 3)) sNext)) (sRetV 2)))
def m_entering_column (ds : List DL.D) : DL.M DL.Rs := pureM (runD 4 b_entering_column ds)
def b_leaving_row : DL.Env → DL.So :=
  (sSeq (sSet 3 [] (e1 oNeg (eC (.int 1)))) (sSeq (sFor [1] (iA oRng1 (aCons (eA oLen (aCons (eVar 1) aNil)) aNil)) (nName 4) (sSeq (sSet 5 [0, 4, 2] (e2 oIx (e2 oIx (eVar 0) (eVar 4)) (eVar 2))) (sSeq (sIf [5] (tV (e2 (cop .LtE) (eVar 5) (eC (.int 0)))) .ct sNext) (sSeq (sIf [3] (tV (e2 (cop .Lt) (eVar 3) (eC (.int 0)))) (sSeq (sSet 3 [4] (eVar 4)) .ct) sNext) (sSeq (sSet 6 [0, 4, 0, 3, 2, 0, 3, 5] (e2 oSub (e2 oMul (e2 oIx (e2 oIx (eVar 0) (eVar 4)) (e1 oNeg (eC (.int 1)))) (e2 oIx (e2 oIx (eVar 0) (eVar 3)) (eVar 2))) (e2 oMul (e2 oIx (e2 oIx (eVar 0) (eVar 3)) (e1 oNeg (eC (.int 1)))) (eVar 5)))) (sIf [6, 6, 1, 4, 1, 3] (tO (tV (e2 (cop .Lt) (eVar 6) (eC (.int 0)))) (tAn (tV (e2 (cop .Eq) (eVar 6) (eC (.int 0)))) (tV (e2 (cop .Lt) (e2 oIx (eVar 1) (eVar 4)) (e2 oIx (eVar 1) (eVar 3)))))) (sSet 3 [4] (eVar 4)) sNext)))))) (sRetV 3)))
def m_leaving_row (ds : List DL.D) : DL.M DL.Rs := pureM (runD 7 b_leaving_row ds)
def b_top_of : DL.Env → DL.So :=
  (sSeq (sSet 3 [2] (eA oLen (aCons (eVar 2) aNil))) (sSeq (sSet 4 [3] (e2 oMul (eA oLstD (aCons (eC (.int 0)) aNil)) (eVar 3))) (sSeq (sSet 5 [1] (e2 oMul (eA oLstD (aCons (eC (.int 0)) aNil)) (eA oLen (aCons (eVar 1) aNil)))) (sSeq (sFor [1] (iA oRng1 (aCons (eA oLen (aCons (eVar 1) aNil)) aNil)) (nName 6) (sIf [1, 6, 3] (tV (e2 (cop .Lt) (e2 oIx (eVar 1) (eVar 6)) (eVar 3))) (sSetIx 4 [0, 6] [1, 6] (e2 oIx (e2 oIx (eVar 0) (eVar 6)) (e1 oNeg (eC (.int 1)))) (e2 oIx (eVar 1) (eVar 6))) sNext)) (sSeq (sFor [3] (iA oRng1 (aCons (eVar 3) aNil)) (nName 7) (sIf [2, 7, 3] (tV (e2 (cop .GtE) (e2 oIx (eVar 2) (eVar 7)) (eVar 3))) (sSetIx 5 [0, 7] [2, 7, 3] (e1 oNeg (e2 oIx (e2 oIx (eVar 0) (e1 oNeg (eC (.int 1)))) (eVar 7))) (e2 oSub (e2 oIx (eVar 2) (eVar 7)) (eVar 3))) sNext)) (sRet [4, 5] (eA oTupD (aCons (eVar 4) (aCons (eVar 5) aNil)))))))))
def m_top_of (ds : List DL.D) : DL.M DL.Rs := pureM (runD 8 b_top_of ds)
def b_ray_of : DL.Env → DL.So :=
  (sSeq (sSet 5 [2] (eA oLen (aCons (eVar 2) aNil))) (sSeq (sSet 6 [5] (e2 oMul (eA oLstD (aCons (eC (.int 0)) aNil)) (eVar 5))) (sSeq (sIf [2, 3, 5] (tV (e2 (cop .Lt) (e2 oIx (eVar 2) (eVar 3)) (eVar 5))) (sSetIx 6 [4] [2, 3] (eVar 4) (e2 oIx (eVar 2) (eVar 3))) sNext) (sSeq (sFor [1] (iA oRng1 (aCons (eA oLen (aCons (eVar 1) aNil)) aNil)) (nName 7) (sIf [1, 7, 5] (tV (e2 (cop .Lt) (e2 oIx (eVar 1) (eVar 7)) (eVar 5))) (sSetIx 6 [0, 7, 3] [1, 7] (e1 oNeg (e2 oIx (e2 oIx (eVar 0) (eVar 7)) (eVar 3))) (e2 oIx (eVar 1) (eVar 7))) sNext)) (sRetV 6)))))
def m_ray_of (ds : List DL.D) : DL.M DL.Rs := pureM (runD 8 b_ray_of ds)
def b_lowest : DL.Env → DL.So :=
  (sSeq (sSet 1 [] (eC (.int 0))) (sSeq (sFor [0] (iE iterA (eVar 0)) (nName 2) (sSet 1 [1, 2] (eA oGcd (aCons (eVar 1) (aCons (eVar 2) aNil))))) (sSeq (sIf [1] (tV (e2 (cop .Lt) (eVar 1) (eC (.int 2)))) (sRet [0] (eA oTuple (aCons (eVar 0) aNil))) sNext) (sRet (List.range 64) (eA oTuple (aCons (eLc [2] (iE iterA (eVar 0)) (nName 2) tYesD (e2 oDiv (eVar 2) (eVar 1))) aNil))))))
def m_lowest (ds : List DL.D) : DL.M DL.Rs := pureM (runD 3 b_lowest ds)
def b_dot : DL.Env → DL.So :=
  (sRet (List.range 64) (eA oSum (aCons (eLc [2, 3] (iA oZip (aCons (eVar 0) (aCons (eVar 1) aNil))) (nTup 2 (nCons (nName 2) (nCons (nName 3) nNil))) tYesD (e2 oMul (eVar 2) (eVar 3))) aNil)))
def m_dot (ds : List DL.D) : DL.M DL.Rs := pureM (runD 4 b_dot ds)
def b_keeps : DL.Env → DL.So :=
  (sSeq (sIf [1] (tV (e2 (cop .Lt) (e2 oMinDf (eVar 1) (eC (.int 0))) (eC (.int 0)))) (sRet [] (eC (.bl false))) sNext) (sSeq (sFor [0] (iE iterA (eVar 0)) (nTup 2 (nCons (nName 2) (nCons (nName 3) nNil))) (sSeq (sSet 4 [2, 1] (eA (oCal 2 m_dot) (aCons (eVar 2) (aCons (eVar 1) aNil)))) (sIf [4, 3, 4] (tO (tV (e2 (cop .Lt) (eVar 4) (eC (.int 0)))) (tAn (tV (eVar 3)) (tV (e2 (cop .Eq) (eVar 4) (eC (.int 0)))))) (sRet [] (eC (.bl false))) sNext))) (sRet [] (eC (.bl true)))))
def m_keeps (ds : List DL.D) : DL.M DL.Rs := pureM (runD 5 b_keeps ds)
def b_clashes : DL.Env → DL.So :=
  (sSeq (sIf [2, 0, 2] (tO (tV (e2 (cop .NotEq) (eA oLen (aCons (eVar 2) aNil)) (eA oLen (aCons (eVar 0) aNil)))) (tV (e2 (cop .Lt) (e2 oMinDf (eVar 2) (eC (.int 0))) (eC (.int 0))))) (sRet [] (eC (.bl false))) sNext) (sSeq (sIf (List.range 64) (tV (e2 (cop .Eq) (eA oSum (aCons (eLc [4, 5, 6] (iA oZip (aCons (eVar 0) (aCons (eVar 2) aNil))) (nTup 2 (nCons (nTup 2 (nCons (nName 4) (nCons (nName 5) nNil))) (nCons (nName 6) nNil))) tYesD (e2 oMul (eA oInt (aCons (eVar 5) aNil)) (eVar 6))) aNil)) (eC (.int 0)))) (sRet [] (eC (.bl false))) sNext) (sSeq (sFor [1] (iA oRng1 (aCons (eVar 1) aNil)) (nName 3) (sIf (List.range 64) (tV (e2 (cop .Gt) (eA oSum (aCons (eLc [4, 5, 6] (iA oZip (aCons (eVar 0) (aCons (eVar 2) aNil))) (nTup 2 (nCons (nTup 2 (nCons (nName 4) (nCons (nName 5) nNil))) (nCons (nName 6) nNil))) tYesD (e2 oMul (eVar 6) (e2 oIx (eVar 4) (eVar 3)))) aNil)) (eC (.int 0)))) (sRet [] (eC (.bl false))) sNext)) (sRet [] (eC (.bl true))))))
def m_clashes (ds : List DL.D) : DL.M DL.Rs := pureM (runD 7 b_clashes ds)
end PG
end

section
set_option maxRecDepth 100000
set_option maxHeartbeats 1000000
/-! What the small defs of the simplex give. -/
namespace PG
open L2 DL
def optI : Option Nat → Int | none => -1 | some c => c
theorem ix_row {N : Nat} {f : Nat → Int} {j : Nat} (h : j < N) : atI (rowD N f) (j : Int) = some (.int (f j)) := by
  rw [DL.atI_nat, rowD_get h]
theorem ix_row_last {N : Nat} {f : Nat → Int} : atI (rowD (N + 1) f) (-1) = some (.int (f N)) := by
  rw [DL.atI_last, rowD_len]; exact rowD_get (by omega)
theorem ix_tab {M N : Nat} {T : Nat → Nat → Int} {i : Nat} (h : i < M) : atI (tabD M N T) (i : Int) = some (.lst (rowD N (T i))) := by
  rw [DL.atI_nat, tabD_get h]
theorem ix_tab_last {M N : Nat} {T : Nat → Nat → Int} : atI (tabD (M + 1) N T) (-1) = some (.lst (rowD N (T M))) := by
  rw [DL.atI_last, tabD_len]; exact tabD_get (by omega)
def rgD (n : Nat) : List DL.D := (List.range n).map fun (i : Nat) => DL.D.int (i : Int)
@[simp] theorem rgD_len {n : Nat} : (rgD n).length = n := by simp [rgD]
theorem rng1 {n : Nat} (h : n < 1000000) : oRng1 [.int n] = .ok (rgD n) := ev_rng1 (by omega)
theorem rng_get {n i : Nat} {d : DL.D} (h : (rgD n)[i]? = some d) : i < n ∧ d = .int i := by
  unfold rgD at h
  rw [List.getElem?_map] at h
  by_cases hi : i < n
  · rw [List.getElem?_range hi] at h
    cases h
    exact ⟨hi, rfl⟩
  · rw [List.getElem?_eq_none (by simp; omega)] at h
    cases h
theorem rowD_set {N : Nat} {f : Nat → Int} {j : Nat} {x : Int} (h : j < N) : (rowD N f).set j (.int x) = rowD N (fun k => if k = j then x else f k) := by
  apply List.ext_getElem?
  intro k
  rw [List.getElem?_set]
  by_cases hk : k < N
  · rw [rowD_get hk, rowD_get hk]
    by_cases e : j = k
    · subst e; simp [h]
    · rw [if_neg e, if_neg (Ne.symm e)]
  · rw [List.getElem?_eq_none (l := rowD N f) (by simp; omega), List.getElem?_eq_none (by simp; omega)]
    split
    · next e => subst e; omega
    · rfl
theorem zeros {n : Nat} (h : n < 1000000) : oMul (.lst [.int 0]) (.int n) = .ok (.ow (rowD n fun _ => 0)) := by
  have h3 : ([DL.D.int 0] : List DL.D).length * (n : Int).toNat ≤ PySem.sizeLine := by
    have := sz
    simp; omega
  have e : (List.replicate (n : Int).toNat [DL.D.int 0]).flatten = rowD n fun _ => 0 := by
    simp [rowD, List.map_const']
  show (if ([DL.D.int 0] : List DL.D).length * (n : Int).toNat ≤ PySem.sizeLine ∧ (n : Int) < 2 ^ 63 ∧ -(2 ^ 63) ≤ (n : Int) then DL.M.ok (Rs.ow (List.replicate (n : Int).toNat [DL.D.int 0]).flatten) else .bad) = _
  rw [if_pos ⟨h3, by omega, by omega⟩, e]

/-! entering_column -/
def bodyE : DL.Env → DL.So := sIf [0, 3, 2, 1, 3, 1, 2] (tAn (tV (e2 (cop .Gt) (e2 oIx (eVar 0) (eVar 3)) (eC (.int 0)))) (tO (tV (e2 (cop .Lt) (eVar 2) (eC (.int 0)))) (tV (e2 (cop .Lt) (e2 oIx (eVar 1) (eVar 3)) (e2 oIx (eVar 1) (eVar 2)))))) (sSet 2 [3] (eVar 3)) sNext
theorem bodyE_ev {gs ls : List DL.D} {i : Nat} {b : Int} {g li lb : Int} (h1 : atI gs (i : Int) = some (.int g)) (h2 : atI ls (i : Int) = some (.int li)) (h3 : ¬ b < 0 → atI ls b = some (.int lb)) :
    bodyE [.fz (.lst gs), .fz (.lst ls), .fz (.int b), .fz (.int i)] = .nx [.fz (.lst gs), .fz (.lst ls), .fz (.int (if 0 < g ∧ (b < 0 ∨ li < lb) then i else b)), .fz (.int i)] := by
  unfold bodyE
  by_cases hg : 0 < g <;> by_cases hb : b < 0
  · simp [hg, hb, h1, h2]
  · by_cases hl : li < lb <;> simp [hg, hb, h1, h2, h3 hb, hl]
  · simp [hg, hb, h1, h2]
  · simp [hg, hb, h1, h2]
theorem m_entering {P : Sx.LP} {s : Sx.St} (hn : P.n < 500000) : m_entering_column [.lst (rowD (P.n + 1) (s.T P P.m)), .lst (rowD P.n fun j => (s.lo j : Nat))] = .ok (.fz (.int (optI (s.entB P P.n)))) := by
  refine runD_ok ?_
  have hb : b_entering_column = sSeq (sSet 2 [] (e1 oNeg (eC (.int 1)))) (sSeq (sFor [1] (iA oRng1 (aCons (eA oLen (aCons (eVar 1) aNil)) aNil)) (nName 3) bodyE) (sRetV 2)) := rfl
  obtain ⟨e, h1, o, rfl⟩ := forL_nx (t := nName 3) (body := bodyE) (ds := rgD P.n) (env := [.fz (.lst (rowD (P.n + 1) (s.T P P.m))), .fz (.lst (rowD P.n fun j => (s.lo j : Nat))), .fz (.int (-1)), .un])
    (fun k e => ∃ o, e = [.fz (.lst (rowD (P.n + 1) (s.T P P.m))), .fz (.lst (rowD P.n fun j => (s.lo j : Nat))), .fz (.int (optI (s.entB P k))), o]) ⟨_, rfl⟩ (by
      rintro i d e hd ⟨o, rfl⟩
      obtain ⟨hi, rfl⟩ := rng_get hd
      refine ⟨_, rfl, _, .inl (bodyE_ev (ix_row (show i < P.n + 1 by omega)) (ix_row hi) (lb := ((s.lo ((s.entB P i).getD 0) : Nat) : Int)) ?_), .fz (.int i), ?_⟩
      · cases hb : s.entB P i with
        | none => simp [optI]
        | some b => exact fun _ => ix_row (show b < P.n by have := (Sx.entB_some hb).1; omega)
      · congr 4
        cases hb : s.entB P i with
        | none =>
          simp only [optI, hb, Sx.St.entB]
          by_cases hp : 0 < s.T P P.m i
          · simp [hp, optI]
          · simp [hp, optI]
        | some b =>
          simp only [optI, hb, Sx.St.entB, Option.getD_some]
          have : ¬ ((b : Int) < 0) := by omega
          have e2 : ((s.lo i : Nat) : Int) < ((s.lo b : Nat) : Int) ↔ s.lo i < s.lo b := by omega
          by_cases hp : 0 < s.T P P.m i ∧ s.lo i < s.lo b
          · simp [this, e2, hp, optI]
          · simp [this, e2, hp, optI])
  rw [hb]
  simp [startE, rng1 (show P.n < 1000000 by omega), h1]
end PG
end

section
set_option maxRecDepth 100000
set_option maxHeartbeats 1000000
namespace PG
open L2 DL
/-! leaving_row -/
def bodyL : DL.Env → DL.So := (sSeq (sSet 5 [0, 4, 2] (e2 oIx (e2 oIx (eVar 0) (eVar 4)) (eVar 2))) (sSeq (sIf [5] (tV (e2 (cop .LtE) (eVar 5) (eC (.int 0)))) .ct sNext) (sSeq (sIf [3] (tV (e2 (cop .Lt) (eVar 3) (eC (.int 0)))) (sSeq (sSet 3 [4] (eVar 4)) .ct) sNext) (sSeq (sSet 6 [0, 4, 0, 3, 2, 0, 3, 5] (e2 oSub (e2 oMul (e2 oIx (e2 oIx (eVar 0) (eVar 4)) (e1 oNeg (eC (.int 1)))) (e2 oIx (e2 oIx (eVar 0) (eVar 3)) (eVar 2))) (e2 oMul (e2 oIx (e2 oIx (eVar 0) (eVar 3)) (e1 oNeg (eC (.int 1)))) (eVar 5)))) (sIf [6, 6, 1, 4, 1, 3] (tO (tV (e2 (cop .Lt) (eVar 6) (eC (.int 0)))) (tAn (tV (e2 (cop .Eq) (eVar 6) (eC (.int 0)))) (tV (e2 (cop .Lt) (e2 oIx (eVar 1) (eVar 4)) (e2 oIx (eVar 1) (eVar 3)))))) (sSet 3 [4] (eVar 4)) sNext)))))
theorem bodyL_0 {tb bs rw_ : List DL.D} {c i : Nat} {b st : Int} {o5 o6 : DL.Sl} (h1 : atI tb (i : Int) = some (.lst rw_)) (h2 : atI rw_ (c : Int) = some (.int st)) (h : st ≤ 0) :
    bodyL [.fz (.lst tb), .fz (.lst bs), .fz (.int c), .fz (.int b), .fz (.int i), o5, o6] = .ct [.fz (.lst tb), .fz (.lst bs), .fz (.int c), .fz (.int b), .fz (.int i), .fz (.int st), o6] := by
  unfold bodyL
  simp [h1, h2, h]
theorem bodyL_1 {tb bs rw_ : List DL.D} {c i : Nat} {b st : Int} {o5 o6 : DL.Sl} (h1 : atI tb (i : Int) = some (.lst rw_)) (h2 : atI rw_ (c : Int) = some (.int st)) (h : ¬ st ≤ 0) (hb : b < 0) :
    bodyL [.fz (.lst tb), .fz (.lst bs), .fz (.int c), .fz (.int b), .fz (.int i), o5, o6] = .ct [.fz (.lst tb), .fz (.lst bs), .fz (.int c), .fz (.int i), .fz (.int i), .fz (.int st), o6] := by
  unfold bodyL
  simp [h1, h2, h, hb]
theorem bodyL_2 {tb bs rw_ rb : List DL.D} {c i b : Nat} {st yk yb xb li lb : Int} {o5 o6 : DL.Sl} (h1 : atI tb (i : Int) = some (.lst rw_)) (h2 : atI rw_ (c : Int) = some (.int st)) (h : ¬ st ≤ 0)
    (h3 : atI rw_ (-1) = some (.int yk)) (h4 : atI tb (b : Int) = some (.lst rb)) (h5 : atI rb (c : Int) = some (.int xb)) (h6 : atI rb (-1) = some (.int yb)) (h7 : atI bs (i : Int) = some (.int li)) (h8 : atI bs (b : Int) = some (.int lb))
    (m1 : mulOk yk xb = true) (m2 : mulOk yb st = true) :
    bodyL [.fz (.lst tb), .fz (.lst bs), .fz (.int c), .fz (.int b), .fz (.int i), o5, o6] = .nx [.fz (.lst tb), .fz (.lst bs), .fz (.int c), .fz (.int (if yk * xb - yb * st < 0 ∨ (yk * xb - yb * st = 0 ∧ li < lb) then i else b)), .fz (.int i), .fz (.int st), .fz (.int (yk * xb - yb * st))] := by
  unfold bodyL
  have hb : ¬ ((b : Int) < 0) := by omega
  simp only [ev_seq, ev_set, ev_e2, ev_vs, ev_v0f, ev_bok, ev_rfz, ev_ixL, h1, h2, ev_oR, ev_pok, ev_ofM, ev_frzInt, ev_sfz, List.set, ev_tn, ev_if, ev_tV, ev_c, ev_copLe, ev_le, ev_asB, h, decide_false, Bool.false_eq_true, if_false, ev_next, ev_copLt, ev_lt, hb, ev_e1, ev_neg, h3, h4, h5, h6, ev_mul m1, ev_mul m2, ev_sub]
  generalize yk * xb - yb * st = od
  by_cases q1 : od < 0
  · simp [q1]
  · by_cases q2 : od = 0
    · by_cases q3 : li < lb <;> simp [q1, q2, q3, h7, h8]
    · simp [q1, q2]
theorem m_leaving {P : Sx.LP} {s : Sx.St} {c : Nat} (hc : c < P.n) (hn : P.m < 500000) (sm : Small (P.m + 1) (P.n + 1) (s.T P)) :
    m_leaving_row [.lst (tabD (P.m + 1) (P.n + 1) (s.T P)), .lst (rowD P.m fun j => (s.ba j : Nat)), .int c] = .ok (.fz (.int (optI (s.lvB P c P.m)))) := by
  refine runD_ok ?_
  have hb : b_leaving_row = sSeq (sSet 3 [] (e1 oNeg (eC (.int 1)))) (sSeq (sFor [1] (iA oRng1 (aCons (eA oLen (aCons (eVar 1) aNil)) aNil)) (nName 4) bodyL) (sRetV 3)) := rfl
  obtain ⟨e, h1, o4, o5, o6, rfl⟩ := forL_nx (t := nName 4) (body := bodyL) (ds := rgD P.m) (env := [.fz (.lst (tabD (P.m + 1) (P.n + 1) (s.T P))), .fz (.lst (rowD P.m fun j => (s.ba j : Nat))), .fz (.int c), .fz (.int (-1)), .un, .un, .un])
    (fun k e => ∃ o4 o5 o6, e = [.fz (.lst (tabD (P.m + 1) (P.n + 1) (s.T P))), .fz (.lst (rowD P.m fun j => (s.ba j : Nat))), .fz (.int c), .fz (.int (optI (s.lvB P c k))), o4, o5, o6]) ⟨_, _, _, rfl⟩ (by
      rintro i d e hd ⟨o4, o5, o6, rfl⟩
      obtain ⟨hi, rfl⟩ := rng_get hd
      have q1 : atI (tabD (P.m + 1) (P.n + 1) (s.T P)) (i : Int) = some (.lst (rowD (P.n + 1) (s.T P i))) := ix_tab (by omega)
      have q2 : atI (rowD (P.n + 1) (s.T P i)) (c : Int) = some (.int (s.T P i c)) := ix_row (by omega)
      refine ⟨_, rfl, ?_⟩
      show ∃ e2, (bodyL [.fz (.lst (tabD (P.m + 1) (P.n + 1) (s.T P))), .fz (.lst (rowD P.m fun j => (s.ba j : Nat))), .fz (.int c), .fz (.int (optI (s.lvB P c i))), .fz (.int i), o5, o6] = _ ∨ bodyL [.fz (.lst (tabD (P.m + 1) (P.n + 1) (s.T P))), .fz (.lst (rowD P.m fun j => (s.ba j : Nat))), .fz (.int c), .fz (.int (optI (s.lvB P c i))), .fz (.int i), o5, o6] = _) ∧ _
      by_cases h0 : s.T P i c ≤ 0
      · refine ⟨_, .inr (bodyL_0 q1 q2 h0), .fz (.int i), .fz (.int (s.T P i c)), o6, ?_⟩
        simp only [Sx.St.lvB, if_pos h0]
      · cases hb : s.lvB P c i with
        | none =>
          refine ⟨_, .inr (bodyL_1 q1 q2 h0 (by simp [optI])), .fz (.int i), .fz (.int (s.T P i c)), o6, ?_⟩
          simp only [Sx.St.lvB, if_neg h0, hb, optI]
        | some b =>
          have hbk := (Sx.lvB_some hb).1
          refine ⟨_, .inl (bodyL_2 q1 q2 h0 ix_row_last (ix_tab (show b < P.m + 1 by omega)) (ix_row (show c < P.n + 1 by omega)) ix_row_last (ix_row hi) (ix_row (show b < P.m by omega))
            (mul_small (sm _ (by omega) _ (by omega)) (sm _ (by omega) _ (by omega))) (mul_small (sm _ (by omega) _ (by omega)) (sm _ (by omega) _ (by omega)))), .fz (.int i), .fz (.int (s.T P i c)), .fz (.int (s.T P i P.n * s.T P b c - s.T P b P.n * s.T P i c)), ?_⟩
          simp only [Sx.St.lvB, if_neg h0, hb, optI]
          have e2 : ((s.ba i : Nat) : Int) < ((s.ba b : Nat) : Int) ↔ s.ba i < s.ba b := by omega
          simp only [e2]
          split <;> rfl)
  rw [hb]
  simp [startE, rng1 (show P.m < 1000000 by omega), h1]

/-! top_of -/
def bodyW : DL.Env → DL.So := (sIf [1, 6, 3] (tV (e2 (cop .Lt) (e2 oIx (eVar 1) (eVar 6)) (eVar 3))) (sSetIx 4 [0, 6] [1, 6] (e2 oIx (e2 oIx (eVar 0) (eVar 6)) (e1 oNeg (eC (.int 1)))) (e2 oIx (eVar 1) (eVar 6))) sNext)
def bodyP : DL.Env → DL.So := (sIf [2, 7, 3] (tV (e2 (cop .GtE) (e2 oIx (eVar 2) (eVar 7)) (eVar 3))) (sSetIx 5 [0, 7] [2, 7, 3] (e1 oNeg (e2 oIx (e2 oIx (eVar 0) (e1 oNeg (eC (.int 1)))) (eVar 7))) (e2 oSub (e2 oIx (eVar 2) (eVar 7)) (eVar 3))) sNext)
theorem bodyW_ev {tb bs rw_ : List DL.D} {n i v : Nat} {y : Int} {f : Nat → Int} {d2 o5 o7 : DL.Sl} (h1 : atI tb (i : Int) = some (.lst rw_)) (h2 : atI bs (i : Int) = some (.int v)) (h3 : atI rw_ (-1) = some (.int y)) :
    bodyW [.fz (.lst tb), .fz (.lst bs), d2, .fz (.int n), .ow (rowD n f), o5, .fz (.int i), o7] = .nx [.fz (.lst tb), .fz (.lst bs), d2, .fz (.int n), .ow (rowD n fun k => if k = v then y else f k), o5, .fz (.int i), o7] := by
  unfold bodyW
  by_cases hv : v < n
  · have hv' : (v : Int) < n := by omega
    simp [h1, h2, h3, hv', DL.ixN_nat hv, rowD_set hv]
  · have hv' : ¬ (v : Int) < n := by omega
    simp [h1, h2, hv']
    exact rowD_congr fun j hj => by rw [if_neg (by omega)]
theorem bodyP_ev {tb ls lr : List DL.D} {n m i v : Nat} {y : Int} {f : Nat → Int} {d1 o4 o6 : DL.Sl} (h1 : atI tb (-1) = some (.lst lr)) (h2 : atI ls (i : Int) = some (.int v)) (h3 : atI lr (i : Int) = some (.int y)) (hv : v < n + m) :
    bodyP [.fz (.lst tb), d1, .fz (.lst ls), .fz (.int n), o4, .ow (rowD m f), o6, .fz (.int i)] = .nx [.fz (.lst tb), d1, .fz (.lst ls), .fz (.int n), o4, .ow (rowD m fun k => if v = n + k then - y else f k), o6, .fz (.int i)] := by
  unfold bodyP
  by_cases hn : n ≤ v
  · have hn' : (n : Int) ≤ v := by omega
    have e : (v : Int) - n = ((v - n : Nat) : Int) := by omega
    have hl : v - n < m := by omega
    simp [h1, h2, h3, hn', e, DL.ixN_nat hl, rowD_set hl]
    refine rowD_congr fun j hj => ?_
    have : (j = v - n) = (v = n + j) := by apply propext; omega
    simp [this]
  · have hn' : ¬ (n : Int) ≤ v := by omega
    simp [h1, h2, hn']
    exact rowD_congr fun j hj => by rw [if_neg (by omega)]
theorem m_top {P : Sx.LP} {s : Sx.St} (hI : Sx.Inv P s) (hm : P.m < 500000) (hn : P.n < 500000) :
    m_top_of [.lst (tabD (P.m + 1) (P.n + 1) (s.T P)), .lst (rowD P.m fun j => (s.ba j : Nat)), .lst (rowD P.n fun j => (s.lo j : Nat))] = .ok (.fz (.tup [.lst (rowD P.n (s.xOf P)), .lst (rowD P.m (s.yOf P))])) := by
  refine runD_ok ?_
  have hb : b_top_of = (sSeq (sSet 3 [2] (eA oLen (aCons (eVar 2) aNil))) (sSeq (sSet 4 [3] (e2 oMul (eA oLstD (aCons (eC (.int 0)) aNil)) (eVar 3))) (sSeq (sSet 5 [1] (e2 oMul (eA oLstD (aCons (eC (.int 0)) aNil)) (eA oLen (aCons (eVar 1) aNil)))) (sSeq (sFor [1] (iA oRng1 (aCons (eA oLen (aCons (eVar 1) aNil)) aNil)) (nName 6) bodyW) (sSeq (sFor [3] (iA oRng1 (aCons (eVar 3) aNil)) (nName 7) bodyP) (sRet [4, 5] (eA oTupD (aCons (eVar 4) (aCons (eVar 5) aNil))))))))) := rfl
  obtain ⟨e, h1, o6, rfl⟩ := forL_nx (t := nName 6) (body := bodyW) (ds := rgD P.m) (env := [.fz (.lst (tabD (P.m + 1) (P.n + 1) (s.T P))), .fz (.lst (rowD P.m fun j => (s.ba j : Nat))), .fz (.lst (rowD P.n fun j => (s.lo j : Nat))), .fz (.int P.n), .ow (rowD P.n fun _ => 0), .ow (rowD P.m fun _ => 0), .un, .un])
    (fun k e => ∃ o6, e = [.fz (.lst (tabD (P.m + 1) (P.n + 1) (s.T P))), .fz (.lst (rowD P.m fun j => (s.ba j : Nat))), .fz (.lst (rowD P.n fun j => (s.lo j : Nat))), .fz (.int P.n), .ow (rowD P.n fun v => Sx.sm k fun i => if s.ba i = v then s.T P i P.n else 0), .ow (rowD P.m fun _ => 0), o6, .un]) ⟨_, rfl⟩ (by
      rintro i d e hd ⟨o6, rfl⟩
      obtain ⟨hi, rfl⟩ := rng_get hd
      refine ⟨_, rfl, _, .inl (bodyW_ev (ix_tab (show i < P.m + 1 by omega)) (ix_row hi) ix_row_last), .fz (.int i), ?_⟩
      congr 5
      refine congrArg _ (rowD_congr fun v hv => ?_)
      simp only [Sx.sm]
      by_cases e : v = s.ba i
      · subst e
        rw [if_pos rfl, Sx.sm_zero (fun k hk => if_neg fun e => by have := hI.bi k (by omega) i hi e; omega)]
        simp
      · rw [if_neg e, if_neg (Ne.symm e), Int.add_zero]) 
  obtain ⟨e, h2, o7, rfl⟩ := forL_nx (t := nName 7) (body := bodyP) (ds := rgD P.n) (env := [.fz (.lst (tabD (P.m + 1) (P.n + 1) (s.T P))), .fz (.lst (rowD P.m fun j => (s.ba j : Nat))), .fz (.lst (rowD P.n fun j => (s.lo j : Nat))), .fz (.int P.n), .ow (rowD P.n (s.xOf P)), .ow (rowD P.m fun _ => 0), o6, .un])
    (fun k e => ∃ o7, e = [.fz (.lst (tabD (P.m + 1) (P.n + 1) (s.T P))), .fz (.lst (rowD P.m fun j => (s.ba j : Nat))), .fz (.lst (rowD P.n fun j => (s.lo j : Nat))), .fz (.int P.n), .ow (rowD P.n (s.xOf P)), .ow (rowD P.m fun v => Sx.sm k fun i => if s.lo i = P.n + v then - s.T P P.m i else 0), o6, o7]) ⟨_, rfl⟩ (by
      rintro i d e hd ⟨o7, rfl⟩
      obtain ⟨hi, rfl⟩ := rng_get hd
      refine ⟨_, rfl, _, .inl (bodyP_ev ix_tab_last (ix_row hi) (ix_row (show i < P.n + 1 by omega)) (hI.ll i hi)), .fz (.int i), ?_⟩
      congr 6
      refine congrArg _ (rowD_congr fun v hv => ?_)
      simp only [Sx.sm]
      by_cases e : s.lo i = P.n + v
      · rw [if_pos e, if_pos e, Sx.sm_zero (fun k hk => if_neg fun e' => by have := hI.li k (by omega) i hi (by omega); omega)]
        simp
      · rw [if_neg e, if_neg e, Int.add_zero])
  have hx : (fun v => Sx.sm P.m fun i => if s.ba i = v then s.T P i P.n else 0) = s.xOf P := rfl
  have hy : (fun v => Sx.sm P.n fun i => if s.lo i = P.n + v then - s.T P P.m i else 0) = s.yOf P := rfl
  simp only [rgD_len, hx] at h1
  simp only [rgD_len, hy] at h2
  have sz2 : 2 ≤ PySem.sizeLine := by have := sz; omega
  have l1 : oLstD [.int 0] = .ok (.ow [.int 0]) := by unfold oLstD; rw [if_pos (by simp; omega)]
  rw [hb]
  simp [startE, l1, zeros (show P.n < 1000000 by omega), zeros (show P.m < 1000000 by omega), rng1 (show P.n < 1000000 by omega), rng1 (show P.m < 1000000 by omega), h1, h2, oTupD, sz2]

/-! ray_of -/
def bodyR : DL.Env → DL.So := (sIf [1, 7, 5] (tV (e2 (cop .Lt) (e2 oIx (eVar 1) (eVar 7)) (eVar 5))) (sSetIx 6 [0, 7, 3] [1, 7] (e1 oNeg (e2 oIx (e2 oIx (eVar 0) (eVar 7)) (eVar 3))) (e2 oIx (eVar 1) (eVar 7))) sNext)
theorem bodyR_ev {tb bs rw_ : List DL.D} {n i v c : Nat} {y : Int} {f : Nat → Int} {d2 d4 : DL.Sl} (h1 : atI tb (i : Int) = some (.lst rw_)) (h2 : atI bs (i : Int) = some (.int v)) (h3 : atI rw_ (c : Int) = some (.int y)) :
    bodyR [.fz (.lst tb), .fz (.lst bs), d2, .fz (.int c), d4, .fz (.int n), .ow (rowD n f), .fz (.int i)] = .nx [.fz (.lst tb), .fz (.lst bs), d2, .fz (.int c), d4, .fz (.int n), .ow (rowD n fun k => if k = v then - y else f k), .fz (.int i)] := by
  unfold bodyR
  by_cases hv : v < n
  · have hv' : (v : Int) < n := by omega
    simp [h1, h2, h3, hv', DL.ixN_nat hv, rowD_set hv]
  · have hv' : ¬ (v : Int) < n := by omega
    simp [h1, h2, hv']
    exact rowD_congr fun j hj => by rw [if_neg (by omega)]
theorem m_ray {P : Sx.LP} {s : Sx.St} (hI : Sx.Inv P s) {c : Nat} (hc : c < P.n) (hm : P.m < 500000) (hn : P.n < 500000) :
    m_ray_of [.lst (tabD (P.m + 1) (P.n + 1) (s.T P)), .lst (rowD P.m fun j => (s.ba j : Nat)), .lst (rowD P.n fun j => (s.lo j : Nat)), .int c, .int (s.sc P)] = .ok (.ow (rowD P.n (s.wOf P c))) := by
  refine runD_ok ?_
  have hb : b_ray_of = (sSeq (sSet 5 [2] (eA oLen (aCons (eVar 2) aNil))) (sSeq (sSet 6 [5] (e2 oMul (eA oLstD (aCons (eC (.int 0)) aNil)) (eVar 5))) (sSeq (sIf [2, 3, 5] (tV (e2 (cop .Lt) (e2 oIx (eVar 2) (eVar 3)) (eVar 5))) (sSetIx 6 [4] [2, 3] (eVar 4) (e2 oIx (eVar 2) (eVar 3))) sNext) (sSeq (sFor [1] (iA oRng1 (aCons (eA oLen (aCons (eVar 1) aNil)) aNil)) (nName 7) bodyR) (sRetV 6))))) := rfl
  obtain ⟨e, h1, o6, rfl⟩ := forL_nx (t := nName 7) (body := bodyR) (ds := rgD P.m) (env := [.fz (.lst (tabD (P.m + 1) (P.n + 1) (s.T P))), .fz (.lst (rowD P.m fun j => (s.ba j : Nat))), .fz (.lst (rowD P.n fun j => (s.lo j : Nat))), .fz (.int c), .fz (.int (s.sc P)), .fz (.int P.n), .ow (rowD P.n fun v => if v = s.lo c then s.sc P else 0), .un])
    (fun k e => ∃ o6, e = [.fz (.lst (tabD (P.m + 1) (P.n + 1) (s.T P))), .fz (.lst (rowD P.m fun j => (s.ba j : Nat))), .fz (.lst (rowD P.n fun j => (s.lo j : Nat))), .fz (.int c), .fz (.int (s.sc P)), .fz (.int P.n), .ow (rowD P.n fun v => (if v = s.lo c then s.sc P else 0) + Sx.sm k fun i => if s.ba i = v then - s.T P i c else 0), o6]) ⟨.un, by simp [Sx.sm]⟩ (by
      rintro i d e hd ⟨o6, rfl⟩
      obtain ⟨hi, rfl⟩ := rng_get hd
      refine ⟨_, rfl, _, .inl (bodyR_ev (ix_tab (show i < P.m + 1 by omega)) (ix_row hi) (ix_row (show c < P.n + 1 by omega))), .fz (.int i), ?_⟩
      congr 7
      refine congrArg _ (rowD_congr fun v hv => ?_)
      simp only [Sx.sm]
      by_cases e : v = s.ba i
      · subst e
        rw [if_pos rfl, if_neg (hI.ne i hi c hc), Sx.sm_zero (fun k hk => if_neg fun e => by have := hI.bi k (by omega) i hi e; omega)]
        simp
      · rw [if_neg e, if_neg (Ne.symm e)]; omega)
  have hx : (fun v => (if v = s.lo c then s.sc P else 0) + Sx.sm P.m fun i => if s.ba i = v then - s.T P i c else 0) = s.wOf P c := rfl
  simp only [rgD_len, hx] at h1
  have sz2 : 2 ≤ PySem.sizeLine := by have := sz; omega
  have l1 : oLstD [.int 0] = .ok (.ow [.int 0]) := by unfold oLstD; rw [if_pos (by simp; omega)]
  rw [hb]
  by_cases hv : s.lo c < P.n
  · have hv' : ((s.lo c : Nat) : Int) < P.n := by omega
    simp [startE, l1, zeros (show P.n < 1000000 by omega), ix_row hc, hv', DL.ixN_nat hv, rowD_set hv, rng1 (show P.m < 1000000 by omega), h1]
  · have hv' : ¬ ((s.lo c : Nat) : Int) < P.n := by omega
    have e0 : rowD P.n (fun v => if v = s.lo c then s.sc P else 0) = rowD P.n fun _ => 0 := rowD_congr fun j hj => by rw [if_neg (by omega)]
    rw [e0] at h1
    simp [startE, l1, zeros (show P.n < 1000000 by omega), ix_row hc, hv', rng1 (show P.m < 1000000 by omega), h1]
end PG
end

section
set_option maxRecDepth 100000
set_option maxHeartbeats 1000000
/-! The climb, told without the heap. -/
namespace PG
open L2 DL
def toIntss : List DL.D → Option (List (List Int))
  | [] => some []
  | .lst ds :: r => (toInts ds).bind fun ns => (toIntss r).map (ns :: ·)
  | _ => none
def lpOf (cs : List (List Int)) (ls gs : List Int) : Sx.LP := ⟨ls.length, cs.length, fun i j => (cs.getD j []).getD i 0, fun i => ls.getD i 0, fun j => gs.getD j 0⟩
structure ClOk (cs : List (List Int)) (ls gs : List Int) : Prop where
  len : gs.length = cs.length
  col : ∀ c, c ∈ cs → ls.length ≤ c.length
  pos : ∀ l, l ∈ ls → 0 ≤ l
  n : cs.length < 400000
  m : ls.length < 400000
  K : ∃ K, 1 ≤ K ∧ (∀ c, c ∈ cs → ∀ x, x ∈ c → x.natAbs ≤ K) ∧ (∀ x, x ∈ ls → x.natAbs ≤ K) ∧ (∀ x, x ∈ gs → x.natAbs ≤ K) ∧ (Sx.fac (ls.length + 1) * K ^ (ls.length + 1)).log2 < 9000
def finD (P : Sx.LP) : Sx.Fin → DL.D
  | .top s => .tup [.str "top", .int (s.sc P), .lst (rowD P.n (s.xOf P)), .lst (rowD P.m (s.yOf P))]
  | .ray s c => .tup [.str "ray", .int 1, .lst (rowD P.n (s.wOf P c)), .lst []]
open Classical in
noncomputable def m_climb : List DL.D → DL.M DL.Rs
  | [.lst cs, .lst ls, .lst gs] => match toIntss cs, toInts ls, toInts gs with
    | some cs, some ls, some gs => if ClOk cs ls gs then (match Sx.runS (lpOf cs ls gs) (2 ^ (cs.length + ls.length) + 1) (Sx.St.init (lpOf cs ls gs)) with | some fin => .ok (.fz (finD (lpOf cs ls gs) fin)) | none => .bad) else .bad
    | _, _, _ => .bad
  | _ => .bad
theorem toInts_eq : ∀ {ds : List DL.D} {ns : List Int}, toInts ds = some ns → ds = ns.map D.int
  | [], ns, h => by cases h; rfl
  | .int i :: ds, ns, h => by
    simp only [toInts] at h
    cases e : toInts ds with
    | none => rw [e] at h; cases h
    | some ms => rw [e] at h; cases h; rw [toInts_eq e]; rfl
  | .non :: _, _, h => by simp [toInts] at h
  | .bl _ :: _, _, h => by simp [toInts] at h
  | .str _ :: _, _, h => by simp [toInts] at h
  | .tup _ :: _, _, h => by simp [toInts] at h
  | .lst _ :: _, _, h => by simp [toInts] at h
  | .scr _ :: _, _, h => by simp [toInts] at h
  | .obj _ _ :: _, _, h => by simp [toInts] at h
theorem toInts_map (ns : List Int) : toInts (ns.map D.int) = some ns := by
  induction ns with
  | nil => rfl
  | cons n ns ih => simp [toInts, ih]
def lsD (ns : List Int) : DL.D := .lst (ns.map D.int)
theorem toIntss_eq : ∀ {ds : List DL.D} {cs : List (List Int)}, toIntss ds = some cs → ds = cs.map lsD
  | [], cs, h => by cases h; rfl
  | .lst d :: ds, cs, h => by
    simp only [toIntss] at h
    cases e : toInts d with
    | none => rw [e] at h; cases h
    | some ms =>
      rw [e] at h
      simp only [Option.bind_some] at h
      cases e2 : toIntss ds with
      | none => rw [e2] at h; cases h
      | some ks => rw [e2] at h; cases h; rw [toIntss_eq e2, toInts_eq e]; rfl
  | .non :: _, _, h => by simp [toIntss] at h
  | .bl _ :: _, _, h => by simp [toIntss] at h
  | .str _ :: _, _, h => by simp [toIntss] at h
  | .tup _ :: _, _, h => by simp [toIntss] at h
  | .int _ :: _, _, h => by simp [toIntss] at h
  | .scr _ :: _, _, h => by simp [toIntss] at h
  | .obj _ _ :: _, _, h => by simp [toIntss] at h
theorem toIntss_map (cs : List (List Int)) : toIntss (cs.map lsD) = some cs := by
  induction cs with
  | nil => rfl
  | cons c cs ih => simp [toIntss, lsD, toInts_map] at ih ⊢; simp [ih]
theorem ints_row (ns : List Int) : ns.map D.int = rowD ns.length fun i => ns.getD i 0 := by
  apply List.ext_getElem?
  intro i
  by_cases h : i < ns.length
  · rw [rowD_get h, List.getElem?_map, List.getElem?_eq_getElem h]
    simp [List.getD, h]
  · rw [List.getElem?_eq_none (by simp; omega), List.getElem?_eq_none (by simp; omega)]
/-- where the climb gives something -/
theorem climb_in {ds : List DL.D} {r : DL.Rs} (h : m_climb ds = .ok r) : ∃ cs ls gs fin, ds = [.lst (cs.map lsD), .lst (ls.map D.int), .lst (gs.map D.int)] ∧ ClOk cs ls gs ∧ Sx.runS (lpOf cs ls gs) (2 ^ (cs.length + ls.length) + 1) (Sx.St.init (lpOf cs ls gs)) = some fin ∧ r = .fz (finD (lpOf cs ls gs) fin) := by
  unfold m_climb at h
  split at h
  · next cs ls gs =>
    split at h
    · next cs' ls' gs' e1 e2 e3 =>
      split at h
      · next ok =>
        split at h
        · next fin e => cases h; exact ⟨cs', ls', gs', fin, by rw [toIntss_eq e1, toInts_eq e2, toInts_eq e3], ok, e, rfl⟩
        · cases h
      · cases h
    · cases h
  · cases h
theorem climb_noex {ds : List DL.D} {x : Exc} : m_climb ds ≠ .ex x := by
  unfold m_climb
  intro h
  split at h
  · split at h
    · split at h
      · split at h <;> cases h
      · cases h
    · cases h
  · cases h
/-- it gives something wherever it may be asked -/
theorem climb_ok {cs : List (List Int)} {ls gs : List Int} (ok : ClOk cs ls gs) : ∃ fin, m_climb [.lst (cs.map lsD), .lst (ls.map D.int), .lst (gs.map D.int)] = .ok (.fz (finD (lpOf cs ls gs) fin)) ∧ Sx.FinOk (lpOf cs ls gs) fin := by
  have hI : Sx.Inv (lpOf cs ls gs) (Sx.St.init (lpOf cs ls gs)) := Sx.inv_init _ (fun p hp => by
    have hp : p < ls.length := hp
    show 0 ≤ ls.getD p 0
    rw [List.getD_eq_getElem?_getD, List.getElem?_eq_getElem hp]
    exact ok.pos _ (List.getElem_mem hp))
  obtain ⟨fin, e⟩ := Sx.runS_ends hI
  refine ⟨fin, ?_, Sx.runS_ok _ hI e⟩
  have e : Sx.runS (lpOf cs ls gs) (2 ^ (cs.length + ls.length) + 1) (Sx.St.init (lpOf cs ls gs)) = some fin := e
  unfold m_climb
  simp only [toIntss_map, toInts_map]
  rw [if_pos ok, e]
end PG
end

section
set_option maxRecDepth 100000
set_option maxHeartbeats 1000000
/-! The rows of the first table. -/
namespace PG
open L2 DL
section
variable {cs : List (List Int)} {ls gs : List Int}
theorem row_add {n : Nat} {f : Nat → Int} {x : Int} : rowD n f ++ [DL.D.int x] = rowD (n + 1) fun j => if j < n then f j else x := by
  apply List.ext_getElem?
  intro j
  by_cases h : j < n
  · rw [List.getElem?_append_left (by simpa using h), rowD_get h, rowD_get (by omega), if_pos h]
  · by_cases e : j = n
    · subst e
      rw [List.getElem?_append_right (by simp), rowD_get (by omega), if_neg h]
      simp
    · rw [List.getElem?_eq_none (by simp; omega), List.getElem?_eq_none (by simp; omega)]
theorem col_row (i : Nat) : cs.map (fun c => DL.D.int (c.getD i 0)) = rowD cs.length fun j => (cs.getD j []).getD i 0 := by
  apply List.ext_getElem?
  intro j
  by_cases h : j < cs.length
  · rw [rowD_get h, List.getElem?_map, List.getElem?_eq_getElem h]
    simp [List.getD, h]
  · rw [List.getElem?_eq_none (by simp; omega), List.getElem?_eq_none (by simp; omega)]
theorem T0_row {i : Nat} (hi : i < ls.length) : rowD (cs.length + 1) (fun j => if j < cs.length then (cs.getD j []).getD i 0 else ls.getD i 0) = rowD (cs.length + 1) ((Sx.St.init (lpOf cs ls gs)).T (lpOf cs ls gs) i) := by
  have hm : (lpOf cs ls gs).m = ls.length := rfl
  have hn : (lpOf cs ls gs).n = cs.length := rfl
  refine rowD_congr fun j hj => ?_
  rw [Sx.T_init _ (show i < (lpOf cs ls gs).m + 1 by omega)]
  by_cases h : j < cs.length
  · have e : (Sx.St.init (lpOf cs ls gs)).lo j = j := by
      show (if j = (lpOf cs ls gs).n then _ else j) = j
      rw [if_neg (by omega)]
    rw [if_pos h, e, Sx.vec_col (by omega) (by omega)]
    rfl
  · have e : (Sx.St.init (lpOf cs ls gs)).lo j = (lpOf cs ls gs).n + (lpOf cs ls gs).m + 1 := by
      show (if j = (lpOf cs ls gs).n then _ else j) = _
      rw [if_pos (by omega)]
    rw [if_neg h, e, Sx.vec_lim (by omega)]
    rfl
theorem T0_obj (hl : gs.length = cs.length) : gs.map DL.D.int ++ [DL.D.int 0] = rowD (cs.length + 1) ((Sx.St.init (lpOf cs ls gs)).T (lpOf cs ls gs) ls.length) := by
  have hm : (lpOf cs ls gs).m = ls.length := rfl
  have hn : (lpOf cs ls gs).n = cs.length := rfl
  rw [ints_row, row_add, hl]
  refine rowD_congr fun j hj => ?_
  rw [Sx.T_init _ (show ls.length < (lpOf cs ls gs).m + 1 by omega)]
  by_cases h : j < cs.length
  · have e : (Sx.St.init (lpOf cs ls gs)).lo j = j := by
      show (if j = (lpOf cs ls gs).n then _ else j) = j
      rw [if_neg (by omega)]
    rw [if_pos h, e, ← hm, Sx.vec_gain (by omega)]
    rfl
  · have e : (Sx.St.init (lpOf cs ls gs)).lo j = (lpOf cs ls gs).n + (lpOf cs ls gs).m + 1 := by
      show (if j = (lpOf cs ls gs).n then _ else j) = _
      rw [if_pos (by omega)]
    rw [if_neg h, e, ← hm, Sx.vec_lim_m]
theorem small_of {K N : Nat} {x : Int} (h : x.natAbs ≤ N) (hN : N.log2 < 9000) : x.natAbs.log2 < 9000 := by
  by_cases h0 : x.natAbs = 0
  · rw [h0]; decide
  · have a : x.natAbs < 2 ^ 9000 := by
      have : N < 2 ^ 9000 := by
        by_cases hN0 : N = 0
        · omega
        · exact (Nat.log2_lt hN0).mp hN
      omega
    exact (Nat.log2_lt h0).mpr a
theorem lp_small (ok : ClOk cs ls gs) : ∃ K, 1 ≤ K ∧ (∀ i, i < (lpOf cs ls gs).m → ∀ j, j < (lpOf cs ls gs).n → ((lpOf cs ls gs).a i j).natAbs ≤ K) ∧ (∀ i, i < (lpOf cs ls gs).m → ((lpOf cs ls gs).l i).natAbs ≤ K) ∧ (∀ j, j < (lpOf cs ls gs).n → ((lpOf cs ls gs).g j).natAbs ≤ K) ∧ (Sx.fac ((lpOf cs ls gs).m + 1) * K ^ ((lpOf cs ls gs).m + 1)).log2 < 9000 := by
  obtain ⟨K, h1, h2, h3, h4, h5⟩ := ok.K
  refine ⟨K, h1, fun i hi j hj => ?_, fun i hi => ?_, fun j hj => ?_, h5⟩
  · have hj : j < cs.length := hj
    have hi : i < ls.length := hi
    show ((cs.getD j []).getD i 0).natAbs ≤ K
    rw [List.getD_eq_getElem?_getD, List.getD_eq_getElem?_getD, List.getElem?_eq_getElem hj]
    have hl := ok.col _ (List.getElem_mem hj)
    simp only [Option.getD_some]
    rw [List.getElem?_eq_getElem (by omega)]
    exact h2 _ (List.getElem_mem hj) _ (List.getElem_mem _)
  · have hi : i < ls.length := hi
    show (ls.getD i 0).natAbs ≤ K
    rw [List.getD_eq_getElem?_getD, List.getElem?_eq_getElem hi]
    exact h3 _ (List.getElem_mem _)
  · have hj : j < gs.length := by rw [ok.len]; exact hj
    show (gs.getD j 0).natAbs ≤ K
    rw [List.getD_eq_getElem?_getD, List.getElem?_eq_getElem hj]
    exact h4 _ (List.getElem_mem _)
theorem lp_T (ok : ClOk cs ls gs) (s : Sx.St) : Small ((lpOf cs ls gs).m + 1) ((lpOf cs ls gs).n + 1) (s.T (lpOf cs ls gs)) := by
  obtain ⟨K, h1, h2, h3, h4, h5⟩ := lp_small ok
  exact fun i _ j _ => small_of (K := K) (Sx.T_small h1 h2 h3 h4 s i j) h5
theorem lp_sc (ok : ClOk cs ls gs) (s : Sx.St) : (s.sc (lpOf cs ls gs)).natAbs.log2 < 9000 := by
  obtain ⟨K, h1, h2, h3, h4, h5⟩ := lp_small ok
  exact small_of (K := K) (Sx.sc_small h1 h2 h3 h4 s) h5
end
end PG
end

section
set_option maxRecDepth 100000
set_option maxHeartbeats 4000000
namespace PG
open L2 DL
noncomputable def b_solve : DL.Env → DL.So :=
  (sSeq (sSet 2 (List.range 64) (eLc [6, 8] (iE iterA (eVar 0)) (nTup 2 (nCons (nName 6) (nCons (nName 8) nNil))) tYesD (eA oList (aCons (eVar 6) aNil)))) (sSeq (sSet 3 (List.range 64) (eLc [6, 8] (iE iterA (eVar 0)) (nTup 2 (nCons (nName 6) (nCons (nName 8) nNil))) tYesD (eA oInt (aCons (eVar 8) aNil)))) (sSeq (sAsg [2, 1, 3] (nTup 4 (nCons (nName 4) (nCons (nName 5) (nCons (nName 6) (nCons (nName 7) nNil))))) (eA (oCal 3 m_climb) (aCons (eVar 2) (aCons (e2 oMul (eA oLstD (aCons (eC (.int 0)) aNil)) (eVar 1)) (aCons (eVar 3) aNil))))) (sSeq (sIf [4] (tV (e2 (cop .Eq) (eVar 4) (eC (.str "ray")))) (sRet [6] (eA oTupD (aCons (eC (.str "paper")) (aCons (eA (oCal 1 m_lowest) (aCons (eVar 6) aNil)) aNil)))) sNext) (sRet [7] (eA oTupD (aCons (eC (.str "point")) (aCons (eA (oCal 1 m_lowest) (aCons (eVar 7) aNil)) aNil))))))))
noncomputable def m_solve (ds : List DL.D) : DL.M DL.Rs := pureM (runD 9 b_solve ds)
end PG
end

section
set_option maxRecDepth 100000
set_option maxHeartbeats 1000000
/-! The small defs over rows of numbers: sums, the least, points that keep. -/
namespace PG
open L2 DL
def Says (m : DL.M DL.Rs) (P : Prop) : Prop := ∃ b : Bool, m = .ok (.fz (.bl b)) ∧ (b = true ↔ P)
theorem Says.t {m : DL.M DL.Rs} {P : Prop} (h : Says m P) (p : P) : m = .ok (.fz (.bl true)) := by
  obtain ⟨b, e, i⟩ := h; rw [e, i.mpr p]
theorem Says.f {m : DL.M DL.Rs} {P : Prop} (h : Says m P) (p : ¬ P) : m = .ok (.fz (.bl false)) := by
  obtain ⟨b, e, i⟩ := h
  have : b = false := by cases b with | false => rfl | true => exact absurd (i.mp rfl) p
  rw [e, this]
theorem sum_sm (N : Nat) (f : Nat → Int) : ((List.range N).map f).sum = Sx.sm N f := by
  induction N with
  | zero => rfl
  | succ N ih => rw [List.range_succ, List.map_append, List.sum_append, ih]; simp [Sx.sm]
theorem rowD_ints (N : Nat) (f : Nat → Int) : rowD N f = ((List.range N).map f).map D.int := by simp [rowD]
theorem toInts_row (N : Nat) (f : Nat → Int) : toInts (rowD N f) = some ((List.range N).map f) := by rw [rowD_ints, toInts_map]
@[simp] theorem sum_row (N : Nat) (f : Nat → Int) : oSum [.lst (rowD N f)] = .ok (.fz (.int (Sx.sm N f))) := by
  simp only [oSum, one1, ofInts, toInts_row, sum_sm]
/-- a list or a tuple -/
def Sq (d : DL.D) (ds : List DL.D) : Prop := d = .lst ds ∨ d = .tup ds
theorem Sq.ix {d : DL.D} {ds : List DL.D} (h : Sq d ds) (i : Int) : oIx d (.int i) = oR (atI ds i) := by rcases h with rfl | rfl <;> rfl
theorem Sq.len {d : DL.D} {ds : List DL.D} (h : Sq d ds) : oLen [d] = .ok (.fz (.int ds.length)) := by rcases h with rfl | rfl <;> rfl
theorem Sq.iter {d : DL.D} {ds : List DL.D} (h : Sq d ds) : iterA d = .ok ds := by rcases h with rfl | rfl <;> rfl
theorem Sq.seq {d : DL.D} {ds : List DL.D} (h : Sq d ds) : seqD d = some ds := by rcases h with rfl | rfl <;> rfl
theorem Sq.ints {d : DL.D} {ds : List DL.D} (h : Sq d ds) (f : List Int → DL.M DL.Rs) : ofInts f d = match toInts ds with | some ns => f ns | none => .bad := by rcases h with rfl | rfl <;> rfl
theorem Sq.l (ds : List DL.D) : Sq (.lst ds) ds := .inl rfl
theorem Sq.t (ds : List DL.D) : Sq (.tup ds) ds := .inr rfl
theorem min_df {d : DL.D} {N : Nat} {f : Nat → Int} (h : Sq d (rowD N f)) : ∃ m, oMinDf d (.int 0) = .ok (.fz (.int m)) ∧ (m < 0 ↔ ∃ p, p < N ∧ f p < 0) := by
  unfold oMinDf
  rw [h.ints, toInts_row]
  simp only
  by_cases h0 : (List.range N).map f = []
  · refine ⟨0, by rw [if_pos h0], ?_⟩
    have : N = 0 := by simpa using h0
    subst this
    simp
  · refine ⟨minI ((List.range N).map f), by rw [if_neg h0], ?_⟩
    constructor
    · intro hm
      obtain ⟨p, hp, e⟩ := List.mem_map.mp (minI_mem h0)
      exact ⟨p, List.mem_range.mp hp, by omega⟩
    · rintro ⟨p, hp, hf⟩
      have := minI_le (ns := (List.range N).map f) (f p) (List.mem_map.mpr ⟨p, List.mem_range.mpr hp, rfl⟩)
      omega
theorem mul_l {i j : Int} (h : i.natAbs < 2 ^ 64) : oMul (.int i) (.int j) = .ok (.fz (.int (i * j))) := by
  refine ev_mul ?_
  unfold mulOk
  simp [h]
theorem mul_r {i j : Int} (h : j.natAbs < 2 ^ 64) : oMul (.int i) (.int j) = .ok (.fz (.int (i * j))) := by
  refine ev_mul ?_
  unfold mulOk
  simp [h]
def dotF (N : Nat) (f g : Nat → Int) : Int := Sx.sm N fun i => f i * g i
theorem says_dot {d1 d2 : DL.D} {N : Nat} {f g : Nat → Int} (hN : N < 1000000) (h1 : Sq d1 (rowD N f)) (h2 : Sq d2 (rowD N g)) (hf : ∀ i, i < N → (f i).natAbs < 2 ^ 64) : m_dot [d1, d2] = .ok (.fz (.int (dotF N f g))) := by
  refine runD_ok ?_
  have hl : eLc [2, 3] (iA oZip (aCons (eVar 0) (aCons (eVar 1) aNil))) (nTup 2 (nCons (nName 2) (nCons (nName 3) nNil))) tYesD (e2 oMul (eVar 2) (eVar 3)) [.fz d1, .fz d2, .un, .un] = .ok (.ow (rowD N fun i => f i * g i)) := by
    refine ev_lc (ds := (List.range N).map fun j => D.tup [.int (f j), .int (g j)]) (by simp) ?_ ?_ (.inr (by simpa using hN))
    · simp [oZip, h1.seq, h2.seq, zip_rows]
    · refine lcL_map (List.range N) _ (fun j => .int (f j * g j)) fun j hj => ?_
      have hj := List.mem_range.mp hj
      refine ⟨_, .fz (.int (f j * g j)), rfl, rfl, ?_, rfl⟩
      simp [wipeE, mul_l (hf j hj)]
  show b_dot [.fz d1, .fz d2, .un, .un] = _
  unfold b_dot
  simp only [ev_ret, ev_eA, ev_aCons, hl, ev_bok, ev_row, ev_aNil, sum_row, ev_pok, ev_ofM]
  rfl

/-! rows: weights and whether strict -/
def rowsD (R N : Nat) (W : Nat → Nat → Int) (st : Nat → Bool) : List DL.D := (List.range R).map fun k => D.tup [.lst (rowD N (W k)), .bl (st k)]
@[simp] theorem rowsD_len {R N : Nat} {W : Nat → Nat → Int} {st : Nat → Bool} : (rowsD R N W st).length = R := by simp [rowsD]
theorem rowsD_get {R N : Nat} {W : Nat → Nat → Int} {st : Nat → Bool} {k : Nat} (h : k < R) : (rowsD R N W st)[k]? = some (.tup [.lst (rowD N (W k)), .bl (st k)]) := by simp [rowsD, h]
theorem rowsD_at {R N : Nat} {W : Nat → Nat → Int} {st : Nat → Bool} {k : Nat} {d : DL.D} (h : (rowsD R N W st)[k]? = some d) : k < R ∧ d = .tup [.lst (rowD N (W k)), .bl (st k)] := by
  by_cases hk : k < R
  · rw [rowsD_get hk] at h; cases h; exact ⟨hk, rfl⟩
  · rw [List.getElem?_eq_none (by simp; omega)] at h; cases h
theorem rowD_at {N : Nat} {f : Nat → Int} {k : Nat} {d : DL.D} (h : (rowD N f)[k]? = some d) : k < N ∧ d = .int (f k) := by
  by_cases hk : k < N
  · rw [rowD_get hk] at h; cases h; exact ⟨hk, rfl⟩
  · rw [List.getElem?_eq_none (by simp; omega)] at h; cases h
def GoodRow (N : Nat) (W : Nat → Nat → Int) (st : Nat → Bool) (f : Nat → Int) (k : Nat) : Prop := 0 ≤ dotF N (W k) f ∧ (st k = true → dotF N (W k) f ≠ 0)
def Keeps (R N : Nat) (W : Nat → Nat → Int) (st : Nat → Bool) (f : Nat → Int) : Prop := (∀ p, p < N → 0 ≤ f p) ∧ ∀ k, k < R → GoodRow N W st f k
/-- a test that a row fails -/
theorem row_test {t : Int} {s : Bool} : (decide (t < 0) || (s && decide (t = 0))) = false ↔ (0 ≤ t ∧ (s = true → t ≠ 0)) := by
  cases s <;> by_cases h1 : t < 0 <;> by_cases h2 : t = 0 <;> simp [h1, h2] <;> omega
def bodyK : DL.Env → DL.So := (sSeq (sSet 4 [2, 1] (eA (oCal 2 m_dot) (aCons (eVar 2) (aCons (eVar 1) aNil)))) (sIf [4, 3, 4] (tO (tV (e2 (cop .Lt) (eVar 4) (eC (.int 0)))) (tAn (tV (eVar 3)) (tV (e2 (cop .Eq) (eVar 4) (eC (.int 0)))))) (sRet [] (eC (.bl false))) sNext))
theorem says_keeps {R N : Nat} {W : Nat → Nat → Int} {st : Nat → Bool} {f : Nat → Int} {d : DL.D} (hN : N < 1000000) (hd : Sq d (rowD N f)) (hW : ∀ k, k < R → ∀ i, i < N → (W k i).natAbs < 2 ^ 64) :
    Says (m_keeps [.lst (rowsD R N W st), d]) (Keeps R N W st f) := by
  obtain ⟨m, me1, me2⟩ := min_df hd
  have hb : b_keeps = (sSeq (sIf [1] (tV (e2 (cop .Lt) (e2 oMinDf (eVar 1) (eC (.int 0))) (eC (.int 0)))) (sRet [] (eC (.bl false))) sNext) (sSeq (sFor [0] (iE iterA (eVar 0)) (nTup 2 (nCons (nName 2) (nCons (nName 3) nNil))) bodyK) (sRet [] (eC (.bl true))))) := rfl
  by_cases hm : m < 0
  · refine ⟨false, runD_ok ?_, by simp; intro h; obtain ⟨p, hp, hf⟩ := me2.mp hm; have := h.1 p hp; omega⟩
    rw [hb]
    simp [startE, me1, hm]
  · have pos : ∀ p, p < N → 0 ≤ f p := fun p hp => Int.not_lt.mp fun h => hm (me2.mpr ⟨p, hp, h⟩)
    have loop := forL_gen (t := nTup 2 (nCons (nName 2) (nCons (nName 3) nNil))) (body := bodyK) (ds := rowsD R N W st) (env := [.fz (.lst (rowsD R N W st)), .fz d, .un, .un, .un])
      (fun i e => (∀ k, k < i → GoodRow N W st f k) ∧ ∃ o2 o3 o4, e = [.fz (.lst (rowsD R N W st)), .fz d, o2, o3, o4])
      (fun s => (s = .rt (.fz (.bl false)) ∧ ¬ Keeps R N W st f) ∨ ∃ e, s = .nx e ∧ Keeps R N W st f) ⟨fun k hk => by omega, _, _, _, rfl⟩ (by
        rintro i dd e hdd ⟨good, o2, o3, o4, rfl⟩
        obtain ⟨hi, rfl⟩ := rowsD_at hdd
        have dv := says_dot hN (Sq.l (rowD N (W i))) hd (hW i hi)
        refine ⟨_, rfl, ?_⟩
        show _ ∨ _
        by_cases g : GoodRow N W st f i
        · refine .inl ⟨[.fz (.lst (rowsD R N W st)), .fz d, .fz (.lst (rowD N (W i))), .fz (.bl (st i)), .fz (.int (dotF N (W i) f))], .inl ?_, fun k hk => ?_, _, _, _, rfl⟩
          · obtain ⟨g1, g2⟩ := g
            have n1 : ¬ dotF N (W i) f < 0 := by omega
            unfold bodyK
            cases hs : st i with
            | false => simp [oCal, dv, n1]
            | true => simp [oCal, dv, n1, g2 hs]
          · by_cases hki : k = i
            · rw [hki]; exact g
            · exact good k (by omega)
        · refine .inr (.inl ⟨_, ?_, .inl ⟨rfl, fun h => g (h.2 i hi)⟩⟩)
          unfold bodyK
          by_cases n1 : dotF N (W i) f < 0
          · simp [oCal, dv, n1]
          · have : st i = true ∧ dotF N (W i) f = 0 := by
              refine Classical.byContradiction fun hc => g ⟨by omega, fun hs h0 => hc ⟨hs, h0⟩⟩
            simp [oCal, dv, this.1, this.2])
      (fun e ⟨good, _⟩ => .inr ⟨e, rfl, pos, fun k hk => good k (by simpa using hk)⟩)
    have start : b_keeps (startE 5 [.lst (rowsD R N W st), d]) = (forL (nTup 2 (nCons (nName 2) (nCons (nName 3) nNil))) bodyK (rowsD R N W st) [.fz (.lst (rowsD R N W st)), .fz d, .un, .un, .un]).andThen (sRet [] (eC (.bl true))) := by
      rw [hb]
      simp [startE, me1, hm]
    rcases loop with ⟨l, nk⟩ | ⟨e, l, k⟩
    · exact ⟨false, runD_ok (by rw [start, l]; simp), by simp [nk]⟩
    · exact ⟨true, runD_ok (by rw [start, l]; simp), by simp [k]⟩
end PG
end

section
set_option maxRecDepth 100000
set_option maxHeartbeats 1000000
/-! Papers that bar; lowest terms. -/
namespace PG
open L2 DL
structure Barred (R N : Nat) (W : Nat → Nat → Int) (st : Nat → Bool) (f : Nat → Int) : Prop where
  pos : ∀ k, k < R → 0 ≤ f k
  firm : ∃ k, k < R ∧ st k = true ∧ 0 < f k
  sum : ∀ p, p < N → dotF R f (fun k => W k p) ≤ 0
def b01 (b : Bool) : Int := if b then 1 else 0
theorem firm_iff {R : Nat} {st : Nat → Bool} {f : Nat → Int} (pos : ∀ k, k < R → 0 ≤ f k) : dotF R (fun k => b01 (st k)) f = 0 ↔ ¬ ∃ k, k < R ∧ st k = true ∧ 0 < f k := by
  have nn : ∀ k, k < R → 0 ≤ b01 (st k) * f k := fun k hk => by
    have := pos k hk
    cases h : st k <;> simp [b01, this]
  constructor
  · rintro h ⟨k, hk, hs, hf⟩
    unfold dotF at h
    rw [Sx.sm_split k hk] at h
    dsimp only at h
    have : 0 ≤ Sx.sm R (fun i => if i = k then 0 else b01 (st i) * f i) := Sx.sm_nonneg fun i hi => by
      split
      · exact Int.le_refl _
      · exact nn i hi
    rw [hs] at h
    have e1 : b01 true = 1 := rfl
    rw [e1, Int.one_mul] at h
    omega
  · intro h
    refine Sx.sm_zero fun k hk => ?_
    cases hs : st k with
    | false => simp [b01, hs]
    | true =>
      have : ¬ 0 < f k := fun hf => h ⟨k, hk, hs, hf⟩
      have := pos k hk
      have : f k = 0 := by omega
      simp [this]
def cSum1 : DL.Env → DL.M Rs := eLc [4, 5, 6] (iA oZip (aCons (eVar 0) (aCons (eVar 2) aNil))) (nTup 2 (nCons (nTup 2 (nCons (nName 4) (nCons (nName 5) nNil))) (nCons (nName 6) nNil))) tYesD (e2 oMul (eA oInt (aCons (eVar 5) aNil)) (eVar 6))
def cSum2 : DL.Env → DL.M Rs := eLc [4, 5, 6] (iA oZip (aCons (eVar 0) (aCons (eVar 2) aNil))) (nTup 2 (nCons (nTup 2 (nCons (nName 4) (nCons (nName 5) nNil))) (nCons (nName 6) nNil))) tYesD (e2 oMul (eVar 6) (e2 oIx (eVar 4) (eVar 3)))
def bodyC : DL.Env → DL.So := (sIf (List.range 64) (tV (e2 (cop .Gt) (eA oSum (aCons cSum2 aNil)) (eC (.int 0)))) (sRet [] (eC (.bl false))) sNext)
theorem zip_rowsD {R N : Nat} {W : Nat → Nat → Int} {st : Nat → Bool} {f : Nat → Int} : (rowsD R N W st).zip (rowD R f) = (List.range R).map fun k => (D.tup [.lst (rowD N (W k)), .bl (st k)], D.int (f k)) := by
  simp only [rowsD, rowD]
  induction List.range R with
  | nil => rfl
  | cons x xs ih => simp [ih]
theorem e_sum1 {R N : Nat} {W : Nat → Nat → Int} {st : Nat → Bool} {f : Nat → Int} {d d1 : DL.D} (hR : R < 1000000) (hd : Sq d (rowD R f)) : cSum1 [.fz (.lst (rowsD R N W st)), .fz d1, .fz d, .un, .un, .un, .un] = .ok (.ow (rowD R fun k => b01 (st k) * f k)) := by
  refine ev_lc (ds := (List.range R).map fun k => D.tup [.tup [.lst (rowD N (W k)), .bl (st k)], .int (f k)]) (by simp) ?_ ?_ (.inr (by simpa using hR))
  · simp [oZip, hd.seq, (Sq.l (rowsD R N W st)).seq, zip_rowsD]
  · refine lcL_map (List.range R) _ (fun k => .int (b01 (st k) * f k)) fun k hk => ?_
    refine ⟨_, .fz (.int (b01 (st k) * f k)), rfl, rfl, ?_, rfl⟩
    have : (b01 (st k)).natAbs < 2 ^ 64 := by cases st k <;> decide
    have e : (if st k = true then (1 : Int) else 0) = b01 (st k) := rfl
    simp [wipeE, e, mul_l this]
theorem e_sum2 {R N p : Nat} {W : Nat → Nat → Int} {st : Nat → Bool} {f : Nat → Int} {d d1 : DL.D} (hR : R < 1000000) (hd : Sq d (rowD R f)) (hp : p < N) (hW : ∀ k, k < R → ∀ i, i < N → (W k i).natAbs < 2 ^ 64) : cSum2 [.fz (.lst (rowsD R N W st)), .fz d1, .fz d, .fz (.int p), .un, .un, .un] = .ok (.ow (rowD R fun k => f k * W k p)) := by
  refine ev_lc (ds := (List.range R).map fun k => D.tup [.tup [.lst (rowD N (W k)), .bl (st k)], .int (f k)]) (by simp) ?_ ?_ (.inr (by simpa using hR))
  · simp [oZip, hd.seq, (Sq.l (rowsD R N W st)).seq, zip_rowsD]
  · refine lcL_map (List.range R) _ (fun k => .int (f k * W k p)) fun k hk => ?_
    have hk := List.mem_range.mp hk
    refine ⟨_, .fz (.int (f k * W k p)), rfl, rfl, ?_, rfl⟩
    simp [wipeE, mul_r (hW k hk p hp), ix_row hp]
theorem says_clashes {R N M : Nat} {W : Nat → Nat → Int} {st : Nat → Bool} {f : Nat → Int} {d : DL.D} (hR : R < 1000000) (hN : N < 1000000) (hd : Sq d (rowD M f)) (hW : ∀ k, k < R → ∀ i, i < N → (W k i).natAbs < 2 ^ 64) :
    Says (m_clashes [.lst (rowsD R N W st), .int N, d]) (M = R ∧ Barred R N W st f) := by
  obtain ⟨m, me1, me2⟩ := min_df hd
  have hb : b_clashes = (sSeq (sIf [2, 0, 2] (tO (tV (e2 (cop .NotEq) (eA oLen (aCons (eVar 2) aNil)) (eA oLen (aCons (eVar 0) aNil)))) (tV (e2 (cop .Lt) (e2 oMinDf (eVar 2) (eC (.int 0))) (eC (.int 0))))) (sRet [] (eC (.bl false))) sNext) (sSeq (sIf (List.range 64) (tV (e2 (cop .Eq) (eA oSum (aCons cSum1 aNil)) (eC (.int 0)))) (sRet [] (eC (.bl false))) sNext) (sSeq (sFor [1] (iA oRng1 (aCons (eVar 1) aNil)) (nName 3) bodyC) (sRet [] (eC (.bl true)))))) := rfl
  by_cases hM : M = R
  · subst hM
    by_cases hm : m < 0
    · refine ⟨false, runD_ok ?_, by simp; intro h; obtain ⟨p, hp, hf⟩ := me2.mp hm; have := h.pos p hp; omega⟩
      rw [hb]
      simp [startE, me1, hm, hd.len]
    · have pos : ∀ p, p < M → 0 ≤ f p := fun p hp => Int.not_lt.mp fun h => hm (me2.mpr ⟨p, hp, h⟩)
      have s1 := e_sum1 (N := N) (W := W) (st := st) (d1 := .int N) hR hd
      by_cases h0 : dotF M (fun k => b01 (st k)) f = 0
      · refine ⟨false, runD_ok ?_, by simp; intro h; exact (firm_iff pos).mp h0 h.firm⟩
        rw [hb]
        have h0' : Sx.sm M (fun k => b01 (st k) * f k) = 0 := h0
        simp [startE, me1, hm, hd.len, s1, h0']
      · have h0' : ¬ Sx.sm M (fun k => b01 (st k) * f k) = 0 := h0
        have firm : ∃ k, k < M ∧ st k = true ∧ 0 < f k := Classical.byContradiction fun hc => h0 ((firm_iff pos).mpr hc)
        have loop := forL_gen (t := nName 3) (body := bodyC) (ds := rgD N) (env := [.fz (.lst (rowsD M N W st)), .fz (.int N), .fz d, .un, .un, .un, .un])
          (fun i e => (∀ p, p < i → dotF M f (fun k => W k p) ≤ 0) ∧ ∃ o3, e = [.fz (.lst (rowsD M N W st)), .fz (.int N), .fz d, o3, .un, .un, .un])
          (fun s => (s = .rt (.fz (.bl false)) ∧ ¬ Barred M N W st f) ∨ ∃ e, s = .nx e ∧ Barred M N W st f) ⟨fun k hk => by omega, _, rfl⟩ (by
            rintro i dd e hdd ⟨good, o3, rfl⟩
            obtain ⟨hi, rfl⟩ := rng_get hdd
            have s2 := e_sum2 (N := N) (st := st) (d1 := .int N) hR hd hi hW
            refine ⟨_, rfl, ?_⟩
            show _ ∨ _
            by_cases g : 0 < dotF M f (fun k => W k i)
            · refine .inr (.inl ⟨_, ?_, .inl ⟨rfl, fun h => by have := h.sum i hi; omega⟩⟩)
              have g' : 0 < Sx.sm M (fun k => f k * W k i) := g
              unfold bodyC
              simp [s2, g']
            · have g' : ¬ 0 < Sx.sm M (fun k => f k * W k i) := g
              refine .inl ⟨[.fz (.lst (rowsD M N W st)), .fz (.int N), .fz d, .fz (.int i), .un, .un, .un], .inl ?_, fun k hk => ?_, _, rfl⟩
              · unfold bodyC
                simp [s2, g']
              · by_cases hki : k = i
                · rw [hki]; omega
                · exact good k (by omega))
          (fun e ⟨good, _⟩ => .inr ⟨e, rfl, pos, firm, fun p hp => good p (by simpa using hp)⟩)
        have start : b_clashes (startE 7 [.lst (rowsD M N W st), .int N, d]) = (forL (nName 3) bodyC (rgD N) [.fz (.lst (rowsD M N W st)), .fz (.int N), .fz d, .un, .un, .un, .un]).andThen (sRet [] (eC (.bl true))) := by
          rw [hb]
          simp [startE, me1, hm, hd.len, s1, h0', rng1 hN]
        rcases loop with ⟨l, nk⟩ | ⟨e, l, k⟩
        · exact ⟨false, runD_ok (by rw [start, l]; simp), by simp [nk]⟩
        · exact ⟨true, runD_ok (by rw [start, l]; simp), by simp [k]⟩
  · refine ⟨false, runD_ok ?_, by simp [hM]⟩
    rw [hb]
    have : ¬ (M : Int) = R := by omega
    simp [startE, hd.len, this]

/-! lowest terms -/
def gcdN (f : Nat → Int) : Nat → Nat
  | 0 => 0
  | k+1 => Nat.gcd (gcdN f k) (f k).natAbs
theorem gcd_dvd {f : Nat → Int} {N i : Nat} (h : i < N) : gcdN f N ∣ (f i).natAbs := by
  induction N with
  | zero => omega
  | succ N ih =>
    simp only [gcdN]
    by_cases e : i = N
    · subst e; exact Nat.gcd_dvd_right _ _
    · exact Nat.dvd_trans (Nat.gcd_dvd_left _ _) (ih (by omega))
theorem dvd_gcdN {f : Nat → Int} {N d : Nat} (h : ∀ i, i < N → d ∣ (f i).natAbs) : d ∣ gcdN f N := by
  induction N with
  | zero => simp [gcdN]
  | succ N ih => exact Nat.dvd_gcd (ih fun i hi => h i (by omega)) (h N (by omega))
def lowF (N : Nat) (f : Nat → Int) : Nat → Int := if gcdN f N < 2 then f else fun i => (f i).fdiv (gcdN f N)
theorem low_eq {N : Nat} {f : Nat → Int} : ∃ g : Nat, 1 ≤ g ∧ ∀ i, i < N → f i = g * lowF N f i := by
  by_cases h : gcdN f N < 2
  · exact ⟨1, by omega, fun i _ => by simp [lowF, h]⟩
  · refine ⟨gcdN f N, by omega, fun i hi => ?_⟩
    simp only [lowF, if_neg h]
    have hd : (gcdN f N : Int) ∣ f i := Int.ofNat_dvd_left.mpr (gcd_dvd hi)
    exact (Int.mul_fdiv_cancel' hd).symm
theorem low_gcd {N : Nat} {f : Nat → Int} : gcdN (lowF N f) N < 2 := by
  by_cases h : gcdN f N < 2
  · simp only [lowF, if_pos h]; exact h
  · obtain ⟨g, hg, e⟩ : ∃ g : Nat, g = gcdN f N ∧ ∀ i, i < N → f i = g * lowF N f i := by
      refine ⟨gcdN f N, rfl, fun i hi => ?_⟩
      simp only [lowF, if_neg h]
      have hd : (gcdN f N : Int) ∣ f i := Int.ofNat_dvd_left.mpr (gcd_dvd hi)
      exact (Int.mul_fdiv_cancel' hd).symm
    have key : g * gcdN (lowF N f) N ∣ g := by
      conv => rhs; rw [hg]
      refine dvd_gcdN fun i hi => ?_
      rw [e i hi, Int.natAbs_mul, Int.natAbs_natCast]
      exact Nat.mul_dvd_mul_left g (gcd_dvd hi)
    have hg0 : 0 < g := by omega
    have := Nat.le_of_dvd hg0 key
    refine Nat.not_le.mp fun hc => ?_
    have : g * 2 ≤ g * gcdN (lowF N f) N := Nat.mul_le_mul_left g hc
    omega
theorem low_abs {N : Nat} {f : Nat → Int} {i : Nat} (hi : i < N) : (lowF N f i).natAbs ≤ (f i).natAbs := by
  obtain ⟨g, hg, e⟩ := low_eq (N := N) (f := f)
  rw [e i hi, Int.natAbs_mul, Int.natAbs_natCast]
  exact Nat.le_mul_of_pos_left _ (by omega)
theorem low_pos {N : Nat} {f : Nat → Int} {i : Nat} (hi : i < N) (h : 0 ≤ f i) : 0 ≤ lowF N f i := by
  obtain ⟨g, hg, e⟩ := low_eq (N := N) (f := f)
  rw [e i hi] at h
  exact Int.not_lt.mp fun hc => by have := Int.mul_neg_of_pos_of_neg (a := (g : Int)) (by omega) hc; omega
def gBody : DL.Env → DL.So := (sSet 1 [1, 2] (eA oGcd (aCons (eVar 1) (aCons (eVar 2) aNil))))
theorem m_low {N : Nat} {f : Nat → Int} (hN : N < 1000000) (hf : ∀ i, i < N → (f i).natAbs.log2 < 9000) : m_lowest [.lst (rowD N f)] = .ok (.fz (.tup (rowD N (lowF N f)))) := by
  refine runD_ok ?_
  have hb : b_lowest = (sSeq (sSet 1 [] (eC (.int 0))) (sSeq (sFor [0] (iE iterA (eVar 0)) (nName 2) gBody) (sSeq (sIf [1] (tV (e2 (cop .Lt) (eVar 1) (eC (.int 2)))) (sRet [0] (eA oTuple (aCons (eVar 0) aNil))) sNext) (sRet (List.range 64) (eA oTuple (aCons (eLc [2] (iE iterA (eVar 0)) (nName 2) tYesD (e2 oDiv (eVar 2) (eVar 1))) aNil)))))) := rfl
  obtain ⟨e, h1, o2, rfl⟩ := forL_nx (t := nName 2) (body := gBody) (ds := rowD N f) (env := [.fz (.lst (rowD N f)), .fz (.int 0), .un]) (fun k e => ∃ o2, e = [.fz (.lst (rowD N f)), .fz (.int (gcdN f k)), o2]) ⟨_, rfl⟩ (by
    rintro i d e hd ⟨o2, rfl⟩
    obtain ⟨hi, rfl⟩ := rowD_at hd
    refine ⟨_, rfl, _, .inl rfl, .fz (.int (f i)), ?_⟩
    rfl)
  simp only [rowD_len] at h1
  have ht : ∀ ds : List DL.D, oTuple [.lst ds] = .ok (.fz (.tup ds)) := fun _ => rfl
  rw [hb]
  by_cases h : gcdN f N < 2
  · have h' : ((gcdN f N : Nat) : Int) < 2 := by omega
    have e : lowF N f = f := by simp [lowF, h]
    simp [startE, h1, h', ht, e]
  · have h' : ¬ ((gcdN f N : Nat) : Int) < 2 := by omega
    have hs : ((gcdN f N : Nat) : Int).natAbs.log2 < 9000 := by
      obtain ⟨i, hi, hne⟩ : ∃ i, i < N ∧ (f i).natAbs ≠ 0 := by
        refine Classical.byContradiction fun hc => h ?_
        have : gcdN f N ∣ 0 := Nat.dvd_zero _
        have z : 0 ∣ gcdN f N := dvd_gcdN fun i hi => by
          have : (f i).natAbs = 0 := Classical.byContradiction fun hn => hc ⟨i, hi, hn⟩
          rw [this]; exact Nat.dvd_refl 0
        have := Nat.eq_zero_of_zero_dvd z
        omega
      have le := Nat.le_of_dvd (by omega) (gcd_dvd (f := f) hi)
      exact small_of (K := 0) (N := (f i).natAbs) (by simpa using le) (hf i hi)
    have hl : ∀ o2 : DL.Sl, eLc [2] (iE iterA (eVar 0)) (nName 2) tYesD (e2 oDiv (eVar 2) (eVar 1)) [.fz (.lst (rowD N f)), .fz (.int (gcdN f N)), o2] = .ok (.ow (rowD N (lowF N f))) := by
      intro o2
      refine ev_lc (ds := rowD N f) (by simp) (by simp) ?_ (.inr (by simpa using hN))
      refine lcL_map (List.range N) _ (fun k => .int (lowF N f k)) fun k hk => ?_
      refine ⟨_, .fz (.int (lowF N f k)), rfl, rfl, ?_, rfl⟩
      have hne : ((gcdN f N : Nat) : Int) ≠ 0 := by omega
      have e : lowF N f k = (f k).fdiv (gcdN f N) := by simp [lowF, h]
      simp [wipeE, div_ok hne hs, e]
    simp [startE, h1, h', ht, hl]
end PG
end

section
set_option maxRecDepth 100000
set_option maxHeartbeats 1000000
/-! What solve gives. -/
namespace PG
open L2 DL
def csOf (R N : Nat) (W : Nat → Nat → Int) : List (List Int) := (List.range R).map fun k => (List.range N).map (W k)
def zsOf (N : Nat) : List Int := (List.range N).map fun _ => 0
def gsOf (R : Nat) (g : Nat → Int) : List Int := (List.range R).map g
theorem getD_map {α : Type} {n i : Nat} {f : Nat → α} {d : α} (h : i < n) : ((List.range n).map f).getD i d = f i := by
  simp [List.getD, h]
section
variable {R N : Nat} {W : Nat → Nat → Int} {g l : Nat → Int}
theorem lp_n : (lpOf (csOf R N W) (gsOf N l) (gsOf R g)).n = R := by simp [lpOf, csOf]
theorem lp_m : (lpOf (csOf R N W) (gsOf N l) (gsOf R g)).m = N := by simp [lpOf, gsOf]
theorem lp_a {i j : Nat} (hi : i < N) (hj : j < R) : (lpOf (csOf R N W) (gsOf N l) (gsOf R g)).a i j = W j i := by
  show ((csOf R N W).getD j []).getD i 0 = W j i
  unfold csOf
  rw [getD_map hj, getD_map hi]
theorem lp_g {j : Nat} (hj : j < R) : (lpOf (csOf R N W) (gsOf N l) (gsOf R g)).g j = g j := getD_map hj
theorem lp_l {i : Nat} (hi : i < N) : (lpOf (csOf R N W) (gsOf N l) (gsOf R g)).l i = l i := getD_map hi
theorem cl_ok {K : Nat} (hK : 1 ≤ K) (hW : ∀ k, k < R → ∀ i, i < N → (W k i).natAbs ≤ K) (hl0 : ∀ i, i < N → 0 ≤ l i) (hl : ∀ i, i < N → (l i).natAbs ≤ K) (hg : ∀ k, k < R → (g k).natAbs ≤ K) (hR : R < 400000) (hN : N < 400000)
    (hB : (Sx.fac (N + 1) * K ^ (N + 1)).log2 < 9000) : ClOk (csOf R N W) (gsOf N l) (gsOf R g) := by
  refine ⟨by simp [csOf, gsOf], fun c hc => ?_, fun x hx => ?_, by simpa [csOf] using hR, by simpa [gsOf] using hN, K, hK, fun c hc x hx => ?_, fun x hx => ?_, fun x hx => ?_, by simpa [gsOf] using hB⟩
  · obtain ⟨k, _, rfl⟩ := List.mem_map.mp hc
    simp [gsOf]
  · obtain ⟨k, hk, rfl⟩ := List.mem_map.mp hx
    exact hl0 k (List.mem_range.mp hk)
  · obtain ⟨k, hk, rfl⟩ := List.mem_map.mp hc
    obtain ⟨i, hi, rfl⟩ := List.mem_map.mp hx
    exact hW k (List.mem_range.mp hk) i (List.mem_range.mp hi)
  · obtain ⟨k, hk, rfl⟩ := List.mem_map.mp hx
    exact hl k (List.mem_range.mp hk)
  · obtain ⟨k, hk, rfl⟩ := List.mem_map.mp hx
    exact hg k (List.mem_range.mp hk)
theorem cs_rows : (csOf R N W).map lsD = (List.range R).map fun k => D.lst (rowD N (W k)) := by
  simp [csOf, lsD, rowD, List.map_map, Function.comp_def]
theorem gs_row : (gsOf R g).map D.int = rowD R g := by simp [gsOf, rowD, List.map_map, Function.comp_def]
end
theorem dot_scale {N : Nat} {f x y : Nat → Int} {g : Nat} (h : ∀ i, i < N → x i = g * y i) : dotF N f x = g * dotF N f y := by
  unfold dotF
  rw [← Sx.sm_mul]
  exact Sx.sm_congr fun i hi => by rw [h i hi]; grind
theorem dot_scale' {N : Nat} {f x y : Nat → Int} {g : Nat} (h : ∀ i, i < N → x i = g * y i) : dotF N x f = g * dotF N y f := by
  unfold dotF
  rw [← Sx.sm_mul]
  exact Sx.sm_congr fun i hi => by rw [h i hi]; grind
/-- what solve may answer -/
inductive SolveIs (R N : Nat) (W : Nat → Nat → Int) (st : Nat → Bool) (B : Nat) : DL.D → Prop
  | point {y : Nat → Int} (k : Keeps R N W st y) (l : gcdN y N < 2) (b : ∀ i, i < N → (y i).natAbs ≤ B) : SolveIs R N W st B (.tup [.str "point", .tup (rowD N y)])
  | paper {w : Nat → Int} (k : Barred R N W st w) (l : gcdN w R < 2) (b : ∀ i, i < R → (w i).natAbs ≤ B) : SolveIs R N W st B (.tup [.str "paper", .tup (rowD R w)])
theorem keeps_low {R N : Nat} {W : Nat → Nat → Int} {st : Nat → Bool} {y : Nat → Int} {s : Int} (hs : 0 < s) (pos : ∀ i, i < N → 0 ≤ y i) (h : ∀ k, k < R → s * b01 (st k) ≤ dotF N (W k) y) : Keeps R N W st (lowF N y) := by
  refine ⟨fun p hp => low_pos hp (pos p hp), fun k hk => ?_⟩
  obtain ⟨g, hg, e⟩ := low_eq (N := N) (f := y)
  have h1 := h k hk
  rw [dot_scale e] at h1
  cases hst : st k with
  | false =>
    rw [hst] at h1
    have e0 : b01 false = 0 := rfl
    rw [e0, Int.mul_zero] at h1
    exact ⟨Int.not_lt.mp fun hc => by have := Int.mul_neg_of_pos_of_neg (a := (g : Int)) (by omega) hc; omega, fun h => by rw [hst] at h; cases h⟩
  | true =>
    rw [hst] at h1
    have e0 : b01 true = 1 := rfl
    rw [e0, Int.mul_one] at h1
    have : 0 < dotF N (W k) (lowF N y) := Int.not_le.mp fun hc => by have := Int.mul_nonpos_of_nonneg_of_nonpos (a := (g : Int)) (by omega) hc; omega
    exact ⟨by omega, fun _ => by omega⟩
theorem barred_low {R N : Nat} {W : Nat → Nat → Int} {st : Nat → Bool} {w : Nat → Int} (pos : ∀ k, k < R → 0 ≤ w k) (firm : 0 < dotF R w fun k => b01 (st k)) (h : ∀ p, p < N → dotF R w (fun k => W k p) ≤ 0) : Barred R N W st (lowF R w) := by
  obtain ⟨g, hg, e⟩ := low_eq (N := R) (f := w)
  have posl : ∀ k, k < R → 0 ≤ lowF R w k := fun k hk => low_pos hk (pos k hk)
  refine ⟨posl, ?_, fun p hp => ?_⟩
  · refine Classical.byContradiction fun hc => ?_
    have h0 := (firm_iff (st := st) posl).mpr hc
    rw [dot_scale' e] at firm
    have : dotF R (lowF R w) (fun k => b01 (st k)) = dotF R (fun k => b01 (st k)) (lowF R w) := Sx.sm_congr fun i _ => Int.mul_comm _ _
    rw [this, h0] at firm
    simp at firm
  · have h1 := h p hp
    rw [dot_scale' e] at h1
    exact Int.not_lt.mp fun hc => by have := Int.mul_pos (a := (g : Int)) (by omega) hc; omega
section
variable {P : Sx.LP} {s : Sx.St} {B : Nat}
theorem y_abs (hI : Sx.Inv P s) (hT : ∀ i j, (s.T P i j).natAbs ≤ B) {i : Nat} (hi : i < P.m) : (s.yOf P i).natAbs ≤ B := by
  have hy := Sx.yOf_ok hI
  rcases hI.cov (P.n + i) (by omega) with ⟨k, hk, e⟩ | ⟨j, hj, e⟩
  · rw [hy.ba k hk i e]; simp
  · rw [hy.lo j hj i e, Int.natAbs_neg]; exact hT _ _
theorem x_abs (hI : Sx.Inv P s) (hT : ∀ i j, (s.T P i j).natAbs ≤ B) {v : Nat} (hv : v < P.n) : (s.xOf P v).natAbs ≤ B := by
  have hx := Sx.xOf_ok hI
  rcases hI.cov v (by omega) with ⟨k, hk, e⟩ | ⟨j, hj, e⟩
  · rw [← e, hx.ba k hk]; exact hT _ _
  · rw [← e, hx.lo j hj]; simp
theorem w_abs (hI : Sx.Inv P s) (hT : ∀ i j, (s.T P i j).natAbs ≤ B) (hs : (s.sc P).natAbs ≤ B) {c : Nat} (hc : c < P.n) {v : Nat} (hv : v < P.n) : (s.wOf P c v).natAbs ≤ B := by
  have hw := Sx.wOf_ok hI hc
  rcases hI.cov v (by omega) with ⟨k, hk, e⟩ | ⟨j, hj, e⟩
  · rw [← e, hw.ba k hk, Int.natAbs_neg]; exact hT _ _
  · by_cases h : j = c
    · subst h; rw [← e, hw.at_c]; exact hs
    · rw [← e, hw.lo j hj h]; simp
end
def sCols : DL.Env → DL.M Rs := eLc [6, 8] (iE iterA (eVar 0)) (nTup 2 (nCons (nName 6) (nCons (nName 8) nNil))) tYesD (eA oList (aCons (eVar 6) aNil))
def sGains : DL.Env → DL.M Rs := eLc [6, 8] (iE iterA (eVar 0)) (nTup 2 (nCons (nName 6) (nCons (nName 8) nNil))) tYesD (eA oInt (aCons (eVar 8) aNil))
theorem frzIf_fz {d : DL.D} {A : List Nat} {env : DL.Env} (h : fzAll A env = env) : frzIf (.fz d) A env = env := by
  unfold frzIf; split
  · rfl
  · exact h
theorem solve_is {R N K : Nat} {W : Nat → Nat → Int} {st : Nat → Bool} (hR : R < 400000) (hN : N < 400000) (hK : 1 ≤ K) (hW : ∀ k, k < R → ∀ i, i < N → (W k i).natAbs ≤ K) (hB : (Sx.fac (N + 1) * K ^ (N + 1)).log2 < 9000) :
    ∃ d, m_solve [.lst (rowsD R N W st), .int N] = .ok (.fz d) ∧ SolveIs R N W st (Sx.fac (N + 1) * K ^ (N + 1)) d := by
  have ok : ClOk (csOf R N W) (gsOf N fun _ => 0) (gsOf R fun k => b01 (st k)) := cl_ok hK hW (fun _ _ => Int.le_refl _) (fun _ _ => by simp) (fun k _ => by cases st k <;> simp [b01] <;> exact hK) hR hN hB
  obtain ⟨fin, e, fo⟩ := climb_ok ok
  rw [cs_rows, gs_row, gs_row] at e
  have hn : (lpOf (csOf R N W) (gsOf N fun _ => 0) (gsOf R fun k => b01 (st k))).n = R := lp_n
  have hm : (lpOf (csOf R N W) (gsOf N fun _ => 0) (gsOf R fun k => b01 (st k))).m = N := lp_m
  have la : ∀ {i j : Nat}, i < N → j < R → (lpOf (csOf R N W) (gsOf N fun _ => 0) (gsOf R fun k => b01 (st k))).a i j = W j i := fun hi hj => lp_a hi hj
  have lg : ∀ {j : Nat}, j < R → (lpOf (csOf R N W) (gsOf N fun _ => 0) (gsOf R fun k => b01 (st k))).g j = b01 (st j) := fun hj => lp_g hj
  obtain ⟨K', k1, k2, k3, k4, k5⟩ : ∃ K', 1 ≤ K' ∧ (∀ i, i < (lpOf (csOf R N W) (gsOf N fun _ => 0) (gsOf R fun k => b01 (st k))).m → ∀ j, j < (lpOf (csOf R N W) (gsOf N fun _ => 0) (gsOf R fun k => b01 (st k))).n → ((lpOf (csOf R N W) (gsOf N fun _ => 0) (gsOf R fun k => b01 (st k))).a i j).natAbs ≤ K') ∧
      (∀ i, i < (lpOf (csOf R N W) (gsOf N fun _ => 0) (gsOf R fun k => b01 (st k))).m → ((lpOf (csOf R N W) (gsOf N fun _ => 0) (gsOf R fun k => b01 (st k))).l i).natAbs ≤ K') ∧
      (∀ j, j < (lpOf (csOf R N W) (gsOf N fun _ => 0) (gsOf R fun k => b01 (st k))).n → ((lpOf (csOf R N W) (gsOf N fun _ => 0) (gsOf R fun k => b01 (st k))).g j).natAbs ≤ K') ∧ K' = K := by
    refine ⟨K, hK, fun i hi j hj => ?_, fun i hi => ?_, fun j hj => ?_, rfl⟩
    · rw [hm] at hi; rw [hn] at hj; rw [la hi hj]; exact hW j hj i hi
    · rw [hm] at hi; rw [lp_l hi]; simp
    · rw [hn] at hj; rw [lg hj]; cases st j <;> simp [b01] <;> exact hK
  subst k5
  have hT := fun s => Sx.T_small k1 k2 k3 k4 s
  have hS := fun s => Sx.sc_small k1 k2 k3 k4 s
  have hm' : Sx.fac ((lpOf (csOf R N W) (gsOf N fun _ => 0) (gsOf R fun k => b01 (st k))).m + 1) * K' ^ ((lpOf (csOf R N W) (gsOf N fun _ => 0) (gsOf R fun k => b01 (st k))).m + 1) = Sx.fac (N + 1) * K' ^ (N + 1) := by rw [hm]
  simp only [hm'] at hT hS
  generalize hP : lpOf (csOf R N W) (gsOf N fun _ => 0) (gsOf R fun k => b01 (st k)) = P at *
  -- the walk's shape
  have hcols : sCols [.fz (.lst (rowsD R N W st)), .fz (.int N), .un, .un, .un, .un, .un, .un, .un] = .ok (.ow ((List.range R).map fun k => D.lst (rowD N (W k)))) := by
    refine ev_lc (ds := rowsD R N W st) (by simp) (by simp) ?_ (.inr (by simp; omega))
    refine lcL_map (List.range R) _ _ fun k hk => ⟨_, .ow (rowD N (W k)), rfl, rfl, ?_, rfl⟩
    have : oList [.lst (rowD N (W k))] = .ok (.ow (rowD N (W k))) := rfl
    simp [wipeE, this]
  have hgains : sGains [.fz (.lst (rowsD R N W st)), .fz (.int N), .ow ((List.range R).map fun k => D.lst (rowD N (W k))), .un, .un, .un, .un, .un, .un] = .ok (.ow (rowD R fun k => b01 (st k))) := by
    refine ev_lc (ds := rowsD R N W st) (by simp) (by simp) ?_ (.inr (by simp; omega))
    refine lcL_map (List.range R) _ _ fun k hk => ⟨_, .fz (.int (b01 (st k))), rfl, rfl, ?_, rfl⟩
    have e : (if st k = true then (1 : Int) else 0) = b01 (st k) := rfl
    simp [wipeE, e]
  have fz0 : ∀ (ds : List DL.D), frzIf (.ow ds) (List.range 64) [.fz (.lst (rowsD R N W st)), .fz (.int N), .un, .un, .un, .un, .un, .un, .un] = [.fz (.lst (rowsD R N W st)), .fz (.int N), .un, .un, .un, .un, .un, .un, .un] := fun ds => by
    unfold frzIf
    split
    · rfl
    · rw [frzAll_map _ _ (by simp)]; rfl
  have hb : b_solve = (sSeq (sSet 2 (List.range 64) sCols) (sSeq (sSet 3 (List.range 64) sGains) (sSeq (sAsg [2, 1, 3] (nTup 4 (nCons (nName 4) (nCons (nName 5) (nCons (nName 6) (nCons (nName 7) nNil))))) (eA (oCal 3 m_climb) (aCons (eVar 2) (aCons (e2 oMul (eA oLstD (aCons (eC (.int 0)) aNil)) (eVar 1)) (aCons (eVar 3) aNil))))) (sSeq (sIf [4] (tV (e2 (cop .Eq) (eVar 4) (eC (.str "ray")))) (sRet [6] (eA oTupD (aCons (eC (.str "paper")) (aCons (eA (oCal 1 m_lowest) (aCons (eVar 6) aNil)) aNil)))) sNext) (sRet [7] (eA oTupD (aCons (eC (.str "point")) (aCons (eA (oCal 1 m_lowest) (aCons (eVar 7) aNil)) aNil)))))))) := rfl
  have nst : ¬ (PySem.Str.ofString "top" = PySem.Str.ofString "ray") := by decide
  have sz1 := sz
  have l1 : oLstD [.int 0] = .ok (.ow [.int 0]) := by unfold oLstD; rw [if_pos (by simp; omega)]
  have t2 : ∀ a b : DL.D, oTupD [a, b] = .ok (.fz (.tup [a, b])) := fun a b => by unfold oTupD; rw [if_pos (by simp; omega)]
  have fzB : ∀ d : DL.D, frzIf (.fz d) [2, 1, 3] [.fz (.lst (rowsD R N W st)), .fz (.int N), .ow ((List.range R).map fun k => D.lst (rowD N (W k))), .ow (rowD R fun k => b01 (st k)), .un, .un, .un, .un, .un] = [.fz (.lst (rowsD R N W st)), .fz (.int N), .ow ((List.range R).map fun k => D.lst (rowD N (W k))), .ow (rowD R fun k => b01 (st k)), .un, .un, .un, .un, .un] ∨
      frzIf (.fz d) [2, 1, 3] [.fz (.lst (rowsD R N W st)), .fz (.int N), .ow ((List.range R).map fun k => D.lst (rowD N (W k))), .ow (rowD R fun k => b01 (st k)), .un, .un, .un, .un, .un] = [.fz (.lst (rowsD R N W st)), .fz (.int N), .fz (.lst ((List.range R).map fun k => D.lst (rowD N (W k)))), .fz (.lst (rowD R fun k => b01 (st k))), .un, .un, .un, .un, .un] := fun d => by
    unfold frzIf
    split
    · exact .inl rfl
    · exact .inr rfl
  have start : b_solve (startE 9 [.lst (rowsD R N W st), .int N]) = (So.andThen (ofM (.ok (.fz (finD P fin))) [.fz (.lst (rowsD R N W st)), .fz (.int N), .ow ((List.range R).map fun k => D.lst (rowD N (W k))), .ow (rowD R fun k => b01 (st k)), .un, .un, .un, .un, .un] [2, 1, 3] fun r => ofO (nTup 4 (nCons (nName 4) (nCons (nName 5) (nCons (nName 6) (nCons (nName 7) nNil)))) r.d (frzIf r [2, 1, 3] [.fz (.lst (rowsD R N W st)), .fz (.int N), .ow ((List.range R).map fun k => D.lst (rowD N (W k))), .ow (rowD R fun k => b01 (st k)), .un, .un, .un, .un, .un])))
      (sSeq (sIf [4] (tV (e2 (cop .Eq) (eVar 4) (eC (.str "ray")))) (sRet [6] (eA oTupD (aCons (eC (.str "paper")) (aCons (eA (oCal 1 m_lowest) (aCons (eVar 6) aNil)) aNil)))) sNext) (sRet [7] (eA oTupD (aCons (eC (.str "point")) (aCons (eA (oCal 1 m_lowest) (aCons (eVar 7) aNil)) aNil)))))) := by
    rw [hb]
    show sSeq _ _ [.fz (.lst (rowsD R N W st)), .fz (.int N), .un, .un, .un, .un, .un, .un, .un] = _
    simp only [ev_seq, ev_set, hcols, ev_ofM, fz0, ev_sow, List.set, ev_tn, hgains, ev_frzRow, ev_asg, ev_eA, ev_aCons, ev_vs, ev_v0o, ev_v0f, ev_bok, ev_rfz, ev_row, ev_e2, ev_c, ev_aNil, l1, ev_pok, zeros (show N < 1000000 by omega), oCal, List.length_cons, List.length_nil, e, if_true]
  cases fo with
  | @top s hI h =>
    have hy := Sx.yOf_ok hI
    have lowm := m_low (N := N) (f := s.yOf P) (by omega) fun i hi => small_of (K := 0) (y_abs hI (hT s) (by omega)) hB
    refine ⟨_, runD_ok (r := .fz (.tup [.str "point", .tup (rowD N (lowF N (s.yOf P)))])) ?_, .point (keeps_low hI.pos (fun i hi => Sx.p_nonneg hI hy h (by omega)) fun k hk => ?_) low_gcd fun i hi => Nat.le_trans (low_abs hi) (y_abs hI (hT s) (by omega))⟩
    · rw [start]
      simp only [finD, hm, hn]
      rcases fzB (.tup [.str "top", .int (s.sc P), .lst (rowD R (s.xOf P)), .lst (rowD N (s.yOf P))]) with e | e <;> simp only [ev_ofM, ev_rfz, e] <;> simp [oCal, lowm, t2, nst]
    · have := Sx.p_reach hI hy h (v := k) (by omega)
      rw [lg hk, hm] at this
      refine Int.le_trans this (Int.le_of_eq (Sx.sm_congr fun i hi => by rw [la hi hk]))
  | @ray s c hI hE h =>
    have hw := Sx.wOf_ok hI hE.lt
    have lowm := m_low (N := R) (f := s.wOf P c) (by omega) fun i hi => small_of (K := 0) (w_abs hI (hT s) (hS s) hE.lt (by omega)) hB
    refine ⟨_, runD_ok (r := .fz (.tup [.str "paper", .tup (rowD R (lowF R (s.wOf P c)))])) ?_, .paper (barred_low (fun i hi => Sx.r_nonneg hI hw h (by omega)) ?_ fun p hp => ?_) low_gcd fun i hi => Nat.le_trans (low_abs hi) (w_abs hI (hT s) (hS s) hE.lt (by omega))⟩
    · rw [start]
      simp only [finD, hm, hn]
      rcases fzB (.tup [.str "ray", .int 1, .lst (rowD R (s.wOf P c)), .lst []]) with e | e <;> simp only [ev_ofM, ev_rfz, e] <;> simp [oCal, lowm, t2]
    · have := Sx.r_total hI hE.lt hw
      rw [hn] at this
      have e : dotF R (s.wOf P c) (fun k => b01 (st k)) = s.T P P.m c := by
        rw [← this]
        exact Sx.sm_congr fun i hi => by rw [lg hi]
      rw [e]; exact hE.pos
    · have := Sx.r_within hI hE.lt hw h (p := p) (by omega)
      rw [hn] at this
      refine Int.le_trans (Int.le_of_eq (Sx.sm_congr fun i hi => by rw [la hp hi])) this
end PG
end

section
set_option maxRecDepth 100000
set_option maxHeartbeats 1000000
/-! Rows cut and joined. -/
namespace PG
open L2 DL
theorem row_app {a b : Nat} {f g : Nat → Int} : rowD a f ++ rowD b g = rowD (a + b) fun i => if i < a then f i else g (i - a) := by
  apply List.ext_getElem?
  intro i
  by_cases h : i < a
  · rw [List.getElem?_append_left (by simpa using h), rowD_get h, rowD_get (by omega), if_pos h]
  · rw [List.getElem?_append_right (by simpa using h), rowD_len]
    by_cases h2 : i - a < b
    · rw [rowD_get h2, rowD_get (by omega), if_neg h]
    · rw [List.getElem?_eq_none (by simp; omega), List.getElem?_eq_none (by simp; omega)]
theorem row_one (x : Int) : [D.int x] = rowD 1 fun _ => x := rfl
theorem drop_take_row {M a c : Nat} {f : Nat → Int} (h : a + c ≤ M) : ((rowD M f).drop a).take c = rowD c fun i => f (i + a) := by
  apply List.ext_getElem?
  intro i
  rw [List.getElem?_take, List.getElem?_drop]
  by_cases hi : i < c
  · rw [if_pos hi, rowD_get (by omega), rowD_get hi, Nat.add_comm]
  · rw [if_neg hi, List.getElem?_eq_none (by simp; omega)]
theorem cut_row {M a b : Nat} {f : Nat → Int} (h1 : a ≤ b) (h2 : b ≤ M) : cutD (rowD M f) (some (a : Int)) (some (b : Int)) = rowD (b - a) fun i => f (i + a) := by
  unfold cutD
  rw [HT.sIx_nat, HT.sIx_nat, rowD_len, Nat.min_eq_left (by omega), Nat.min_eq_left (by omega)]
  exact drop_take_row (by omega)
theorem cut_row_end {M a : Nat} {f : Nat → Int} (h1 : a ≤ M) : cutD (rowD M f) (some (a : Int)) none = rowD (M - a) fun i => f (i + a) := by
  unfold cutD
  rw [HT.sIx_nat, HT.sIx_none, rowD_len, Nat.min_eq_left (by omega)]
  exact drop_take_row (by omega)
/-! rows with a bound -/
def rowsI (R N : Nat) (W : Nat → Nat → Int) (g : Nat → Int) (c : List DL.D → DL.D) : List DL.D := (List.range R).map fun k => D.tup [c (rowD N (W k)), .int (g k)]
@[simp] theorem rowsI_len {R N : Nat} {W : Nat → Nat → Int} {g : Nat → Int} {c : List DL.D → DL.D} : (rowsI R N W g c).length = R := by simp [rowsI]
theorem rowsI_get {R N : Nat} {W : Nat → Nat → Int} {g : Nat → Int} {c : List DL.D → DL.D} {k : Nat} (h : k < R) : (rowsI R N W g c)[k]? = some (.tup [c (rowD N (W k)), .int (g k)]) := by simp [rowsI, h]
theorem rowsI_at {R N : Nat} {W : Nat → Nat → Int} {g : Nat → Int} {c : List DL.D → DL.D} {k : Nat} {d : DL.D} (h : (rowsI R N W g c)[k]? = some d) : k < R ∧ d = .tup [c (rowD N (W k)), .int (g k)] := by
  by_cases hk : k < R
  · rw [rowsI_get hk] at h; cases h; exact ⟨hk, rfl⟩
  · rw [List.getElem?_eq_none (by simp; omega)] at h; cases h
/-- point and paper of one total -/
structure Least (R N : Nat) (W : Nat → Nat → Int) (g l : Nat → Int) (s : Int) (y w : Nat → Int) : Prop where
  s1 : 1 ≤ s
  ynn : ∀ p, p < N → 0 ≤ y p
  wnn : ∀ k, k < R → 0 ≤ w k
  reach : ∀ k, k < R → g k * s ≤ dotF N (W k) y
  within : ∀ p, p < N → dotF R w (fun k => W k p) ≤ l p * s
  total : dotF N l y = dotF R w g
structure Misses (R N : Nat) (W : Nat → Nat → Int) (g : Nat → Int) (w : Nat → Int) : Prop where
  wnn : ∀ k, k < R → 0 ≤ w k
  sum : ∀ p, p < N → dotF R w (fun k => W k p) ≤ 0
  pos : 0 < dotF R w g
end PG
end

section
set_option maxRecDepth 100000
set_option maxHeartbeats 4000000
noncomputable section
namespace PG
open L2 DL
def b_least : DL.Env → DL.So :=
  (sSeq (sSet 3 (List.range 64) (eLc [7, 10] (iE iterA (eVar 1)) (nTup 2 (nCons (nName 7) (nCons (nName 10) nNil))) tYesD (eA oList (aCons (eVar 7) aNil)))) (sSeq (sSet 4 (List.range 64) (eLc [7, 10] (iE iterA (eVar 1)) (nTup 2 (nCons (nName 7) (nCons (nName 10) nNil))) tYesD (eVar 10))) (sSeq (sAsg [3, 0, 4] (nTup 4 (nCons (nName 5) (nCons (nName 6) (nCons (nName 7) (nCons (nName 8) nNil))))) (eA (oCal 3 m_climb) (aCons (eVar 3) (aCons (eA oList (aCons (eVar 0) aNil)) (aCons (eVar 4) aNil))))) (sSeq (sIf [5] (tV (e2 (cop .Eq) (eVar 5) (eC (.str "ray")))) (sRet [7] (eA oTupD (aCons (eC (.str "none")) (aCons (eA (oCal 1 m_lowest) (aCons (eVar 7) aNil)) aNil)))) sNext) (sSeq (sSet 9 [6, 8, 7] (eA (oCal 1 m_lowest) (aCons (e2 oAdd (e2 oAdd (eA oLstD (aCons (eVar 6) aNil)) (eVar 8)) (eVar 7)) aNil))) (sRet [9, 9, 2, 9, 2] (eA oTupD (aCons (eC (.str "least")) (aCons (e2 oIx (eVar 9) (eC (.int 0))) (aCons (e3o oSl (eVar 9) (pSome (eC (.int 1))) (pSome (e2 oAdd (eVar 2) (eC (.int 1))))) (aCons (e3o oSl (eVar 9) (pSome (e2 oAdd (eVar 2) (eC (.int 1)))) pNo) aNil)))))))))))
def m_least (ds : List DL.D) : DL.M DL.Rs := pureM (runD 11 b_least ds)
def b_hedge_rows : DL.Env → DL.So :=
  (sRet (List.range 64) (eLc [3] (iE iterA (eVar 0)) (nName 3) tYesD (eA oTupD (aCons (eA oTuple (aCons (eVar 3) aNil)) (aCons (e2 oSub (e2 oMul (eVar 2) (eA oSum (aCons (eVar 3) aNil))) (eA (oCal 2 m_dot) (aCons (eVar 3) (aCons (eVar 1) aNil)))) aNil)))))
def m_hedge_rows (ds : List DL.D) : DL.M DL.Rs := pureM (runD 4 b_hedge_rows ds)
def b_cheapest_hedge : DL.Env → DL.So :=
  (sSeq (sAsg [2, 0, 1, 3, 1] (nTup 4 (nCons (nName 4) (nCons (nName 5) (nCons (nName 6) (nCons (nName 7) nNil))))) (eA (oCal 3 m_least) (aCons (eVar 2) (aCons (eA (oCal 3 m_hedge_rows) (aCons (eVar 0) (aCons (eVar 1) (aCons (eVar 3) aNil)))) (aCons (eA oLen (aCons (eVar 1) aNil)) aNil))))) (sRet [5, 6, 7] (eA oTupD (aCons (eVar 5) (aCons (eVar 6) (aCons (eVar 7) aNil))))))
def m_cheapest_hedge (ds : List DL.D) : DL.M DL.Rs := pureM (runD 8 b_cheapest_hedge ds)
def b_shows_least : DL.Env → DL.So :=
  (sSeq (sIf [2, 3, 0, 4, 1] (tO (tV (e2 (cop .Lt) (eVar 2) (eC (.int 1)))) (tO (tV (e2 (cop .NotEq) (eA oLen (aCons (eVar 3) aNil)) (eA oLen (aCons (eVar 0) aNil)))) (tV (e2 (cop .NotEq) (eA oLen (aCons (eVar 4) aNil)) (eA oLen (aCons (eVar 1) aNil)))))) (sRet [] (eC (.bl false))) sNext) (sSeq (sIf [3, 4] (tO (tV (e2 (cop .Lt) (eA oMin (aCons (eVar 3) aNil)) (eC (.int 0)))) (tV (e2 (cop .Lt) (e2 oMinDf (eVar 4) (eC (.int 0))) (eC (.int 0))))) (sRet [] (eC (.bl false))) sNext) (sSeq (sFor [1] (iE iterA (eVar 1)) (nTup 2 (nCons (nName 5) (nCons (nName 6) nNil))) (sIf [5, 3, 6, 2] (tV (e2 (cop .Lt) (eA (oCal 2 m_dot) (aCons (eVar 5) (aCons (eVar 3) aNil))) (e2 oMul (eVar 6) (eVar 2)))) (sRet [] (eC (.bl false))) sNext)) (sSeq (sFor [0] (iA oRng1 (aCons (eA oLen (aCons (eVar 0) aNil)) aNil)) (nName 7) (sSeq (sSet 8 (List.range 64) (eA oSum (aCons (eLc [5, 6, 9] (iA oZip (aCons (eVar 1) (aCons (eVar 4) aNil))) (nTup 2 (nCons (nTup 2 (nCons (nName 5) (nCons (nName 6) nNil))) (nCons (nName 9) nNil))) tYesD (e2 oMul (eVar 9) (e2 oIx (eVar 5) (eVar 7)))) aNil))) (sIf [8, 0, 7, 2] (tV (e2 (cop .Gt) (eVar 8) (e2 oMul (e2 oIx (eVar 0) (eVar 7)) (eVar 2)))) (sRet [] (eC (.bl false))) sNext))) (sRet ([0, 3] ++ List.range 64) (e2 (cop .Eq) (eA (oCal 2 m_dot) (aCons (eVar 0) (aCons (eVar 3) aNil))) (eA oSum (aCons (eLc [5, 6, 9] (iA oZip (aCons (eVar 1) (aCons (eVar 4) aNil))) (nTup 2 (nCons (nTup 2 (nCons (nName 5) (nCons (nName 6) nNil))) (nCons (nName 9) nNil))) tYesD (e2 oMul (eVar 9) (eVar 6))) aNil))))))))
def m_shows_least (ds : List DL.D) : DL.M DL.Rs := pureM (runD 10 b_shows_least ds)
def b_shows_hedge : DL.Env → DL.So :=
  (sRet [2, 0, 1, 3, 4, 5, 6] (eA (oCal 5 m_shows_least) (aCons (eVar 2) (aCons (eA (oCal 3 m_hedge_rows) (aCons (eVar 0) (aCons (eVar 1) (aCons (eVar 3) aNil)))) (aCons (eVar 4) (aCons (eVar 5) (aCons (eVar 6) aNil)))))))
def m_shows_hedge (ds : List DL.D) : DL.M DL.Rs := pureM (runD 7 b_shows_hedge ds)
end PG
end
end

section
set_option maxRecDepth 100000
set_option maxHeartbeats 1000000
/-! What least gives. -/
namespace PG
open L2 DL
theorem cancel_le {q : Nat} (hq : 1 ≤ q) {a b : Int} (h : (q : Int) * a ≤ q * b) : a ≤ b := Int.le_of_mul_le_mul_left h (by omega)
theorem least_low {R N : Nat} {W : Nat → Nat → Int} {g l : Nat → Int} {s : Int} {y w : Nat → Int} {q : Nat} {s' : Int} {y' w' : Nat → Int} (hq : 1 ≤ q) (h : Least R N W g l s y w) (es : s = q * s') (ey : ∀ p, p < N → y p = q * y' p) (ew : ∀ k, k < R → w k = q * w' k) : Least R N W g l s' y' w' := by
  have nn : ∀ {a b : Int}, 0 ≤ a → a = q * b → 0 ≤ b := fun {a b} h1 h2 => cancel_le hq (by rw [Int.mul_zero, ← h2]; exact h1)
  have s0 := h.s1
  refine ⟨?_, fun p hp => nn (h.ynn p hp) (ey p hp), fun k hk => nn (h.wnn k hk) (ew k hk), fun k hk => ?_, fun p hp => ?_, ?_⟩
  · refine Int.not_lt.mp fun hc => ?_
    have := Int.mul_nonpos_of_nonneg_of_nonpos (a := (q : Int)) (b := s') (by omega) (by omega)
    omega
  · have := h.reach k hk
    rw [dot_scale ey, es] at this
    exact cancel_le hq (by have e : (q : Int) * (g k * s') = g k * (q * s') := by grind
                           rw [e]; exact this)
  · have := h.within p hp
    rw [dot_scale' ew, es] at this
    exact cancel_le hq (by have e : (q : Int) * (l p * s') = l p * (q * s') := by grind
                           rw [e]; exact this)
  · have := h.total
    rw [dot_scale ey, dot_scale' ew] at this
    exact Int.eq_of_mul_eq_mul_left (by omega) this
theorem misses_low {R N : Nat} {W : Nat → Nat → Int} {g : Nat → Int} {w : Nat → Int} (h : Misses R N W g w) : Misses R N W g (lowF R w) := by
  obtain ⟨q, hq, e⟩ := low_eq (N := R) (f := w)
  refine ⟨fun k hk => low_pos hk (h.wnn k hk), fun p hp => ?_, ?_⟩
  · have := h.sum p hp
    rw [dot_scale' e] at this
    exact cancel_le hq (by rw [Int.mul_zero]; exact this)
  · have := h.pos
    rw [dot_scale' e] at this
    refine Int.not_le.mp fun hc => ?_
    have := Int.mul_nonpos_of_nonneg_of_nonpos (a := (q : Int)) (by omega) hc
    omega
theorem top_least {P : Sx.LP} {s : Sx.St} (hI : Sx.Inv P s) (h : ∀ j, j < P.n → s.T P P.m j ≤ 0) {W : Nat → Nat → Int} {g l : Nat → Int} (ha : ∀ i, i < P.m → ∀ j, j < P.n → P.a i j = W j i) (hg : ∀ j, j < P.n → P.g j = g j) (hl : ∀ i, i < P.m → P.l i = l i) :
    Least P.n P.m W g l (s.sc P) (s.yOf P) (s.xOf P) := by
  have hx := Sx.xOf_ok hI
  have hy := Sx.yOf_ok hI
  refine ⟨hI.pos, fun p hp => Sx.p_nonneg hI hy h hp, fun k hk => Sx.x_nonneg hI hx (by omega), fun k hk => ?_, fun p hp => ?_, ?_⟩
  · have := Sx.p_reach hI hy h hk
    rw [hg k hk] at this
    rw [Int.mul_comm]
    exact Int.le_trans this (Int.le_of_eq (Sx.sm_congr fun i hi => by rw [ha i hi k hk]))
  · have := Sx.x_within hI hx hp
    rw [hl p hp] at this
    rw [Int.mul_comm (l p)]
    exact Int.le_trans (Int.le_of_eq (Sx.sm_congr fun k hk => by rw [ha p hp k hk])) this
  · have e1 := Sx.p_total hI hy
    have e2 := Sx.x_total hI hx
    have a1 : dotF P.m l (s.yOf P) = - s.T P P.m P.n := by rw [← e1]; exact Sx.sm_congr fun i hi => by rw [hl i hi]
    have a2 : dotF P.n (s.xOf P) g = - s.T P P.m P.n := by rw [← e2]; exact Sx.sm_congr fun i hi => by rw [hg i hi]
    rw [a1, a2]
theorem ray_misses {P : Sx.LP} {s : Sx.St} {c : Nat} (hI : Sx.Inv P s) (hE : Sx.Ent P s c) (h : ∀ k, k < P.m → s.T P k c ≤ 0) {W : Nat → Nat → Int} {g : Nat → Int} (ha : ∀ i, i < P.m → ∀ j, j < P.n → P.a i j = W j i) (hg : ∀ j, j < P.n → P.g j = g j) :
    Misses P.n P.m W g (s.wOf P c) := by
  have hw := Sx.wOf_ok hI hE.lt
  refine ⟨fun k hk => Sx.r_nonneg hI hw h (by omega), fun p hp => ?_, ?_⟩
  · exact Int.le_trans (Int.le_of_eq (Sx.sm_congr fun k hk => by rw [ha p hp k hk])) (Sx.r_within hI hE.lt hw h hp)
  · have e2 := Sx.r_total hI hE.lt hw
    have a2 : dotF P.n (s.wOf P c) g = s.T P P.m c := by rw [← e2]; exact Sx.sm_congr fun i hi => by rw [hg i hi]
    rw [a2]; exact hE.pos
end PG
end

section
set_option maxRecDepth 100000
set_option maxHeartbeats 1000000
namespace PG
open L2 DL
inductive LeastIs (R N : Nat) (W : Nat → Nat → Int) (g l : Nat → Int) (B : Nat) : DL.D → Prop
  | least {s : Int} {y w : Nat → Int} (h : Least R N W g l s y w) (one : ∀ d : Nat, d ∣ s.natAbs → (∀ p, p < N → d ∣ (y p).natAbs) → (∀ k, k < R → d ∣ (w k).natAbs) → d = 1)
      (bs : s.natAbs ≤ B) (by_ : ∀ p, p < N → (y p).natAbs ≤ B) (bw : ∀ k, k < R → (w k).natAbs ≤ B) : LeastIs R N W g l B (.tup [.str "least", .int s, .tup (rowD N y), .tup (rowD R w)])
  | none {w : Nat → Int} (h : Misses R N W g w) (one : gcdN w R < 2) (bw : ∀ k, k < R → (w k).natAbs ≤ B) : LeastIs R N W g l B (.tup [.str "none", .tup (rowD R w)])
def jn (N : Nat) (s : Int) (y w : Nat → Int) (i : Nat) : Int := if i < 1 + N then (if i < 1 then s else y (i - 1)) else w (i - (1 + N))
theorem jn_row {N R : Nat} {s : Int} {y w : Nat → Int} : [D.int s] ++ rowD N y ++ rowD R w = rowD (1 + N + R) (jn N s y w) := by
  rw [row_one, row_app, row_app]; rfl
def lCols : DL.Env → DL.M Rs := eLc [7, 10] (iE iterA (eVar 1)) (nTup 2 (nCons (nName 7) (nCons (nName 10) nNil))) tYesD (eA oList (aCons (eVar 7) aNil))
def lGains : DL.Env → DL.M Rs := eLc [7, 10] (iE iterA (eVar 1)) (nTup 2 (nCons (nName 7) (nCons (nName 10) nNil))) tYesD (eVar 10)
def lEnd : DL.Env → DL.So := (sSeq (sIf [5] (tV (e2 (cop .Eq) (eVar 5) (eC (.str "ray")))) (sRet [7] (eA oTupD (aCons (eC (.str "none")) (aCons (eA (oCal 1 m_lowest) (aCons (eVar 7) aNil)) aNil)))) sNext) (sSeq (sSet 9 [6, 8, 7] (eA (oCal 1 m_lowest) (aCons (e2 oAdd (e2 oAdd (eA oLstD (aCons (eVar 6) aNil)) (eVar 8)) (eVar 7)) aNil))) (sRet [9, 9, 2, 9, 2] (eA oTupD (aCons (eC (.str "least")) (aCons (e2 oIx (eVar 9) (eC (.int 0))) (aCons (e3o oSl (eVar 9) (pSome (eC (.int 1))) (pSome (e2 oAdd (eVar 2) (eC (.int 1))))) (aCons (e3o oSl (eVar 9) (pSome (e2 oAdd (eVar 2) (eC (.int 1)))) pNo) aNil))))))))
theorem lEnd_top {R N : Nat} {s : Int} {y w : Nat → Int} {e0 e1 e3 e4 : DL.Sl} (hR : R < 400000) (hN : N < 400000) (hs : s.natAbs.log2 < 9000) (hy : ∀ p, p < N → (y p).natAbs.log2 < 9000) (hw : ∀ k, k < R → (w k).natAbs.log2 < 9000) :
    lEnd [e0, e1, .fz (.int N), e3, e4, .fz (.str "top"), .fz (.int s), .fz (.lst (rowD R w)), .fz (.lst (rowD N y)), .un, .un] =
    .rt (.fz (.tup [.str "least", .int (lowF (1 + N + R) (jn N s y w) 0), .tup (rowD N fun i => lowF (1 + N + R) (jn N s y w) (i + 1)), .tup (rowD R fun i => lowF (1 + N + R) (jn N s y w) (i + (N + 1)))])) := by
  have nst : ¬ (PySem.Str.ofString "top" = PySem.Str.ofString "ray") := by decide
  have sz1 := sz
  have l1 : oLstD [.int s] = .ok (.ow [.int s]) := by unfold oLstD; rw [if_pos (by simp; omega)]
  have ad : ∀ a b : List DL.D, a.length + b.length ≤ PySem.sizeLine → oAdd (.lst a) (.lst b) = .ok (.ow (a ++ b)) := fun a b h => by
    show (if a.length + b.length ≤ PySem.sizeLine then DL.M.ok (Rs.ow (a ++ b)) else .bad) = _
    rw [if_pos h]
  have a1 : oAdd (.lst [.int s]) (.lst (rowD N y)) = .ok (.ow ([.int s] ++ rowD N y)) := ad _ _ (by simp; omega)
  have a2 : oAdd (.lst ([.int s] ++ rowD N y)) (.lst (rowD R w)) = .ok (.ow (rowD (1 + N + R) (jn N s y w))) := by
    rw [ad _ _ (by simp; omega), jn_row]
  have low := m_low (N := 1 + N + R) (f := jn N s y w) (by omega) fun i hi => by
    unfold jn
    split
    · split
      · exact hs
      · exact hy _ (by omega)
    · exact hw _ (by omega)
  have t4 : ∀ a b c d : DL.D, oTupD [a, b, c, d] = .ok (.fz (.tup [a, b, c, d])) := fun a b c d => by unfold oTupD; rw [if_pos (by simp; omega)]
  have i0 : atI (rowD (1 + N + R) (lowF (1 + N + R) (jn N s y w))) 0 = some (.int (lowF (1 + N + R) (jn N s y w) 0)) := ix_row (j := 0) (by omega)
  have s1 : oSl (.tup (rowD (1 + N + R) (lowF (1 + N + R) (jn N s y w)))) (some 1) (some ((N : Int) + 1)) = .ok (.fz (.tup (rowD N fun i => lowF (1 + N + R) (jn N s y w) (i + 1)))) := by
    show DL.M.ok (Rs.fz (.tup (cutD _ (some ((1 : Nat) : Int)) (some ((N : Int) + 1))))) = _
    have e : (N : Int) + 1 = ((N + 1 : Nat) : Int) := by omega
    rw [e, cut_row (by omega) (by omega)]
    rfl
  have s2 : oSl (.tup (rowD (1 + N + R) (lowF (1 + N + R) (jn N s y w)))) (some ((N : Int) + 1)) none = .ok (.fz (.tup (rowD R fun i => lowF (1 + N + R) (jn N s y w) (i + (N + 1))))) := by
    show DL.M.ok (Rs.fz (.tup (cutD _ (some ((N : Int) + 1)) none))) = _
    have e : (N : Int) + 1 = ((N + 1 : Nat) : Int) := by omega
    rw [e, cut_row_end (by omega)]
    have : 1 + N + R - (N + 1) = R := by omega
    rw [this]
  have e3' : ∀ (g : DL.D → Option Int → Option Int → DL.M Rs) (f : DL.Env → DL.M Rs) (l u : DL.Env → DL.M (Option Int)) (env : DL.Env), e3o g f l u env = (f env >>= fun r => l env >>= fun a => u env >>= fun b => pureM (g r.d a b)) := fun _ _ _ _ _ => rfl
  have ps : ∀ (f : DL.Env → DL.M Rs) (env : DL.Env), pSome f env = (f env >>= fun r => asI r) := fun _ _ => rfl
  have ai : ∀ i : Int, asI (.fz (.int i)) = .ok (some i) := fun _ => rfl
  have pn : ∀ env : DL.Env, pNo env = .ok none := fun _ => rfl
  have fz : ∀ (d : DL.D) (env : DL.Env), frzIf (.fz (.tup (rowD (1 + N + R) (lowF (1 + N + R) (jn N s y w))))) [6, 8, 7] env = env := fun d env => by
    unfold frzIf
    have : Rs.nol (.fz (.tup (rowD (1 + N + R) (lowF (1 + N + R) (jn N s y w))))) = true := nol_row
    rw [if_pos this]
  unfold lEnd
  simp only [ev_seq, ev_if, ev_tV, ev_e2, ev_vs, ev_v0f, ev_bok, ev_c, ev_rfz, ev_copEq, ev_eqS, nst, decide_false, ev_pok, ev_asB, ev_ofM, Bool.false_eq_true, if_false, ev_next, ev_tn, ev_set, ev_eA, ev_aCons, ev_aNil, l1, ev_row, a1, a2, oCal, List.length_cons, List.length_nil, if_true, low, fz .non, ev_sfz, List.set, ev_ret, ev_ixT, i0, ev_oR, e3', ps, ai, pn, ev_add, s1, s2, t4]
end PG
end

section
set_option maxRecDepth 100000
set_option maxHeartbeats 1000000
namespace PG
open L2 DL
theorem frz_cases' (r : DL.Rs) (A : List Nat) (env : DL.Env) : frzIf r A env = env ∨ frzIf r A env = fzAll A env := by
  unfold frzIf; split
  · exact .inl rfl
  · exact .inr rfl
theorem least_is {R N K : Nat} {W : Nat → Nat → Int} {g l : Nat → Int} {c : List DL.D → DL.D} {dg : DL.D} (hc : ∀ ds, oList [c ds] = .ok (.ow ds)) (hdg : Sq dg (rowD N l)) (hR : R < 200000) (hN : N < 200000) (hK : 1 ≤ K) (hW : ∀ k, k < R → ∀ i, i < N → (W k i).natAbs ≤ K) (hg : ∀ k, k < R → (g k).natAbs ≤ K)
    (hl0 : ∀ i, i < N → 0 ≤ l i) (hl : ∀ i, i < N → (l i).natAbs ≤ K) (hB : (Sx.fac (N + 1) * K ^ (N + 1)).log2 < 9000) :
    ∃ d, m_least [dg, .lst (rowsI R N W g c), .int N] = .ok (.fz d) ∧ LeastIs R N W g l (Sx.fac (N + 1) * K ^ (N + 1)) d := by
  have ok : ClOk (csOf R N W) (gsOf N l) (gsOf R g) := cl_ok hK hW hl0 hl hg (by omega) (by omega) hB
  obtain ⟨fin, e, fo⟩ := climb_ok ok
  rw [cs_rows, gs_row, gs_row] at e
  have hn : (lpOf (csOf R N W) (gsOf N l) (gsOf R g)).n = R := lp_n
  have hm : (lpOf (csOf R N W) (gsOf N l) (gsOf R g)).m = N := lp_m
  have la : ∀ i, i < (lpOf (csOf R N W) (gsOf N l) (gsOf R g)).m → ∀ j, j < (lpOf (csOf R N W) (gsOf N l) (gsOf R g)).n → (lpOf (csOf R N W) (gsOf N l) (gsOf R g)).a i j = W j i := fun i hi j hj => lp_a (by omega) (by omega)
  have lg : ∀ j, j < (lpOf (csOf R N W) (gsOf N l) (gsOf R g)).n → (lpOf (csOf R N W) (gsOf N l) (gsOf R g)).g j = g j := fun j hj => lp_g (by omega)
  have ll : ∀ i, i < (lpOf (csOf R N W) (gsOf N l) (gsOf R g)).m → (lpOf (csOf R N W) (gsOf N l) (gsOf R g)).l i = l i := fun i hi => lp_l (by omega)
  have hT := fun s => Sx.T_small (P := lpOf (csOf R N W) (gsOf N l) (gsOf R g)) hK (fun i hi j hj => by rw [la i hi j hj]; exact hW j (by omega) i (by omega)) (fun i hi => by rw [ll i hi]; exact hl i (by omega)) (fun j hj => by rw [lg j hj]; exact hg j (by omega)) s
  have hS := fun s => Sx.sc_small (P := lpOf (csOf R N W) (gsOf N l) (gsOf R g)) hK (fun i hi j hj => by rw [la i hi j hj]; exact hW j (by omega) i (by omega)) (fun i hi => by rw [ll i hi]; exact hl i (by omega)) (fun j hj => by rw [lg j hj]; exact hg j (by omega)) s
  have hm' : Sx.fac ((lpOf (csOf R N W) (gsOf N l) (gsOf R g)).m + 1) * K ^ ((lpOf (csOf R N W) (gsOf N l) (gsOf R g)).m + 1) = Sx.fac (N + 1) * K ^ (N + 1) := by rw [hm]
  simp only [hm'] at hT hS
  generalize hP : lpOf (csOf R N W) (gsOf N l) (gsOf R g) = P at *
  have hcols : lCols [.fz dg, .fz (.lst (rowsI R N W g c)), .fz (.int N), .un, .un, .un, .un, .un, .un, .un, .un] = .ok (.ow ((List.range R).map fun k => D.lst (rowD N (W k)))) := by
    refine ev_lc (ds := rowsI R N W g c) (by simp) (by simp) ?_ (.inr (by simp; omega))
    refine lcL_map (List.range R) _ _ fun k hk => ⟨_, .ow (rowD N (W k)), rfl, rfl, ?_, rfl⟩
    simp [wipeE, hc]
  have hgains : ∀ s3 s0 : DL.Sl, lGains [s0, .fz (.lst (rowsI R N W g c)), .fz (.int N), s3, .un, .un, .un, .un, .un, .un, .un] = .ok (.ow (rowD R g)) := fun s3 s0 => by
    refine ev_lc (ds := rowsI R N W g c) (by simp) (by simp) ?_ (.inr (by simp; omega))
    refine lcL_map (List.range R) _ _ fun k hk => ⟨_, .fz (.int (g k)), rfl, rfl, ?_, rfl⟩
    simp [wipeE]
  have hb : b_least = (sSeq (sSet 3 (List.range 64) lCols) (sSeq (sSet 4 (List.range 64) lGains) (sSeq (sAsg [3, 0, 4] (nTup 4 (nCons (nName 5) (nCons (nName 6) (nCons (nName 7) (nCons (nName 8) nNil))))) (eA (oCal 3 m_climb) (aCons (eVar 3) (aCons (eA oList (aCons (eVar 0) aNil)) (aCons (eVar 4) aNil))))) lEnd))) := rfl
  have ol : oList [dg] = .ok (.ow (rowD N l)) := by rcases hdg with rfl | rfl <;> rfl
  have fz0 : ∀ (ds : List DL.D), frzIf (.ow ds) (List.range 64) [.fz dg, .fz (.lst (rowsI R N W g c)), .fz (.int N), .un, .un, .un, .un, .un, .un, .un, .un] = [.fz dg, .fz (.lst (rowsI R N W g c)), .fz (.int N), .un, .un, .un, .un, .un, .un, .un, .un] := fun ds => by
    rcases frz_cases' (.ow ds) (List.range 64) [.fz dg, .fz (.lst (rowsI R N W g c)), .fz (.int N), .un, .un, .un, .un, .un, .un, .un, .un] with e | e <;> rw [e]
    rw [frzAll_map _ _ (by simp)]; rfl
  have fin4 : ∀ (a b x y : DL.D) (s3 s4 : DL.Sl), ∃ t3 t4 : DL.Sl, ofO (nTup 4 (nCons (nName 5) (nCons (nName 6) (nCons (nName 7) (nCons (nName 8) nNil)))) (.tup [a, b, x, y]) (frzIf (.fz (.tup [a, b, x, y])) [3, 0, 4] [.fz dg, .fz (.lst (rowsI R N W g c)), .fz (.int N), s3, s4, .un, .un, .un, .un, .un, .un])) = .nx [.fz dg, .fz (.lst (rowsI R N W g c)), .fz (.int N), t3, t4, .fz a, .fz b, .fz x, .fz y, .un, .un] := fun a b x y s3 s4 => by
    rcases frz_cases' (.fz (.tup [a, b, x, y])) [3, 0, 4] [.fz dg, .fz (.lst (rowsI R N W g c)), .fz (.int N), s3, s4, .un, .un, .un, .un, .un, .un] with e | e <;> rw [e]
    · exact ⟨_, _, rfl⟩
    · exact ⟨_, _, rfl⟩
  have start : ∀ a b x y : DL.D, finD P fin = .tup [a, b, x, y] → ∃ t3 t4 : DL.Sl, b_least (startE 11 [dg, .lst (rowsI R N W g c), .int N]) = lEnd [.fz dg, .fz (.lst (rowsI R N W g c)), .fz (.int N), t3, t4, .fz a, .fz b, .fz x, .fz y, .un, .un] := fun a b x y ef => by
    rw [ef] at e
    obtain ⟨t3, t4, h⟩ := fin4 a b x y (.ow ((List.range R).map fun k => D.lst (rowD N (W k)))) (.ow (rowD R g))
    refine ⟨t3, t4, ?_⟩
    rw [hb]
    show sSeq _ _ [.fz dg, .fz (.lst (rowsI R N W g c)), .fz (.int N), .un, .un, .un, .un, .un, .un, .un, .un] = _
    simp only [ev_seq, ev_set, hcols, ev_ofM, fz0, ev_sow, List.set, ev_tn, hgains, ev_frzRow, ev_asg, ev_eA, ev_aCons, ev_vs, ev_v0o, ev_v0f, ev_bok, ev_rfz, ev_row, ev_aNil, ol, ev_pok, oCal, List.length_cons, List.length_nil, e, if_true, h]
  cases fo with
  | @top s hI h =>
    obtain ⟨t3, t4, st⟩ := start _ _ _ _ rfl
    have T := top_least hI h la lg ll
    rw [hn, hm] at T
    have yb : ∀ p, p < N → (s.yOf P p).natAbs ≤ Sx.fac (N + 1) * K ^ (N + 1) := fun p hp => y_abs hI (hT s) (by omega)
    have xb : ∀ k, k < R → (s.xOf P k).natAbs ≤ Sx.fac (N + 1) * K ^ (N + 1) := fun k hk => x_abs hI (hT s) (by omega)
    have en := lEnd_top (e0 := .fz dg) (e1 := .fz (.lst (rowsI R N W g c))) (e3 := t3) (e4 := t4) (R := R) (N := N) (s := s.sc P) (y := s.yOf P) (w := s.xOf P) (by omega) (by omega) (small_of (K := 0) (hS s) hB) (fun p hp => small_of (K := 0) (yb p hp) hB) (fun k hk => small_of (K := 0) (xb k hk) hB)
    rw [hn, hm] at st
    obtain ⟨q, hq, eq⟩ := low_eq (N := 1 + N + R) (f := jn N (s.sc P) (s.yOf P) (s.xOf P))
    have e0 : jn N (s.sc P) (s.yOf P) (s.xOf P) 0 = s.sc P := by simp only [jn]; rw [if_pos (by omega), if_pos (by omega)]
    have e1 : ∀ p, p < N → jn N (s.sc P) (s.yOf P) (s.xOf P) (p + 1) = s.yOf P p := fun p hp => by simp only [jn]; rw [if_pos (by omega), if_neg (by omega)]; rfl
    have e2 : ∀ k, k < R → jn N (s.sc P) (s.yOf P) (s.xOf P) (k + (N + 1)) = s.xOf P k := fun k hk => by
      simp only [jn]; rw [if_neg (by omega)]; congr 1; omega
    have L := least_low hq T (s' := lowF (1 + N + R) (jn N (s.sc P) (s.yOf P) (s.xOf P)) 0) (y' := fun i => lowF (1 + N + R) (jn N (s.sc P) (s.yOf P) (s.xOf P)) (i + 1)) (w' := fun i => lowF (1 + N + R) (jn N (s.sc P) (s.yOf P) (s.xOf P)) (i + (N + 1)))
      (by rw [← eq 0 (by omega), e0]) (fun p hp => by rw [← eq (p + 1) (by omega), e1 p hp]) (fun k hk => by rw [← eq (k + (N + 1)) (by omega), e2 k hk])
    refine ⟨_, runD_ok (by rw [st, en]), .least L (fun d h1 h2 h3 => ?_) ?_ (fun p hp => ?_) (fun k hk => ?_)⟩
    · have hg2 := low_gcd (N := 1 + N + R) (f := jn N (s.sc P) (s.yOf P) (s.xOf P))
      have hd : d ∣ gcdN (lowF (1 + N + R) (jn N (s.sc P) (s.yOf P) (s.xOf P))) (1 + N + R) := dvd_gcdN fun i hi => by
        by_cases i0 : i = 0
        · subst i0; exact h1
        · by_cases i1 : i < 1 + N
          · have := h2 (i - 1) (by omega)
            have e : i - 1 + 1 = i := by omega
            rwa [e] at this
          · have := h3 (i - (N + 1)) (by omega)
            have e : i - (N + 1) + (N + 1) = i := by omega
            rwa [e] at this
      have hne : gcdN (lowF (1 + N + R) (jn N (s.sc P) (s.yOf P) (s.xOf P))) (1 + N + R) ≠ 0 := fun hz => by
        have := gcd_dvd (f := lowF (1 + N + R) (jn N (s.sc P) (s.yOf P) (s.xOf P))) (N := 1 + N + R) (i := 0) (by omega)
        rw [hz] at this
        have z := Nat.eq_zero_of_zero_dvd this
        have := L.s1
        omega
      have : gcdN (lowF (1 + N + R) (jn N (s.sc P) (s.yOf P) (s.xOf P))) (1 + N + R) = 1 := by omega
      rw [this] at hd
      exact Nat.dvd_one.mp hd
    · exact Nat.le_trans (low_abs (by omega)) (by rw [e0]; exact hS s)
    · exact Nat.le_trans (low_abs (by omega)) (by rw [e1 p hp]; exact yb p hp)
    · exact Nat.le_trans (low_abs (by omega)) (by rw [e2 k hk]; exact xb k hk)
  | @ray s c' hI hE h =>
    obtain ⟨t3, t4, st⟩ := start _ _ _ _ rfl
    have T := ray_misses hI hE h la lg
    rw [hn, hm] at T
    have wb : ∀ k, k < R → (s.wOf P c' k).natAbs ≤ Sx.fac (N + 1) * K ^ (N + 1) := fun k hk => w_abs hI (hT s) (hS s) hE.lt (by omega)
    have low := m_low (N := R) (f := s.wOf P c') (by omega) fun k hk => small_of (K := 0) (wb k hk) hB
    have t2 : ∀ a b : DL.D, oTupD [a, b] = .ok (.fz (.tup [a, b])) := fun a b => by unfold oTupD; rw [if_pos (by have := sz; simp; omega)]
    refine ⟨_, runD_ok (r := .fz (.tup [.str "none", .tup (rowD R (lowF R (s.wOf P c')))])) ?_, .none (misses_low T) low_gcd fun k hk => Nat.le_trans (low_abs hk) (wb k hk)⟩
    rw [st]
    unfold lEnd
    rw [hn] 
    simp [oCal, low, t2]
end PG
end

section
set_option maxRecDepth 100000
set_option maxHeartbeats 1000000
/-! What shows_least says. -/
namespace PG
open L2 DL
def Sml (x : Int) : Prop := x.natAbs.log2 < 9000
theorem says_dotM {d1 d2 : DL.D} {N : Nat} {f g : Nat → Int} (hN : N < 1000000) (h1 : Sq d1 (rowD N f)) (h2 : Sq d2 (rowD N g)) (hm : ∀ i, i < N → mulOk (f i) (g i) = true) : m_dot [d1, d2] = .ok (.fz (.int (dotF N f g))) := by
  refine runD_ok ?_
  have hl : eLc [2, 3] (iA oZip (aCons (eVar 0) (aCons (eVar 1) aNil))) (nTup 2 (nCons (nName 2) (nCons (nName 3) nNil))) tYesD (e2 oMul (eVar 2) (eVar 3)) [.fz d1, .fz d2, .un, .un] = .ok (.ow (rowD N fun i => f i * g i)) := by
    refine ev_lc (ds := (List.range N).map fun j => D.tup [.int (f j), .int (g j)]) (by simp) ?_ ?_ (.inr (by simpa using hN))
    · simp [oZip, h1.seq, h2.seq, zip_rows]
    · refine lcL_map (List.range N) _ (fun j => .int (f j * g j)) fun j hj => ?_
      have hj := List.mem_range.mp hj
      refine ⟨_, .fz (.int (f j * g j)), rfl, rfl, ?_, rfl⟩
      simp [wipeE, ev_mul (hm j hj)]
  show b_dot [.fz d1, .fz d2, .un, .un] = _
  unfold b_dot
  simp only [ev_ret, ev_eA, ev_aCons, hl, ev_bok, ev_row, ev_aNil, sum_row, ev_pok, ev_ofM]
  rfl
theorem min_1 {d : DL.D} {N : Nat} {f : Nat → Int} (hN : 1 ≤ N) (h : Sq d (rowD N f)) : ∃ m, oMin [d] = .ok (.fz (.int m)) ∧ (m < 0 ↔ ∃ p, p < N ∧ f p < 0) := by
  have h0 : (List.range N).map f ≠ [] := by
    intro h
    have : N = 0 := by simpa using h
    omega
  refine ⟨minI ((List.range N).map f), ?_, ?_⟩
  · have e : oMin1 [d] = .ok (.fz (.int (minI ((List.range N).map f)))) := by
      show ofInts _ d = _
      rw [h.ints, toInts_row]
      simp only
      rw [if_neg h0]
    show DL.orM (oMin1 [d]) (oMin2 [d]) = _
    rw [e]; rfl
  · constructor
    · intro hm
      obtain ⟨p, hp, e⟩ := List.mem_map.mp (minI_mem h0)
      exact ⟨p, List.mem_range.mp hp, by omega⟩
    · rintro ⟨p, hp, hf⟩
      have := minI_le (ns := (List.range N).map f) (f p) (List.mem_map.mpr ⟨p, List.mem_range.mpr hp, rfl⟩)
      omega
end PG
end

section
set_option maxRecDepth 100000
set_option maxHeartbeats 1000000
namespace PG
open L2 DL
def slB1 : DL.Env → DL.So := (sIf [5, 3, 6, 2] (tV (e2 (cop .Lt) (eA (oCal 2 m_dot) (aCons (eVar 5) (aCons (eVar 3) aNil))) (e2 oMul (eVar 6) (eVar 2)))) (sRet [] (eC (.bl false))) sNext)
def slC1 : DL.Env → DL.M Rs := eLc [5, 6, 9] (iA oZip (aCons (eVar 1) (aCons (eVar 4) aNil))) (nTup 2 (nCons (nTup 2 (nCons (nName 5) (nCons (nName 6) nNil))) (nCons (nName 9) nNil))) tYesD (e2 oMul (eVar 9) (e2 oIx (eVar 5) (eVar 7)))
def slC2 : DL.Env → DL.M Rs := eLc [5, 6, 9] (iA oZip (aCons (eVar 1) (aCons (eVar 4) aNil))) (nTup 2 (nCons (nTup 2 (nCons (nName 5) (nCons (nName 6) nNil))) (nCons (nName 9) nNil))) tYesD (e2 oMul (eVar 9) (eVar 6))
def slB2 : DL.Env → DL.So := (sSeq (sSet 8 (List.range 64) (eA oSum (aCons slC1 aNil))) (sIf [8, 0, 7, 2] (tV (e2 (cop .Gt) (eVar 8) (e2 oMul (e2 oIx (eVar 0) (eVar 7)) (eVar 2)))) (sRet [] (eC (.bl false))) sNext))
def slEnd : DL.Env → DL.So := (sRet ([0, 3] ++ List.range 64) (e2 (cop .Eq) (eA (oCal 2 m_dot) (aCons (eVar 0) (aCons (eVar 3) aNil))) (eA oSum (aCons slC2 aNil))))
theorem zip_rowsI {R N : Nat} {W : Nat → Nat → Int} {g f : Nat → Int} {c : List DL.D → DL.D} : (rowsI R N W g c).zip (rowD R f) = (List.range R).map fun k => (D.tup [c (rowD N (W k)), .int (g k)], D.int (f k)) := by
  simp only [rowsI, rowD]
  induction List.range R with
  | nil => rfl
  | cons x xs ih => simp [ih]
section
variable {R N : Nat} {W : Nat → Nat → Int} {g l : Nat → Int} {c : List DL.D → DL.D} {dg dy dw : DL.D} {s : Int} {y w : Nat → Int}
theorem e_slC1 {p : Nat} {o5 o6 o8 : DL.Sl} (hR : R < 1000000) (hc : ∀ ds, Sq (c ds) ds) (hw : Sq dw (rowD R w)) (hp : p < N) (hW : ∀ k, k < R → ∀ i, i < N → Sml (W k i)) (sw : ∀ k, k < R → Sml (w k)) : slC1 [.fz dg, .fz (.lst (rowsI R N W g c)), .fz (.int s), .fz dy, .fz dw, o5, o6, .fz (.int p), o8, .un] = .ok (.ow (rowD R fun k => w k * W k p)) := by
  refine ev_lc (ds := (List.range R).map fun k => D.tup [.tup [c (rowD N (W k)), .int (g k)], .int (w k)]) (by simp) ?_ ?_ (.inr (by simpa using hR))
  · simp [oZip, hw.seq, (Sq.l (rowsI R N W g c)).seq, zip_rowsI]
  · refine lcL_map (List.range R) _ (fun k => .int (w k * W k p)) fun k hk => ?_
    have hk := List.mem_range.mp hk
    refine ⟨_, .fz (.int (w k * W k p)), rfl, rfl, ?_, rfl⟩
    simp [wipeE, mul_ok (sw k hk) (hW k hk p hp), (hc _).ix, ix_row hp]
theorem e_slC2 {o5 o6 o7 o8 : DL.Sl} (hR : R < 1000000) (hw : Sq dw (rowD R w)) (sg : ∀ k, k < R → Sml (g k)) (sw : ∀ k, k < R → Sml (w k)) : slC2 [.fz dg, .fz (.lst (rowsI R N W g c)), .fz (.int s), .fz dy, .fz dw, o5, o6, o7, o8, .un] = .ok (.ow (rowD R fun k => w k * g k)) := by
  refine ev_lc (ds := (List.range R).map fun k => D.tup [.tup [c (rowD N (W k)), .int (g k)], .int (w k)]) (by simp) ?_ ?_ (.inr (by simpa using hR))
  · simp [oZip, hw.seq, (Sq.l (rowsI R N W g c)).seq, zip_rowsI]
  · refine lcL_map (List.range R) _ (fun k => .int (w k * g k)) fun k hk => ?_
    have hk := List.mem_range.mp hk
    refine ⟨_, .fz (.int (w k * g k)), rfl, rfl, ?_, rfl⟩
    simp [wipeE, mul_ok (sw k hk) (sg k hk)]
end
end PG
end

section
set_option maxRecDepth 100000
set_option maxHeartbeats 1000000
namespace PG
open L2 DL
section
variable {R N Ny Mw : Nat} {W : Nat → Nat → Int} {g l : Nat → Int} {c : List DL.D → DL.D} {dg dy dw : DL.D} {s : Int} {y w : Nat → Int}
theorem says_shows_least (hR : R < 1000000) (hN0 : 1 ≤ N) (hN : N < 1000000) (hc : ∀ ds, Sq (c ds) ds) (hdg : Sq dg (rowD N l)) (hy : Sq dy (rowD Ny y)) (hw : Sq dw (rowD Mw w))
    (sW : ∀ k, k < R → ∀ i, i < N → Sml (W k i)) (sg : ∀ k, k < R → Sml (g k)) (sl : ∀ i, i < N → Sml (l i)) (ss : Sml s) (sy : ∀ i, i < Ny → Sml (y i)) (sw : ∀ k, k < Mw → Sml (w k)) :
    Says (m_shows_least [dg, .lst (rowsI R N W g c), .int s, dy, dw]) (Ny = N ∧ Mw = R ∧ Least R N W g l s y w) := by
  have hb : b_shows_least = (sSeq (sIf [2, 3, 0, 4, 1] (tO (tV (e2 (cop .Lt) (eVar 2) (eC (.int 1)))) (tO (tV (e2 (cop .NotEq) (eA oLen (aCons (eVar 3) aNil)) (eA oLen (aCons (eVar 0) aNil)))) (tV (e2 (cop .NotEq) (eA oLen (aCons (eVar 4) aNil)) (eA oLen (aCons (eVar 1) aNil)))))) (sRet [] (eC (.bl false))) sNext) (sSeq (sIf [3, 4] (tO (tV (e2 (cop .Lt) (eA oMin (aCons (eVar 3) aNil)) (eC (.int 0)))) (tV (e2 (cop .Lt) (e2 oMinDf (eVar 4) (eC (.int 0))) (eC (.int 0))))) (sRet [] (eC (.bl false))) sNext) (sSeq (sFor [1] (iE iterA (eVar 1)) (nTup 2 (nCons (nName 5) (nCons (nName 6) nNil))) slB1) (sSeq (sFor [0] (iA oRng1 (aCons (eA oLen (aCons (eVar 0) aNil)) aNil)) (nName 7) slB2) slEnd)))) := rfl
  have fals : ∀ {P : Prop}, ¬ P → (false = true ↔ P) := fun h => by simp [h]
  by_cases hNy : Ny = N
  · subst hNy
    by_cases hMw : Mw = R
    · subst hMw
      by_cases hs1 : s < 1
      · refine ⟨false, runD_ok ?_, fals fun h => by have := h.2.2.s1; omega⟩
        rw [hb]
        simp [startE, hs1]
      · obtain ⟨m1, a1, a2⟩ := min_1 hN0 hy
        obtain ⟨m2, b1, b2⟩ := min_df hw
        by_cases hm1 : m1 < 0
        · refine ⟨false, runD_ok ?_, fals fun h => ?_⟩
          · rw [hb]
            simp [startE, hs1, hy.len, hdg.len, hw.len, a1, hm1]
          · obtain ⟨p, hp, hf⟩ := a2.mp hm1
            have := h.2.2.ynn p hp
            omega
        · by_cases hm2 : m2 < 0
          · refine ⟨false, runD_ok ?_, fals fun h => ?_⟩
            · rw [hb]
              simp [startE, hs1, hy.len, hdg.len, hw.len, a1, hm1, b1, hm2]
            · obtain ⟨p, hp, hf⟩ := b2.mp hm2
              have := h.2.2.wnn p hp
              omega
          · have ynn : ∀ p, p < Ny → 0 ≤ y p := fun p hp => Int.not_lt.mp fun h => hm1 (a2.mpr ⟨p, hp, h⟩)
            have wnn : ∀ p, p < Mw → 0 ≤ w p := fun p hp => Int.not_lt.mp fun h => hm2 (b2.mpr ⟨p, hp, h⟩)
            have loop1 := forL_gen (t := nTup 2 (nCons (nName 5) (nCons (nName 6) nNil))) (body := slB1) (ds := rowsI Mw Ny W g c) (env := [.fz dg, .fz (.lst (rowsI Mw Ny W g c)), .fz (.int s), .fz dy, .fz dw, .un, .un, .un, .un, .un])
              (fun i e => (∀ k, k < i → g k * s ≤ dotF Ny (W k) y) ∧ ∃ o5 o6, e = [.fz dg, .fz (.lst (rowsI Mw Ny W g c)), .fz (.int s), .fz dy, .fz dw, o5, o6, .un, .un, .un])
              (fun z => (z = .rt (.fz (.bl false)) ∧ ¬ Least Mw Ny W g l s y w) ∨ ∃ o5 o6, z = .nx [.fz dg, .fz (.lst (rowsI Mw Ny W g c)), .fz (.int s), .fz dy, .fz dw, o5, o6, .un, .un, .un] ∧ ∀ k, k < Mw → g k * s ≤ dotF Ny (W k) y)
              ⟨fun k hk => by omega, _, _, rfl⟩ (by
                rintro i dd e hdd ⟨good, o5, o6, rfl⟩
                obtain ⟨hi, rfl⟩ := rowsI_at hdd
                have dv := says_dotM hN (hc (rowD Ny (W i))) hy (fun j hj => mul_small (sW i hi j hj) (sy j hj))
                have mg := mul_ok (sg i hi) ss
                refine ⟨_, rfl, ?_⟩
                show _ ∨ _
                by_cases q : dotF Ny (W i) y < g i * s
                · refine .inr (.inl ⟨_, ?_, .inl ⟨rfl, fun h => by have := h.reach i hi; omega⟩⟩)
                  unfold slB1
                  simp [oCal, dv, mg, q]
                · refine .inl ⟨[.fz dg, .fz (.lst (rowsI Mw Ny W g c)), .fz (.int s), .fz dy, .fz dw, .fz (c (rowD Ny (W i))), .fz (.int (g i)), .un, .un, .un], .inl ?_, fun k hk => ?_, _, _, rfl⟩
                  · unfold slB1
                    simp [oCal, dv, mg, q]
                  · by_cases hki : k = i
                    · rw [hki]; omega
                    · exact good k (by omega))
              (fun e ⟨good, o5, o6, he⟩ => .inr ⟨o5, o6, by rw [he], fun k hk => good k (by simpa using hk)⟩)
            have start : b_shows_least (startE 10 [dg, .lst (rowsI Mw Ny W g c), .int s, dy, dw]) = (forL (nTup 2 (nCons (nName 5) (nCons (nName 6) nNil))) slB1 (rowsI Mw Ny W g c) [.fz dg, .fz (.lst (rowsI Mw Ny W g c)), .fz (.int s), .fz dy, .fz dw, .un, .un, .un, .un, .un]).andThen (sSeq (sFor [0] (iA oRng1 (aCons (eA oLen (aCons (eVar 0) aNil)) aNil)) (nName 7) slB2) slEnd) := by
              rw [hb]
              simp [startE, hs1, hy.len, hdg.len, hw.len, a1, hm1, b1, hm2]
            rcases loop1 with ⟨l1, nk⟩ | ⟨o5, o6, l1, reach⟩
            · exact ⟨false, runD_ok (by rw [start, l1]; simp), fals fun h => nk h.2.2⟩
            · have loop2 := forL_gen (t := nName 7) (body := slB2) (ds := rgD Ny) (env := [.fz dg, .fz (.lst (rowsI Mw Ny W g c)), .fz (.int s), .fz dy, .fz dw, o5, o6, .un, .un, .un])
                (fun i e => (∀ p, p < i → dotF Mw w (fun k => W k p) ≤ l p * s) ∧ ∃ o7 o8, e = [.fz dg, .fz (.lst (rowsI Mw Ny W g c)), .fz (.int s), .fz dy, .fz dw, o5, o6, o7, o8, .un])
                (fun z => (z = .rt (.fz (.bl false)) ∧ ¬ Least Mw Ny W g l s y w) ∨ ∃ o7 o8, z = .nx [.fz dg, .fz (.lst (rowsI Mw Ny W g c)), .fz (.int s), .fz dy, .fz dw, o5, o6, o7, o8, .un] ∧ ∀ p, p < Ny → dotF Mw w (fun k => W k p) ≤ l p * s)
                ⟨fun k hk => by omega, _, _, rfl⟩ (by
                  rintro i dd e hdd ⟨good, o7, o8, rfl⟩
                  obtain ⟨hi, rfl⟩ := rng_get hdd
                  have cv := e_slC1 (g := g) (s := s) (dg := dg) (dy := dy) (o5 := o5) (o6 := o6) (o8 := o8) hR hc hw hi sW sw
                  have ml := mul_ok (sl i hi) ss
                  have ig : oIx dg (.int i) = .ok (.fz (.int (l i))) := by rw [hdg.ix, ix_row hi]; rfl
                  refine ⟨_, rfl, ?_⟩
                  show _ ∨ _
                  by_cases q : l i * s < dotF Mw w (fun k => W k i)
                  · have q' : l i * s < Sx.sm Mw (fun k => w k * W k i) := q
                    refine .inr (.inl ⟨_, ?_, .inl ⟨rfl, fun h => by have := h.within i hi; omega⟩⟩)
                    unfold slB2
                    simp [cv, ig, ml, q']
                  · have q' : ¬ l i * s < Sx.sm Mw (fun k => w k * W k i) := q
                    refine .inl ⟨[.fz dg, .fz (.lst (rowsI Mw Ny W g c)), .fz (.int s), .fz dy, .fz dw, o5, o6, .fz (.int i), .fz (.int (Sx.sm Mw fun k => w k * W k i)), .un], .inl ?_, fun k hk => ?_, _, _, rfl⟩
                    · unfold slB2
                      simp [cv, ig, ml, q']
                    · by_cases hki : k = i
                      · rw [hki]; omega
                      · exact good k (by omega))
                (fun e ⟨good, o7, o8, he⟩ => .inr ⟨o7, o8, by rw [he], fun k hk => good k (by simpa using hk)⟩)
              have go : (sSeq (sFor [0] (iA oRng1 (aCons (eA oLen (aCons (eVar 0) aNil)) aNil)) (nName 7) slB2) slEnd) [.fz dg, .fz (.lst (rowsI Mw Ny W g c)), .fz (.int s), .fz dy, .fz dw, o5, o6, .un, .un, .un] = (forL (nName 7) slB2 (rgD Ny) [.fz dg, .fz (.lst (rowsI Mw Ny W g c)), .fz (.int s), .fz dy, .fz dw, o5, o6, .un, .un, .un]).andThen slEnd := by
                simp [hdg.len, rng1 hN]
              rcases loop2 with ⟨l2, nk⟩ | ⟨o7, o8, l2, within⟩
              · exact ⟨false, runD_ok (by rw [start, l1, ev_tn, go, l2]; simp), fals fun h => nk h.2.2⟩
              · have c2 := e_slC2 (N := Ny) (W := W) (c := c) (s := s) (dg := dg) (dy := dy) (o5 := o5) (o6 := o6) (o7 := o7) (o8 := o8) hR hw sg sw
                have dv := says_dotM hN hdg hy (fun j hj => mul_small (sl j hj) (sy j hj))
                refine ⟨decide (dotF Ny l y = dotF Mw w g), runD_ok ?_, ?_⟩
                · rw [start, l1, ev_tn, go, l2, ev_tn]
                  unfold slEnd
                  simp only [ev_ret, ev_e2, ev_eA, ev_aCons, ev_vs, ev_v0f, ev_bok, ev_rfz, ev_aNil, oCal, List.length_cons, List.length_nil, if_true, dv, ev_pok, c2, ev_row, sum_row, ev_copEq, ev_eqI, ev_ofM]
                  rfl
                · rw [decide_eq_true_eq]
                  exact ⟨fun h => ⟨rfl, rfl, by omega, ynn, wnn, reach, within, h⟩, fun h => h.2.2.total⟩
    · refine ⟨false, runD_ok ?_, fals fun h => hMw h.2.1⟩
      rw [hb]
      have : ¬ (Mw : Int) = R := by omega
      by_cases hs1 : s < 1
      · simp [startE, hs1]
      · simp [startE, hs1, hy.len, hdg.len, hw.len, this]
  · refine ⟨false, runD_ok ?_, fals fun h => hNy h.1⟩
    rw [hb]
    have : ¬ (Ny : Int) = N := by omega
    by_cases hs1 : s < 1
    · simp [startE, hs1]
    · simp [startE, hs1, hy.len, hdg.len, this]
end
end PG
end

section
set_option maxRecDepth 100000
set_option maxHeartbeats 1000000
namespace LW
open L2 DL PG
def b_law_numbers : DL.Env → DL.So :=
  (sSeq (sSet 2 [] (eA oLstD aNil)) (sSeq (sSet 3 [] (eC (.int 7))) (sSeq (sFor [0] (iA oRng1 (aCons (eA oMin (aCons (eA oLen (aCons (eVar 0) aNil)) (aCons (eC (.int 63)) aNil))) aNil)) (nName 4) (sSeq (sSet 5 [0, 4] (eA oInt (aCons (e2 oIx (eVar 0) (eVar 4)) aNil))) (sSeq (sSet 3 [3, 5, 4] (e2 oMod (eA oInt (aCons (e2 oAdd (e2 oAdd (e2 oMul (eVar 3) (eC (.int 48271))) (e2 oMul (eVar 5) (eC (.int 69621)))) (eVar 4)) aNil)) (eC (.int 2147483647)))) (sSeq (sIf [5] (tV (e2 (cop .Lt) (eVar 5) (eC (.int 0)))) (sSet 5 [5] (e2 oSub (eC (.int 1)) (e2 oMul (eC (.int 2)) (eVar 5)))) sNext) (sIf [5] (tV (e2 (cop .GtE) (eVar 5) (e2 oPow (eC (.int 10)) (eC (.int 18))))) (sFor [] (iA oRng1 (aCons (eC (.int 60)) aNil)) (nName 6) (sIf [5, 2, 1] (tAn (tV (e2 (cop .Gt) (eVar 5) (eC (.int 0)))) (tV (e2 (cop .Lt) (eA oLen (aCons (eVar 2) aNil)) (eVar 1)))) (sSeq (sApp 2 [5] (e2 oMod (eA oInt (aCons (eVar 5) aNil)) (eC (.int 1000)))) (sSet 5 [5] (e2 oDiv (eVar 5) (eC (.int 1000))))) sNext)) (sIf [2, 1] (tV (e2 (cop .Lt) (eA oLen (aCons (eVar 2) aNil)) (eVar 1))) (sApp 2 [5, 4] (e2 oMod (e2 oMod (eA oInt (aCons (e2 oMul (e2 oMod (eA oInt (aCons (e2 oAdd (e2 oMul (eVar 5) (eC (.int 48271))) (e2 oMul (eVar 4) (eC (.int 69621)))) aNil)) (eC (.int 2147483647))) (eC (.int 16807))) aNil)) (eC (.int 65537))) (eC (.int 1000)))) sNext)))))) (sSeq (sFor [1] (iA oRng1 (aCons (eVar 1) aNil)) (nName 4) (sIf [2, 1] (tV (e2 (cop .Lt) (eA oLen (aCons (eVar 2) aNil)) (eVar 1))) (sSeq (sSet 3 [3] (e2 oMod (eA oInt (aCons (e2 oAdd (e2 oMul (eVar 3) (eC (.int 16807))) (eC (.int 12345))) aNil)) (eC (.int 2147483647)))) (sApp 2 [3] (e2 oMod (eA oInt (aCons (e2 oDiv (eVar 3) (eC (.int 1000))) aNil)) (eC (.int 1000))))) sNext)) (sRetV 2)))))
def m_law_numbers (ds : List DL.D) : DL.M DL.Rs := pureM (runD 7 b_law_numbers ds)
def nIn : DL.Env → DL.So := (sIf [5, 2, 1] (tAn (tV (e2 (cop .Gt) (eVar 5) (eC (.int 0)))) (tV (e2 (cop .Lt) (eA oLen (aCons (eVar 2) aNil)) (eVar 1)))) (sSeq (sApp 2 [5] (e2 oMod (eA oInt (aCons (eVar 5) aNil)) (eC (.int 1000)))) (sSet 5 [5] (e2 oDiv (eVar 5) (eC (.int 1000))))) sNext)
def nOne : DL.Env → DL.So := (sIf [2, 1] (tV (e2 (cop .Lt) (eA oLen (aCons (eVar 2) aNil)) (eVar 1))) (sApp 2 [5, 4] (e2 oMod (e2 oMod (eA oInt (aCons (e2 oMul (e2 oMod (eA oInt (aCons (e2 oAdd (e2 oMul (eVar 5) (eC (.int 48271))) (e2 oMul (eVar 4) (eC (.int 69621)))) aNil)) (eC (.int 2147483647))) (eC (.int 16807))) aNil)) (eC (.int 65537))) (eC (.int 1000)))) sNext)
def nBig : DL.Env → DL.So := (sIf [5] (tV (e2 (cop .GtE) (eVar 5) (e2 oPow (eC (.int 10)) (eC (.int 18))))) (sFor [] (iA oRng1 (aCons (eC (.int 60)) aNil)) (nName 6) nIn) nOne)
def nCell : DL.Env → DL.So := (sSeq (sSet 5 [0, 4] (eA oInt (aCons (e2 oIx (eVar 0) (eVar 4)) aNil))) (sSeq (sSet 3 [3, 5, 4] (e2 oMod (eA oInt (aCons (e2 oAdd (e2 oAdd (e2 oMul (eVar 3) (eC (.int 48271))) (e2 oMul (eVar 5) (eC (.int 69621)))) (eVar 4)) aNil)) (eC (.int 2147483647)))) (sSeq (sIf [5] (tV (e2 (cop .Lt) (eVar 5) (eC (.int 0)))) (sSet 5 [5] (e2 oSub (eC (.int 1)) (e2 oMul (eC (.int 2)) (eVar 5)))) sNext) nBig)))
def nFill : DL.Env → DL.So := (sIf [2, 1] (tV (e2 (cop .Lt) (eA oLen (aCons (eVar 2) aNil)) (eVar 1))) (sSeq (sSet 3 [3] (e2 oMod (eA oInt (aCons (e2 oAdd (e2 oMul (eVar 3) (eC (.int 16807))) (eC (.int 12345))) aNil)) (eC (.int 2147483647)))) (sApp 2 [3] (e2 oMod (eA oInt (aCons (e2 oDiv (eVar 3) (eC (.int 1000))) aNil)) (eC (.int 1000))))) sNext)
/-- what is known of the numbers found -/
def Fd (M : Nat) (fs : List Int) : Prop := M < 1000 ∧ fs.length ≤ M ∧ ∀ x, x ∈ fs → 0 ≤ x ∧ x < 1000
theorem Fd.push {M : Nat} {fs : List Int} (h : Fd M fs) (hl : fs.length < M) (x : Int) : Fd M (fs ++ [x.fmod 1000]) := by
  refine ⟨h.1, by simp; omega, fun y hy => ?_⟩
  rcases List.mem_append.mp hy with h1 | h1
  · exact h.2.2 y h1
  · simp at h1
    subst h1
    rw [Int.fmod_eq_emod_of_nonneg _ (by omega)]
    omega
theorem ints_push (fs : List Int) (x : Int) : fs.map D.int ++ [D.int x] = (fs ++ [x]).map D.int := by simp
def E5 (M : Nat) (ns : List Int) (fs : List Int) (sd c : Int) (o4 o6 : DL.Sl) : DL.Env := [.fz (.scr ns), .fz (.int M), .ow (fs.map D.int), .fz (.int sd), o4, .fz (.int c), o6]
theorem szn {n : Nat} (h : n ≤ 1000) : n < PySem.sizeLine := by have := sz; omega
theorem d1000 {a : Int} : oDiv (.int a) (.int 1000) = .ok (.fz (.int (a.fdiv 1000))) := div_ok (by decide) (by decide)
theorem m1000 {a : Int} : oMod (.int a) (.int 1000) = .ok (.fz (.int (a.fmod 1000))) := ev_mod (by decide)
theorem nIn_ev {M : Nat} {ns fs : List Int} {sd c : Int} {o4 : DL.Sl} {d6 : DL.D} (h : Fd M fs) : ∃ fs' c', nIn (E5 M ns fs sd c o4 (.fz d6)) = .nx (E5 M ns fs' sd c' o4 (.fz d6)) ∧ Fd M fs' := by
  unfold nIn E5
  by_cases h1 : 0 < c
  · by_cases h2 : fs.length < M
    · refine ⟨fs ++ [c.fmod 1000], c.fdiv 1000, ?_, h.push h2 c⟩
      have h2' : (fs.length : Int) < M := by omega
      have hs := szn (n := fs.length) (by have := h.1; omega)
      simp only [ev_if, ev_tAn, ev_tV, ev_e2, ev_vs, ev_v0f, ev_v0o, ev_bok, ev_rfz, ev_row, ev_c, ev_copGt, ev_gt, ev_pok, ev_asB, h1, decide_true, if_true, ev_eA, ev_aCons, ev_aNil, ev_lenL, List.length_map, ev_copLt, ev_lt, h2', ev_ofM, ev_seq, ev_app, ev_ownS, ev_own0, ev_int, m1000, ev_frzInt, hs, List.set, ev_tn, ev_set, d1000, ev_sfz, ints_push]
    · refine ⟨fs, c, ?_, h⟩
      have h2' : ¬ (fs.length : Int) < M := by omega
      simp only [ev_if, ev_tAn, ev_tV, ev_e2, ev_vs, ev_v0f, ev_v0o, ev_bok, ev_rfz, ev_row, ev_c, ev_copGt, ev_gt, ev_pok, ev_asB, h1, decide_true, if_true, ev_eA, ev_aCons, ev_aNil, ev_lenL, List.length_map, ev_copLt, ev_lt, h2', decide_false, ev_ofM, Bool.false_eq_true, if_false, ev_next]
  · refine ⟨fs, c, ?_, h⟩
    simp only [ev_if, ev_tAn, ev_tV, ev_e2, ev_vs, ev_v0f, ev_v0o, ev_bok, ev_rfz, ev_row, ev_c, ev_copGt, ev_gt, ev_pok, ev_asB, h1, decide_false, ev_ofM, Bool.false_eq_true, if_false, ev_next]
theorem nOne_ev {M : Nat} {ns fs : List Int} {sd c : Int} {k : Int} {o6 : DL.Sl} (h : Fd M fs) : ∃ fs', nOne (E5 M ns fs sd c (.fz (.int k)) o6) = .nx (E5 M ns fs' sd c (.fz (.int k)) o6) ∧ Fd M fs' := by
  unfold nOne E5
  have a1 : ∀ x : Int, oMul (.int x) (.int 48271) = .ok (.fz (.int (x * 48271))) := fun x => mul_r (by decide)
  have a2 : ∀ x : Int, oMul (.int x) (.int 69621) = .ok (.fz (.int (x * 69621))) := fun x => mul_r (by decide)
  have a3 : ∀ x : Int, oMul (.int x) (.int 16807) = .ok (.fz (.int (x * 16807))) := fun x => mul_r (by decide)
  have a4 : ∀ x : Int, oMod (.int x) (.int 2147483647) = .ok (.fz (.int (x.fmod 2147483647))) := fun x => ev_mod (by decide)
  have a5 : ∀ x : Int, oMod (.int x) (.int 65537) = .ok (.fz (.int (x.fmod 65537))) := fun x => ev_mod (by decide)
  by_cases h2 : fs.length < M
  · have h2' : (fs.length : Int) < M := by omega
    have hs := szn (n := fs.length) (by have := h.1; omega)
    refine ⟨fs ++ [((((c * 48271 + k * 69621).fmod 2147483647 * 16807)).fmod 65537).fmod 1000], ?_, h.push h2 _⟩
    simp only [ev_if, ev_tV, ev_e2, ev_vs, ev_v0f, ev_v0o, ev_bok, ev_rfz, ev_row, ev_c, ev_pok, ev_asB, decide_true, if_true, ev_eA, ev_aCons, ev_aNil, ev_lenL, List.length_map, ev_copLt, ev_lt, h2', ev_ofM, ev_app, ev_ownS, ev_own0, ev_int, m1000, ev_frzInt, hs, List.set, a1, a2, a3, a4, a5, ev_add, ints_push]
  · have h2' : ¬ (fs.length : Int) < M := by omega
    refine ⟨fs, ?_, h⟩
    simp only [ev_if, ev_tV, ev_e2, ev_vs, ev_v0f, ev_v0o, ev_bok, ev_rfz, ev_row, ev_c, ev_pok, ev_asB, ev_eA, ev_aCons, ev_aNil, ev_lenL, List.length_map, ev_copLt, ev_lt, h2', decide_false, ev_ofM, Bool.false_eq_true, if_false, ev_next]
theorem nBig_ev {M : Nat} {ns fs : List Int} {sd c : Int} {k : Int} {o6 : DL.Sl} (h : Fd M fs) : ∃ fs' c' o6', nBig (E5 M ns fs sd c (.fz (.int k)) o6) = .nx (E5 M ns fs' sd c' (.fz (.int k)) o6') ∧ Fd M fs' := by
  have hp : oPow (.int 10) (.int 18) = .ok (.fz (.int (10 ^ 18))) := by rfl
  have r60 : oRng1 [.int 60] = .ok (rgD 60) := rng1 (n := 60) (by omega)
  by_cases h1 : (10 : Int) ^ 18 ≤ c
  · obtain ⟨e, l, fs', c', o6', rfl, h'⟩ := forL_nx (t := nName 6) (body := nIn) (ds := rgD 60) (env := E5 M ns fs sd c (.fz (.int k)) o6) (fun _ e => ∃ fs' c' o6', e = E5 M ns fs' sd c' (.fz (.int k)) o6' ∧ Fd M fs') ⟨_, _, _, rfl, h⟩ (by
      rintro i d e hd ⟨fs', c', o6', rfl, h'⟩
      obtain ⟨hi, rfl⟩ := rng_get hd
      obtain ⟨fs2, c2, e2, h2⟩ := nIn_ev (ns := ns) (sd := sd) (c := c') (o4 := .fz (.int k)) (d6 := .int i) h'
      exact ⟨_, rfl, _, .inl e2, fs2, c2, _, rfl, h2⟩)
    refine ⟨fs', c', o6', ?_, h'⟩
    unfold nBig
    have t : tV (e2 (cop .GtE) (eVar 5) (e2 oPow (eC (.int 10)) (eC (.int 18)))) (E5 M ns fs sd c (.fz (.int k)) o6) = .ok true := by
      unfold E5
      simp only [ev_tV, ev_e2, ev_vs, ev_v0f, ev_bok, ev_c, ev_rfz, hp, ev_pok, ev_copGe, ev_ge, ev_asB, h1, decide_true]
    simp only [ev_if, t, ev_ofM, if_true, ev_for, ev_iA, ev_aCons, ev_c, ev_bok, ev_aNil, ev_rfz, r60, ev_pok, ev_fzNil]
    exact l
  · obtain ⟨fs', e, h'⟩ := nOne_ev (ns := ns) (sd := sd) (c := c) (k := k) (o6 := o6) h
    refine ⟨fs', c, o6, ?_, h'⟩
    unfold nBig
    have t : tV (e2 (cop .GtE) (eVar 5) (e2 oPow (eC (.int 10)) (eC (.int 18)))) (E5 M ns fs sd c (.fz (.int k)) o6) = .ok false := by
      unfold E5
      simp only [ev_tV, ev_e2, ev_vs, ev_v0f, ev_bok, ev_c, ev_rfz, hp, ev_pok, ev_copGe, ev_ge, ev_asB, h1, decide_false]
    simp only [ev_if, t, ev_ofM, Bool.false_eq_true, if_false]
    exact e
theorem nCell_ev {M : Nat} {ns fs : List Int} {sd : Int} {k : Nat} {o5 o6 : DL.Sl} (hk : k < ns.length) (h : Fd M fs) : ∃ fs' sd' c' o6', nCell [.fz (.scr ns), .fz (.int M), .ow (fs.map D.int), .fz (.int sd), .fz (.int k), o5, o6] = .nx (E5 M ns fs' sd' c' (.fz (.int k)) o6') ∧ Fd M fs' := by
  have a1 : ∀ x : Int, oMul (.int x) (.int 48271) = .ok (.fz (.int (x * 48271))) := fun x => mul_r (by decide)
  have a2 : ∀ x : Int, oMul (.int x) (.int 69621) = .ok (.fz (.int (x * 69621))) := fun x => mul_r (by decide)
  have a3 : ∀ x : Int, oMul (.int 2) (.int x) = .ok (.fz (.int (2 * x))) := fun x => mul_l (by decide)
  have a4 : ∀ x : Int, oMod (.int x) (.int 2147483647) = .ok (.fz (.int (x.fmod 2147483647))) := fun x => ev_mod (by decide)
  have ix : oIx (.scr ns) (.int k) = .ok (.fz (.int ns[k])) := by
    show oR ((atI ns (k : Int)).map D.int) = _
    rw [DL.atI_nat, List.getElem?_eq_getElem hk]; rfl
  by_cases h1 : ns[k] < 0
  · obtain ⟨fs', c', o6', e, h'⟩ := nBig_ev (ns := ns) (sd := (sd * 48271 + ns[k] * 69621 + k).fmod 2147483647) (c := 1 - 2 * ns[k]) (k := k) (o6 := o6) h
    refine ⟨fs', (sd * 48271 + ns[k] * 69621 + k).fmod 2147483647, c', o6', ?_, h'⟩
    unfold nCell
    simp only [ev_seq, ev_set, ev_eA, ev_aCons, ev_e2, ev_vs, ev_v0f, ev_bok, ev_rfz, ix, ev_pok, ev_aNil, ev_int, ev_ofM, ev_frzInt, ev_sfz, List.set, ev_tn, ev_c, a1, a2, ev_add, a4, ev_if, ev_tV, ev_copLt, ev_lt, ev_asB, h1, decide_true, if_true, a3, ev_sub]
    exact e
  · obtain ⟨fs', c', o6', e, h'⟩ := nBig_ev (ns := ns) (sd := (sd * 48271 + ns[k] * 69621 + k).fmod 2147483647) (c := ns[k]) (k := k) (o6 := o6) h
    refine ⟨fs', (sd * 48271 + ns[k] * 69621 + k).fmod 2147483647, c', o6', ?_, h'⟩
    unfold nCell
    simp only [ev_seq, ev_set, ev_eA, ev_aCons, ev_e2, ev_vs, ev_v0f, ev_bok, ev_rfz, ix, ev_pok, ev_aNil, ev_int, ev_ofM, ev_frzInt, ev_sfz, List.set, ev_tn, ev_c, a1, a2, ev_add, a4, ev_if, ev_tV, ev_copLt, ev_lt, ev_asB, h1, decide_false, Bool.false_eq_true, if_false, ev_next]
    exact e
theorem nFill_ev {M : Nat} {ns fs : List Int} {sd : Int} {o4 o5 o6 : DL.Sl} (h : Fd M fs) : ∃ fs' sd', nFill [.fz (.scr ns), .fz (.int M), .ow (fs.map D.int), .fz (.int sd), o4, o5, o6] = .nx [.fz (.scr ns), .fz (.int M), .ow (fs'.map D.int), .fz (.int sd'), o4, o5, o6] ∧ Fd M fs' ∧ (fs'.length = fs.length + 1 ∨ fs'.length = M) := by
  have a3 : ∀ x : Int, oMul (.int x) (.int 16807) = .ok (.fz (.int (x * 16807))) := fun x => mul_r (by decide)
  have a4 : ∀ x : Int, oMod (.int x) (.int 2147483647) = .ok (.fz (.int (x.fmod 2147483647))) := fun x => ev_mod (by decide)
  by_cases h2 : fs.length < M
  · have h2' : (fs.length : Int) < M := by omega
    have hs := szn (n := fs.length) (by have := h.1; omega)
    refine ⟨fs ++ [((((sd * 16807 + 12345).fmod 2147483647).fdiv 1000)).fmod 1000], (sd * 16807 + 12345).fmod 2147483647, ?_, h.push h2 _, .inl (by simp)⟩
    unfold nFill
    simp only [ev_if, ev_tV, ev_e2, ev_vs, ev_v0f, ev_v0o, ev_bok, ev_rfz, ev_row, ev_c, ev_pok, ev_asB, decide_true, if_true, ev_eA, ev_aCons, ev_aNil, ev_lenL, List.length_map, ev_copLt, ev_lt, h2', ev_ofM, ev_seq, ev_set, ev_app, ev_ownS, ev_own0, ev_int, m1000, d1000, ev_frzInt, ev_sfz, hs, List.set, ev_tn, a3, a4, ev_add, ints_push]
  · have h2' : ¬ (fs.length : Int) < M := by omega
    refine ⟨fs, sd, ?_, h, .inr (by have := h.2.1; omega)⟩
    unfold nFill
    simp only [ev_if, ev_tV, ev_e2, ev_vs, ev_v0f, ev_v0o, ev_bok, ev_rfz, ev_row, ev_c, ev_pok, ev_asB, ev_eA, ev_aCons, ev_aNil, ev_lenL, List.length_map, ev_copLt, ev_lt, h2', decide_false, ev_ofM, Bool.false_eq_true, if_false, ev_next]
theorem law_numbers_is {M : Nat} (hM : M < 1000) {ns : List Int} (hn : ns.length ≤ 63) : ∃ nb : Nat → Int, m_law_numbers [.scr ns, .int M] = .ok (.ow (rowD M nb)) ∧ ∀ i, i < M → 0 ≤ nb i ∧ nb i < 1000 := by
  have hb : b_law_numbers = (sSeq (sSet 2 [] (eA oLstD aNil)) (sSeq (sSet 3 [] (eC (.int 7))) (sSeq (sFor [0] (iA oRng1 (aCons (eA oMin (aCons (eA oLen (aCons (eVar 0) aNil)) (aCons (eC (.int 63)) aNil))) aNil)) (nName 4) nCell) (sSeq (sFor [1] (iA oRng1 (aCons (eVar 1) aNil)) (nName 4) nFill) (sRetV 2))))) := rfl
  have l0 : oLstD [] = .ok (.ow []) := by unfold oLstD; rw [if_pos (by simp)]
  have mn : oMin [.int ns.length, .int 63] = .ok (.fz (.int ns.length)) := by
    show DL.M.ok (Rs.fz (.int (if (63 : Int) < ns.length then 63 else ns.length))) = _
    rw [if_neg (by omega)]
  have rn : oRng1 [.int ns.length] = .ok (rgD ns.length) := rng1 (by omega)
  have r80 : oRng1 [.int M] = .ok (rgD M) := rng1 (by omega)
  obtain ⟨e, l1, fs, sd, o4, o5, o6, rfl, h1⟩ := forL_nx (t := nName 4) (body := nCell) (ds := rgD ns.length) (env := [.fz (.scr ns), .fz (.int M), .ow [], .fz (.int 7), .un, .un, .un])
    (fun _ e => ∃ fs sd o4 o5 o6, e = [.fz (.scr ns), .fz (.int M), .ow (fs.map D.int), .fz (.int sd), o4, o5, o6] ∧ Fd M fs) ⟨[], 7, _, _, _, rfl, by simp [Fd, hM]⟩ (by
      rintro i d e hd ⟨fs, sd, o4, o5, o6, rfl, h'⟩
      obtain ⟨hi, rfl⟩ := rng_get hd
      obtain ⟨fs', sd', c', o6', e2, h2⟩ := nCell_ev (ns := ns) (fs := fs) (sd := sd) (o5 := o5) (o6 := o6) hi h'
      exact ⟨_, rfl, _, .inl e2, fs', sd', _, _, o6', rfl, h2⟩)
  obtain ⟨e, l2, fs2, sd2, p4, rfl, h2, h3⟩ := forL_nx (t := nName 4) (body := nFill) (ds := rgD M) (env := [.fz (.scr ns), .fz (.int M), .ow (fs.map D.int), .fz (.int sd), o4, o5, o6])
    (fun k e => ∃ fs sd o4, e = [.fz (.scr ns), .fz (.int M), .ow (fs.map D.int), .fz (.int sd), o4, o5, o6] ∧ Fd M fs ∧ (k ≤ fs.length ∨ fs.length = M)) ⟨fs, sd, o4, rfl, h1, .inl (Nat.zero_le _)⟩ (by
      rintro i d e hd ⟨fs, sd, o4, rfl, h', hl⟩
      obtain ⟨hi, rfl⟩ := rng_get hd
      obtain ⟨fs', sd', e2, h2, h3⟩ := nFill_ev (ns := ns) (fs := fs) (sd := sd) (o4 := .fz (.int i)) (o5 := o5) (o6 := o6) h'
      exact ⟨_, rfl, _, .inl e2, fs', sd', _, rfl, h2, by omega⟩)
  rw [rgD_len] at h3
  have hl : fs2.length = M := by have := h2.2.1; omega
  refine ⟨fun i => fs2.getD i 0, ?_, fun i hi => ?_⟩
  · refine runD_ok ?_
    rw [hb]
    have e80 : fs2.map D.int = rowD M fun i => fs2.getD i 0 := by rw [ints_row, hl]
    rw [e80] at l2
    show sSeq _ _ [.fz (.scr ns), .fz (.int M), .un, .un, .un, .un, .un] = _
    simp only [ev_seq, ev_set, ev_eA, ev_aNil, ev_bok, l0, ev_pok, ev_ofM, ev_sow, ev_c, ev_frzInt, ev_sfz, ev_tn, ev_for, ev_iA, ev_aCons, ev_vs, ev_v0f, ev_rfz, ev_lenS, mn, rn, ev_fzCons, ev_fzNil, List.set, List.getD_cons_zero, List.getD_cons_succ, ev_frzF]
    have fz : frzIf (.ow []) [] [Sl.fz (.scr ns), .fz (.int M), .un, .un, .un, .un, .un] = [.fz (.scr ns), .fz (.int M), .un, .un, .un, .un, .un] := rfl
    rw [fz]
    simp only [ev_seq, ev_lenS, mn, rn, ev_aCons, ev_aNil, ev_iA, ev_eA, ev_c, ev_for, ev_fzCons, ev_fzNil, List.set, ev_tn, ev_frzInt, l1, ev_bok, ev_vs, ev_v0f, ev_rfz, ev_pok, ev_ofM, r80, List.getD_cons_zero, List.getD_cons_succ, ev_frzF, l2, ev_retVs, ev_retVo]
  · have hi' : i < fs2.length := by omega
    have e : fs2.getD i 0 = fs2[i] := by simp [List.getD, hi']
    show 0 ≤ fs2.getD i 0 ∧ fs2.getD i 0 < 1000
    rw [e]
    exact h2.2.2 _ (List.getElem_mem hi')
end LW
end

section
set_option maxRecDepth 100000
set_option maxHeartbeats 4000000
namespace LW
open L2 DL PG
def b_law_lowest : DL.Env → DL.So :=
  (sSeq (sSet 1 [] (eC (.int 0))) (sSeq (sFor [0] (iE iterA (eVar 0)) (nName 2) (sSeq (sSet 3 [2] (eA oAbs (aCons (eVar 2) aNil))) (sFor [] (iA oRng1 (aCons (eC (.int 400)) aNil)) (nName 4) (sIf [3] (tV (e2 (cop .Gt) (eVar 3) (eC (.int 0)))) (sAsg [3, 1, 3] (nTup 2 (nCons (nName 1) (nCons (nName 3) nNil))) (eA oTupD (aCons (eVar 3) (aCons (e2 oMod (eA oInt (aCons (eVar 1) aNil)) (eVar 3)) aNil)))) sNext)))) (sRet (List.range 64) (eA oTuple (aCons (eLc [2] (iE iterA (eVar 0)) (nName 2) tYesD (e2 oDiv (eVar 2) (eA oMax (aCons (eVar 1) (aCons (eC (.int 1)) aNil))))) aNil)))))
def m_law_lowest (ds : List DL.D) : DL.M DL.Rs := pureM (runD 5 b_law_lowest ds)
def b_law_dot : DL.Env → DL.So :=
  (sSeq (sSet 2 [] (eC (.int 0))) (sSeq (sFor [0] (iA oRng1 (aCons (eA oLen (aCons (eVar 0) aNil)) aNil)) (nName 3) (sSet 2 [2, 0, 3, 1, 3] (e2 oAdd (eVar 2) (e2 oMul (e2 oIx (eVar 0) (eVar 3)) (e2 oIx (eVar 1) (eVar 3)))))) (sRetV 2)))
def m_law_dot (ds : List DL.D) : DL.M DL.Rs := pureM (runD 4 b_law_dot ds)
def b_law_same (mm : List DL.D → DL.M DL.Rs) : DL.Env → DL.So :=
  (sSeq (sIf [1] (tV (e2 (cop .Is) (eVar 1) (eC .non))) (sRet [0] (e2 (cop .Is) (eVar 0) (eC .non))) sNext) (sSeq (sIf [1] (tV (e1 (oIsi "bool") (eVar 1))) (sRet [0, 0, 1] (vAn (e1 (oIsi "bool") (eVar 0)) (e2 (cop .Eq) (eVar 0) (eVar 1)))) sNext) (sSeq (sIf [1] (tV (e1 (oIsi "int") (eVar 1))) (sRet [0, 0, 0, 1] (vAn (e1 (oIsi "int") (eVar 0)) (vAn (vN (e1 (oIsi "bool") (eVar 0))) (e2 (cop .Eq) (eVar 0) (eVar 1))))) sNext) (sSeq (sIf [1] (tV (e1 (oIsi "str") (eVar 1))) (sRet [0, 0, 1] (vAn (e1 (oIsi "str") (eVar 0)) (e2 (cop .Eq) (eVar 0) (eVar 1)))) sNext) (sSeq (sIf [1, 0] (tAn (tV (e1 (oIsi "tuple") (eVar 1))) (tN (tV (e1 (oIsi "tuple") (eVar 0))))) (sRet [] (eC (.bl false))) sNext) (sSeq (sIf [1, 0] (tAn (tV (e1 (oIsi "list") (eVar 1))) (tN (tV (e1 (oIsi "list") (eVar 0))))) (sRet [] (eC (.bl false))) sNext) (sSeq (sIf [0, 1] (tV (e2 (cop .NotEq) (eA oLen (aCons (eVar 0) aNil)) (eA oLen (aCons (eVar 1) aNil)))) (sRet [] (eC (.bl false))) sNext) (sSeq (sFor [1] (iA oRng1 (aCons (eA oLen (aCons (eVar 1) aNil)) aNil)) (nName 2) (sIf [0, 2, 1, 2] (tN (tV (eA (oCal 2 mm) (aCons (e2 oIx (eVar 0) (eVar 2)) (aCons (e2 oIx (eVar 1) (eVar 2)) aNil))))) (sRet [] (eC (.bl false))) sNext)) (sRet [] (eC (.bl true)))))))))))
def m_law_same : List DL.D → DL.M DL.Rs := recM 3 b_law_same 8
def b_law_integers : DL.Env → DL.So :=
  (sSeq (sIf [0, 0, 1] (tO (tN (tV (e1 (oIsi "tuple") (eVar 0)))) (tV (e2 (cop .NotEq) (eA oLen (aCons (eVar 0) aNil)) (eVar 1)))) (sRet [] (eC (.bl false))) sNext) (sSeq (sFor [0] (iE iterA (eVar 0)) (nName 3) (sIf [3, 3, 3, 2] (tO (tN (tV (e1 (oIsi "int") (eVar 3)))) (tO (tV (e1 (oIsi "bool") (eVar 3))) (tV (e2 (cop .Lt) (eVar 3) (eVar 2))))) (sRet [] (eC (.bl false))) sNext)) (sRet [] (eC (.bl true)))))
def m_law_integers (ds : List DL.D) : DL.M DL.Rs := pureM (runD 4 b_law_integers ds)
def b_law_common : DL.Env → DL.So :=
  (sSeq (sSet 1 [] (eC (.int 0))) (sSeq (sFor [0] (iE iterA (eVar 0)) (nName 2) (sSeq (sSet 3 [2] (eA oAbs (aCons (eVar 2) aNil))) (sFor [3] (iA oRng1 (aCons (e2 oAdd (e2 oMul (eC (.int 2)) (e1 oBits (eVar 3))) (eC (.int 4))) aNil)) (nName 4) (sIf [3] (tV (e2 (cop .Gt) (eVar 3) (eC (.int 0)))) (sPar 1 3 [3, 1, 3] (aCons (eVar 3) (aCons (e2 oMod (eA oInt (aCons (eVar 1) aNil)) (eVar 3)) aNil))) sNext)))) (sRetV 1)))
def m_law_common (ds : List DL.D) : DL.M DL.Rs := pureM (runD 5 b_law_common ds)
end LW
end

section
set_option maxRecDepth 100000
set_option maxHeartbeats 1000000
/-! The same data is the same. -/
namespace LW
open L2 DL PG
def Sc (d : DL.D) : Prop := d = .non ∨ (∃ b, d = .bl b) ∨ (∃ i, d = .int i) ∨ ∃ x, d = .str x
def Plain : Nat → DL.D → Prop
  | 0, d => Sc d
  | n+1, d => Sc d ∨ ∃ ds, (d = .tup ds ∨ d = .lst ds) ∧ ds.length < 1000000 ∧ ∀ x, x ∈ ds → Plain n x
def sBody (mm : List DL.D → DL.M DL.Rs) : DL.Env → DL.So := (sIf [0, 2, 1, 2] (tN (tV (eA (oCal 2 mm) (aCons (e2 oIx (eVar 0) (eVar 2)) (aCons (e2 oIx (eVar 1) (eVar 2)) aNil))))) (sRet [] (eC (.bl false))) sNext)
theorem va (f g : DL.Env → DL.M Rs) (env : DL.Env) : vAn f g env = (f env >>= fun r => asB r >>= fun b => if b then g env else .ok (.fz (.bl false))) := (rfl)
theorem vn (f : DL.Env → DL.M Rs) (env : DL.Env) : vN f env = (f env >>= fun r => asB r >>= fun b => .ok (.fz (.bl (!b)))) := (rfl)
theorem isi_e (u : String) (d : DL.D) : oIsi u d = match tyD d with | some t => .ok (.fz (.bl (subTy t u))) | none => .bad := (rfl)
theorem same_sc {mm : List DL.D → DL.M DL.Rs} {d : DL.D} (h : Sc d) : b_law_same mm (startE 3 [d, d]) = .rt (.fz (.bl true)) := by
  rcases h with rfl | ⟨b, rfl⟩ | ⟨i, rfl⟩ | ⟨x, rfl⟩
  · rfl
  · show b_law_same mm [.fz (.bl b), .fz (.bl b), .un] = _
    unfold b_law_same
    simp [va, isi_e, tyD, subTy, isN]
  · show b_law_same mm [.fz (.int i), .fz (.int i), .un] = _
    unfold b_law_same
    simp [va, vn, isi_e, tyD, subTy, isN]
  · show b_law_same mm [.fz (.str x), .fz (.str x), .un] = _
    unfold b_law_same
    simp [va, isi_e, tyD, subTy, isN]
theorem same_seq {mm : List DL.D → DL.M DL.Rs} {d : DL.D} {ds : List DL.D} (hd : d = .tup ds ∨ d = .lst ds) (hl : ds.length < 1000000) (h : ∀ x, x ∈ ds → mm [x, x] = .ok (.fz (.bl true))) : b_law_same mm (startE 3 [d, d]) = .rt (.fz (.bl true)) := by
  have ix : ∀ (i : Nat) (hi : i < ds.length), oIx d (.int i) = .ok (.fz ds[i]) := fun i hi => by
    rcases hd with rfl | rfl
    · show oR (atI ds (i : Int)) = _
      rw [DL.atI_nat, List.getElem?_eq_getElem hi]; rfl
    · show oR (atI ds (i : Int)) = _
      rw [DL.atI_nat, List.getElem?_eq_getElem hi]; rfl
  have ln : oLen [d] = .ok (.fz (.int ds.length)) := by rcases hd with rfl | rfl <;> rfl
  obtain ⟨e, l, o, rfl⟩ := forL_nx (t := nName 2) (body := sBody mm) (ds := rgD ds.length) (env := [.fz d, .fz d, .un]) (fun _ e => ∃ o, e = [.fz d, .fz d, o]) ⟨_, rfl⟩ (by
    rintro i dd e hdd ⟨o, rfl⟩
    obtain ⟨hi, rfl⟩ := rng_get hdd
    refine ⟨_, rfl, [.fz d, .fz d, .fz (.int i)], .inl ?_, _, rfl⟩
    unfold sBody
    simp [ix i hi, oCal, h _ (List.getElem_mem hi)])
  have l : forL (nName 2) (sIf [0, 2, 1, 2] (tN (tV (eA (oCal 2 mm) (aCons (e2 oIx (eVar 0) (eVar 2)) (aCons (e2 oIx (eVar 1) (eVar 2)) aNil))))) (sRet [] (eC (.bl false))) sNext) (rgD ds.length) [.fz d, .fz d, .un] = .nx [.fz d, .fz d, o] := l
  show b_law_same mm [.fz d, .fz d, .un] = _
  unfold b_law_same
  have n1 : isN d = false := by rcases hd with rfl | rfl <;> rfl
  rcases hd with hd | hd
  · have t : tyD d = some "tuple" := by rw [hd]; rfl
    simp [isi_e, t, subTy, n1, ln, rng1 hl, l]
  · have t : tyD d = some "list" := by rw [hd]; rfl
    simp [isi_e, t, subTy, n1, ln, rng1 hl, l]
theorem same_refl : ∀ (n : Nat) (d : DL.D), Plain n d → recM 3 b_law_same (n + 1) [d, d] = .ok (.fz (.bl true))
  | 0, d, h => runD_ok (same_sc h)
  | n+1, d, h => by
    rcases h with h | ⟨ds, hd, hl, hx⟩
    · exact runD_ok (same_sc h)
    · exact runD_ok (same_seq hd hl fun x hm => same_refl n x (hx x hm))
end LW
end

section
set_option maxRecDepth 100000
set_option maxHeartbeats 1000000
/-! Numbers in lists and tuples: equal to themselves; membership answers. -/
namespace DL
open L2 PySem
def Nm : Nat → D → Prop
  | 0, d => ∃ i, d = .int i
  | n+1, d => (∃ i, d = .int i) ∨ ∃ ds, (d = .tup ds ∨ d = .lst ds) ∧ ∀ x, x ∈ ds → Nm n x
def PyOk (n : Nat) (d : D) : Prop := ∃ p, toPy d = some p ∧ p.canLay0 = true ∧ p.depth ≤ n ∧ PyData.eqv p p = true
theorem nmAll_py {n : Nat} (ih : ∀ d, Nm n d → PyOk n d) : ∀ ds : List D, (∀ x, x ∈ ds → Nm n x) → ∃ ps, toPyAll ds = some ps ∧ PyData.canLayAll0 ps = true ∧ PyData.depthAll ps ≤ n ∧ PyData.eqvAll ps ps = true
  | [], _ => ⟨[], rfl, rfl, Nat.zero_le _, rfl⟩
  | d :: ds, h => by
    obtain ⟨p, a1, a2, a3, a4⟩ := ih d (h d (List.mem_cons_self ..))
    obtain ⟨ps, b1, b2, b3, b4⟩ := nmAll_py ih ds fun x hx => h x (List.mem_cons_of_mem _ hx)
    refine ⟨p :: ps, by simp [toPyAll, a1, b1], by simp [PyData.canLayAll0, a2, b2], ?_, by simp [PyData.eqvAll, a4, b4]⟩
    simp only [PyData.depthAll]; omega
theorem nm_py : ∀ (n : Nat) (d : D), Nm n d → PyOk n d
  | 0, d, ⟨i, e⟩ => by subst e; exact ⟨.int i, rfl, rfl, Nat.le_refl _, by simp [PyData.eqv]⟩
  | n+1, d, h => by
    rcases h with ⟨i, rfl⟩ | ⟨ds, hd, hx⟩
    · exact ⟨.int i, rfl, rfl, Nat.zero_le _, by simp [PyData.eqv]⟩
    · obtain ⟨ps, b1, b2, b3, b4⟩ := nmAll_py (nm_py n) ds hx
      rcases hd with rfl | rfl
      · exact ⟨.tuple ps, by simp [toPy, b1], by simp [PyData.canLay0, b2], by simp only [PyData.depth]; omega, by simp [PyData.eqv, b4]⟩
      · exact ⟨.list ps, by simp [toPy, b1], by simp [PyData.canLay0, b2], by simp only [PyData.depth]; omega, by simp [PyData.eqv, b4]⟩
theorem PyOk.shaped {n : Nat} (hn : n ≤ 64) {p : PyData} (h1 : p.canLay0 = true) (h2 : p.depth ≤ n) : SeqAt.shaped p = true := by
  unfold SeqAt.shaped
  simp [h1]; omega
theorem ne_self {n : Nat} (hn : n ≤ 64) {d : D} (h : Nm n d) : oNe d d = .ok (.fz (.bl false)) := by
  obtain ⟨p, a1, a2, a3, a4⟩ := nm_py n d h
  have hd : oDeepEq true d d = .ok (.fz (.bl false)) := by
    unfold oDeepEq
    simp [a1, PyOk.shaped hn a2 a3, a4]
  unfold oNe
  rw [hd]
  cases d with
  | int i => simp [oScalEq, orM]
  | str i => simp [oScalEq, orM]
  | bl i => simp [oScalEq, orM]
  | _ => rfl
theorem in_says {n : Nat} (hn : n + 1 ≤ 64) {neg : Bool} {d : D} {ds : List D} (h : Nm n d) (hs : ∀ x, x ∈ ds → Nm n x) : ∃ b, oInL neg d (.lst ds) = .ok (.fz (.bl b)) := by
  obtain ⟨p, a1, a2, a3, a4⟩ := nm_py n d h
  obtain ⟨q, b1, b2, b3, b4⟩ := nm_py (n + 1) (.lst ds) (.inr ⟨ds, .inr rfl, hs⟩)
  obtain ⟨ps, c1, c2, c3, c4⟩ := nmAll_py (nm_py n) ds hs
  have e : toPy (.lst ds) = some (.list ps) := by simp [toPy, c1]
  rw [e] at b1
  cases b1
  unfold oInL
  simp only [a1, e]
  rw [if_pos ⟨PyOk.shaped (by omega) a2 a3, PyOk.shaped hn b2 b3⟩]
  exact ⟨_, rfl⟩
theorem nm_row {n N : Nat} {f : Nat → Int} : ∀ x, x ∈ rowD N f → Nm n x := fun x hx => by
  obtain ⟨i, _, rfl⟩ := List.mem_map.mp hx
  cases n with
  | zero => exact ⟨_, rfl⟩
  | succ n => exact .inl ⟨_, rfl⟩
end DL
end

section
set_option maxRecDepth 100000
set_option maxHeartbeats 1000000
/-! Hedges: rows, the answer, the judge. -/
namespace PG
open L2 DL
theorem Sq.sum {d : DL.D} {N : Nat} {f : Nat → Int} (h : Sq d (rowD N f)) : oSum [d] = .ok (.fz (.int (Sx.sm N f))) := by
  rcases h with rfl | rfl
  · exact sum_row N f
  · simp only [oSum, one1, ofInts, toInts_row, sum_sm]
theorem Sq.tuple {d : DL.D} {ds : List DL.D} (h : Sq d ds) : oTuple [d] = .ok (.fz (.tup ds)) := by rcases h with rfl | rfl <;> rfl
theorem Sq.list {d : DL.D} {ds : List DL.D} (h : Sq d ds) : oList [d] = .ok (.ow ds) := by rcases h with rfl | rfl <;> rfl
theorem tup_ok {ds : List DL.D} (h : ds.length < 1000000) : oTupD ds = .ok (.fz (.tup ds)) := by
  unfold oTupD; rw [if_pos (by have := sz; omega)]
theorem lst_ok {ds : List DL.D} (h : ds.length < 1000000) : oLstD ds = .ok (.ow ds) := by
  unfold oLstD; rw [if_pos (by have := sz; omega)]
@[simp] theorem tup_2 (a b : DL.D) : oTupD [a, b] = .ok (.fz (.tup [a, b])) := tup_ok (by simp)
@[simp] theorem tup_3 (a b c : DL.D) : oTupD [a, b, c] = .ok (.fz (.tup [a, b, c])) := tup_ok (by simp)
@[simp] theorem tup_1 (a : DL.D) : oTupD [a] = .ok (.fz (.tup [a])) := tup_ok (by simp)
@[simp] theorem tup_0 : oTupD [] = .ok (.fz (.tup [])) := tup_ok (by simp)
/-- rows of numbers, each a tuple -/
def rowsT (R N : Nat) (W : Nat → Nat → Int) : List DL.D := (List.range R).map fun k => D.tup (rowD N (W k))
@[simp] theorem rowsT_len {R N : Nat} {W : Nat → Nat → Int} : (rowsT R N W).length = R := by simp [rowsT]
theorem rowsT_get {R N : Nat} {W : Nat → Nat → Int} {k : Nat} (h : k < R) : (rowsT R N W)[k]? = some (.tup (rowD N (W k))) := by simp [rowsT, h]
theorem rowsT_at {R N : Nat} {W : Nat → Nat → Int} {k : Nat} {d : DL.D} (h : (rowsT R N W)[k]? = some d) : k < R ∧ d = .tup (rowD N (W k)) := by
  by_cases hk : k < R
  · rw [rowsT_get hk] at h; cases h; exact ⟨hk, rfl⟩
  · rw [List.getElem?_eq_none (by simp; omega)] at h; cases h
theorem ix_rowsT {R N : Nat} {W : Nat → Nat → Int} {k : Nat} (h : k < R) : atI (rowsT R N W) (k : Int) = some (.tup (rowD N (W k))) := by
  rw [DL.atI_nat]; exact rowsT_get h
/-- what a hedge has to reach under chance k -/
def hB (N : Nat) (W : Nat → Nat → Int) (act : Nat → Int) (am : Int) (k : Nat) : Int := am * Sx.sm N (W k) - dotF N (W k) act
section
variable {R N : Nat} {W : Nat → Nat → Int} {act l : Nat → Int} {am : Int} {dl da dg dy dw : DL.D}
theorem hedge_rows_is (hR : R < 1000000) (hN : N < 1000000) (hl : Sq dl (rowsT R N W)) (ha : Sq da (rowD N act)) (sa : Sml am) (sS : ∀ k, k < R → Sml (Sx.sm N (W k))) (sW : ∀ k, k < R → ∀ i, i < N → Sml (W k i)) (sc : ∀ i, i < N → Sml (act i)) :
    m_hedge_rows [dl, da, .int am] = .ok (.ow (rowsI R N W (hB N W act am) .tup)) := by
  refine runD_ok ?_
  have hl : eLc [3] (iE iterA (eVar 0)) (nName 3) tYesD (eA oTupD (aCons (eA oTuple (aCons (eVar 3) aNil)) (aCons (e2 oSub (e2 oMul (eVar 2) (eA oSum (aCons (eVar 3) aNil))) (eA (oCal 2 m_dot) (aCons (eVar 3) (aCons (eVar 1) aNil)))) aNil))) [.fz dl, .fz da, .fz (.int am), .un] = .ok (.ow (rowsI R N W (hB N W act am) .tup)) := by
    refine ev_lc (ds := rowsT R N W) (by simp) (by simp [hl.iter]) ?_ (.inr (by simpa using hR))
    refine lcL_map (List.range R) _ (fun k => .tup [.tup (rowD N (W k)), .int (hB N W act am k)]) fun k hk => ?_
    have hk := List.mem_range.mp hk
    refine ⟨_, .fz (.tup [.tup (rowD N (W k)), .int (hB N W act am k)]), rfl, rfl, ?_, rfl⟩
    have dv := says_dotM hN (Sq.t (rowD N (W k))) ha (fun j hj => mul_small (sW k hk j hj) (sc j hj))
    simp [wipeE, (Sq.t (rowD N (W k))).tuple, (Sq.t (rowD N (W k))).sum, mul_ok sa (sS k hk), oCal, dv, hB]
  show b_hedge_rows [.fz dl, .fz da, .fz (.int am), .un] = _
  unfold b_hedge_rows
  simp only [ev_ret, hl, ev_ofM]
theorem misses_not (w0 : ∀ k, k < R → ∀ i, i < N → 0 ≤ W k i) (wp : ∀ k, k < R → 0 < Sx.sm N (W k)) {g w : Nat → Int} : ¬ Misses R N W g w := fun h => by
  have z : ∀ k, k < R → w k = 0 := fun k hk => by
    refine Classical.byContradiction fun hw => ?_
    have w1 : 0 < w k := by have := h.wnn k hk; omega
    have : ∃ i, i < N ∧ 0 < W k i := by
      refine Classical.byContradiction fun hc => ?_
      have := Sx.sm_nonpos (n := N) (f := W k) fun i hi => Int.not_lt.mp fun h => hc ⟨i, hi, h⟩
      have := wp k hk
      omega
    obtain ⟨i, hi, hp⟩ := this
    have s : Sx.sm R (fun k => w k * W k i) ≤ 0 := h.sum i hi
    have e : Sx.sm R (fun k => w k * W k i) = w k * W k i + Sx.sm R (fun j => if j = k then 0 else w j * W j i) := Sx.sm_split (n := R) (f := fun k => w k * W k i) k hk
    have p1 : 0 < w k * W k i := Int.mul_pos w1 hp
    have p2 : 0 ≤ Sx.sm R (fun j => if j = k then 0 else w j * W j i) := Sx.sm_nonneg fun j hj => by
      split
      · omega
      · exact Int.mul_nonneg (h.wnn j hj) (w0 j hj i hi)
    omega
  have := h.pos
  unfold dotF at this
  rw [Sx.sm_zero fun k hk => by rw [z k hk, Int.zero_mul]] at this
  omega
theorem cheapest_hedge_is {K : Nat} (hR : R < 200000) (hN : N < 200000) (hl : Sq dl (rowsT R N W)) (ha : Sq da (rowD N act)) (hg : Sq dg (rowD N l)) (sa : Sml am) (sS : ∀ k, k < R → Sml (Sx.sm N (W k))) (sW : ∀ k, k < R → ∀ i, i < N → Sml (W k i)) (sc : ∀ i, i < N → Sml (act i))
    (hK : 1 ≤ K) (kW : ∀ k, k < R → ∀ i, i < N → (W k i).natAbs ≤ K) (kg : ∀ k, k < R → (hB N W act am k).natAbs ≤ K) (hl0 : ∀ i, i < N → 0 ≤ l i) (kl : ∀ i, i < N → (l i).natAbs ≤ K) (kB : (Sx.fac (N + 1) * K ^ (N + 1)).log2 < 9000)
    (w0 : ∀ k, k < R → ∀ i, i < N → 0 ≤ W k i) (wp : ∀ k, k < R → 0 < Sx.sm N (W k)) :
    ∃ s y w, m_cheapest_hedge [dl, da, dg, .int am] = .ok (.fz (.tup [.int s, .tup (rowD N y), .tup (rowD R w)])) ∧ Least R N W (hB N W act am) l s y w ∧ (∀ d : Nat, d ∣ s.natAbs → (∀ p, p < N → d ∣ (y p).natAbs) → (∀ k, k < R → d ∣ (w k).natAbs) → d = 1) ∧
      s.natAbs ≤ Sx.fac (N + 1) * K ^ (N + 1) ∧ (∀ p, p < N → (y p).natAbs ≤ Sx.fac (N + 1) * K ^ (N + 1)) ∧ ∀ k, k < R → (w k).natAbs ≤ Sx.fac (N + 1) * K ^ (N + 1) := by
  obtain ⟨d, e, hd⟩ := least_is (c := .tup) (fun _ => rfl) hg hR hN hK kW kg hl0 kl kB
  cases hd with
  | none h _ _ => exact absurd h (misses_not w0 wp)
  | @least s y w h one bs by_ bw =>
    refine ⟨s, y, w, runD_ok ?_, h, one, bs, by_, bw⟩
    have hr := hedge_rows_is (R := R) (N := N) (by omega) (by omega) hl ha sa sS sW sc
    have fz : ∀ A, frzIf (.fz (.tup [.str "least", .int s, .tup (rowD N y), .tup (rowD R w)])) A [.fz dl, .fz da, .fz dg, .fz (.int am), .un, .un, .un, .un] = [.fz dl, .fz da, .fz dg, .fz (.int am), .un, .un, .un, .un] := fun A => by
      unfold frzIf
      have : Rs.nol (.fz (.tup [.str "least", .int s, .tup (rowD N y), .tup (rowD R w)])) = true := by
        have a : D.nolAll (rowD N y) = true := nol_row
        have b : D.nolAll (rowD R w) = true := nol_row
        simp [Rs.nol, D.nol, D.nolAll, a, b]
      rw [if_pos this]
    show b_cheapest_hedge [.fz dl, .fz da, .fz dg, .fz (.int am), .un, .un, .un, .un] = _
    unfold b_cheapest_hedge
    simp only [ev_seq, ev_asg, ev_eA, ev_aCons, ev_vs, ev_v0f, ev_bok, ev_rfz, ev_row, ev_aNil, oCal, List.length_cons, List.length_nil, if_true, hr, ev_pok, ha.len, rowD_len, e, ev_ofM, fz]
    simp
theorem says_shows_hedge {Ny Mw : Nat} {s : Int} {y w : Nat → Int} (hR : R < 1000000) (hN0 : 1 ≤ N) (hN : N < 1000000) (hl : Sq dl (rowsT R N W)) (ha : Sq da (rowD N act)) (hg : Sq dg (rowD N l)) (hy : Sq dy (rowD Ny y)) (hw : Sq dw (rowD Mw w))
    (sa : Sml am) (sS : ∀ k, k < R → Sml (Sx.sm N (W k))) (sW : ∀ k, k < R → ∀ i, i < N → Sml (W k i)) (sc : ∀ i, i < N → Sml (act i)) (sg : ∀ k, k < R → Sml (hB N W act am k)) (sl : ∀ i, i < N → Sml (l i)) (ss : Sml s) (sy : ∀ i, i < Ny → Sml (y i)) (sw : ∀ k, k < Mw → Sml (w k)) :
    Says (m_shows_hedge [dl, da, dg, .int am, .int s, dy, dw]) (Ny = N ∧ Mw = R ∧ Least R N W (hB N W act am) l s y w) := by
  obtain ⟨b, e, i⟩ := says_shows_least (c := .tup) hR hN0 hN Sq.t hg hy hw sW sg sl ss sy sw
  refine ⟨b, runD_ok ?_, i⟩
  have hr := hedge_rows_is (R := R) (N := N) (by omega) (by omega) hl ha sa sS sW sc
  show b_shows_hedge [.fz dl, .fz da, .fz dg, .fz (.int am), .fz (.int s), .fz dy, .fz dw] = _
  unfold b_shows_hedge
  simp only [ev_ret, ev_eA, ev_aCons, ev_vs, ev_v0f, ev_bok, ev_rfz, ev_row, ev_aNil, oCal, List.length_cons, List.length_nil, if_true, hr, ev_pok, e, ev_ofM]
end
end PG
end

section
set_option maxRecDepth 100000
set_option maxHeartbeats 1000000
/-! Points and papers of one total: duality. -/
namespace PG
theorem dot_nonneg {N : Nat} {f g : Nat → Int} (hf : ∀ i, i < N → 0 ≤ f i) (hg : ∀ i, i < N → 0 ≤ g i) : 0 ≤ dotF N f g := Sx.sm_nonneg fun i hi => Int.mul_nonneg (hf i hi) (hg i hi)
theorem dot_le {N : Nat} {f g h : Nat → Int} (hf : ∀ i, i < N → 0 ≤ f i) (hg : ∀ i, i < N → g i ≤ h i) : dotF N f g ≤ dotF N f h := Sx.sm_le fun i hi => Int.mul_le_mul_of_nonneg_left (hg i hi) (hf i hi)
theorem dot_comm (N : Nat) (f g : Nat → Int) : dotF N f g = dotF N g f := Sx.sm_congr fun i _ => Int.mul_comm _ _
theorem dot_mul (N : Nat) (c : Int) (f g : Nat → Int) : dotF N f (fun i => g i * c) = dotF N f g * c := by
  rw [Int.mul_comm (dotF N f g) c]
  unfold dotF
  rw [← Sx.sm_mul]
  exact Sx.sm_congr fun i _ => by show f i * (g i * c) = c * (f i * g i); grind
theorem dot_swap (R N : Nat) (w : Nat → Int) (W : Nat → Nat → Int) (y : Nat → Int) : dotF R w (fun k => dotF N (W k) y) = dotF N (fun p => dotF R w fun k => W k p) y := by
  unfold dotF
  have e1 : Sx.sm R (fun k => w k * Sx.sm N fun p => W k p * y p) = Sx.sm R fun k => Sx.sm N fun p => w k * (W k p * y p) := Sx.sm_congr fun k _ => (Sx.sm_mul N _ _).symm
  have e2 : Sx.sm N (fun p => (Sx.sm R fun k => w k * W k p) * y p) = Sx.sm N fun p => Sx.sm R fun k => w k * (W k p * y p) := Sx.sm_congr fun p _ => by
    rw [Int.mul_comm, ← Sx.sm_mul]
    exact Sx.sm_congr fun k _ => by rw [Int.mul_comm (y p), Int.mul_assoc]
  rw [e1, e2, Sx.sm_swap]
section
variable {R N : Nat} {W : Nat → Nat → Int} {g l : Nat → Int} {s s' : Int} {y w y' w' : Nat → Int}
theorem least_half (h1 : Least R N W g l s y w) (h2 : Least R N W g l s' y' w') : dotF N l y * s' ≤ dotF N l y' * s := by
  rw [h1.total, ← dot_mul]
  refine Int.le_trans (dot_le h1.wnn h2.reach) ?_
  rw [dot_swap, dot_comm, dot_comm N l, ← dot_mul]
  exact dot_le h2.ynn h1.within
theorem least_dual (h1 : Least R N W g l s y w) (h2 : Least R N W g l s' y' w') : dotF N l y * s' = dotF N l y' * s := Int.le_antisymm (least_half h1 h2) (least_half h2 h1)
theorem dot_pos {N : Nat} {f g : Nat → Int} (hf : ∀ i, i < N → 0 ≤ f i) (hg : ∀ i, i < N → 0 ≤ g i) {i : Nat} (hi : i < N) (h1 : 0 < f i) (h2 : 0 < g i) : 0 < dotF N f g := by
  unfold dotF
  rw [Sx.sm_split i hi]
  have a : 0 < f i * g i := Int.mul_pos h1 h2
  have b : 0 ≤ Sx.sm N (fun j => if j = i then 0 else f j * g j) := Sx.sm_nonneg fun j hj => by
    split
    · omega
    · exact Int.mul_nonneg (hf j hj) (hg j hj)
  omega
theorem dot_ex {N : Nat} {f g : Nat → Int} (hf : ∀ i, i < N → 0 ≤ f i) (h : 0 < dotF N f g) : ∃ i, i < N ∧ 0 < f i ∧ 0 < g i := by
  refine Classical.byContradiction fun hc => ?_
  have : dotF N f g ≤ 0 := Sx.sm_nonpos fun i hi => by
    by_cases h0 : 0 < f i
    · exact Int.mul_nonpos_of_nonneg_of_nonpos (hf i hi) (Int.not_lt.mp fun h1 => hc ⟨i, hi, h0, h1⟩)
    · have : f i = 0 := by have := hf i hi; omega
      rw [this]; simp
  omega
/-- the total is 0 exactly if each row with a bound above 0 has a goal of 0 under a weight above 0 -/
theorem least_zero (h : Least R N W g l s y w) (hl : ∀ i, i < N → 0 ≤ l i) (hW : ∀ k, k < R → ∀ i, i < N → 0 ≤ W k i) : dotF N l y = 0 ↔ ∀ k, k < R → 0 < g k → ∃ i, i < N ∧ l i = 0 ∧ 0 < W k i := by
  constructor
  · intro h0 k hk hg
    have p1 : 0 < g k * s := Int.mul_pos hg (by have := h.s1; omega)
    have p2 : 0 < dotF N (W k) y := Int.lt_of_lt_of_le p1 (h.reach k hk)
    obtain ⟨i, hi, a, b⟩ := dot_ex (hW k hk) p2
    refine ⟨i, hi, ?_, a⟩
    refine Classical.byContradiction fun hc => ?_
    have := dot_pos hl h.ynn hi (by have := hl i hi; omega) b
    omega
  · intro h0
    refine Classical.byContradiction fun hc => ?_
    have p0 : 0 < dotF R w g := by
      rw [← h.total]
      have := dot_nonneg hl h.ynn
      omega
    obtain ⟨k, hk, a, b⟩ := dot_ex h.wnn p0
    obtain ⟨i, hi, c, d⟩ := h0 k hk b
    have := h.within i hi
    rw [c, Int.zero_mul] at this
    have p := dot_pos (f := w) (g := fun k => W k i) h.wnn (fun k hk => hW k hk i hi) hk a d
    omega
theorem least_nil (h : Least R N W g l s y w) (hl : ∀ i, i < N → 0 ≤ l i) (hg : ∀ k, k < R → g k ≤ 0) : dotF N l y = 0 := by
  have h1 := dot_nonneg hl h.ynn
  have h2 : dotF N l y ≤ 0 := by
    rw [h.total]
    exact Sx.sm_nonpos fun k hk => Int.mul_nonpos_of_nonneg_of_nonpos (h.wnn k hk) (hg k hk)
  omega
end
end PG
end

section
set_option maxRecDepth 100000
set_option maxHeartbeats 1000000
/-! _law_dot, Euclid's steps, _law_common, _law_lowest, _law_integers. -/
namespace LW
open L2 DL PG
def bodyD : DL.Env → DL.So := (sSet 2 [2, 0, 3, 1, 3] (e2 oAdd (eVar 2) (e2 oMul (e2 oIx (eVar 0) (eVar 3)) (e2 oIx (eVar 1) (eVar 3)))))
theorem law_dot_is {d1 d2 : DL.D} {N M : Nat} {f g : Nat → Int} (hN : N < 1000000) (hM : N ≤ M) (h1 : Sq d1 (rowD N f)) (h2 : Sq d2 (rowD M g)) (hm : ∀ i, i < N → mulOk (f i) (g i) = true) : m_law_dot [d1, d2] = .ok (.fz (.int (dotF N f g))) := by
  refine runD_ok ?_
  have hb : b_law_dot = (sSeq (sSet 2 [] (eC (.int 0))) (sSeq (sFor [0] (iA oRng1 (aCons (eA oLen (aCons (eVar 0) aNil)) aNil)) (nName 3) bodyD) (sRetV 2))) := rfl
  obtain ⟨e, l, o3, rfl⟩ := forL_nx (t := nName 3) (body := bodyD) (ds := rgD N) (env := [.fz d1, .fz d2, .fz (.int 0), .un]) (fun k e => ∃ o3, e = [.fz d1, .fz d2, .fz (.int (Sx.sm k fun i => f i * g i)), o3]) ⟨_, rfl⟩ (by
    rintro i d e hd ⟨o3, rfl⟩
    obtain ⟨hi, rfl⟩ := rng_get hd
    refine ⟨_, rfl, _, .inl ?_, .fz (.int i), rfl⟩
    unfold bodyD
    have a1 : atI (rowD N f) (i : Int) = some (.int (f i)) := ix_row hi
    have a2 : atI (rowD M g) (i : Int) = some (.int (g i)) := ix_row (by omega)
    simp [h1.ix, h2.ix, a1, a2, ev_mul (hm i hi), Sx.sm])
  rw [hb]
  simp [startE, h1.len, rng1 hN, l, dotF]
def eu (p : Nat × Nat) : Nat × Nat := if 0 < p.2 then (p.2, p.1 % p.2) else p
def euN : Nat → Nat × Nat → Nat × Nat
  | 0, p => p
  | n+1, p => eu (euN n p)
theorem euN_add (n m : Nat) (p : Nat × Nat) : euN (n + m) p = euN n (euN m p) := by
  induction n with
  | zero => simp [euN]
  | succ n ih => rw [Nat.succ_add]; simp only [euN, ih]
theorem eu_gcd (p : Nat × Nat) : Nat.gcd (eu p).1 (eu p).2 = Nat.gcd p.1 p.2 := by
  unfold eu
  split
  · show Nat.gcd p.2 (p.1 % p.2) = _
    rw [Nat.gcd_comm p.1 p.2, Nat.gcd_rec p.2 p.1, Nat.gcd_comm]
  · rfl
theorem euN_gcd (n : Nat) (p : Nat × Nat) : Nat.gcd (euN n p).1 (euN n p).2 = Nat.gcd p.1 p.2 := by
  induction n with
  | zero => rfl
  | succ n ih => simp only [euN, eu_gcd, ih]
theorem mod_half {b r : Nat} (hr : 0 < r) (h : r < b) : 2 * (b % r) < b := by
  have h1 := Nat.mod_lt b hr
  by_cases h2 : 2 * r ≤ b
  · omega
  · have : b % r = b - r := by
      rw [Nat.mod_eq_sub_mod (by omega), Nat.mod_eq_of_lt (by omega)]
    omega
theorem eu_end (t : Nat) : ∀ p : Nat × Nat, p.2 < 2 ^ t → (euN (2 * t) p).2 = 0 := by
  induction t with
  | zero => intro p h; simp at h; exact h
  | succ t ih =>
    intro p h
    have e : 2 * (t + 1) = 2 * t + 2 := by omega
    rw [e, euN_add]
    refine ih _ ?_
    show (eu (eu p)).2 < 2 ^ t
    have hp := Nat.two_pow_pos t
    rw [Nat.pow_succ] at h
    unfold eu
    by_cases h1 : 0 < p.2
    · rw [if_pos h1]
      simp only
      have h3 := Nat.mod_lt p.1 h1
      by_cases h2 : 0 < p.1 % p.2
      · rw [if_pos h2]
        have := mod_half h2 h3
        show p.2 % (p.1 % p.2) < 2 ^ t
        omega
      · rw [if_neg h2]
        show p.1 % p.2 < 2 ^ t
        omega
    · rw [if_neg h1, if_neg h1]; omega
theorem abs_is (x : Int) : oAbs [.int x] = .ok (.fz (.int (x.natAbs : Nat))) := by
  have e : (if x < 0 then -x else x) = ((x.natAbs : Nat) : Int) := by split <;> omega
  show DL.M.ok (Rs.fz (.int (if x < 0 then -x else x))) = _
  rw [e]
theorem eu_loop' {bd : DL.Env → DL.So} (hb : ∀ (d0 d2 d4 : DL.D) (p : Nat × Nat), bd [.fz d0, .fz (.int p.1), .fz d2, .fz (.int p.2), .fz d4] = .nx [.fz d0, .fz (.int (eu p).1), .fz d2, .fz (.int (eu p).2), .fz d4])
    {n t : Nat} (hn : n = 2 * t) {a b : Nat} (hb2 : b < 2 ^ t) {d0 d2 : DL.D} {o4 : DL.Sl} : ∃ q4, forL (nName 4) bd (rgD n) [.fz d0, .fz (.int a), .fz d2, .fz (.int b), o4] = .nx [.fz d0, .fz (.int (Nat.gcd a b)), .fz d2, .fz (.int 0), q4] := by
  obtain ⟨e2, l2, q4, h2⟩ := forL_nx (t := nName 4) (body := bd) (ds := rgD n) (env := [.fz d0, .fz (.int a), .fz d2, .fz (.int b), o4])
    (fun k e => ∃ q4, e = [.fz d0, .fz (.int (euN k (a, b)).1), .fz d2, .fz (.int (euN k (a, b)).2), q4]) ⟨_, rfl⟩ (by
      rintro j d e hd ⟨q4, rfl⟩
      obtain ⟨hj, rfl⟩ := rng_get hd
      refine ⟨_, rfl, _, .inl ?_, .fz (.int j), rfl⟩
      exact hb _ _ _ _)
  rw [rgD_len] at h2
  have fin2 : (euN n (a, b)).2 = 0 := by rw [hn]; exact eu_end t _ hb2
  have fin1 : (euN n (a, b)).1 = Nat.gcd a b := by
    have := euN_gcd n (a, b)
    rw [fin2, Nat.gcd_zero_right] at this
    exact this
  rw [fin1, fin2] at h2
  exact ⟨q4, by rw [l2, h2]; rfl⟩
def bodyEu : DL.Env → DL.So := (sIf [3] (tV (e2 (cop .Gt) (eVar 3) (eC (.int 0)))) (sPar 1 3 [3, 1, 3] (aCons (eVar 3) (aCons (e2 oMod (eA oInt (aCons (eVar 1) aNil)) (eVar 3)) aNil))) sNext)
def bodyEv : DL.Env → DL.So := (sIf [3] (tV (e2 (cop .Gt) (eVar 3) (eC (.int 0)))) (sAsg [3, 1, 3] (nTup 2 (nCons (nName 1) (nCons (nName 3) nNil))) (eA oTupD (aCons (eVar 3) (aCons (e2 oMod (eA oInt (aCons (eVar 1) aNil)) (eVar 3)) aNil)))) sNext)
theorem eu_pos {p : Nat × Nat} (h : 0 < p.2) : ((p.1 : Nat) : Int).fmod (p.2 : Nat) = (((eu p).2 : Nat) : Int) ∧ ((p.2 : Nat) : Int) = (((eu p).1 : Nat) : Int) := by
  have he : eu p = (p.2, p.1 % p.2) := by simp [eu, h]
  rw [he]
  exact ⟨by rw [Int.fmod_eq_emod_of_nonneg _ (by omega)]; rfl, rfl⟩
theorem bodyEu_ev (d0 d2 d4 : DL.D) (p : Nat × Nat) : bodyEu [.fz d0, .fz (.int p.1), .fz d2, .fz (.int p.2), .fz d4] = .nx [.fz d0, .fz (.int (eu p).1), .fz d2, .fz (.int (eu p).2), .fz d4] := by
  unfold bodyEu
  have hp : ∀ (env : DL.Env) (f : DL.Env → DL.M (List DL.D)) (A : List Nat), sPar 1 3 A f env = ofM (f env) env A fun ds => par2 1 3 (fzAll A env) ds := fun _ _ _ => rfl
  by_cases h : 0 < p.2
  · have h' : (0 : Int) < (p.2 : Nat) := by omega
    have hne : ((p.2 : Nat) : Int) ≠ 0 := by omega
    obtain ⟨m1, m2⟩ := eu_pos h
    simp only [ev_if, ev_tV, ev_e2, ev_vs, ev_v0f, ev_bok, ev_c, ev_copGt, ev_rfz, ev_gt, ev_pok, ev_asB, h', decide_true, ev_ofM, if_true, hp, ev_aCons, ev_eA, ev_aNil, ev_int, ev_mod hne, ev_fzCons, ev_fzNil, List.set, List.getD_cons_zero, List.getD_cons_succ, ev_frzF, par2, m1, ← m2]
  · have h' : ¬ (0 : Int) < (p.2 : Nat) := by omega
    have he : eu p = p := by simp [eu, h]
    simp only [ev_if, ev_tV, ev_e2, ev_vs, ev_v0f, ev_bok, ev_c, ev_copGt, ev_rfz, ev_gt, ev_pok, ev_asB, h', decide_false, ev_ofM, Bool.false_eq_true, if_false, ev_next, he]
theorem frz_ints (a b : Int) (A : List Nat) (env : DL.Env) : frzIf (.fz (.tup [.int a, .int b])) A env = env := (rfl)
theorem bodyEv_ev (d0 d2 d4 : DL.D) (p : Nat × Nat) : bodyEv [.fz d0, .fz (.int p.1), .fz d2, .fz (.int p.2), .fz d4] = .nx [.fz d0, .fz (.int (eu p).1), .fz d2, .fz (.int (eu p).2), .fz d4] := by
  unfold bodyEv
  by_cases h : 0 < p.2
  · have h' : (0 : Int) < (p.2 : Nat) := by omega
    have hne : ((p.2 : Nat) : Int) ≠ 0 := by omega
    obtain ⟨m1, m2⟩ := eu_pos h
    simp only [ev_if, ev_tV, ev_e2, ev_vs, ev_v0f, ev_bok, ev_c, ev_copGt, ev_rfz, ev_gt, ev_pok, ev_asB, h', decide_true, ev_ofM, if_true, ev_asg, ev_aCons, ev_eA, ev_aNil, ev_int, ev_mod hne, tup_2, frz_ints, ev_nTup, List.length_cons, List.length_nil, ev_nCons, ev_name, Option.bind_some, ev_nNil, ev_ofO, List.set, m1, ← m2]
  · have h' : ¬ (0 : Int) < (p.2 : Nat) := by omega
    have he : eu p = p := by simp [eu, h]
    simp only [ev_if, ev_tV, ev_e2, ev_vs, ev_v0f, ev_bok, ev_c, ev_copGt, ev_rfz, ev_gt, ev_pok, ev_asB, h', decide_false, ev_ofM, Bool.false_eq_true, if_false, ev_next, he]
def bodyLo : DL.Env → DL.So := (sSeq (sSet 3 [2] (eA oAbs (aCons (eVar 2) aNil))) (sFor [] (iA oRng1 (aCons (eC (.int 400)) aNil)) (nName 4) bodyEv))
def cLow : DL.Env → DL.M Rs := (eLc [2] (iE iterA (eVar 0)) (nName 2) tYesD (e2 oDiv (eVar 2) (eA oMax (aCons (eVar 1) (aCons (eC (.int 1)) aNil)))))
theorem max_is (a b : Int) : oMax [.int a, .int b] = .ok (.fz (.int (if a < b then b else a))) := (rfl)
theorem low_div {N : Nat} {f : Nat → Int} {i : Nat} : (f i).fdiv (if ((gcdN f N : Nat) : Int) < 1 then 1 else ((gcdN f N : Nat) : Int)) = lowF N f i := by
  unfold lowF
  by_cases h : gcdN f N < 2
  · rw [if_pos h]
    by_cases h0 : gcdN f N < 1
    · rw [if_pos (by omega)]; simp
    · rw [if_neg (by omega)]
      have : gcdN f N = 1 := by omega
      rw [this]; simp
  · rw [if_neg h, if_neg (by omega)]
theorem law_lowest_is {N : Nat} {f : Nat → Int} {d : DL.D} (hN : N < 1000000) (hd : Sq d (rowD N f)) (hf : ∀ i, i < N → (f i).natAbs < 2 ^ 200) : m_law_lowest [d] = .ok (.fz (.tup (rowD N (lowF N f)))) := by
  refine runD_ok ?_
  have hb : b_law_lowest = (sSeq (sSet 1 [] (eC (.int 0))) (sSeq (sFor [0] (iE iterA (eVar 0)) (nName 2) bodyLo) (sRet (List.range 64) (eA oTuple (aCons cLow aNil))))) := rfl
  obtain ⟨e, l, o2, o3, o4, rfl, ho⟩ := forL_nx (t := nName 2) (body := bodyLo) (ds := rowD N f) (env := [.fz d, .fz (.int 0), .un, .un, .un]) (fun k e => ∃ o2 o3 o4, e = [.fz d, .fz (.int (gcdN f k)), o2, o3, o4] ∧ True) ⟨_, _, _, rfl, trivial⟩ (by
    rintro i d' e hd ⟨o2, o3, o4, rfl, -⟩
    obtain ⟨hi, rfl⟩ := rowD_at hd
    refine ⟨_, rfl, ?_⟩
    obtain ⟨q4, l2⟩ := eu_loop' bodyEv_ev (n := 400) (t := 200) (by decide) (hf i hi) (a := gcdN f i) (d0 := d) (d2 := .int (f i)) (o4 := o4)
    refine ⟨[.fz d, .fz (.int (gcdN f (i + 1))), .fz (.int (f i)), .fz (.int 0), q4], .inl ?_, _, _, _, rfl, trivial⟩
    have r400 : oRng1 [.int 400] = .ok (rgD 400) := rng1 (n := 400) (by omega)
    unfold bodyLo
    simp only [List.set, ev_seq, ev_set, ev_eA, ev_aCons, ev_vs, ev_v0f, ev_bok, ev_rfz, ev_aNil, abs_is, ev_pok, ev_ofM, ev_frzInt, ev_sfz, ev_tn, ev_for, ev_iA, ev_c, r400, ev_fzNil]
    exact l2)
  rw [hb]
  rw [rowD_len] at l
  have hc : cLow [.fz d, .fz (.int (gcdN f N)), o2, o3, o4] = .ok (.ow (rowD N (lowF N f))) := by
    refine ev_lc (ds := rowD N f) (by simp) (by simp [hd.iter]) ?_ (.inr (by simpa using hN))
    refine lcL_map (List.range N) _ _ fun i hi => ⟨_, .fz (.int (lowF N f i)), rfl, rfl, ?_, rfl⟩
    simp only [wipeE, List.map, List.set, ev_e2, ev_vs, ev_v0f, ev_bok, ev_eA, ev_aCons, ev_rfz, ev_c, ev_aNil, ev_frzF, max_is, ev_pok]
    rw [← low_div]
    have h0 : (if ((gcdN f N : Nat) : Int) < 1 then 1 else ((gcdN f N : Nat) : Int)) ≠ 0 := by split <;> omega
    have hl : (if ((gcdN f N : Nat) : Int) < 1 then 1 else ((gcdN f N : Nat) : Int)).natAbs.log2 < 9000 := by
      split
      · decide
      · by_cases hz : ∃ j, j < N ∧ f j ≠ 0
        · obtain ⟨j, hj, hz⟩ := hz
          have := Nat.le_of_dvd (by omega) (gcd_dvd (f := f) (N := N) hj)
          have h2 := hf j hj
          rw [Int.natAbs_natCast]
          by_cases hg : gcdN f N = 0
          · rw [hg]; decide
          · have := (Nat.log2_lt hg (k := 200)).mpr (by omega)
            omega
        · have : gcdN f N = 0 := by
            have h : (2 ^ 200 : Nat) ∣ gcdN f N := dvd_gcdN fun i hi => by
              have : f i = 0 := Classical.byContradiction fun hc => hz ⟨i, hi, hc⟩
              rw [this]; exact Nat.dvd_zero _
            have h' : (gcdN f N + 1) ∣ gcdN f N := dvd_gcdN fun i hi => by
              have : f i = 0 := Classical.byContradiction fun hc => hz ⟨i, hi, hc⟩
              rw [this]; exact Nat.dvd_zero _
            refine Classical.byContradiction fun hc => ?_
            have := Nat.le_of_dvd (by omega) h'
            omega
          omega
    rw [div_ok h0 hl]
    rfl
  simp only [startE, List.map, List.length, List.replicate, List.cons_append, List.nil_append, ev_seq, ev_set, ev_c, ev_ofM, ev_frzInt, ev_sfz, List.set, ev_tn, ev_for, ev_iE, ev_vs, ev_v0f, ev_bok, ev_rfz, hd.iter, ev_pok, ev_fzCons, ev_fzNil, List.getD_cons_zero, ev_frzF, l, ev_ret, ev_eA, ev_aCons, hc, ev_row, ev_aNil]
  rfl
def bodyCo : DL.Env → DL.So := (sSeq (sSet 3 [2] (eA oAbs (aCons (eVar 2) aNil))) (sFor [3] (iA oRng1 (aCons (e2 oAdd (e2 oMul (eC (.int 2)) (e1 oBits (eVar 3))) (eC (.int 4))) aNil)) (nName 4) bodyEu))
theorem bits_lt (x : Nat) : x < 2 ^ (PySem.Builtin.Int.intBits (x : Int)) := by
  unfold PySem.Builtin.Int.intBits
  split
  · rename_i h; have : x = 0 := by simpa using h
    subst this; decide
  · rw [Int.natAbs_natCast]; exact Nat.lt_log2_self
theorem bits_le {x : Nat} (h : x.log2 < 9000) : PySem.Builtin.Int.intBits (x : Int) < 9001 := by
  unfold PySem.Builtin.Int.intBits
  split
  · omega
  · rw [Int.natAbs_natCast]; omega
theorem law_common_is {N : Nat} {f : Nat → Int} {d : DL.D} (hN : N < 1000000) (hd : Sq d (rowD N f)) (hf : ∀ i, i < N → Sml (f i)) : m_law_common [d] = .ok (.fz (.int (gcdN f N))) := by
  refine runD_ok ?_
  have hb : b_law_common = (sSeq (sSet 1 [] (eC (.int 0))) (sSeq (sFor [0] (iE iterA (eVar 0)) (nName 2) bodyCo) (sRetV 1))) := rfl
  obtain ⟨e, l, o2, o3, o4, rfl, ho⟩ := forL_nx (t := nName 2) (body := bodyCo) (ds := rowD N f) (env := [.fz d, .fz (.int 0), .un, .un, .un]) (fun k e => ∃ o2 o3 o4, e = [.fz d, .fz (.int (gcdN f k)), o2, o3, o4] ∧ True) ⟨_, _, _, rfl, trivial⟩ (by
    rintro i d' e hd ⟨o2, o3, o4, rfl, -⟩
    obtain ⟨hi, rfl⟩ := rowD_at hd
    refine ⟨_, rfl, ?_⟩
    have h1 := bits_lt (f i).natAbs
    have h2 := bits_le (hf i hi)
    obtain ⟨q4, l2⟩ := eu_loop' bodyEu_ev (n := 2 * PySem.Builtin.Int.intBits (((f i).natAbs : Nat) : Int) + 4) (t := PySem.Builtin.Int.intBits (((f i).natAbs : Nat) : Int) + 2) (by omega)
      (Nat.lt_of_lt_of_le h1 (Nat.pow_le_pow_right (by omega) (by omega))) (a := gcdN f i) (d0 := d) (d2 := .int (f i)) (o4 := o4)
    refine ⟨[.fz d, .fz (.int (gcdN f (i + 1))), .fz (.int (f i)), .fz (.int 0), q4], .inl ?_, _, _, _, rfl, trivial⟩
    have rr : oRng1 [.int (2 * (PySem.Builtin.Int.intBits (((f i).natAbs : Nat) : Int) : Nat) + 4)] = .ok (rgD (2 * PySem.Builtin.Int.intBits (((f i).natAbs : Nat) : Int) + 4)) := by
      have := rng1 (n := 2 * PySem.Builtin.Int.intBits (((f i).natAbs : Nat) : Int) + 4) (by omega)
      rw [← this]; simp
    have bt : oBits (.int (((f i).natAbs : Nat) : Int)) = .ok (.fz (.int (PySem.Builtin.Int.intBits (((f i).natAbs : Nat) : Int) : Nat))) := rfl
    have m2 : ∀ x : Int, oMul (.int 2) (.int x) = .ok (.fz (.int (2 * x))) := fun x => mul_l (by decide)
    unfold bodyCo
    simp only [List.set, ev_seq, ev_set, ev_eA, ev_aCons, ev_vs, ev_v0f, ev_bok, ev_rfz, ev_aNil, abs_is, ev_pok, ev_ofM, ev_frzInt, ev_sfz, ev_tn, ev_for, ev_iA, ev_c, ev_e2, ev_e1, bt, m2, ev_add, rr, ev_fzCons, ev_fzNil, List.getD_cons_zero, List.getD_cons_succ, ev_frzF]
    exact l2)
  rw [hb]
  rw [rowD_len] at l
  simp only [startE, List.map, List.length, List.replicate, List.cons_append, List.nil_append, ev_seq, ev_set, ev_c, ev_ofM, ev_frzInt, ev_sfz, List.set, ev_tn, ev_for, ev_iE, ev_vs, ev_v0f, ev_bok, ev_rfz, hd.iter, ev_pok, ev_fzCons, ev_fzNil, List.getD_cons_zero, ev_frzF, l, ev_retVs, ev_retVf]
def bodyI : DL.Env → DL.So := (sIf [3, 3, 3, 2] (tO (tN (tV (e1 (oIsi "int") (eVar 3)))) (tO (tV (e1 (oIsi "bool") (eVar 3))) (tV (e2 (cop .Lt) (eVar 3) (eVar 2))))) (sRet [] (eC (.bl false))) sNext)
theorem law_integers_is {N : Nat} {f : Nat → Int} {low : Int} (h : ∀ i, i < N → low ≤ f i) : m_law_integers [.tup (rowD N f), .int N, .int low] = .ok (.fz (.bl true)) := by
  refine runD_ok ?_
  have hb : b_law_integers = (sSeq (sIf [0, 0, 1] (tO (tN (tV (e1 (oIsi "tuple") (eVar 0)))) (tV (e2 (cop .NotEq) (eA oLen (aCons (eVar 0) aNil)) (eVar 1)))) (sRet [] (eC (.bl false))) sNext) (sSeq (sFor [0] (iE iterA (eVar 0)) (nName 3) bodyI) (sRet [] (eC (.bl true))))) := rfl
  have i1 : ∀ ds, oIsi "tuple" (.tup ds) = .ok (.fz (.bl true)) := fun _ => rfl
  have i2 : ∀ i, oIsi "int" (.int i) = .ok (.fz (.bl true)) := fun _ => rfl
  have i3 : ∀ i, oIsi "bool" (.int i) = .ok (.fz (.bl false)) := fun _ => rfl
  obtain ⟨e, l, o2, rfl⟩ := forL_nx (t := nName 3) (body := bodyI) (ds := rowD N f) (env := [.fz (.tup (rowD N f)), .fz (.int N), .fz (.int low), .un]) (fun k e => ∃ o2, e = [.fz (.tup (rowD N f)), .fz (.int N), .fz (.int low), o2]) ⟨_, rfl⟩ (by
    rintro i d e hd ⟨o2, rfl⟩
    obtain ⟨hi, rfl⟩ := rowD_at hd
    have hl : ¬ f i < low := by have := h i hi; omega
    refine ⟨_, rfl, _, .inl ?_, .fz (.int (f i)), rfl⟩
    unfold bodyI
    simp [i2, i3, hl])
  rw [hb]
  simp [startE, i1, l]
end LW
end

section
set_option maxRecDepth 100000
set_option maxHeartbeats 1000000
/-! Rules for numbers: sizes by powers of two, offsets, filters. -/
namespace LW
open L2 DL PG
def Bd (n : Nat) (x : Int) : Prop := x.natAbs < 2 ^ n
theorem Bd.up {n m : Nat} {x : Int} (h : Bd n x) (hm : n ≤ m) : Bd m x := Nat.lt_of_lt_of_le h (Nat.pow_le_pow_right (by omega) hm)
theorem Bd.sml {n : Nat} {x : Int} (h : Bd n x) (hn : n ≤ 9000) : Sml x := by
  unfold Sml
  by_cases h0 : x.natAbs = 0
  · rw [h0]; decide
  · have := (Nat.log2_lt h0 (k := n)).mpr h
    omega
theorem Bd.add {n m : Nat} {x y : Int} (h : Bd n x) (g : Bd m y) : Bd (max n m + 1) (x + y) := by
  have a := (h.up (Nat.le_max_left n m)); have b := (g.up (Nat.le_max_right n m))
  unfold Bd at *
  rw [Nat.pow_succ]; omega
theorem Bd.sub {n m : Nat} {x y : Int} (h : Bd n x) (g : Bd m y) : Bd (max n m + 1) (x - y) := by
  have a := (h.up (Nat.le_max_left n m)); have b := (g.up (Nat.le_max_right n m))
  unfold Bd at *
  rw [Nat.pow_succ]; omega
theorem Bd.neg {n : Nat} {x : Int} (h : Bd n x) : Bd n (-x) := by unfold Bd at *; omega
theorem Bd.mul {n m : Nat} {x y : Int} (h : Bd n x) (g : Bd m y) : Bd (n + m) (x * y) := by
  unfold Bd at *
  rw [Int.natAbs_mul, Nat.pow_add]
  exact Nat.mul_lt_mul'' h g
theorem sm_bd {n N : Nat} {f : Nat → Int} (h : ∀ i, i < N → Bd n (f i)) (hN : N < 32) : Bd (n + 5) (Sx.sm N f) := by
  have := Sx.sm_abs (n := N) (f := f) (K := 2 ^ n - 1) fun i hi => by have := h i hi; unfold Bd at this; omega
  unfold Bd
  rw [Nat.pow_add]
  have h2 : N * (2 ^ n - 1) ≤ 31 * (2 ^ n - 1) := Nat.mul_le_mul_right _ (by omega)
  have := Nat.two_pow_pos n
  omega
theorem dot_bd {n m N : Nat} {f g : Nat → Int} (hf : ∀ i, i < N → Bd n (f i)) (hg : ∀ i, i < N → Bd m (g i)) (hN : N < 32) : Bd (n + m + 5) (dotF N f g) := sm_bd (fun i hi => (hf i hi).mul (hg i hi)) hN
theorem bd_0 (n : Nat) : Bd n 0 := by unfold Bd; exact Nat.two_pow_pos n
theorem bd_lit {n : Nat} {x : Int} (h1 : -(2 ^ n : Nat) < x) (h2 : x < (2 ^ n : Nat)) : Bd n x := by unfold Bd; omega
theorem ix_off {N j : Nat} {f : Nat → Int} (c : Nat) (h : c + j < N) : atI (rowD N f) ((c : Int) + (j : Int)) = some (.int (f (c + j))) := by
  have := ix_row (f := f) h
  rwa [Int.natCast_add] at this
theorem mod_b (x : Int) {m : Int} (h : 0 < m) : 0 ≤ x.fmod m ∧ x.fmod m < m := by
  rw [Int.fmod_eq_emod_of_nonneg _ (by omega)]
  exact ⟨Int.emod_nonneg _ (by omega), Int.emod_lt_of_pos _ h⟩
theorem mod_nat (x : Int) {m : Nat} (h : 0 < m) : ∃ q : Nat, q < m ∧ x.fmod m = q := by
  have := mod_b x (m := (m : Int)) (by omega)
  exact ⟨(x.fmod m).toNat, by omega, by omega⟩
/-- a comprehension with a test -/
theorem lcL_filter {α : Type} {t : D → DL.Env → Option DL.Env} {tt : DL.Env → DL.M Bool} {te : DL.Env → DL.M Rs} {env : DL.Env} (xs : List α) (f : α → D) (p : α → Bool) (g : α → D)
    (h : ∀ x, x ∈ xs → ∃ e2, t (f x) env = some e2 ∧ tt e2 = .ok (p x) ∧ (p x = true → ∃ r, te e2 = .ok r ∧ r.d = g x)) : lcL t tt te env (xs.map f) = .ok ((xs.filter p).map g) := by
  induction xs with
  | nil => rfl
  | cons x xs ih =>
    obtain ⟨e2, h1, h2, h3⟩ := h x (List.mem_cons_self ..)
    have ih := ih (fun y hy => h y (List.mem_cons_of_mem _ hy))
    cases hp : p x with
    | false =>
      rw [hp] at h2
      simp only [List.map_cons, lcL, h1, h2, M.bind_ok, ih, List.filter_cons, hp]
      simp [M.bind_ok]
    | true =>
      obtain ⟨r, h4, h5⟩ := h3 hp
      rw [hp] at h2
      simp only [List.map_cons, lcL, h1, h2, h4, M.bind_ok, if_true, ih, List.filter_cons, hp, h5]
theorem sum_filter (N : Nat) (p : Nat → Bool) (f : Nat → Int) : (((List.range N).filter p).map f).sum = Sx.sm N fun i => if p i = true then f i else 0 := by
  induction N with
  | zero => rfl
  | succ N ih =>
    rw [List.range_succ, List.filter_append, List.map_append, List.sum_append, ih]
    cases hp : p N <;> simp [Sx.sm, hp]
theorem sum_filterD (N : Nat) (p : Nat → Bool) (f : Nat → Int) : oSum [.lst (((List.range N).filter p).map fun i => D.int (f i))] = .ok (.fz (.int (Sx.sm N fun i => if p i = true then f i else 0))) := by
  have e : (((List.range N).filter p).map fun i => D.int (f i)) = (((List.range N).filter p).map f).map D.int := by simp
  rw [e]
  simp only [oSum, one1, ofInts, toInts_map, sum_filter]
end LW
end

section
set_option maxRecDepth 100000
set_option maxHeartbeats 1000000
/-! An env by its frozen view: who owns a list does not change what is read. -/
namespace DL
open L2
theorem frz_frz (s : Sl) : s.frz.frz = s.frz := by cases s <;> rfl
theorem view_fzAll : ∀ (A : List Nat) (e : Env), (fzAll A e).map Sl.frz = e.map Sl.frz
  | [], e => rfl
  | i :: A, e => by
    rw [fzAll, view_fzAll A]
    apply List.ext_getElem?
    intro k
    rw [List.getElem?_map, List.getElem?_map, List.getElem?_set]
    by_cases h : i = k
    · subst h
      by_cases hl : i < e.length
      · simp [hl, frz_frz, List.getD]
      · simp [hl]
    · simp [h]
theorem view_frzIf (r : Rs) (A : List Nat) (e : Env) : (frzIf r A e).map Sl.frz = e.map Sl.frz := by
  unfold frzIf
  split
  · rfl
  · exact view_fzAll A e
theorem view_set {e V : Env} (h : e.map Sl.frz = V) (i : Nat) (s : Sl) : (e.set i s).map Sl.frz = V.set i s.frz := by
  rw [List.map_set, h]
theorem ev_view {e V : Env} (h : e.map Sl.frz = V) {i : Nat} {d : D} (hv : V[i]? = some (.fz d)) : eVar i e = .ok (.fz d) := by
  subst h
  rw [List.getElem?_map] at hv
  unfold eVar
  cases q : e[i]? with
  | none => rw [q] at hv; cases hv
  | some s =>
    rw [q] at hv
    have e1 : e.getD i .un = s := by simp [List.getD, q]
    rw [e1]
    cases s with
    | un => cases hv
    | fz d' => cases hv; rfl
    | ow ds => cases hv; rfl
theorem fzAll_keep : ∀ {A : List Nat} {e : Env} {i : Nat}, i ∉ A → (fzAll A e)[i]? = e[i]?
  | [], e, i, _ => rfl
  | j :: A, e, i, h => by
    have h1 : j ≠ i := fun e => h (e ▸ List.mem_cons_self ..)
    have h2 : i ∉ A := fun e => h (List.mem_cons_of_mem _ e)
    rw [fzAll, fzAll_keep h2, List.getElem?_set_ne h1]
theorem frzIf_keep {r : Rs} {A : List Nat} {e : Env} {i : Nat} (h : i ∉ A) : (frzIf r A e)[i]? = e[i]? := by
  unfold frzIf
  split
  · rfl
  · exact fzAll_keep h
theorem own_get {e : Env} {i : Nat} {ds : List D} (h : e[i]? = some (.ow ds)) (k : List D → So) : ownAt e i k = k ds := by
  have e1 : e.getD i .un = .ow ds := by simp [List.getD, h]
  unfold ownAt
  rw [e1]
/-- x = f, read by the view -/
theorem view_sSet {e V : Env} (h : e.map Sl.frz = V) {i : Nat} {A : List Nat} {f : Env → M Rs} {r : Rs} (hf : f e = .ok r) (hi : i < V.length) : ∃ e', sSet i A f e = .nx e' ∧ e'.map Sl.frz = V.set i r.sl.frz ∧ e'[i]? = some r.sl := by
  refine ⟨(frzIf r A e).set i r.sl, ?_, ?_, ?_⟩
  · rw [ev_set, hf]; rfl
  · exact view_set (by rw [view_frzIf, h]) i r.sl
  · have hl : i < (frzIf r A e).length := by
      have : (frzIf r A e).length = ((frzIf r A e).map Sl.frz).length := by simp
      rw [this, view_frzIf, h]; exact hi
    rw [List.getElem?_set_self hl]
theorem view_keep {e : Env} {i j : Nat} {A : List Nat} {f : Env → M Rs} {r : Rs} {s : Sl} (hf : f e = .ok r) (hj : j ∉ A) (hij : i ≠ j) (ho : e[j]? = some s) {e' : Env} (he : sSet i A f e = .nx e') : e'[j]? = some s := by
  rw [ev_set, hf] at he
  have : e' = (frzIf r A e).set i r.sl := by
    have he : So.nx ((frzIf r A e).set i r.sl) = .nx e' := he
    cases he; rfl
  rw [this, List.getElem?_set_ne hij, frzIf_keep hj, ho]
theorem ret_own {e : Env} {i : Nat} {ds : List D} (h : e[i]? = some (.ow ds)) : sRetV i e = .rt (.ow ds) := by
  have e1 : e.getD i .un = .ow ds := by simp [List.getD, h]
  unfold sRetV
  rw [e1]
theorem view_sApp {e V : Env} (h : e.map Sl.frz = V) {i : Nat} {A : List Nat} {f : Env → M Rs} {r : Rs} {ds : List D} (ho : e[i]? = some (.ow ds)) (hi : i ∉ A) (hf : f e = .ok r) (hz : ds.length < 1000000) :
    ∃ e', sApp i A f e = .nx e' ∧ e'.map Sl.frz = V.set i (.fz (.lst (ds ++ [r.d]))) ∧ e'[i]? = some (.ow (ds ++ [r.d])) := by
  have h1 : (frzIf r A e)[i]? = some (.ow ds) := by rw [frzIf_keep hi, ho]
  have hl : i < (frzIf r A e).length := by
    rcases Nat.lt_or_ge i (frzIf r A e).length with h | h
    · exact h
    · rw [List.getElem?_eq_none h] at h1; cases h1
  refine ⟨(frzIf r A e).set i (.ow (ds ++ [r.d])), ?_, ?_, ?_⟩
  · rw [ev_app, own_get ho, hf]
    simp only [ev_ofM]
    rw [own_get h1, if_pos (by have := sz; omega)]
  · exact view_set (by rw [view_frzIf, h]) i _
  · rw [List.getElem?_set_self hl]
end DL
end

section
set_option maxRecDepth 100000
set_option maxHeartbeats 4000000
namespace PG
open L2 DL
def b_misses : DL.Env → DL.So :=
  (sSeq (sIf [2, 0, 2] (tO (tV (e2 (cop .NotEq) (eA oLen (aCons (eVar 2) aNil)) (eA oLen (aCons (eVar 0) aNil)))) (tV (e2 (cop .Lt) (e2 oMinDf (eVar 2) (eC (.int 0))) (eC (.int 0))))) (sRet [] (eC (.bl false))) sNext) (sSeq (sFor [1] (iA oRng1 (aCons (eVar 1) aNil)) (nName 3) (sIf (List.range 64) (tV (e2 (cop .Gt) (eA oSum (aCons (eLc [4, 5, 6] (iA oZip (aCons (eVar 0) (aCons (eVar 2) aNil))) (nTup 2 (nCons (nTup 2 (nCons (nName 4) (nCons (nName 5) nNil))) (nCons (nName 6) nNil))) tYesD (e2 oMul (eVar 6) (e2 oIx (eVar 4) (eVar 3)))) aNil)) (eC (.int 0)))) (sRet [] (eC (.bl false))) sNext)) (sRet (List.range 64) (e2 (cop .Gt) (eA oSum (aCons (eLc [4, 5, 6] (iA oZip (aCons (eVar 0) (aCons (eVar 2) aNil))) (nTup 2 (nCons (nTup 2 (nCons (nName 4) (nCons (nName 5) nNil))) (nCons (nName 6) nNil))) tYesD (e2 oMul (eVar 6) (eVar 5))) aNil)) (eC (.int 0))))))
def m_misses (ds : List DL.D) : DL.M DL.Rs := pureM (runD 7 b_misses ds)
end PG
end

section
set_option maxRecDepth 100000
set_option maxHeartbeats 4000000
noncomputable section
namespace K03
open L2 DL PG LW
def b_law_number : DL.Env → DL.So :=
  (sSeq (sSet 4 [0, 1, 2, 3] (eA oInt (aCons (e2 oIx (eVar 0) (e2 oMod (eA oInt (aCons (e2 oAdd (e2 oAdd (eVar 1) (e2 oMul (eC (.int 5)) (eVar 2))) (eVar 3)) aNil)) (eC (.int 200)))) aNil))) (sRet [4, 2, 3, 3, 2] (e2 oMod (eA oInt (aCons (e2 oAdd (e2 oAdd (eVar 4) (e2 oMul (e2 oMul (eC (.int 37)) (e2 oDiv (eVar 2) (eC (.int 8)))) (e2 oAdd (eVar 3) (eC (.int 1))))) (e2 oMul (e2 oMul (eC (.int 11)) (e2 oDiv (eVar 3) (eC (.int 5)))) (e2 oAdd (eVar 2) (eC (.int 1))))) aNil)) (eC (.int 1000)))))
def m_law_number (ds : List DL.D) : DL.M DL.Rs := pureM (runD 5 b_law_number ds)
def b_law_weights : DL.Env → DL.So :=
  (sSeq (sSet 4 [] (eA oLstD aNil)) (sSeq (sFor [2] (iA oRng1 (aCons (eVar 2) aNil)) (nName 5) (sSeq (sSet 6 [] (eA oLstD aNil)) (sSeq (sFor [3] (iA oRng1 (aCons (eVar 3) aNil)) (nName 7) (sSeq (sSet 8 [0, 1, 5, 7] (eA (oCal 4 m_law_number) (aCons (eVar 0) (aCons (eVar 1) (aCons (eVar 5) (aCons (eVar 7) aNil)))))) (sSeq (sSet 9 [8] (e2 oSub (e2 oMod (eA oInt (aCons (eVar 8) aNil)) (eC (.int 9))) (eC (.int 4)))) (sSeq (sIf [0] (tV (e2 (cop .Eq) (e2 oMod (eA oInt (aCons (e2 oIx (eVar 0) (eC (.int 3))) aNil)) (eC (.int 8))) (eC (.int 1)))) (sSet 9 [9, 8] (e2 oAdd (e2 oMul (eVar 9) (e2 oPow (eC (.int 10)) (eC (.int 12)))) (eVar 8))) sNext) (sSeq (sIf [5, 7, 8] (tAn (tO (tV (e2 (cop .Gt) (eVar 5) (eC (.int 7)))) (tV (e2 (cop .Gt) (eVar 7) (eC (.int 4))))) (tV (e2 (cop .Gt) (e2 oMod (e2 oDiv (eA oInt (aCons (eVar 8) aNil)) (eC (.int 9))) (eC (.int 3))) (eC (.int 0))))) (sSet 9 [] (eC (.int 0))) sNext) (sApp 6 [9] (eVar 9))))))) (sApp 4 [6] (eVar 6))))) (sRetV 4)))
def m_law_weights (ds : List DL.D) : DL.M DL.Rs := pureM (runD 10 b_law_weights ds)
def b_law_dot : DL.Env → DL.So :=
  (sRet (List.range 64) (eA oSum (aCons (eLc [2] (iA oRng1 (aCons (eA oLen (aCons (eVar 0) aNil)) aNil)) (nName 2) tYesD (e2 oMul (e2 oIx (eVar 0) (eVar 2)) (e2 oIx (eVar 1) (eVar 2)))) aNil)))
def m_law_dot (ds : List DL.D) : DL.M DL.Rs := pureM (runD 3 b_law_dot ds)
def b_law_best_pair : DL.Env → DL.So :=
  (sSeq (sSet 3 [0, 1, 2] (eA (oCal 4 m_law_weights) (aCons (eVar 0) (aCons (eC (.int 20)) (aCons (eVar 1) (aCons (eVar 2) aNil)))))) (sSeq (sSet 4 (List.range 64) (eLc [10] (iA oRng1 (aCons (eVar 1) aNil)) (nName 10) tYesD (e2 oMod (eA oInt (aCons (e2 oAdd (e2 oIx (eVar 0) (e2 oAdd (eC (.int 145)) (e2 oMod (eA oInt (aCons (eVar 10) aNil)) (eC (.int 8))))) (e2 oMul (eC (.int 17)) (e2 oDiv (eVar 10) (eC (.int 8))))) aNil)) (eC (.int 4))))) (sSeq (sSet 5 (List.range 64) (eLc [7] (iA oRng1 (aCons (eVar 2) aNil)) (nName 7) tYesD (e2 oMod (eA oInt (aCons (e2 oAdd (e2 oIx (eVar 0) (e2 oAdd (eC (.int 140)) (e2 oMod (eA oInt (aCons (eVar 7) aNil)) (eC (.int 5))))) (e2 oMul (eC (.int 13)) (e2 oDiv (eVar 7) (eC (.int 5))))) aNil)) (eC (.int 5))))) (sSeq (sSet 6 [] (eA oLstD aNil)) (sSeq (sFor [2] (iA oRng1 (aCons (eVar 2) aNil)) (nName 7) (sSeq (sSet 8 (List.range 64) (eA oSum (aCons (eLc [10] (iA oRng1 (aCons (eVar 1) aNil)) (nName 10) tYesD (e2 oMul (e2 oIx (eVar 4) (eVar 10)) (e2 oIx (e2 oIx (eVar 3) (eVar 10)) (eVar 7)))) aNil))) (sSeq (sIf [8] (tV (e2 (cop .Lt) (eVar 8) (eC (.int 0)))) (sSetIx 5 [] [7] (eC (.int 0)) (eVar 7)) sNext) (sIf [5, 7] (tV (e2 (cop .Gt) (e2 oIx (eVar 5) (eVar 7)) (eC (.int 0)))) (sApp 6 [8] (eVar 8)) (sApp 6 [8, 0, 7] (e2 oAdd (eA oMax (aCons (eC (.int 0)) (aCons (eVar 8) aNil))) (e2 oMod (eA oInt (aCons (e2 oIx (eVar 0) (e2 oAdd (eC (.int 161)) (e2 oMod (eA oInt (aCons (eVar 7) aNil)) (eC (.int 5))))) aNil)) (eC (.int 4))))))))) (sSeq (sSet 9 [] (eA oLstD aNil)) (sSeq (sFor [1] (iA oRng1 (aCons (eVar 1) aNil)) (nName 10) (sSeq (sSet 11 [3, 10, 5] (eA (oCal 2 m_law_dot) (aCons (e2 oIx (eVar 3) (eVar 10)) (aCons (eVar 5) aNil)))) (sSeq (sIf [4, 10] (tV (e2 (cop .Eq) (e2 oIx (eVar 4) (eVar 10)) (eC (.int 0)))) (sSet 11 [11, 0, 10] (e2 oSub (eVar 11) (e2 oMod (eA oInt (aCons (e2 oIx (eVar 0) (e2 oAdd (eC (.int 153)) (e2 oMod (eA oInt (aCons (eVar 10) aNil)) (eC (.int 8))))) aNil)) (eC (.int 4))))) sNext) (sApp 9 [3, 10, 11] (eA oTupD (aCons (e2 oIx (eVar 3) (eVar 10)) (aCons (eVar 11) aNil))))))) (sRet [6, 9, 5, 4] (eA oTupD (aCons (eVar 6) (aCons (eVar 9) (aCons (eVar 5) (aCons (eVar 4) aNil)))))))))))))
def m_law_best_pair (ds : List DL.D) : DL.M DL.Rs := pureM (runD 12 b_law_best_pair ds)
def b_law_free : DL.Env → DL.So :=
  (sSeq (sSet 3 [0, 1, 2] (eA (oCal 4 m_law_weights) (aCons (eVar 0) (aCons (eC (.int 100)) (aCons (eVar 1) (aCons (eVar 2) aNil)))))) (sSeq (sSet 4 (List.range 64) (eLc [5] (iA oRng1 (aCons (eVar 2) aNil)) (nName 5) tYesD (e2 oMod (eA oInt (aCons (e2 oIx (eVar 0) (e2 oAdd (eC (.int 195)) (e2 oMod (eA oInt (aCons (eVar 5) aNil)) (eC (.int 5))))) aNil)) (eC (.int 7))))) (sRet ([4] ++ List.range 64) (eA oTupD (aCons (eVar 4) (aCons (eLc [6] (iA oRng1 (aCons (eVar 1) aNil)) (nName 6) tYesD (eA oTupD (aCons (e2 oIx (eVar 3) (eVar 6)) (aCons (e2 oSub (e2 oMod (eA oInt (aCons (e2 oIx (eVar 0) (e2 oAdd (eC (.int 187)) (e2 oMod (eA oInt (aCons (eVar 6) aNil)) (eC (.int 8))))) aNil)) (eC (.int 15))) (eC (.int 6))) aNil)))) aNil))))))
def m_law_free (ds : List DL.D) : DL.M DL.Rs := pureM (runD 7 b_law_free ds)
def b_law_pick : DL.Env → DL.So :=
  (sSeq (sIf [0] (tV (e2 (cop .Eq) (eA oLen (aCons (eVar 0) aNil)) (eC (.int 0)))) (sRetV 2) sNext) (sRet [0, 1, 0] (e2 oIx (eVar 0) (e2 oMod (eA oInt (aCons (eVar 1) aNil)) (eA oLen (aCons (eVar 0) aNil))))))
def m_law_pick (ds : List DL.D) : DL.M DL.Rs := pureM (runD 3 b_law_pick ds)
def b_law_column : DL.Env → DL.So :=
  (sRet (List.range 64) (eA oSum (aCons (eLc [3] (iA oRng1 (aCons (eA oLen (aCons (eVar 1) aNil)) aNil)) (nName 3) tYesD (e2 oMul (e2 oIx (eVar 1) (eVar 3)) (e2 oIx (e2 oIx (e2 oIx (eVar 0) (eVar 3)) (eC (.int 0))) (eVar 2)))) aNil)))
def m_law_column (ds : List DL.D) : DL.M DL.Rs := pureM (runD 4 b_law_column ds)
def b_law_with_bound : DL.Env → DL.So :=
  (sRet [0, 1, 0, 1, 2, 0, 1] (e2 oAdd (e2 oAdd (e3o oSl (eVar 0) pNo (pSome (eVar 1))) (eA oLstD (aCons (eA oTupD (aCons (e2 oIx (e2 oIx (eVar 0) (eVar 1)) (eC (.int 0))) (aCons (eVar 2) aNil))) aNil))) (e3o oSl (eVar 0) (pSome (e2 oAdd (eVar 1) (eC (.int 1)))) pNo)))
def m_law_with_bound (ds : List DL.D) : DL.M DL.Rs := pureM (runD 3 b_law_with_bound ds)
def b_law_with_weight : DL.Env → DL.So :=
  (sSeq (sSet 4 [0, 1] (eA oList (aCons (e2 oIx (e2 oIx (eVar 0) (eVar 1)) (eC (.int 0))) aNil))) (sSeq (sSetIx 4 [4, 2, 3] [2] (e2 oAdd (e2 oIx (eVar 4) (eVar 2)) (eVar 3)) (eVar 2)) (sRet [0, 1, 4, 0, 1, 0, 1] (e2 oAdd (e2 oAdd (e3o oSl (eVar 0) pNo (pSome (eVar 1))) (eA oLstD (aCons (eA oTupD (aCons (eVar 4) (aCons (e2 oIx (e2 oIx (eVar 0) (eVar 1)) (eC (.int 1))) aNil))) aNil))) (e3o oSl (eVar 0) (pSome (e2 oAdd (eVar 1) (eC (.int 1)))) pNo)))))
def m_law_with_weight (ds : List DL.D) : DL.M DL.Rs := pureM (runD 5 b_law_with_weight ds)
def b_law_best_changes : DL.Env → DL.So :=
  (sSeq (sSet 5 [1] (eA oLen (aCons (eVar 1) aNil))) (sSeq (sSet 6 [2] (eA oLen (aCons (eVar 2) aNil))) (sSeq (sSet 7 [0] (e2 oAdd (eC (.int 2)) (e2 oMod (eA oInt (aCons (e2 oIx (eVar 0) (eC (.int 8))) aNil)) (eC (.int 5))))) (sSeq (sSet 8 (List.range 64 ++ [0]) (eA (oCal 3 m_law_pick) (aCons (eLc [18] (iA oRng1 (aCons (eVar 6) aNil)) (nName 18) (tV (e2 (cop .Eq) (e2 oIx (eVar 4) (eVar 18)) (eC (.int 0)))) (eVar 18)) (aCons (e2 oIx (eVar 0) (eC (.int 6))) (aCons (eC (.int 0)) aNil))))) (sSeq (sSet 9 (List.range 64 ++ [0]) (eA (oCal 3 m_law_pick) (aCons (eLc [18] (iA oRng1 (aCons (eVar 6) aNil)) (nName 18) (tV (e2 (cop .Gt) (e2 oIx (eVar 4) (eVar 18)) (eC (.int 0)))) (eVar 18)) (aCons (e2 oIx (eVar 0) (eC (.int 7))) (aCons (eC (.int 0)) aNil))))) (sSeq (sSet 10 (List.range 64 ++ [0]) (eA (oCal 3 m_law_pick) (aCons (eLc [17] (iA oRng1 (aCons (eVar 5) aNil)) (nName 17) (tV (e2 (cop .Eq) (e2 oIx (eVar 3) (eVar 17)) (eC (.int 0)))) (eVar 17)) (aCons (e2 oIx (eVar 0) (eC (.int 9))) (aCons (eC (.int 0)) aNil))))) (sSeq (sSet 11 [2, 4, 10] (eA (oCal 3 m_law_column) (aCons (eVar 2) (aCons (eVar 4) (aCons (eVar 10) aNil))))) (sSeq (sSet 12 [1] (eA oList (aCons (eVar 1) aNil))) (sSeq (sSetIx 12 [1, 10, 11] [10] (eA oMax (aCons (eC (.int 0)) (aCons (e2 oSub (eA oMin (aCons (e2 oIx (eVar 1) (eVar 10)) (aCons (eVar 11) aNil))) (eC (.int 1))) aNil))) (eVar 10)) (sSeq (sSet 13 (List.range 64) (eLc [19, 20] (iE iterA (eVar 2)) (nTup 2 (nCons (nName 19) (nCons (nName 20) nNil))) tYesD (eA oTupD (aCons (e2 oAdd (eVar 19) (eA oLstD (aCons (eC (.int 0)) aNil))) (aCons (eVar 20) aNil))))) (sSeq (sSet 14 [2, 5] (e2 oAdd (eVar 2) (eA oLstD (aCons (eA oTupD (aCons (e2 oMul (eA oLstD (aCons (eC (.int 0)) aNil)) (eVar 5)) (aCons (eC (.int 0)) aNil))) aNil)))) (sSeq (sSet 15 [2, 8, 2, 8, 3] (eA (oCal 3 m_law_with_bound) (aCons (eVar 2) (aCons (eVar 8) (aCons (e2 oAdd (eA (oCal 2 m_law_dot) (aCons (e2 oIx (e2 oIx (eVar 2) (eVar 8)) (eC (.int 0))) (aCons (eVar 3) aNil))) (eC (.int 1))) aNil))))) (sSeq (sSet 16 ([1, 2, 7] ++ (List.range 64 ++ List.range 64)) (eA oLstD (aCons (eA oTupD (aCons (eVar 1) (aCons (eVar 2) (aCons (eVar 7) (aCons (eLc [21] (iE iterA (eVar 3)) (nName 21) tYesD (e2 oMul (eVar 7) (eVar 21))) (aCons (eLc [21] (iE iterA (eVar 4)) (nName 21) tYesD (e2 oMul (eVar 7) (eVar 21))) aNil)))))) aNil))) (sSeq (sSet 16 [16, 1, 2, 5, 6, 1, 2, 3, 4] (e2 oAdd (eVar 16) (eA oLstD (aCons (eA oTupD (aCons (eVar 1) (aCons (eVar 2) (aCons (eC (.int 0)) (aCons (e2 oMul (eA oLstD (aCons (eC (.int 0)) aNil)) (eVar 5)) (aCons (e2 oMul (eA oLstD (aCons (eC (.int 0)) aNil)) (eVar 6)) aNil)))))) (aCons (eA oTupD (aCons (eVar 1) (aCons (eVar 2) (aCons (eC (.int 2)) (aCons (eVar 3) (aCons (eVar 4) aNil)))))) aNil))))) (sSeq (sSet 16 [16, 1, 13, 3, 4, 1, 13, 3, 4] (e2 oAdd (eVar 16) (eA oLstD (aCons (eA oTupD (aCons (e2 oAdd (eVar 1) (eA oLstD (aCons (eC (.int 0)) aNil))) (aCons (eVar 13) (aCons (eC (.int 1)) (aCons (e2 oAdd (eVar 3) (eA oLstD (aCons (eC (.int 0)) aNil))) (aCons (eVar 4) aNil)))))) (aCons (eA oTupD (aCons (e2 oAdd (eVar 1) (eA oLstD (aCons (eC (.int 0)) aNil))) (aCons (eVar 13) (aCons (eC (.int 1)) (aCons (e2 oAdd (eVar 3) (eA oLstD (aCons (e1 oNeg (eC (.int 1))) aNil))) (aCons (eVar 4) aNil)))))) aNil))))) (sSeq (sSet 16 [16, 1, 13, 3, 4, 1, 2, 3, 4] (e2 oAdd (eVar 16) (eA oLstD (aCons (eA oTupD (aCons (e2 oAdd (eVar 1) (eA oLstD (aCons (eC (.int 0)) aNil))) (aCons (eVar 13) (aCons (eC (.int 1)) (aCons (eVar 3) (aCons (eVar 4) aNil)))))) (aCons (eA oTupD (aCons (eVar 1) (aCons (eVar 2) (aCons (eC (.int 1)) (aCons (e2 oAdd (eVar 3) (eA oLstD (aCons (eC (.int 0)) aNil))) (aCons (eVar 4) aNil)))))) aNil))))) (sSeq (sSet 16 [16, 1, 14, 3, 4, 1, 14, 3, 4] (e2 oAdd (eVar 16) (eA oLstD (aCons (eA oTupD (aCons (eVar 1) (aCons (eVar 14) (aCons (eC (.int 1)) (aCons (eVar 3) (aCons (e2 oAdd (eVar 4) (eA oLstD (aCons (eC (.int 0)) aNil))) aNil)))))) (aCons (eA oTupD (aCons (eVar 1) (aCons (eVar 14) (aCons (eC (.int 1)) (aCons (eVar 3) (aCons (e2 oAdd (eVar 4) (eA oLstD (aCons (e1 oNeg (eC (.int 1))) aNil))) aNil)))))) aNil))))) (sSeq (sSet 16 [16, 1, 14, 3, 4, 1, 2, 3, 4] (e2 oAdd (eVar 16) (eA oLstD (aCons (eA oTupD (aCons (eVar 1) (aCons (eVar 14) (aCons (eC (.int 1)) (aCons (eVar 3) (aCons (eVar 4) aNil)))))) (aCons (eA oTupD (aCons (eVar 1) (aCons (eVar 2) (aCons (eC (.int 1)) (aCons (eVar 3) (aCons (e2 oAdd (eVar 4) (eA oLstD (aCons (eC (.int 0)) aNil))) aNil)))))) aNil))))) (sSeq (sSet 16 [16, 1, 15, 3, 4, 12, 2, 3, 4] (e2 oAdd (eVar 16) (eA oLstD (aCons (eA oTupD (aCons (eVar 1) (aCons (eVar 15) (aCons (eC (.int 1)) (aCons (eVar 3) (aCons (eVar 4) aNil)))))) (aCons (eA oTupD (aCons (eVar 12) (aCons (eVar 2) (aCons (eC (.int 1)) (aCons (eVar 3) (aCons (eVar 4) aNil)))))) aNil))))) (sSeq (sApp 16 [1, 2, 9, 2, 9, 3, 4] (eA oTupD (aCons (eVar 1) (aCons (eA (oCal 3 m_law_with_bound) (aCons (eVar 2) (aCons (eVar 9) (aCons (e2 oSub (e2 oIx (e2 oIx (eVar 2) (eVar 9)) (eC (.int 1))) (eC (.int 1))) aNil)))) (aCons (eC (.int 1)) (aCons (eVar 3) (aCons (eVar 4) aNil))))))) (sSeq (sApp 16 [1, 2, 9, 10, 1, 10, 11, 3, 4] (eA oTupD (aCons (eVar 1) (aCons (eA (oCal 4 m_law_with_weight) (aCons (eVar 2) (aCons (eVar 9) (aCons (eVar 10) (aCons (e2 oAdd (e2 oSub (e2 oIx (eVar 1) (eVar 10)) (eVar 11)) (eC (.int 1))) aNil))))) (aCons (eC (.int 1)) (aCons (eVar 3) (aCons (eVar 4) aNil))))))) (sSeq (sSet 17 [0, 5] (e2 oMod (eA oInt (aCons (e2 oIx (eVar 0) (eC (.int 10))) aNil)) (eVar 5))) (sSeq (sApp 16 [1, 2, 3, 17, 3, 17, 3, 17, 4] (eA oTupD (aCons (eVar 1) (aCons (eVar 2) (aCons (eC (.int 1)) (aCons (e2 oAdd (e2 oAdd (e3o oSl (eVar 3) pNo (pSome (eVar 17))) (eA oLstD (aCons (e2 oAdd (e2 oIx (eVar 3) (eVar 17)) (eC (.int 1))) aNil))) (e3o oSl (eVar 3) (pSome (e2 oAdd (eVar 17) (eC (.int 1)))) pNo)) (aCons (eVar 4) aNil))))))) (sSeq (sSet 18 [0, 6] (e2 oMod (eA oInt (aCons (e2 oIx (eVar 0) (eC (.int 13))) aNil)) (eVar 6))) (sSeq (sApp 16 [1, 2, 3, 4, 18, 4, 18, 4, 18] (eA oTupD (aCons (eVar 1) (aCons (eVar 2) (aCons (eC (.int 1)) (aCons (eVar 3) (aCons (e2 oAdd (e2 oAdd (e3o oSl (eVar 4) pNo (pSome (eVar 18))) (eA oLstD (aCons (e2 oAdd (e2 oIx (eVar 4) (eVar 18)) (eC (.int 1))) aNil))) (e3o oSl (eVar 4) (pSome (e2 oAdd (eVar 18) (eC (.int 1)))) pNo)) aNil))))))) (sRetV 16))))))))))))))))))))))))))
def m_law_best_changes (ds : List DL.D) : DL.M DL.Rs := pureM (runD 22 b_law_best_changes ds)
def b_law_paid : DL.Env → DL.So :=
  (sRet (List.range 64) (eA oSum (aCons (eLc [2] (iA oRng1 (aCons (eA oLen (aCons (eVar 1) aNil)) aNil)) (nName 2) tYesD (e2 oMul (e2 oIx (eVar 1) (eVar 2)) (e2 oIx (e2 oIx (eVar 0) (eVar 2)) (eC (.int 1))))) aNil)))
def m_law_paid (ds : List DL.D) : DL.M DL.Rs := pureM (runD 3 b_law_paid ds)
def b_law_none_changes : DL.Env → DL.So :=
  (sSeq (sSet 4 [0] (e2 oAdd (eC (.int 2)) (e2 oMod (eA oInt (aCons (e2 oIx (eVar 0) (eC (.int 14))) aNil)) (eC (.int 5))))) (sSeq (sSet 5 [0, 2] (e2 oMod (eA oInt (aCons (e2 oIx (eVar 0) (eC (.int 15))) aNil)) (eVar 2))) (sSeq (sSet 6 [1, 3, 5, 3] (e2 oAdd (e2 oDiv (e2 oSub (eC (.int 0)) (eA (oCal 3 m_law_column) (aCons (eVar 1) (aCons (eVar 3) (aCons (eVar 5) aNil))))) (e2 oIx (eVar 3) (e1 oNeg (eC (.int 1))))) (eC (.int 1)))) (sSeq (sSet 7 [1, 3, 3] (e2 oDiv (e2 oSub (eC (.int 0)) (eA (oCal 2 m_law_paid) (aCons (eVar 1) (aCons (eVar 3) aNil)))) (e2 oIx (eVar 3) (e1 oNeg (eC (.int 1)))))) (sSeq (sSet 8 [1, 2] (e2 oAdd (eVar 1) (eA oLstD (aCons (eA oTupD (aCons (e2 oMul (eA oLstD (aCons (eC (.int 0)) aNil)) (eVar 2)) (aCons (eC (.int 0)) aNil))) aNil)))) (sSeq (sSet 9 ([1] ++ (List.range 64 ++ [1, 3, 8, 3])) (eA oLstD (aCons (eA oTupD (aCons (eVar 1) (aCons (eLc [10] (iE iterA (eVar 3)) (nName 10) tYesD (e2 oMul (eVar 4) (eVar 10))) aNil))) (aCons (eA oTupD (aCons (eVar 1) (aCons (e2 oMul (eA oLstD (aCons (eC (.int 0)) aNil)) (eA oLen (aCons (eVar 3) aNil))) aNil))) (aCons (eA oTupD (aCons (eVar 8) (aCons (e2 oAdd (eVar 3) (eA oLstD (aCons (eC (.int 0)) aNil))) aNil))) aNil))))) (sSeq (sSet 9 [9, 8, 3, 8, 3, 1, 3] (e2 oAdd (eVar 9) (eA oLstD (aCons (eA oTupD (aCons (eVar 8) (aCons (e2 oAdd (eVar 3) (eA oLstD (aCons (e1 oNeg (eC (.int 1))) aNil))) aNil))) (aCons (eA oTupD (aCons (eVar 8) (aCons (eVar 3) aNil))) (aCons (eA oTupD (aCons (eVar 1) (aCons (e2 oAdd (eVar 3) (eA oLstD (aCons (eC (.int 0)) aNil))) aNil))) aNil)))))) (sSeq (sApp 9 [1, 1, 5, 6, 3] (eA oTupD (aCons (eA (oCal 4 m_law_with_weight) (aCons (eVar 1) (aCons (e2 oSub (eA oLen (aCons (eVar 1) aNil)) (eC (.int 1))) (aCons (eVar 5) (aCons (eVar 6) aNil))))) (aCons (eVar 3) aNil)))) (sSeq (sApp 9 [1, 1, 1, 7, 3] (eA oTupD (aCons (eA (oCal 3 m_law_with_bound) (aCons (eVar 1) (aCons (e2 oSub (eA oLen (aCons (eVar 1) aNil)) (eC (.int 1))) (aCons (e2 oAdd (e2 oIx (e2 oIx (eVar 1) (e1 oNeg (eC (.int 1)))) (eC (.int 1))) (eVar 7)) aNil)))) (aCons (eVar 3) aNil)))) (sSeq (sApp 9 [1, 3, 3] (eA oTupD (aCons (eVar 1) (aCons (e2 oAdd (e3o oSl (eVar 3) pNo (pSome (e1 oNeg (eC (.int 1))))) (eA oLstD (aCons (e2 oSub (e2 oIx (eVar 3) (e1 oNeg (eC (.int 1)))) (eC (.int 1))) aNil))) aNil)))) (sRetV 9)))))))))))
def m_law_none_changes (ds : List DL.D) : DL.M DL.Rs := pureM (runD 11 b_law_none_changes ds)
def b_law_shows : DL.Env → DL.So :=
  (sSeq (sIf [2, 3, 0, 4, 1] (tO (tV (e2 (cop .Lt) (eVar 2) (eC (.int 1)))) (tO (tV (e2 (cop .NotEq) (eA oLen (aCons (eVar 3) aNil)) (eA oLen (aCons (eVar 0) aNil)))) (tV (e2 (cop .NotEq) (eA oLen (aCons (eVar 4) aNil)) (eA oLen (aCons (eVar 1) aNil)))))) (sRet [] (eC (.bl false))) sNext) (sSeq (sIf [3, 4] (tO (tV (e2 (cop .Lt) (eA oMin (aCons (eA oList (aCons (eVar 3) aNil)) aNil)) (eC (.int 0)))) (tV (e2 (cop .Lt) (eA oMin (aCons (e2 oAdd (eA oList (aCons (eVar 4) aNil)) (eA oLstD (aCons (eC (.int 0)) aNil))) aNil)) (eC (.int 0))))) (sRet [] (eC (.bl false))) sNext) (sSeq (sFor [1] (iE iterA (eVar 1)) (nTup 2 (nCons (nName 5) (nCons (nName 6) nNil))) (sIf [5, 3, 6, 2] (tV (e2 (cop .Lt) (eA (oCal 2 m_law_dot) (aCons (eVar 5) (aCons (eVar 3) aNil))) (e2 oMul (eVar 6) (eVar 2)))) (sRet [] (eC (.bl false))) sNext)) (sSeq (sFor [0] (iA oRng1 (aCons (eA oLen (aCons (eVar 0) aNil)) aNil)) (nName 7) (sIf [1, 4, 7, 0, 7, 2] (tV (e2 (cop .Gt) (eA (oCal 3 m_law_column) (aCons (eVar 1) (aCons (eVar 4) (aCons (eVar 7) aNil)))) (e2 oMul (e2 oIx (eVar 0) (eVar 7)) (eVar 2)))) (sRet [] (eC (.bl false))) sNext)) (sRet [0, 3, 1, 4] (e2 (cop .Eq) (eA (oCal 2 m_law_dot) (aCons (eVar 0) (aCons (eVar 3) aNil))) (eA (oCal 2 m_law_paid) (aCons (eVar 1) (aCons (eVar 4) aNil)))))))))
def m_law_shows (ds : List DL.D) : DL.M DL.Rs := pureM (runD 8 b_law_shows ds)
def b_law_misses : DL.Env → DL.So :=
  (sSeq (sIf [2, 0, 2] (tO (tV (e2 (cop .NotEq) (eA oLen (aCons (eVar 2) aNil)) (eA oLen (aCons (eVar 0) aNil)))) (tV (e2 (cop .Lt) (eA oMin (aCons (e2 oAdd (eA oList (aCons (eVar 2) aNil)) (eA oLstD (aCons (eC (.int 0)) aNil))) aNil)) (eC (.int 0))))) (sRet [] (eC (.bl false))) sNext) (sSeq (sFor [1] (iA oRng1 (aCons (eVar 1) aNil)) (nName 3) (sIf [0, 2, 3] (tV (e2 (cop .Gt) (eA (oCal 3 m_law_column) (aCons (eVar 0) (aCons (eVar 2) (aCons (eVar 3) aNil)))) (eC (.int 0)))) (sRet [] (eC (.bl false))) sNext)) (sRet [0, 2] (e2 (cop .Gt) (eA (oCal 2 m_law_paid) (aCons (eVar 0) (aCons (eVar 2) aNil))) (eC (.int 0))))))
def m_law_misses (ds : List DL.D) : DL.M DL.Rs := pureM (runD 4 b_law_misses ds)
def b_law_judged : DL.Env → DL.So :=
  (sSeq (sAsg [1] (nTup 4 (nCons (nName 3) (nCons (nName 4) (nCons (nName 5) (nCons (nName 6) nNil))))) (eVar 1)) (sSeq (sIf [3, 4, 5, 6] (tN (tV (eA (oCal 2 m_law_same) (aCons (eA (oCal 5 m_shows_least) (aCons (eVar 3) (aCons (eVar 4) (aCons (eC (.int 1)) (aCons (eA oTuple (aCons (eVar 5) aNil)) (aCons (eA oTuple (aCons (eVar 6) aNil)) aNil)))))) (aCons (eC (.bl true)) aNil))))) (sRet [] (eC (.bl false))) sNext) (sSeq (sFor [0, 3, 4, 5, 6] (iE iterA (eA (oCal 5 m_law_best_changes) (aCons (eVar 0) (aCons (eVar 3) (aCons (eVar 4) (aCons (eVar 5) (aCons (eVar 6) aNil))))))) (nTup 5 (nCons (nName 7) (nCons (nName 8) (nCons (nName 9) (nCons (nName 10) (nCons (nName 11) nNil)))))) (sSeq (sSet 12 [7, 8, 9, 10, 11] (eA (oCal 5 m_law_shows) (aCons (eVar 7) (aCons (eVar 8) (aCons (eVar 9) (aCons (eVar 10) (aCons (eVar 11) aNil))))))) (sIf [7, 8, 9, 10, 11, 12] (tN (tV (eA (oCal 2 m_law_same) (aCons (eA (oCal 5 m_shows_least) (aCons (eVar 7) (aCons (eVar 8) (aCons (eVar 9) (aCons (eA oTuple (aCons (eVar 10) aNil)) (aCons (eA oTuple (aCons (eVar 11) aNil)) aNil)))))) (aCons (eVar 12) aNil))))) (sRet [] (eC (.bl false))) sNext))) (sSeq (sAsg [2] (nTup 3 (nCons (nName 3) (nCons (nName 4) (nCons (nName 6) nNil)))) (eVar 2)) (sSeq (sIf [4, 3, 6] (tN (tV (eA (oCal 2 m_law_same) (aCons (eA (oCal 3 m_misses) (aCons (eVar 4) (aCons (eA oLen (aCons (eVar 3) aNil)) (aCons (eA oTuple (aCons (eVar 6) aNil)) aNil)))) (aCons (eC (.bl true)) aNil))))) (sRet [] (eC (.bl false))) sNext) (sSeq (sFor [0, 4, 3, 6] (iE iterA (eA (oCal 4 m_law_none_changes) (aCons (eVar 0) (aCons (eVar 4) (aCons (eA oLen (aCons (eVar 3) aNil)) (aCons (eVar 6) aNil)))))) (nTup 2 (nCons (nName 8) (nCons (nName 11) nNil))) (sIf [8, 3, 11, 8, 3, 11] (tN (tV (eA (oCal 2 m_law_same) (aCons (eA (oCal 3 m_misses) (aCons (eVar 8) (aCons (eA oLen (aCons (eVar 3) aNil)) (aCons (eA oTuple (aCons (eVar 11) aNil)) aNil)))) (aCons (eA (oCal 3 m_law_misses) (aCons (eVar 8) (aCons (eA oLen (aCons (eVar 3) aNil)) (aCons (eVar 11) aNil)))) aNil))))) (sRet [] (eC (.bl false))) sNext)) (sRet [] (eC (.bl true)))))))))
def m_law_judged (ds : List DL.D) : DL.M DL.Rs := pureM (runD 13 b_law_judged ds)
def b_law_common : DL.Env → DL.So :=
  (sSeq (sSet 1 [] (eC (.int 0))) (sSeq (sFor [0] (iE iterA (eVar 0)) (nName 2) (sSeq (sSet 3 [2] (eA oAbs (aCons (eVar 2) aNil))) (sFor [3] (iA oRng1 (aCons (e2 oAdd (e2 oMul (eC (.int 2)) (e1 oBits (eVar 3))) (eC (.int 4))) aNil)) (nName 4) (sSeq (sIf [3] (tV (e2 (cop .Eq) (eVar 3) (eC (.int 0)))) .bk sNext) (sPar 1 3 [3, 1, 3] (aCons (eVar 3) (aCons (e2 oMod (eA oInt (aCons (eVar 1) aNil)) (eVar 3)) aNil))))))) (sRetV 1)))
def m_law_common (ds : List DL.D) : DL.M DL.Rs := pureM (runD 5 b_law_common ds)
def b_law_word : DL.Env → DL.So :=
  (sSeq (sIf [2, 2, 2] (tO (tN (tV (e1 (oIsi "tuple") (eVar 2)))) (tO (tV (e2 (oInI true) (eA oLen (aCons (eVar 2) aNil)) (eA oTupD (aCons (eC (.int 2)) (aCons (eC (.int 4)) aNil))))) (tN (tV (e1 (oIsi "str") (e2 oIx (eVar 2) (eC (.int 0)))))))) (sRet [] (eC (.str ""))) sNext) (sSeq (sIf [2, 1] (tN (tV (eA (oCal 3 m_law_integers) (aCons (e2 oIx (eVar 2) (e1 oNeg (eC (.int 1)))) (aCons (eA oLen (aCons (eVar 1) aNil)) (aCons (eC (.int 0)) aNil)))))) (sRet [] (eC (.str ""))) sNext) (sSeq (sIf [2, 2] (tAn (tV (e2 (cop .Eq) (e2 oIx (eVar 2) (eC (.int 0))) (eC (.str "none")))) (tV (e2 (cop .Eq) (eA oLen (aCons (eVar 2) aNil)) (eC (.int 2))))) (sSeq (sIf [2, 1, 0, 2] (tAn (tV (e2 (cop .Eq) (eA (oCal 1 m_law_common) (aCons (e2 oIx (eVar 2) (eC (.int 1))) aNil)) (eC (.int 1)))) (tV (eA (oCal 3 m_law_misses) (aCons (eVar 1) (aCons (eA oLen (aCons (eVar 0) aNil)) (aCons (e2 oIx (eVar 2) (eC (.int 1))) aNil)))))) (sRet [] (eC (.str "none"))) sNext) (sRet [] (eC (.str "")))) sNext) (sSeq (sIf [2, 2, 2] (tO (tV (e2 (cop .NotEq) (e2 oIx (eVar 2) (eC (.int 0))) (eC (.str "least")))) (tO (tV (e2 (cop .NotEq) (eA oLen (aCons (eVar 2) aNil)) (eC (.int 4)))) (tN (tV (eA (oCal 3 m_law_integers) (aCons (eA oTupD (aCons (e2 oIx (eVar 2) (eC (.int 1))) aNil)) (aCons (eC (.int 1)) (aCons (eC (.int 1)) aNil)))))))) (sRet [] (eC (.str ""))) sNext) (sSeq (sIf [2, 0, 2, 2, 2] (tO (tN (tV (eA (oCal 3 m_law_integers) (aCons (e2 oIx (eVar 2) (eC (.int 2))) (aCons (eA oLen (aCons (eVar 0) aNil)) (aCons (eC (.int 0)) aNil)))))) (tV (e2 (cop .NotEq) (eA (oCal 1 m_law_common) (aCons (e2 oAdd (e2 oAdd (eA oTupD (aCons (e2 oIx (eVar 2) (eC (.int 1))) aNil)) (e2 oIx (eVar 2) (eC (.int 2)))) (e2 oIx (eVar 2) (eC (.int 3)))) aNil)) (eC (.int 1))))) (sRet [] (eC (.str ""))) sNext) (sSeq (sIf [0, 1, 2, 2, 2] (tV (eA (oCal 5 m_law_shows) (aCons (eVar 0) (aCons (eVar 1) (aCons (e2 oIx (eVar 2) (eC (.int 1))) (aCons (e2 oIx (eVar 2) (eC (.int 2))) (aCons (e2 oIx (eVar 2) (eC (.int 3))) aNil))))))) (sRet [] (eC (.str "least"))) sNext) (sRet [] (eC (.str "")))))))))
def m_law_word (ds : List DL.D) : DL.M DL.Rs := pureM (runD 3 b_law_word ds)
def b_law_asked : DL.Env → DL.So :=
  (sSeq (sSet 3 (List.range 64) (eLc [8, 9] (iE iterA (eVar 2)) (nTup 2 (nCons (nName 8) (nCons (nName 9) nNil))) tYesD (eA oTupD (aCons (eA oList (aCons (eVar 8) aNil)) (aCons (eVar 9) aNil))))) (sSeq (sIf [0] (tV (e2 (cop .Eq) (e2 oMod (eA oInt (aCons (e2 oIx (eVar 0) (eC (.int 199))) aNil)) (eC (.int 2))) (eC (.int 1)))) (sSet 3 (List.range 64) (eLc [8, 9] (iE iterA (eVar 2)) (nTup 2 (nCons (nName 8) (nCons (nName 9) nNil))) tYesD (eA oTupD (aCons (eA oTuple (aCons (eVar 8) aNil)) (aCons (eVar 9) aNil))))) sNext) (sSeq (sSet 4 [1] (eA oList (aCons (eVar 1) aNil))) (sSeq (sSet 5 [4, 3, 1] (eA (oCal 3 m_least) (aCons (eVar 4) (aCons (eVar 3) (aCons (eA oLen (aCons (eVar 1) aNil)) aNil))))) (sSeq (sSet 6 [4, 3, 1] (eA (oCal 3 m_least) (aCons (eVar 4) (aCons (eVar 3) (aCons (eA oLen (aCons (eVar 1) aNil)) aNil))))) (sSeq (sSet 7 (List.range 64) (eLc [8, 9] (iE iterA (eVar 3)) (nTup 2 (nCons (nName 8) (nCons (nName 9) nNil))) tYesD (eA oTupD (aCons (eA oList (aCons (eVar 8) aNil)) (aCons (eVar 9) aNil))))) (sSeq (sIf ([7] ++ (List.range 64 ++ [4, 1])) (tO (tN (tV (eA (oCal 2 m_law_same) (aCons (eVar 7) (aCons (eLc [8, 9] (iE iterA (eVar 2)) (nTup 2 (nCons (nName 8) (nCons (nName 9) nNil))) tYesD (eA oTupD (aCons (eA oList (aCons (eVar 8) aNil)) (aCons (eVar 9) aNil)))) aNil))))) (tN (tV (eA (oCal 2 m_law_same) (aCons (eVar 4) (aCons (eA oList (aCons (eVar 1) aNil)) aNil)))))) (sRet [] (eC (.str ""))) sNext) (sSeq (sIf [6, 5] (tN (tV (eA (oCal 2 m_law_same) (aCons (eVar 6) (aCons (eVar 5) aNil))))) (sRet [] (eC (.str ""))) sNext) (sRet [1, 2, 5] (eA (oCal 3 m_law_word) (aCons (eVar 1) (aCons (eVar 2) (aCons (eVar 5) aNil)))))))))))))
def m_law_asked (ds : List DL.D) : DL.M DL.Rs := pureM (runD 10 b_law_asked ds)
end K03
end
end

section
set_option maxRecDepth 100000
set_option maxHeartbeats 1000000
/-! The drawn weights of k03. -/
namespace K03
open L2 DL PG LW
theorem nat_mod (a m : Nat) : (a : Int).fmod (m : Int) = ((a % m : Nat) : Int) := by rw [Int.fmod_eq_emod_of_nonneg _ (by omega)]; rfl
theorem nat_div (a m : Nat) : (a : Int).fdiv (m : Int) = ((a / m : Nat) : Int) := by rw [Int.fdiv_eq_ediv_of_nonneg _ (by omega)]; rfl
def numF (nb : Nat → Int) (t i k : Nat) : Int := (nb ((t + 5 * i + k) % 200) + 37 * ((i / 8 : Nat) : Int) * ((k : Int) + 1) + 11 * ((k / 5 : Nat) : Int) * ((i : Int) + 1)).fmod 1000
def w1F (nb : Nat → Int) (t i k : Nat) : Int := if (nb 3).fmod 8 = 1 then ((numF nb t i k).fmod 9 - 4) * 10 ^ 12 + numF nb t i k else (numF nb t i k).fmod 9 - 4
def wF (nb : Nat → Int) (t i k : Nat) : Int := if (7 < i ∨ 4 < k) ∧ 0 < ((numF nb t i k).fdiv 9).fmod 3 then 0 else w1F nb t i k
theorem numF_b (nb : Nat → Int) (t i k : Nat) : 0 ≤ numF nb t i k ∧ numF nb t i k < 1000 := mod_b _ (by decide)
theorem w1F_b (nb : Nat → Int) (t i k : Nat) : Bd 43 (w1F nb t i k) := by
  have a := numF_b nb t i k
  have b := mod_b (numF nb t i k) (m := 9) (by decide)
  unfold w1F
  split
  · exact bd_lit (by simp; omega) (by simp; omega)
  · exact bd_lit (by simp; omega) (by simp; omega)
theorem wF_b (nb : Nat → Int) (t i k : Nat) : Bd 43 (wF nb t i k) := by
  unfold wF
  split
  · exact bd_0 _
  · exact w1F_b _ _ _ _
theorem law_number_is {nb : Nat → Int} {t i k : Nat} (hi : i < 1000) (hk : k < 1000) : m_law_number [.lst (rowD 200 nb), .int t, .int i, .int k] = .ok (.fz (.int (numF nb t i k))) := by
  refine runD_ok ?_
  show b_law_number [.fz (.lst (rowD 200 nb)), .fz (.int t), .fz (.int i), .fz (.int k), .un] = _
  have m5 : ∀ x : Int, oMul (.int 5) (.int x) = .ok (.fz (.int (5 * x))) := fun x => mul_l (by decide)
  have m37 : ∀ x : Int, oMul (.int 37) (.int x) = .ok (.fz (.int (37 * x))) := fun x => mul_l (by decide)
  have m11 : ∀ x : Int, oMul (.int 11) (.int x) = .ok (.fz (.int (11 * x))) := fun x => mul_l (by decide)
  have d200 : ∀ x : Int, oMod (.int x) (.int 200) = .ok (.fz (.int (x.fmod 200))) := fun x => ev_mod (by decide)
  have d1000 : ∀ x : Int, oMod (.int x) (.int 1000) = .ok (.fz (.int (x.fmod 1000))) := fun x => ev_mod (by decide)
  have q8 : ∀ x : Int, oDiv (.int x) (.int 8) = .ok (.fz (.int (x.fdiv 8))) := fun x => div_ok (by decide) (by decide)
  have q5 : ∀ x : Int, oDiv (.int x) (.int 5) = .ok (.fz (.int (x.fdiv 5))) := fun x => div_ok (by decide) (by decide)
  have ix : atI (rowD 200 nb) (((t : Int) + 5 * (i : Int) + (k : Int)).fmod 200) = some (.int (nb ((t + 5 * i + k) % 200))) := by
    have e : ((t : Int) + 5 * (i : Int) + (k : Int)).fmod 200 = (((t + 5 * i + k) % 200 : Nat) : Int) := by
      rw [← nat_mod]; simp
    rw [e]
    exact ix_row (Nat.mod_lt _ (by decide))
  have e8 : (i : Int).fdiv 8 = ((i / 8 : Nat) : Int) := nat_div i 8
  have e5 : (k : Int).fdiv 5 = ((k / 5 : Nat) : Int) := nat_div k 5
  have mm : oMul (.int (37 * ((i / 8 : Nat) : Int))) (.int ((k : Int) + 1)) = .ok (.fz (.int (37 * ((i / 8 : Nat) : Int) * ((k : Int) + 1)))) := mul_l (by omega)
  have mn : oMul (.int (11 * ((k / 5 : Nat) : Int))) (.int ((i : Int) + 1)) = .ok (.fz (.int (11 * ((k / 5 : Nat) : Int) * ((i : Int) + 1)))) := mul_l (by omega)
  unfold b_law_number
  simp only [ev_seq, ev_set, ev_ret, ev_eA, ev_e2, ev_aCons, ev_vs, ev_v0f, ev_bok, ev_rfz, ev_c, ev_aNil, m5, m37, m11, ev_add, ev_pok, ev_int, d200, d1000, ev_ixL, ix, ev_oR, ev_ofM, ev_frzInt, ev_sfz, List.set, ev_tn, q8, q5, e8, e5, mm, mn]
  rfl
/-! the pieces of _law_weights -/
noncomputable def eNum : DL.Env → DL.M Rs := (eA (oCal 4 m_law_number) (aCons (eVar 0) (aCons (eVar 1) (aCons (eVar 5) (aCons (eVar 7) aNil)))))
def eWei : DL.Env → DL.M Rs := (e2 oSub (e2 oMod (eA oInt (aCons (eVar 8) aNil)) (eC (.int 9))) (eC (.int 4)))
def tBig : DL.Env → DL.M Bool := (tV (e2 (cop .Eq) (e2 oMod (eA oInt (aCons (e2 oIx (eVar 0) (eC (.int 3))) aNil)) (eC (.int 8))) (eC (.int 1))))
def eBig : DL.Env → DL.M Rs := (e2 oAdd (e2 oMul (eVar 9) (e2 oPow (eC (.int 10)) (eC (.int 12)))) (eVar 8))
def tFar : DL.Env → DL.M Bool := (tAn (tO (tV (e2 (cop .Gt) (eVar 5) (eC (.int 7)))) (tV (e2 (cop .Gt) (eVar 7) (eC (.int 4))))) (tV (e2 (cop .Gt) (e2 oMod (e2 oDiv (eA oInt (aCons (eVar 8) aNil)) (eC (.int 9))) (eC (.int 3))) (eC (.int 0)))))
section
variable {nb : Nat → Int} {t i k : Nat} {e0 e1 e2 e3 e4 e5 e6 e7 e8 e9 : DL.Sl}
theorem eNum_is (hi : i < 1000) (hk : k < 1000) : eNum [.fz (.lst (rowD 200 nb)), .fz (.int t), e2, e3, e4, .fz (.int i), e6, .fz (.int k), e8, e9] = .ok (.fz (.int (numF nb t i k))) := by
  have := law_number_is (nb := nb) (t := t) hi hk
  unfold eNum
  simp only [ev_eA, ev_aCons, ev_vs, ev_v0f, ev_bok, ev_rfz, ev_aNil, oCal, List.length_cons, List.length_nil, if_true, this, ev_pok]
theorem eWei_is : eWei [e0, e1, e2, e3, e4, e5, e6, e7, .fz (.int (numF nb t i k)), e9] = .ok (.fz (.int ((numF nb t i k).fmod 9 - 4))) := by
  have m9 : ∀ x : Int, oMod (.int x) (.int 9) = .ok (.fz (.int (x.fmod 9))) := fun x => ev_mod (by decide)
  unfold eWei
  simp only [ev_e2, ev_eA, ev_aCons, ev_vs, ev_v0f, ev_bok, ev_rfz, ev_aNil, ev_int, ev_pok, ev_c, m9, ev_sub]
theorem tBig_is : tBig [.fz (.lst (rowD 200 nb)), e1, e2, e3, e4, e5, e6, e7, e8, e9] = .ok (decide ((nb 3).fmod 8 = 1)) := by
  have m8 : ∀ x : Int, oMod (.int x) (.int 8) = .ok (.fz (.int (x.fmod 8))) := fun x => ev_mod (by decide)
  have c3 : atI (rowD 200 nb) 3 = some (.int (nb 3)) := ix_row (j := 3) (by decide)
  unfold tBig
  simp only [ev_tV, ev_e2, ev_eA, ev_aCons, ev_vs, ev_v0f, ev_bok, ev_rfz, ev_aNil, ev_int, ev_pok, ev_c, m8, ev_ixL, c3, ev_oR, ev_copEq, ev_eqI, ev_asB]
theorem eBig_is : eBig [e0, e1, e2, e3, e4, e5, e6, e7, .fz (.int (numF nb t i k)), .fz (.int ((numF nb t i k).fmod 9 - 4))] = .ok (.fz (.int (((numF nb t i k).fmod 9 - 4) * 10 ^ 12 + numF nb t i k))) := by
  have pw : oPow (.int 10) (.int 12) = .ok (.fz (.int (10 ^ 12))) := rfl
  have mp : ∀ x : Int, oMul (.int x) (.int (10 ^ 12)) = .ok (.fz (.int (x * 10 ^ 12))) := fun x => mul_r (by decide)
  unfold eBig
  simp only [ev_e2, ev_vs, ev_v0f, ev_bok, ev_rfz, ev_c, pw, ev_pok, mp, ev_add]
theorem tFar_is : tFar [e0, e1, e2, e3, e4, .fz (.int i), e6, .fz (.int k), .fz (.int (numF nb t i k)), e9] = .ok (decide ((7 < i ∨ 4 < k) ∧ 0 < ((numF nb t i k).fdiv 9).fmod 3)) := by
  have m3 : ∀ x : Int, oMod (.int x) (.int 3) = .ok (.fz (.int (x.fmod 3))) := fun x => ev_mod (by decide)
  have q9 : ∀ x : Int, oDiv (.int x) (.int 9) = .ok (.fz (.int (x.fdiv 9))) := fun x => div_ok (by decide) (by decide)
  have a : ((7 : Int) < i) ↔ 7 < i := by omega
  have b : ((4 : Int) < k) ↔ 4 < k := by omega
  unfold tFar
  simp only [ev_tAn, ev_tO, ev_tV, ev_e2, ev_eA, ev_aCons, ev_vs, ev_v0f, ev_bok, ev_rfz, ev_aNil, ev_int, ev_pok, ev_c, m3, q9, ev_copGt, ev_gt, ev_asB, a, b]
  by_cases h1 : 7 < i <;> by_cases h2 : 4 < k <;> by_cases h3 : 0 < ((numF nb t i k).fdiv 9).fmod 3 <;> simp [h1, h2, h3]
end
end K03
end

section
set_option maxRecDepth 100000
set_option maxHeartbeats 1000000
/-! What _law_none_pair makes. -/
namespace K03
open L2 DL PG LW
theorem sm_bd7 {n N : Nat} {f : Nat → Int} (h : ∀ i, i < N → Bd n (f i)) (hN : N < 128) : Bd (n + 7) (Sx.sm N f) := by
  have := Sx.sm_abs (n := N) (f := f) (K := 2 ^ n - 1) fun i hi => by have := h i hi; unfold Bd at this; omega
  unfold Bd
  rw [Nat.pow_add]
  have h2 : N * (2 ^ n - 1) ≤ 127 * (2 ^ n - 1) := Nat.mul_le_mul_right _ (by omega)
  have := Nat.two_pow_pos n
  omega
section
variable (nb : Nat → Int) (M N : Nat)
def pa0 (i : Nat) : Int := (nb (166 + i % 8) + 19 * ((i / 8 : Nat) : Int)).fmod 4
def paL : Int := 1 + (nb 12).fmod 3
def paF (i : Nat) : Int := if i = M - 1 then paL nb else pa0 nb i
def bo0 (i : Nat) : Int := (nb (174 + i % 8) + 23 * ((i / 8 : Nat) : Int)).fmod 19 - 9
def toF (k : Nat) : Int := Sx.sm (M - 1) fun i => paF nb M i * wF nb 60 i k
def laF (k : Nat) : Int := (0 - toF nb M k).fdiv (paL nb) - (nb (182 + k % 5)).fmod 3
def to2 : Int := Sx.sm (M - 1) fun i => paF nb M i * bo0 nb i
def boL : Int := (0 - to2 nb M).fdiv (paL nb) + 1 + (nb 11).fmod 3
def boF (i : Nat) : Int := if i = M - 1 then boL nb M else bo0 nb i
def goF (k : Nat) : Int := (nb (187 + k % 5) + 3 * ((k / 5 : Nat) : Int)).fmod 8
/-- the rows while the last one is being made -/
def wK (c : Nat) (i j : Nat) : Int := if i = M - 1 then (if j < c then laF nb M j else wF nb 60 i j) else wF nb 60 i j
def wL (i j : Nat) : Int := if i = M - 1 then laF nb M j else wF nb 60 i j
def npD : DL.D := .tup [.lst (rowD N (goF nb)), .lst (rowsI M N (wL nb M) (boF nb M) .lst), .lst (rowD M (paF nb M))]
end
def eP0 : DL.Env → DL.M Rs := (eLc [10] (iA oRng1 (aCons (eVar 1) aNil)) (nName 10) tYesD (e2 oMod (eA oInt (aCons (e2 oAdd (e2 oIx (eVar 0) (e2 oAdd (eC (.int 166)) (e2 oMod (eA oInt (aCons (eVar 10) aNil)) (eC (.int 8))))) (e2 oMul (eC (.int 19)) (e2 oDiv (eVar 10) (eC (.int 8))))) aNil)) (eC (.int 4))))
def eB0 : DL.Env → DL.M Rs := (eLc [10] (iA oRng1 (aCons (eVar 1) aNil)) (nName 10) tYesD (e2 oSub (e2 oMod (eA oInt (aCons (e2 oAdd (e2 oIx (eVar 0) (e2 oAdd (eC (.int 174)) (e2 oMod (eA oInt (aCons (eVar 10) aNil)) (eC (.int 8))))) (e2 oMul (eC (.int 23)) (e2 oDiv (eVar 10) (eC (.int 8))))) aNil)) (eC (.int 19))) (eC (.int 9))))
def ePl : DL.Env → DL.M Rs := (e2 oAdd (eC (.int 1)) (e2 oMod (eA oInt (aCons (e2 oIx (eVar 0) (eC (.int 12))) aNil)) (eC (.int 3))))
def eM1 : DL.Env → DL.M Rs := (e1 oNeg (eC (.int 1)))
def cT1 : DL.Env → DL.M Rs := (eLc [10] (iA oRng1 (aCons (e2 oSub (eVar 1) (eC (.int 1))) aNil)) (nName 10) tYesD (e2 oMul (e2 oIx (eVar 4) (eVar 10)) (e2 oIx (e2 oIx (eVar 3) (eVar 10)) (eVar 7))))
def eT1 : DL.Env → DL.M Rs := (eA oSum (aCons cT1 aNil))
def eLa : DL.Env → DL.M Rs := (e2 oSub (e2 oDiv (e2 oSub (eC (.int 0)) (eVar 8)) (e2 oIx (eVar 4) (e1 oNeg (eC (.int 1))))) (e2 oMod (eA oInt (aCons (e2 oIx (eVar 0) (e2 oAdd (eC (.int 182)) (e2 oMod (eA oInt (aCons (eVar 7) aNil)) (eC (.int 5))))) aNil)) (eC (.int 3))))
def cT2 : DL.Env → DL.M Rs := (eLc [10] (iA oRng1 (aCons (e2 oSub (eVar 1) (eC (.int 1))) aNil)) (nName 10) tYesD (e2 oMul (e2 oIx (eVar 4) (eVar 10)) (e2 oIx (eVar 5) (eVar 10))))
def eT2 : DL.Env → DL.M Rs := (eA oSum (aCons cT2 aNil))
def eBl : DL.Env → DL.M Rs := (e2 oAdd (e2 oAdd (e2 oDiv (e2 oSub (eC (.int 0)) (eVar 8)) (e2 oIx (eVar 4) (e1 oNeg (eC (.int 1))))) (eC (.int 1))) (e2 oMod (eA oInt (aCons (e2 oIx (eVar 0) (eC (.int 11))) aNil)) (eC (.int 3))))
def eGo : DL.Env → DL.M Rs := (eLc [7] (iA oRng1 (aCons (eVar 2) aNil)) (nName 7) tYesD (e2 oMod (eA oInt (aCons (e2 oAdd (e2 oIx (eVar 0) (e2 oAdd (eC (.int 187)) (e2 oMod (eA oInt (aCons (eVar 7) aNil)) (eC (.int 5))))) (e2 oMul (eC (.int 3)) (e2 oDiv (eVar 7) (eC (.int 5))))) aNil)) (eC (.int 8))))
def cRw : DL.Env → DL.M Rs := (eLc [10] (iA oRng1 (aCons (eVar 1) aNil)) (nName 10) tYesD (eA oTupD (aCons (e2 oIx (eVar 3) (eVar 10)) (aCons (e2 oIx (eVar 5) (eVar 10)) aNil))))
def eRt : DL.Env → DL.So := (sRet ([9] ++ (List.range 64 ++ [4])) (eA oTupD (aCons (eVar 9) (aCons cRw (aCons (eVar 4) aNil)))))
section
variable {nb : Nat → Int} {M N : Nat}
theorem rg_lc {vs : List Nat} {it : DL.Env → DL.M (List DL.D)} {te : DL.Env → DL.M Rs} {env : DL.Env} {N i : Nat} {f : Nat → Int} (hN : N < 1000000) (hl : env.length ≤ 64) (hi : it env = .ok (rgD N)) (h : ∀ k : Nat, k < N → te ((wipeE (env.map Sl.frz) vs).set i (.fz (.int k))) = .ok (.fz (.int (f k)))) : eLc vs it (nName i) tYesD te env = .ok (.ow (rowD N f)) := by
  refine ev_lc (ds := rgD N) hl hi ?_ (.inr (by simpa using hN))
  refine lcL_map (List.range N) _ (fun k => .int (f k)) fun k hk => ?_
  exact ⟨_, _, rfl, rfl, h k (List.mem_range.mp hk), rfl⟩
theorem ix_mod {c m i : Nat} (hm : 0 < m) (hc : c + m ≤ 200) : atI (rowD 200 nb) ((c : Int) + (i : Int).fmod (m : Int)) = some (.int (nb (c + i % m))) := by
  rw [nat_mod]
  exact ix_off c (by have := Nat.mod_lt i hm; omega)
theorem m4' : ∀ x : Int, oMod (.int x) (.int 4) = .ok (.fz (.int (x.fmod 4))) := fun x => ev_mod (by decide)
theorem m8' : ∀ x : Int, oMod (.int x) (.int 8) = .ok (.fz (.int (x.fmod 8))) := fun x => ev_mod (by decide)
theorem m3' : ∀ x : Int, oMod (.int x) (.int 3) = .ok (.fz (.int (x.fmod 3))) := fun x => ev_mod (by decide)
theorem m5' : ∀ x : Int, oMod (.int x) (.int 5) = .ok (.fz (.int (x.fmod 5))) := fun x => ev_mod (by decide)
theorem m19' : ∀ x : Int, oMod (.int x) (.int 19) = .ok (.fz (.int (x.fmod 19))) := fun x => ev_mod (by decide)
theorem d8' : ∀ x : Int, oDiv (.int x) (.int 8) = .ok (.fz (.int (x.fdiv 8))) := fun x => div_ok (by decide) (by decide)
theorem d5' : ∀ x : Int, oDiv (.int x) (.int 5) = .ok (.fz (.int (x.fdiv 5))) := fun x => div_ok (by decide) (by decide)
theorem q8 (i : Nat) : (i : Int).fdiv 8 = ((i / 8 : Nat) : Int) := nat_div i 8
theorem q5 (i : Nat) : (i : Int).fdiv 5 = ((i / 5 : Nat) : Int) := nat_div i 5
theorem paL_b (nb : Nat → Int) : 1 ≤ paL nb ∧ paL nb ≤ 3 := by have := mod_b (nb 12) (m := 3) (by decide); unfold paL; omega
theorem pa0_b (nb : Nat → Int) (i : Nat) : 0 ≤ pa0 nb i ∧ pa0 nb i ≤ 3 := by have := mod_b (nb (166 + i % 8) + 19 * ((i / 8 : Nat) : Int)) (m := 4) (by decide); unfold pa0; omega
theorem paF_b (nb : Nat → Int) (M i : Nat) : 0 ≤ paF nb M i ∧ paF nb M i ≤ 3 := by
  have := pa0_b nb i; have := paL_b nb
  unfold paF; split <;> omega
theorem bo0_b (nb : Nat → Int) (i : Nat) : -9 ≤ bo0 nb i ∧ bo0 nb i ≤ 9 := by have := mod_b (nb (174 + i % 8) + 23 * ((i / 8 : Nat) : Int)) (m := 19) (by decide); unfold bo0; omega
theorem eP0_is {e2 e3 e4 e5 e6 e7 e8 e9 e10 : DL.Sl} (hM : M < 1000) : eP0 [.fz (.lst (rowD 200 nb)), .fz (.int M), e2, e3, e4, e5, e6, e7, e8, e9, e10] = .ok (.ow (rowD M (pa0 nb))) := by
  refine rg_lc (by omega) (by simp) (by simp [rng1 (show M < 1000000 by omega)]) fun k hk => ?_
  have ml : ∀ x : Int, oMul (.int 19) (.int x) = .ok (.fz (.int (19 * x))) := fun x => mul_l (by decide)
  have o : atI (rowD 200 nb) (166 + (k : Int).fmod 8) = some (.int (nb (166 + k % 8))) := ix_mod (c := 166) (m := 8) (by decide) (by decide)
  simp only [wipeE, List.map, List.set, ev_frzF, ev_e2, ev_eA, ev_aCons, ev_vs, ev_v0f, ev_bok, ev_rfz, ev_aNil, ev_c, ev_int, ev_pok, m8', m4', ev_add, ev_ixL, o, ev_oR, d8', ml, q8]
  rfl
theorem eB0_is {e2 e3 e4 e5 e6 e7 e8 e9 e10 : DL.Sl} (hM : M < 1000) : eB0 [.fz (.lst (rowD 200 nb)), .fz (.int M), e2, e3, e4, e5, e6, e7, e8, e9, e10] = .ok (.ow (rowD M (bo0 nb))) := by
  refine rg_lc (by omega) (by simp) (by simp [rng1 (show M < 1000000 by omega)]) fun k hk => ?_
  have ml : ∀ x : Int, oMul (.int 23) (.int x) = .ok (.fz (.int (23 * x))) := fun x => mul_l (by decide)
  have o : atI (rowD 200 nb) (174 + (k : Int).fmod 8) = some (.int (nb (174 + k % 8))) := ix_mod (c := 174) (m := 8) (by decide) (by decide)
  simp only [wipeE, List.map, List.set, ev_frzF, ev_e2, ev_eA, ev_aCons, ev_vs, ev_v0f, ev_bok, ev_rfz, ev_aNil, ev_c, ev_int, ev_pok, m8', m19', ev_add, ev_ixL, o, ev_oR, d8', ml, q8, ev_sub]
  rfl
theorem ePl_is {e1 e2 e3 e4 e5 e6 e7 e8 e9 e10 : DL.Sl} : ePl [.fz (.lst (rowD 200 nb)), e1, e2, e3, e4, e5, e6, e7, e8, e9, e10] = .ok (.fz (.int (paL nb))) := by
  have c : atI (rowD 200 nb) 12 = some (.int (nb 12)) := ix_row (j := 12) (by decide)
  unfold ePl
  simp only [ev_e2, ev_eA, ev_aCons, ev_vs, ev_v0f, ev_bok, ev_rfz, ev_aNil, ev_c, ev_int, ev_pok, ev_ixL, c, ev_oR, m3', ev_add]
  rfl
theorem eM1_is (env : DL.Env) : eM1 env = .ok (.fz (.int (-1))) := by
  unfold eM1
  simp only [ev_e1, ev_c, ev_bok, ev_rfz, ev_neg, ev_pok]
theorem last_ix {f : Nat → Int} (hM : 1 ≤ M) : atI (rowD M f) (-1) = some (.int (f (M - 1))) := by
  rw [DL.atI_last, rowD_len]; exact rowD_get (by omega)
theorem rg_sub {env : DL.Env} (hM : 1 ≤ M) (hM2 : M < 1000) (h : eVar 1 env = .ok (.fz (.int M))) : iA oRng1 (aCons (e2 oSub (eVar 1) (eC (.int 1))) aNil) env = .ok (rgD (M - 1)) := by
  have e : (M : Int) - 1 = ((M - 1 : Nat) : Int) := by omega
  simp only [ev_iA, ev_aCons, ev_e2, h, ev_bok, ev_rfz, ev_c, ev_sub, ev_pok, ev_aNil, e, rng1 (show M - 1 < 1000000 by omega)]
theorem eT1_is {T : Nat → Nat → Int} {e0 e2 e5 e6 e8 e9 e10 : DL.Sl} {k : Nat} (hM : 1 ≤ M) (hM2 : M < 128) (hk : k < N) (hT : ∀ i, i < M - 1 → T i k = wF nb 60 i k) : eT1 [e0, .fz (.int M), e2, .fz (.lst (tabD M N T)), .fz (.lst (rowD M (paF nb M))), e5, e6, .fz (.int k), e8, e9, e10] = .ok (.fz (.int (toF nb M k))) := by
  have c : cT1 [e0, .fz (.int M), e2, .fz (.lst (tabD M N T)), .fz (.lst (rowD M (paF nb M))), e5, e6, .fz (.int k), e8, e9, e10] = .ok (.ow (rowD (M - 1) fun i => paF nb M i * wF nb 60 i k)) := by
    refine rg_lc (by omega) (by simp) (rg_sub hM (by omega) rfl) fun i hi => ?_
    have ml : oMul (.int (paF nb M i)) (.int (wF nb 60 i k)) = .ok (.fz (.int (paF nb M i * wF nb 60 i k))) := mul_l (by have := paF_b nb M i; omega)
    simp only [wipeE, List.map, List.set, ev_frzF, ev_e2, ev_vs, ev_v0f, ev_bok, ev_rfz, ev_ixL, ix_row (show i < M by omega), ev_oR, ev_pok, ix_tab (show i < M by omega), ix_row hk, hT i hi, ml]
  unfold eT1
  simp only [ev_eA, ev_aCons, c, ev_bok, ev_row, ev_aNil, sum_row, ev_pok]
  rfl
theorem paL_div (x : Int) : oDiv (.int x) (.int (paL nb)) = .ok (.fz (.int (x.fdiv (paL nb)))) := by
  have := paL_b nb
  exact div_ok (by omega) ((bd_lit (n := 2) (x := paL nb) (by simp; omega) (by simp; omega)).sml (by decide))
theorem paF_last (nb : Nat → Int) (M : Nat) : paF nb M (M - 1) = paL nb := by simp [paF]
theorem eLa_is {e1 e2 e3 e5 e6 e9 e10 : DL.Sl} {k : Nat} (hM : 1 ≤ M) : eLa [.fz (.lst (rowD 200 nb)), e1, e2, e3, .fz (.lst (rowD M (paF nb M))), e5, e6, .fz (.int k), .fz (.int (toF nb M k)), e9, e10] = .ok (.fz (.int (laF nb M k))) := by
  have o : atI (rowD 200 nb) (182 + (k : Int).fmod 5) = some (.int (nb (182 + k % 5))) := ix_mod (c := 182) (m := 5) (by decide) (by decide)
  unfold eLa
  simp only [ev_e2, ev_e1, ev_eA, ev_aCons, ev_vs, ev_v0f, ev_bok, ev_rfz, ev_aNil, ev_c, ev_int, ev_pok, ev_sub, ev_neg, ev_ixL, last_ix hM, paF_last, ev_oR, paL_div, m5', m3', ev_add, o]
  rfl
theorem eT2_is {e0 e2 e3 e6 e7 e8 e9 e10 : DL.Sl} (hM : 1 ≤ M) (hM2 : M < 128) : eT2 [e0, .fz (.int M), e2, e3, .fz (.lst (rowD M (paF nb M))), .fz (.lst (rowD M (bo0 nb))), e6, e7, e8, e9, e10] = .ok (.fz (.int (to2 nb M))) := by
  have c : cT2 [e0, .fz (.int M), e2, e3, .fz (.lst (rowD M (paF nb M))), .fz (.lst (rowD M (bo0 nb))), e6, e7, e8, e9, e10] = .ok (.ow (rowD (M - 1) fun i => paF nb M i * bo0 nb i)) := by
    refine rg_lc (by omega) (by simp) (rg_sub hM (by omega) rfl) fun i hi => ?_
    have ml : oMul (.int (paF nb M i)) (.int (bo0 nb i)) = .ok (.fz (.int (paF nb M i * bo0 nb i))) := mul_l (by have := paF_b nb M i; omega)
    simp only [wipeE, List.map, List.set, ev_frzF, ev_e2, ev_vs, ev_v0f, ev_bok, ev_rfz, ev_ixL, ix_row (show i < M by omega), ev_oR, ev_pok, ml]
  unfold eT2
  simp only [ev_eA, ev_aCons, c, ev_bok, ev_row, ev_aNil, sum_row, ev_pok]
  rfl
theorem eBl_is {e1 e2 e3 e5 e6 e7 e9 e10 : DL.Sl} (hM : 1 ≤ M) : eBl [.fz (.lst (rowD 200 nb)), e1, e2, e3, .fz (.lst (rowD M (paF nb M))), e5, e6, e7, .fz (.int (to2 nb M)), e9, e10] = .ok (.fz (.int (boL nb M))) := by
  have c : atI (rowD 200 nb) 11 = some (.int (nb 11)) := ix_row (j := 11) (by decide)
  unfold eBl
  simp only [ev_e2, ev_e1, ev_eA, ev_aCons, ev_vs, ev_v0f, ev_bok, ev_rfz, ev_aNil, ev_c, ev_int, ev_pok, ev_sub, ev_neg, ev_ixL, last_ix hM, paF_last, ev_oR, paL_div, m3', ev_add, c]
  rfl
theorem eGo_is {e1 e3 e4 e5 e6 e7 e8 e9 e10 : DL.Sl} (hN : N < 1000) : eGo [.fz (.lst (rowD 200 nb)), e1, .fz (.int N), e3, e4, e5, e6, e7, e8, e9, e10] = .ok (.ow (rowD N (goF nb))) := by
  refine rg_lc (by omega) (by simp) (by simp [rng1 (show N < 1000000 by omega)]) fun k hk => ?_
  have ml : ∀ x : Int, oMul (.int 3) (.int x) = .ok (.fz (.int (3 * x))) := fun x => mul_l (by decide)
  have o : atI (rowD 200 nb) (187 + (k : Int).fmod 5) = some (.int (nb (187 + k % 5))) := ix_mod (c := 187) (m := 5) (by decide) (by decide)
  simp only [wipeE, List.map, List.set, ev_frzF, ev_e2, ev_eA, ev_aCons, ev_vs, ev_v0f, ev_bok, ev_rfz, ev_aNil, ev_c, ev_int, ev_pok, m8', m5', ev_add, ev_ixL, o, ev_oR, d5', ml, q5]
  rfl
theorem eRt_is {e0 e2 e6 e7 e8 e10 : DL.Sl} (hM2 : M < 1000) : eRt [e0, .fz (.int M), e2, .fz (.lst (tabD M N (wL nb M))), .fz (.lst (rowD M (paF nb M))), .fz (.lst (rowD M (boF nb M))), e6, e7, e8, .fz (.lst (rowD N (goF nb))), e10] = .rt (.fz (npD nb M N)) := by
  have c : cRw [e0, .fz (.int M), e2, .fz (.lst (tabD M N (wL nb M))), .fz (.lst (rowD M (paF nb M))), .fz (.lst (rowD M (boF nb M))), e6, e7, e8, .fz (.lst (rowD N (goF nb))), e10] = .ok (.ow (rowsI M N (wL nb M) (boF nb M) .lst)) := by
    refine ev_lc (ds := rgD M) (by simp) (by simp [rng1 (show M < 1000000 by omega)]) ?_ (.inr (by simp; omega))
    refine lcL_map (List.range M) _ (fun k => .tup [.lst (rowD N (wL nb M k)), .int (boF nb M k)]) fun k hk => ?_
    have hk := List.mem_range.mp hk
    refine ⟨_, .fz (.tup [.lst (rowD N (wL nb M k)), .int (boF nb M k)]), rfl, rfl, ?_, rfl⟩
    simp only [wipeE, List.map, List.set, ev_frzF, ev_eA, ev_aCons, ev_e2, ev_vs, ev_v0f, ev_bok, ev_rfz, ev_ixL, ix_tab hk, ix_row hk, ev_oR, ev_pok, ev_aNil, tup_2]
  unfold eRt
  simp only [ev_ret, ev_eA, ev_aCons, ev_vs, ev_v0f, ev_bok, ev_rfz, c, ev_row, ev_aNil, tup_3, ev_pok, ev_ofM]
  rfl
end
/-- the mirror, by what it makes -/
def m_law_none_pair : List DL.D → DL.M DL.Rs
  | [.lst xs, .int M, .int N] => match toInts xs with
    | some ns => if ns.length = 200 ∧ 1 ≤ M ∧ M < 100 ∧ 0 ≤ N ∧ N < 1000 then .ok (.fz (npD (fun i => ns.getD i 0) M.toNat N.toNat)) else .bad
    | none => .bad
  | _ => .bad
theorem toInts_eq : ∀ {xs : List DL.D} {ns : List Int}, toInts xs = some ns → xs = ns.map D.int
  | [], _, h => by cases h; rfl
  | .int i :: ds, ns, h => by
    unfold toInts at h
    cases e : toInts ds with
    | none => rw [e] at h; cases h
    | some ms => rw [e] at h; cases h; rw [toInts_eq e]; rfl
  | .non :: _, _, h => by cases h
  | .bl _ :: _, _, h => by cases h
  | .str _ :: _, _, h => by cases h
  | .tup _ :: _, _, h => by cases h
  | .lst _ :: _, _, h => by cases h
  | .scr _ :: _, _, h => by cases h
  | .obj _ _ :: _, _, h => by cases h
theorem np_in {ds : List DL.D} {z : Rs} (h : m_law_none_pair ds = .ok z) : ∃ nb M N, ds = [.lst (rowD 200 nb), .int (M : Nat), .int (N : Nat)] ∧ 1 ≤ M ∧ M < 100 ∧ N < 1000 ∧ z = .fz (npD nb M N) := by
  unfold m_law_none_pair at h
  split at h
  · split at h
    · split at h
      · rename_i xs M N _ ns e hc
        obtain ⟨hl, h1, h2, h3, h4⟩ := hc
        have e1 : M = (M.toNat : Int) := by omega
        have e2 : N = (N.toNat : Int) := by omega
        cases h
        refine ⟨fun i => ns.getD i 0, M.toNat, N.toNat, ?_, by omega, by omega, by omega, rfl⟩
        rw [← e1, ← e2, toInts_eq e, ints_row, hl]
      · cases h
    · cases h
  · cases h
theorem np_noex {ds : List DL.D} {x} : m_law_none_pair ds ≠ .ex x := by
  unfold m_law_none_pair
  split
  · split
    · split <;> intro h <;> cases h
    · intro h; cases h
  · intro h; cases h
theorem law_none_pair_is {nb : Nat → Int} {M N : Nat} (h1 : 1 ≤ M) (h2 : M < 100) (h3 : N < 1000) : ∃ nb', m_law_none_pair [.lst (rowD 200 nb), .int M, .int N] = .ok (.fz (npD nb' M N)) := by
  refine ⟨fun i => ((List.range 200).map nb).getD i 0, ?_⟩
  show (match toInts (rowD 200 nb) with
    | some ns => if ns.length = 200 ∧ 1 ≤ (M : Int) ∧ (M : Int) < 100 ∧ 0 ≤ (N : Int) ∧ (N : Int) < 1000 then DL.M.ok (Rs.fz (npD (fun i => ns.getD i 0) (M : Int).toNat (N : Int).toNat)) else .bad
    | none => .bad) = _
  rw [toInts_row]
  simp only
  rw [if_pos ⟨by simp, by omega, by omega, by omega, by omega⟩]
  simp
end K03
end

section
set_option maxRecDepth 100000
set_option maxHeartbeats 4000000
noncomputable section
namespace K03
open L2 DL PG LW
def b_law : DL.Env → DL.So :=
  (sSeq (sSet 1 [0] (eA (oCal 2 m_law_numbers) (aCons (eVar 0) (aCons (eC (.int 200)) aNil)))) (sSeq (sSet 2 [1] (e2 oAdd (eC (.int 1)) (e2 oMod (eA oInt (aCons (e2 oIx (eVar 1) (eC (.int 0))) aNil)) (eC (.int 8))))) (sSeq (sSet 3 [1] (e2 oAdd (eC (.int 1)) (e2 oMod (eA oInt (aCons (e2 oIx (eVar 1) (eC (.int 1))) aNil)) (eC (.int 5))))) (sSeq (sSet 4 [1, 2, 3] (eA (oCal 3 m_law_best_pair) (aCons (eVar 1) (aCons (eVar 2) (aCons (eVar 3) aNil))))) (sSeq (sSet 5 [1, 2, 3] (eA (oCal 3 m_law_none_pair) (aCons (eVar 1) (aCons (eVar 2) (aCons (eVar 3) aNil))))) (sSeq (sIf [1, 4, 5] (tN (tV (eA (oCal 3 m_law_judged) (aCons (eVar 1) (aCons (eVar 4) (aCons (eVar 5) aNil)))))) (sRet [] (eC (.bl false))) sNext) (sSeq (sIf [1] (tV (e2 (cop .Eq) (e2 oMod (eA oInt (aCons (e2 oIx (eVar 1) (eC (.int 4))) aNil)) (eC (.int 16))) (eC (.int 1)))) (sSeq (sSet 2 [1] (e2 oAdd (eC (.int 9)) (e2 oMod (eA oInt (aCons (e2 oIx (eVar 1) (eC (.int 16))) aNil)) (eC (.int 52))))) (sSeq (sSet 3 [1] (e2 oAdd (eC (.int 6)) (e2 oMod (eA oInt (aCons (e2 oIx (eVar 1) (eC (.int 17))) aNil)) (eC (.int 19))))) (sIf [1] (tV (e2 (cop .Eq) (e2 oMod (eA oInt (aCons (e2 oIx (eVar 1) (eC (.int 18))) aNil)) (eC (.int 2))) (eC (.int 1)))) (sSet 4 [1, 2, 3] (eA (oCal 3 m_law_best_pair) (aCons (eVar 1) (aCons (eVar 2) (aCons (eVar 3) aNil))))) (sSet 5 [1, 2, 3] (eA (oCal 3 m_law_none_pair) (aCons (eVar 1) (aCons (eVar 2) (aCons (eVar 3) aNil)))))))) sNext) (sSeq (sIf [1, 4, 4, 1, 5, 5] (tO (tV (e2 (cop .NotEq) (eA (oCal 3 m_law_asked) (aCons (eVar 1) (aCons (e2 oIx (eVar 4) (eC (.int 0))) (aCons (e2 oIx (eVar 4) (eC (.int 1))) aNil)))) (eC (.str "least")))) (tV (e2 (cop .NotEq) (eA (oCal 3 m_law_asked) (aCons (eVar 1) (aCons (e2 oIx (eVar 5) (eC (.int 0))) (aCons (e2 oIx (eVar 5) (eC (.int 1))) aNil)))) (eC (.str "none"))))) (sRet [] (eC (.bl false))) sNext) (sSeq (sAsg [1, 1, 1] (nTup 2 (nCons (nName 6) (nCons (nName 7) nNil))) (eA (oCal 3 m_law_free) (aCons (eVar 1) (aCons (e2 oMod (eA oInt (aCons (e2 oIx (eVar 1) (eC (.int 2))) aNil)) (eC (.int 9))) (aCons (e2 oAdd (eC (.int 1)) (e2 oMod (eA oInt (aCons (e2 oIx (eVar 1) (eC (.int 19))) aNil)) (eC (.int 5)))) aNil))))) (sRet [1, 6, 7] (e2 (cop .NotEq) (eA (oCal 3 m_law_asked) (aCons (eVar 1) (aCons (eVar 6) (aCons (eVar 7) aNil)))) (eC (.str "")))))))))))))
def m_law (ds : List DL.D) : DL.M DL.Rs := pureM (runD 8 b_law ds)
end K03
end
end

section
set_option maxRecDepth 100000
set_option maxHeartbeats 4000000
namespace K03
open PySem L2 DL
def top (i : Nat) : Stmt := PySem.Challenge.pw_unsureminds_k03_whole_least_goal_by_dual.main.body.getD i (.Pass ⟨0, 0, 0, 0⟩)
end K03
end

section
set_option maxRecDepth 100000
set_option maxHeartbeats 1000000
/-! _law_weights, walked by hand: its rows are nobody else's. -/
namespace K03
open PySem L2 DL PG LW
variable {P : Program} {w : World} {mg : Str → Option Value} {base : Heap} {G : GC}
abbrev s_law_weights : Stmt := top 21
abbrev N_law_weights : List Str := ["numbers", "at", "many", "count", "rows", "i", "row", "k", "number", "weight"]
theorem sc_law_weights : FnScope N_law_weights ["numbers", "at", "many", "count"] (defScope s_law_weights) := ⟨rfl, rfl, rfl, by decide +kernel, rfl, by decide +kernel, by decide +kernel⟩
theorem c_law_weights (I : FnIn G.K mg "_law_weights" s_law_weights ["numbers", "at", "many", "count"]) (C_law_number : Cal P w G.K mg base G "_law_number" 1 4 m_law_number) (n_range : mg "range" = none) (n_int : mg "int" = none) : Cal P w G.K mg base G "_law_weights" 2 4 m_law_weights :=
  have nd := sc_law_weights.nd
  cal_by (k := 1) (b := b_law_weights) I sc_law_weights (fun f cdv A outer s H E hr =>
    (dss_cons (ds_set (i := 4) nd rfl (.inl rfl) (d_lst da_nil)) (dss_cons (ds_for PassesOwn.never rfl (di_range1 rfl n_range (da_cons (d_var 2) da_nil)) (dg_name (i := 5) nd rfl (.inl rfl)) (dss_cons (ds_set (i := 6) nd rfl (.inl rfl) (d_lst da_nil)) (dss_cons (ds_for PassesOwn.never rfl (di_range1 rfl n_range (da_cons (d_var 3) da_nil)) (dg_name (i := 7) nd rfl (.inl rfl)) (dss_cons (ds_set (i := 8) nd rfl (.inl rfl) (d_cal C_law_number hr (by decide) (da_cons (d_var 0) (da_cons (d_var 1) (da_cons (d_var 5) (da_cons (d_var 7) da_nil)))) rfl)) (dss_cons (ds_set (i := 9) nd rfl (.inl rfl) (d_sub (d_mod (d_intc n_int (da_cons (d_var 8) da_nil)) d_int) d_int)) (dss_cons (ds_if (t_cp hr (d_mod (d_intc n_int (da_cons (d_ix (d_var 0) d_int) da_nil)) d_int) d_int) (dss_one (ds_set (i := 9) nd rfl (.inl rfl) (d_add (d_mul (d_var 9) (d_pow d_int d_int)) (d_var 8)))) dss_nil) (dss_cons (ds_if (DW.t (dw_and (DW.t (dw_or (t_cp hr (d_var 5) d_int) (dw_or1 (t_cp hr (d_var 7) d_int)))) (dw_and1 (t_cp hr (d_mod (d_fdiv (d_intc n_int (da_cons (d_var 8) da_nil)) d_int) d_int) d_int)))) (dss_one (ds_set (i := 9) nd rfl (.inl rfl) d_int)) dss_nil) (dss_one (ds_app 6 (d_var 9)))))))) (dss_one (ds_app 4 (d_var 6)))))) (dss_one (ds_retV 4))))) rfl rfl rfl rfl
noncomputable def w_in {G : GC} : TS :=
  (tSeq (tAsg (tDE G W0 [0, 1, 5, 7] eNum) (gName 8))
  (tSeq (tAsg (tDE G W0 [8] eWei) (gName 9))
  (tSeq (tIfS (tDT G W0 [0] tBig) (tAsg (tDE G W0 [9, 8] eBig) (gName 9)) tNext)
  (tSeq (tIfS (tDT G W0 [5, 7, 8] tFar) (tAsg (tDE G W0 [] (eC (.int 0))) (gName 9)) tNext)
  (tDrop (tBM G.K "list" rAppend (tVar 6) (tCons (tVar 9) tNil)))))))
noncomputable def w_out {G : GC} : TS :=
  (tSeq (tAsg (tDE G W0 [] (eA oLstD aNil)) (gName 6))
  (tSeq (tFor (iRng1 (tDA G W0 [3] (aCons (eVar 3) aNil))) (gName 7) (w_in (G := G)))
  (tDrop (tBM G.K "list" rAppend (tVar 4) (tCons (tVar 6) tNil)))))
noncomputable def w_t {G : GC} : TS :=
  (tSeq (tAsg (tDE G W0 [] (eA oLstD aNil)) (gName 4))
  (tSeq (tFor (iRng1 (tDA G W0 [2] (aCons (eVar 2) aNil))) (gName 5) (w_out (G := G)))
  (tRet (tVar 4))))
theorem weights_body (C_law_number : Cal P w G.K mg base G "_law_number" 1 4 m_law_number) (n_range : mg "range" = none) (n_int : mg "int" = none) {f : Addr} {cdv : Value} {A : Around} {outer : List PySem.Env} {s : Shared} {H : Hp} {E : XK}
    (hr : Room 1 (cxOf CX0 P w G.K mg base N_law_weights "_law_weights" (defScope s_law_weights) f cdv A outer s H E).nox.A) : ∃ t, PSs (cxOf CX0 P w G.K mg base N_law_weights "_law_weights" (defScope s_law_weights) f cdv A outer s H E).nox (defBody s_law_weights) t ∧ t = w_t (G := G) := by
  have nd := sc_law_weights.nd
  exact ⟨_, (pss_cons (ps_set (i := 4) nd rfl (.inl rfl) (d_lst da_nil).pe)
    (pss_cons (ps_for PassesOwn.never rfl (pi_range1 rfl n_range (da_cons (d_var 2) da_nil).pa) (pg_name (i := 5) nd rfl (.inl rfl)) (pss_cons (ps_set (i := 6) nd rfl (.inl rfl) (d_lst da_nil).pe)
    (pss_cons (ps_for PassesOwn.never rfl (pi_range1 rfl n_range (da_cons (d_var 3) da_nil).pa) (pg_name (i := 7) nd rfl (.inl rfl)) (pss_cons (ps_set (i := 8) nd rfl (.inl rfl) (d_cal C_law_number hr (by decide) (da_cons (d_var 0) (da_cons (d_var 1) (da_cons (d_var 5) (da_cons (d_var 7) da_nil)))) rfl).pe)
    (pss_cons (ps_set (i := 9) nd rfl (.inl rfl) (d_sub (d_mod (d_intc n_int (da_cons (d_var 8) da_nil)) d_int) d_int).pe)
    (pss_cons (ps_if (t_cp hr (d_mod (d_intc n_int (da_cons (d_ix (d_var 0) d_int) da_nil)) d_int) d_int).pt (pss_one (ps_set (i := 9) nd rfl (.inl rfl) (d_add (d_mul (d_var 9) (d_pow d_int d_int)) (d_var 8)).pe)) pss_nil)
    (pss_cons (ps_if (DW.t (dw_and (DW.t (dw_or (t_cp hr (d_var 5) d_int) (dw_or1 (t_cp hr (d_var 7) d_int)))) (dw_and1 (t_cp hr (d_mod (d_fdiv (d_intc n_int (da_cons (d_var 8) da_nil)) d_int) d_int) d_int)))).pt (pss_one (ps_set (i := 9) nd rfl (.inl rfl) (DE.pe d_int))) pss_nil)
    (pss_one (ps_expr (pe_bm PySem.F.plainAttrs_list PySem.F.slot_list_append PySem.F.type_list_append mt_append (pe_var (i := 6) rfl (.inl rfl)) (pa_cons (pe_var (i := 9) rfl (.inl rfl)) pa_nil)))))))))
    (pss_one (ps_expr (pe_bm PySem.F.plainAttrs_list PySem.F.slot_list_append PySem.F.type_list_append mt_append (pe_var (i := 4) rfl (.inl rfl)) (pa_cons (pe_var (i := 6) rfl (.inl rfl)) pa_nil)))))))
    (pss_one (ps_ret (pe_var (i := 4) rfl (.inl rfl)))))), rfl⟩
/-- what the loops keep: the rows so far, all new -/
structure WI (H : Hp) (nb : Nat → Int) (at' M N : Nat) (tt : Addr) (i : Nat) (rs : List Addr) (H2 : Hp) : Prop where
  tab : Tab H2 tt rs i N (wF nb at')
  sm : Same H H2
  nt : H tt = none
  nr : ∀ a, a ∈ rs → H a = none
theorem WI.mono {H : Hp} {nb : Nat → Int} {at' M N : Nat} {tt : Addr} {i : Nat} {rs : List Addr} {H2 H3 : Hp} (h : WI H nb at' M N tt i rs H2) (e : Same H2 H3) : WI H nb at' M N tt i rs H3 := ⟨h.tab.mono e, h.sm.trans e, h.nt, h.nr⟩
theorem inner_run {H : Hp} {nb : Nat → Int} {at' M N : Nat} {tt p : Addr} {i : Nat} {rs : List Addr} {v0 : V} (hi : i < 1000) (hN : N < 1000) (r0 : Rp G H v0 (.lst (rowD 200 nb))) {o7 o8 o9 : Option V} {H2 : Hp} {D : Ends}
    (h : WI H nb at' M N tt i rs H2) (hp : H2 p = some (.lst [])) (pt : p ≠ tt) (pr : p ∉ rs) (p0 : H p = none)
    (hN' : ∀ o7 o8 o9 H3, WI H nb at' M N tt i rs H3 → H3 p = some (.lst (rowV N (wF nb at' i))) → D.nx [some v0, some (.int at'), some (.int M), some (.int N), some (.ref tt), some (.int i), some (.ref p), o7, o8, o9] H3) :
    tFor (iRng1 (tDA G W0 [3] (aCons (eVar 3) aNil))) (gName 7) (w_in (G := G)) D [some v0, some (.int at'), some (.int M), some (.int N), some (.ref tt), some (.int i), some (.ref p), o7, o8, o9] H2 := by
  refine snap_A (env := [.un, .un, .un, .fz (.int N), .un, .un, .un, .un, .un, .un]) (r := [.int N])
    (.un (.un (.un (.fz (.int _) (.un (.un (.un (.un (.un (.un .nil)))))))))) (by simp) fun vs H3 s3 r3 => ?_
  cases r3 with
  | cons h1 h1' =>
  cases h1
  cases h1'
  refine ⟨N, rfl, by omega, by omega, ?_⟩
  refine ⟨fun k m σ H' => m = N - k ∧ k ≤ N ∧ ∃ o7 o8 o9, σ = [some v0, some (.int at'), some (.int M), some (.int N), some (.ref tt), some (.int i), some (.ref p), o7, o8, o9] ∧ WI H nb at' M N tt i rs H' ∧ H' p = some (.lst (rowV k (wF nb at' i))),
    ⟨N, rfl, Nat.zero_le _, o7, o8, o9, rfl, h.mono s3, s3 _ _ hp⟩, ?_⟩
  rintro k m σ H' ⟨rfl, hk, q7, q8, q9, rfl, wi, hpk⟩
  by_cases hlt : k < N
  · refine .inr ⟨by show k < Int.toNat (N : Int); omega, fun σ' H'' => k + 1 ≤ N ∧ ∃ o7 o8 o9, σ' = [some v0, some (.int at'), some (.int M), some (.int N), some (.ref tt), some (.int i), some (.ref p), o7, o8, o9] ∧ WI H nb at' M N tt i rs H'' ∧ H'' p = some (.lst (rowV (k + 1) (wF nb at' i))),
      fun σ' H'' w => ⟨N - (k + 1), by omega, rfl, w⟩, ?_⟩
    rintro x H'' ⟨rfl, ex⟩
    have ex : x = .int (k : Int) := by rw [ex]; simp
    subst ex
    refine snap_E (env := [.fz (.lst (rowD 200 nb)), .fz (.int at'), .un, .un, .un, .fz (.int i), .un, .fz (.int k), .un, .un]) (r := .fz (.int (numF nb at' i k)))
      (.fz (r0.mono wi.sm) (.fz (.int _) (.un (.un (.un (.fz (.int _) (.un (.fz (.int _) (.un (.un .nil)))))))))) (eNum_is hi (by omega)) fun v H4 s4 nv => ?_
    have := rp_int nv
    subst this
    refine snap_E (env := [.un, .un, .un, .un, .un, .un, .un, .un, .fz (.int (numF nb at' i k)), .un]) (r := .fz (.int ((numF nb at' i k).fmod 9 - 4)))
      (.un (.un (.un (.un (.un (.un (.un (.un (.fz (.int _) (.un .nil)))))))))) eWei_is fun v H5 s5 nv => ?_
    have := rp_int nv
    subst this
    have wi5 := (wi.mono s4).mono s5
    have hp5 := s5 _ _ (s4 _ _ hpk)
    refine snap_T (env := [.fz (.lst (rowD 200 nb)), .un, .un, .un, .un, .un, .un, .un, .un, .un]) (b := decide ((nb 3).fmod 8 = 1))
      (.fz (r0.mono wi5.sm) (.un (.un (.un (.un (.un (.un (.un (.un (.un .nil)))))))))) tBig_is fun H6 s6 => ?_
    have wi6 := wi5.mono s6
    have hp6 := s6 _ _ hp5
    -- the two ways meet in the weight
    have rest : ∀ (D' : Ends) (hD : ∀ σ' H'', (k + 1 ≤ N ∧ ∃ o7 o8 o9, σ' = [some v0, some (.int at'), some (.int M), some (.int N), some (.ref tt), some (.int i), some (.ref p), o7, o8, o9] ∧ WI H nb at' M N tt i rs H'' ∧ H'' p = some (.lst (rowV (k + 1) (wF nb at' i)))) → D'.nx σ' H'') H7, WI H nb at' M N tt i rs H7 → H7 p = some (.lst (rowV k (wF nb at' i))) →
        (tSeq (tIfS (tDT G W0 [5, 7, 8] tFar) (tAsg (tDE G W0 [] (eC (.int 0))) (gName 9)) tNext) (tDrop (tBM G.K "list" rAppend (tVar 6) (tCons (tVar 9) tNil))))
          D' [some v0, some (.int at'), some (.int M), some (.int N), some (.ref tt), some (.int i), some (.ref p), some (.int k), some (.int (numF nb at' i k)), some (.int (w1F nb at' i k))] H7 := by
      intro D' hD H7 wi7 hp7
      refine snap_T (env := [.un, .un, .un, .un, .un, .fz (.int i), .un, .fz (.int k), .fz (.int (numF nb at' i k)), .un]) (b := decide ((7 < i ∨ 4 < k) ∧ 0 < ((numF nb at' i k).fdiv 9).fmod 3))
        (.un (.un (.un (.un (.un (.fz (.int _) (.un (.fz (.int _) (.fz (.int _) (.un .nil)))))))))) tFar_is fun H8 s8 => ?_
      have wi8 := wi7.mono s8
      have hp8 := s8 _ _ hp7
      have fin : ∀ H9, WI H nb at' M N tt i rs H9 → H9 p = some (.lst (rowV k (wF nb at' i))) → k + 1 ≤ N ∧ ∃ o7 o8 o9, ([some v0, some (.int at'), some (.int M), some (.int N), some (.ref tt), some (.int i), some (.ref p), some (.int k), some (.int (numF nb at' i k)), some (.int (wF nb at' i k))] : L2.St) = [some v0, some (.int at'), some (.int M), some (.int N), some (.ref tt), some (.int i), some (.ref p), o7, o8, o9] ∧ WI H nb at' M N tt i rs (upd H9 p (.lst (rowV k (wF nb at' i) ++ [.int (wF nb at' i k)]))) ∧ upd H9 p (.lst (rowV k (wF nb at' i) ++ [.int (wF nb at' i k)])) p = some (.lst (rowV (k + 1) (wF nb at' i))) := fun H9 wi9 hp9 => by
        refine ⟨by omega, _, _, _, rfl, ⟨wi9.tab.other pt pr, fun a o ha => ?_, wi9.nt, wi9.nr⟩, ?_⟩
        · have : a ≠ p := fun e => by rw [e, p0] at ha; cases ha
          rw [upd_ne this]; exact wi9.sm _ _ ha
        · rw [upd_same]
          simp [rowV, List.range_succ]
      by_cases hb : (decide ((7 < i ∨ 4 < k) ∧ 0 < ((numF nb at' i k).fdiv 9).fmod 3)) = true
      · rw [if_pos hb]
        refine snap_E (env := [.un, .un, .un, .un, .un, .un, .un, .un, .un, .un]) (r := .fz (.int 0))
          (.un (.un (.un (.un (.un (.un (.un (.un (.un (.un .nil)))))))))) (by simp) fun v H9 s9 nv => ?_
        have := rp_int nv
        subst this
        have ew : wF nb at' i k = 0 := by unfold wF; rw [if_pos (of_decide_eq_true hb)]
        have f9 := fin H9 (wi8.mono s9) (s9 _ _ hp8)
        rw [ew] at f9
        exact ⟨.ref p, rfl, .inl ⟨rfl, _, .inl (.inl (s9 _ _ hp8))⟩, .int 0, rfl, p, _, .int 0, rfl, rfl, s9 _ _ hp8, by have := sz; simp; omega, hD _ _ f9⟩
      · rw [if_neg hb]
        have ew : wF nb at' i k = w1F nb at' i k := by unfold wF; rw [if_neg fun h => hb (decide_eq_true h)]
        have f9 := fin H8 wi8 hp8
        rw [ew] at f9
        exact ⟨.ref p, rfl, .inl ⟨rfl, _, .inl (.inl hp8)⟩, .int (w1F nb at' i k), rfl, p, _, .int (w1F nb at' i k), rfl, rfl, hp8, by have := sz; simp; omega, hD _ _ f9⟩
    by_cases hb : (decide ((nb 3).fmod 8 = 1)) = true
    · rw [if_pos hb]
      refine snap_E (env := [.un, .un, .un, .un, .un, .un, .un, .un, .fz (.int (numF nb at' i k)), .fz (.int ((numF nb at' i k).fmod 9 - 4))]) (r := .fz (.int (((numF nb at' i k).fmod 9 - 4) * 10 ^ 12 + numF nb at' i k)))
        (.un (.un (.un (.un (.un (.un (.un (.un (.fz (.int _) (.fz (.int _) .nil)))))))))) eBig_is fun v H7 s7 nv => ?_
      have := rp_int nv
      subst this
      have ew : ((numF nb at' i k).fmod 9 - 4) * 10 ^ 12 + numF nb at' i k = w1F nb at' i k := by unfold w1F; rw [if_pos (of_decide_eq_true hb)]
      rw [ew]
      exact rest _ (fun σ' H'' h => h) H7 (wi6.mono s7) (s7 _ _ hp6)
    · rw [if_neg hb]
      have ew : (numF nb at' i k).fmod 9 - 4 = w1F nb at' i k := by unfold w1F; rw [if_neg fun h => hb (decide_eq_true h)]
      rw [ew]
      exact rest _ (fun σ' H'' h => h) H6 wi6 hp6
  · have hkN : k = N := by omega
    subst hkN
    exact .inl ⟨by show Int.toNat (k : Int) ≤ k; omega, hN' q7 q8 q9 H' wi hpk⟩
theorem rp_nil {S : Hp} {vs : List V} (h : RpAll G S vs []) : vs = [] := by cases h; rfl
theorem lst0 (env : DL.Env) : eA oLstD aNil env = .ok (.ow []) := by
  simp only [ev_eA, ev_aNil, ev_bok]
  rw [lst_ok (by simp)]
  rfl
theorem weights_run {H : Hp} {nb : Nat → Int} {at' M N : Nat} (hM : M < 1000) (hN : N < 1000) {v0 : V} (r0 : Rp G H v0 (.lst (rowD 200 nb))) {Q : VK}
    (hQ : ∀ H' tt rs, Tab H' tt rs M N (wF nb at') → Same H H' → H tt = none → (∀ a, a ∈ rs → H a = none) → Q (.ref tt) H') :
    w_t (G := G) { nx := fun _ H' => Q .non H', rt := Q } (start N_law_weights [v0, .int at', .int M, .int N]) H := by
  refine snap_E (env := [.un, .un, .un, .un, .un, .un, .un, .un, .un, .un]) (r := .ow [])
    (.un (.un (.un (.un (.un (.un (.un (.un (.un (.un .nil)))))))))) (lst0 _) fun v H1 s1 nv => ?_
  obtain ⟨tt, vs, rfl, h0, h1, rv⟩ := nv
  have := rp_nil rv
  subst this
  refine snap_A (env := [.un, .un, .fz (.int M), .un, .un, .un, .un, .un, .un, .un]) (r := [.int M])
    (.un (.un (.fz (.int _) (.un (.un (.un (.un (.un (.un (.un .nil)))))))))) (by simp) fun vs H2 s2 r2 => ?_
  cases r2 with
  | cons q1 q1' =>
  cases q1
  cases q1'
  refine ⟨M, rfl, by omega, by omega, ?_⟩
  refine ⟨fun i m σ H' => m = M - i ∧ i ≤ M ∧ ∃ rs o5 o6 o7 o8 o9, σ = [some v0, some (.int at'), some (.int M), some (.int N), some (.ref tt), o5, o6, o7, o8, o9] ∧ WI H nb at' M N tt i rs H',
    ⟨M, rfl, Nat.zero_le _, [], _, _, _, _, _, rfl, tab_nil (s2 _ _ h1), s1.trans s2, h0, fun a h => by simp at h⟩, ?_⟩
  rintro i m σ H' ⟨rfl, hi, rs, o5, o6, o7, o8, o9, rfl, wi⟩
  by_cases hlt : i < M
  · refine .inr ⟨by show i < Int.toNat (M : Int); omega, fun σ' H'' => i + 1 ≤ M ∧ ∃ rs o5 o6 o7 o8 o9, σ' = [some v0, some (.int at'), some (.int M), some (.int N), some (.ref tt), o5, o6, o7, o8, o9] ∧ WI H nb at' M N tt (i + 1) rs H'',
      fun σ' H'' w => ⟨M - (i + 1), by omega, rfl, w⟩, ?_⟩
    rintro x H'' ⟨rfl, ex⟩
    have ex : x = .int (i : Int) := by rw [ex]; simp
    subst ex
    refine snap_E (env := [.un, .un, .un, .un, .un, .un, .un, .un, .un, .un]) (r := .ow [])
      (.un (.un (.un (.un (.un (.un (.un (.un (.un (.un .nil)))))))))) (lst0 _) fun v H4 s4 nv => ?_
    obtain ⟨p, vs, rfl, hp, hp4, rv⟩ := nv
    have := rp_nil rv
    subst this
    have pt : p ≠ tt := fun e => by rw [e, wi.tab.ht] at hp; cases hp
    have pr : p ∉ rs := fun e => by
      obtain ⟨k, hk⟩ := List.mem_iff_getElem?.mp e
      rw [wi.tab.row k p hk] at hp; cases hp
    have p0 : H p = none := by
      cases q : H p with
      | none => rfl
      | some o => rw [wi.sm _ _ q] at hp; cases hp
    refine inner_run (by omega) hN r0 (wi.mono s4) hp4 pt pr p0 fun q7 q8 q9 H5 wi5 hp5 => ?_
    refine ⟨.ref tt, rfl, .inl ⟨rfl, _, .inl (.inl wi5.tab.ht)⟩, .ref p, rfl, tt, _, .ref p, rfl, rfl, wi5.tab.ht, by rw [List.length_map, wi5.tab.len]; have := sz; omega, ?_⟩
    refine ⟨by omega, rs ++ [p], _, _, _, _, _, rfl, wi5.tab.push hp5 pt pr, fun a o ha => ?_, wi5.nt, fun a ha => ?_⟩
    · have : a ≠ tt := fun e => by rw [e, wi5.nt] at ha; cases ha
      rw [upd_ne this]; exact wi5.sm _ _ ha
    · rcases List.mem_append.mp ha with h | h
      · exact wi5.nr a h
      · simp at h; subst h; exact p0
  · have hiM : i = M := by omega
    subst hiM
    refine .inl ⟨by show Int.toNat (i : Int) ≤ i; omega, ?_⟩
    exact ⟨.ref tt, rfl, hQ H' tt rs wi.tab wi.sm wi.nt wi.nr⟩
/-- the contract: a table that nobody else holds -/
def spW (G : GC) : Sp := fun vs H Q E => ∃ (v0 : V) (nb : Nat → Int) (at' M N : Nat), vs = [v0, .int at', .int M, .int N] ∧ Rp G H v0 (.lst (rowD 200 nb)) ∧ M < 1000 ∧ N < 1000 ∧
  ∀ H' tt rs, Tab H' tt rs M N (wF nb at') → Same H H' → H tt = none → (∀ a, a ∈ rs → H a = none) → Q (.ref tt) H'
theorem s_law_weights_S (I : FnIn G.K mg "_law_weights" s_law_weights ["numbers", "at", "many", "count"]) (C_law_number : Cal P w G.K mg base G "_law_number" 1 4 m_law_number) (n_range : mg "range" = none) (n_int : mg "int" = none) : CalS P w G.K mg base "_law_weights" 2 (spW G) := by
  obtain ⟨f, fd, F, hm, hbi⟩ := I.ex
  refine ⟨f, fd, _, F.ok sc_law_weights (fun vs H Q E h => ?_) (fun cdv A outer s H vs Q E hr h => ?_), hm, F.kp, hbi⟩
  · obtain ⟨v0, nb, at', M, N, rfl, _⟩ := h
    rfl
  · obtain ⟨v0, nb, at', M, N, rfl, r0, hM, hN, hQ⟩ := h
    obtain ⟨tr, hp, e⟩ := weights_body (P := P) (w := w) (mg := mg) (base := base) (G := G) (f := f) (cdv := cdv) (A := A) (outer := outer) (s := s) (H := H) (E := E) C_law_number n_range n_int hr
    subst e
    exact ⟨_, hp, weights_run hM hN r0 hQ⟩
end K03
end

section
set_option maxRecDepth 100000
set_option maxHeartbeats 1000000
/-! _law_none_pair, walked by hand. -/
namespace K03
open PySem L2 DL PG LW
variable {P : Program} {w : World} {mg : Str → Option Value} {base : Heap} {G : GC}
abbrev s_law_none_pair : Stmt := top 27
abbrev N_law_none_pair : List Str := ["numbers", "many", "count", "weights", "paper", "bounds", "last", "k", "total", "goal", "i"]
theorem sc_law_none_pair : FnScope N_law_none_pair ["numbers", "many", "count"] (defScope s_law_none_pair) := ⟨rfl, rfl, rfl, by decide +kernel, rfl, by decide +kernel, by decide +kernel⟩
def aW : DL.Env → DL.M (List DL.D) := (aCons (eVar 0) (aCons (eC (.int 60)) (aCons (eVar 1) (aCons (eVar 2) aNil))))
noncomputable def n_t {G : GC} : TS :=
  (tSeq (tAsg (tCall (spW G) [] E0 (tDA G W0 [0, 1, 2] aW)) (gName 3))
  (tSeq (tAsg (tDE G W0 (List.range 64) eP0) (gName 4))
  (tSeq (tAsg (tDE G W0 (List.range 64) eB0) (gName 5))
  (tSeq (tAsg (tDE G W0 [0] ePl) (gSub (tVar 4) (tDE G W0 [] eM1) rSetL))
  (tSeq (tAsg (tOp (rIxL G.K) (tVar 3) (tDE G W0 [] eM1)) (gName 6))
  (tSeq (tFor (iRng1 (tDA G W0 [2] (aCons (eVar 2) aNil))) (gName 7) (tSeq (tAsg (tDE G W0 (List.range 64) eT1) (gName 8)) (tAsg (tDE G W0 [8, 4, 0, 7] eLa) (gSub (tVar 6) (tVar 7) rSetL))))
  (tSeq (tAsg (tDE G W0 (List.range 64) eT2) (gName 8))
  (tSeq (tAsg (tDE G W0 [8, 4, 0] eBl) (gSub (tVar 5) (tDE G W0 [] eM1) rSetL))
  (tSeq (tAsg (tDE G W0 (List.range 64) eGo) (gName 9))
  (tDS G W0 eRt))))))))))
theorem none_body (Cw : CalS P w G.K mg base "_law_weights" 2 (spW G)) (n_range : mg "range" = none) (n_int : mg "int" = none) (n_sum : mg "sum" = none) {f : Addr} {cdv : Value} {A : Around} {outer : List PySem.Env} {s : Shared} {H : Hp} {E : XK}
    (hr : Room 2 (cxOf CX0 P w G.K mg base N_law_none_pair "_law_none_pair" (defScope s_law_none_pair) f cdv A outer s H E).nox.A) : ∃ t, PSs (cxOf CX0 P w G.K mg base N_law_none_pair "_law_none_pair" (defScope s_law_none_pair) f cdv A outer s H E).nox (defBody s_law_none_pair) t ∧ t = n_t (G := G) := by
  have nd := sc_law_none_pair.nd
  exact ⟨_, (pss_cons (ps_set (i := 3) nd rfl (.inr rfl) (pe_calS Cw hr (by decide) (DA.pa (da_cons (d_var 0) (da_cons d_int (da_cons (d_var 1) (da_cons (d_var 2) da_nil)))))))
    (pss_cons (ps_set (i := 4) nd rfl (.inr rfl) (DE.pe (d_lc rfl nd (di_range1 rfl n_range (da_cons (d_var 1) da_nil)) (blkOk_by (own := [("i", 10)]) (N := N_law_none_pair) (sc := defScope s_law_none_pair) (by decide +kernel)) (by decide) (fun _ _ _ _ _ => (dg_name (i := 10) nd rfl (.inl rfl))) (fun _ _ _ _ _ => dts_nil) (fun _ _ _ _ _ => (d_mod (d_intc n_int (da_cons (d_add (d_ix (d_var 0) (d_add d_int (d_mod (d_intc n_int (da_cons (d_var 10) da_nil)) d_int))) (d_mul d_int (d_fdiv (d_var 10) d_int))) da_nil)) d_int)))))
    (pss_cons (ps_set (i := 5) nd rfl (.inr rfl) (DE.pe (d_lc rfl nd (di_range1 rfl n_range (da_cons (d_var 1) da_nil)) (blkOk_by (own := [("i", 10)]) (N := N_law_none_pair) (sc := defScope s_law_none_pair) (by decide +kernel)) (by decide) (fun _ _ _ _ _ => (dg_name (i := 10) nd rfl (.inl rfl))) (fun _ _ _ _ _ => dts_nil) (fun _ _ _ _ _ => (d_sub (d_mod (d_intc n_int (da_cons (d_add (d_ix (d_var 0) (d_add d_int (d_mod (d_intc n_int (da_cons (d_var 10) da_nil)) d_int))) (d_mul d_int (d_fdiv (d_var 10) d_int))) da_nil)) d_int) d_int)))))
    (pss_cons (ps_asg (DE.pe (d_add d_int (d_mod (d_intc n_int (da_cons (d_ix (d_var 0) d_int) da_nil)) d_int))) (pg_sub (pe_var (i := 4) rfl (.inr (.inl rfl))) (DE.pe (d_neg d_int)) set_list))
    (pss_cons (ps_set (i := 6) nd rfl (.inl rfl) (pe_ix ix_list (pe_var (i := 3) rfl (.inr (.inl rfl))) (DE.pe (d_neg d_int)) (fun _ _ => rfl)))
    (pss_cons (ps_for PassesOwn.never rfl (pi_range1 rfl n_range (DA.pa (da_cons (d_var 2) da_nil))) (pg_name (i := 7) nd rfl (.inr rfl)) (pss_cons (ps_set (i := 8) nd rfl (.inl rfl) (DE.pe (d_sum rfl n_sum (da_cons (d_lc rfl nd (di_range1 rfl n_range (da_cons (d_sub (d_var 1) d_int) da_nil)) (blkOk_by (own := [("i", 10)]) (N := N_law_none_pair) (sc := defScope s_law_none_pair) (by decide +kernel)) (by decide) (fun _ _ _ _ _ => (dg_name (i := 10) nd rfl (.inl rfl))) (fun _ _ _ _ _ => dts_nil) (fun _ _ _ _ _ => (d_mul (d_ix (d_var 4) (d_var 10)) (d_ix (d_ix (d_var 3) (d_var 10)) (d_var 7))))) da_nil)))) (pss_one (ps_asg (DE.pe (d_sub (d_fdiv (d_sub d_int (d_var 8)) (d_ix (d_var 4) (d_neg d_int))) (d_mod (d_intc n_int (da_cons (d_ix (d_var 0) (d_add d_int (d_mod (d_intc n_int (da_cons (d_var 7) da_nil)) d_int))) da_nil)) d_int))) (pg_sub (pe_var (i := 6) rfl (.inl rfl)) (pe_var (i := 7) rfl (.inr (.inl rfl))) set_list)))))
    (pss_cons (ps_set (i := 8) nd rfl (.inl rfl) (DE.pe (d_sum rfl n_sum (da_cons (d_lc rfl nd (di_range1 rfl n_range (da_cons (d_sub (d_var 1) d_int) da_nil)) (blkOk_by (own := [("i", 10)]) (N := N_law_none_pair) (sc := defScope s_law_none_pair) (by decide +kernel)) (by decide) (fun _ _ _ _ _ => (dg_name (i := 10) nd rfl (.inl rfl))) (fun _ _ _ _ _ => dts_nil) (fun _ _ _ _ _ => (d_mul (d_ix (d_var 4) (d_var 10)) (d_ix (d_var 5) (d_var 10))))) da_nil))))
    (pss_cons (ps_asg (DE.pe (d_add (d_add (d_fdiv (d_sub d_int (d_var 8)) (d_ix (d_var 4) (d_neg d_int))) d_int) (d_mod (d_intc n_int (da_cons (d_ix (d_var 0) d_int) da_nil)) d_int))) (pg_sub (pe_var (i := 5) rfl (.inr (.inl rfl))) (DE.pe (d_neg d_int)) set_list))
    (pss_cons (ps_setLcD (i := 9) rfl nd rfl rfl (sw_true rfl rfl rfl (by decide +kernel)) (di_range1 rfl n_range (da_cons (d_var 2) da_nil)) (blkOk_by (own := [("k", 7)]) (N := N_law_none_pair) (sc := defScope s_law_none_pair) (by decide +kernel)) (by decide) (fun _ _ _ _ _ => (dg_name (i := 7) nd rfl (.inl rfl))) (fun _ _ _ _ _ => dts_nil) (fun _ _ _ _ _ => (d_mod (d_intc n_int (da_cons (d_add (d_ix (d_var 0) (d_add d_int (d_mod (d_intc n_int (da_cons (d_var 7) da_nil)) d_int))) (d_mul d_int (d_fdiv (d_var 7) d_int))) da_nil)) d_int)))
    (pss_one (DS.ps (ds_ret (d_tup (da_cons (d_var 9) (da_cons (d_lc rfl nd (di_range1 rfl n_range (da_cons (d_var 1) da_nil)) (blkOk_by (own := [("i", 10)]) (N := N_law_none_pair) (sc := defScope s_law_none_pair) (by decide +kernel)) (by decide) (fun _ _ _ _ _ => (dg_name (i := 10) nd rfl (.inl rfl))) (fun _ _ _ _ _ => dts_nil) (fun _ _ _ _ _ => (d_tup (da_cons (d_ix (d_var 3) (d_var 10)) (da_cons (d_ix (d_var 5) (d_var 10)) da_nil))))) (da_cons (d_var 4) da_nil)))))))))))))))), rfl⟩
theorem fresh_ne {H H' : Hp} {a p : Addr} {o : HO} (h : H a = some o) (hp : H p = none) : a ≠ p := fun e => by rw [e, hp] at h; cases h
theorem old_none {H H' : Hp} {p : Addr} (s : Same H H') (hp : H' p = none) : H p = none := by
  cases q : H p with
  | none => rfl
  | some o => rw [s _ _ q] at hp; cases hp
theorem tab_nin {H : Hp} {t p : Addr} {rs : List Addr} {M N : Nat} {T : Nat → Nat → Int} (h : Tab H t rs M N T) (hp : H p = none) : p ∉ rs := fun e => by
  obtain ⟨k, hk⟩ := List.mem_iff_getElem?.mp e
  rw [h.row k p hk] at hp; cases hp
theorem ixN_last {n : Nat} (h : 1 ≤ n) : ixN n (-1) = some (n - 1) := by
  unfold ixN
  simp
  omega
theorem none_run {hid : Addr → Prop} {H : Hp} (hh : ∀ a, hid a → H a ≠ none) {nb : Nat → Int} {M N : Nat} (h1 : 1 ≤ M) (hM : M < 100) (hN : N < 1000) {vs : List V}
    (hv : RpAll G (cut hid H) vs [.lst (rowD 200 nb), .int M, .int N]) {Q : VK} (hQ : ∀ v H', RetR G hid H H' v (.fz (npD nb M N)) → Q v H') :
    n_t (G := G) { nx := fun _ H' => Q .non H', rt := Q } (start N_law_none_pair vs) H := by
  cases hv with | @cons v0 _ _ _ r0 hv =>
  cases hv with | @cons v1 _ _ _ r1 hv =>
  cases hv with | @cons v2 _ _ _ r2 hv =>
  cases hv
  cases r1
  cases r2
  have r0 := r0.mono cut_le
  have hidb : ∀ {H' : Hp}, Same H H' → ∀ a, hid a → H' a ≠ none := fun {H'} s a h e => by
    cases q : H a with
    | none => exact hh a h q
    | some o => rw [s a o q] at e; cases e
  -- the weights
  refine snap_A (env := [.fz (.lst (rowD 200 nb)), .fz (.int M), .fz (.int N), .un, .un, .un, .un, .un, .un, .un, .un]) (r := [.lst (rowD 200 nb), .int 60, .int M, .int N])
    (.fz r0 (.fz (.int _) (.fz (.int _) (.un (.un (.un (.un (.un (.un (.un (.un .nil))))))))))) (by simp [aW]) fun us H1 s1 ru => ?_
  cases ru with | @cons u0 _ _ _ q0 ru =>
  cases ru with | @cons u1 _ _ _ q1 ru =>
  cases ru with | @cons u2 _ _ _ q2 ru =>
  cases ru with | @cons u3 _ _ _ q3 ru =>
  cases ru
  cases q1
  cases q2
  cases q3
  refine ⟨u0, nb, 60, M, N, rfl, q0, by omega, hN, fun H2 tt rs tab sm nt nr => ?_⟩
  have sm2 := s1.trans sm
  have nt0 : H tt = none := old_none s1 nt
  have nr0 : ∀ a, a ∈ rs → H a = none := fun a ha => old_none s1 (nr a ha)
  -- paper
  refine snap_E (env := [.fz (.lst (rowD 200 nb)), .fz (.int M), .un, .un, .un, .un, .un, .un, .un, .un, .un]) (r := .ow (rowD M (pa0 nb)))
    (.fz (r0.mono sm2) (.fz (.int _) (.un (.un (.un (.un (.un (.un (.un (.un (.un .nil))))))))))) (eP0_is (by omega)) fun v H3 s3 nv => ?_
  obtain ⟨pp, ws, rfl, hp, hp3, rv⟩ := nv
  have := rp_row_eq rv
  subst this
  have tab3 := tab.mono s3
  have sm3 := sm2.trans s3
  have p1 : pp ≠ tt := Ne.symm (fresh_ne (H' := H3) tab.ht hp)
  have p2 : pp ∉ rs := tab_nin tab hp
  have p3 : H pp = none := old_none sm2 hp
  -- bounds
  refine snap_E (env := [.fz (.lst (rowD 200 nb)), .fz (.int M), .un, .un, .un, .un, .un, .un, .un, .un, .un]) (r := .ow (rowD M (bo0 nb)))
    (.fz (r0.mono sm3) (.fz (.int _) (.un (.un (.un (.un (.un (.un (.un (.un (.un .nil))))))))))) (eB0_is (by omega)) fun v H4 s4 nv => ?_
  obtain ⟨pb, ws, rfl, hb, hb4, rv⟩ := nv
  have := rp_row_eq rv
  subst this
  have tab4 := tab3.mono s4
  have sm4 := sm3.trans s4
  have hp4 := s4 _ _ hp3
  have b1 : pb ≠ tt := Ne.symm (fresh_ne (H' := H3) tab3.ht hb)
  have b2 : pb ∉ rs := tab_nin tab3 hb
  have b3 : H pb = none := old_none sm3 hb
  have b4 : pb ≠ pp := Ne.symm (fresh_ne (H' := H3) hp3 hb)
  -- the last number of the paper
  refine snap_E (env := [.fz (.lst (rowD 200 nb)), .un, .un, .un, .un, .un, .un, .un, .un, .un, .un]) (r := .fz (.int (paL nb)))
    (.fz (r0.mono sm4) (.un (.un (.un (.un (.un (.un (.un (.un (.un (.un .nil))))))))))) ePl_is fun v H5 s5 nv => ?_
  have := rp_int nv
  subst this
  refine ⟨.ref pp, rfl, ?_⟩
  refine snap_E (env := [.un, .un, .un, .un, .un, .un, .un, .un, .un, .un, .un]) (r := .fz (.int (-1)))
    (.un (.un (.un (.un (.un (.un (.un (.un (.un (.un (.un .nil))))))))))) (eM1_is _) fun v H6 s6 nv => ?_
  have := rp_int nv
  subst this
  have tab6 := (tab4.mono s5).mono s6
  have sm6 := (sm4.trans s5).trans s6
  have hp6 := s6 _ _ (s5 _ _ hp4)
  have hb6 := s6 _ _ (s5 _ _ hb4)
  refine ⟨pp, _, -1, M - 1, rfl, rfl, hp6, by rw [rowV_len]; exact ixN_last h1, ?_⟩
  rw [rowV_set (by omega)]
  have tab7 := tab6.other (o := .lst (rowV M fun k => if k = M - 1 then paL nb else pa0 nb k)) p1 p2
  have sm7 : Same H (upd H6 pp (.lst (rowV M fun k => if k = M - 1 then paL nb else pa0 nb k))) := fun a o e => by
    rw [upd_ne (fun h => by rw [h, p3] at e; cases e)]; exact sm6 _ _ e
  have hp7 : upd H6 pp (.lst (rowV M fun k => if k = M - 1 then paL nb else pa0 nb k)) pp = some (.lst (rowV M (paF nb M))) := upd_same
  have hb7 : upd H6 pp (.lst (rowV M fun k => if k = M - 1 then paL nb else pa0 nb k)) pb = some (.lst (rowV M (bo0 nb))) := by rw [upd_ne b4]; exact hb6
  generalize upd H6 pp (.lst (rowV M fun k => if k = M - 1 then paL nb else pa0 nb k)) = H7 at tab7 sm7 hp7 hb7 ⊢
  -- the last row
  refine ⟨.ref tt, rfl, ?_⟩
  refine snap_E (env := [.un, .un, .un, .un, .un, .un, .un, .un, .un, .un, .un]) (r := .fz (.int (-1)))
    (.un (.un (.un (.un (.un (.un (.un (.un (.un (.un (.un .nil))))))))))) (eM1_is _) fun v H8 s8 nv => ?_
  have := rp_int nv
  subst this
  have tab8 := tab7.mono s8
  have sm8 := sm7.trans s8
  have hp8 := s8 _ _ hp7
  have hb8 := s8 _ _ hb7
  obtain ⟨la, ela, hla⟩ := tab8.at (show M - 1 < M by omega)
  refine ⟨tt, _, -1, .ref la, rfl, rfl, .inl (.inl tab8.ht), by rw [DL.atI_last, List.length_map, tab8.len, List.getElem?_map, ela]; rfl, ?_⟩
  have lar : la ∈ rs := List.mem_of_getElem? ela
  have l1 : la ≠ pp := fun e => p2 (e ▸ lar)
  have l2 : la ≠ pb := fun e => b2 (e ▸ lar)
  -- the loop over its places
  refine snap_A (env := [.un, .un, .fz (.int N), .un, .un, .un, .un, .un, .un, .un, .un]) (r := [.int N])
    (.un (.un (.fz (.int _) (.un (.un (.un (.un (.un (.un (.un (.un .nil))))))))))) (by simp) fun us H9 s9 ru => ?_
  cases ru with | cons q q' =>
  cases q
  cases q'
  refine ⟨N, rfl, by omega, by omega, ?_⟩
  refine ⟨fun k m σ H' => m = N - k ∧ k ≤ N ∧ ∃ o7 o8, σ = [some v0, some (.int (M : Nat)), some (.int (N : Nat)), some (.ref tt), some (.ref pp), some (.ref pb), some (.ref la), o7, o8, none, none] ∧ Tab H' tt rs M N (wK nb M k) ∧ H' pp = some (.lst (rowV M (paF nb M))) ∧ H' pb = some (.lst (rowV M (bo0 nb))) ∧ Same H H',
    ⟨N, rfl, Nat.zero_le _, _, _, rfl, (tab8.mono s9).congr fun i hi j hj => by simp [wK], s9 _ _ hp8, s9 _ _ hb8, sm8.trans s9⟩, ?_⟩
  rintro k m σ H' ⟨rfl, hk, o7, o8, rfl, tb, hpk, hbk, smk⟩
  by_cases hlt : k < N
  · refine .inr ⟨by show k < Int.toNat (N : Int); omega, fun σ' H'' => k + 1 ≤ N ∧ ∃ o7 o8, σ' = [some v0, some (.int (M : Nat)), some (.int (N : Nat)), some (.ref tt), some (.ref pp), some (.ref pb), some (.ref la), o7, o8, none, none] ∧ Tab H'' tt rs M N (wK nb M (k + 1)) ∧ H'' pp = some (.lst (rowV M (paF nb M))) ∧ H'' pb = some (.lst (rowV M (bo0 nb))) ∧ Same H H'',
      fun σ' H'' w => ⟨N - (k + 1), by omega, rfl, w⟩, ?_⟩
    rintro x H'' ⟨rfl, ex⟩
    have ex : x = .int (k : Int) := by rw [ex]; simp
    subst ex
    refine snap_E (env := [.un, .fz (.int M), .un, .fz (.lst (tabD M N (wK nb M k))), .fz (.lst (rowD M (paF nb M))), .un, .un, .fz (.int k), .un, .un, .un]) (r := .fz (.int (toF nb M k)))
      (.un (.fz (.int _) (.un (.fz tb.rp0 (.fz (rp_row0 hpk) (.un (.un (.fz (.int _) (.un (.un (.un .nil))))))))))) (eT1_is h1 (by omega) hlt fun i hi => by unfold wK; rw [if_neg (by omega)]) fun v H10 s10 nv => ?_
    have := rp_int nv
    subst this
    have tb10 := tb.mono s10
    refine snap_E (env := [.fz (.lst (rowD 200 nb)), .un, .un, .un, .fz (.lst (rowD M (paF nb M))), .un, .un, .fz (.int k), .fz (.int (toF nb M k)), .un, .un]) (r := .fz (.int (laF nb M k)))
      (.fz (r0.mono (smk.trans s10)) (.un (.un (.un (.fz (rp_row0 (s10 _ _ hpk)) (.un (.un (.fz (.int _) (.fz (.int _) (.un (.un .nil))))))))))) (eLa_is h1) fun v H11 s11 nv => ?_
    have := rp_int nv
    subst this
    have tb11 := tb10.mono s11
    have hl := tb11.row (M - 1) la ela
    refine ⟨.ref la, rfl, .int k, rfl, la, _, k, k, rfl, rfl, hl, ixN_nat (by simpa using hlt), ?_⟩
    rw [rowV_set hlt]
    refine ⟨by omega, _, _, rfl, (tb11.put ela).congr fun i hi j hj => ?_, by rw [upd_ne (Ne.symm l1)]; exact s11 _ _ (s10 _ _ hpk), by rw [upd_ne (Ne.symm l2)]; exact s11 _ _ (s10 _ _ hbk), fun a o e => ?_⟩
    · by_cases hi1 : i = M - 1
      · subst hi1
        simp only [wK, if_true]
        by_cases hj1 : j = k
        · subst hj1; simp
        · have : (j < k + 1) = (j < k) := by apply propext; omega
          simp [hj1, this]
      · simp [wK, hi1]
    · rw [upd_ne (fun h => by rw [h, nr0 la lar] at e; cases e)]
      exact s11 _ _ (s10 _ _ (smk _ _ e))
  have hkN : k = N := by omega
  subst hkN
  refine .inl ⟨by show Int.toNat (k : Int) ≤ k; omega, ?_⟩
  have tb : Tab H' tt rs M k (wL nb M) := tb.congr fun i hi j hj => by
    unfold wK wL
    simp [hj]
  -- the last bound
  refine snap_E (env := [.un, .fz (.int M), .un, .un, .fz (.lst (rowD M (paF nb M))), .fz (.lst (rowD M (bo0 nb))), .un, .un, .un, .un, .un]) (r := .fz (.int (to2 nb M)))
    (.un (.fz (.int _) (.un (.un (.fz (rp_row0 hpk) (.fz (rp_row0 hbk) (.un (.un (.un (.un (.un .nil))))))))))) (eT2_is h1 (by omega)) fun v H12 s12 nv => ?_
  have := rp_int nv
  subst this
  refine snap_E (env := [.fz (.lst (rowD 200 nb)), .un, .un, .un, .fz (.lst (rowD M (paF nb M))), .un, .un, .un, .fz (.int (to2 nb M)), .un, .un]) (r := .fz (.int (boL nb M)))
    (.fz (r0.mono (smk.trans s12)) (.un (.un (.un (.fz (rp_row0 (s12 _ _ hpk)) (.un (.un (.un (.fz (.int _) (.un (.un .nil))))))))))) (eBl_is h1) fun v H13 s13 nv => ?_
  have := rp_int nv
  subst this
  refine ⟨.ref pb, rfl, ?_⟩
  refine snap_E (env := [.un, .un, .un, .un, .un, .un, .un, .un, .un, .un, .un]) (r := .fz (.int (-1)))
    (.un (.un (.un (.un (.un (.un (.un (.un (.un (.un (.un .nil))))))))))) (eM1_is _) fun v H14 s14 nv => ?_
  have := rp_int nv
  subst this
  have s124 := (s12.trans s13).trans s14
  refine ⟨pb, _, -1, M - 1, rfl, rfl, s124 _ _ hbk, by rw [rowV_len]; exact ixN_last h1, ?_⟩
  rw [rowV_set (by omega)]
  have tab15 := (tb.mono s124).other (o := .lst (rowV M fun k => if k = M - 1 then boL nb M else bo0 nb k)) b1 b2
  have sm15 : Same H (upd H14 pb (.lst (rowV M fun k => if k = M - 1 then boL nb M else bo0 nb k))) := fun a o e => by
    rw [upd_ne (fun h => by rw [h, b3] at e; cases e)]; exact s124 _ _ (smk _ _ e)
  have hp15 : upd H14 pb (.lst (rowV M fun k => if k = M - 1 then boL nb M else bo0 nb k)) pp = some (.lst (rowV M (paF nb M))) := by rw [upd_ne (Ne.symm b4)]; exact s124 _ _ hpk
  have hb15 : upd H14 pb (.lst (rowV M fun k => if k = M - 1 then boL nb M else bo0 nb k)) pb = some (.lst (rowV M (boF nb M))) := upd_same
  generalize upd H14 pb (.lst (rowV M fun k => if k = M - 1 then boL nb M else bo0 nb k)) = H15 at tab15 sm15 hp15 hb15 ⊢
  -- the goal
  refine snap_E (env := [.fz (.lst (rowD 200 nb)), .un, .fz (.int k), .un, .un, .un, .un, .un, .un, .un, .un]) (r := .ow (rowD k (goF nb)))
    (.fz (r0.mono sm15) (.un (.fz (.int _) (.un (.un (.un (.un (.un (.un (.un (.un .nil))))))))))) (eGo_is hN) fun v H16 s16 nv => ?_
  obtain ⟨pg, ws, rfl, hg, hg16, rv⟩ := nv
  have := rp_row_eq rv
  subst this
  have g3 : H pg = none := old_none sm15 hg
  have nh : ∀ {a : Addr}, H a = none → ¬ hid a := fun ha hx => hh _ hx ha
  have sm16 := sm15.trans s16
  refine snap_R (hid := hid) (H0 := H) (env := [.un, .fz (.int M), .un, .fz (.lst (tabD M k (wL nb M))), .fz (.lst (rowD M (paF nb M))), .fz (.lst (rowD M (boF nb M))), .un, .un, .un, .fz (.lst (rowD k (goF nb))), .un])
    (.un (.fz (.int _) (.un (.fz ((tab15.mono s16).rp (nh nt0) fun a ha => nh (nr0 a ha)) (.fz (.lst (by rw [cut_neg (nh p3)]; exact s16 _ _ hp15) rp_row) (.fz (.lst (by rw [cut_neg (nh b3)]; exact s16 _ _ hb15) rp_row) (.un (.un (.un (.fz (.lst (by rw [cut_neg (nh g3)]; exact hg16) rp_row) (.un .nil))))))))))) sm16 (hidb sm16) (eRt_is (by omega)) hQ
theorem c_law_none_pair (I : FnIn G.K mg "_law_none_pair" s_law_none_pair ["numbers", "many", "count"]) (Cw : CalS P w G.K mg base "_law_weights" 2 (spW G)) (n_range : mg "range" = none) (n_int : mg "int" = none) (n_sum : mg "sum" = none) : Cal P w G.K mg base G "_law_none_pair" 3 3 m_law_none_pair := by
  obtain ⟨f, fd, F, hm, hbi⟩ := I.ex
  refine ⟨f, fd, _, F.ok sc_law_none_pair (fun vs H Q E h => ?_) (fun cdv A outer s H vs Q E hr h => ?_), hm, F.kp, hbi⟩
  · obtain ⟨hid, ds, hl, _, r, _⟩ := h
    rw [r.len, hl]; rfl
  · obtain ⟨hid, ds, hl, hh, r, h⟩ := h
    obtain ⟨tr, hp, e⟩ := none_body (P := P) (w := w) (mg := mg) (base := base) (G := G) (f := f) (cdv := cdv) (A := A) (outer := outer) (s := s) (H := H) (E := E) Cw n_range n_int n_sum hr
    subst e
    refine ⟨_, hp, ?_⟩
    cases e : m_law_none_pair ds with
    | bad => rw [e] at h; exact h.elim
    | ex x => exact absurd e np_noex
    | ok z =>
      rw [e] at h
      obtain ⟨nb, M, N, rfl, h1, h2, h3, rfl⟩ := np_in e
      exact none_run hh h1 h2 h3 r h
end K03
end

section
set_option maxRecDepth 100000
set_option maxHeartbeats 1000000
namespace K03
open PySem L2 DL
variable {P : Program} {w : World} {mg : Str → Option Value} {base : Heap} {G : GC}
abbrev s_exchange : Stmt := top 6
abbrev N_exchange : List Str := ["table", "row", "column", "scale", "chosen", "lead", "index", "line", "factor", "fresh", "old", "other"]
theorem sc_exchange : FnScope N_exchange ["table", "row", "column", "scale"] (defScope s_exchange) := ⟨rfl, rfl, rfl, by decide +kernel, rfl, by decide +kernel, by decide +kernel⟩
def xLc : DL.Env → DL.M Rs := eLc [10, 11] (iA oZip (aCons (eVar 7) (aCons (eVar 4) aNil))) (nTup 2 (nCons (nName 10) (nCons (nName 11) nNil))) tYesD (e2 oDiv (e2 oSub (e2 oMul (eVar 5) (eVar 10)) (e2 oMul (eVar 8) (eVar 11))) (eVar 3))
def xTest : DL.Env → DL.M Bool := tO (tV (e2 (cop .Eq) (eVar 6) (eVar 1))) (tAn (tV (e2 (cop .Eq) (eVar 8) (eC (.int 0)))) (tV (e2 (cop .Eq) (eVar 5) (eVar 3))))
def x_t {G : GC} : TS :=
  (tSeq (tAsg (tOp (rIxL G.K) (tVar 0) (tVar 1)) (gName 4))
      (tSeq (tAsg (tOp (rIxL G.K) (tVar 4) (tVar 2)) (gName 5))
      (tSeq (tFor (iRng1 (tDA G W0 [0] (aCons (eA oLen (aCons (eVar 0) aNil)) aNil))) (gName 6)
        (tSeq (tAsg (tOp (rIxL G.K) (tVar 0) (tVar 6)) (gName 7))
        (tSeq (tAsg (tOp (rIxL G.K) (tVar 7) (tVar 2)) (gName 8))
        (tSeq (tIfS (tDT G W0 [6, 1, 8, 5, 3] xTest) tCont tNext)
        (tSeq (tAsg (tDE G W0 (List.range 64) xLc) (gName 9))
        (tSeq (tAsg (tDE G W0 [8] (e1 oNeg (eVar 8))) (gSub (tVar 9) (tVar 2) rSetL))
        (tAsg (tVar 9) (gSub (tVar 0) (tVar 6) rSetL))))))))
      (tSeq (tAsg (tVar 3) (gSub (tVar 4) (tVar 2) rSetL)) (tRet (tVar 5))))))
theorem exchange_body (n_len : mg "len" = none) (n_range : mg "range" = none) (n_zip : mg "zip" = none) {f : Addr} {cdv : Value} {A : Around} {outer : List PySem.Env} {s : Shared} {H : Hp} {E : XK}
    (hr : Room 0 (cxOf CX0 P w G.K mg base N_exchange "exchange" (defScope s_exchange) f cdv A outer s H E).nox.A) : ∃ t, PSs (cxOf CX0 P w G.K mg base N_exchange "exchange" (defScope s_exchange) f cdv A outer s H E).nox (defBody s_exchange) t ∧ t = x_t (G := G) := by
  have nd := sc_exchange.nd
  exact ⟨_, (pss_cons (ps_set (i := 4) nd rfl (.inl rfl) (pe_ix ix_list (pe_var (i := 0) rfl (.inl rfl)) (pe_var (i := 1) rfl (.inl rfl)) (fun _ _ => rfl)))
    (pss_cons (ps_set (i := 5) nd rfl (.inr rfl) (pe_ix ix_list (pe_var (i := 4) rfl (.inl rfl)) (pe_var (i := 2) rfl (.inl rfl)) (fun _ _ => rfl)))
    (pss_cons (ps_for PassesOwn.never rfl (pi_range1 rfl n_range (da_cons (d_len n_len (da_cons (d_var 0) da_nil)) da_nil).pa) (pg_name (i := 6) nd rfl (.inl rfl))
      (pss_cons (ps_set (i := 7) nd rfl (.inl rfl) (pe_ix ix_list (pe_var (i := 0) rfl (.inl rfl)) (pe_var (i := 6) rfl (.inl rfl)) (fun _ _ => rfl)))
      (pss_cons (ps_set (i := 8) nd rfl (.inr rfl) (pe_ix ix_list (pe_var (i := 7) rfl (.inl rfl)) (pe_var (i := 2) rfl (.inl rfl)) (fun _ _ => rfl)))
      (pss_cons (ps_if (DW.t (dw_or (t_cp hr (d_var 6) (d_var 1)) (dw_or1 (DW.t (dw_and (t_cp hr (d_var 8) d_int) (dw_and1 (t_cp hr (d_var 5) (d_var 3)))))))).pt (pss_one ps_continue) pss_nil)
      (pss_cons (ps_setLcD (i := 9) rfl nd rfl rfl (sw_true rfl rfl rfl (by decide +kernel)) (di_zip rfl n_zip (da_cons (d_var 7) (da_cons (d_var 4) da_nil))) (blkOk_by (own := [("old", 10), ("other", 11)]) (N := N_exchange) (sc := defScope s_exchange) (by decide +kernel)) (by decide) (fun _ _ _ _ _ => (dg_tup rfl rfl (dgs_cons (dg_name (i := 10) nd rfl (.inl rfl)) (dgs_cons (dg_name (i := 11) nd rfl (.inl rfl)) dgs_nil)))) (fun _ _ _ _ _ => dts_nil) (fun _ _ _ _ _ => (d_fdiv (d_sub (d_mul (d_var 5) (d_var 10)) (d_mul (d_var 8) (d_var 11))) (d_var 3))))
      (pss_cons (ps_asg (d_neg (d_var 8)).pe (pg_sub (pe_var (i := 9) rfl (.inl rfl)) (pe_var (i := 2) rfl (.inl rfl)) set_list))
      (pss_one (ps_asg (pe_var (i := 9) rfl (.inl rfl)) (pg_sub (pe_var (i := 0) rfl (.inl rfl)) (pe_var (i := 6) rfl (.inl rfl)) set_list)))))))))
    (pss_cons (ps_asg (pe_var (i := 3) rfl (.inr (.inl rfl))) (pg_sub (pe_var (i := 4) rfl (.inl rfl)) (pe_var (i := 2) rfl (.inl rfl)) set_list)) (pss_one (ps_ret (pe_var (i := 5) rfl (.inr (.inl rfl))))))))), rfl⟩
theorem e_test {r i : Nat} {sc le fa : Int}  : xTest [.un, .fz (.int r), .un, .fz (.int sc), .un, .fz (.int le), .fz (.int i), .un, .fz (.int fa), .un, .un, .un] = .ok (decide (i = r) || (decide (fa = 0) && decide (le = sc))) := by
  have hi : ((i : Int) = r) ↔ i = r := by omega
  simp [xTest, hi]
  by_cases h1 : i = r <;> by_cases h2 : fa = 0 <;> by_cases h3 : le = sc <;> simp [h1, h2, h3]
theorem e_lc {N : Nat} {le fa sc : Int} {f g : Nat → Int} (hN : N < 1000000) (h1 : le.natAbs.log2 < 9000) (h2 : fa.natAbs.log2 < 9000) (h3 : sc.natAbs.log2 < 9000) (h0 : sc ≠ 0)
    (hf : ∀ j, j < N → (f j).natAbs.log2 < 9000) (hg : ∀ j, j < N → (g j).natAbs.log2 < 9000) :
    xLc [.un, .un, .un, .fz (.int sc), .fz (.lst (rowD N g)), .fz (.int le), .un, .fz (.lst (rowD N f)), .fz (.int fa), .un, .un, .un] = .ok (.ow (rowD N fun j => (le * f j - fa * g j).fdiv sc)) := by
  refine ev_lc (ds := (List.range N).map fun j => D.tup [.int (f j), .int (g j)]) (by simp) ?_ ?_ (.inr (by simpa using hN))
  · simp [oZip, seqD, zip_rows]
  · refine lcL_map (List.range N) _ (fun j => .int ((le * f j - fa * g j).fdiv sc)) fun j hj => ?_
    have hj := List.mem_range.mp hj
    refine ⟨_, .fz (.int ((le * f j - fa * g j).fdiv sc)), rfl, rfl, ?_, rfl⟩
    simp [wipeE, Sl.frz, mul_ok h1 (hf j hj), mul_ok h2 (hg j hj), div_ok h0 h3]

/-- where the loop stands -/
def XI (H : Hp) (t cr : Addr) (rs : List Addr) (M N : Nat) (T : Nat → Nat → Int) (r c : Nat) (s : Int) (i : Nat) (σ : L2.St) (H2 : Hp) : Prop :=
  i ≤ M ∧ ∃ rs' o6 o7 o8 o9 o10 o11, σ = [some (.ref t), some (.int r), some (.int c), some (.int s), some (.ref cr), some (.int (T r c)), o6, o7, o8, o9, o10, o11] ∧
    Tab H2 t rs' M N (fun a j => if a < i ∧ a ≠ r then xNew T r c s a j else T a j) ∧ rs'[r]? = some cr ∧ Same (cut (fun a => a = t ∨ a ∈ rs) H) H2 ∧ ∀ a, a ∈ rs' → a ∈ rs ∨ H a = none
theorem exchange_run {t : Addr} {rs : List Addr} {M N : Nat} {T : Nat → Nat → Int} {r c : Nat} {s : Int} {H : Hp} {Q : VK} (tab : Tab H t rs M N T) (hr : r < M) (hc : c < N) (hs : s ≠ 0) (hM : M < 1000000) (hN : N < 1000000) (sm : Small M N T) (ss : s.natAbs.log2 < 9000)
    (hq : ∀ H' rs', Tab H' t rs' M N (xNew T r c s) → Same (cut (fun a => a = t ∨ a ∈ rs) H) H' → (∀ a, a ∈ rs' → a ∈ rs ∨ H a = none) → Q (.int (T r c)) H') : x_t (G := G) { nx := fun _ H' => Q .non H', rt := Q } (start N_exchange [.ref t, .int r, .int c, .int s]) H := by
  obtain ⟨cr, ecr, hcr⟩ := tab.at hr
  refine ⟨.ref t, rfl, .int r, rfl, t, _, r, .ref cr, rfl, rfl, .inl (.inl tab.ht), by rw [DL.atI_nat, List.getElem?_map, ecr]; rfl, ?_⟩
  refine ⟨.ref cr, rfl, .int c, rfl, cr, _, c, .int (T r c), rfl, rfl, .inl (.inl hcr), by rw [DL.atI_nat]; exact rowV_get hc, ?_⟩
  refine snap_A (env := [.fz (.lst (tabD M N T)), .un, .un, .un, .un, .un, .un, .un, .un, .un, .un, .un]) (r := [.int M])
    (.fz tab.rp0 (.un (.un (.un (.un (.un (.un (.un (.un (.un (.un (.un .nil)))))))))))) (by simp) fun vs H1 s1 r1 => ?_
  cases r1 with
  | cons h h' =>
  cases h
  cases h'
  refine ⟨M, rfl, by omega, by omega, ?_⟩
  have same0 : Same (cut (fun a => a = t ∨ a ∈ rs) H) H := cut_le
  refine ⟨fun i m σ H2 => m = M - i ∧ XI H t cr rs M N T r c s i σ H2, ⟨M, rfl, Nat.zero_le _, rs, _, _, _, _, _, _, rfl, ((tab.mono s1).congr fun i _ j _ => by simp), ecr, same0.trans s1, fun a h => .inl h⟩, ?_⟩
  rintro i m σ H2 ⟨rfl, hi, rs', o6, o7, o8, o9, o10, o11, rfl, tb, er, sm2, new⟩
  by_cases hlt : i < M
  · refine .inr ⟨by show i < Int.toNat (M : Int); omega, fun σ' H' => XI H t cr rs M N T r c s (i + 1) σ' H', fun σ' H' w => ⟨M - (i + 1), by omega, rfl, w⟩, ?_⟩
    rintro x H' ⟨rfl, ex⟩
    have ex : x = .int (i : Int) := by rw [ex]; simp
    subst ex
    obtain ⟨la, ela, hla⟩ := tb.at hlt
    have rowi : rowV N (fun j => if i < i ∧ i ≠ r then xNew T r c s i j else T i j) = rowV N (T i) := rowV_congr fun j _ => by simp
    simp only [rowi] at hla
    refine ⟨.ref t, rfl, .int i, rfl, t, _, i, .ref la, rfl, rfl, .inl (.inl tb.ht), by rw [DL.atI_nat, List.getElem?_map, ela]; rfl, ?_⟩
    refine ⟨.ref la, rfl, .int c, rfl, la, _, c, .int (T i c), rfl, rfl, .inl (.inl hla), by rw [DL.atI_nat]; exact rowV_get hc, ?_⟩
    refine snap_T (env := [.un, .fz (.int r), .un, .fz (.int s), .un, .fz (.int (T r c)), .fz (.int i), .un, .fz (.int (T i c)), .un, .un, .un]) (.un (.fz (.int _) (.un (.fz (.int _) (.un (.fz (.int _) (.fz (.int _) (.un (.fz (.int _) (.un (.un (.un .nil)))))))))))) e_test fun H3 s3 => ?_
    have tb3 := tb.mono s3
    by_cases hb : (decide (i = r) || (decide (T i c = 0) && decide (T r c = s))) = true
    · rw [if_pos hb]
      refine ⟨by omega, rs', _, _, _, _, _, _, rfl, tb3.congr fun a _ j _ => ?_, er, sm2.trans s3, new⟩
      by_cases ha : a = i
      · subst ha
        by_cases har : a = r
        · simp [har]
        · simp [har] at hb
          obtain ⟨z1, z2⟩ := hb
          have : xNew T r c s a j = T a j := by
            unfold xNew
            rw [if_neg har]
            split
            · next e => subst e; rw [z1]; rfl
            · rw [z1, z2, Int.zero_mul, Int.sub_zero, Int.mul_fdiv_cancel_left _ hs]
          simp [har, this]
      · have : (a < i + 1) = (a < i) := by apply propext; omega
        simp [this]
    · rw [if_neg hb]
      have hir : i ≠ r := by
        intro e
        simp [e] at hb
      have hcr3 : H3 cr = some (.lst (rowV N (T r))) := by
        have := tb3.row r cr er
        rwa [rowV_congr (g := T r) fun j _ => by simp] at this
      have hla3 : H3 la = some (.lst (rowV N (T i))) := s3 _ _ hla
      refine snap_E (env := [.un, .un, .un, .fz (.int s), .fz (.lst (rowD N (T r))), .fz (.int (T r c)), .un, .fz (.lst (rowD N (T i))), .fz (.int (T i c)), .un, .un, .un])
        (r := .ow (rowD N fun j => (T r c * T i j - T i c * T r j).fdiv s))
        (.un (.un (.un (.fz (.int _) (.fz (rp_row0 hcr3) (.fz (.int _) (.un (.fz (rp_row0 hla3) (.fz (.int _) (.un (.un (.un .nil))))))))))))
        (e_lc hN (sm r hr c hc) (sm i hlt c hc) ss hs (fun j hj => sm i hlt j hj) (fun j hj => sm r hr j hj)) fun v H4 s4 nv => ?_
      obtain ⟨p, vs, rfl, hp3, hp4, rv⟩ := nv
      have := rp_row_eq rv
      subst this
      refine snap_E (env := [.un, .un, .un, .un, .un, .un, .un, .un, .fz (.int (T i c)), .un, .un, .un]) (r := .fz (.int (-T i c)))
        (.un (.un (.un (.un (.un (.un (.un (.un (.fz (.int _) (.un (.un (.un .nil)))))))))))) (by simp) fun v H5 s5 nv => ?_
      have := rp_int nv
      subst this
      refine ⟨.ref p, rfl, .int c, rfl, p, _, c, c, rfl, rfl, s5 _ _ hp4, ixN_nat (by simpa using hc), ?_⟩
      rw [rowV_set hc]
      have hpt : p ≠ t := fun e => by rw [e, tb3.ht] at hp3; cases hp3
      have hpr : p ∉ rs' := fun e => by
        obtain ⟨k, hk⟩ := List.mem_iff_getElem?.mp e
        rw [tb3.row k p hk] at hp3; cases hp3
      have tb5 := ((tb3.mono s4).mono s5).other (o := .lst (rowV N fun k => if k = c then -T i c else (T r c * T i k - T i c * T r k).fdiv s)) hpt hpr
      refine ⟨.ref p, rfl, .ref t, rfl, .int i, rfl, t, _, i, i, rfl, rfl, tb5.ht, ixN_nat (by rw [List.length_map, tb.len]; exact hlt), ?_⟩
      refine ⟨by omega, rs'.set i p, _, _, _, _, _, _, rfl, (tb5.swap hlt upd_same hpt hpr).congr fun a _ j _ => ?_, ?_, fun a o ho => ?_, fun a ha => ?_⟩
      · by_cases ha : a = i
        · subst ha
          simp [hir, xNew]
        · have : (a < i + 1) = (a < i) := by apply propext; omega
          simp [ha, this]
      · rw [List.getElem?_set_ne hir]; exact er
      · have h3 := (sm2.trans s3) a o ho
        have hat : a ≠ t := by
          intro e
          rw [cut_pos (.inl e)] at ho; cases ho
        have hap : a ≠ p := by
          intro e
          rw [e, hp3] at h3; cases h3
        rw [upd_ne hat, upd_ne hap]
        exact s5 _ _ (s4 _ _ h3)
      · rcases List.mem_or_eq_of_mem_set ha with e | e
        · exact new a e
        · subst e
          by_cases hx : a ∈ rs
          · exact .inl hx
          · right
            cases q : H a with
            | none => rfl
            | some o =>
              have : cut (fun a => a = t ∨ a ∈ rs) H a = some o := by rw [cut_neg (by simp [hpt, hx])]; exact q
              rw [(sm2.trans s3) a o this] at hp3; cases hp3
  · have hiM : i = M := by omega
    subst hiM
    refine .inl ⟨by show Int.toNat (i : Int) ≤ i; omega, ?_⟩
    have hrow : H2 cr = some (.lst (rowV N (T r))) := by
      have := tb.row r cr er
      rwa [rowV_congr (g := T r) fun j _ => by simp] at this
    refine ⟨.int s, rfl, .ref cr, rfl, .int c, rfl, cr, _, c, c, rfl, rfl, hrow, ixN_nat (by simpa using hc), ?_⟩
    refine ⟨.int (T r c), rfl, ?_⟩
    rw [rowV_set hc]
    refine hq _ rs' ((tb.put er).congr fun a ha j _ => ?_) (fun a o ho => ?_) new
    · by_cases har : a = r
      · subst har
        simp [xNew]
      · simp [har, ha]
    · have hcrX : a ≠ cr := by
        intro e
        subst e
        rcases new a (List.mem_of_getElem? er) with h | h
        · rw [cut_pos (.inr h)] at ho; cases ho
        · have := cut_le a o ho
          rw [h] at this; cases this
      rw [upd_ne hcrX]
      exact sm2 a o ho
theorem fn_exchange {f : Addr} {fd : FuncData} (F : Fun G.K "exchange" "exchange" s_exchange f fd) (n_len : mg "len" = none) (n_range : mg "range" = none) (n_zip : mg "zip" = none) : FnOk P w G.K mg base CX0 1 f fd ["table", "row", "column", "scale"] spX := by
  refine F.ok sc_exchange (fun vs H Q E h => ?_) (fun cdv A outer s H vs Q E hr h => ?_)
  · obtain ⟨t, rs, M, N, T, r, c, s, rfl, _⟩ := h
    rfl
  · obtain ⟨t, rs, M, N, T, r, c, sc, rfl, tab, h1, h2, h3, h4, h5, h6, h7, hq⟩ := h
    obtain ⟨tr, hp, e⟩ := exchange_body (P := P) (w := w) (mg := mg) (base := base) (G := G) (f := f) (cdv := cdv) (A := A) (outer := outer) (s := s) (H := H) (E := E) n_len n_range n_zip hr
    subst e
    exact ⟨_, hp, exchange_run tab h1 h2 h3 h4 h5 h6 h7 hq⟩
end K03
end

section
set_option maxRecDepth 100000
set_option maxHeartbeats 1000000
namespace K03
open PySem L2 DL PG
variable {P : Program} {w : World} {mg : Str → Option Value} {base : Heap} {G : GC}
abbrev s_climb : Stmt := top 9
abbrev N_climb : List Str := ["columns", "limits", "gains", "many", "table", "basic", "loose", "scale", "column", "weights", "prices", "row", "place", "entries"]
theorem sc_climb : FnScope N_climb ["columns", "limits", "gains"] (defScope s_climb) := ⟨rfl, rfl, rfl, by decide +kernel, rfl, by decide +kernel, by decide +kernel⟩
def cElt : DL.Env → DL.M Rs := e2 oAdd (eLc [13] (iE iterA (eVar 0)) (nName 13) tYesD (e2 oIx (eVar 13) (eVar 12))) (eA oLstD (aCons (e2 oIx (eVar 1) (eVar 12)) aNil))
def cObj : DL.Env → DL.M Rs := e2 oAdd (eA oList (aCons (eVar 2) aNil)) (eA oLstD (aCons (eC (.int 0)) aNil))
def cBas : DL.Env → DL.M Rs := eLc [12] (iA oRng1 (aCons (eA oLen (aCons (eVar 1) aNil)) aNil)) (nName 12) tYesD (e2 oAdd (eVar 3) (eVar 12))
def cEnt : DL.Env → DL.M Rs := eA (oCal 2 m_entering_column) (aCons (e2 oIx (eVar 4) (e1 oNeg (eC (.int 1)))) (aCons (eVar 6) aNil))
def cLv : DL.Env → DL.M Rs := eA (oCal 3 m_leaving_row) (aCons (eVar 4) (aCons (eVar 5) (aCons (eVar 8) aNil)))
def cTop : DL.Env → DL.So := (sSeq (sAsg [4, 5, 6] (nTup 2 (nCons (nName 9) (nCons (nName 10) nNil))) (eA (oCal 3 m_top_of) (aCons (eVar 4) (aCons (eVar 5) (aCons (eVar 6) aNil))))) (sRet [7, 9, 10] (eA oTupD (aCons (eC (.str "top")) (aCons (eVar 7) (aCons (eVar 9) (aCons (eVar 10) aNil)))))))
def cRay : DL.Env → DL.So := (sRet [4, 5, 6, 8, 7] (eA oTupD (aCons (eC (.str "ray")) (aCons (eC (.int 1)) (aCons (eA (oCal 5 m_ray_of) (aCons (eVar 4) (aCons (eVar 5) (aCons (eVar 6) (aCons (eVar 8) (aCons (eVar 7) aNil)))))) (aCons (eA oLstD aNil) aNil))))))
def c_turn {G : GC} : TS :=
  (tSeq (tAsg (tDE G W0 [4, 6] cEnt) (gName 8))
  (tSeq (tIfS (tDT G W0 [8] (tV (e2 (cop .Lt) (eVar 8) (eC (.int 0))))) (tDS G W0 cTop) tNext)
  (tSeq (tAsg (tDE G W0 [4, 5, 8] cLv) (gName 11))
  (tSeq (tIfS (tDT G W0 [11] (tV (e2 (cop .Lt) (eVar 11) (eC (.int 0))))) (tDS G W0 cRay) tNext)
  (tSeq (tAsg (tCall spX [] E0 (tCons (tVar 4) (tCons (tVar 11) (tCons (tVar 8) (tCons (tVar 7) tNil))))) (gName 7))
  (tAsg (tTup (tCons (tOp (rIxL G.K) (tVar 6) (tVar 8)) (tCons (tOp (rIxL G.K) (tVar 5) (tVar 11)) tNil))) (gTup G.K 2 (gCons (gSub (tVar 5) (tVar 11) rSetL) (gCons (gSub (tVar 6) (tVar 8) rSetL) gNil)))))))))
def c_t {G : GC} : TS :=
  (tSeq (tAsg (tDE G W0 [0] (eA oLen (aCons (eVar 0) aNil))) (gName 3))
  (tSeq (tAsg (tLc (iRng1 (tDA G W0 [1] (aCons (eA oLen (aCons (eVar 1) aNil)) aNil))) (gName 12) tYes (tDE G W0 (List.range 64 ++ [1, 12]) cElt) [12]) (gName 4))
  (tSeq (tDrop (tBM G.K "list" rAppend (tVar 4) (tCons (tDE G W0 [2] cObj) tNil)))
  (tSeq (tAsg (tDE G W0 (List.range 64) cBas) (gName 5))
  (tSeq (tAsg (tLstRg (tRg1 (tVar 3))) (gName 6))
  (tSeq (tAsg (tDE G W0 [] (eC (.int 1))) (gName 7))
  (tWhile (tDT G W0 [] (tV (eC (.bl true)))) (c_turn (G := G)))))))))
theorem climb_body (n_len : mg "len" = none) (n_range : mg "range" = none) (n_list : mg "list" = none) (C_entering_column : Cal P w G.K mg base G "entering_column" 1 2 m_entering_column) (C_leaving_row : Cal P w G.K mg base G "leaving_row" 1 3 m_leaving_row) (C_top_of : Cal P w G.K mg base G "top_of" 1 3 m_top_of) (C_ray_of : Cal P w G.K mg base G "ray_of" 1 5 m_ray_of)
    (C_exchange : CalS P w G.K mg base "exchange" 1 spX) {f : Addr} {cdv : Value} {A : Around} {outer : List PySem.Env} {s : Shared} {H : Hp} {E : XK}
    (hr : Room 1 (cxOf CX0 P w G.K mg base N_climb "climb" (defScope s_climb) f cdv A outer s H E).nox.A) : ∃ t, PSs (cxOf CX0 P w G.K mg base N_climb "climb" (defScope s_climb) f cdv A outer s H E).nox (defBody s_climb) t ∧ t = c_t (G := G) := by
  have nd := sc_climb.nd
  exact ⟨_, (pss_cons (ps_set (i := 3) nd rfl (.inr rfl) (d_len n_len (da_cons (d_var 0) da_nil)).pe)
    (pss_cons (ps_setLc (i := 4) rfl nd rfl rfl (sw_true rfl rfl rfl (by decide +kernel)) (pi_range1 rfl n_range (da_cons (d_len n_len (da_cons (d_var 1) da_nil)) da_nil).pa) (blkOk_by (own := [("place", 12)]) (N := N_climb) (sc := defScope s_climb) (by decide +kernel))
        (fun _ _ _ _ _ => pg_name (i := 12) nd rfl (.inr rfl)) (fun _ _ _ _ _ => pts_nil)
        (fun _ _ _ _ _ => (d_add (d_lc rfl nd (di_any (d_var 0)) (blkOk_by (own := [("entries", 13)]) rfl) (by decide) (fun _ _ _ _ _ => (dg_name (i := 13) nd rfl (.inl rfl))) (fun _ _ _ _ _ => dts_nil) (fun _ _ _ _ _ => (d_ix (d_var 13) (d_var 12)))) (d_lst (da_cons (d_ix (d_var 1) (d_var 12)) da_nil))).pe))
    (pss_cons (ps_expr (pe_bm PySem.F.plainAttrs_list PySem.F.slot_list_append PySem.F.type_list_append mt_append (pe_var (i := 4) rfl (.inl rfl)) (pa_cons (d_add (d_listc n_list (da_cons (d_var 2) da_nil)) (d_lst (da_cons d_int da_nil))).pe pa_nil)))
    (pss_cons (ps_setLcD (i := 5) rfl nd rfl rfl (sw_true rfl rfl rfl (by decide +kernel)) (di_range1 rfl n_range (da_cons (d_len n_len (da_cons (d_var 1) da_nil)) da_nil)) (blkOk_by (own := [("place", 12)]) (N := N_climb) (sc := defScope s_climb) (by decide +kernel)) (by decide) (fun _ _ _ _ _ => (dg_name (i := 12) nd rfl (.inl rfl))) (fun _ _ _ _ _ => dts_nil) (fun _ _ _ _ _ => (d_add (d_var 3) (d_var 12))))
    (pss_cons (ps_set (i := 6) nd rfl (.inl rfl) (pe_listRg rfl rfl n_list (prg_1 rfl n_range (pe_var (i := 3) rfl (.inr (.inl rfl))))))
    (pss_cons (ps_set (i := 7) nd rfl (.inl rfl) (DE.pe d_int))
    (pss_one (ps_while PassesOwn.never (dt_val d_bl).pt
      (pss_cons (ps_set (i := 8) nd rfl (.inl rfl) (d_cal C_entering_column hr (by decide) (da_cons (d_ix (d_var 4) (d_neg d_int)) (da_cons (d_var 6) da_nil)) rfl).pe)
      (pss_cons (ps_if (t_cp hr (d_var 8) d_int).pt (dss_cons (ds_asg (d_cal C_top_of hr (by decide) (da_cons (d_var 4) (da_cons (d_var 5) (da_cons (d_var 6) da_nil))) rfl) (dg_tup rfl rfl (dgs_cons (dg_name (i := 9) nd rfl (.inl rfl)) (dgs_cons (dg_name (i := 10) nd rfl (.inl rfl)) dgs_nil)))) (dss_one (ds_ret (d_tup (da_cons d_str (da_cons (d_var 7) (da_cons (d_var 9) (da_cons (d_var 10) da_nil)))))))).ps pss_nil)
      (pss_cons (ps_set (i := 11) nd rfl (.inl rfl) (d_cal C_leaving_row hr (by decide) (da_cons (d_var 4) (da_cons (d_var 5) (da_cons (d_var 8) da_nil))) rfl).pe)
      (pss_cons (ps_if (t_cp hr (d_var 11) d_int).pt (dss_one (ds_ret (d_tup (da_cons d_str (da_cons d_int (da_cons (d_cal C_ray_of hr (by decide) (da_cons (d_var 4) (da_cons (d_var 5) (da_cons (d_var 6) (da_cons (d_var 8) (da_cons (d_var 7) da_nil))))) rfl) (da_cons (d_lst da_nil) da_nil))))))).ps pss_nil)
      (pss_cons (ps_set (i := 7) nd rfl (.inl rfl) (pe_calS C_exchange hr (by decide) (pa_cons (pe_var (i := 4) rfl (.inl rfl)) (pa_cons (pe_var (i := 11) rfl (.inl rfl)) (pa_cons (pe_var (i := 8) rfl (.inl rfl)) (pa_cons (pe_var (i := 7) rfl (.inl rfl)) pa_nil))))))
      (pss_one (ps_asg (pe_tup (pa_cons (pe_ix ix_list (pe_var (i := 6) rfl (.inl rfl)) (pe_var (i := 8) rfl (.inl rfl)) (fun _ _ => rfl)) (pa_cons (pe_ix ix_list (pe_var (i := 5) rfl (.inl rfl)) (pe_var (i := 11) rfl (.inl rfl)) (fun _ _ => rfl)) pa_nil)))
        (pg_tup rfl (pgs_cons (pg_sub (pe_var (i := 5) rfl (.inl rfl)) (pe_var (i := 11) rfl (.inl rfl)) set_list) (pgs_cons (pg_sub (pe_var (i := 6) rfl (.inl rfl)) (pe_var (i := 8) rfl (.inl rfl)) set_list) pgs_nil)))))))))))))))))), rfl⟩
end K03
end

section
set_option maxRecDepth 100000
set_option maxHeartbeats 1000000
namespace K03
open PySem L2 DL PG
variable {P : Program} {w : World} {mg : Str → Option Value} {base : Heap} {G : GC}
section
variable {cs : List (List Int)} {ls gs : List Int}
theorem e_elt {i : Nat} (ok : ClOk cs ls gs) (hi : i < ls.length) : cElt [.fz (.lst (cs.map lsD)), .fz (.lst (ls.map D.int)), .un, .un, .un, .un, .un, .un, .un, .un, .un, .un, .fz (.int i), .un] =
    .ok (.ow (rowD (cs.length + 1) ((Sx.St.init (lpOf cs ls gs)).T (lpOf cs ls gs) i))) := by
  have h1 : eLc [13] (iE iterA (eVar 0)) (nName 13) tYesD (e2 oIx (eVar 13) (eVar 12)) [.fz (.lst (cs.map lsD)), .fz (.lst (ls.map D.int)), .un, .un, .un, .un, .un, .un, .un, .un, .un, .un, .fz (.int i), .un] = .ok (.ow (rowD cs.length fun j => (cs.getD j []).getD i 0)) := by
    rw [← col_row]
    refine ev_lc (ds := cs.map lsD) (by simp) (by simp) ?_ (.inr (by have := ok.n; simp; omega))
    refine lcL_map cs lsD (fun c => D.int (c.getD i 0)) fun c hc => ?_
    refine ⟨_, .fz (.int (c.getD i 0)), rfl, rfl, ?_, rfl⟩
    have hl := ok.col c hc
    have : atI (c.map D.int) (i : Int) = some (.int (c.getD i 0)) := by
      rw [DL.atI_nat, List.getElem?_map, List.getElem?_eq_getElem (by omega)]
      simp [List.getD, show i < c.length by omega]
    simp [wipeE, lsD, this]
  have h2 : atI (ls.map D.int) (i : Int) = some (.int (ls.getD i 0)) := by
    rw [DL.atI_nat, List.getElem?_map, List.getElem?_eq_getElem (by omega)]
    simp [List.getD, hi]
  have h3 : ∀ a b : List DL.D, a.length + b.length ≤ PySem.sizeLine → oAdd (.lst a) (.lst b) = .ok (.ow (a ++ b)) := fun a b h => by
    show (if a.length + b.length ≤ PySem.sizeLine then DL.M.ok (Rs.ow (a ++ b)) else .bad) = _
    rw [if_pos h]
  have sz1 := sz
  have hn := ok.n
  have h4 : oLstD [DL.D.int (ls.getD i 0)] = .ok (.ow [.int (ls.getD i 0)]) := by unfold oLstD; rw [if_pos (by simp; omega)]
  rw [← T0_row hi, ← row_add]
  unfold cElt
  simp only [ev_e2, h1, ev_bok, ev_row, ev_eA, ev_aCons, ev_vs, ev_v0f, ev_rfz, ev_ixL, h2, ev_oR, ev_pok, ev_aNil, h4]
  rw [h3 _ _ (by simp; omega)]
  rfl
theorem e_obj (ok : ClOk cs ls gs) : cObj [.un, .un, .fz (.lst (gs.map D.int)), .un, .un, .un, .un, .un, .un, .un, .un, .un, .un, .un] = .ok (.ow (rowD (cs.length + 1) ((Sx.St.init (lpOf cs ls gs)).T (lpOf cs ls gs) ls.length))) := by
  have sz1 := sz
  have hn := ok.n
  have hl := ok.len
  have h4 : oLstD [DL.D.int 0] = .ok (.ow [.int 0]) := by unfold oLstD; rw [if_pos (by simp; omega)]
  have h5 : oList [.lst (gs.map D.int)] = .ok (.ow (gs.map D.int)) := rfl
  have h3 : oAdd (.lst (gs.map D.int)) (.lst [.int 0]) = .ok (.ow (gs.map D.int ++ [.int 0])) := by
    show (if (gs.map D.int).length + [DL.D.int 0].length ≤ PySem.sizeLine then DL.M.ok (Rs.ow _) else .bad) = _
    rw [if_pos (by simp; omega)]
  unfold cObj
  rw [← T0_obj ok.len]
  simp only [ev_e2, ev_eA, ev_aCons, ev_vs, ev_v0f, ev_bok, ev_rfz, ev_aNil, h5, ev_pok, ev_row, ev_c, h4, h3]
theorem e_bas (hm : ls.length < 400000) {n : Nat} : cBas [.un, .fz (.lst (ls.map D.int)), .un, .fz (.int n), .un, .un, .un, .un, .un, .un, .un, .un, .un, .un] = .ok (.ow (rowD ls.length fun k => ((n + k : Nat) : Int))) := by
  refine ev_lc (ds := rgD ls.length) (by simp) (by simp [rng1 (show ls.length < 1000000 by omega)]) ?_ (.inr (by simp; omega))
  refine lcL_map (List.range ls.length) _ (fun k => D.int ((n + k : Nat) : Int)) fun k hk => ?_
  refine ⟨_, .fz (.int ((n + k : Nat) : Int)), rfl, rfl, ?_, rfl⟩
  simp [wipeE]
theorem e_ent {P : Sx.LP} {s : Sx.St} (hn : P.n < 400000) : cEnt [.un, .un, .un, .un, .fz (.lst (tabD (P.m + 1) (P.n + 1) (s.T P))), .un, .fz (.lst (rowD P.n fun j => (s.lo j : Nat))), .un, .un, .un, .un, .un, .un, .un] = .ok (.fz (.int (optI (s.entB P P.n)))) := by
  unfold cEnt
  have := m_entering (P := P) (s := s) (by omega)
  simp [ix_tab_last, oCal, this]
theorem e_lv {P : Sx.LP} {s : Sx.St} {c : Nat} (hm : P.m < 400000) (hc : c < P.n) (sm : Small (P.m + 1) (P.n + 1) (s.T P)) :
    cLv [.un, .un, .un, .un, .fz (.lst (tabD (P.m + 1) (P.n + 1) (s.T P))), .fz (.lst (rowD P.m fun j => (s.ba j : Nat))), .un, .un, .fz (.int c), .un, .un, .un, .un, .un] = .ok (.fz (.int (optI (s.lvB P c P.m)))) := by
  unfold cLv
  have := m_leaving (P := P) (s := s) hc (by omega) sm
  simp [oCal, this]
theorem e_top {P : Sx.LP} {s : Sx.St} (hI : Sx.Inv P s) (hm : P.m < 400000) (hn : P.n < 400000) {o8 : DL.Sl} :
    cTop [.un, .un, .un, .un, .fz (.lst (tabD (P.m + 1) (P.n + 1) (s.T P))), .fz (.lst (rowD P.m fun j => (s.ba j : Nat))), .fz (.lst (rowD P.n fun j => (s.lo j : Nat))), .fz (.int (s.sc P)), .un, .un, .un, .un, .un, .un] = .rt (.fz (finD P (.top s))) := by
  unfold cTop
  have := m_top (P := P) (s := s) hI (by omega) (by omega)
  have sz1 := sz
  have h4 : ∀ a b c d : DL.D, oTupD [a, b, c, d] = .ok (.fz (.tup [a, b, c, d])) := fun a b c d => by unfold oTupD; rw [if_pos (by simp; omega)]
  have h5 : ∀ (A : List Nat) (env : DL.Env) (d : DL.D), (frzIf (.fz d) A env = env ∨ frzIf (.fz d) A env = fzAll A env) := fun A env d => by
    unfold frzIf; split
    · exact .inl rfl
    · exact .inr rfl
  simp only [ev_seq, ev_asg, ev_eA, ev_aCons, ev_vs, ev_v0f, ev_bok, ev_rfz, ev_aNil, oCal, List.length_cons, List.length_nil, if_true, this, ev_pok, ev_ofM]
  rcases h5 [4, 5, 6] [.un, .un, .un, .un, .fz (.lst (tabD (P.m + 1) (P.n + 1) (s.T P))), .fz (.lst (rowD P.m fun j => (s.ba j : Nat))), .fz (.lst (rowD P.n fun j => (s.lo j : Nat))), .fz (.int (s.sc P)), .un, .un, .un, .un, .un, .un] (.tup [.lst (rowD P.n (s.xOf P)), .lst (rowD P.m (s.yOf P))]) with e | e <;> rw [e] <;> simp [h4, finD]
theorem e_ray {P : Sx.LP} {s : Sx.St} (hI : Sx.Inv P s) {c : Nat} (hc : c < P.n) (hm : P.m < 400000) (hn : P.n < 400000) :
    cRay [.un, .un, .un, .un, .fz (.lst (tabD (P.m + 1) (P.n + 1) (s.T P))), .fz (.lst (rowD P.m fun j => (s.ba j : Nat))), .fz (.lst (rowD P.n fun j => (s.lo j : Nat))), .fz (.int (s.sc P)), .fz (.int c), .un, .un, .un, .un, .un] = .rt (.fz (finD P (.ray s c))) := by
  unfold cRay
  have := m_ray (P := P) (s := s) hI hc (by omega) (by omega)
  have sz1 := sz
  have h4 : ∀ a b c d : DL.D, oTupD [a, b, c, d] = .ok (.fz (.tup [a, b, c, d])) := fun a b c d => by unfold oTupD; rw [if_pos (by simp; omega)]
  have h5 : oLstD [] = .ok (.ow []) := by unfold oLstD; rw [if_pos (by simp)]
  simp [oCal, this, h4, h5, finD]
end
/-- where the climb stands -/
def CI (P : Sx.LP) (fin : Sx.Fin) (H0 : Hp) (f : Nat) (σ : L2.St) (H2 : Hp) : Prop :=
  ∃ s t rs pb pl o0 o1 o2 o8 o9 o10 o11 o12 o13, σ = [o0, o1, o2, some (.int P.n), some (.ref t), some (.ref pb), some (.ref pl), some (.int (s.sc P)), o8, o9, o10, o11, o12, o13] ∧ Sx.runS P f s = some fin ∧ Sx.Inv P s ∧
    Tab H2 t rs (P.m + 1) (P.n + 1) (s.T P) ∧ H2 pb = some (.lst (rowV P.m fun j => (s.ba j : Nat))) ∧ H2 pl = some (.lst (rowV P.n fun j => (s.lo j : Nat))) ∧ pb ≠ t ∧ pb ∉ rs ∧ pl ≠ t ∧ pl ∉ rs ∧ pb ≠ pl ∧
    Same H0 H2 ∧ H0 t = none ∧ (∀ a, a ∈ rs → H0 a = none) ∧ H0 pb = none ∧ H0 pl = none
structure LpOk (P : Sx.LP) : Prop where
  n : P.n < 400000
  m : P.m < 400000
  T : ∀ s : Sx.St, Small (P.m + 1) (P.n + 1) (s.T P)
  sc : ∀ s : Sx.St, (s.sc P).natAbs.log2 < 9000
theorem turn_run {P : Sx.LP} (ok : LpOk P) {fin : Sx.Fin} {hid : Addr → Prop} {H0 : Hp} (hh : ∀ a, hid a → H0 a ≠ none) {f : Nat} {σ : L2.St} {H2 : Hp} {D : Ends} (h : CI P fin H0 f σ H2)
    (hN : ∀ σ' H', (∃ f', f' < f ∧ CI P fin H0 f' σ' H') → D.nx σ' H') (hQ : ∀ v H', RetR G hid H0 H' v (.fz (finD P fin)) → D.rt v H') : c_turn (G := G) D σ H2 := by
  obtain ⟨s, t, rs, pb, pl, o0, o1, o2, o8, o9, o10, o11, o12, o13, rfl, run, hI, tab, hb, hl, n1, n2, n3, n4, n5, sm, f1, f2, f3, f4⟩ := h
  have hidb : ∀ {H' : Hp}, Same H0 H' → ∀ a, hid a → H' a ≠ none := fun {H'} s a h e => by
    cases q : H0 a with
    | none => exact hh a h q
    | some o => rw [s a o q] at e; cases e
  have ht : ¬ hid t := fun h => hh t h f1
  have hrs : ∀ a, a ∈ rs → ¬ hid a := fun a ha h => hh a h (f2 a ha)
  have hpb : ¬ hid pb := fun h => hh pb h f3
  have hpl : ¬ hid pl := fun h => hh pl h f4
  cases f with
  | zero => cases run
  | succ f =>
  refine snap_E (env := [.un, .un, .un, .un, .fz (.lst (tabD (P.m + 1) (P.n + 1) (s.T P))), .un, .fz (.lst (rowD P.n fun j => (s.lo j : Nat))), .un, .un, .un, .un, .un, .un, .un]) (r := .fz (.int (optI (s.entB P P.n))))
    (.un (.un (.un (.un (.fz tab.rp0 (.un (.fz (rp_row0 hl) (.un (.un (.un (.un (.un (.un (.un .nil)))))))))))))) (e_ent ok.n) fun v H3 s3 nv => ?_
  have := rp_int nv
  subst this
  have tab3 := tab.mono s3
  have hb3 := s3 _ _ hb
  have hl3 := s3 _ _ hl
  have sm3 := sm.trans s3
  refine snap_T (env := [.un, .un, .un, .un, .un, .un, .un, .un, .fz (.int (optI (s.entB P P.n))), .un, .un, .un, .un, .un]) (b := decide (optI (s.entB P P.n) < 0))
    (.un (.un (.un (.un (.un (.un (.un (.un (.fz (.int _) (.un (.un (.un (.un (.un .nil)))))))))))))) (by simp) fun H4 s4 => ?_
  have tab4 := tab3.mono s4
  have hb4 := s4 _ _ hb3
  have hl4 := s4 _ _ hl3
  have sm4 := sm3.trans s4
  simp only [Sx.runS] at run
  cases e1 : s.entB P P.n with
  | none =>
    rw [e1] at run
    cases run
    rw [if_pos (by simp [optI])]
    refine snap_R (hid := hid) (H0 := H0) (env := [.un, .un, .un, .un, .fz (.lst (tabD (P.m + 1) (P.n + 1) (s.T P))), .fz (.lst (rowD P.m fun j => (s.ba j : Nat))), .fz (.lst (rowD P.n fun j => (s.lo j : Nat))), .fz (.int (s.sc P)), .un, .un, .un, .un, .un, .un])
      (.un (.un (.un (.un (.fz (tab4.rp ht hrs) (.fz (.lst (by rw [cut_neg hpb]; exact hb4) rp_row) (.fz (.lst (by rw [cut_neg hpl]; exact hl4) rp_row) (.fz (.int _) (.un (.un (.un (.un (.un (.un .nil)))))))))))))) sm4 (hidb sm4) (e_top hI ok.m ok.n (o8 := .un)) hQ
  | some c =>
    have hE := Sx.ent_of e1
    have hc := hE.lt
    rw [e1] at run
    simp only at run
    rw [if_neg (fun h => by have := of_decide_eq_true h; simp only [optI] at this; omega)]
    refine snap_E (env := [.un, .un, .un, .un, .fz (.lst (tabD (P.m + 1) (P.n + 1) (s.T P))), .fz (.lst (rowD P.m fun j => (s.ba j : Nat))), .un, .un, .fz (.int c), .un, .un, .un, .un, .un]) (r := .fz (.int (optI (s.lvB P c P.m))))
      (.un (.un (.un (.un (.fz tab4.rp0 (.fz (rp_row0 hb4) (.un (.un (.fz (.int _) (.un (.un (.un (.un (.un .nil)))))))))))))) (e_lv ok.m hc (ok.T s)) fun v H5 s5 nv => ?_
    have := rp_int nv
    subst this
    have tab5 := tab4.mono s5
    have hb5 := s5 _ _ hb4
    have hl5 := s5 _ _ hl4
    have sm5 := sm4.trans s5
    refine snap_T (env := [.un, .un, .un, .un, .un, .un, .un, .un, .un, .un, .un, .fz (.int (optI (s.lvB P c P.m))), .un, .un]) (b := decide (optI (s.lvB P c P.m) < 0))
      (.un (.un (.un (.un (.un (.un (.un (.un (.un (.un (.un (.fz (.int _) (.un (.un .nil)))))))))))))) (by simp) fun H6 s6 => ?_
    have tab6 := tab5.mono s6
    have hb6 := s6 _ _ hb5
    have hl6 := s6 _ _ hl5
    have sm6 := sm5.trans s6
    cases e2 : s.lvB P c P.m with
    | none =>
      rw [e2] at run
      cases run
      rw [if_pos (by simp [optI])]
      refine snap_R (hid := hid) (H0 := H0) (env := [.un, .un, .un, .un, .fz (.lst (tabD (P.m + 1) (P.n + 1) (s.T P))), .fz (.lst (rowD P.m fun j => (s.ba j : Nat))), .fz (.lst (rowD P.n fun j => (s.lo j : Nat))), .fz (.int (s.sc P)), .fz (.int c), .un, .un, .un, .un, .un])
        (.un (.un (.un (.un (.fz (tab6.rp ht hrs) (.fz (.lst (by rw [cut_neg hpb]; exact hb6) rp_row) (.fz (.lst (by rw [cut_neg hpl]; exact hl6) rp_row) (.fz (.int _) (.fz (.int _) (.un (.un (.un (.un (.un .nil)))))))))))))) sm6 (hidb sm6) (e_ray hI hc ok.m ok.n) hQ
    | some r =>
      have hL := Sx.lv_of e2
      have hr := hL.lt
      rw [e2] at run
      simp only at run
      rw [if_neg (fun h => by have := of_decide_eq_true h; simp only [optI] at this; omega)]
      refine ⟨.ref t, rfl, .int r, rfl, .int c, rfl, .int (s.sc P), rfl, t, rs, P.m + 1, P.n + 1, s.T P, r, c, s.sc P, rfl, tab6, by omega, by omega, by have := hI.pos; omega, by have := ok.m; omega, by have := ok.n; omega, ok.T s, ok.sc s, fun H7 rs' tab7 sm7 new7 => ?_⟩
      have hb7 : H7 pb = _ := sm7 pb _ (by rw [cut_neg (by simp [n1, n2])]; exact hb6)
      have hl7 : H7 pl = _ := sm7 pl _ (by rw [cut_neg (by simp [n3, n4])]; exact hl6)
      have sm07 : Same H0 H7 := fun a o e => sm7 a o (by
        rw [cut_neg, sm6 a o e]
        rintro (h | h)
        · rw [h, f1] at e; cases e
        · rw [f2 a h] at e; cases e)
      have new0 : ∀ a, a ∈ rs' → H0 a = none := fun a ha => by
        rcases new7 a ha with h | h
        · exact f2 a h
        · cases q : H0 a with
          | none => rfl
          | some o => rw [sm6 a o q] at h; cases h
      have m1 : pb ∉ rs' := fun h => by
        rcases new7 pb h with h | h
        · exact n2 h
        · rw [hb6] at h; cases h
      have m2 : pl ∉ rs' := fun h => by
        rcases new7 pl h with h | h
        · exact n4 h
        · rw [hl6] at h; cases h
      have tab7 : Tab H7 t rs' (P.m + 1) (P.n + 1) ((s.piv r c).T P) := tab7.congr fun i hi j hj => Sx.new_eq hI (by omega) (by omega) (by omega)
      -- the pair
      refine ⟨.ref pl, rfl, .int c, rfl, pl, _, c, .int (s.lo c : Nat), rfl, rfl, .inl (.inl hl7), by rw [DL.atI_nat]; exact rowV_get hc, ?_⟩
      refine ⟨.ref pb, rfl, .int r, rfl, pb, _, r, .int (s.ba r : Nat), rfl, rfl, .inl (.inl hb7), by rw [DL.atI_nat]; exact rowV_get hr, ?_⟩
      refine ⟨by have := sz; show 2 ≤ sizeLine; omega, fun p hp => ?_⟩
      refine ⟨p, _, rfl, .inl (.inl upd_same), rfl, ?_⟩
      have ppb : pb ≠ p := fun e => by rw [← e, hb7] at hp; cases hp
      have ppl : pl ≠ p := fun e => by rw [← e, hl7] at hp; cases hp
      have tab8 := tab7.mono (same_new (o := .tup [.int (s.lo c : Nat), .int (s.ba r : Nat)]) hp)
      refine ⟨.int (s.lo c : Nat), _, rfl, ?_⟩
      refine ⟨.ref pb, rfl, .int r, rfl, pb, _, r, r, rfl, rfl, by rw [upd_ne ppb]; exact hb7, ixN_nat (by simpa using hr), ?_⟩
      refine ⟨.int (s.ba r : Nat), _, rfl, ?_⟩
      refine ⟨.ref pl, rfl, .int c, rfl, pl, _, c, c, rfl, rfl, by rw [upd_ne (Ne.symm n5), upd_ne ppl]; exact hl7, ixN_nat (by simpa using hc), rfl, ?_⟩
      refine hN _ _ ⟨f, by omega, s.piv r c, t, rs', pb, pl, o0, o1, o2, some (.int c), o9, o10, some (.int r), o12, o13, by rw [Sx.St.piv_sc]; rfl, run, Sx.inv_piv hI hc hL.toLv, (tab8.other n1 m1).other n3 m2, ?_, ?_, n1, m1, n3, m2, n5, fun a o e => ?_, f1, new0, f3, f4⟩
      · rw [upd_ne n5, upd_same, rowV_set hr]
        congr 2
        refine rowV_congr fun j hj => ?_
        simp only [Sx.St.piv, Sx.up]
        split <;> rfl
      · rw [upd_same, rowV_set hc]
        congr 2
        refine rowV_congr fun j hj => ?_
        simp only [Sx.St.piv, Sx.up]
        split <;> rfl
      · have h7 := sm07 a o e
        rw [upd_ne (fun h => by rw [h, f4] at e; cases e), upd_ne (fun h => by rw [h, f3] at e; cases e), upd_ne (fun h => by rw [h, hp] at h7; cases h7)]
        exact h7
end K03
end

section
set_option maxRecDepth 100000
set_option maxHeartbeats 1000000
namespace K03
open PySem L2 DL PG
variable {P : Program} {w : World} {mg : Str → Option Value} {base : Heap} {G : GC}
theorem CI.mono {P : Sx.LP} {fin : Sx.Fin} {H0 H2 H3 : Hp} {f : Nat} {σ : L2.St} (h : CI P fin H0 f σ H2) (e : Same H2 H3) : CI P fin H0 f σ H3 := by
  obtain ⟨s, t, rs, pb, pl, o0, o1, o2, o8, o9, o10, o11, o12, o13, rfl, run, hI, tab, hb, hl, n1, n2, n3, n4, n5, sm, f1⟩ := h
  exact ⟨s, t, rs, pb, pl, o0, o1, o2, o8, o9, o10, o11, o12, o13, rfl, run, hI, tab.mono e, e _ _ hb, e _ _ hl, n1, n2, n3, n4, n5, sm.trans e, f1⟩
theorem climb_run {cs : List (List Int)} {ls gs : List Int} (ok : ClOk cs ls gs) {fin : Sx.Fin} (run : Sx.runS (lpOf cs ls gs) (2 ^ (cs.length + ls.length) + 1) (Sx.St.init (lpOf cs ls gs)) = some fin) {hid : Addr → Prop} {H : Hp} (hh : ∀ a, hid a → H a ≠ none) {vs : List V}
    (hv : RpAll G (cut hid H) vs [.lst (cs.map lsD), .lst (ls.map D.int), .lst (gs.map D.int)]) {Q : VK} (hQ : ∀ v H', RetR G hid H H' v (.fz (finD (lpOf cs ls gs) fin)) → Q v H') :
    c_t (G := G) { nx := fun _ H' => Q .non H', rt := Q } (start N_climb vs) H := by
  cases hv with | @cons v0 _ _ _ r0 hv =>
  cases hv with | @cons v1 _ _ _ r1 hv =>
  cases hv with | @cons v2 _ _ _ r2 hv =>
  cases hv
  have r0 := r0.mono cut_le
  have r1 := r1.mono cut_le
  have r2 := r2.mono cut_le
  have hm := ok.m
  have hn := ok.n
  have hP : lpOf cs ls gs = lpOf cs ls gs := rfl
  have lok : LpOk (lpOf cs ls gs) := ⟨ok.n, ok.m, fun s => lp_T ok s, fun s => lp_sc ok s⟩
  have hI0 : Sx.Inv (lpOf cs ls gs) (Sx.St.init (lpOf cs ls gs)) := Sx.inv_init _ (fun p hp => by
    have hp : p < ls.length := hp
    show 0 ≤ ls.getD p 0
    rw [List.getD_eq_getElem?_getD, List.getElem?_eq_getElem hp]
    exact ok.pos _ (List.getElem_mem hp))
  -- many
  refine snap_E (env := [.fz (.lst (cs.map lsD)), .un, .un, .un, .un, .un, .un, .un, .un, .un, .un, .un, .un, .un]) (r := .fz (.int cs.length))
    (.fz r0 (.un (.un (.un (.un (.un (.un (.un (.un (.un (.un (.un (.un (.un .nil)))))))))))))) (by simp) fun v H1 s1 nv => ?_
  have := rp_int nv
  subst this
  -- the table
  refine snap_A (env := [.un, .fz (.lst (ls.map D.int)), .un, .un, .un, .un, .un, .un, .un, .un, .un, .un, .un, .un]) (r := [.int ls.length])
    (.un (.fz (r1.mono s1) (.un (.un (.un (.un (.un (.un (.un (.un (.un (.un (.un (.un .nil)))))))))))))) (by simp) fun us H2 s2 ru => ?_
  cases ru with | cons h h' =>
  cases h
  cases h'
  have s02 : Same H H2 := s1.trans s2
  refine ⟨ls.length, rfl, by omega, by omega, fun t ht => ?_⟩
  refine ⟨fun i k H' => k = ls.length - i ∧ i ≤ ls.length ∧ ∃ rs, Tab H' t rs i (cs.length + 1) ((Sx.St.init (lpOf cs ls gs)).T (lpOf cs ls gs)) ∧ Same H2 H' ∧ ∀ a, a ∈ rs → H2 a = none,
    ⟨_, rfl, Nat.zero_le _, [], tab_nil upd_same, same_new ht, fun a h => by simp at h⟩, ?_⟩
  rintro i k H' ⟨rfl, hi, rs, tab, sm, new⟩
  by_cases hlt : i < ls.length
  · refine .inr ⟨by show i < Int.toNat (ls.length : Int); omega, fun H'' => ∃ rs, Tab H'' t rs (i + 1) (cs.length + 1) ((Sx.St.init (lpOf cs ls gs)).T (lpOf cs ls gs)) ∧ Same H2 H'' ∧ ∀ a, a ∈ rs → H2 a = none,
      fun H'' w => ⟨ls.length - (i + 1), by omega, rfl, by omega, w⟩, ?_⟩
    rintro x H'' ⟨rfl, ex⟩
    have ex : x = .int (i : Int) := by rw [ex]; simp
    subst ex
    refine ⟨rfl, ?_⟩
    unfold tYes; dsimp only
    rw [if_pos rfl]
    refine snap_E (env := [.fz (.lst (cs.map lsD)), .fz (.lst (ls.map D.int)), .un, .un, .un, .un, .un, .un, .un, .un, .un, .un, .fz (.int i), .un])
      (.fz ((r0.mono s02).mono sm) (.fz ((r1.mono s02).mono sm) (.un (.un (.un (.un (.un (.un (.un (.un (.un (.un (.fz (.int _) (.un .nil)))))))))))))) (e_elt ok hlt) fun v H4 s4 nv => ?_
    obtain ⟨p, ws, rfl, hp, hp4, rv⟩ := nv
    have := rp_row_eq rv
    subst this
    have tab4 := tab.mono s4
    have hpt : p ≠ t := fun e => by rw [e, tab.ht] at hp; cases hp
    have hpr : p ∉ rs := fun e => by
      obtain ⟨k, hk⟩ := List.mem_iff_getElem?.mp e
      rw [tab.row k p hk] at hp; cases hp
    refine ⟨rs.map V.ref, tab4.ht, by rw [List.length_map, tab4.len]; have := sz; omega, rs ++ [p], tab4.push hp4 hpt hpr, fun a o e => ?_, fun a ha => ?_⟩
    · rw [upd_ne (fun h => by rw [h, ht] at e; cases e)]
      exact s4 _ _ (sm _ _ e)
    · rcases List.mem_append.mp ha with h | h
      · exact new a h
      · simp at h
        subst h
        cases q : H2 a with
        | none => rfl
        | some o => rw [sm _ _ q] at hp; cases hp
  have hi : i = ls.length := by omega
  subst hi
  refine .inl ⟨by show Int.toNat (ls.length : Int) ≤ ls.length; omega, ?_⟩
  have s0' := s02.trans sm
  -- the row of gains
  refine ⟨.ref t, rfl, .inl ⟨rfl, _, .inl (.inl tab.ht)⟩, ?_⟩
  refine snap_E (env := [.un, .un, .fz (.lst (gs.map D.int)), .un, .un, .un, .un, .un, .un, .un, .un, .un, .un, .un])
    (.un (.un (.fz (r2.mono s0') (.un (.un (.un (.un (.un (.un (.un (.un (.un (.un (.un .nil)))))))))))))) (e_obj ok) fun v H4 s4 nv => ?_
  obtain ⟨p, ws, rfl, hp, hp4, rv⟩ := nv
  have := rp_row_eq rv
  subst this
  have tab4 := tab.mono s4
  have hpt : p ≠ t := fun e => by rw [e, tab.ht] at hp; cases hp
  have hpr : p ∉ rs := fun e => by
    obtain ⟨k, hk⟩ := List.mem_iff_getElem?.mp e
    rw [tab.row k p hk] at hp; cases hp
  have h0t : H t = none := by
    cases q : H t with
    | none => rfl
    | some o => rw [s02 _ _ q] at ht; cases ht
  refine ⟨t, _, .ref p, rfl, rfl, tab4.ht, by rw [List.length_map, tab4.len]; have := sz; omega, ?_⟩
  have tab5 := tab4.push hp4 hpt hpr
  have s05 : Same H (upd H4 t (.lst (rs.map V.ref ++ [.ref p]))) := fun a o e => by
    rw [upd_ne (fun h => by rw [h, h0t] at e; cases e)]
    exact s4 _ _ (s0' _ _ e)
  have new5 : ∀ a, a ∈ rs ++ [p] → H a = none := fun a ha => by
    cases q : H a with
    | none => rfl
    | some o =>
      rcases List.mem_append.mp ha with h | h
      · have h1 := new a h; rw [s02 _ _ q] at h1; cases h1
      · simp at h
        subst h
        rw [s0' _ _ q] at hp; cases hp
  generalize hH5 : upd H4 t (.lst (rs.map V.ref ++ [.ref p])) = H5 at tab5 s05 ⊢
  generalize hrs : rs ++ [p] = rs5 at tab5 new5
  clear tab4 hpr hpt hp4 rv s4 tab new sm hp hrs hH5 s0'
  -- basic
  refine snap_E (env := [.un, .fz (.lst (ls.map D.int)), .un, .fz (.int cs.length), .un, .un, .un, .un, .un, .un, .un, .un, .un, .un])
    (.un (.fz (r1.mono s05) (.un (.fz (.int _) (.un (.un (.un (.un (.un (.un (.un (.un (.un (.un .nil)))))))))))))) (e_bas hm) fun v H6 s6 nv => ?_
  obtain ⟨pb, ws, rfl, hb, hb6, rv⟩ := nv
  have := rp_row_eq rv
  subst this
  have tab6 := tab5.mono s6
  have s06 := s05.trans s6
  have h0b : H pb = none := by
    cases q : H pb with
    | none => rfl
    | some o => rw [s05 _ _ q] at hb; cases hb
  have b1 : pb ≠ t := fun e => by rw [e, tab5.ht] at hb; cases hb
  have b2 : pb ∉ rs5 := fun e => by
    obtain ⟨k, hk⟩ := List.mem_iff_getElem?.mp e
    rw [tab5.row k pb hk] at hb; cases hb
  -- loose
  refine ⟨.int cs.length, rfl, cs.length, rfl, ⟨by omega, by omega, by omega, by omega, by omega⟩, fun pl hl => ?_⟩
  have l0 : pl ≠ pb := fun e => by rw [e, hb6] at hl; cases hl
  have l1 : pl ≠ t := fun e => by rw [e, tab6.ht] at hl; cases hl
  have l2 : pl ∉ rs5 := fun e => by
    obtain ⟨k, hk⟩ := List.mem_iff_getElem?.mp e
    rw [tab6.row k pl hk] at hl; cases hl
  have h0l : H pl = none := by
    cases q : H pl with
    | none => rfl
    | some o => rw [s06 _ _ q] at hl; cases hl
  have tab7 := tab6.other (o := .lst (rgV 0 cs.length)) l1 l2
  have s07 : Same H (upd H6 pl (.lst (rgV 0 cs.length))) := s06.trans (same_new hl)
  have hb7 : upd H6 pl (.lst (rgV 0 cs.length)) pb = some (.lst (rowV ls.length fun k => ((cs.length + k : Nat) : Int))) := by rw [upd_ne (Ne.symm l0)]; exact hb6
  have hl7 : upd H6 pl (.lst (rgV 0 cs.length)) pl = some (.lst (rowV cs.length fun j => (j : Int))) := by rw [upd_same, rgV_row]
  generalize upd H6 pl (.lst (rgV 0 cs.length)) = H7 at tab7 s07 hb7 hl7 ⊢
  -- scale
  refine snap_E (env := [.un, .un, .un, .un, .un, .un, .un, .un, .un, .un, .un, .un, .un, .un]) (r := .fz (.int 1))
    (.un (.un (.un (.un (.un (.un (.un (.un (.un (.un (.un (.un (.un (.un .nil)))))))))))))) (by simp) fun v H8 s8 nv => ?_
  have := rp_int nv
  subst this
  refine ⟨fun f σ H' => CI (lpOf cs ls gs) fin H f σ H', ⟨2 ^ (cs.length + ls.length) + 1, ?_⟩, ?_⟩
  · have ci : CI (lpOf cs ls gs) fin H (2 ^ (cs.length + ls.length) + 1) _ H7 := ⟨Sx.St.init (lpOf cs ls gs), t, rs5, pb, pl, some v0, some v1, some v2, none, none, none, none, none, none, rfl, run, hI0, tab7, hb7,
      by rw [hl7]; congr 2; exact rowV_congr fun j hj => by
            show (j : Int) = ((if j = (lpOf cs ls gs).n then _ else j : Nat) : Int)
            have : (lpOf cs ls gs).n = cs.length := rfl
            rw [if_neg (by omega)],
      b1, b2, l1, l2, Ne.symm l0, s07, h0t, new5, h0b, h0l⟩
    rw [Sx.sc_init] at ci
    exact ci.mono s8
  · intro f σ H' ci
    have ci' := ci
    obtain ⟨s, t, rs, pb, pl, o0, o1, o2, o8, o9, o10, o11, o12, o13, rfl, _⟩ := ci
    refine snap_T (env := [.un, .un, .un, .un, .un, .un, .un, .un, .un, .un, .un, .un, .un, .un]) (b := true)
      (.un (.un (.un (.un (.un (.un (.un (.un (.un (.un (.un (.un (.un (.un .nil)))))))))))))) (by simp) fun H9 s9 => ?_
    rw [if_pos rfl]
    refine ⟨fun σ' H' => ∃ f', f' < f ∧ CI (lpOf cs ls gs) fin H f' σ' H', fun σ' H' h => h, ?_⟩
    exact turn_run lok hh (ci'.mono s9) (fun σ' H' h => h) hQ
theorem c_climb (I : FnIn G.K mg "climb" s_climb ["columns", "limits", "gains"]) (C_entering_column : Cal P w G.K mg base G "entering_column" 1 2 m_entering_column) (C_leaving_row : Cal P w G.K mg base G "leaving_row" 1 3 m_leaving_row) (C_top_of : Cal P w G.K mg base G "top_of" 1 3 m_top_of) (C_ray_of : Cal P w G.K mg base G "ray_of" 1 5 m_ray_of)
    (C_exchange : CalS P w G.K mg base "exchange" 1 spX) (n_len : mg "len" = none) (n_range : mg "range" = none) (n_list : mg "list" = none) : Cal P w G.K mg base G "climb" 2 3 m_climb := by
  obtain ⟨f, fd, F, hm, hbi⟩ := I.ex
  refine ⟨f, fd, _, F.ok sc_climb (fun vs H Q E h => ?_) (fun cdv A outer s H vs Q E hr h => ?_), hm, F.kp, hbi⟩
  · obtain ⟨hid, ds, hl, _, r, _⟩ := h
    rw [r.len, hl]; rfl
  · obtain ⟨hid, ds, hl, hh, r, h⟩ := h
    obtain ⟨tr, hp, e⟩ := climb_body (P := P) (w := w) (mg := mg) (base := base) (G := G) (f := f) (cdv := cdv) (A := A) (outer := outer) (s := s) (H := H) (E := E) n_len n_range n_list C_entering_column C_leaving_row C_top_of C_ray_of C_exchange hr
    subst e
    refine ⟨_, hp, ?_⟩
    cases e : m_climb ds with
    | bad => rw [e] at h; exact h.elim
    | ex x => exact absurd e climb_noex
    | ok z =>
      rw [e] at h
      obtain ⟨cs, ls, gs, fin, rfl, ok, run, rfl⟩ := climb_in e
      exact climb_run ok run hh r h
theorem c_exchange (I : FnIn G.K mg "exchange" s_exchange ["table", "row", "column", "scale"]) (n_len : mg "len" = none) (n_range : mg "range" = none) (n_zip : mg "zip" = none) : CalS P w G.K mg base "exchange" 1 spX := by
  obtain ⟨f, fd, F, hm, hbi⟩ := I.ex
  exact ⟨f, fd, _, fn_exchange F n_len n_range n_zip, hm, F.kp, hbi⟩
end K03
end

section
set_option maxRecDepth 100000
set_option maxHeartbeats 4000000
namespace K03
open PySem L2 DL PG LW
variable {P : Program} {w : World} {mg : Str → Option Value} {base : Heap} {G : GC}
abbrev s_law_numbers : Stmt := top 15
abbrev N_law_numbers : List Str := ["script", "many", "found", "seed", "k", "cell", "step"]
theorem sc_law_numbers : FnScope N_law_numbers ["script", "many"] (defScope s_law_numbers) := ⟨rfl, rfl, rfl, by decide +kernel, rfl, by decide +kernel, by decide +kernel⟩
theorem c_law_numbers (I : FnIn G.K mg "_law_numbers" s_law_numbers ["script", "many"]) (n_len : mg "len" = none) (n_min : mg "min" = none) (n_range : mg "range" = none) (n_int : mg "int" = none) : Cal P w G.K mg base G "_law_numbers" 1 2 m_law_numbers :=
  have nd := sc_law_numbers.nd
  cal_by (k := 0) (b := b_law_numbers) I sc_law_numbers (fun f cdv A outer s H E hr =>
    (dss_cons (ds_set (i := 2) nd rfl (.inl rfl) (d_lst da_nil)) (dss_cons (ds_set (i := 3) nd rfl (.inl rfl) d_int) (dss_cons (ds_for PassesOwn.never rfl (di_range1 rfl n_range (da_cons (d_min2 rfl n_min (da_cons (d_len n_len (da_cons (d_var 0) da_nil)) (da_cons d_int da_nil))) da_nil)) (dg_name (i := 4) nd rfl (.inl rfl)) (dss_cons (ds_set (i := 5) nd rfl (.inl rfl) (d_intc n_int (da_cons (d_ix (d_var 0) (d_var 4)) da_nil))) (dss_cons (ds_set (i := 3) nd rfl (.inl rfl) (d_mod (d_intc n_int (da_cons (d_add (d_add (d_mul (d_var 3) d_int) (d_mul (d_var 5) d_int)) (d_var 4)) da_nil)) d_int)) (dss_cons (ds_if (t_cp hr (d_var 5) d_int) (dss_one (ds_set (i := 5) nd rfl (.inl rfl) (d_sub d_int (d_mul d_int (d_var 5))))) dss_nil) (dss_one (ds_if (t_cp hr (d_var 5) (d_pow d_int d_int)) (dss_one (ds_for PassesOwn.never rfl (di_range1 rfl n_range (da_cons d_int da_nil)) (dg_name (i := 6) nd rfl (.inl rfl)) (dss_one (ds_if (DW.t (dw_and (t_cp hr (d_var 5) d_int) (dw_and1 (t_cp hr (d_len n_len (da_cons (d_var 2) da_nil)) (d_var 1))))) (dss_cons (ds_app 2 (d_mod (d_intc n_int (da_cons (d_var 5) da_nil)) d_int)) (dss_one (ds_set (i := 5) nd rfl (.inl rfl) (d_fdiv (d_var 5) d_int)))) dss_nil)))) (dss_one (ds_if (t_cp hr (d_len n_len (da_cons (d_var 2) da_nil)) (d_var 1)) (dss_one (ds_app 2 (d_mod (d_mod (d_intc n_int (da_cons (d_mul (d_mod (d_intc n_int (da_cons (d_add (d_mul (d_var 5) d_int) (d_mul (d_var 4) d_int)) da_nil)) d_int) d_int) da_nil)) d_int) d_int))) dss_nil)))))))) (dss_cons (ds_for PassesOwn.never rfl (di_range1 rfl n_range (da_cons (d_var 1) da_nil)) (dg_name (i := 4) nd rfl (.inl rfl)) (dss_one (ds_if (t_cp hr (d_len n_len (da_cons (d_var 2) da_nil)) (d_var 1)) (dss_cons (ds_set (i := 3) nd rfl (.inl rfl) (d_mod (d_intc n_int (da_cons (d_add (d_mul (d_var 3) d_int) d_int) da_nil)) d_int)) (dss_one (ds_app 2 (d_mod (d_intc n_int (da_cons (d_fdiv (d_var 3) d_int) da_nil)) d_int)))) dss_nil))) (dss_one (ds_retV 2))))))) rfl rfl rfl rfl
abbrev s_law_number : Stmt := top 20
abbrev N_law_number : List Str := ["numbers", "at", "row", "place", "number"]
theorem sc_law_number : FnScope N_law_number ["numbers", "at", "row", "place"] (defScope s_law_number) := ⟨rfl, rfl, rfl, by decide +kernel, rfl, by decide +kernel, by decide +kernel⟩
theorem c_law_number (I : FnIn G.K mg "_law_number" s_law_number ["numbers", "at", "row", "place"]) (n_int : mg "int" = none) : Cal P w G.K mg base G "_law_number" 1 4 m_law_number :=
  have nd := sc_law_number.nd
  cal_by (k := 0) (b := b_law_number) I sc_law_number (fun f cdv A outer s H E hr =>
    (dss_cons (ds_set (i := 4) nd rfl (.inl rfl) (d_intc n_int (da_cons (d_ix (d_var 0) (d_mod (d_intc n_int (da_cons (d_add (d_add (d_var 1) (d_mul d_int (d_var 2))) (d_var 3)) da_nil)) d_int)) da_nil))) (dss_one (ds_ret (d_mod (d_intc n_int (da_cons (d_add (d_add (d_var 4) (d_mul (d_mul d_int (d_fdiv (d_var 2) d_int)) (d_add (d_var 3) d_int))) (d_mul (d_mul d_int (d_fdiv (d_var 3) d_int)) (d_add (d_var 2) d_int))) da_nil)) d_int))))) rfl rfl rfl rfl
abbrev s_law_dot : Stmt := top 18
abbrev N_law_dot : List Str := ["left", "right", "k"]
theorem sc_law_dot : FnScope N_law_dot ["left", "right"] (defScope s_law_dot) := ⟨rfl, rfl, rfl, by decide +kernel, rfl, by decide +kernel, by decide +kernel⟩
theorem c_law_dot (I : FnIn G.K mg "_law_dot" s_law_dot ["left", "right"]) (n_len : mg "len" = none) (n_range : mg "range" = none) (n_sum : mg "sum" = none) : Cal P w G.K mg base G "_law_dot" 1 2 m_law_dot :=
  have nd := sc_law_dot.nd
  cal_by (k := 0) (b := b_law_dot) I sc_law_dot (fun f cdv A outer s H E hr =>
    (dss_one (ds_ret (d_sum rfl n_sum (da_cons (d_lc rfl nd (di_range1 rfl n_range (da_cons (d_len n_len (da_cons (d_var 0) da_nil)) da_nil)) (blkOk_by (own := [("k", 2)]) (N := N_law_dot) (sc := defScope s_law_dot) (by decide +kernel)) (by decide) (fun _ _ _ _ _ => (dg_name (i := 2) nd rfl (.inl rfl))) (fun _ _ _ _ _ => dts_nil) (fun _ _ _ _ _ => (d_mul (d_ix (d_var 0) (d_var 2)) (d_ix (d_var 1) (d_var 2))))) da_nil))))) rfl rfl rfl rfl
abbrev s_law_best_pair : Stmt := top 26
abbrev N_law_best_pair : List Str := ["numbers", "many", "count", "weights", "paper", "point", "goal", "k", "used", "rows", "i", "bound"]
theorem sc_law_best_pair : FnScope N_law_best_pair ["numbers", "many", "count"] (defScope s_law_best_pair) := ⟨rfl, rfl, rfl, by decide +kernel, rfl, by decide +kernel, by decide +kernel⟩
theorem c_law_best_pair (I : FnIn G.K mg "_law_best_pair" s_law_best_pair ["numbers", "many", "count"]) (C_law_weights : Cal P w G.K mg base G "_law_weights" 2 4 m_law_weights) (C_law_dot : Cal P w G.K mg base G "_law_dot" 1 2 m_law_dot) (n_range : mg "range" = none) (n_int : mg "int" = none) (n_sum : mg "sum" = none) (n_max : mg "max" = none) : Cal P w G.K mg base G "_law_best_pair" 3 3 m_law_best_pair :=
  have nd := sc_law_best_pair.nd
  cal_by (k := 2) (b := b_law_best_pair) I sc_law_best_pair (fun f cdv A outer s H E hr =>
    (dss_cons (ds_set (i := 3) nd rfl (.inr rfl) (d_cal C_law_weights hr (by decide) (da_cons (d_var 0) (da_cons d_int (da_cons (d_var 1) (da_cons (d_var 2) da_nil)))) rfl)) (dss_cons (ds_set (i := 4) nd rfl (.inr rfl) (d_lc rfl nd (di_range1 rfl n_range (da_cons (d_var 1) da_nil)) (blkOk_by (own := [("i", 10)]) (N := N_law_best_pair) (sc := defScope s_law_best_pair) (by decide +kernel)) (by decide) (fun _ _ _ _ _ => (dg_name (i := 10) nd rfl (.inl rfl))) (fun _ _ _ _ _ => dts_nil) (fun _ _ _ _ _ => (d_mod (d_intc n_int (da_cons (d_add (d_ix (d_var 0) (d_add d_int (d_mod (d_intc n_int (da_cons (d_var 10) da_nil)) d_int))) (d_mul d_int (d_fdiv (d_var 10) d_int))) da_nil)) d_int)))) (dss_cons (ds_setLc (i := 5) rfl nd rfl rfl (sw_true rfl rfl rfl (by decide +kernel)) (di_range1 rfl n_range (da_cons (d_var 2) da_nil)) (blkOk_by (own := [("k", 7)]) (N := N_law_best_pair) (sc := defScope s_law_best_pair) (by decide +kernel)) (by decide) (fun _ _ _ _ _ => (dg_name (i := 7) nd rfl (.inl rfl))) (fun _ _ _ _ _ => dts_nil) (fun _ _ _ _ _ => (d_mod (d_intc n_int (da_cons (d_add (d_ix (d_var 0) (d_add d_int (d_mod (d_intc n_int (da_cons (d_var 7) da_nil)) d_int))) (d_mul d_int (d_fdiv (d_var 7) d_int))) da_nil)) d_int))) (dss_cons (ds_set (i := 6) nd rfl (.inl rfl) (d_lst da_nil)) (dss_cons (ds_for PassesOwn.never rfl (di_range1 rfl n_range (da_cons (d_var 2) da_nil)) (dg_name (i := 7) nd rfl (.inr rfl)) (dss_cons (ds_set (i := 8) nd rfl (.inl rfl) (d_sum rfl n_sum (da_cons (d_lc rfl nd (di_range1 rfl n_range (da_cons (d_var 1) da_nil)) (blkOk_by (own := [("i", 10)]) (N := N_law_best_pair) (sc := defScope s_law_best_pair) (by decide +kernel)) (by decide) (fun _ _ _ _ _ => (dg_name (i := 10) nd rfl (.inl rfl))) (fun _ _ _ _ _ => dts_nil) (fun _ _ _ _ _ => (d_mul (d_ix (d_var 4) (d_var 10)) (d_ix (d_ix (d_var 3) (d_var 10)) (d_var 7))))) da_nil))) (dss_cons (ds_if (t_cp hr (d_var 8) d_int) (dss_one (ds_setIx 5 d_int (d_var 7))) dss_nil) (dss_one (ds_if (t_cp hr (d_ix (d_var 5) (d_var 7)) d_int) (dss_one (ds_app 6 (d_var 8))) (dss_one (ds_app 6 (d_add (d_max2 rfl n_max (da_cons d_int (da_cons (d_var 8) da_nil))) (d_mod (d_intc n_int (da_cons (d_ix (d_var 0) (d_add d_int (d_mod (d_intc n_int (da_cons (d_var 7) da_nil)) d_int))) da_nil)) d_int))))))))) (dss_cons (ds_set (i := 9) nd rfl (.inl rfl) (d_lst da_nil)) (dss_cons (ds_for PassesOwn.never rfl (di_range1 rfl n_range (da_cons (d_var 1) da_nil)) (dg_name (i := 10) nd rfl (.inl rfl)) (dss_cons (ds_set (i := 11) nd rfl (.inl rfl) (d_cal C_law_dot hr (by decide) (da_cons (d_ix (d_var 3) (d_var 10)) (da_cons (d_var 5) da_nil)) rfl)) (dss_cons (ds_if (t_cp hr (d_ix (d_var 4) (d_var 10)) d_int) (dss_one (ds_set (i := 11) nd rfl (.inl rfl) (d_sub (d_var 11) (d_mod (d_intc n_int (da_cons (d_ix (d_var 0) (d_add d_int (d_mod (d_intc n_int (da_cons (d_var 10) da_nil)) d_int))) da_nil)) d_int)))) dss_nil) (dss_one (ds_app 9 (d_tup (da_cons (d_ix (d_var 3) (d_var 10)) (da_cons (d_var 11) da_nil)))))))) (dss_one (ds_ret (d_tup (da_cons (d_var 6) (da_cons (d_var 9) (da_cons (d_var 5) (da_cons (d_var 4) da_nil))))))))))))))) rfl rfl rfl rfl
abbrev s_law_free : Stmt := top 28
abbrev N_law_free : List Str := ["numbers", "many", "count", "weights", "goal", "k", "i"]
theorem sc_law_free : FnScope N_law_free ["numbers", "many", "count"] (defScope s_law_free) := ⟨rfl, rfl, rfl, by decide +kernel, rfl, by decide +kernel, by decide +kernel⟩
theorem c_law_free (I : FnIn G.K mg "_law_free" s_law_free ["numbers", "many", "count"]) (C_law_weights : Cal P w G.K mg base G "_law_weights" 2 4 m_law_weights) (n_range : mg "range" = none) (n_int : mg "int" = none) : Cal P w G.K mg base G "_law_free" 3 3 m_law_free :=
  have nd := sc_law_free.nd
  cal_by (k := 2) (b := b_law_free) I sc_law_free (fun f cdv A outer s H E hr =>
    (dss_cons (ds_set (i := 3) nd rfl (.inr rfl) (d_cal C_law_weights hr (by decide) (da_cons (d_var 0) (da_cons d_int (da_cons (d_var 1) (da_cons (d_var 2) da_nil)))) rfl)) (dss_cons (ds_setLc (i := 4) rfl nd rfl rfl (sw_true rfl rfl rfl (by decide +kernel)) (di_range1 rfl n_range (da_cons (d_var 2) da_nil)) (blkOk_by (own := [("k", 5)]) (N := N_law_free) (sc := defScope s_law_free) (by decide +kernel)) (by decide) (fun _ _ _ _ _ => (dg_name (i := 5) nd rfl (.inl rfl))) (fun _ _ _ _ _ => dts_nil) (fun _ _ _ _ _ => (d_mod (d_intc n_int (da_cons (d_ix (d_var 0) (d_add d_int (d_mod (d_intc n_int (da_cons (d_var 5) da_nil)) d_int))) da_nil)) d_int))) (dss_one (ds_ret (d_tup (da_cons (d_var 4) (da_cons (d_lc rfl nd (di_range1 rfl n_range (da_cons (d_var 1) da_nil)) (blkOk_by (own := [("i", 6)]) (N := N_law_free) (sc := defScope s_law_free) (by decide +kernel)) (by decide) (fun _ _ _ _ _ => (dg_name (i := 6) nd rfl (.inl rfl))) (fun _ _ _ _ _ => dts_nil) (fun _ _ _ _ _ => (d_tup (da_cons (d_ix (d_var 3) (d_var 6)) (da_cons (d_sub (d_mod (d_intc n_int (da_cons (d_ix (d_var 0) (d_add d_int (d_mod (d_intc n_int (da_cons (d_var 6) da_nil)) d_int))) da_nil)) d_int) d_int) da_nil))))) da_nil)))))))) rfl rfl rfl rfl
abbrev s_law_pick : Stmt := top 31
abbrev N_law_pick : List Str := ["places", "number", "other"]
theorem sc_law_pick : FnScope N_law_pick ["places", "number", "other"] (defScope s_law_pick) := ⟨rfl, rfl, rfl, by decide +kernel, rfl, by decide +kernel, by decide +kernel⟩
theorem c_law_pick (I : FnIn G.K mg "_law_pick" s_law_pick ["places", "number", "other"]) (n_len : mg "len" = none) (n_int : mg "int" = none) : Cal P w G.K mg base G "_law_pick" 1 3 m_law_pick :=
  have nd := sc_law_pick.nd
  cal_by (k := 0) (b := b_law_pick) I sc_law_pick (fun f cdv A outer s H E hr =>
    (dss_cons (ds_if (t_cp hr (d_len n_len (da_cons (d_var 0) da_nil)) d_int) (dss_one (ds_retV 2)) dss_nil) (dss_one (ds_ret (d_ix (d_var 0) (d_mod (d_intc n_int (da_cons (d_var 1) da_nil)) (d_len n_len (da_cons (d_var 0) da_nil)))))))) rfl rfl rfl rfl
abbrev s_law_column : Stmt := top 22
abbrev N_law_column : List Str := ["rows", "paper", "k", "i"]
theorem sc_law_column : FnScope N_law_column ["rows", "paper", "k"] (defScope s_law_column) := ⟨rfl, rfl, rfl, by decide +kernel, rfl, by decide +kernel, by decide +kernel⟩
theorem c_law_column (I : FnIn G.K mg "_law_column" s_law_column ["rows", "paper", "k"]) (n_len : mg "len" = none) (n_range : mg "range" = none) (n_sum : mg "sum" = none) : Cal P w G.K mg base G "_law_column" 1 3 m_law_column :=
  have nd := sc_law_column.nd
  cal_by (k := 0) (b := b_law_column) I sc_law_column (fun f cdv A outer s H E hr =>
    (dss_one (ds_ret (d_sum rfl n_sum (da_cons (d_lc rfl nd (di_range1 rfl n_range (da_cons (d_len n_len (da_cons (d_var 1) da_nil)) da_nil)) (blkOk_by (own := [("i", 3)]) (N := N_law_column) (sc := defScope s_law_column) (by decide +kernel)) (by decide) (fun _ _ _ _ _ => (dg_name (i := 3) nd rfl (.inl rfl))) (fun _ _ _ _ _ => dts_nil) (fun _ _ _ _ _ => (d_mul (d_ix (d_var 1) (d_var 3)) (d_ix (d_ix (d_ix (d_var 0) (d_var 3)) d_int) (d_var 2))))) da_nil))))) rfl rfl rfl rfl
abbrev s_law_with_bound : Stmt := top 32
abbrev N_law_with_bound : List Str := ["rows", "i", "bound"]
theorem sc_law_with_bound : FnScope N_law_with_bound ["rows", "i", "bound"] (defScope s_law_with_bound) := ⟨rfl, rfl, rfl, by decide +kernel, rfl, by decide +kernel, by decide +kernel⟩
theorem c_law_with_bound (I : FnIn G.K mg "_law_with_bound" s_law_with_bound ["rows", "i", "bound"]) : Cal P w G.K mg base G "_law_with_bound" 1 3 m_law_with_bound :=
  have nd := sc_law_with_bound.nd
  cal_by (k := 0) (b := b_law_with_bound) I sc_law_with_bound (fun f cdv A outer s H E hr =>
    (dss_one (ds_ret (d_add (d_add (d_slice (d_var 0) do_none (do_some (d_var 1))) (d_lst (da_cons (d_tup (da_cons (d_ix (d_ix (d_var 0) (d_var 1)) d_int) (da_cons (d_var 2) da_nil))) da_nil))) (d_slice (d_var 0) (do_some (d_add (d_var 1) d_int)) do_none))))) rfl rfl rfl rfl
abbrev s_law_with_weight : Stmt := top 33
abbrev N_law_with_weight : List Str := ["rows", "i", "k", "more", "weights"]
theorem sc_law_with_weight : FnScope N_law_with_weight ["rows", "i", "k", "more"] (defScope s_law_with_weight) := ⟨rfl, rfl, rfl, by decide +kernel, rfl, by decide +kernel, by decide +kernel⟩
theorem c_law_with_weight (I : FnIn G.K mg "_law_with_weight" s_law_with_weight ["rows", "i", "k", "more"]) (n_list : mg "list" = none) : Cal P w G.K mg base G "_law_with_weight" 1 4 m_law_with_weight :=
  have nd := sc_law_with_weight.nd
  cal_by (k := 0) (b := b_law_with_weight) I sc_law_with_weight (fun f cdv A outer s H E hr =>
    (dss_cons (ds_set (i := 4) nd rfl (.inl rfl) (d_listc n_list (da_cons (d_ix (d_ix (d_var 0) (d_var 1)) d_int) da_nil))) (dss_cons (ds_setIx 4 (d_add (d_ix (d_var 4) (d_var 2)) (d_var 3)) (d_var 2)) (dss_one (ds_ret (d_add (d_add (d_slice (d_var 0) do_none (do_some (d_var 1))) (d_lst (da_cons (d_tup (da_cons (d_var 4) (da_cons (d_ix (d_ix (d_var 0) (d_var 1)) d_int) da_nil))) da_nil))) (d_slice (d_var 0) (do_some (d_add (d_var 1) d_int)) do_none))))))) rfl rfl rfl rfl
abbrev s_law_best_changes : Stmt := top 34
abbrev N_law_best_changes : List Str := ["numbers", "goal", "rows", "point", "paper", "count", "many", "times", "idle", "busy", "rest", "used", "less", "wide", "tall", "raised", "found", "k", "i", "weights", "bound", "number"]
theorem sc_law_best_changes : FnScope N_law_best_changes ["numbers", "goal", "rows", "point", "paper"] (defScope s_law_best_changes) := ⟨rfl, rfl, rfl, by decide +kernel, rfl, by decide +kernel, by decide +kernel⟩
theorem c_law_best_changes (I : FnIn G.K mg "_law_best_changes" s_law_best_changes ["numbers", "goal", "rows", "point", "paper"]) (C_law_pick : Cal P w G.K mg base G "_law_pick" 1 3 m_law_pick) (C_law_column : Cal P w G.K mg base G "_law_column" 1 3 m_law_column) (C_law_dot : Cal P w G.K mg base G "_law_dot" 1 2 m_law_dot) (C_law_with_bound : Cal P w G.K mg base G "_law_with_bound" 1 3 m_law_with_bound) (C_law_with_weight : Cal P w G.K mg base G "_law_with_weight" 1 4 m_law_with_weight) (n_len : mg "len" = none) (n_int : mg "int" = none) (n_range : mg "range" = none) (n_list : mg "list" = none) (n_min : mg "min" = none) (n_max : mg "max" = none) : Cal P w G.K mg base G "_law_best_changes" 2 5 m_law_best_changes :=
  have nd := sc_law_best_changes.nd
  cal_by (k := 1) (b := b_law_best_changes) I sc_law_best_changes (fun f cdv A outer s H E hr =>
    (dss_cons (ds_set (i := 5) nd rfl (.inl rfl) (d_len n_len (da_cons (d_var 1) da_nil))) (dss_cons (ds_set (i := 6) nd rfl (.inl rfl) (d_len n_len (da_cons (d_var 2) da_nil))) (dss_cons (ds_set (i := 7) nd rfl (.inr rfl) (d_add d_int (d_mod (d_intc n_int (da_cons (d_ix (d_var 0) d_int) da_nil)) d_int))) (dss_cons (ds_set (i := 8) nd rfl (.inl rfl) (d_cal C_law_pick hr (by decide) (da_cons (d_lc rfl nd (di_range1 rfl n_range (da_cons (d_var 6) da_nil)) (blkOk_by (own := [("i", 18)]) (N := N_law_best_changes) (sc := defScope s_law_best_changes) (by decide +kernel)) (by decide) (fun _ _ _ _ _ => (dg_name (i := 18) nd rfl (.inl rfl))) (fun _ _ _ _ _ => (dts_one (t_cp hr (d_ix (d_var 4) (d_var 18)) d_int))) (fun _ _ _ _ _ => (d_var 18))) (da_cons (d_ix (d_var 0) d_int) (da_cons d_int da_nil))) rfl)) (dss_cons (ds_set (i := 9) nd rfl (.inl rfl) (d_cal C_law_pick hr (by decide) (da_cons (d_lc rfl nd (di_range1 rfl n_range (da_cons (d_var 6) da_nil)) (blkOk_by (own := [("i", 18)]) (N := N_law_best_changes) (sc := defScope s_law_best_changes) (by decide +kernel)) (by decide) (fun _ _ _ _ _ => (dg_name (i := 18) nd rfl (.inl rfl))) (fun _ _ _ _ _ => (dts_one (t_cp hr (d_ix (d_var 4) (d_var 18)) d_int))) (fun _ _ _ _ _ => (d_var 18))) (da_cons (d_ix (d_var 0) d_int) (da_cons d_int da_nil))) rfl)) (dss_cons (ds_set (i := 10) nd rfl (.inl rfl) (d_cal C_law_pick hr (by decide) (da_cons (d_lc rfl nd (di_range1 rfl n_range (da_cons (d_var 5) da_nil)) (blkOk_by (own := [("k", 17)]) (N := N_law_best_changes) (sc := defScope s_law_best_changes) (by decide +kernel)) (by decide) (fun _ _ _ _ _ => (dg_name (i := 17) nd rfl (.inl rfl))) (fun _ _ _ _ _ => (dts_one (t_cp hr (d_ix (d_var 3) (d_var 17)) d_int))) (fun _ _ _ _ _ => (d_var 17))) (da_cons (d_ix (d_var 0) d_int) (da_cons d_int da_nil))) rfl)) (dss_cons (ds_set (i := 11) nd rfl (.inl rfl) (d_cal C_law_column hr (by decide) (da_cons (d_var 2) (da_cons (d_var 4) (da_cons (d_var 10) da_nil))) rfl)) (dss_cons (ds_set (i := 12) nd rfl (.inl rfl) (d_listc n_list (da_cons (d_var 1) da_nil))) (dss_cons (ds_setIx 12 (d_max2 rfl n_max (da_cons d_int (da_cons (d_sub (d_min2 rfl n_min (da_cons (d_ix (d_var 1) (d_var 10)) (da_cons (d_var 11) da_nil))) d_int) da_nil))) (d_var 10)) (dss_cons (ds_setLc (i := 13) rfl nd rfl rfl (sw_true rfl rfl rfl (by decide +kernel)) (di_any (d_var 2)) (blkOk_by (own := [("weights", 19), ("bound", 20)]) (N := N_law_best_changes) (sc := defScope s_law_best_changes) (by decide +kernel)) (by decide) (fun _ _ _ _ _ => (dg_tup rfl rfl (dgs_cons (dg_name (i := 19) nd rfl (.inl rfl)) (dgs_cons (dg_name (i := 20) nd rfl (.inl rfl)) dgs_nil)))) (fun _ _ _ _ _ => dts_nil) (fun _ _ _ _ _ => (d_tup (da_cons (d_add (d_var 19) (d_lst (da_cons d_int da_nil))) (da_cons (d_var 20) da_nil))))) (dss_cons (ds_set (i := 14) nd rfl (.inl rfl) (d_add (d_var 2) (d_lst (da_cons (d_tup (da_cons (d_mul (d_lst (da_cons d_int da_nil)) (d_var 5)) (da_cons d_int da_nil))) da_nil)))) (dss_cons (ds_set (i := 15) nd rfl (.inl rfl) (d_cal C_law_with_bound hr (by decide) (da_cons (d_var 2) (da_cons (d_var 8) (da_cons (d_add (d_cal C_law_dot hr (by decide) (da_cons (d_ix (d_ix (d_var 2) (d_var 8)) d_int) (da_cons (d_var 3) da_nil)) rfl) d_int) da_nil))) rfl)) (dss_cons (ds_set (i := 16) nd rfl (.inl rfl) (d_lst (da_cons (d_tup (da_cons (d_var 1) (da_cons (d_var 2) (da_cons (d_var 7) (da_cons (d_lc rfl nd (di_any (d_var 3)) (blkOk_by (own := [("number", 21)]) (N := N_law_best_changes) (sc := defScope s_law_best_changes) (by decide +kernel)) (by decide) (fun _ _ _ _ _ => (dg_name (i := 21) nd rfl (.inl rfl))) (fun _ _ _ _ _ => dts_nil) (fun _ _ _ _ _ => (d_mul (d_var 7) (d_var 21)))) (da_cons (d_lc rfl nd (di_any (d_var 4)) (blkOk_by (own := [("number", 21)]) (N := N_law_best_changes) (sc := defScope s_law_best_changes) (by decide +kernel)) (by decide) (fun _ _ _ _ _ => (dg_name (i := 21) nd rfl (.inl rfl))) (fun _ _ _ _ _ => dts_nil) (fun _ _ _ _ _ => (d_mul (d_var 7) (d_var 21)))) da_nil)))))) da_nil))) (dss_cons (ds_set (i := 16) nd rfl (.inl rfl) (d_add (d_var 16) (d_lst (da_cons (d_tup (da_cons (d_var 1) (da_cons (d_var 2) (da_cons d_int (da_cons (d_mul (d_lst (da_cons d_int da_nil)) (d_var 5)) (da_cons (d_mul (d_lst (da_cons d_int da_nil)) (d_var 6)) da_nil)))))) (da_cons (d_tup (da_cons (d_var 1) (da_cons (d_var 2) (da_cons d_int (da_cons (d_var 3) (da_cons (d_var 4) da_nil)))))) da_nil))))) (dss_cons (ds_set (i := 16) nd rfl (.inl rfl) (d_add (d_var 16) (d_lst (da_cons (d_tup (da_cons (d_add (d_var 1) (d_lst (da_cons d_int da_nil))) (da_cons (d_var 13) (da_cons d_int (da_cons (d_add (d_var 3) (d_lst (da_cons d_int da_nil))) (da_cons (d_var 4) da_nil)))))) (da_cons (d_tup (da_cons (d_add (d_var 1) (d_lst (da_cons d_int da_nil))) (da_cons (d_var 13) (da_cons d_int (da_cons (d_add (d_var 3) (d_lst (da_cons (d_neg d_int) da_nil))) (da_cons (d_var 4) da_nil)))))) da_nil))))) (dss_cons (ds_set (i := 16) nd rfl (.inl rfl) (d_add (d_var 16) (d_lst (da_cons (d_tup (da_cons (d_add (d_var 1) (d_lst (da_cons d_int da_nil))) (da_cons (d_var 13) (da_cons d_int (da_cons (d_var 3) (da_cons (d_var 4) da_nil)))))) (da_cons (d_tup (da_cons (d_var 1) (da_cons (d_var 2) (da_cons d_int (da_cons (d_add (d_var 3) (d_lst (da_cons d_int da_nil))) (da_cons (d_var 4) da_nil)))))) da_nil))))) (dss_cons (ds_set (i := 16) nd rfl (.inl rfl) (d_add (d_var 16) (d_lst (da_cons (d_tup (da_cons (d_var 1) (da_cons (d_var 14) (da_cons d_int (da_cons (d_var 3) (da_cons (d_add (d_var 4) (d_lst (da_cons d_int da_nil))) da_nil)))))) (da_cons (d_tup (da_cons (d_var 1) (da_cons (d_var 14) (da_cons d_int (da_cons (d_var 3) (da_cons (d_add (d_var 4) (d_lst (da_cons (d_neg d_int) da_nil))) da_nil)))))) da_nil))))) (dss_cons (ds_set (i := 16) nd rfl (.inl rfl) (d_add (d_var 16) (d_lst (da_cons (d_tup (da_cons (d_var 1) (da_cons (d_var 14) (da_cons d_int (da_cons (d_var 3) (da_cons (d_var 4) da_nil)))))) (da_cons (d_tup (da_cons (d_var 1) (da_cons (d_var 2) (da_cons d_int (da_cons (d_var 3) (da_cons (d_add (d_var 4) (d_lst (da_cons d_int da_nil))) da_nil)))))) da_nil))))) (dss_cons (ds_set (i := 16) nd rfl (.inl rfl) (d_add (d_var 16) (d_lst (da_cons (d_tup (da_cons (d_var 1) (da_cons (d_var 15) (da_cons d_int (da_cons (d_var 3) (da_cons (d_var 4) da_nil)))))) (da_cons (d_tup (da_cons (d_var 12) (da_cons (d_var 2) (da_cons d_int (da_cons (d_var 3) (da_cons (d_var 4) da_nil)))))) da_nil))))) (dss_cons (ds_app 16 (d_tup (da_cons (d_var 1) (da_cons (d_cal C_law_with_bound hr (by decide) (da_cons (d_var 2) (da_cons (d_var 9) (da_cons (d_sub (d_ix (d_ix (d_var 2) (d_var 9)) d_int) d_int) da_nil))) rfl) (da_cons d_int (da_cons (d_var 3) (da_cons (d_var 4) da_nil))))))) (dss_cons (ds_app 16 (d_tup (da_cons (d_var 1) (da_cons (d_cal C_law_with_weight hr (by decide) (da_cons (d_var 2) (da_cons (d_var 9) (da_cons (d_var 10) (da_cons (d_add (d_sub (d_ix (d_var 1) (d_var 10)) (d_var 11)) d_int) da_nil)))) rfl) (da_cons d_int (da_cons (d_var 3) (da_cons (d_var 4) da_nil))))))) (dss_cons (ds_set (i := 17) nd rfl (.inl rfl) (d_mod (d_intc n_int (da_cons (d_ix (d_var 0) d_int) da_nil)) (d_var 5))) (dss_cons (ds_app 16 (d_tup (da_cons (d_var 1) (da_cons (d_var 2) (da_cons d_int (da_cons (d_add (d_add (d_slice (d_var 3) do_none (do_some (d_var 17))) (d_lst (da_cons (d_add (d_ix (d_var 3) (d_var 17)) d_int) da_nil))) (d_slice (d_var 3) (do_some (d_add (d_var 17) d_int)) do_none)) (da_cons (d_var 4) da_nil))))))) (dss_cons (ds_set (i := 18) nd rfl (.inl rfl) (d_mod (d_intc n_int (da_cons (d_ix (d_var 0) d_int) da_nil)) (d_var 6))) (dss_cons (ds_app 16 (d_tup (da_cons (d_var 1) (da_cons (d_var 2) (da_cons d_int (da_cons (d_var 3) (da_cons (d_add (d_add (d_slice (d_var 4) do_none (do_some (d_var 18))) (d_lst (da_cons (d_add (d_ix (d_var 4) (d_var 18)) d_int) da_nil))) (d_slice (d_var 4) (do_some (d_add (d_var 18) d_int)) do_none)) da_nil))))))) (dss_one (ds_retV 16)))))))))))))))))))))))))))) rfl rfl rfl rfl
abbrev s_law_paid : Stmt := top 23
abbrev N_law_paid : List Str := ["rows", "paper", "i"]
theorem sc_law_paid : FnScope N_law_paid ["rows", "paper"] (defScope s_law_paid) := ⟨rfl, rfl, rfl, by decide +kernel, rfl, by decide +kernel, by decide +kernel⟩
theorem c_law_paid (I : FnIn G.K mg "_law_paid" s_law_paid ["rows", "paper"]) (n_len : mg "len" = none) (n_range : mg "range" = none) (n_sum : mg "sum" = none) : Cal P w G.K mg base G "_law_paid" 1 2 m_law_paid :=
  have nd := sc_law_paid.nd
  cal_by (k := 0) (b := b_law_paid) I sc_law_paid (fun f cdv A outer s H E hr =>
    (dss_one (ds_ret (d_sum rfl n_sum (da_cons (d_lc rfl nd (di_range1 rfl n_range (da_cons (d_len n_len (da_cons (d_var 1) da_nil)) da_nil)) (blkOk_by (own := [("i", 2)]) (N := N_law_paid) (sc := defScope s_law_paid) (by decide +kernel)) (by decide) (fun _ _ _ _ _ => (dg_name (i := 2) nd rfl (.inl rfl))) (fun _ _ _ _ _ => dts_nil) (fun _ _ _ _ _ => (d_mul (d_ix (d_var 1) (d_var 2)) (d_ix (d_ix (d_var 0) (d_var 2)) d_int)))) da_nil))))) rfl rfl rfl rfl
abbrev s_law_none_changes : Stmt := top 35
abbrev N_law_none_changes : List Str := ["numbers", "rows", "count", "paper", "times", "k", "over", "down", "tall", "found", "number"]
theorem sc_law_none_changes : FnScope N_law_none_changes ["numbers", "rows", "count", "paper"] (defScope s_law_none_changes) := ⟨rfl, rfl, rfl, by decide +kernel, rfl, by decide +kernel, by decide +kernel⟩
theorem c_law_none_changes (I : FnIn G.K mg "_law_none_changes" s_law_none_changes ["numbers", "rows", "count", "paper"]) (C_law_column : Cal P w G.K mg base G "_law_column" 1 3 m_law_column) (C_law_paid : Cal P w G.K mg base G "_law_paid" 1 2 m_law_paid) (C_law_with_weight : Cal P w G.K mg base G "_law_with_weight" 1 4 m_law_with_weight) (C_law_with_bound : Cal P w G.K mg base G "_law_with_bound" 1 3 m_law_with_bound) (n_int : mg "int" = none) (n_len : mg "len" = none) : Cal P w G.K mg base G "_law_none_changes" 2 4 m_law_none_changes :=
  have nd := sc_law_none_changes.nd
  cal_by (k := 1) (b := b_law_none_changes) I sc_law_none_changes (fun f cdv A outer s H E hr =>
    (dss_cons (ds_set (i := 4) nd rfl (.inr rfl) (d_add d_int (d_mod (d_intc n_int (da_cons (d_ix (d_var 0) d_int) da_nil)) d_int))) (dss_cons (ds_set (i := 5) nd rfl (.inl rfl) (d_mod (d_intc n_int (da_cons (d_ix (d_var 0) d_int) da_nil)) (d_var 2))) (dss_cons (ds_set (i := 6) nd rfl (.inl rfl) (d_add (d_fdiv (d_sub d_int (d_cal C_law_column hr (by decide) (da_cons (d_var 1) (da_cons (d_var 3) (da_cons (d_var 5) da_nil))) rfl)) (d_ix (d_var 3) (d_neg d_int))) d_int)) (dss_cons (ds_set (i := 7) nd rfl (.inl rfl) (d_fdiv (d_sub d_int (d_cal C_law_paid hr (by decide) (da_cons (d_var 1) (da_cons (d_var 3) da_nil)) rfl)) (d_ix (d_var 3) (d_neg d_int)))) (dss_cons (ds_set (i := 8) nd rfl (.inl rfl) (d_add (d_var 1) (d_lst (da_cons (d_tup (da_cons (d_mul (d_lst (da_cons d_int da_nil)) (d_var 2)) (da_cons d_int da_nil))) da_nil)))) (dss_cons (ds_set (i := 9) nd rfl (.inl rfl) (d_lst (da_cons (d_tup (da_cons (d_var 1) (da_cons (d_lc rfl nd (di_any (d_var 3)) (blkOk_by (own := [("number", 10)]) (N := N_law_none_changes) (sc := defScope s_law_none_changes) (by decide +kernel)) (by decide) (fun _ _ _ _ _ => (dg_name (i := 10) nd rfl (.inl rfl))) (fun _ _ _ _ _ => dts_nil) (fun _ _ _ _ _ => (d_mul (d_var 4) (d_var 10)))) da_nil))) (da_cons (d_tup (da_cons (d_var 1) (da_cons (d_mul (d_lst (da_cons d_int da_nil)) (d_len n_len (da_cons (d_var 3) da_nil))) da_nil))) (da_cons (d_tup (da_cons (d_var 8) (da_cons (d_add (d_var 3) (d_lst (da_cons d_int da_nil))) da_nil))) da_nil))))) (dss_cons (ds_set (i := 9) nd rfl (.inl rfl) (d_add (d_var 9) (d_lst (da_cons (d_tup (da_cons (d_var 8) (da_cons (d_add (d_var 3) (d_lst (da_cons (d_neg d_int) da_nil))) da_nil))) (da_cons (d_tup (da_cons (d_var 8) (da_cons (d_var 3) da_nil))) (da_cons (d_tup (da_cons (d_var 1) (da_cons (d_add (d_var 3) (d_lst (da_cons d_int da_nil))) da_nil))) da_nil)))))) (dss_cons (ds_app 9 (d_tup (da_cons (d_cal C_law_with_weight hr (by decide) (da_cons (d_var 1) (da_cons (d_sub (d_len n_len (da_cons (d_var 1) da_nil)) d_int) (da_cons (d_var 5) (da_cons (d_var 6) da_nil)))) rfl) (da_cons (d_var 3) da_nil)))) (dss_cons (ds_app 9 (d_tup (da_cons (d_cal C_law_with_bound hr (by decide) (da_cons (d_var 1) (da_cons (d_sub (d_len n_len (da_cons (d_var 1) da_nil)) d_int) (da_cons (d_add (d_ix (d_ix (d_var 1) (d_neg d_int)) d_int) (d_var 7)) da_nil))) rfl) (da_cons (d_var 3) da_nil)))) (dss_cons (ds_app 9 (d_tup (da_cons (d_var 1) (da_cons (d_add (d_slice (d_var 3) do_none (do_some (d_neg d_int))) (d_lst (da_cons (d_sub (d_ix (d_var 3) (d_neg d_int)) d_int) da_nil))) da_nil)))) (dss_one (ds_retV 9))))))))))))) rfl rfl rfl rfl
abbrev s_law_same : Stmt := top 16
abbrev N_law_same : List Str := ["told", "due", "k"]
theorem sc_law_same : FnScope N_law_same ["told", "due"] (defScope s_law_same) := ⟨rfl, rfl, rfl, by decide +kernel, rfl, by decide +kernel, by decide +kernel⟩
theorem c_law_same (I : FnIn G.K mg "_law_same" s_law_same ["told", "due"]) (n_isinstance : mg "isinstance" = none) (n_bool : mg "bool" = none) (n_int : mg "int" = none) (n_str : mg "str" = none) (n_tuple : mg "tuple" = none) (n_list : mg "list" = none) (n_len : mg "len" = none) (n_range : mg "range" = none) : Cal P w G.K mg base G "_law_same" 9 2 m_law_same :=
  have nd := sc_law_same.nd
  cal_rec (k := 1) (b := b_law_same) I sc_law_same rfl (fun j mm hkj C f cdv A outer s H E hr => ⟨_,
    (dss_cons (ds_if (t_cp hr (d_var 1) d_non) (dss_one (ds_ret (d_cp hr (d_var 0) d_non))) dss_nil) (dss_cons (ds_if (dt_val (d_isi rfl n_isinstance (d_var 1) (pe_bltn rfl n_bool (by decide +kernel) rfl) (ty_bool _))) (dss_one (ds_ret (d_and (d_isi rfl n_isinstance (d_var 0) (pe_bltn rfl n_bool (by decide +kernel) rfl) (ty_bool _)) (d_one (d_cp hr (d_var 0) (d_var 1)))))) dss_nil) (dss_cons (ds_if (dt_val (d_isi rfl n_isinstance (d_var 1) (pe_bltn rfl n_int (by decide +kernel) rfl) (ty_int _))) (dss_one (ds_ret (d_and (d_isi rfl n_isinstance (d_var 0) (pe_bltn rfl n_int (by decide +kernel) rfl) (ty_int _)) (d_and (d_not (d_isi rfl n_isinstance (d_var 0) (pe_bltn rfl n_bool (by decide +kernel) rfl) (ty_bool _))) (d_one (d_cp hr (d_var 0) (d_var 1))))))) dss_nil) (dss_cons (ds_if (dt_val (d_isi rfl n_isinstance (d_var 1) (pe_bltn rfl n_str (by decide +kernel) rfl) (ty_str _))) (dss_one (ds_ret (d_and (d_isi rfl n_isinstance (d_var 0) (pe_bltn rfl n_str (by decide +kernel) rfl) (ty_str _)) (d_one (d_cp hr (d_var 0) (d_var 1)))))) dss_nil) (dss_cons (ds_if (DW.t (dw_and (dt_val (d_isi rfl n_isinstance (d_var 1) (pe_bltn rfl n_tuple (by decide +kernel) rfl) (ty_tuple _))) (dw_and1 (dt_not (dt_val (d_isi rfl n_isinstance (d_var 0) (pe_bltn rfl n_tuple (by decide +kernel) rfl) (ty_tuple _))))))) (dss_one (ds_ret d_bl)) dss_nil) (dss_cons (ds_if (DW.t (dw_and (dt_val (d_isi rfl n_isinstance (d_var 1) (pe_bltn rfl n_list (by decide +kernel) rfl) (ty_list _))) (dw_and1 (dt_not (dt_val (d_isi rfl n_isinstance (d_var 0) (pe_bltn rfl n_list (by decide +kernel) rfl) (ty_list _))))))) (dss_one (ds_ret d_bl)) dss_nil) (dss_cons (ds_if (t_cp hr (d_len n_len (da_cons (d_var 0) da_nil)) (d_len n_len (da_cons (d_var 1) da_nil))) (dss_one (ds_ret d_bl)) dss_nil) (dss_cons (ds_for PassesOwn.never rfl (di_range1 rfl n_range (da_cons (d_len n_len (da_cons (d_var 1) da_nil)) da_nil)) (dg_name (i := 2) nd rfl (.inl rfl)) (dss_one (ds_if (dt_not (dt_val (d_cal C hr (Nat.le_refl _) (da_cons (d_ix (d_var 0) (d_var 2)) (da_cons (d_ix (d_var 1) (d_var 2)) da_nil)) rfl))) (dss_one (ds_ret d_bl)) dss_nil))) (dss_one (ds_ret d_bl)))))))))), rfl⟩) (by decide) 8
abbrev s_law_shows : Stmt := top 24
abbrev N_law_shows : List Str := ["goal", "rows", "scale", "point", "paper", "weights", "bound", "k"]
theorem sc_law_shows : FnScope N_law_shows ["goal", "rows", "scale", "point", "paper"] (defScope s_law_shows) := ⟨rfl, rfl, rfl, by decide +kernel, rfl, by decide +kernel, by decide +kernel⟩
theorem c_law_shows (I : FnIn G.K mg "_law_shows" s_law_shows ["goal", "rows", "scale", "point", "paper"]) (C_law_dot : Cal P w G.K mg base G "_law_dot" 1 2 m_law_dot) (C_law_column : Cal P w G.K mg base G "_law_column" 1 3 m_law_column) (C_law_paid : Cal P w G.K mg base G "_law_paid" 1 2 m_law_paid) (n_len : mg "len" = none) (n_list : mg "list" = none) (n_min : mg "min" = none) (n_range : mg "range" = none) : Cal P w G.K mg base G "_law_shows" 2 5 m_law_shows :=
  have nd := sc_law_shows.nd
  cal_by (k := 1) (b := b_law_shows) I sc_law_shows (fun f cdv A outer s H E hr =>
    (dss_cons (ds_if (DW.t (dw_or (t_cp hr (d_var 2) d_int) (dw_or (t_cp hr (d_len n_len (da_cons (d_var 3) da_nil)) (d_len n_len (da_cons (d_var 0) da_nil))) (dw_or1 (t_cp hr (d_len n_len (da_cons (d_var 4) da_nil)) (d_len n_len (da_cons (d_var 1) da_nil))))))) (dss_one (ds_ret d_bl)) dss_nil) (dss_cons (ds_if (DW.t (dw_or (t_cp hr (d_min1 rfl n_min (da_cons (d_listc n_list (da_cons (d_var 3) da_nil)) da_nil)) d_int) (dw_or1 (t_cp hr (d_min1 rfl n_min (da_cons (d_add (d_listc n_list (da_cons (d_var 4) da_nil)) (d_lst (da_cons d_int da_nil))) da_nil)) d_int)))) (dss_one (ds_ret d_bl)) dss_nil) (dss_cons (ds_for PassesOwn.never rfl (di_any (d_var 1)) (dg_tup rfl rfl (dgs_cons (dg_name (i := 5) nd rfl (.inl rfl)) (dgs_cons (dg_name (i := 6) nd rfl (.inl rfl)) dgs_nil))) (dss_one (ds_if (t_cp hr (d_cal C_law_dot hr (by decide) (da_cons (d_var 5) (da_cons (d_var 3) da_nil)) rfl) (d_mul (d_var 6) (d_var 2))) (dss_one (ds_ret d_bl)) dss_nil))) (dss_cons (ds_for PassesOwn.never rfl (di_range1 rfl n_range (da_cons (d_len n_len (da_cons (d_var 0) da_nil)) da_nil)) (dg_name (i := 7) nd rfl (.inl rfl)) (dss_one (ds_if (t_cp hr (d_cal C_law_column hr (by decide) (da_cons (d_var 1) (da_cons (d_var 4) (da_cons (d_var 7) da_nil))) rfl) (d_mul (d_ix (d_var 0) (d_var 7)) (d_var 2))) (dss_one (ds_ret d_bl)) dss_nil))) (dss_one (ds_ret (d_cp hr (d_cal C_law_dot hr (by decide) (da_cons (d_var 0) (da_cons (d_var 3) da_nil)) rfl) (d_cal C_law_paid hr (by decide) (da_cons (d_var 1) (da_cons (d_var 4) da_nil)) rfl))))))))) rfl rfl rfl rfl
abbrev s_dot : Stmt := top 11
abbrev N_dot : List Str := ["left", "right", "first", "second"]
theorem sc_dot : FnScope N_dot ["left", "right"] (defScope s_dot) := ⟨rfl, rfl, rfl, by decide +kernel, rfl, by decide +kernel, by decide +kernel⟩
theorem c_dot (I : FnIn G.K mg "dot" s_dot ["left", "right"]) (n_zip : mg "zip" = none) (n_sum : mg "sum" = none) : Cal P w G.K mg base G "dot" 1 2 m_dot :=
  have nd := sc_dot.nd
  cal_by (k := 0) (b := b_dot) I sc_dot (fun f cdv A outer s H E hr =>
    (dss_one (ds_ret (d_sum rfl n_sum (da_cons (d_lc rfl nd (di_zip rfl n_zip (da_cons (d_var 0) (da_cons (d_var 1) da_nil))) (blkOk_by (own := [("first", 2), ("second", 3)]) (N := N_dot) (sc := defScope s_dot) (by decide +kernel)) (by decide) (fun _ _ _ _ _ => (dg_tup rfl rfl (dgs_cons (dg_name (i := 2) nd rfl (.inl rfl)) (dgs_cons (dg_name (i := 3) nd rfl (.inl rfl)) dgs_nil)))) (fun _ _ _ _ _ => dts_nil) (fun _ _ _ _ _ => (d_mul (d_var 2) (d_var 3)))) da_nil))))) rfl rfl rfl rfl
abbrev s_shows_least : Stmt := top 12
abbrev N_shows_least : List Str := ["goal", "rows", "scale", "point", "paper", "weights", "bound", "place", "used", "weight"]
theorem sc_shows_least : FnScope N_shows_least ["goal", "rows", "scale", "point", "paper"] (defScope s_shows_least) := ⟨rfl, rfl, rfl, by decide +kernel, rfl, by decide +kernel, by decide +kernel⟩
theorem c_shows_least (I : FnIn G.K mg "shows_least" s_shows_least ["goal", "rows", "scale", "point", "paper"]) (C_dot : Cal P w G.K mg base G "dot" 1 2 m_dot) (n_len : mg "len" = none) (n_min : mg "min" = none) (n_range : mg "range" = none) (n_zip : mg "zip" = none) (n_sum : mg "sum" = none) : Cal P w G.K mg base G "shows_least" 2 5 m_shows_least :=
  have nd := sc_shows_least.nd
  cal_by (k := 1) (b := b_shows_least) I sc_shows_least (fun f cdv A outer s H E hr =>
    (dss_cons (ds_if (DW.t (dw_or (t_cp hr (d_var 2) d_int) (dw_or (t_cp hr (d_len n_len (da_cons (d_var 3) da_nil)) (d_len n_len (da_cons (d_var 0) da_nil))) (dw_or1 (t_cp hr (d_len n_len (da_cons (d_var 4) da_nil)) (d_len n_len (da_cons (d_var 1) da_nil))))))) (dss_one (ds_ret d_bl)) dss_nil) (dss_cons (ds_if (DW.t (dw_or (t_cp hr (d_min1 rfl n_min (da_cons (d_var 3) da_nil)) d_int) (dw_or1 (t_cp hr (d_minDf rfl rfl n_min (d_var 4) d_int (fun u v => pe_callBK (cr_minDf rfl) rfl n_min (by decide +kernel) u v)) d_int)))) (dss_one (ds_ret d_bl)) dss_nil) (dss_cons (ds_for PassesOwn.never rfl (di_any (d_var 1)) (dg_tup rfl rfl (dgs_cons (dg_name (i := 5) nd rfl (.inl rfl)) (dgs_cons (dg_name (i := 6) nd rfl (.inl rfl)) dgs_nil))) (dss_one (ds_if (t_cp hr (d_cal C_dot hr (by decide) (da_cons (d_var 5) (da_cons (d_var 3) da_nil)) rfl) (d_mul (d_var 6) (d_var 2))) (dss_one (ds_ret d_bl)) dss_nil))) (dss_cons (ds_for PassesOwn.never rfl (di_range1 rfl n_range (da_cons (d_len n_len (da_cons (d_var 0) da_nil)) da_nil)) (dg_name (i := 7) nd rfl (.inr rfl)) (dss_cons (ds_set (i := 8) nd rfl (.inl rfl) (d_sum rfl n_sum (da_cons (d_lc rfl nd (di_zip rfl n_zip (da_cons (d_var 1) (da_cons (d_var 4) da_nil))) (blkOk_by (own := [("weights", 5), ("bound", 6), ("weight", 9)]) (N := N_shows_least) (sc := defScope s_shows_least) (by decide +kernel)) (by decide) (fun _ _ _ _ _ => (dg_tup rfl rfl (dgs_cons (dg_tup rfl rfl (dgs_cons (dg_name (i := 5) nd rfl (.inl rfl)) (dgs_cons (dg_name (i := 6) nd rfl (.inl rfl)) dgs_nil))) (dgs_cons (dg_name (i := 9) nd rfl (.inl rfl)) dgs_nil)))) (fun _ _ _ _ _ => dts_nil) (fun _ _ _ _ _ => (d_mul (d_var 9) (d_ix (d_var 5) (d_var 7))))) da_nil))) (dss_one (ds_if (t_cp hr (d_var 8) (d_mul (d_ix (d_var 0) (d_var 7)) (d_var 2))) (dss_one (ds_ret d_bl)) dss_nil)))) (dss_one (ds_ret (d_cp hr (d_cal C_dot hr (by decide) (da_cons (d_var 0) (da_cons (d_var 3) da_nil)) rfl) (d_sum rfl n_sum (da_cons (d_lc rfl nd (di_zip rfl n_zip (da_cons (d_var 1) (da_cons (d_var 4) da_nil))) (blkOk_by (own := [("weights", 5), ("bound", 6), ("weight", 9)]) (N := N_shows_least) (sc := defScope s_shows_least) (by decide +kernel)) (by decide) (fun _ _ _ _ _ => (dg_tup rfl rfl (dgs_cons (dg_tup rfl rfl (dgs_cons (dg_name (i := 5) nd rfl (.inl rfl)) (dgs_cons (dg_name (i := 6) nd rfl (.inl rfl)) dgs_nil))) (dgs_cons (dg_name (i := 9) nd rfl (.inl rfl)) dgs_nil)))) (fun _ _ _ _ _ => dts_nil) (fun _ _ _ _ _ => (d_mul (d_var 9) (d_var 6)))) da_nil)))))))))) rfl rfl rfl rfl
abbrev s_misses : Stmt := top 13
abbrev N_misses : List Str := ["rows", "count", "paper", "place", "weights", "bound", "weight"]
theorem sc_misses : FnScope N_misses ["rows", "count", "paper"] (defScope s_misses) := ⟨rfl, rfl, rfl, by decide +kernel, rfl, by decide +kernel, by decide +kernel⟩
theorem c_misses (I : FnIn G.K mg "misses" s_misses ["rows", "count", "paper"]) (n_len : mg "len" = none) (n_min : mg "min" = none) (n_range : mg "range" = none) (n_zip : mg "zip" = none) (n_sum : mg "sum" = none) : Cal P w G.K mg base G "misses" 1 3 m_misses :=
  have nd := sc_misses.nd
  cal_by (k := 0) (b := b_misses) I sc_misses (fun f cdv A outer s H E hr =>
    (dss_cons (ds_if (DW.t (dw_or (t_cp hr (d_len n_len (da_cons (d_var 2) da_nil)) (d_len n_len (da_cons (d_var 0) da_nil))) (dw_or1 (t_cp hr (d_minDf rfl rfl n_min (d_var 2) d_int (fun u v => pe_callBK (cr_minDf rfl) rfl n_min (by decide +kernel) u v)) d_int)))) (dss_one (ds_ret d_bl)) dss_nil) (dss_cons (ds_for PassesOwn.never rfl (di_range1 rfl n_range (da_cons (d_var 1) da_nil)) (dg_name (i := 3) nd rfl (.inr rfl)) (dss_one (ds_if (t_cp hr (d_sum rfl n_sum (da_cons (d_lc rfl nd (di_zip rfl n_zip (da_cons (d_var 0) (da_cons (d_var 2) da_nil))) (blkOk_by (own := [("weights", 4), ("bound", 5), ("weight", 6)]) (N := N_misses) (sc := defScope s_misses) (by decide +kernel)) (by decide) (fun _ _ _ _ _ => (dg_tup rfl rfl (dgs_cons (dg_tup rfl rfl (dgs_cons (dg_name (i := 4) nd rfl (.inl rfl)) (dgs_cons (dg_name (i := 5) nd rfl (.inl rfl)) dgs_nil))) (dgs_cons (dg_name (i := 6) nd rfl (.inl rfl)) dgs_nil)))) (fun _ _ _ _ _ => dts_nil) (fun _ _ _ _ _ => (d_mul (d_var 6) (d_ix (d_var 4) (d_var 3))))) da_nil)) d_int) (dss_one (ds_ret d_bl)) dss_nil))) (dss_one (ds_ret (d_cp hr (d_sum rfl n_sum (da_cons (d_lc rfl nd (di_zip rfl n_zip (da_cons (d_var 0) (da_cons (d_var 2) da_nil))) (blkOk_by (own := [("weights", 4), ("bound", 5), ("weight", 6)]) (N := N_misses) (sc := defScope s_misses) (by decide +kernel)) (by decide) (fun _ _ _ _ _ => (dg_tup rfl rfl (dgs_cons (dg_tup rfl rfl (dgs_cons (dg_name (i := 4) nd rfl (.inl rfl)) (dgs_cons (dg_name (i := 5) nd rfl (.inl rfl)) dgs_nil))) (dgs_cons (dg_name (i := 6) nd rfl (.inl rfl)) dgs_nil)))) (fun _ _ _ _ _ => dts_nil) (fun _ _ _ _ _ => (d_mul (d_var 6) (d_var 5)))) da_nil)) d_int)))))) rfl rfl rfl rfl
abbrev s_law_misses : Stmt := top 25
abbrev N_law_misses : List Str := ["rows", "count", "paper", "k"]
theorem sc_law_misses : FnScope N_law_misses ["rows", "count", "paper"] (defScope s_law_misses) := ⟨rfl, rfl, rfl, by decide +kernel, rfl, by decide +kernel, by decide +kernel⟩
theorem c_law_misses (I : FnIn G.K mg "_law_misses" s_law_misses ["rows", "count", "paper"]) (C_law_column : Cal P w G.K mg base G "_law_column" 1 3 m_law_column) (C_law_paid : Cal P w G.K mg base G "_law_paid" 1 2 m_law_paid) (n_len : mg "len" = none) (n_list : mg "list" = none) (n_min : mg "min" = none) (n_range : mg "range" = none) : Cal P w G.K mg base G "_law_misses" 2 3 m_law_misses :=
  have nd := sc_law_misses.nd
  cal_by (k := 1) (b := b_law_misses) I sc_law_misses (fun f cdv A outer s H E hr =>
    (dss_cons (ds_if (DW.t (dw_or (t_cp hr (d_len n_len (da_cons (d_var 2) da_nil)) (d_len n_len (da_cons (d_var 0) da_nil))) (dw_or1 (t_cp hr (d_min1 rfl n_min (da_cons (d_add (d_listc n_list (da_cons (d_var 2) da_nil)) (d_lst (da_cons d_int da_nil))) da_nil)) d_int)))) (dss_one (ds_ret d_bl)) dss_nil) (dss_cons (ds_for PassesOwn.never rfl (di_range1 rfl n_range (da_cons (d_var 1) da_nil)) (dg_name (i := 3) nd rfl (.inl rfl)) (dss_one (ds_if (t_cp hr (d_cal C_law_column hr (by decide) (da_cons (d_var 0) (da_cons (d_var 2) (da_cons (d_var 3) da_nil))) rfl) d_int) (dss_one (ds_ret d_bl)) dss_nil))) (dss_one (ds_ret (d_cp hr (d_cal C_law_paid hr (by decide) (da_cons (d_var 0) (da_cons (d_var 2) da_nil)) rfl) d_int)))))) rfl rfl rfl rfl
abbrev s_law_judged : Stmt := top 36
abbrev N_law_judged : List Str := ["numbers", "best", "none", "goal", "rows", "point", "paper", "price", "task", "scale", "spot", "sheet", "due"]
theorem sc_law_judged : FnScope N_law_judged ["numbers", "best", "none"] (defScope s_law_judged) := ⟨rfl, rfl, rfl, by decide +kernel, rfl, by decide +kernel, by decide +kernel⟩
theorem c_law_judged (I : FnIn G.K mg "_law_judged" s_law_judged ["numbers", "best", "none"]) (C_shows_least : Cal P w G.K mg base G "shows_least" 2 5 m_shows_least) (C_law_same : Cal P w G.K mg base G "_law_same" 9 2 m_law_same) (C_law_best_changes : Cal P w G.K mg base G "_law_best_changes" 2 5 m_law_best_changes) (C_law_shows : Cal P w G.K mg base G "_law_shows" 2 5 m_law_shows) (C_misses : Cal P w G.K mg base G "misses" 1 3 m_misses) (C_law_none_changes : Cal P w G.K mg base G "_law_none_changes" 2 4 m_law_none_changes) (C_law_misses : Cal P w G.K mg base G "_law_misses" 2 3 m_law_misses) (n_tuple : mg "tuple" = none) (n_len : mg "len" = none) : Cal P w G.K mg base G "_law_judged" 10 3 m_law_judged :=
  have nd := sc_law_judged.nd
  cal_by (k := 9) (b := b_law_judged) I sc_law_judged (fun f cdv A outer s H E hr =>
    (dss_cons (ds_asg (d_var 1) (dg_tup rfl rfl (dgs_cons (dg_name (i := 3) nd rfl (.inl rfl)) (dgs_cons (dg_name (i := 4) nd rfl (.inl rfl)) (dgs_cons (dg_name (i := 5) nd rfl (.inl rfl)) (dgs_cons (dg_name (i := 6) nd rfl (.inl rfl)) dgs_nil)))))) (dss_cons (ds_if (dt_not (dt_val (d_cal C_law_same hr (by decide) (da_cons (d_cal C_shows_least hr (by decide) (da_cons (d_var 3) (da_cons (d_var 4) (da_cons d_int (da_cons (d_tuplec n_tuple (da_cons (d_var 5) da_nil)) (da_cons (d_tuplec n_tuple (da_cons (d_var 6) da_nil)) da_nil))))) rfl) (da_cons d_bl da_nil)) rfl))) (dss_one (ds_ret d_bl)) dss_nil) (dss_cons (ds_for PassesOwn.never rfl (di_any (d_cal C_law_best_changes hr (by decide) (da_cons (d_var 0) (da_cons (d_var 3) (da_cons (d_var 4) (da_cons (d_var 5) (da_cons (d_var 6) da_nil))))) rfl)) (dg_tup rfl rfl (dgs_cons (dg_name (i := 7) nd rfl (.inl rfl)) (dgs_cons (dg_name (i := 8) nd rfl (.inl rfl)) (dgs_cons (dg_name (i := 9) nd rfl (.inl rfl)) (dgs_cons (dg_name (i := 10) nd rfl (.inl rfl)) (dgs_cons (dg_name (i := 11) nd rfl (.inl rfl)) dgs_nil)))))) (dss_cons (ds_set (i := 12) nd rfl (.inl rfl) (d_cal C_law_shows hr (by decide) (da_cons (d_var 7) (da_cons (d_var 8) (da_cons (d_var 9) (da_cons (d_var 10) (da_cons (d_var 11) da_nil))))) rfl)) (dss_one (ds_if (dt_not (dt_val (d_cal C_law_same hr (by decide) (da_cons (d_cal C_shows_least hr (by decide) (da_cons (d_var 7) (da_cons (d_var 8) (da_cons (d_var 9) (da_cons (d_tuplec n_tuple (da_cons (d_var 10) da_nil)) (da_cons (d_tuplec n_tuple (da_cons (d_var 11) da_nil)) da_nil))))) rfl) (da_cons (d_var 12) da_nil)) rfl))) (dss_one (ds_ret d_bl)) dss_nil)))) (dss_cons (ds_asg (d_var 2) (dg_tup rfl rfl (dgs_cons (dg_name (i := 3) nd rfl (.inl rfl)) (dgs_cons (dg_name (i := 4) nd rfl (.inl rfl)) (dgs_cons (dg_name (i := 6) nd rfl (.inl rfl)) dgs_nil))))) (dss_cons (ds_if (dt_not (dt_val (d_cal C_law_same hr (by decide) (da_cons (d_cal C_misses hr (by decide) (da_cons (d_var 4) (da_cons (d_len n_len (da_cons (d_var 3) da_nil)) (da_cons (d_tuplec n_tuple (da_cons (d_var 6) da_nil)) da_nil))) rfl) (da_cons d_bl da_nil)) rfl))) (dss_one (ds_ret d_bl)) dss_nil) (dss_cons (ds_for PassesOwn.never rfl (di_any (d_cal C_law_none_changes hr (by decide) (da_cons (d_var 0) (da_cons (d_var 4) (da_cons (d_len n_len (da_cons (d_var 3) da_nil)) (da_cons (d_var 6) da_nil)))) rfl)) (dg_tup rfl rfl (dgs_cons (dg_name (i := 8) nd rfl (.inl rfl)) (dgs_cons (dg_name (i := 11) nd rfl (.inl rfl)) dgs_nil))) (dss_one (ds_if (dt_not (dt_val (d_cal C_law_same hr (by decide) (da_cons (d_cal C_misses hr (by decide) (da_cons (d_var 8) (da_cons (d_len n_len (da_cons (d_var 3) da_nil)) (da_cons (d_tuplec n_tuple (da_cons (d_var 11) da_nil)) da_nil))) rfl) (da_cons (d_cal C_law_misses hr (by decide) (da_cons (d_var 8) (da_cons (d_len n_len (da_cons (d_var 3) da_nil)) (da_cons (d_var 11) da_nil))) rfl) da_nil)) rfl))) (dss_one (ds_ret d_bl)) dss_nil))) (dss_one (ds_ret d_bl))))))))) rfl rfl rfl rfl
abbrev s_entering_column : Stmt := top 4
abbrev N_entering_column : List Str := ["gains", "loose", "best", "column"]
theorem sc_entering_column : FnScope N_entering_column ["gains", "loose"] (defScope s_entering_column) := ⟨rfl, rfl, rfl, by decide +kernel, rfl, by decide +kernel, by decide +kernel⟩
theorem c_entering_column (I : FnIn G.K mg "entering_column" s_entering_column ["gains", "loose"]) (n_len : mg "len" = none) (n_range : mg "range" = none) : Cal P w G.K mg base G "entering_column" 1 2 m_entering_column :=
  have nd := sc_entering_column.nd
  cal_by (k := 0) (b := b_entering_column) I sc_entering_column (fun f cdv A outer s H E hr =>
    (dss_cons (ds_set (i := 2) nd rfl (.inl rfl) (d_neg d_int)) (dss_cons (ds_for PassesOwn.never rfl (di_range1 rfl n_range (da_cons (d_len n_len (da_cons (d_var 1) da_nil)) da_nil)) (dg_name (i := 3) nd rfl (.inl rfl)) (dss_one (ds_if (DW.t (dw_and (t_cp hr (d_ix (d_var 0) (d_var 3)) d_int) (dw_and1 (DW.t (dw_or (t_cp hr (d_var 2) d_int) (dw_or1 (t_cp hr (d_ix (d_var 1) (d_var 3)) (d_ix (d_var 1) (d_var 2))))))))) (dss_one (ds_set (i := 2) nd rfl (.inl rfl) (d_var 3))) dss_nil))) (dss_one (ds_retV 2))))) rfl rfl rfl rfl
abbrev s_leaving_row : Stmt := top 5
abbrev N_leaving_row : List Str := ["table", "basic", "column", "best", "row", "step", "order"]
theorem sc_leaving_row : FnScope N_leaving_row ["table", "basic", "column"] (defScope s_leaving_row) := ⟨rfl, rfl, rfl, by decide +kernel, rfl, by decide +kernel, by decide +kernel⟩
theorem c_leaving_row (I : FnIn G.K mg "leaving_row" s_leaving_row ["table", "basic", "column"]) (n_len : mg "len" = none) (n_range : mg "range" = none) : Cal P w G.K mg base G "leaving_row" 1 3 m_leaving_row :=
  have nd := sc_leaving_row.nd
  cal_by (k := 0) (b := b_leaving_row) I sc_leaving_row (fun f cdv A outer s H E hr =>
    (dss_cons (ds_set (i := 3) nd rfl (.inl rfl) (d_neg d_int)) (dss_cons (ds_for PassesOwn.never rfl (di_range1 rfl n_range (da_cons (d_len n_len (da_cons (d_var 1) da_nil)) da_nil)) (dg_name (i := 4) nd rfl (.inl rfl)) (dss_cons (ds_set (i := 5) nd rfl (.inl rfl) (d_ix (d_ix (d_var 0) (d_var 4)) (d_var 2))) (dss_cons (ds_if (t_cp hr (d_var 5) d_int) (dss_one ds_continue) dss_nil) (dss_cons (ds_if (t_cp hr (d_var 3) d_int) (dss_cons (ds_set (i := 3) nd rfl (.inl rfl) (d_var 4)) (dss_one ds_continue)) dss_nil) (dss_cons (ds_set (i := 6) nd rfl (.inl rfl) (d_sub (d_mul (d_ix (d_ix (d_var 0) (d_var 4)) (d_neg d_int)) (d_ix (d_ix (d_var 0) (d_var 3)) (d_var 2))) (d_mul (d_ix (d_ix (d_var 0) (d_var 3)) (d_neg d_int)) (d_var 5)))) (dss_one (ds_if (DW.t (dw_or (t_cp hr (d_var 6) d_int) (dw_or1 (DW.t (dw_and (t_cp hr (d_var 6) d_int) (dw_and1 (t_cp hr (d_ix (d_var 1) (d_var 4)) (d_ix (d_var 1) (d_var 3))))))))) (dss_one (ds_set (i := 3) nd rfl (.inl rfl) (d_var 4))) dss_nil))))))) (dss_one (ds_retV 3))))) rfl rfl rfl rfl
abbrev s_top_of : Stmt := top 7
abbrev N_top_of : List Str := ["table", "basic", "loose", "many", "weights", "prices", "row", "column"]
theorem sc_top_of : FnScope N_top_of ["table", "basic", "loose"] (defScope s_top_of) := ⟨rfl, rfl, rfl, by decide +kernel, rfl, by decide +kernel, by decide +kernel⟩
theorem c_top_of (I : FnIn G.K mg "top_of" s_top_of ["table", "basic", "loose"]) (n_len : mg "len" = none) (n_range : mg "range" = none) : Cal P w G.K mg base G "top_of" 1 3 m_top_of :=
  have nd := sc_top_of.nd
  cal_by (k := 0) (b := b_top_of) I sc_top_of (fun f cdv A outer s H E hr =>
    (dss_cons (ds_set (i := 3) nd rfl (.inl rfl) (d_len n_len (da_cons (d_var 2) da_nil))) (dss_cons (ds_set (i := 4) nd rfl (.inl rfl) (d_mul (d_lst (da_cons d_int da_nil)) (d_var 3))) (dss_cons (ds_set (i := 5) nd rfl (.inl rfl) (d_mul (d_lst (da_cons d_int da_nil)) (d_len n_len (da_cons (d_var 1) da_nil)))) (dss_cons (ds_for PassesOwn.never rfl (di_range1 rfl n_range (da_cons (d_len n_len (da_cons (d_var 1) da_nil)) da_nil)) (dg_name (i := 6) nd rfl (.inl rfl)) (dss_one (ds_if (t_cp hr (d_ix (d_var 1) (d_var 6)) (d_var 3)) (dss_one (ds_setIx 4 (d_ix (d_ix (d_var 0) (d_var 6)) (d_neg d_int)) (d_ix (d_var 1) (d_var 6)))) dss_nil))) (dss_cons (ds_for PassesOwn.never rfl (di_range1 rfl n_range (da_cons (d_var 3) da_nil)) (dg_name (i := 7) nd rfl (.inl rfl)) (dss_one (ds_if (t_cp hr (d_ix (d_var 2) (d_var 7)) (d_var 3)) (dss_one (ds_setIx 5 (d_neg (d_ix (d_ix (d_var 0) (d_neg d_int)) (d_var 7))) (d_sub (d_ix (d_var 2) (d_var 7)) (d_var 3)))) dss_nil))) (dss_one (ds_ret (d_tup (da_cons (d_var 4) (da_cons (d_var 5) da_nil))))))))))) rfl rfl rfl rfl
abbrev s_ray_of : Stmt := top 8
abbrev N_ray_of : List Str := ["table", "basic", "loose", "column", "scale", "many", "weights", "row"]
theorem sc_ray_of : FnScope N_ray_of ["table", "basic", "loose", "column", "scale"] (defScope s_ray_of) := ⟨rfl, rfl, rfl, by decide +kernel, rfl, by decide +kernel, by decide +kernel⟩
theorem c_ray_of (I : FnIn G.K mg "ray_of" s_ray_of ["table", "basic", "loose", "column", "scale"]) (n_len : mg "len" = none) (n_range : mg "range" = none) : Cal P w G.K mg base G "ray_of" 1 5 m_ray_of :=
  have nd := sc_ray_of.nd
  cal_by (k := 0) (b := b_ray_of) I sc_ray_of (fun f cdv A outer s H E hr =>
    (dss_cons (ds_set (i := 5) nd rfl (.inl rfl) (d_len n_len (da_cons (d_var 2) da_nil))) (dss_cons (ds_set (i := 6) nd rfl (.inl rfl) (d_mul (d_lst (da_cons d_int da_nil)) (d_var 5))) (dss_cons (ds_if (t_cp hr (d_ix (d_var 2) (d_var 3)) (d_var 5)) (dss_one (ds_setIx 6 (d_var 4) (d_ix (d_var 2) (d_var 3)))) dss_nil) (dss_cons (ds_for PassesOwn.never rfl (di_range1 rfl n_range (da_cons (d_len n_len (da_cons (d_var 1) da_nil)) da_nil)) (dg_name (i := 7) nd rfl (.inl rfl)) (dss_one (ds_if (t_cp hr (d_ix (d_var 1) (d_var 7)) (d_var 5)) (dss_one (ds_setIx 6 (d_neg (d_ix (d_ix (d_var 0) (d_var 7)) (d_var 3))) (d_ix (d_var 1) (d_var 7)))) dss_nil))) (dss_one (ds_retV 6))))))) rfl rfl rfl rfl
abbrev s_lowest : Stmt := top 2
abbrev N_lowest : List Str := ["numbers", "divisor", "number"]
theorem sc_lowest : FnScope N_lowest ["numbers"] (defScope s_lowest) := ⟨rfl, rfl, rfl, by decide +kernel, rfl, by decide +kernel, by decide +kernel⟩
theorem c_lowest (I : FnIn G.K mg "lowest" s_lowest ["numbers"]) (n_tuple : mg "tuple" = none) (g_gcd : mg "gcd" = some (.builtin "math.gcd")) : Cal P w G.K mg base G "lowest" 1 1 m_lowest :=
  have nd := sc_lowest.nd
  cal_by (k := 0) (b := b_lowest) I sc_lowest (fun f cdv A outer s H E hr =>
    (dss_cons (ds_set (i := 1) nd rfl (.inr rfl) d_int) (dss_cons (ds_for PassesOwn.never rfl (di_any (d_var 0)) (dg_name (i := 2) nd rfl (.inl rfl)) (dss_one (ds_set (i := 1) nd rfl (.inr rfl) (d_gcd g_gcd (da_cons (d_var 1) (da_cons (d_var 2) da_nil)))))) (dss_cons (ds_if (t_cp hr (d_var 1) d_int) (dss_one (ds_ret (d_tuplec n_tuple (da_cons (d_var 0) da_nil)))) dss_nil) (dss_one (ds_ret (d_tuplec n_tuple (da_cons (d_lc rfl nd (di_any (d_var 0)) (blkOk_by (own := [("number", 2)]) (N := N_lowest) (sc := defScope s_lowest) (by decide +kernel)) (by decide) (fun _ _ _ _ _ => (dg_name (i := 2) nd rfl (.inl rfl))) (fun _ _ _ _ _ => dts_nil) (fun _ _ _ _ _ => (d_fdiv (d_var 2) (d_var 1)))) da_nil)))))))) rfl rfl rfl rfl
abbrev s_least : Stmt := top 10
abbrev N_least : List Str := ["goal", "rows", "count", "columns", "gains", "word", "scale", "weights", "prices", "numbers", "bound"]
theorem sc_least : FnScope N_least ["goal", "rows", "count"] (defScope s_least) := ⟨rfl, rfl, rfl, by decide +kernel, rfl, by decide +kernel, by decide +kernel⟩
theorem c_least (I : FnIn G.K mg "least" s_least ["goal", "rows", "count"]) (C_climb : Cal P w G.K mg base G "climb" 2 3 m_climb) (C_lowest : Cal P w G.K mg base G "lowest" 1 1 m_lowest) (n_list : mg "list" = none) : Cal P w G.K mg base G "least" 3 3 m_least :=
  have nd := sc_least.nd
  cal_by (k := 2) (b := b_least) I sc_least (fun f cdv A outer s H E hr =>
    (dss_cons (ds_setLc (i := 3) rfl nd rfl rfl (sw_true rfl rfl rfl (by decide +kernel)) (di_any (d_var 1)) (blkOk_by (own := [("weights", 7), ("bound", 10)]) (N := N_least) (sc := defScope s_least) (by decide +kernel)) (by decide) (fun _ _ _ _ _ => (dg_tup rfl rfl (dgs_cons (dg_name (i := 7) nd rfl (.inl rfl)) (dgs_cons (dg_name (i := 10) nd rfl (.inl rfl)) dgs_nil)))) (fun _ _ _ _ _ => dts_nil) (fun _ _ _ _ _ => (d_listc n_list (da_cons (d_var 7) da_nil)))) (dss_cons (ds_setLc (i := 4) rfl nd rfl rfl (sw_true rfl rfl rfl (by decide +kernel)) (di_any (d_var 1)) (blkOk_by (own := [("weights", 7), ("bound", 10)]) (N := N_least) (sc := defScope s_least) (by decide +kernel)) (by decide) (fun _ _ _ _ _ => (dg_tup rfl rfl (dgs_cons (dg_name (i := 7) nd rfl (.inl rfl)) (dgs_cons (dg_name (i := 10) nd rfl (.inl rfl)) dgs_nil)))) (fun _ _ _ _ _ => dts_nil) (fun _ _ _ _ _ => (d_var 10))) (dss_cons (ds_asg (d_cal C_climb hr (by decide) (da_cons (d_var 3) (da_cons (d_listc n_list (da_cons (d_var 0) da_nil)) (da_cons (d_var 4) da_nil))) rfl) (dg_tup rfl rfl (dgs_cons (dg_name (i := 5) nd rfl (.inl rfl)) (dgs_cons (dg_name (i := 6) nd rfl (.inl rfl)) (dgs_cons (dg_name (i := 7) nd rfl (.inl rfl)) (dgs_cons (dg_name (i := 8) nd rfl (.inl rfl)) dgs_nil)))))) (dss_cons (ds_if (t_cp hr (d_var 5) d_str) (dss_one (ds_ret (d_tup (da_cons d_str (da_cons (d_cal C_lowest hr (by decide) (da_cons (d_var 7) da_nil) rfl) da_nil))))) dss_nil) (dss_cons (ds_set (i := 9) nd rfl (.inl rfl) (d_cal C_lowest hr (by decide) (da_cons (d_add (d_add (d_lst (da_cons (d_var 6) da_nil)) (d_var 8)) (d_var 7)) da_nil) rfl)) (dss_one (ds_ret (d_tup (da_cons d_str (da_cons (d_ix (d_var 9) d_int) (da_cons (d_slice (d_var 9) (do_some d_int) (do_some (d_add (d_var 2) d_int))) (da_cons (d_slice (d_var 9) (do_some (d_add (d_var 2) d_int)) do_none) da_nil))))))))))))) rfl rfl rfl rfl
abbrev s_law_integers : Stmt := top 19
abbrev N_law_integers : List Str := ["found", "many", "low", "number"]
theorem sc_law_integers : FnScope N_law_integers ["found", "many", "low"] (defScope s_law_integers) := ⟨rfl, rfl, rfl, by decide +kernel, rfl, by decide +kernel, by decide +kernel⟩
theorem c_law_integers (I : FnIn G.K mg "_law_integers" s_law_integers ["found", "many", "low"]) (n_isinstance : mg "isinstance" = none) (n_tuple : mg "tuple" = none) (n_len : mg "len" = none) (n_int : mg "int" = none) (n_bool : mg "bool" = none) : Cal P w G.K mg base G "_law_integers" 1 3 m_law_integers :=
  have nd := sc_law_integers.nd
  cal_by (k := 0) (b := b_law_integers) I sc_law_integers (fun f cdv A outer s H E hr =>
    (dss_cons (ds_if (DW.t (dw_or (dt_not (dt_val (d_isi rfl n_isinstance (d_var 0) (pe_bltn rfl n_tuple (by decide +kernel) rfl) (ty_tuple _)))) (dw_or1 (t_cp hr (d_len n_len (da_cons (d_var 0) da_nil)) (d_var 1))))) (dss_one (ds_ret d_bl)) dss_nil) (dss_cons (ds_for PassesOwn.never rfl (di_any (d_var 0)) (dg_name (i := 3) nd rfl (.inl rfl)) (dss_one (ds_if (DW.t (dw_or (dt_not (dt_val (d_isi rfl n_isinstance (d_var 3) (pe_bltn rfl n_int (by decide +kernel) rfl) (ty_int _)))) (dw_or (dt_val (d_isi rfl n_isinstance (d_var 3) (pe_bltn rfl n_bool (by decide +kernel) rfl) (ty_bool _))) (dw_or1 (t_cp hr (d_var 3) (d_var 2)))))) (dss_one (ds_ret d_bl)) dss_nil))) (dss_one (ds_ret d_bl))))) rfl rfl rfl rfl
abbrev s_law_common : Stmt := top 17
abbrev N_law_common : List Str := ["row", "common", "number", "rest", "step"]
theorem sc_law_common : FnScope N_law_common ["row"] (defScope s_law_common) := ⟨rfl, rfl, rfl, by decide +kernel, rfl, by decide +kernel, by decide +kernel⟩
theorem c_law_common (I : FnIn G.K mg "_law_common" s_law_common ["row"]) (n_abs : mg "abs" = none) (n_range : mg "range" = none) (n_int : mg "int" = none) : Cal P w G.K mg base G "_law_common" 1 1 m_law_common :=
  have nd := sc_law_common.nd
  cal_by (k := 0) (b := b_law_common) I sc_law_common (fun f cdv A outer s H E hr =>
    (dss_cons (ds_set (i := 1) nd rfl (.inl rfl) d_int) (dss_cons (ds_for PassesOwn.never rfl (di_any (d_var 0)) (dg_name (i := 2) nd rfl (.inl rfl)) (dss_cons (ds_set (i := 3) nd rfl (.inl rfl) (d_abs n_abs (da_cons (d_var 2) da_nil))) (dss_one (ds_for PassesOwn.never rfl (di_range1 rfl n_range (da_cons (d_add (d_mul d_int (d_bits (d_var 3))) d_int) da_nil)) (dg_name (i := 4) nd rfl (.inl rfl)) (dss_cons (ds_if (t_cp hr (d_var 3) d_int) (dss_one ds_break) dss_nil) (dss_one (ds_par (i := 1) (j := 3) (da_cons (d_var 3) (da_cons (d_mod (d_intc n_int (da_cons (d_var 1) da_nil)) (d_var 3)) da_nil)) (fun h => ps_par rfl nd rfl rfl (by decide) rfl rfl h (by rfl))))))))) (dss_one (ds_retV 1))))) rfl rfl rfl rfl
abbrev s_law_word : Stmt := top 29
abbrev N_law_word : List Str := ["goal", "rows", "told"]
theorem sc_law_word : FnScope N_law_word ["goal", "rows", "told"] (defScope s_law_word) := ⟨rfl, rfl, rfl, by decide +kernel, rfl, by decide +kernel, by decide +kernel⟩
theorem c_law_word (I : FnIn G.K mg "_law_word" s_law_word ["goal", "rows", "told"]) (C_law_integers : Cal P w G.K mg base G "_law_integers" 1 3 m_law_integers) (C_law_common : Cal P w G.K mg base G "_law_common" 1 1 m_law_common) (C_law_misses : Cal P w G.K mg base G "_law_misses" 2 3 m_law_misses) (C_law_shows : Cal P w G.K mg base G "_law_shows" 2 5 m_law_shows) (n_isinstance : mg "isinstance" = none) (n_tuple : mg "tuple" = none) (n_len : mg "len" = none) (n_str : mg "str" = none) : Cal P w G.K mg base G "_law_word" 3 3 m_law_word :=
  have nd := sc_law_word.nd
  cal_by (k := 2) (b := b_law_word) I sc_law_word (fun f cdv A outer s H E hr =>
    (dss_cons (ds_if (DW.t (dw_or (dt_not (dt_val (d_isi rfl n_isinstance (d_var 2) (pe_bltn rfl n_tuple (by decide +kernel) rfl) (ty_tuple _)))) (dw_or (t_notInI (d_len n_len (da_cons (d_var 2) da_nil)) (d_tup (da_cons d_int (da_cons d_int da_nil)))) (dw_or1 (dt_not (dt_val (d_isi rfl n_isinstance (d_ix (d_var 2) d_int) (pe_bltn rfl n_str (by decide +kernel) rfl) (ty_str _)))))))) (dss_one (ds_ret d_str)) dss_nil) (dss_cons (ds_if (dt_not (dt_val (d_cal C_law_integers hr (by decide) (da_cons (d_ix (d_var 2) (d_neg d_int)) (da_cons (d_len n_len (da_cons (d_var 1) da_nil)) (da_cons d_int da_nil))) rfl))) (dss_one (ds_ret d_str)) dss_nil) (dss_cons (ds_if (DW.t (dw_and (t_cp hr (d_ix (d_var 2) d_int) d_str) (dw_and1 (t_cp hr (d_len n_len (da_cons (d_var 2) da_nil)) d_int)))) (dss_cons (ds_if (DW.t (dw_and (t_cp hr (d_cal C_law_common hr (by decide) (da_cons (d_ix (d_var 2) d_int) da_nil) rfl) d_int) (dw_and1 (dt_val (d_cal C_law_misses hr (by decide) (da_cons (d_var 1) (da_cons (d_len n_len (da_cons (d_var 0) da_nil)) (da_cons (d_ix (d_var 2) d_int) da_nil))) rfl))))) (dss_one (ds_ret d_str)) dss_nil) (dss_one (ds_ret d_str))) dss_nil) (dss_cons (ds_if (DW.t (dw_or (t_cp hr (d_ix (d_var 2) d_int) d_str) (dw_or (t_cp hr (d_len n_len (da_cons (d_var 2) da_nil)) d_int) (dw_or1 (dt_not (dt_val (d_cal C_law_integers hr (by decide) (da_cons (d_tup (da_cons (d_ix (d_var 2) d_int) da_nil)) (da_cons d_int (da_cons d_int da_nil))) rfl))))))) (dss_one (ds_ret d_str)) dss_nil) (dss_cons (ds_if (DW.t (dw_or (dt_not (dt_val (d_cal C_law_integers hr (by decide) (da_cons (d_ix (d_var 2) d_int) (da_cons (d_len n_len (da_cons (d_var 0) da_nil)) (da_cons d_int da_nil))) rfl))) (dw_or1 (t_cp hr (d_cal C_law_common hr (by decide) (da_cons (d_add (d_add (d_tup (da_cons (d_ix (d_var 2) d_int) da_nil)) (d_ix (d_var 2) d_int)) (d_ix (d_var 2) d_int)) da_nil) rfl) d_int)))) (dss_one (ds_ret d_str)) dss_nil) (dss_cons (ds_if (dt_val (d_cal C_law_shows hr (by decide) (da_cons (d_var 0) (da_cons (d_var 1) (da_cons (d_ix (d_var 2) d_int) (da_cons (d_ix (d_var 2) d_int) (da_cons (d_ix (d_var 2) d_int) da_nil))))) rfl)) (dss_one (ds_ret d_str)) dss_nil) (dss_one (ds_ret d_str))))))))) rfl rfl rfl rfl
abbrev s_law_asked : Stmt := top 30
abbrev N_law_asked : List Str := ["numbers", "goal", "rows", "handed", "price", "told", "again", "kept", "weights", "bound"]
theorem sc_law_asked : FnScope N_law_asked ["numbers", "goal", "rows"] (defScope s_law_asked) := ⟨rfl, rfl, rfl, by decide +kernel, rfl, by decide +kernel, by decide +kernel⟩
theorem c_law_asked (I : FnIn G.K mg "_law_asked" s_law_asked ["numbers", "goal", "rows"]) (C_least : Cal P w G.K mg base G "least" 3 3 m_least) (C_law_same : Cal P w G.K mg base G "_law_same" 9 2 m_law_same) (C_law_word : Cal P w G.K mg base G "_law_word" 3 3 m_law_word) (n_list : mg "list" = none) (n_int : mg "int" = none) (n_tuple : mg "tuple" = none) (n_len : mg "len" = none) : Cal P w G.K mg base G "_law_asked" 10 3 m_law_asked :=
  have nd := sc_law_asked.nd
  cal_by (k := 9) (b := b_law_asked) I sc_law_asked (fun f cdv A outer s H E hr =>
    (dss_cons (ds_setLc (i := 3) rfl nd rfl rfl (sw_true rfl rfl rfl (by decide +kernel)) (di_any (d_var 2)) (blkOk_by (own := [("weights", 8), ("bound", 9)]) (N := N_law_asked) (sc := defScope s_law_asked) (by decide +kernel)) (by decide) (fun _ _ _ _ _ => (dg_tup rfl rfl (dgs_cons (dg_name (i := 8) nd rfl (.inl rfl)) (dgs_cons (dg_name (i := 9) nd rfl (.inl rfl)) dgs_nil)))) (fun _ _ _ _ _ => dts_nil) (fun _ _ _ _ _ => (d_tup (da_cons (d_listc n_list (da_cons (d_var 8) da_nil)) (da_cons (d_var 9) da_nil))))) (dss_cons (ds_if (t_cp hr (d_mod (d_intc n_int (da_cons (d_ix (d_var 0) d_int) da_nil)) d_int) d_int) (dss_one (ds_setLc (i := 3) rfl nd rfl rfl (sw_true rfl rfl rfl (by decide +kernel)) (di_any (d_var 2)) (blkOk_by (own := [("weights", 8), ("bound", 9)]) (N := N_law_asked) (sc := defScope s_law_asked) (by decide +kernel)) (by decide) (fun _ _ _ _ _ => (dg_tup rfl rfl (dgs_cons (dg_name (i := 8) nd rfl (.inl rfl)) (dgs_cons (dg_name (i := 9) nd rfl (.inl rfl)) dgs_nil)))) (fun _ _ _ _ _ => dts_nil) (fun _ _ _ _ _ => (d_tup (da_cons (d_tuplec n_tuple (da_cons (d_var 8) da_nil)) (da_cons (d_var 9) da_nil)))))) dss_nil) (dss_cons (ds_set (i := 4) nd rfl (.inl rfl) (d_listc n_list (da_cons (d_var 1) da_nil))) (dss_cons (ds_set (i := 5) nd rfl (.inl rfl) (d_cal C_least hr (by decide) (da_cons (d_var 4) (da_cons (d_var 3) (da_cons (d_len n_len (da_cons (d_var 1) da_nil)) da_nil))) rfl)) (dss_cons (ds_set (i := 6) nd rfl (.inl rfl) (d_cal C_least hr (by decide) (da_cons (d_var 4) (da_cons (d_var 3) (da_cons (d_len n_len (da_cons (d_var 1) da_nil)) da_nil))) rfl)) (dss_cons (ds_setLc (i := 7) rfl nd rfl rfl (sw_true rfl rfl rfl (by decide +kernel)) (di_any (d_var 3)) (blkOk_by (own := [("weights", 8), ("bound", 9)]) (N := N_law_asked) (sc := defScope s_law_asked) (by decide +kernel)) (by decide) (fun _ _ _ _ _ => (dg_tup rfl rfl (dgs_cons (dg_name (i := 8) nd rfl (.inl rfl)) (dgs_cons (dg_name (i := 9) nd rfl (.inl rfl)) dgs_nil)))) (fun _ _ _ _ _ => dts_nil) (fun _ _ _ _ _ => (d_tup (da_cons (d_listc n_list (da_cons (d_var 8) da_nil)) (da_cons (d_var 9) da_nil))))) (dss_cons (ds_if (DW.t (dw_or (dt_not (dt_val (d_cal C_law_same hr (by decide) (da_cons (d_var 7) (da_cons (d_lc rfl nd (di_any (d_var 2)) (blkOk_by (own := [("weights", 8), ("bound", 9)]) (N := N_law_asked) (sc := defScope s_law_asked) (by decide +kernel)) (by decide) (fun _ _ _ _ _ => (dg_tup rfl rfl (dgs_cons (dg_name (i := 8) nd rfl (.inl rfl)) (dgs_cons (dg_name (i := 9) nd rfl (.inl rfl)) dgs_nil)))) (fun _ _ _ _ _ => dts_nil) (fun _ _ _ _ _ => (d_tup (da_cons (d_listc n_list (da_cons (d_var 8) da_nil)) (da_cons (d_var 9) da_nil))))) da_nil)) rfl))) (dw_or1 (dt_not (dt_val (d_cal C_law_same hr (by decide) (da_cons (d_var 4) (da_cons (d_listc n_list (da_cons (d_var 1) da_nil)) da_nil)) rfl)))))) (dss_one (ds_ret d_str)) dss_nil) (dss_cons (ds_if (dt_not (dt_val (d_cal C_law_same hr (by decide) (da_cons (d_var 6) (da_cons (d_var 5) da_nil)) rfl))) (dss_one (ds_ret d_str)) dss_nil) (dss_one (ds_ret (d_cal C_law_word hr (by decide) (da_cons (d_var 1) (da_cons (d_var 2) (da_cons (d_var 5) da_nil))) rfl)))))))))))) rfl rfl rfl rfl
abbrev s_law : Stmt := top 37
abbrev N_law : List Str := ["script", "numbers", "many", "count", "best", "none", "goal", "rows"]
theorem sc_law : FnScope N_law ["script"] (defScope s_law) := ⟨rfl, rfl, rfl, by decide +kernel, rfl, by decide +kernel, by decide +kernel⟩
theorem o_law {f : Addr} {fd : FuncData} (F : Fun G.K "law" "law" s_law f fd) (C_law_numbers : Cal P w G.K mg base G "_law_numbers" 1 2 m_law_numbers) (C_law_best_pair : Cal P w G.K mg base G "_law_best_pair" 3 3 m_law_best_pair) (C_law_none_pair : Cal P w G.K mg base G "_law_none_pair" 3 3 m_law_none_pair) (C_law_judged : Cal P w G.K mg base G "_law_judged" 10 3 m_law_judged) (C_law_asked : Cal P w G.K mg base G "_law_asked" 10 3 m_law_asked) (C_law_free : Cal P w G.K mg base G "_law_free" 3 3 m_law_free) (n_int : mg "int" = none) : FnOk P w G.K mg base CX0 11 f fd ["script"] (spD G 1 m_law) :=
  have nd := sc_law.nd
  fn_by (k := 10) (b := b_law) F sc_law (fun cdv A outer s H E hr =>
    (dss_cons (ds_set (i := 1) nd rfl (.inl rfl) (d_cal C_law_numbers hr (by decide) (da_cons (d_var 0) (da_cons d_int da_nil)) rfl)) (dss_cons (ds_set (i := 2) nd rfl (.inl rfl) (d_add d_int (d_mod (d_intc n_int (da_cons (d_ix (d_var 1) d_int) da_nil)) d_int))) (dss_cons (ds_set (i := 3) nd rfl (.inl rfl) (d_add d_int (d_mod (d_intc n_int (da_cons (d_ix (d_var 1) d_int) da_nil)) d_int))) (dss_cons (ds_set (i := 4) nd rfl (.inl rfl) (d_cal C_law_best_pair hr (by decide) (da_cons (d_var 1) (da_cons (d_var 2) (da_cons (d_var 3) da_nil))) rfl)) (dss_cons (ds_set (i := 5) nd rfl (.inl rfl) (d_cal C_law_none_pair hr (by decide) (da_cons (d_var 1) (da_cons (d_var 2) (da_cons (d_var 3) da_nil))) rfl)) (dss_cons (ds_if (dt_not (dt_val (d_cal C_law_judged hr (by decide) (da_cons (d_var 1) (da_cons (d_var 4) (da_cons (d_var 5) da_nil))) rfl))) (dss_one (ds_ret d_bl)) dss_nil) (dss_cons (ds_if (t_cp hr (d_mod (d_intc n_int (da_cons (d_ix (d_var 1) d_int) da_nil)) d_int) d_int) (dss_cons (ds_set (i := 2) nd rfl (.inl rfl) (d_add d_int (d_mod (d_intc n_int (da_cons (d_ix (d_var 1) d_int) da_nil)) d_int))) (dss_cons (ds_set (i := 3) nd rfl (.inl rfl) (d_add d_int (d_mod (d_intc n_int (da_cons (d_ix (d_var 1) d_int) da_nil)) d_int))) (dss_one (ds_if (t_cp hr (d_mod (d_intc n_int (da_cons (d_ix (d_var 1) d_int) da_nil)) d_int) d_int) (dss_one (ds_set (i := 4) nd rfl (.inl rfl) (d_cal C_law_best_pair hr (by decide) (da_cons (d_var 1) (da_cons (d_var 2) (da_cons (d_var 3) da_nil))) rfl))) (dss_one (ds_set (i := 5) nd rfl (.inl rfl) (d_cal C_law_none_pair hr (by decide) (da_cons (d_var 1) (da_cons (d_var 2) (da_cons (d_var 3) da_nil))) rfl))))))) dss_nil) (dss_cons (ds_if (DW.t (dw_or (t_cp hr (d_cal C_law_asked hr (by decide) (da_cons (d_var 1) (da_cons (d_ix (d_var 4) d_int) (da_cons (d_ix (d_var 4) d_int) da_nil))) rfl) d_str) (dw_or1 (t_cp hr (d_cal C_law_asked hr (by decide) (da_cons (d_var 1) (da_cons (d_ix (d_var 5) d_int) (da_cons (d_ix (d_var 5) d_int) da_nil))) rfl) d_str)))) (dss_one (ds_ret d_bl)) dss_nil) (dss_cons (ds_asg (d_cal C_law_free hr (by decide) (da_cons (d_var 1) (da_cons (d_mod (d_intc n_int (da_cons (d_ix (d_var 1) d_int) da_nil)) d_int) (da_cons (d_add d_int (d_mod (d_intc n_int (da_cons (d_ix (d_var 1) d_int) da_nil)) d_int)) da_nil))) rfl) (dg_tup rfl rfl (dgs_cons (dg_name (i := 6) nd rfl (.inl rfl)) (dgs_cons (dg_name (i := 7) nd rfl (.inl rfl)) dgs_nil)))) (dss_one (ds_ret (d_cp hr (d_cal C_law_asked hr (by decide) (da_cons (d_var 1) (da_cons (d_var 6) (da_cons (d_var 7) da_nil))) rfl) d_str))))))))))))) rfl rfl rfl rfl
end K03
end

section
set_option maxRecDepth 100000
set_option maxHeartbeats 1000000
/-! Sums over rows; gcd with a break. -/
namespace K03
open L2 DL PG LW
section
variable {R N : Nat} {W : Nat → Nat → Int} {g l y w : Nat → Int} {dl dg dy dw d1 d2 : DL.D}
theorem law_dot_is {N M : Nat} {f g : Nat → Int} (hN : N < 1000000) (hM : N ≤ M) (h1 : Sq d1 (rowD N f)) (h2 : Sq d2 (rowD M g)) (hm : ∀ i, i < N → mulOk (f i) (g i) = true) : m_law_dot [d1, d2] = .ok (.fz (.int (dotF N f g))) := by
  refine runD_ok ?_
  have hl : eLc [2] (iA oRng1 (aCons (eA oLen (aCons (eVar 0) aNil)) aNil)) (nName 2) tYesD (e2 oMul (e2 oIx (eVar 0) (eVar 2)) (e2 oIx (eVar 1) (eVar 2))) [.fz d1, .fz d2, .un] = .ok (.ow (rowD N fun i => f i * g i)) := by
    refine rg_lc hN (by simp) (by simp [h1.len, rng1 hN]) fun k hk => ?_
    have a1 : oIx d1 (.int k) = .ok (.fz (.int (f k))) := by rw [h1.ix, ix_row hk]; rfl
    have a2 : oIx d2 (.int k) = .ok (.fz (.int (g k))) := by rw [h2.ix, ix_row (by omega)]; rfl
    simp only [wipeE, List.map, List.set, ev_frzF, ev_frzU, ev_e2, ev_vs, ev_v0f, ev_bok, ev_rfz, a1, a2, ev_pok, ev_mul (hm k hk)]
  show b_law_dot [.fz d1, .fz d2, .un] = _
  unfold b_law_dot
  simp only [ev_ret, ev_eA, ev_aCons, hl, ev_bok, ev_row, ev_aNil, sum_row, ev_pok, ev_ofM]
  rfl
theorem rowsI_ix {c : List DL.D → DL.D} {k : Nat} (h : k < R) : oIx (.lst (rowsI R N W g c)) (.int k) = .ok (.fz (.tup [c (rowD N (W k)), .int (g k)])) := by
  rw [ev_ixL, DL.atI_nat, rowsI_get h]; rfl
theorem pair_0 (a b : DL.D) : oIx (.tup [a, b]) (.int 0) = .ok (.fz a) := (rfl)
theorem pair_1 (a b : DL.D) : oIx (.tup [a, b]) (.int 1) = .ok (.fz b) := (rfl)
theorem law_column_is {Mw k : Nat} (hM : Mw ≤ R) (hR : R < 1000) (hk : k < N) (hw : Sq dw (rowD Mw w)) (sW : ∀ k, k < R → ∀ i, i < N → Sml (W k i)) (sw : ∀ k, k < Mw → Sml (w k)) : m_law_column [.lst (rowsI R N W g .lst), dw, .int k] = .ok (.fz (.int (dotF Mw w fun i => W i k))) := by
  refine runD_ok ?_
  have hl : eLc [3] (iA oRng1 (aCons (eA oLen (aCons (eVar 1) aNil)) aNil)) (nName 3) tYesD (e2 oMul (e2 oIx (eVar 1) (eVar 3)) (e2 oIx (e2 oIx (e2 oIx (eVar 0) (eVar 3)) (eC (.int 0))) (eVar 2))) [.fz (.lst (rowsI R N W g .lst)), .fz dw, .fz (.int k), .un] = .ok (.ow (rowD Mw fun i => w i * W i k)) := by
    refine rg_lc (by omega) (by simp) (by simp [hw.len, rng1 (show Mw < 1000000 by omega)]) fun i hi => ?_
    have a1 : oIx dw (.int i) = .ok (.fz (.int (w i))) := by rw [hw.ix, ix_row hi]; rfl
    simp only [wipeE, List.map, List.set, ev_frzF, ev_frzU, ev_e2, ev_vs, ev_v0f, ev_bok, ev_rfz, ev_c, a1, rowsI_ix (show i < R by omega), pair_0, ev_ixL, ix_row hk, ev_oR, ev_pok, mul_ok (sw i hi) (sW i (by omega) k hk)]
  show b_law_column [.fz (.lst (rowsI R N W g .lst)), .fz dw, .fz (.int k), .un] = _
  unfold b_law_column
  simp only [ev_ret, ev_eA, ev_aCons, hl, ev_bok, ev_row, ev_aNil, sum_row, ev_pok, ev_ofM]
  rfl
theorem law_paid_is {Mw : Nat} (hM : Mw ≤ R) (hR : R < 1000) (hw : Sq dw (rowD Mw w)) (sg : ∀ k, k < R → Sml (g k)) (sw : ∀ k, k < Mw → Sml (w k)) : m_law_paid [.lst (rowsI R N W g .lst), dw] = .ok (.fz (.int (dotF Mw w g))) := by
  refine runD_ok ?_
  have hl : eLc [2] (iA oRng1 (aCons (eA oLen (aCons (eVar 1) aNil)) aNil)) (nName 2) tYesD (e2 oMul (e2 oIx (eVar 1) (eVar 2)) (e2 oIx (e2 oIx (eVar 0) (eVar 2)) (eC (.int 1)))) [.fz (.lst (rowsI R N W g .lst)), .fz dw, .un] = .ok (.ow (rowD Mw fun i => w i * g i)) := by
    refine rg_lc (by omega) (by simp) (by simp [hw.len, rng1 (show Mw < 1000000 by omega)]) fun i hi => ?_
    have a1 : oIx dw (.int i) = .ok (.fz (.int (w i))) := by rw [hw.ix, ix_row hi]; rfl
    simp only [wipeE, List.map, List.set, ev_frzF, ev_frzU, ev_e2, ev_vs, ev_v0f, ev_bok, ev_rfz, ev_c, a1, rowsI_ix (show i < R by omega), pair_1, ev_pok, mul_ok (sw i hi) (sg i (by omega))]
  show b_law_paid [.fz (.lst (rowsI R N W g .lst)), .fz dw, .un] = _
  unfold b_law_paid
  simp only [ev_ret, ev_eA, ev_aCons, hl, ev_bok, ev_row, ev_aNil, sum_row, ev_pok, ev_ofM]
  rfl
end
/-! gcd, with a break -/
def bodyEb : DL.Env → DL.So := (sSeq (sIf [3] (tV (e2 (cop .Eq) (eVar 3) (eC (.int 0)))) .bk sNext) (sPar 1 3 [3, 1, 3] (aCons (eVar 3) (aCons (e2 oMod (eA oInt (aCons (eVar 1) aNil)) (eVar 3)) aNil))))
theorem bodyEb_ev {d0 d2 d4 : DL.D} {p : Nat × Nat} (h : 0 < p.2) : bodyEb [.fz d0, .fz (.int p.1), .fz d2, .fz (.int p.2), .fz d4] = .nx [.fz d0, .fz (.int (eu p).1), .fz d2, .fz (.int (eu p).2), .fz d4] := by
  unfold bodyEb
  have hp : ∀ (env : DL.Env) (f : DL.Env → DL.M (List DL.D)) (A : List Nat), sPar 1 3 A f env = ofM (f env) env A fun ds => par2 1 3 (fzAll A env) ds := fun _ _ _ => rfl
  have hne : ¬ ((p.2 : Nat) : Int) = 0 := by omega
  obtain ⟨m1, m2⟩ := eu_pos h
  simp only [ev_seq, ev_if, ev_tV, ev_e2, ev_vs, ev_v0f, ev_bok, ev_c, ev_copEq, ev_rfz, ev_eqI, ev_pok, ev_asB, hne, decide_false, ev_ofM, Bool.false_eq_true, if_false, ev_next, ev_tn, hp, ev_aCons, ev_eA, ev_aNil, ev_int, ev_mod hne, ev_fzCons, ev_fzNil, List.set, List.getD_cons_zero, List.getD_cons_succ, ev_frzF, par2, m1, ← m2]
theorem bodyEb_bk {d0 d2 d4 : DL.D} {a : Nat} : bodyEb [.fz d0, .fz (.int a), .fz d2, .fz (.int 0), .fz d4] = .bk [.fz d0, .fz (.int a), .fz d2, .fz (.int 0), .fz d4] := by
  unfold bodyEb
  simp only [ev_seq, ev_if, ev_tV, ev_e2, ev_vs, ev_v0f, ev_bok, ev_c, ev_copEq, ev_rfz, ev_eqI, ev_pok, ev_asB, decide_true, ev_ofM, if_true, ev_tb]
theorem eu_loopB {n t : Nat} (hn : n = 2 * t) {a b : Nat} (hb2 : b < 2 ^ t) {d0 d2 : DL.D} {o4 : DL.Sl} : ∃ q4, forL (nName 4) bodyEb (rgD n) [.fz d0, .fz (.int a), .fz d2, .fz (.int b), o4] = .nx [.fz d0, .fz (.int (Nat.gcd a b)), .fz d2, .fz (.int 0), q4] := by
  have fin2 : (euN n (a, b)).2 = 0 := by rw [hn]; exact eu_end t _ hb2
  have g : ∀ k, Nat.gcd (euN k (a, b)).1 (euN k (a, b)).2 = Nat.gcd a b := fun k => euN_gcd k (a, b)
  have := forL_gen (t := nName 4) (body := bodyEb) (ds := rgD n) (env := [.fz d0, .fz (.int a), .fz d2, .fz (.int b), o4])
    (fun k e => ∃ q4, e = [.fz d0, .fz (.int (euN k (a, b)).1), .fz d2, .fz (.int (euN k (a, b)).2), q4])
    (fun z => ∃ q4, z = .nx [.fz d0, .fz (.int (Nat.gcd a b)), .fz d2, .fz (.int 0), q4]) ⟨_, rfl⟩ (by
      rintro j d e hd ⟨q4, rfl⟩
      obtain ⟨hj, rfl⟩ := rng_get hd
      refine ⟨_, rfl, ?_⟩
      by_cases h0 : (euN j (a, b)).2 = 0
      · refine .inr (.inr ⟨[.fz d0, .fz (.int (euN j (a, b)).1), .fz d2, .fz (.int 0), .fz (.int j)], ?_, .fz (.int j), ?_⟩)
        · show bodyEb [.fz d0, .fz (.int (euN j (a, b)).1), .fz d2, .fz (.int (euN j (a, b)).2), .fz (.int j)] = _
          rw [h0]
          exact bodyEb_bk
        · have := g j
          rw [h0, Nat.gcd_zero_right] at this
          rw [this]
      · exact .inl ⟨_, .inl (bodyEb_ev (by omega)), .fz (.int j), rfl⟩)
    (fun e ⟨q4, he⟩ => by
      rw [rgD_len] at he
      have := g n
      rw [fin2, Nat.gcd_zero_right] at this
      rw [this, fin2] at he
      exact ⟨q4, by rw [he]; rfl⟩)
  exact this
def bodyCb : DL.Env → DL.So := (sSeq (sSet 3 [2] (eA oAbs (aCons (eVar 2) aNil))) (sFor [3] (iA oRng1 (aCons (e2 oAdd (e2 oMul (eC (.int 2)) (e1 oBits (eVar 3))) (eC (.int 4))) aNil)) (nName 4) bodyEb))
theorem law_common_is {N : Nat} {f : Nat → Int} {d : DL.D} (hN : N < 1000000) (hd : Sq d (rowD N f)) (hf : ∀ i, i < N → Sml (f i)) : m_law_common [d] = .ok (.fz (.int (gcdN f N))) := by
  refine runD_ok ?_
  have hb : b_law_common = (sSeq (sSet 1 [] (eC (.int 0))) (sSeq (sFor [0] (iE iterA (eVar 0)) (nName 2) bodyCb) (sRetV 1))) := rfl
  obtain ⟨e, l, o2, o3, o4, rfl, ho⟩ := forL_nx (t := nName 2) (body := bodyCb) (ds := rowD N f) (env := [.fz d, .fz (.int 0), .un, .un, .un]) (fun k e => ∃ o2 o3 o4, e = [.fz d, .fz (.int (gcdN f k)), o2, o3, o4] ∧ True) ⟨_, _, _, rfl, trivial⟩ (by
    rintro i d' e hd ⟨o2, o3, o4, rfl, -⟩
    obtain ⟨hi, rfl⟩ := rowD_at hd
    refine ⟨_, rfl, ?_⟩
    have h1 := bits_lt (f i).natAbs
    have h2 := bits_le (hf i hi)
    obtain ⟨q4, l2⟩ := eu_loopB (n := 2 * PySem.Builtin.Int.intBits (((f i).natAbs : Nat) : Int) + 4) (t := PySem.Builtin.Int.intBits (((f i).natAbs : Nat) : Int) + 2) (by omega)
      (Nat.lt_of_lt_of_le h1 (Nat.pow_le_pow_right (by omega) (by omega))) (a := gcdN f i) (d0 := d) (d2 := .int (f i)) (o4 := o4)
    refine ⟨[.fz d, .fz (.int (gcdN f (i + 1))), .fz (.int (f i)), .fz (.int 0), q4], .inl ?_, _, _, _, rfl, trivial⟩
    have rr : oRng1 [.int (2 * (PySem.Builtin.Int.intBits (((f i).natAbs : Nat) : Int) : Nat) + 4)] = .ok (rgD (2 * PySem.Builtin.Int.intBits (((f i).natAbs : Nat) : Int) + 4)) := by
      have := rng1 (n := 2 * PySem.Builtin.Int.intBits (((f i).natAbs : Nat) : Int) + 4) (by omega)
      rw [← this]; simp
    have bt : oBits (.int (((f i).natAbs : Nat) : Int)) = .ok (.fz (.int (PySem.Builtin.Int.intBits (((f i).natAbs : Nat) : Int) : Nat))) := rfl
    have m2 : ∀ x : Int, oMul (.int 2) (.int x) = .ok (.fz (.int (2 * x))) := fun x => mul_l (by decide)
    unfold bodyCb
    simp only [List.set, ev_seq, ev_set, ev_eA, ev_aCons, ev_vs, ev_v0f, ev_bok, ev_rfz, ev_aNil, abs_is, ev_pok, ev_ofM, ev_frzInt, ev_sfz, ev_tn, ev_for, ev_iA, ev_c, ev_e2, ev_e1, bt, m2, ev_add, rr, ev_fzCons, ev_fzNil, List.getD_cons_zero, List.getD_cons_succ, ev_frzF]
    exact l2)
  rw [hb]
  rw [rowD_len] at l
  simp only [startE, List.map, List.length, List.replicate, List.cons_append, List.nil_append, ev_seq, ev_set, ev_c, ev_ofM, ev_frzInt, ev_sfz, List.set, ev_tn, ev_for, ev_iE, ev_vs, ev_v0f, ev_bok, ev_rfz, hd.iter, ev_pok, ev_fzCons, ev_fzNil, List.getD_cons_zero, ev_frzF, l, ev_retVs, ev_retVf]
end K03
end

section
set_option maxRecDepth 100000
set_option maxHeartbeats 1000000
/-! The judges: shows and misses. -/
namespace K03
open L2 DL PG LW
theorem min_app {d : DL.D} {N : Nat} {f : Nat → Int} (hN : N < 1000000) (h : Sq d (rowD N f)) {env : DL.Env} {i : Nat} (hv : eVar i env = .ok (.fz d)) : ∃ m, (eA oMin (aCons (e2 oAdd (eA oList (aCons (eVar i) aNil)) (eA oLstD (aCons (eC (.int 0)) aNil))) aNil)) env = .ok (.fz (.int m)) ∧ (m < 0 ↔ ∃ p, p < N ∧ f p < 0) := by
  have l0 : oLstD [.int 0] = .ok (.ow [.int 0]) := lst_ok (by simp)
  have ad : oAdd (.lst (rowD N f)) (.lst [.int 0]) = .ok (.ow (rowD (N + 1) fun i => if i < N then f i else 0)) := by
    show (if (rowD N f).length + ([.int 0] : List DL.D).length ≤ PySem.sizeLine then DL.M.ok (Rs.ow (rowD N f ++ [.int 0])) else .bad) = _
    rw [if_pos (by have := sz; simp; omega), row_one, row_app]
  obtain ⟨m, e, hm⟩ := min_1 (N := N + 1) (f := fun i => if i < N then f i else 0) (by omega) (Sq.l _)
  refine ⟨m, ?_, ?_⟩
  · simp only [ev_eA, ev_aCons, ev_e2, hv, ev_bok, ev_rfz, ev_aNil, h.list, ev_pok, ev_row, ev_c, l0, ad, e]
  · rw [hm]
    constructor
    · rintro ⟨p, hp, hf⟩
      by_cases hpN : p < N
      · exact ⟨p, hpN, by simpa [hpN] using hf⟩
      · simp [hpN] at hf
    · rintro ⟨p, hp, hf⟩
      exact ⟨p, by omega, by simpa [hp] using hf⟩
def sB1 : DL.Env → DL.So := (sIf [5, 3, 6, 2] (tV (e2 (cop .Lt) (eA (oCal 2 m_law_dot) (aCons (eVar 5) (aCons (eVar 3) aNil))) (e2 oMul (eVar 6) (eVar 2)))) (sRet [] (eC (.bl false))) sNext)
def sB2 : DL.Env → DL.So := (sIf [1, 4, 7, 0, 7, 2] (tV (e2 (cop .Gt) (eA (oCal 3 m_law_column) (aCons (eVar 1) (aCons (eVar 4) (aCons (eVar 7) aNil)))) (e2 oMul (e2 oIx (eVar 0) (eVar 7)) (eVar 2)))) (sRet [] (eC (.bl false))) sNext)
def sEnd : DL.Env → DL.So := (sRet [0, 3, 1, 4] (e2 (cop .Eq) (eA (oCal 2 m_law_dot) (aCons (eVar 0) (aCons (eVar 3) aNil))) (eA (oCal 2 m_law_paid) (aCons (eVar 1) (aCons (eVar 4) aNil)))))
def sMn : DL.Env → DL.M Rs := (eA oMin (aCons (e2 oAdd (eA oList (aCons (eVar 4) aNil)) (eA oLstD (aCons (eC (.int 0)) aNil))) aNil))
def sAll : DL.Env → DL.So := (sSeq (sIf [2, 3, 0, 4, 1] (tO (tV (e2 (cop .Lt) (eVar 2) (eC (.int 1)))) (tO (tV (e2 (cop .NotEq) (eA oLen (aCons (eVar 3) aNil)) (eA oLen (aCons (eVar 0) aNil)))) (tV (e2 (cop .NotEq) (eA oLen (aCons (eVar 4) aNil)) (eA oLen (aCons (eVar 1) aNil)))))) (sRet [] (eC (.bl false))) sNext) (sSeq (sIf [3, 4] (tO (tV (e2 (cop .Lt) (eA oMin (aCons (eA oList (aCons (eVar 3) aNil)) aNil)) (eC (.int 0)))) (tV (e2 (cop .Lt) sMn (eC (.int 0))))) (sRet [] (eC (.bl false))) sNext) (sSeq (sFor [1] (iE iterA (eVar 1)) (nTup 2 (nCons (nName 5) (nCons (nName 6) nNil))) sB1) (sSeq (sFor [0] (iA oRng1 (aCons (eA oLen (aCons (eVar 0) aNil)) aNil)) (nName 7) sB2) sEnd))))
section
variable {R N Ny Mw : Nat} {W : Nat → Nat → Int} {g l y w : Nat → Int} {s : Int} {dg dy dw : DL.D}
theorem law_shows_is (hR : R < 1000) (hN0 : 1 ≤ N) (hN : N < 1000) (hg : Sq dg (rowD N l)) (hy : Sq dy (rowD Ny y)) (hw : Sq dw (rowD Mw w)) (hMw : Mw < 10000)
    (sW : ∀ k, k < R → ∀ i, i < N → Sml (W k i)) (sg : ∀ k, k < R → Sml (g k)) (sl : ∀ i, i < N → Sml (l i)) (ss : Sml s) (sy : ∀ i, i < Ny → Sml (y i)) (sw : ∀ k, k < Mw → Sml (w k)) :
    Says (m_law_shows [dg, .lst (rowsI R N W g .lst), .int s, dy, dw]) (Ny = N ∧ Mw = R ∧ Least R N W g l s y w) := by
  have hb : b_law_shows = sAll := rfl
  have fals : ∀ {P : Prop}, ¬ P → (false = true ↔ P) := fun h => by simp [h]
  by_cases hNy : Ny = N
  · subst hNy
    by_cases hMw : Mw = R
    · subst hMw
      by_cases hs1 : s < 1
      · refine ⟨false, runD_ok ?_, fals fun h => by have := h.2.2.s1; omega⟩
        rw [hb]
        unfold sAll
        simp [startE, hs1]
      · obtain ⟨m1, a1, a2⟩ := min_1 hN0 (Sq.l (rowD Ny y))
        obtain ⟨m2, b1, b2⟩ := min_app (show Mw < 1000000 by omega) hw (env := [.fz dg, .fz (.lst (rowsI Mw Ny W g .lst)), .fz (.int s), .fz dy, .fz dw, .un, .un, .un]) (i := 4) rfl
        have b1 : sMn [.fz dg, .fz (.lst (rowsI Mw Ny W g .lst)), .fz (.int s), .fz dy, .fz dw, .un, .un, .un] = .ok (.fz (.int m2)) := b1
        by_cases hm1 : m1 < 0
        · refine ⟨false, runD_ok ?_, fals fun h => ?_⟩
          · rw [hb]
            unfold sAll
            simp [startE, hs1, hy.len, hg.len, hw.len, hy.list, a1, hm1]
          · obtain ⟨p, hp, hf⟩ := a2.mp hm1
            have := h.2.2.ynn p hp
            omega
        · by_cases hm2 : m2 < 0
          · refine ⟨false, runD_ok ?_, fals fun h => ?_⟩
            · rw [hb]
              unfold sAll
              simp [startE, hs1, hy.len, hg.len, hw.len, hy.list, a1, hm1, b1, hm2]
            · obtain ⟨p, hp, hf⟩ := b2.mp hm2
              have := h.2.2.wnn p hp
              omega
          · have ynn : ∀ p, p < Ny → 0 ≤ y p := fun p hp => Int.not_lt.mp fun h => hm1 (a2.mpr ⟨p, hp, h⟩)
            have wnn : ∀ p, p < Mw → 0 ≤ w p := fun p hp => Int.not_lt.mp fun h => hm2 (b2.mpr ⟨p, hp, h⟩)
            have cix : ∀ k : Nat, k < Ny → oIx dg (.int k) = .ok (.fz (.int (l k))) := fun k hk => by
              rw [hg.ix, ix_row hk]; rfl
            have loop1 := forL_gen (t := nTup 2 (nCons (nName 5) (nCons (nName 6) nNil))) (body := sB1) (ds := rowsI Mw Ny W g .lst) (env := [.fz dg, .fz (.lst (rowsI Mw Ny W g .lst)), .fz (.int s), .fz dy, .fz dw, .un, .un, .un])
              (fun i e => (∀ k, k < i → g k * s ≤ dotF Ny (W k) y) ∧ ∃ o5 o6, e = [.fz dg, .fz (.lst (rowsI Mw Ny W g .lst)), .fz (.int s), .fz dy, .fz dw, o5, o6, .un])
              (fun z => (z = .rt (.fz (.bl false)) ∧ ¬ Least Mw Ny W g l s y w) ∨ ∃ o5 o6, z = .nx [.fz dg, .fz (.lst (rowsI Mw Ny W g .lst)), .fz (.int s), .fz dy, .fz dw, o5, o6, .un] ∧ ∀ k, k < Mw → g k * s ≤ dotF Ny (W k) y)
              ⟨fun k hk => by omega, _, _, rfl⟩ (by
                rintro i dd e hdd ⟨good, o5, o6, rfl⟩
                obtain ⟨hi, rfl⟩ := rowsI_at hdd
                have dv := law_dot_is (by omega) (Nat.le_refl Ny) (Sq.l (rowD Ny (W i))) hy (fun j hj => mul_small (sW i hi j hj) (sy j hj))
                have mg := mul_ok (sg i hi) ss
                refine ⟨_, rfl, ?_⟩
                show _ ∨ _
                by_cases q : dotF Ny (W i) y < g i * s
                · refine .inr (.inl ⟨_, ?_, .inl ⟨rfl, fun h => by have := h.reach i hi; omega⟩⟩)
                  unfold sB1
                  simp only [List.set, ev_if, ev_tV, ev_e2, ev_eA, ev_aCons, ev_vs, ev_v0f, ev_bok, ev_rfz, ev_pok, ev_aNil, oCal, List.length_cons, List.length_nil, if_true, dv, mg, ev_copLt, ev_lt, ev_asB, q, decide_true, ev_ofM, ev_ret, ev_c]
                · refine .inl ⟨[.fz dg, .fz (.lst (rowsI Mw Ny W g .lst)), .fz (.int s), .fz dy, .fz dw, .fz (.lst (rowD Ny (W i))), .fz (.int (g i)), .un], .inl ?_, fun k hk => ?_, _, _, rfl⟩
                  · unfold sB1
                    simp only [List.set, ev_if, ev_tV, ev_e2, ev_eA, ev_aCons, ev_vs, ev_v0f, ev_bok, ev_rfz, ev_pok, ev_aNil, oCal, List.length_cons, List.length_nil, if_true, dv, mg, ev_copLt, ev_lt, ev_asB, q, decide_false, ev_ofM, Bool.false_eq_true, if_false, ev_next]
                  · by_cases hki : k = i
                    · rw [hki]; omega
                    · exact good k (by omega))
              (fun e ⟨good, o5, o6, he⟩ => .inr ⟨o5, o6, by rw [he], fun k hk => good k (by simpa using hk)⟩)
            have start : b_law_shows (startE 8 [dg, .lst (rowsI Mw Ny W g .lst), .int s, dy, dw]) = (forL (nTup 2 (nCons (nName 5) (nCons (nName 6) nNil))) sB1 (rowsI Mw Ny W g .lst) [.fz dg, .fz (.lst (rowsI Mw Ny W g .lst)), .fz (.int s), .fz dy, .fz dw, .un, .un, .un]).andThen (sSeq (sFor [0] (iA oRng1 (aCons (eA oLen (aCons (eVar 0) aNil)) aNil)) (nName 7) sB2) sEnd) := by
              rw [hb]
              unfold sAll
              simp [startE, hs1, hy.len, hg.len, hw.len, hy.list, a1, hm1, b1, hm2]
            rcases loop1 with ⟨l1, nk⟩ | ⟨o5, o6, l1, reach⟩
            · exact ⟨false, runD_ok (by rw [start, l1]; simp), fals fun h => nk h.2.2⟩
            · have loop2 := forL_gen (t := nName 7) (body := sB2) (ds := rgD Ny) (env := [.fz dg, .fz (.lst (rowsI Mw Ny W g .lst)), .fz (.int s), .fz dy, .fz dw, o5, o6, .un])
                (fun i e => (∀ p, p < i → dotF Mw w (fun k => W k p) ≤ l p * s) ∧ ∃ o7, e = [.fz dg, .fz (.lst (rowsI Mw Ny W g .lst)), .fz (.int s), .fz dy, .fz dw, o5, o6, o7])
                (fun z => (z = .rt (.fz (.bl false)) ∧ ¬ Least Mw Ny W g l s y w) ∨ ∃ o7, z = .nx [.fz dg, .fz (.lst (rowsI Mw Ny W g .lst)), .fz (.int s), .fz dy, .fz dw, o5, o6, o7] ∧ ∀ p, p < Ny → dotF Mw w (fun k => W k p) ≤ l p * s)
                ⟨fun k hk => by omega, _, rfl⟩ (by
                  rintro i dd e hdd ⟨good, o7, rfl⟩
                  obtain ⟨hi, rfl⟩ := rng_get hdd
                  have cv := law_column_is (g := g) (Nat.le_refl Mw) hR hi hw sW sw
                  have ml := mul_ok (sl i hi) ss
                  refine ⟨_, rfl, ?_⟩
                  show _ ∨ _
                  by_cases q : l i * s < dotF Mw w (fun k => W k i)
                  · refine .inr (.inl ⟨_, ?_, .inl ⟨rfl, fun h => by have := h.within i hi; omega⟩⟩)
                    unfold sB2
                    simp only [List.set, ev_if, ev_tV, ev_e2, ev_eA, ev_aCons, ev_vs, ev_v0f, ev_bok, ev_rfz, ev_pok, ev_aNil, oCal, List.length_cons, List.length_nil, if_true, cv, cix i hi, ml, ev_copGt, ev_gt, ev_asB, q, decide_true, ev_ofM, ev_ret, ev_c]
                  · refine .inl ⟨[.fz dg, .fz (.lst (rowsI Mw Ny W g .lst)), .fz (.int s), .fz dy, .fz dw, o5, o6, .fz (.int i)], .inl ?_, fun k hk => ?_, _, rfl⟩
                    · unfold sB2
                      simp only [List.set, ev_if, ev_tV, ev_e2, ev_eA, ev_aCons, ev_vs, ev_v0f, ev_bok, ev_rfz, ev_pok, ev_aNil, oCal, List.length_cons, List.length_nil, if_true, cv, cix i hi, ml, ev_copGt, ev_gt, ev_asB, q, decide_false, ev_ofM, Bool.false_eq_true, if_false, ev_next]
                    · by_cases hki : k = i
                      · rw [hki]; omega
                      · exact good k (by omega))
                (fun e ⟨good, o7, he⟩ => .inr ⟨o7, by rw [he], fun k hk => good k (by simpa using hk)⟩)
              have go : (sSeq (sFor [0] (iA oRng1 (aCons (eA oLen (aCons (eVar 0) aNil)) aNil)) (nName 7) sB2) sEnd) [.fz dg, .fz (.lst (rowsI Mw Ny W g .lst)), .fz (.int s), .fz dy, .fz dw, o5, o6, .un] = (forL (nName 7) sB2 (rgD Ny) [.fz dg, .fz (.lst (rowsI Mw Ny W g .lst)), .fz (.int s), .fz dy, .fz dw, o5, o6, .un]).andThen sEnd := by
                simp [hg.len, rng1 (show Ny < 1000000 by omega)]
              rcases loop2 with ⟨l2, nk⟩ | ⟨o7, l2, within⟩
              · exact ⟨false, runD_ok (by rw [start, l1, ev_tn, go, l2]; simp), fals fun h => nk h.2.2⟩
              · have dd1 := law_dot_is (show Ny < 1000000 by omega) (Nat.le_refl Ny) hg hy (fun k hk => mul_small (sl k hk) (sy k hk))
                have dd2 := law_paid_is (N := Ny) (W := W) (Nat.le_refl Mw) hR hw sg sw
                refine ⟨decide (dotF Ny l y = dotF Mw w g), runD_ok ?_, ?_⟩
                · rw [start, l1, ev_tn, go, l2, ev_tn]
                  unfold sEnd
                  simp only [ev_ret, ev_e2, ev_eA, ev_aCons, ev_vs, ev_v0f, ev_bok, ev_rfz, ev_aNil, oCal, List.length_cons, List.length_nil, if_true, dd1, dd2, ev_pok, ev_copEq, ev_eqI, ev_ofM]
                · rw [decide_eq_true_eq]
                  exact ⟨fun h => ⟨rfl, rfl, by omega, ynn, wnn, reach, within, h⟩, fun h => h.2.2.total⟩
    · refine ⟨false, runD_ok ?_, fals fun h => hMw h.2.1⟩
      rw [hb]
      unfold sAll
      have : ¬ (Mw : Int) = R := by omega
      by_cases hs1 : s < 1
      · simp [startE, hs1]
      · simp [startE, hs1, hy.len, hg.len, hw.len, this]
  · refine ⟨false, runD_ok ?_, fals fun h => hNy h.1⟩
    rw [hb]
    unfold sAll
    have : ¬ (Ny : Int) = N := by omega
    by_cases hs1 : s < 1
    · simp [startE, hs1]
    · simp [startE, hs1, hy.len, hg.len, this]
/-! misses -/
def lB : DL.Env → DL.So := (sIf [0, 2, 3] (tV (e2 (cop .Gt) (eA (oCal 3 m_law_column) (aCons (eVar 0) (aCons (eVar 2) (aCons (eVar 3) aNil)))) (eC (.int 0)))) (sRet [] (eC (.bl false))) sNext)
def lMn : DL.Env → DL.M Rs := (eA oMin (aCons (e2 oAdd (eA oList (aCons (eVar 2) aNil)) (eA oLstD (aCons (eC (.int 0)) aNil))) aNil))
theorem law_misses_is (hR : R < 1000) (hN : N < 1000) (hw : Sq dw (rowD Mw w)) (hMw : Mw < 10000)
    (sW : ∀ k, k < R → ∀ i, i < N → Sml (W k i)) (sg : ∀ k, k < R → Sml (g k)) (sw : ∀ k, k < Mw → Sml (w k)) :
    Says (m_law_misses [.lst (rowsI R N W g .lst), .int N, dw]) (Mw = R ∧ Misses R N W g w) := by
  have hb : b_law_misses = (sSeq (sIf [2, 0, 2] (tO (tV (e2 (cop .NotEq) (eA oLen (aCons (eVar 2) aNil)) (eA oLen (aCons (eVar 0) aNil)))) (tV (e2 (cop .Lt) lMn (eC (.int 0))))) (sRet [] (eC (.bl false))) sNext) (sSeq (sFor [1] (iA oRng1 (aCons (eVar 1) aNil)) (nName 3) lB) (sRet [0, 2] (e2 (cop .Gt) (eA (oCal 2 m_law_paid) (aCons (eVar 0) (aCons (eVar 2) aNil))) (eC (.int 0)))))) := rfl
  have fals : ∀ {P : Prop}, ¬ P → (false = true ↔ P) := fun h => by simp [h]
  by_cases hMw : Mw = R
  · subst hMw
    obtain ⟨m2, b1, b2⟩ := min_app (show Mw < 1000000 by omega) hw (env := [.fz (.lst (rowsI Mw N W g .lst)), .fz (.int N), .fz dw, .un]) (i := 2) rfl
    have b1 : lMn [.fz (.lst (rowsI Mw N W g .lst)), .fz (.int N), .fz dw, .un] = .ok (.fz (.int m2)) := b1
    by_cases hm2 : m2 < 0
    · refine ⟨false, runD_ok ?_, fals fun h => ?_⟩
      · rw [hb]
        simp [startE, hw.len, b1, hm2]
      · obtain ⟨p, hp, hf⟩ := b2.mp hm2
        have := h.2.wnn p hp
        omega
    · have wnn : ∀ p, p < Mw → 0 ≤ w p := fun p hp => Int.not_lt.mp fun h => hm2 (b2.mpr ⟨p, hp, h⟩)
      have loop := forL_gen (t := nName 3) (body := lB) (ds := rgD N) (env := [.fz (.lst (rowsI Mw N W g .lst)), .fz (.int N), .fz dw, .un])
        (fun i e => (∀ p, p < i → dotF Mw w (fun k => W k p) ≤ 0) ∧ ∃ o3, e = [.fz (.lst (rowsI Mw N W g .lst)), .fz (.int N), .fz dw, o3])
        (fun z => (z = .rt (.fz (.bl false)) ∧ ¬ Misses Mw N W g w) ∨ ∃ o3, z = .nx [.fz (.lst (rowsI Mw N W g .lst)), .fz (.int N), .fz dw, o3] ∧ ∀ p, p < N → dotF Mw w (fun k => W k p) ≤ 0)
        ⟨fun k hk => by omega, _, rfl⟩ (by
          rintro i dd e hdd ⟨good, o3, rfl⟩
          obtain ⟨hi, rfl⟩ := rng_get hdd
          have cv := law_column_is (g := g) (Nat.le_refl Mw) hR hi hw sW sw
          refine ⟨_, rfl, ?_⟩
          show _ ∨ _
          by_cases q : 0 < dotF Mw w (fun k => W k i)
          · refine .inr (.inl ⟨_, ?_, .inl ⟨rfl, fun h => by have := h.sum i hi; omega⟩⟩)
            unfold lB
            simp only [List.set, ev_if, ev_tV, ev_e2, ev_eA, ev_aCons, ev_vs, ev_v0f, ev_bok, ev_rfz, ev_pok, ev_aNil, oCal, List.length_cons, List.length_nil, if_true, cv, ev_copGt, ev_gt, ev_asB, q, decide_true, ev_ofM, ev_ret, ev_c]
          · refine .inl ⟨[.fz (.lst (rowsI Mw N W g .lst)), .fz (.int N), .fz dw, .fz (.int i)], .inl ?_, fun k hk => ?_, _, rfl⟩
            · unfold lB
              simp only [List.set, ev_if, ev_tV, ev_e2, ev_eA, ev_aCons, ev_vs, ev_v0f, ev_bok, ev_rfz, ev_pok, ev_aNil, oCal, List.length_cons, List.length_nil, if_true, cv, ev_c, ev_copGt, ev_gt, ev_asB, q, decide_false, ev_ofM, Bool.false_eq_true, if_false, ev_next]
            · by_cases hki : k = i
              · rw [hki]; omega
              · exact good k (by omega))
        (fun e ⟨good, o3, he⟩ => .inr ⟨o3, by rw [he], fun k hk => good k (by simpa using hk)⟩)
      have start : b_law_misses (startE 4 [.lst (rowsI Mw N W g .lst), .int N, dw]) = (forL (nName 3) lB (rgD N) [.fz (.lst (rowsI Mw N W g .lst)), .fz (.int N), .fz dw, .un]).andThen (sRet [0, 2] (e2 (cop .Gt) (eA (oCal 2 m_law_paid) (aCons (eVar 0) (aCons (eVar 2) aNil))) (eC (.int 0)))) := by
        rw [hb]
        simp [startE, hw.len, b1, hm2, rng1 (show N < 1000000 by omega)]
      rcases loop with ⟨l1, nk⟩ | ⟨o3, l1, sums⟩
      · exact ⟨false, runD_ok (by rw [start, l1]; simp), fals fun h => nk h.2⟩
      · have dd2 := law_paid_is (N := N) (W := W) (Nat.le_refl Mw) hR hw sg sw
        refine ⟨decide (0 < dotF Mw w g), runD_ok ?_, ?_⟩
        · rw [start, l1, ev_tn]
          simp only [ev_ret, ev_e2, ev_eA, ev_aCons, ev_vs, ev_v0f, ev_bok, ev_rfz, ev_aNil, oCal, List.length_cons, List.length_nil, if_true, dd2, ev_pok, ev_c, ev_copGt, ev_gt, ev_ofM]
        · rw [decide_eq_true_eq]
          exact ⟨fun h => ⟨rfl, wnn, sums, h⟩, fun h => h.2.pos⟩
  · refine ⟨false, runD_ok ?_, fals fun h => hMw h.1⟩
    rw [hb]
    have : ¬ (Mw : Int) = R := by omega
    simp [startE, hw.len, this]
def mC1 : DL.Env → DL.M Rs := (eLc [4, 5, 6] (iA oZip (aCons (eVar 0) (aCons (eVar 2) aNil))) (nTup 2 (nCons (nTup 2 (nCons (nName 4) (nCons (nName 5) nNil))) (nCons (nName 6) nNil))) tYesD (e2 oMul (eVar 6) (e2 oIx (eVar 4) (eVar 3))))
def mC2 : DL.Env → DL.M Rs := (eLc [4, 5, 6] (iA oZip (aCons (eVar 0) (aCons (eVar 2) aNil))) (nTup 2 (nCons (nTup 2 (nCons (nName 4) (nCons (nName 5) nNil))) (nCons (nName 6) nNil))) tYesD (e2 oMul (eVar 6) (eVar 5)))
def mB : DL.Env → DL.So := (sIf (List.range 64) (tV (e2 (cop .Gt) (eA oSum (aCons mC1 aNil)) (eC (.int 0)))) (sRet [] (eC (.bl false))) sNext)
theorem misses_is (hR : R < 1000) (hN : N < 1000) (hw : Sq dw (rowD Mw w)) (hMw : Mw < 10000)
    (sW : ∀ k, k < R → ∀ i, i < N → Sml (W k i)) (sg : ∀ k, k < R → Sml (g k)) (sw : ∀ k, k < Mw → Sml (w k)) :
    Says (m_misses [.lst (rowsI R N W g .lst), .int N, dw]) (Mw = R ∧ Misses R N W g w) := by
  have hb : b_misses = (sSeq (sIf [2, 0, 2] (tO (tV (e2 (cop .NotEq) (eA oLen (aCons (eVar 2) aNil)) (eA oLen (aCons (eVar 0) aNil)))) (tV (e2 (cop .Lt) (e2 oMinDf (eVar 2) (eC (.int 0))) (eC (.int 0))))) (sRet [] (eC (.bl false))) sNext) (sSeq (sFor [1] (iA oRng1 (aCons (eVar 1) aNil)) (nName 3) mB) (sRet (List.range 64) (e2 (cop .Gt) (eA oSum (aCons mC2 aNil)) (eC (.int 0)))))) := rfl
  have fals : ∀ {P : Prop}, ¬ P → (false = true ↔ P) := fun h => by simp [h]
  by_cases hMw : Mw = R
  · subst hMw
    obtain ⟨m2, b1, b2⟩ := min_df hw
    by_cases hm2 : m2 < 0
    · refine ⟨false, runD_ok ?_, fals fun h => ?_⟩
      · rw [hb]
        simp [startE, hw.len, b1, hm2]
      · obtain ⟨p, hp, hf⟩ := b2.mp hm2
        have := h.2.wnn p hp
        omega
    · have wnn : ∀ p, p < Mw → 0 ≤ w p := fun p hp => Int.not_lt.mp fun h => hm2 (b2.mpr ⟨p, hp, h⟩)
      have c1 : ∀ (i : Nat), i < N → mC1 [.fz (.lst (rowsI Mw N W g .lst)), .fz (.int N), .fz dw, .fz (.int i), .un, .un, .un] = .ok (.ow (rowD Mw fun k => w k * W k i)) := fun i hi => by
        refine ev_lc (ds := (List.range Mw).map fun k => D.tup [.tup [.lst (rowD N (W k)), .int (g k)], .int (w k)]) (by simp) ?_ ?_ (.inr (by simp; omega))
        · simp [oZip, hw.seq, (Sq.l (rowsI Mw N W g .lst)).seq, zip_rowsI]
        · refine lcL_map (List.range Mw) _ (fun k => .int (w k * W k i)) fun k hk => ?_
          have hk := List.mem_range.mp hk
          refine ⟨_, .fz (.int (w k * W k i)), rfl, rfl, ?_, rfl⟩
          simp [wipeE, mul_ok (sw k hk) (sW k hk i hi), ix_row hi]
      have c2 : ∀ d3, mC2 [.fz (.lst (rowsI Mw N W g .lst)), .fz (.int N), .fz dw, d3, .un, .un, .un] = .ok (.ow (rowD Mw fun k => w k * g k)) := fun d3 => by
        refine ev_lc (ds := (List.range Mw).map fun k => D.tup [.tup [.lst (rowD N (W k)), .int (g k)], .int (w k)]) (by simp) ?_ ?_ (.inr (by simp; omega))
        · simp [oZip, hw.seq, (Sq.l (rowsI Mw N W g .lst)).seq, zip_rowsI]
        · refine lcL_map (List.range Mw) _ (fun k => .int (w k * g k)) fun k hk => ?_
          have hk := List.mem_range.mp hk
          refine ⟨_, .fz (.int (w k * g k)), rfl, rfl, ?_, rfl⟩
          simp [wipeE, mul_ok (sw k hk) (sg k hk)]
      have loop := forL_gen (t := nName 3) (body := mB) (ds := rgD N) (env := [.fz (.lst (rowsI Mw N W g .lst)), .fz (.int N), .fz dw, .un, .un, .un, .un])
        (fun i e => (∀ p, p < i → dotF Mw w (fun k => W k p) ≤ 0) ∧ ∃ o3, e = [.fz (.lst (rowsI Mw N W g .lst)), .fz (.int N), .fz dw, o3, .un, .un, .un])
        (fun z => (z = .rt (.fz (.bl false)) ∧ ¬ Misses Mw N W g w) ∨ ∃ o3, z = .nx [.fz (.lst (rowsI Mw N W g .lst)), .fz (.int N), .fz dw, o3, .un, .un, .un] ∧ ∀ p, p < N → dotF Mw w (fun k => W k p) ≤ 0)
        ⟨fun k hk => by omega, _, rfl⟩ (by
          rintro i dd e hdd ⟨good, o3, rfl⟩
          obtain ⟨hi, rfl⟩ := rng_get hdd
          have cv := c1 i hi
          refine ⟨_, rfl, ?_⟩
          show _ ∨ _
          by_cases q : 0 < Sx.sm Mw (fun k => w k * W k i)
          · refine .inr (.inl ⟨_, ?_, .inl ⟨rfl, fun h => by have := h.sum i hi; unfold dotF at this; simp only at this; omega⟩⟩)
            unfold mB
            simp only [List.set, ev_if, ev_tV, ev_e2, ev_eA, ev_aCons, cv, ev_bok, ev_row, ev_rfz, ev_pok, ev_aNil, sum_row, ev_copGt, ev_gt, ev_asB, q, decide_true, ev_ofM, if_true, ev_ret, ev_c]
          · refine .inl ⟨[.fz (.lst (rowsI Mw N W g .lst)), .fz (.int N), .fz dw, .fz (.int i), .un, .un, .un], .inl ?_, fun k hk => ?_, _, rfl⟩
            · unfold mB
              simp only [List.set, ev_if, ev_tV, ev_e2, ev_eA, ev_aCons, cv, ev_bok, ev_row, ev_rfz, ev_pok, ev_aNil, sum_row, ev_copGt, ev_gt, ev_asB, q, decide_false, ev_ofM, Bool.false_eq_true, if_false, ev_next, ev_c]
            · by_cases hki : k = i
              · rw [hki]; exact Int.not_lt.mp q
              · exact good k (by omega))
        (fun e ⟨good, o3, he⟩ => .inr ⟨o3, by rw [he], fun k hk => good k (by simpa using hk)⟩)
      have start : b_misses (startE 7 [.lst (rowsI Mw N W g .lst), .int N, dw]) = (forL (nName 3) mB (rgD N) [.fz (.lst (rowsI Mw N W g .lst)), .fz (.int N), .fz dw, .un, .un, .un, .un]).andThen (sRet (List.range 64) (e2 (cop .Gt) (eA oSum (aCons mC2 aNil)) (eC (.int 0)))) := by
        rw [hb]
        simp [startE, hw.len, b1, hm2, rng1 (show N < 1000000 by omega)]
      rcases loop with ⟨l1, nk⟩ | ⟨o3, l1, sums⟩
      · exact ⟨false, runD_ok (by rw [start, l1]; simp), fals fun h => nk h.2⟩
      · refine ⟨decide (0 < Sx.sm Mw fun k => w k * g k), runD_ok ?_, ?_⟩
        · rw [start, l1, ev_tn]
          simp only [ev_ret, ev_e2, ev_eA, ev_aCons, c2, ev_bok, ev_row, ev_rfz, ev_aNil, sum_row, ev_pok, ev_c, ev_copGt, ev_gt, ev_ofM]
        · rw [decide_eq_true_eq]
          exact ⟨fun h => ⟨rfl, wnn, sums, h⟩, fun h => h.2.pos⟩
  · refine ⟨false, runD_ok ?_, fals fun h => hMw h.1⟩
    rw [hb]
    have : ¬ (Mw : Int) = R := by omega
    simp [startE, hw.len, this]
end
end K03
end

section
set_option maxRecDepth 100000
set_option maxHeartbeats 1000000
/-! _law_word, _law_asked. -/
namespace K03
open L2 DL PG LW
theorem fac_small : ∀ n, n < 26 → Sx.fac n < 2 ^ 84 := by decide +kernel
theorem B_small {N : Nat} (h : N ≤ 24) : Sx.fac (N + 1) * (2 ^ 60) ^ (N + 1) < 2 ^ 1584 := by
  have f := fac_small (N + 1) (by omega)
  rw [← Nat.pow_mul]
  have a : Sx.fac (N + 1) * 2 ^ (60 * (N + 1)) < 2 ^ 84 * 2 ^ (60 * (N + 1)) := Nat.mul_lt_mul_of_pos_right f (Nat.two_pow_pos _)
  rw [← Nat.pow_add] at a
  exact Nat.lt_of_lt_of_le a (Nat.pow_le_pow_right (by omega) (by omega))
structure Task (R N : Nat) (W : Nat → Nat → Int) (g l : Nat → Int) : Prop where
  rR : R < 100
  n1 : 1 ≤ N
  nN : N ≤ 24
  wb : ∀ k, k < R → ∀ i, i < N → Bd 60 (W k i)
  gb : ∀ k, k < R → Bd 60 (g k)
  l0 : ∀ i, i < N → 0 ≤ l i
  lb : ∀ i, i < N → Bd 60 (l i)
theorem add_tup {a b : List DL.D} (h : a.length + b.length < 1000000) : oAdd (.tup a) (.tup b) = .ok (.fz (.tup (a ++ b))) := by
  show (if a.length + b.length ≤ PySem.sizeLine then DL.M.ok (Rs.fz (.tup (a ++ b))) else .bad) = _
  rw [if_pos (by have := sz; omega)]
theorem jn_gcd {N R : Nat} {s : Int} {y w : Nat → Int} (one : ∀ d : Nat, d ∣ s.natAbs → (∀ p, p < N → d ∣ (y p).natAbs) → (∀ k, k < R → d ∣ (w k).natAbs) → d = 1) : gcdN (jn N s y w) (1 + N + R) = 1 := by
  refine one _ ?_ (fun p hp => ?_) fun k hk => ?_
  · have := gcd_dvd (f := jn N s y w) (N := 1 + N + R) (i := 0) (by omega)
    have e : jn N s y w 0 = s := by simp only [jn]; rw [if_pos (by omega), if_pos (by omega)]
    rwa [e] at this
  · have := gcd_dvd (f := jn N s y w) (N := 1 + N + R) (i := p + 1) (by omega)
    have e : jn N s y w (p + 1) = y p := by simp only [jn]; rw [if_pos (by omega), if_neg (by omega)]; rfl
    rwa [e] at this
  · have := gcd_dvd (f := jn N s y w) (N := 1 + N + R) (i := k + (N + 1)) (by omega)
    have e : jn N s y w (k + (N + 1)) = w k := by simp only [jn]; rw [if_neg (by omega)]; congr 1; omega
    rwa [e] at this
theorem jn_sml {N R : Nat} {s : Int} {y w : Nat → Int} (hs : Sml s) (hy : ∀ i, i < N → Sml (y i)) (hw : ∀ i, i < R → Sml (w i)) : ∀ i, i < 1 + N + R → Sml (jn N s y w i) := fun i hi => by
  unfold jn
  split
  · split
    · exact hs
    · exact hy _ (by omega)
  · exact hw _ (by omega)
section
variable {R N : Nat} {W : Nat → Nat → Int} {g l y w : Nat → Int} {s : Int}
theorem word_least (T : Task R N W g l) (L : Least R N W g l s y w) (one : ∀ d : Nat, d ∣ s.natAbs → (∀ p, p < N → d ∣ (y p).natAbs) → (∀ k, k < R → d ∣ (w k).natAbs) → d = 1) (bs : Sml s) (by_ : ∀ i, i < N → Sml (y i)) (bw : ∀ i, i < R → Sml (w i)) :
    m_law_word [.lst (rowD N l), .lst (rowsI R N W g .lst), .tup [.str "least", .int s, .tup (rowD N y), .tup (rowD R w)]] = .ok (.fz (.str "least")) := by
  have hN := T.nN
  have hR := T.rR
  have i1 : ∀ ds, oIsi "tuple" (.tup ds) = .ok (.fz (.bl true)) := fun _ => rfl
  have i2 : ∀ x, oIsi "str" (.str x) = .ok (.fz (.bl true)) := fun _ => rfl
  have q4 : oLen [.tup [.str "least", .int s, .tup (rowD N y), .tup (rowD R w)]] = .ok (.fz (.int 4)) := rfl
  have nn : oInI true (.int 4) (.tup [.int 2, .int 4]) = .ok (.fz (.bl false)) := rfl
  have t0 : oIx (.tup [.str "least", .int s, .tup (rowD N y), .tup (rowD R w)]) (.int 0) = .ok (.fz (.str "least")) := rfl
  have t1 : oIx (.tup [.str "least", .int s, .tup (rowD N y), .tup (rowD R w)]) (.int 1) = .ok (.fz (.int s)) := rfl
  have t2 : oIx (.tup [.str "least", .int s, .tup (rowD N y), .tup (rowD R w)]) (.int 2) = .ok (.fz (.tup (rowD N y))) := rfl
  have t3 : oIx (.tup [.str "least", .int s, .tup (rowD N y), .tup (rowD R w)]) (.int 3) = .ok (.fz (.tup (rowD R w))) := rfl
  have tm : oIx (.tup [.str "least", .int s, .tup (rowD N y), .tup (rowD R w)]) (.int (-1)) = .ok (.fz (.tup (rowD R w))) := rfl
  have qN : oLen [.lst (rowD N l)] = .ok (.fz (.int N)) := by rw [ev_lenL, rowD_len]
  have qR : oLen [.lst (rowsI R N W g .lst)] = .ok (.fz (.int R)) := by rw [ev_lenL, rowsI_len]
  have ns : decide (PySem.Str.ofString "least" = PySem.Str.ofString "none") = false := by decide
  have n1 : m_law_integers [.tup [.int s], .int 1, .int 1] = .ok (.fz (.bl true)) := law_integers_is (N := 1) (f := fun _ => s) (low := 1) fun _ _ => L.s1
  have n2 : m_law_integers [.tup (rowD N y), .int N, .int 0] = .ok (.fz (.bl true)) := law_integers_is L.ynn
  have n3 : m_law_integers [.tup (rowD R w), .int R, .int 0] = .ok (.fz (.bl true)) := law_integers_is L.wnn
  have a1 : oAdd (.tup [.int s]) (.tup (rowD N y)) = .ok (.fz (.tup ([.int s] ++ rowD N y))) := add_tup (by simp; omega)
  have a2 : oAdd (.tup ([.int s] ++ rowD N y)) (.tup (rowD R w)) = .ok (.fz (.tup (rowD (1 + N + R) (jn N s y w)))) := by
    rw [add_tup (by simp; omega), jn_row]
  have co := law_common_is (N := 1 + N + R) (f := jn N s y w) (by omega) (Sq.t _) (jn_sml bs by_ bw)
  rw [jn_gcd one] at co
  have co : m_law_common [.tup (rowD (1 + N + R) (jn N s y w))] = .ok (.fz (.int 1)) := co
  have sh := (law_shows_is (by omega) T.n1 (by omega) (Sq.l (rowD N l)) (Sq.t (rowD N y)) (Sq.t (rowD R w)) (by omega) (fun k hk i hi => (T.wb k hk i hi).sml (by omega)) (fun k hk => (T.gb k hk).sml (by omega)) (fun k hk => (T.lb k hk).sml (by omega)) bs by_ bw).t ⟨rfl, rfl, L⟩
  refine runD_ok ?_
  show b_law_word [.fz (.lst (rowD N l)), .fz (.lst (rowsI R N W g .lst)), .fz (.tup [.str "least", .int s, .tup (rowD N y), .tup (rowD R w)])] = _
  unfold b_law_word
  simp only [ev_seq, ev_if, ev_tO, ev_tN, ev_tAn, ev_tV, ev_e1, ev_e2, ev_eA, ev_aCons, ev_aNil, ev_vs, ev_v0f, ev_bok, ev_rfz, ev_c, ev_pok, i1, ev_asB, Bool.not_true, Bool.false_eq_true, if_false, q4, tup_2, nn, t0, i2, ev_ofM, ev_next, ev_tn, ev_neg, tm, qR, oCal, List.length_cons, List.length_nil, if_true, n3, ev_copEq, ev_eqS, ns, ev_copNe, ev_neS, decide_true, ev_neI, t1, tup_1, n1, t2, t3, qN, n2, a1, a2, co, sh, ev_ret, ev_tr]
theorem word_none (T : Task R N W g l) (L : Misses R N W g w) (one : gcdN w R < 2) (bw : ∀ i, i < R → Sml (w i)) :
    m_law_word [.lst (rowD N l), .lst (rowsI R N W g .lst), .tup [.str "none", .tup (rowD R w)]] = .ok (.fz (.str "none")) := by
  have hN := T.nN
  have hR := T.rR
  have i1 : ∀ ds, oIsi "tuple" (.tup ds) = .ok (.fz (.bl true)) := fun _ => rfl
  have i2 : ∀ x, oIsi "str" (.str x) = .ok (.fz (.bl true)) := fun _ => rfl
  have q4 : oLen [.tup [.str "none", .tup (rowD R w)]] = .ok (.fz (.int 2)) := rfl
  have nn : oInI true (.int 2) (.tup [.int 2, .int 4]) = .ok (.fz (.bl false)) := rfl
  have t0 : oIx (.tup [.str "none", .tup (rowD R w)]) (.int 0) = .ok (.fz (.str "none")) := rfl
  have t1 : oIx (.tup [.str "none", .tup (rowD R w)]) (.int 1) = .ok (.fz (.tup (rowD R w))) := rfl
  have tm : oIx (.tup [.str "none", .tup (rowD R w)]) (.int (-1)) = .ok (.fz (.tup (rowD R w))) := rfl
  have qN : oLen [.lst (rowD N l)] = .ok (.fz (.int N)) := by rw [ev_lenL, rowD_len]
  have qR : oLen [.lst (rowsI R N W g .lst)] = .ok (.fz (.int R)) := by rw [ev_lenL, rowsI_len]
  have n3 : m_law_integers [.tup (rowD R w), .int R, .int 0] = .ok (.fz (.bl true)) := law_integers_is L.wnn
  have g1 : gcdN w R = 1 := by
    refine Classical.byContradiction fun h => ?_
    have h0 : gcdN w R = 0 := by omega
    have z : ∀ k, k < R → w k = 0 := fun k hk => by
      have := gcd_dvd (f := w) (N := R) hk
      rw [h0] at this
      have := Nat.eq_zero_of_zero_dvd this
      omega
    have p := L.pos
    unfold dotF at p
    rw [Sx.sm_zero fun k hk => by rw [z k hk, Int.zero_mul]] at p
    omega
  have co := law_common_is (N := R) (f := w) (by omega) (Sq.t _) bw
  rw [g1] at co
  have co : m_law_common [.tup (rowD R w)] = .ok (.fz (.int 1)) := co
  have sh := (law_misses_is (show R < 1000 by omega) (show N < 1000 by omega) (Sq.t (rowD R w)) (by omega) (fun k hk i hi => (T.wb k hk i hi).sml (by omega)) (fun k hk => (T.gb k hk).sml (by omega)) bw).t ⟨rfl, L⟩
  refine runD_ok ?_
  show b_law_word [.fz (.lst (rowD N l)), .fz (.lst (rowsI R N W g .lst)), .fz (.tup [.str "none", .tup (rowD R w)])] = _
  unfold b_law_word
  simp only [ev_seq, ev_if, ev_tO, ev_tN, ev_tAn, ev_tV, ev_e1, ev_e2, ev_eA, ev_aCons, ev_aNil, ev_vs, ev_v0f, ev_bok, ev_rfz, ev_c, ev_pok, i1, ev_asB, Bool.not_true, Bool.false_eq_true, if_false, q4, tup_2, nn, t0, i2, ev_ofM, ev_next, ev_tn, ev_neg, tm, qR, oCal, List.length_cons, List.length_nil, if_true, n3, ev_copEq, ev_eqS, decide_true, ev_eqI, t1, co, qN, sh, ev_ret, ev_tr]
end
section
variable {R N : Nat} {W : Nat → Nat → Int} {g l : Nat → Int} {nb : Nat → Int}
def akL (i : Nat) : DL.Env → DL.M Rs := (eLc [8, 9] (iE iterA (eVar i)) (nTup 2 (nCons (nName 8) (nCons (nName 9) nNil))) tYesD (eA oTupD (aCons (eA oList (aCons (eVar 8) aNil)) (aCons (eVar 9) aNil))))
def akT (i : Nat) : DL.Env → DL.M Rs := (eLc [8, 9] (iE iterA (eVar i)) (nTup 2 (nCons (nName 8) (nCons (nName 9) nNil))) tYesD (eA oTupD (aCons (eA oTuple (aCons (eVar 8) aNil)) (aCons (eVar 9) aNil))))
theorem akL_is {c : List DL.D → DL.D} (hc : ∀ ds, oList [c ds] = .ok (.ow ds)) (hR : R < 1000) {i : Nat} {env : DL.Env} (h : env.length ≤ 64) (hv : eVar i env = .ok (.fz (.lst (rowsI R N W g c)))) (hx : ∀ k, k < R → (eA oTupD (aCons (eA oList (aCons (eVar 8) aNil)) (aCons (eVar 9) aNil))) ((((wipeE (env.map Sl.frz) [8, 9]).set 8 (.fz (c (rowD N (W k))))).set 9 (.fz (.int (g k))))) = .ok (.fz (.tup [.lst (rowD N (W k)), .int (g k)]))) :
    akL i env = .ok (.ow (rowsI R N W g .lst)) := by
  refine ev_lc (ds := rowsI R N W g c) h (by simp [hv]) ?_ (.inr (by simp; omega))
  refine lcL_map (List.range R) _ (fun k => .tup [.lst (rowD N (W k)), .int (g k)]) fun k hk => ?_
  have hk := List.mem_range.mp hk
  exact ⟨_, .fz (.tup [.lst (rowD N (W k)), .int (g k)]), rfl, rfl, hx k hk, rfl⟩
theorem plain_rows {c : List DL.D → DL.D} (hc : ∀ ds, c ds = .lst ds ∨ c ds = .tup ds) (hR : R < 1000) (hN : N < 1000) : Plain 7 (.lst (rowsI R N W g c)) := by
  refine .inr ⟨_, .inr rfl, by simp; omega, fun x hx => ?_⟩
  obtain ⟨k, _, rfl⟩ := List.mem_map.mp hx
  refine .inr ⟨_, .inl rfl, by simp, fun x hx => ?_⟩
  simp only [List.mem_cons, List.not_mem_nil, or_false] at hx
  rcases hx with rfl | rfl
  · refine .inr ⟨rowD N (W k), (hc _).symm, by simp; omega, fun x hx => ?_⟩
    obtain ⟨i, _, rfl⟩ := List.mem_map.mp hx
    exact .inl (.inr (.inr (.inl ⟨_, rfl⟩)))
  · exact .inl (.inr (.inr (.inl ⟨_, rfl⟩)))
theorem plain_row (hN : N < 1000) : Plain 7 (.lst (rowD N l)) := by
  refine .inr ⟨_, .inr rfl, by simp; omega, fun x hx => ?_⟩
  obtain ⟨i, _, rfl⟩ := List.mem_map.mp hx
  exact .inl (.inr (.inr (.inl ⟨_, rfl⟩)))
theorem plain_rowT {n : Nat} (hN : N < 1000) : Plain (n + 1) (.tup (rowD N l)) := by
  refine .inr ⟨_, .inl rfl, by simp; omega, fun x hx => ?_⟩
  obtain ⟨i, _, rfl⟩ := List.mem_map.mp hx
  cases n with
  | zero => exact .inr (.inr (.inl ⟨_, rfl⟩))
  | succ n => exact .inl (.inr (.inr (.inl ⟨_, rfl⟩)))
end
end K03
end

section
set_option maxRecDepth 100000
set_option maxHeartbeats 1000000
namespace K03
open L2 DL PG LW
noncomputable def akGo : DL.Env → DL.So := (sSeq (sSet 4 [1] (eA oList (aCons (eVar 1) aNil))) (sSeq (sSet 5 [4, 3, 1] (eA (oCal 3 m_least) (aCons (eVar 4) (aCons (eVar 3) (aCons (eA oLen (aCons (eVar 1) aNil)) aNil))))) (sSeq (sSet 6 [4, 3, 1] (eA (oCal 3 m_least) (aCons (eVar 4) (aCons (eVar 3) (aCons (eA oLen (aCons (eVar 1) aNil)) aNil))))) (sSeq (sSet 7 (List.range 64) (akL 3)) (sSeq (sIf ([7] ++ (List.range 64 ++ [4, 1])) (tO (tN (tV (eA (oCal 2 m_law_same) (aCons (eVar 7) (aCons (akL 2) aNil))))) (tN (tV (eA (oCal 2 m_law_same) (aCons (eVar 4) (aCons (eA oList (aCons (eVar 1) aNil)) aNil)))))) (sRet [] (eC (.str ""))) sNext) (sSeq (sIf [6, 5] (tN (tV (eA (oCal 2 m_law_same) (aCons (eVar 6) (aCons (eVar 5) aNil))))) (sRet [] (eC (.str ""))) sNext) (sRet [1, 2, 5] (eA (oCal 3 m_law_word) (aCons (eVar 1) (aCons (eVar 2) (aCons (eVar 5) aNil)))))))))))
section
variable {R N : Nat} {W : Nat → Nat → Int} {g l : Nat → Int} {nb : Nat → Int}
def Word (R N : Nat) (W : Nat → Nat → Int) (g l : Nat → Int) (x : String) : Prop := (x = "least" ∧ ∃ s y w, Least R N W g l s y w) ∨ (x = "none" ∧ ∃ w, Misses R N W g w)
theorem akGo_is (T : Task R N W g l) {c : List DL.D → DL.D} (hc : ∀ ds, oList [c ds] = .ok (.ow ds)) (hp : ∀ ds, c ds = .lst ds ∨ c ds = .tup ds) :
    ∃ x, akGo [.fz (.lst (rowD 200 nb)), .fz (.lst (rowD N l)), .fz (.lst (rowsI R N W g .lst)), .ow (rowsI R N W g c), .un, .un, .un, .un, .un, .un] = .rt (.fz (.str (PySem.Str.ofString x))) ∧ Word R N W g l x := by
  have hN := T.nN
  have hR := T.rR
  have B1 := B_small hN
  have Bl : (Sx.fac (N + 1) * (2 ^ 60) ^ (N + 1)).log2 < 9000 := by
    by_cases h0 : Sx.fac (N + 1) * (2 ^ 60) ^ (N + 1) = 0
    · rw [h0]; decide
    · have := (Nat.log2_lt h0 (k := 1584)).mpr B1
      omega
  have kl : ∀ {x : Int}, Bd 60 x → x.natAbs ≤ 2 ^ 60 := fun hb => Nat.le_of_lt hb
  obtain ⟨d, e, hd⟩ := least_is (c := c) hc (Sq.l (rowD N l)) (show R < 200000 by omega) (show N < 200000 by omega) (Nat.one_le_two_pow (n := 60)) (fun k hk i hi => kl (T.wb k hk i hi)) (fun k hk => kl (T.gb k hk)) T.l0 (fun i hi => kl (T.lb i hi)) Bl
  have sm : ∀ {x : Int}, x.natAbs ≤ Sx.fac (N + 1) * (2 ^ 60) ^ (N + 1) → Sml x := fun h => Bd.sml (n := 1584) (Nat.lt_of_le_of_lt h B1) (by omega)
  -- what is told
  have told : ∃ x, m_law_word [.lst (rowD N l), .lst (rowsI R N W g .lst), d] = .ok (.fz (.str (PySem.Str.ofString x))) ∧ Word R N W g l x ∧ Rs.nol (.fz d) = true ∧ Plain 7 d := by
    cases hd with
    | @least s y w h one bs by_ bw =>
      refine ⟨"least", word_least T h one (sm bs) (fun i hi => sm (by_ i hi)) fun i hi => sm (bw i hi), .inl ⟨rfl, _, _, _, h⟩, ?_, .inr ⟨_, .inl rfl, by simp, fun x hx => ?_⟩⟩
      · have a : D.nolAll (rowD N y) = true := nol_row
        have b : D.nolAll (rowD R w) = true := nol_row
        simp [Rs.nol, D.nol, D.nolAll, a, b]
      · simp only [List.mem_cons, List.not_mem_nil, or_false] at hx
        rcases hx with rfl | rfl | rfl | rfl
        · exact .inl (.inr (.inr (.inr ⟨_, rfl⟩)))
        · exact .inl (.inr (.inr (.inl ⟨_, rfl⟩)))
        · exact plain_rowT (n := 5) (by omega)
        · exact plain_rowT (n := 5) (by omega)
    | @none w h one bw =>
      refine ⟨"none", word_none T h one fun i hi => sm (bw i hi), .inr ⟨rfl, _, h⟩, ?_, .inr ⟨_, .inl rfl, by simp, fun x hx => ?_⟩⟩
      · have b : D.nolAll (rowD R w) = true := nol_row
        simp [Rs.nol, D.nol, D.nolAll, b]
      · simp only [List.mem_cons, List.not_mem_nil, or_false] at hx
        rcases hx with rfl | rfl
        · exact .inl (.inr (.inr (.inr ⟨_, rfl⟩)))
        · exact plain_rowT (n := 5) (by omega)
  obtain ⟨x, ew, wd, nd, pd⟩ := told
  refine ⟨x, ?_, wd⟩
  have fz : ∀ A env, frzIf (.fz d) A env = env := fun A env => by unfold frzIf; rw [if_pos nd]
  have ol : ∀ ds : List DL.D, oList [.lst ds] = .ok (.ow ds) := fun _ => rfl
  have s1 : m_law_same [.lst (rowsI R N W g .lst), .lst (rowsI R N W g .lst)] = .ok (.fz (.bl true)) := same_refl 7 _ (plain_rows (fun _ => .inl rfl) (by omega) (by omega))
  have s2 : m_law_same [.lst (rowD N l), .lst (rowD N l)] = .ok (.fz (.bl true)) := same_refl 7 _ (plain_row (by omega))
  have s3 : m_law_same [d, d] = .ok (.fz (.bl true)) := same_refl 7 _ pd
  have k3 : akL 3 [.fz (.lst (rowD 200 nb)), .fz (.lst (rowD N l)), .fz (.lst (rowsI R N W g .lst)), .ow (rowsI R N W g c), .ow (rowD N l), .fz d, .fz d, .un, .un, .un] = .ok (.ow (rowsI R N W g .lst)) := by
    refine akL_is hc (by omega) (by simp) rfl fun k hk => ?_
    simp only [wipeE, List.map, List.set, ev_eA, ev_aCons, ev_vs, ev_v0f, ev_bok, ev_rfz, ev_row, ev_aNil, hc, ev_pok, tup_2]
  have k2 : ∀ e3 e4, akL 2 [.fz (.lst (rowD 200 nb)), .fz (.lst (rowD N l)), .fz (.lst (rowsI R N W g .lst)), e3, e4, .fz d, .fz d, .ow (rowsI R N W g .lst), .un, .un] = .ok (.ow (rowsI R N W g .lst)) := fun e3 e4 => by
    refine akL_is (c := .lst) (fun _ => rfl) (by omega) (by simp) rfl fun k hk => ?_
    simp only [wipeE, List.map, List.set, ev_eA, ev_aCons, ev_vs, ev_v0f, ev_bok, ev_rfz, ev_row, ev_aNil, ol, ev_pok, tup_2]
  unfold akGo
  simp only [ev_seq, ev_set, ev_eA, ev_aCons, ev_vs, ev_v0f, ev_v0o, ev_bok, ev_rfz, ev_row, ev_aNil, ol, ev_pok, ev_ofM, ev_frzRow, ev_sow, List.set, ev_tn, ev_lenL, rowD_len, oCal, List.length_cons, List.length_nil, if_true, e, fz, ev_sfz, k3]
  rcases frz_cases' (.ow (rowsI R N W g .lst)) (List.range 64) [.fz (.lst (rowD 200 nb)), .fz (.lst (rowD N l)), .fz (.lst (rowsI R N W g .lst)), .ow (rowsI R N W g c), .ow (rowD N l), .fz d, .fz d, .un, .un, .un] with q | q <;> rw [q]
  · simp only [ev_seq, ev_if, ev_tO, ev_tN, ev_tV, ev_eA, ev_aCons, ev_vs, ev_v0f, ev_v0o, ev_bok, ev_rfz, ev_row, ev_aNil, List.set, k2, oCal, List.length_cons, List.length_nil, if_true, s1, ev_pok, ev_asB, Bool.not_true, Bool.false_eq_true, if_false, ol, s2, ev_ofM, ev_next, ev_tn, s3, ev_ret, ew]
  · rw [frzAll_map _ _ (by simp)]
    simp only [ev_seq, ev_if, ev_tO, ev_tN, ev_tV, ev_eA, ev_aCons, ev_vs, ev_v0f, ev_v0o, ev_bok, ev_rfz, ev_row, ev_aNil, List.map, ev_frzF, ev_frzO, ev_frzU, List.set, k2, oCal, List.length_cons, List.length_nil, if_true, s1, ev_pok, ev_asB, Bool.not_true, Bool.false_eq_true, if_false, ol, s2, ev_ofM, ev_next, ev_tn, s3, ev_ret, ew]
theorem law_asked_is (T : Task R N W g l) : ∃ x, m_law_asked [.lst (rowD 200 nb), .lst (rowD N l), .lst (rowsI R N W g .lst)] = .ok (.fz (.str (PySem.Str.ofString x))) ∧ Word R N W g l x := by
  have hN := T.nN
  have hR := T.rR
  have ol : ∀ ds : List DL.D, oList [.lst ds] = .ok (.ow ds) := fun _ => rfl
  have ot : ∀ ds : List DL.D, oTuple [.lst ds] = .ok (.fz (.tup ds)) := fun _ => rfl
  have c199 : atI (rowD 200 nb) 199 = some (.int (nb 199)) := ix_row (j := 199) (by decide)
  have m2 : ∀ x : Int, oMod (.int x) (.int 2) = .ok (.fz (.int (x.fmod 2))) := fun x => ev_mod (by decide)
  have hb : b_law_asked = (sSeq (sSet 3 (List.range 64) (akL 2)) (sSeq (sIf [0] (tV (e2 (cop .Eq) (e2 oMod (eA oInt (aCons (e2 oIx (eVar 0) (eC (.int 199))) aNil)) (eC (.int 2))) (eC (.int 1)))) (sSet 3 (List.range 64) (akT 2)) sNext) akGo)) := rfl
  have k1 : akL 2 [.fz (.lst (rowD 200 nb)), .fz (.lst (rowD N l)), .fz (.lst (rowsI R N W g .lst)), .un, .un, .un, .un, .un, .un, .un] = .ok (.ow (rowsI R N W g .lst)) := by
    refine akL_is (c := .lst) (fun _ => rfl) (by omega) (by simp) rfl fun k hk => ?_
    simp only [wipeE, List.map, List.set, ev_eA, ev_aCons, ev_vs, ev_v0f, ev_bok, ev_rfz, ev_row, ev_aNil, ol, ev_pok, tup_2]
  have k2 : akT 2 [.fz (.lst (rowD 200 nb)), .fz (.lst (rowD N l)), .fz (.lst (rowsI R N W g .lst)), .ow (rowsI R N W g .lst), .un, .un, .un, .un, .un, .un] = .ok (.ow (rowsI R N W g .tup)) := by
    refine ev_lc (ds := rowsI R N W g .lst) (by simp) (by simp) ?_ (.inr (by simp; omega))
    refine lcL_map (List.range R) _ (fun k => .tup [.tup (rowD N (W k)), .int (g k)]) fun k hk => ?_
    refine ⟨_, .fz (.tup [.tup (rowD N (W k)), .int (g k)]), rfl, rfl, ?_, rfl⟩
    simp only [wipeE, List.map, List.set, ev_eA, ev_aCons, ev_vs, ev_v0f, ev_bok, ev_rfz, ev_row, ev_aNil, ot, ev_pok, tup_2]
  have f1 : frzIf (.ow (rowsI R N W g .lst)) (List.range 64) [.fz (.lst (rowD 200 nb)), .fz (.lst (rowD N l)), .fz (.lst (rowsI R N W g .lst)), .un, .un, .un, .un, .un, .un, .un] = [.fz (.lst (rowD 200 nb)), .fz (.lst (rowD N l)), .fz (.lst (rowsI R N W g .lst)), .un, .un, .un, .un, .un, .un, .un] := by
    rcases frz_cases' (.ow (rowsI R N W g .lst)) (List.range 64) [.fz (.lst (rowD 200 nb)), .fz (.lst (rowD N l)), .fz (.lst (rowsI R N W g .lst)), .un, .un, .un, .un, .un, .un, .un] with q | q <;> rw [q]
    rw [frzAll_map _ _ (by simp)]; rfl
  by_cases h2 : (nb 199).fmod 2 = 1
  · obtain ⟨x, e, wd⟩ := akGo_is (nb := nb) T (c := .tup) (fun _ => rfl) (fun _ => .inr rfl)
    refine ⟨x, runD_ok ?_, wd⟩
    rw [hb]
    show sSeq _ _ [.fz (.lst (rowD 200 nb)), .fz (.lst (rowD N l)), .fz (.lst (rowsI R N W g .lst)), .un, .un, .un, .un, .un, .un, .un] = _
    simp only [ev_seq, ev_set, k1, ev_ofM, f1, ev_sow, List.set, ev_tn, ev_if, ev_tV, ev_e2, ev_eA, ev_aCons, ev_vs, ev_v0f, ev_bok, ev_rfz, ev_c, ev_ixL, c199, ev_oR, ev_pok, ev_aNil, ev_int, m2, ev_copEq, ev_eqI, h2, decide_true, ev_asB, if_true, k2]
    rcases frz_cases' (.ow (rowsI R N W g .tup)) (List.range 64) [.fz (.lst (rowD 200 nb)), .fz (.lst (rowD N l)), .fz (.lst (rowsI R N W g .lst)), .ow (rowsI R N W g .lst), .un, .un, .un, .un, .un, .un] with q | q <;> rw [q]
    · exact e
    · rw [frzAll_map _ _ (by simp)]; exact e
  · obtain ⟨x, e, wd⟩ := akGo_is (nb := nb) T (c := .lst) (fun _ => rfl) (fun _ => .inl rfl)
    refine ⟨x, runD_ok ?_, wd⟩
    rw [hb]
    show sSeq _ _ [.fz (.lst (rowD 200 nb)), .fz (.lst (rowD N l)), .fz (.lst (rowsI R N W g .lst)), .un, .un, .un, .un, .un, .un, .un] = _
    simp only [ev_seq, ev_set, k1, ev_ofM, f1, ev_sow, List.set, ev_tn, ev_if, ev_tV, ev_e2, ev_eA, ev_aCons, ev_vs, ev_v0f, ev_bok, ev_rfz, ev_c, ev_ixL, c199, ev_oR, ev_pok, ev_aNil, ev_int, m2, ev_copEq, ev_eqI, h2, decide_false, ev_asB, Bool.false_eq_true, if_false, ev_next, e]
end
end K03
end

section
set_option maxRecDepth 100000
set_option maxHeartbeats 1000000
/-! _law_weights by its mirror; _law_free; plain facts. -/
namespace K03
open L2 DL PG LW
theorem rowD_push (k : Nat) (f : Nat → Int) : rowD k f ++ [D.int (f k)] = rowD (k + 1) f := by simp [rowD, List.range_succ]
theorem tabD_push (i N : Nat) (T : Nat → Nat → Int) : tabD i N T ++ [D.lst (rowD N (T i))] = tabD (i + 1) N T := by simp [tabD, List.range_succ]
noncomputable def wIn : DL.Env → DL.So := (sSeq (sSet 8 [0, 1, 5, 7] eNum) (sSeq (sSet 9 [8] eWei) (sSeq (sIf [0] tBig (sSet 9 [9, 8] eBig) sNext) (sSeq (sIf [5, 7, 8] tFar (sSet 9 [] (eC (.int 0))) sNext) (sApp 6 [9] (eVar 9))))))
noncomputable def wOut : DL.Env → DL.So := (sSeq (sSet 6 [] (eA oLstD aNil)) (sSeq (sFor [3] (iA oRng1 (aCons (eVar 3) aNil)) (nName 7) wIn) (sApp 4 [6] (eVar 6))))
section
variable {nb : Nat → Int} {t M N : Nat}
theorem wIn_ev {i k : Nat} {rows : List DL.D} {o8 o9 : DL.Sl} (hi : i < 1000) (hk : k < 1000) :
    ∃ o8' o9', wIn [.fz (.lst (rowD 200 nb)), .fz (.int t), .fz (.int M), .fz (.int N), .ow rows, .fz (.int i), .ow (rowD k (wF nb t i)), .fz (.int k), o8, o9] = .nx [.fz (.lst (rowD 200 nb)), .fz (.int t), .fz (.int M), .fz (.int N), .ow rows, .fz (.int i), .ow (rowD (k + 1) (wF nb t i)), .fz (.int k), o8', o9'] := by
  have hs : (rowD k (wF nb t i)).length < PySem.sizeLine := by have := sz; simp; omega
  have fin : ∀ x : Int, x = w1F nb t i k → (sSeq (sIf [5, 7, 8] tFar (sSet 9 [] (eC (.int 0))) sNext) (sApp 6 [9] (eVar 9))) [.fz (.lst (rowD 200 nb)), .fz (.int t), .fz (.int M), .fz (.int N), .ow rows, .fz (.int i), .ow (rowD k (wF nb t i)), .fz (.int k), .fz (.int (numF nb t i k)), .fz (.int x)] = .nx [.fz (.lst (rowD 200 nb)), .fz (.int t), .fz (.int M), .fz (.int N), .ow rows, .fz (.int i), .ow (rowD (k + 1) (wF nb t i)), .fz (.int k), .fz (.int (numF nb t i k)), .fz (.int (wF nb t i k))] := by
    rintro x rfl
    by_cases hb : (7 < i ∨ 4 < k) ∧ 0 < ((numF nb t i k).fdiv 9).fmod 3
    · have ew : wF nb t i k = 0 := by unfold wF; rw [if_pos hb]
      have pu := rowD_push k (wF nb t i)
      rw [ew] at pu
      simp only [ev_seq, ev_if, tFar_is, hb, and_self, decide_true, ev_ofM, if_true, ev_set, ev_c, ev_frzInt, ev_sfz, List.set, ev_tn, ev_app, ev_ownS, ev_own0, ev_vs, ev_v0f, ev_rfz, hs, pu, ew]
    · have ew : wF nb t i k = w1F nb t i k := by unfold wF; rw [if_neg hb]
      have pu := rowD_push k (wF nb t i)
      rw [ew] at pu
      simp only [ev_seq, ev_if, tFar_is, hb, decide_false, ev_ofM, Bool.false_eq_true, if_false, ev_next, ev_tn, ev_app, ev_ownS, ev_own0, ev_vs, ev_v0f, ev_rfz, ev_frzInt, hs, if_true, List.set, pu, ew]
  unfold wIn
  by_cases hb : (nb 3).fmod 8 = 1
  · have ew : ((numF nb t i k).fmod 9 - 4) * 10 ^ 12 + numF nb t i k = w1F nb t i k := by unfold w1F; rw [if_pos hb]
    refine ⟨.fz (.int (numF nb t i k)), .fz (.int (wF nb t i k)), ?_⟩
    rw [ev_seq]
    simp only [ev_set, eNum_is hi hk, ev_ofM, ev_frzInt, ev_sfz, List.set, ev_tn, ev_seq, eWei_is, ev_if, tBig_is, hb, decide_true, if_true, eBig_is]
    exact fin _ ew
  · have ew : (numF nb t i k).fmod 9 - 4 = w1F nb t i k := by unfold w1F; rw [if_neg hb]
    refine ⟨.fz (.int (numF nb t i k)), .fz (.int (wF nb t i k)), ?_⟩
    rw [ev_seq]
    simp only [ev_set, eNum_is hi hk, ev_ofM, ev_frzInt, ev_sfz, List.set, ev_tn, ev_seq, eWei_is, ev_if, tBig_is, hb, decide_false, Bool.false_eq_true, if_false, ev_next]
    exact fin _ ew
theorem lst00 : oLstD [] = .ok (.ow []) := lst_ok (by simp)
theorem fz_app {k : Nat} {f : Nat → Int} (env : DL.Env) : frzIf (.fz (.lst (rowD k f))) [6] env = fzAll [6] env := by
  unfold frzIf
  rw [if_neg (show ¬ Rs.nol (.fz (.lst (rowD k f))) = true from fun h => by cases h)]
theorem law_weights_is (hM : M < 1000) (hN : N < 1000) : m_law_weights [.lst (rowD 200 nb), .int t, .int M, .int N] = .ok (.ow (tabD M N (wF nb t))) := by
  have hb : b_law_weights = (sSeq (sSet 4 [] (eA oLstD aNil)) (sSeq (sFor [2] (iA oRng1 (aCons (eVar 2) aNil)) (nName 5) wOut) (sRetV 4))) := rfl
  obtain ⟨e, l, o5, o6, o7, o8, o9, rfl⟩ := forL_nx (t := nName 5) (body := wOut) (ds := rgD M) (env := [.fz (.lst (rowD 200 nb)), .fz (.int t), .fz (.int M), .fz (.int N), .ow [], .un, .un, .un, .un, .un])
    (fun i e => ∃ o5 o6 o7 o8 o9, e = [.fz (.lst (rowD 200 nb)), .fz (.int t), .fz (.int M), .fz (.int N), .ow (tabD i N (wF nb t)), o5, o6, o7, o8, o9]) ⟨_, _, _, _, _, rfl⟩ (by
      rintro i d e hd ⟨o5, o6, o7, o8, o9, rfl⟩
      obtain ⟨hi, rfl⟩ := rng_get hd
      obtain ⟨e, l, o7', o8', o9', rfl⟩ := forL_nx (t := nName 7) (body := wIn) (ds := rgD N) (env := [.fz (.lst (rowD 200 nb)), .fz (.int t), .fz (.int M), .fz (.int N), .ow (tabD i N (wF nb t)), .fz (.int i), .ow [], o7, o8, o9])
        (fun k e => ∃ o7 o8 o9, e = [.fz (.lst (rowD 200 nb)), .fz (.int t), .fz (.int M), .fz (.int N), .ow (tabD i N (wF nb t)), .fz (.int i), .ow (rowD k (wF nb t i)), o7, o8, o9]) ⟨_, _, _, rfl⟩ (by
          rintro k d e hd ⟨o7, o8, o9, rfl⟩
          obtain ⟨hk, rfl⟩ := rng_get hd
          obtain ⟨o8', o9', ev⟩ := wIn_ev (nb := nb) (t := t) (M := M) (N := N) (i := i) (k := k) (rows := tabD i N (wF nb t)) (o8 := o8) (o9 := o9) (by omega) (by omega)
          exact ⟨_, rfl, _, .inl ev, _, _, _, rfl⟩)
      rw [rgD_len] at l
      refine ⟨_, rfl, [.fz (.lst (rowD 200 nb)), .fz (.int t), .fz (.int M), .fz (.int N), .ow (tabD (i + 1) N (wF nb t)), .fz (.int i), .fz (.lst (rowD N (wF nb t i))), o7', o8', o9'], .inl ?_, _, _, _, _, _, rfl⟩
      have hs : (tabD i N (wF nb t)).length < PySem.sizeLine := by have := sz; simp; omega
      have fz0 : ∀ env, frzIf (.ow []) [] env = env := fun env => rfl
      unfold wOut
      simp only [List.set, ev_seq, ev_set, ev_eA, ev_aNil, ev_bok, lst00, ev_pok, ev_ofM, fz0, ev_sow, ev_tn, ev_for, ev_iA, ev_aCons, ev_vs, ev_v0f, ev_rfz, rng1 (show N < 1000000 by omega), ev_fzCons, ev_fzNil, List.getD_cons_zero, List.getD_cons_succ, ev_frzF, l, ev_app, ev_ownS, ev_own0, ev_v0o, fz_app, ev_frzO, hs, if_true, tabD_push])
  refine runD_ok ?_
  rw [hb]
  have fz0 : ∀ env, frzIf (.ow []) [] env = env := fun env => rfl
  show sSeq _ _ [.fz (.lst (rowD 200 nb)), .fz (.int t), .fz (.int M), .fz (.int N), .un, .un, .un, .un, .un, .un] = _
  rw [rgD_len] at l
  simp only [ev_seq, ev_set, ev_eA, ev_aNil, ev_bok, lst00, ev_pok, ev_ofM, fz0, ev_sow, List.set, ev_tn, ev_for, ev_iA, ev_aCons, ev_vs, ev_v0f, ev_rfz, rng1 (show M < 1000000 by omega), ev_fzCons, ev_fzNil, List.getD_cons_zero, List.getD_cons_succ, ev_frzF, l, ev_retVs, ev_retVo]
end
/-! plain -/
theorem least_misses {R N : Nat} {W : Nat → Nat → Int} {g l : Nat → Int} {s : Int} {y w w' : Nat → Int} (h : Least R N W g l s y w) (m : Misses R N W g w') : False := by
  have a : dotF R w' g * s ≤ dotF R w' (fun k => dotF N (W k) y) := by
    rw [← dot_mul]; exact dot_le m.wnn h.reach
  rw [dot_swap, dot_comm N] at a
  have b : dotF N y (fun p => dotF R w' fun k => W k p) ≤ 0 := Sx.sm_nonpos fun p hp => Int.mul_nonpos_of_nonneg_of_nonpos (h.ynn p hp) (m.sum p hp)
  have c : 0 < dotF R w' g * s := Int.mul_pos m.pos (by have := h.s1; omega)
  omega
theorem best_least {R N : Nat} {W : Nat → Nat → Int} {g l y w : Nat → Int} (hy : ∀ p, p < N → 0 ≤ y p) (hw : ∀ k, k < R → 0 ≤ w k) (hr : ∀ k, k < R → g k ≤ dotF N (W k) y ∧ (w k ≠ 0 → g k = dotF N (W k) y)) (hl : ∀ p, p < N → dotF R w (fun k => W k p) ≤ l p ∧ (y p ≠ 0 → dotF R w (fun k => W k p) = l p)) : Least R N W g l 1 y w := by
  refine ⟨Int.le_refl 1, hy, hw, fun k hk => by rw [Int.mul_one]; exact (hr k hk).1, fun p hp => by rw [Int.mul_one]; exact (hl p hp).1, ?_⟩
  have a : dotF R w g = dotF R w (fun k => dotF N (W k) y) := Sx.sm_congr fun k hk => by
    by_cases h : w k = 0
    · simp [h]
    · rw [(hr k hk).2 h]
  rw [a, dot_swap]
  exact Sx.sm_congr fun p hp => by
    by_cases h : y p = 0
    · simp [h]
    · show l p * y p = dotF R w (fun k => W k p) * y p
      rw [(hl p hp).2 h]
section
variable (nb : Nat → Int) (M N : Nat)
theorem laF_le (k : Nat) : toF nb M k + paL nb * laF nb M k ≤ 0 := by
  have p := paL_b nb
  have r := mod_b (nb (182 + k % 5)) (m := 3) (by decide)
  unfold laF
  have a : (0 - toF nb M k).fdiv (paL nb) * paL nb ≤ 0 - toF nb M k := by
    rw [Int.fdiv_eq_ediv_of_nonneg _ (by omega)]
    exact Int.ediv_mul_le _ (by omega)
  have b := Int.mul_nonneg (show 0 ≤ paL nb by omega) r.1
  have c : paL nb * ((0 - toF nb M k).fdiv (paL nb) - (nb (182 + k % 5)).fmod 3) = (0 - toF nb M k).fdiv (paL nb) * paL nb - paL nb * (nb (182 + k % 5)).fmod 3 := by grind
  omega
theorem boL_gt : 0 < to2 nb M + paL nb * boL nb M := by
  have p := paL_b nb
  have r := mod_b (nb 11) (m := 3) (by decide)
  unfold boL
  have a : 0 - to2 nb M < (0 - to2 nb M).fdiv (paL nb) * paL nb + paL nb := by
    rw [Int.fdiv_eq_ediv_of_nonneg _ (by omega)]
    have := Int.lt_ediv_add_one_mul_self (0 - to2 nb M) (show 0 < paL nb by omega)
    have e : ((0 - to2 nb M) / paL nb + 1) * paL nb = (0 - to2 nb M) / paL nb * paL nb + paL nb := by grind
    omega
  have b := Int.mul_nonneg (show 0 ≤ paL nb by omega) r.1
  have c : paL nb * ((0 - to2 nb M).fdiv (paL nb) + 1 + (nb 11).fmod 3) = (0 - to2 nb M).fdiv (paL nb) * paL nb + paL nb + paL nb * (nb 11).fmod 3 := by grind
  omega
theorem none_misses (hM : 1 ≤ M) : Misses M N (wL nb M) (boF nb M) (paF nb M) := by
  have last : ∀ f : Nat → Int, Sx.sm M f = Sx.sm (M - 1) f + f (M - 1) := fun f => by
    have e : M = (M - 1) + 1 := by omega
    conv => lhs; rw [e]
    rfl
  refine ⟨fun k _ => (paF_b nb M k).1, fun p _ => ?_, ?_⟩
  · unfold dotF
    rw [last]
    have a : Sx.sm (M - 1) (fun i => paF nb M i * wL nb M i p) = toF nb M p := Sx.sm_congr fun i hi => by
      show paF nb M i * wL nb M i p = paF nb M i * wF nb 60 i p
      unfold wL; rw [if_neg (by omega)]
    have b : wL nb M (M - 1) p = laF nb M p := by simp [wL]
    rw [a, paF_last]
    show toF nb M p + paL nb * wL nb M (M - 1) p ≤ 0
    rw [b]
    exact laF_le nb M p
  · unfold dotF
    rw [last]
    have a : Sx.sm (M - 1) (fun i => paF nb M i * boF nb M i) = to2 nb M := Sx.sm_congr fun i hi => by
      show paF nb M i * boF nb M i = paF nb M i * bo0 nb i
      unfold boF; rw [if_neg (by omega)]
    have b : boF nb M (M - 1) = boL nb M := by simp [boF]
    rw [a, paF_last]
    show 0 < to2 nb M + paL nb * boF nb M (M - 1)
    rw [b]
    exact boL_gt nb M
end
end K03
end

section
set_option maxRecDepth 100000
set_option maxHeartbeats 1000000
/-! _law_free, _law_best_pair. -/
namespace K03
open L2 DL PG LW
def SlL (a : DL.Sl) (ds : List DL.D) : Prop := a = .fz (.lst ds) ∨ a = .ow ds
theorem SlL.v0 {a : DL.Sl} {ds : List DL.D} (h : SlL a ds) (env : DL.Env) : eVar 0 (a :: env) = .ok (.fz (.lst ds)) := by rcases h with rfl | rfl <;> rfl
theorem SlL.frz {a : DL.Sl} {ds : List DL.D} (h : SlL a ds) : Sl.frz a = .fz (.lst ds) := by rcases h with rfl | rfl <;> rfl
theorem rowsI_push (i N : Nat) (W : Nat → Nat → Int) (g : Nat → Int) : rowsI i N W g .lst ++ [D.tup [.lst (rowD N (W i)), .int (g i)]] = rowsI (i + 1) N W g .lst := by simp [rowsI, List.range_succ]
section
variable {nb : Nat → Int} {M N : Nat}
def frG : DL.Env → DL.M Rs := (eLc [5] (iA oRng1 (aCons (eVar 2) aNil)) (nName 5) tYesD (e2 oMod (eA oInt (aCons (e2 oIx (eVar 0) (e2 oAdd (eC (.int 195)) (e2 oMod (eA oInt (aCons (eVar 5) aNil)) (eC (.int 5))))) aNil)) (eC (.int 7))))
def frR : DL.Env → DL.M Rs := (eLc [6] (iA oRng1 (aCons (eVar 1) aNil)) (nName 6) tYesD (eA oTupD (aCons (e2 oIx (eVar 3) (eVar 6)) (aCons (e2 oSub (e2 oMod (eA oInt (aCons (e2 oIx (eVar 0) (e2 oAdd (eC (.int 187)) (e2 oMod (eA oInt (aCons (eVar 6) aNil)) (eC (.int 8))))) aNil)) (eC (.int 15))) (eC (.int 6))) aNil))))
theorem fz3 (r : Rs) (a b c : DL.D) (es : DL.Env) : frzIf r [0, 1, 2] (.fz a :: .fz b :: .fz c :: es) = .fz a :: .fz b :: .fz c :: es := by
  rcases frz_cases' r [0, 1, 2] (.fz a :: .fz b :: .fz c :: es) with e | e <;> rw [e] <;> rfl
theorem law_free_is (hM : M < 100) (n1 : 1 ≤ N) (nN : N ≤ 24) : ∃ W g l, m_law_free [.lst (rowD 200 nb), .int M, .int N] = .ok (.fz (.tup [.lst (rowD N l), .lst (rowsI M N W g .lst)])) ∧ Task M N W g l := by
  have rM : oRng1 [.int M] = .ok (rgD M) := rng1 (by omega)
  have rN : oRng1 [.int N] = .ok (rgD N) := rng1 (by omega)
  have lw := law_weights_is (nb := nb) (t := 100) (M := M) (N := N) (by omega) (by omega)
  have lw : m_law_weights [.lst (rowD 200 nb), .int 100, .int M, .int N] = .ok (.ow (tabD M N (wF nb 100))) := lw
  have m7 : ∀ x : Int, oMod (.int x) (.int 7) = .ok (.fz (.int (x.fmod 7))) := fun x => ev_mod (by decide)
  have m15 : ∀ x : Int, oMod (.int x) (.int 15) = .ok (.fz (.int (x.fmod 15))) := fun x => ev_mod (by decide)
  have eG : frG [.fz (.lst (rowD 200 nb)), .fz (.int M), .fz (.int N), .ow (tabD M N (wF nb 100)), .un, .un, .un] = .ok (.ow (rowD N fun k => (nb (195 + k % 5)).fmod 7)) := by
    refine rg_lc (by omega) (by simp) (by simp [rN]) fun k hk => ?_
    have o : atI (rowD 200 nb) (195 + (k : Int).fmod 5) = some (.int (nb (195 + k % 5))) := ix_mod (c := 195) (m := 5) (by decide) (by decide)
    simp only [wipeE, List.map, List.set, ev_frzF, ev_frzO, ev_e2, ev_eA, ev_aCons, ev_vs, ev_v0f, ev_bok, ev_rfz, ev_aNil, ev_c, ev_int, ev_pok, m5', ev_add, ev_ixL, o, ev_oR, m7]
  have eR : frR [.fz (.lst (rowD 200 nb)), .fz (.int M), .fz (.int N), .ow (tabD M N (wF nb 100)), .ow (rowD N fun k => (nb (195 + k % 5)).fmod 7), .un, .un] = .ok (.ow (rowsI M N (wF nb 100) (fun i => (nb (187 + i % 8)).fmod 15 - 6) .lst)) := by
    refine ev_lc (ds := rgD M) (by simp) (by simp [rM]) ?_ (.inr (by simp; omega))
    refine lcL_map (List.range M) _ (fun k => .tup [.lst (rowD N (wF nb 100 k)), .int ((nb (187 + k % 8)).fmod 15 - 6)]) fun k hk => ?_
    have hk := List.mem_range.mp hk
    refine ⟨_, .fz (.tup [.lst (rowD N (wF nb 100 k)), .int ((nb (187 + k % 8)).fmod 15 - 6)]), rfl, rfl, ?_, rfl⟩
    have o : atI (rowD 200 nb) (187 + (k : Int).fmod 8) = some (.int (nb (187 + k % 8))) := ix_mod (c := 187) (m := 8) (by decide) (by decide)
    simp only [wipeE, List.map, List.set, ev_frzF, ev_frzO, ev_frzU, ev_e2, ev_eA, ev_aCons, ev_vs, ev_v0f, ev_bok, ev_rfz, ev_aNil, ev_c, ev_int, ev_pok, m8', ev_add, ev_ixL, o, ev_oR, m15, ev_sub, ix_tab hk, tup_2]
  refine ⟨wF nb 100, fun i => (nb (187 + i % 8)).fmod 15 - 6, fun k => (nb (195 + k % 5)).fmod 7, runD_ok ?_, ⟨hM, n1, nN, fun k _ i _ => (wF_b nb 100 k i).up (by decide), fun k _ => ?_, fun i _ => (mod_b _ (by decide)).1, fun i _ => ?_⟩⟩
  · have hb : b_law_free = (sSeq (sSet 3 [0, 1, 2] (eA (oCal 4 m_law_weights) (aCons (eVar 0) (aCons (eC (.int 100)) (aCons (eVar 1) (aCons (eVar 2) aNil)))))) (sSeq (sSet 4 (List.range 64) frG) (sRet ([4] ++ List.range 64) (eA oTupD (aCons (eVar 4) (aCons frR aNil)))))) := rfl
    rw [hb]
    show sSeq _ _ [.fz (.lst (rowD 200 nb)), .fz (.int M), .fz (.int N), .un, .un, .un, .un] = _
    simp only [ev_seq, ev_set, ev_eA, ev_aCons, ev_vs, ev_v0f, ev_v0o, ev_bok, ev_rfz, ev_row, ev_c, ev_aNil, oCal, List.length_cons, List.length_nil, if_true, lw, ev_pok, ev_ofM, fz3, ev_sow, List.set, ev_tn, eG, ev_frzRow, ev_ret, eR, tup_2]
  · have := mod_b (nb (187 + k % 8)) (m := 15) (by decide)
    exact bd_lit (by simp; omega) (by simp; omega)
  · have := mod_b (nb (195 + i % 5)) (m := 7) (by decide)
    exact bd_lit (by simp; omega) (by simp; omega)
/-! a point and a paper by their making -/
section
variable (nb M N)
def bpa (i : Nat) : Int := (nb (145 + i % 8) + 17 * ((i / 8 : Nat) : Int)).fmod 4
def bp0 (k : Nat) : Int := (nb (140 + k % 5) + 13 * ((k / 5 : Nat) : Int)).fmod 5
def bus (k : Nat) : Int := Sx.sm M fun i => bpa nb i * wF nb 20 i k
def bpo (k : Nat) : Int := if bus nb M k < 0 then 0 else bp0 nb k
def bgo (k : Nat) : Int := if 0 < bpo nb M k then bus nb M k else (if 0 < bus nb M k then bus nb M k else 0) + (nb (161 + k % 5)).fmod 4
def bbd (i : Nat) : Int := if bpa nb i = 0 then dotF N (wF nb 20 i) (bpo nb M) - (nb (153 + i % 8)).fmod 4 else dotF N (wF nb 20 i) (bpo nb M)
end
def bpP : DL.Env → DL.M Rs := (eLc [10] (iA oRng1 (aCons (eVar 1) aNil)) (nName 10) tYesD (e2 oMod (eA oInt (aCons (e2 oAdd (e2 oIx (eVar 0) (e2 oAdd (eC (.int 145)) (e2 oMod (eA oInt (aCons (eVar 10) aNil)) (eC (.int 8))))) (e2 oMul (eC (.int 17)) (e2 oDiv (eVar 10) (eC (.int 8))))) aNil)) (eC (.int 4))))
def bpQ : DL.Env → DL.M Rs := (eLc [7] (iA oRng1 (aCons (eVar 2) aNil)) (nName 7) tYesD (e2 oMod (eA oInt (aCons (e2 oAdd (e2 oIx (eVar 0) (e2 oAdd (eC (.int 140)) (e2 oMod (eA oInt (aCons (eVar 7) aNil)) (eC (.int 5))))) (e2 oMul (eC (.int 13)) (e2 oDiv (eVar 7) (eC (.int 5))))) aNil)) (eC (.int 5))))
def bpU : DL.Env → DL.M Rs := (eLc [10] (iA oRng1 (aCons (eVar 1) aNil)) (nName 10) tYesD (e2 oMul (e2 oIx (eVar 4) (eVar 10)) (e2 oIx (e2 oIx (eVar 3) (eVar 10)) (eVar 7))))
def bpL1 : DL.Env → DL.So := (sSeq (sSet 8 (List.range 64) (eA oSum (aCons bpU aNil))) (sSeq (sIf [8] (tV (e2 (cop .Lt) (eVar 8) (eC (.int 0)))) (sSetIx 5 [] [7] (eC (.int 0)) (eVar 7)) sNext) (sIf [5, 7] (tV (e2 (cop .Gt) (e2 oIx (eVar 5) (eVar 7)) (eC (.int 0)))) (sApp 6 [8] (eVar 8)) (sApp 6 [8, 0, 7] (e2 oAdd (eA oMax (aCons (eC (.int 0)) (aCons (eVar 8) aNil))) (e2 oMod (eA oInt (aCons (e2 oIx (eVar 0) (e2 oAdd (eC (.int 161)) (e2 oMod (eA oInt (aCons (eVar 7) aNil)) (eC (.int 5))))) aNil)) (eC (.int 4))))))))
def bpL2 : DL.Env → DL.So := (sSeq (sSet 11 [3, 10, 5] (eA (oCal 2 m_law_dot) (aCons (e2 oIx (eVar 3) (eVar 10)) (aCons (eVar 5) aNil)))) (sSeq (sIf [4, 10] (tV (e2 (cop .Eq) (e2 oIx (eVar 4) (eVar 10)) (eC (.int 0)))) (sSet 11 [11, 0, 10] (e2 oSub (eVar 11) (e2 oMod (eA oInt (aCons (e2 oIx (eVar 0) (e2 oAdd (eC (.int 153)) (e2 oMod (eA oInt (aCons (eVar 10) aNil)) (eC (.int 8))))) aNil)) (eC (.int 4))))) sNext) (sApp 9 [3, 10, 11] (eA oTupD (aCons (e2 oIx (eVar 3) (eVar 10)) (aCons (eVar 11) aNil))))))
theorem bpa_b (nb : Nat → Int) (i : Nat) : 0 ≤ bpa nb i ∧ bpa nb i < 4 := mod_b _ (by decide)
theorem bp0_b (nb : Nat → Int) (i : Nat) : 0 ≤ bp0 nb i ∧ bp0 nb i < 5 := mod_b _ (by decide)
theorem bpo_b (nb : Nat → Int) (M i : Nat) : 0 ≤ bpo nb M i ∧ bpo nb M i < 5 := by have := bp0_b nb i; unfold bpo; split <;> omega
theorem bpa_d (nb : Nat → Int) (i : Nat) : Bd 2 (bpa nb i) := by
  have := bpa_b nb i
  exact bd_lit (by simp; omega) (by simp; omega)
theorem bus_b (hM : M < 128) (k : Nat) : Bd 53 (bus nb M k) := by
  have := sm_bd7 (n := 45) (f := fun i => bpa nb i * wF nb 20 i k) (fun i _ => (bpa_d nb i).mul (wF_b nb 20 i k)) hM
  exact this.up (by decide)
theorem bpL1_ev {k : Nat} {W : List DL.D} {o8 o9 o10 o11 : DL.Sl} (hM : M < 100) (hN : N < 100) (hk : k < N) :
    bpL1 [.fz (.lst (rowD 200 nb)), .fz (.int M), .fz (.int N), .ow (tabD M N (wF nb 20)), .ow (rowD M (bpa nb)), .ow (rowD N fun j => if j < k then bpo nb M j else bp0 nb j), .ow (rowD k (bgo nb M)), .fz (.int k), o8, o9, o10, o11] =
    .nx [.fz (.lst (rowD 200 nb)), .fz (.int M), .fz (.int N), .ow (tabD M N (wF nb 20)), .ow (rowD M (bpa nb)), .ow (rowD N fun j => if j < k + 1 then bpo nb M j else bp0 nb j), .ow (rowD (k + 1) (bgo nb M)), .fz (.int k), .fz (.int (bus nb M k)), o9, o10, o11] := by
  have cU : bpU [.fz (.lst (rowD 200 nb)), .fz (.int M), .fz (.int N), .ow (tabD M N (wF nb 20)), .ow (rowD M (bpa nb)), .ow (rowD N fun j => if j < k then bpo nb M j else bp0 nb j), .ow (rowD k (bgo nb M)), .fz (.int k), o8, o9, o10, o11] = .ok (.ow (rowD M fun i => bpa nb i * wF nb 20 i k)) := by
    refine rg_lc (by omega) (by simp) (by simp [rng1 (show M < 1000000 by omega)]) fun i hi => ?_
    have ml : oMul (.int (bpa nb i)) (.int (wF nb 20 i k)) = .ok (.fz (.int (bpa nb i * wF nb 20 i k))) := mul_l (by have := bpa_b nb i; omega)
    simp only [wipeE, List.map, List.set, ev_frzF, ev_frzO, ev_e2, ev_vs, ev_v0f, ev_bok, ev_rfz, ev_ixL, ix_row hi, ev_oR, ev_pok, ix_tab hi, ix_row hk, ml]
  have sU : eA oSum (aCons bpU aNil) [.fz (.lst (rowD 200 nb)), .fz (.int M), .fz (.int N), .ow (tabD M N (wF nb 20)), .ow (rowD M (bpa nb)), .ow (rowD N fun j => if j < k then bpo nb M j else bp0 nb j), .ow (rowD k (bgo nb M)), .fz (.int k), o8, o9, o10, o11] = .ok (.fz (.int (bus nb M k))) := by
    simp only [ev_eA, ev_aCons, cU, ev_bok, ev_row, ev_aNil, sum_row, ev_pok]
    rfl
  have hs : (rowD k (bgo nb M)).length < PySem.sizeLine := by have := sz; simp; omega
  have hs' : k < PySem.sizeLine := by have := sz; omega
  have pu := rowD_push k (bgo nb M)
  have o : atI (rowD 200 nb) (161 + (k : Int).fmod 5) = some (.int (nb (161 + k % 5))) := ix_mod (c := 161) (m := 5) (by decide) (by decide)
  have nx : ∀ j, j < N → (if j < k + 1 then bpo nb M j else bp0 nb j) = if j = k then bpo nb M k else (if j < k then bpo nb M j else bp0 nb j) := fun j _ => by
    by_cases h : j = k
    · subst h; simp
    · have : (j < k + 1) = (j < k) := by apply propext; omega
      simp [h, this]
  have kk : (if k < k then bpo nb M k else bp0 nb k) = bp0 nb k := by simp
  unfold bpL1
  rw [rowD_congr nx]
  by_cases hu : bus nb M k < 0
  · have e1 : bpo nb M k = 0 := by unfold bpo; rw [if_pos hu]
    have e2 : bgo nb M k = (if 0 < bus nb M k then bus nb M k else 0) + (nb (161 + k % 5)).fmod 4 := by unfold bgo; rw [e1, if_neg (by decide)]
    rw [e2] at pu
    have n0 : ¬ (0 : Int) < 0 := by decide
    simp only [ev_seq, ev_set, sU, ev_ofM, ev_frzInt, ev_sfz, List.set, ev_tn, ev_if, ev_tV, ev_e2, ev_vs, ev_v0f, ev_v0o, ev_bok, ev_rfz, ev_row, ev_c, ev_copLt, ev_lt, hu, decide_true, ev_pok, ev_asB, if_true, ev_setIx, ev_ownS, ev_own0, rowD_len, DL.ixN_nat hk, rowD_set hk, ev_ixL, ix_row hk, ev_oR, ev_copGt, ev_gt, n0, decide_false, Bool.false_eq_true, if_false, ev_app, ev_eA, ev_aCons, ev_aNil, max_is, ev_int, m5', ev_add, o, m4', hs, hs', pu, e1]
  · have e1 : bpo nb M k = bp0 nb k := by unfold bpo; rw [if_neg hu]
    have same : rowD N (fun j => if j = k then bpo nb M k else if j < k then bpo nb M j else bp0 nb j) = rowD N fun j => if j < k then bpo nb M j else bp0 nb j := rowD_congr fun j _ => by
      by_cases h : j = k
      · subst h; simp [e1]
      · simp [h]
    rw [same]
    by_cases hp : 0 < bp0 nb k
    · have e2 : bgo nb M k = bus nb M k := by unfold bgo; rw [e1, if_pos hp]
      rw [e2] at pu
      simp only [ev_seq, ev_set, sU, ev_ofM, ev_frzInt, ev_sfz, List.set, ev_tn, ev_if, ev_tV, ev_e2, ev_vs, ev_v0f, ev_v0o, ev_bok, ev_rfz, ev_row, ev_c, ev_copLt, ev_lt, hu, decide_false, ev_pok, ev_asB, Bool.false_eq_true, if_false, ev_next, ev_ixL, ix_row hk, kk, ev_oR, ev_copGt, ev_gt, hp, decide_true, if_true, ev_app, ev_ownS, ev_own0, hs, pu]
    · have e2 : bgo nb M k = (if 0 < bus nb M k then bus nb M k else 0) + (nb (161 + k % 5)).fmod 4 := by unfold bgo; rw [e1, if_neg hp]
      rw [e2] at pu
      simp only [ev_seq, ev_set, sU, ev_ofM, ev_frzInt, ev_sfz, List.set, ev_tn, ev_if, ev_tV, ev_e2, ev_vs, ev_v0f, ev_v0o, ev_bok, ev_rfz, ev_row, ev_c, ev_copLt, ev_lt, hu, decide_false, ev_pok, ev_asB, Bool.false_eq_true, if_false, ev_next, ev_ixL, ix_row hk, kk, ev_oR, ev_copGt, ev_gt, hp, ev_app, ev_ownS, ev_own0, ev_eA, ev_aCons, ev_aNil, max_is, ev_int, m5', ev_add, o, m4', hs, if_true, pu]
theorem bpL2_ev {i : Nat} {o6 o7 o8 o11 : DL.Sl} {a : DL.Sl} (ha : SlL a (tabD M N (wF nb 20))) (hM : M < 100) (hN : N < 100) (hi : i < M) :
    ∃ a', SlL a' (tabD M N (wF nb 20)) ∧ ∃ o11', bpL2 [.fz (.lst (rowD 200 nb)), .fz (.int M), .fz (.int N), a, .ow (rowD M (bpa nb)), .ow (rowD N (bpo nb M)), o6, o7, o8, .ow (rowsI i N (wF nb 20) (bbd nb M N) .lst), .fz (.int i), o11] =
    .nx [.fz (.lst (rowD 200 nb)), .fz (.int M), .fz (.int N), a', .ow (rowD M (bpa nb)), .ow (rowD N (bpo nb M)), o6, o7, o8, .ow (rowsI (i + 1) N (wF nb 20) (bbd nb M N) .lst), .fz (.int i), o11'] := by
  have dv := law_dot_is (show N < 1000000 by omega) (Nat.le_refl N) (Sq.l (rowD N (wF nb 20 i))) (Sq.l (rowD N (bpo nb M))) (fun j hj => mul_small ((wF_b nb 20 i j).sml (by omega)) (Bd.sml (n := 3) (by have := bpo_b nb M j; exact bd_lit (by simp; omega) (by simp; omega)) (by omega)))
  have hs : (rowsI i N (wF nb 20) (bbd nb M N) .lst).length < PySem.sizeLine := by have := sz; simp; omega
  have pu := rowsI_push i N (wF nb 20) (bbd nb M N)
  have o : atI (rowD 200 nb) (153 + (i : Int).fmod 8) = some (.int (nb (153 + i % 8))) := ix_mod (c := 153) (m := 8) (by decide) (by decide)
  have fz : ∀ x env, frzIf (.fz (.tup [.lst (rowD N (wF nb 20 i)), .int x])) [3, 10, 11] env = fzAll [3, 10, 11] env := fun x env => by
    unfold frzIf
    rw [if_neg (show ¬ Rs.nol (.fz (.tup [.lst (rowD N (wF nb 20 i)), .int x])) = true from fun h => by cases h)]
  refine ⟨.fz (.lst (tabD M N (wF nb 20))), .inl rfl, .fz (.int (bbd nb M N i)), ?_⟩
  unfold bpL2
  by_cases h0 : bpa nb i = 0
  · have e2 : bbd nb M N i = dotF N (wF nb 20 i) (bpo nb M) - (nb (153 + i % 8)).fmod 4 := by unfold bbd; rw [if_pos h0]
    rw [e2] at pu ⊢
    simp only [ev_seq, ev_set, ev_eA, ev_aCons, ev_e2, ev_vs, ev_v0f, ev_v0o, ha.v0, ev_bok, ev_rfz, ev_row, ev_ixL, ix_tab hi, ix_row hi, ev_oR, ev_pok, ev_aNil, oCal, List.length_cons, List.length_nil, if_true, dv, ev_ofM, ev_frzInt, ev_sfz, List.set, ev_tn, ev_if, ev_tV, ev_c, ev_copEq, ev_eqI, h0, decide_true, ev_asB, ev_int, m8', m4', ev_add, o, ev_sub, ev_app, ev_ownS, ev_own0, tup_2, fz, ev_fzCons, ev_fzNil, List.getD_cons_zero, List.getD_cons_succ, ha.frz, ev_frzF, hs, pu]
  · have e2 : bbd nb M N i = dotF N (wF nb 20 i) (bpo nb M) := by unfold bbd; rw [if_neg h0]
    rw [e2] at pu ⊢
    simp only [ev_seq, ev_set, ev_eA, ev_aCons, ev_e2, ev_vs, ev_v0f, ev_v0o, ha.v0, ev_bok, ev_rfz, ev_row, ev_ixL, ix_tab hi, ix_row hi, ev_oR, ev_pok, ev_aNil, oCal, List.length_cons, List.length_nil, if_true, dv, ev_ofM, ev_frzInt, ev_sfz, List.set, ev_tn, ev_if, ev_tV, ev_c, ev_copEq, ev_eqI, h0, decide_false, ev_asB, Bool.false_eq_true, if_false, ev_next, ev_app, ev_ownS, ev_own0, tup_2, fz, ev_fzCons, ev_fzNil, List.getD_cons_zero, List.getD_cons_succ, ha.frz, ev_frzF, hs, pu]
theorem law_best_pair_is (hM : M < 100) (n1 : 1 ≤ N) (nN : N ≤ 24) : ∃ W g l y w, m_law_best_pair [.lst (rowD 200 nb), .int M, .int N] = .ok (.fz (.tup [.lst (rowD N l), .lst (rowsI M N W g .lst), .lst (rowD N y), .lst (rowD M w)])) ∧ Task M N W g l ∧ Least M N W g l 1 y w ∧ (∀ i, i < N → Bd 10 (y i)) ∧ ∀ k, k < M → Bd 10 (w k) := by
  have rM : oRng1 [.int M] = .ok (rgD M) := rng1 (by omega)
  have rN : oRng1 [.int N] = .ok (rgD N) := rng1 (by omega)
  have lw : m_law_weights [.lst (rowD 200 nb), .int 20, .int M, .int N] = .ok (.ow (tabD M N (wF nb 20))) := law_weights_is (nb := nb) (t := 20) (M := M) (N := N) (by omega) (by omega)
  have eP : ∀ e3 e4 e5 e6 e7 e8 e9 e10 e11, bpP [.fz (.lst (rowD 200 nb)), .fz (.int M), e3, e4, e5, e6, e7, e8, e9, e10, e11, .un] = .ok (.ow (rowD M (bpa nb))) := fun e3 e4 e5 e6 e7 e8 e9 e10 e11 => by
    refine rg_lc (by omega) (by simp) (by simp [rM]) fun k hk => ?_
    have ml : ∀ x : Int, oMul (.int 17) (.int x) = .ok (.fz (.int (17 * x))) := fun x => mul_l (by decide)
    have o : atI (rowD 200 nb) (145 + (k : Int).fmod 8) = some (.int (nb (145 + k % 8))) := ix_mod (c := 145) (m := 8) (by decide) (by decide)
    simp only [wipeE, List.map, List.set, ev_frzF, ev_e2, ev_eA, ev_aCons, ev_vs, ev_v0f, ev_bok, ev_rfz, ev_aNil, ev_c, ev_int, ev_pok, m8', m4', ev_add, ev_ixL, o, ev_oR, d8', ml, q8]
    rfl
  have eQ : ∀ e1 e3 e4 e5 e6 e7 e8 e9 e10, bpQ [.fz (.lst (rowD 200 nb)), e1, .fz (.int N), e3, e4, e5, e6, e7, e8, e9, e10, .un] = .ok (.ow (rowD N (bp0 nb))) := fun e1 e3 e4 e5 e6 e7 e8 e9 e10 => by
    refine rg_lc (by omega) (by simp) (by simp [rN]) fun k hk => ?_
    have ml : ∀ x : Int, oMul (.int 13) (.int x) = .ok (.fz (.int (13 * x))) := fun x => mul_l (by decide)
    have o : atI (rowD 200 nb) (140 + (k : Int).fmod 5) = some (.int (nb (140 + k % 5))) := ix_mod (c := 140) (m := 5) (by decide) (by decide)
    simp only [wipeE, List.map, List.set, ev_frzF, ev_e2, ev_eA, ev_aCons, ev_vs, ev_v0f, ev_bok, ev_rfz, ev_aNil, ev_c, ev_int, ev_pok, m5', ev_add, ev_ixL, o, ev_oR, d5', ml, q5]
    rfl
  obtain ⟨e, l1, o7, o8, rfl⟩ := forL_nx (t := nName 7) (body := bpL1) (ds := rgD N) (env := [.fz (.lst (rowD 200 nb)), .fz (.int M), .fz (.int N), .ow (tabD M N (wF nb 20)), .ow (rowD M (bpa nb)), .ow (rowD N (bp0 nb)), .ow [], .un, .un, .un, .un, .un])
    (fun k e => ∃ o7 o8, e = [.fz (.lst (rowD 200 nb)), .fz (.int M), .fz (.int N), .ow (tabD M N (wF nb 20)), .ow (rowD M (bpa nb)), .ow (rowD N fun j => if j < k then bpo nb M j else bp0 nb j), .ow (rowD k (bgo nb M)), o7, o8, .un, .un, .un]) ⟨_, _, by rw [rowD_congr (N := N) (f := fun j => if j < 0 then bpo nb M j else bp0 nb j) (g := bp0 nb) fun j _ => by simp]; rfl⟩ (by
      rintro k d e hd ⟨o7, o8, rfl⟩
      obtain ⟨hk, rfl⟩ := rng_get hd
      exact ⟨_, rfl, _, .inl (bpL1_ev (W := []) hM (by omega) hk), _, _, rfl⟩)
  rw [rgD_len, rowD_congr (N := N) (f := fun j => if j < N then bpo nb M j else bp0 nb j) (g := bpo nb M) fun j hj => by simp [hj]] at l1
  obtain ⟨e, l2, a, ha, o10, o11, rfl⟩ := forL_nx (t := nName 10) (body := bpL2) (ds := rgD M) (env := [.fz (.lst (rowD 200 nb)), .fz (.int M), .fz (.int N), .ow (tabD M N (wF nb 20)), .ow (rowD M (bpa nb)), .ow (rowD N (bpo nb M)), .ow (rowD N (bgo nb M)), o7, o8, .ow [], .un, .un])
    (fun i e => ∃ a, SlL a (tabD M N (wF nb 20)) ∧ ∃ o10 o11, e = [.fz (.lst (rowD 200 nb)), .fz (.int M), .fz (.int N), a, .ow (rowD M (bpa nb)), .ow (rowD N (bpo nb M)), .ow (rowD N (bgo nb M)), o7, o8, .ow (rowsI i N (wF nb 20) (bbd nb M N) .lst), o10, o11]) ⟨_, .inr rfl, _, _, rfl⟩ (by
      rintro i d e hd ⟨a, ha, o10, o11, rfl⟩
      obtain ⟨hi, rfl⟩ := rng_get hd
      obtain ⟨a', ha', o11', ev⟩ := bpL2_ev (o6 := .ow (rowD N (bgo nb M))) (o7 := o7) (o8 := o8) (o11 := o11) ha hM (show N < 100 by omega) hi
      exact ⟨_, rfl, _, .inl ev, a', ha', _, _, rfl⟩)
  rw [rgD_len] at l2
  have ub := fun k => bus_b (nb := nb) (M := M) (by omega) k
  have pb : ∀ i, Bd 3 (bpo nb M i) := fun i => by have := bpo_b nb M i; exact bd_lit (by simp; omega) (by simp; omega)
  have wb : ∀ k, Bd 10 (bpa nb k) := fun k => (bpa_d nb k).up (by decide)
  refine ⟨wF nb 20, bbd nb M N, bgo nb M, bpo nb M, bpa nb, runD_ok ?_, ⟨hM, n1, nN, fun k _ i _ => (wF_b nb 20 k i).up (by decide), fun k _ => ?_, fun i _ => ?_, fun i _ => ?_⟩, best_least (fun p _ => (bpo_b nb M p).1) (fun k _ => (bpa_b nb k).1) (fun k _ => ?_) (fun p _ => ?_), fun i _ => (pb i).up (by decide), fun k _ => wb k⟩
  · have hb : b_law_best_pair = (sSeq (sSet 3 [0, 1, 2] (eA (oCal 4 m_law_weights) (aCons (eVar 0) (aCons (eC (.int 20)) (aCons (eVar 1) (aCons (eVar 2) aNil)))))) (sSeq (sSet 4 (List.range 64) bpP) (sSeq (sSet 5 (List.range 64) bpQ) (sSeq (sSet 6 [] (eA oLstD aNil)) (sSeq (sFor [2] (iA oRng1 (aCons (eVar 2) aNil)) (nName 7) bpL1) (sSeq (sSet 9 [] (eA oLstD aNil)) (sSeq (sFor [1] (iA oRng1 (aCons (eVar 1) aNil)) (nName 10) bpL2) (sRet [6, 9, 5, 4] (eA oTupD (aCons (eVar 6) (aCons (eVar 9) (aCons (eVar 5) (aCons (eVar 4) aNil))))))))))))) := rfl
    have fz0 : ∀ env, frzIf (.ow []) [] env = env := fun env => rfl
    have t4 : ∀ a b c d : DL.D, oTupD [a, b, c, d] = .ok (.fz (.tup [a, b, c, d])) := fun a b c d => tup_ok (by simp)
    rw [hb]
    show sSeq _ _ [.fz (.lst (rowD 200 nb)), .fz (.int M), .fz (.int N), .un, .un, .un, .un, .un, .un, .un, .un, .un] = _
    simp only [ev_seq, ev_set, ev_eA, ev_aCons, ev_vs, ev_v0f, ev_v0o, ev_bok, ev_rfz, ev_row, ev_c, ev_aNil, oCal, List.length_cons, List.length_nil, if_true, lw, ev_pok, ev_ofM, fz3, ev_sow, List.set, ev_tn, eP, eQ, ev_frzRow, lst00, fz0, ev_for, ev_iA, rN, rM, ev_fzCons, ev_fzNil, List.getD_cons_zero, List.getD_cons_succ, ev_frzF, l1, l2, ev_ret, t4]
  · have a : Bd 52 (dotF N (wF nb 20 k) (bpo nb M)) := (dot_bd (fun j _ => wF_b nb 20 k j) (fun j _ => pb j) (by omega)).up (by decide)
    show Bd 60 (bbd nb M N k)
    unfold bbd
    split
    · have := mod_b (nb (153 + k % 8)) (m := 4) (by decide)
      exact (a.sub (bd_lit (n := 3) (x := (nb (153 + k % 8)).fmod 4) (by simp; omega) (by simp; omega))).up (by decide)
    · exact a.up (by decide)
  · show 0 ≤ bgo nb M i
    have := mod_b (nb (161 + i % 5)) (m := 4) (by decide)
    unfold bgo
    split
    · rename_i h
      unfold bpo at h
      split at h <;> omega
    · split <;> omega
  · have c := ub i
    have := mod_b (nb (161 + i % 5)) (m := 4) (by decide)
    have d : Bd 3 ((nb (161 + i % 5)).fmod 4) := bd_lit (by simp; omega) (by simp; omega)
    show Bd 60 (bgo nb M i)
    unfold bgo
    split
    · exact c.up (by decide)
    · split
      · exact (c.add d).up (by decide)
      · exact ((bd_0 3).add d).up (by decide)
  · have r := mod_b (nb (153 + k % 8)) (m := 4) (by decide)
    unfold bbd
    constructor
    · split <;> omega
    · intro h; rw [if_neg h]
  · have r := mod_b (nb (161 + p % 5)) (m := 4) (by decide)
    have us : dotF M (bpa nb) (fun k => wF nb 20 k p) = bus nb M p := rfl
    rw [us]
    unfold bgo
    constructor
    · split
      · exact Int.le_refl _
      · split <;> omega
    · intro h
      have := bpo_b nb M p
      rw [if_pos (by omega)]
end
end K03
end

section
set_option maxRecDepth 100000
set_option maxHeartbeats 1000000
/-! _law_pick, _law_with_bound, _law_with_weight. -/
namespace K03
open L2 DL PG LW
theorem e3' (g : DL.D → Option Int → Option Int → DL.M Rs) (f : DL.Env → DL.M Rs) (l u : DL.Env → DL.M (Option Int)) (env : DL.Env) : e3o g f l u env = (f env >>= fun r => l env >>= fun a => u env >>= fun b => pureM (g r.d a b)) := (rfl)
theorem ps (f : DL.Env → DL.M Rs) (env : DL.Env) : pSome f env = (f env >>= fun r => asI r) := (rfl)
theorem ai (i : Int) : asI (.fz (.int i)) = .ok (some i) := (rfl)
theorem pn (env : DL.Env) : pNo env = .ok none := (rfl)
theorem sl_l (xs : List DL.D) (a b : Option Int) : oSl (.lst xs) a b = .ok (.ow (cutD xs a b)) := (rfl)
theorem add_l {a b : List DL.D} (h : a.length + b.length < 1000000) : oAdd (.lst a) (.lst b) = .ok (.ow (a ++ b)) := by
  show (if a.length + b.length ≤ PySem.sizeLine then DL.M.ok (Rs.ow (a ++ b)) else .bad) = _
  rw [if_pos (by have := sz; omega)]
theorem cut_lo {α : Type} (xs : List α) {i : Nat} (h : i ≤ xs.length) : cutD xs none (some (i : Int)) = xs.take i := by
  unfold cutD
  rw [HT.sIx_nat, HT.sIx_none, Nat.min_eq_left h]
  simp
theorem cut_hi {α : Type} (xs : List α) {i : Nat} (h : i ≤ xs.length) : cutD xs (some (i : Int)) none = xs.drop i := by
  unfold cutD
  rw [HT.sIx_nat, HT.sIx_none, Nat.min_eq_left h]
  exact List.take_of_length_le (by simp)
theorem cut_set {α : Type} (xs : List α) {i : Nat} {x : α} (h : i < xs.length) : cutD xs none (some (i : Int)) ++ [x] ++ cutD xs (some ((i : Int) + 1)) none = xs.set i x := by
  have e : (i : Int) + 1 = ((i + 1 : Nat) : Int) := by omega
  rw [e, cut_lo xs (by omega), cut_hi xs (by omega), List.set_eq_take_append_cons_drop]
  simp [h]
theorem cut_len {α : Type} (xs : List α) {i : Nat} (h : i < xs.length) : (cutD xs none (some (i : Int))).length ≤ xs.length ∧ (cutD xs (some ((i : Int) + 1)) none).length ≤ xs.length := by
  have e : (i : Int) + 1 = ((i + 1 : Nat) : Int) := by omega
  rw [e, cut_lo xs (by omega), cut_hi xs (by omega)]
  simp; omega
theorem rowsI_set {R N i : Nat} {W : Nat → Nat → Int} {g : Nat → Int} {f : Nat → Int} {x : Int} (h : i < R) : (rowsI R N W g .lst).set i (.tup [.lst (rowD N f), .int x]) = rowsI R N (fun k => if k = i then f else W k) (fun k => if k = i then x else g k) .lst := by
  apply List.ext_getElem?
  intro k
  rw [List.getElem?_set]
  by_cases hk : k < R
  · rw [rowsI_get hk, rowsI_get hk]
    by_cases e : i = k
    · subst e; simp [h]
    · rw [if_neg e]; simp [Ne.symm e]
  · rw [List.getElem?_eq_none (l := rowsI R N W g .lst) (by simp; omega), List.getElem?_eq_none (by simp; omega)]
    split
    · next e => subst e; omega
    · rfl
section
variable {R N M : Nat} {W : Nat → Nat → Int} {g l y w : Nat → Int}
theorem law_pick_is {ps : List Nat} {x : Int} (hM : 1 ≤ M) (hl : ps.length < 1000) (hp : ∀ p, p ∈ ps → p < M) : ∃ q : Nat, q < M ∧ m_law_pick [.lst (ps.map fun i : Nat => D.int (i : Int)), .int x, .int 0] = .ok (.fz (.int q)) := by
  cases ps with
  | nil => exact ⟨0, by omega, rfl⟩
  | cons p ps =>
    obtain ⟨j, hj, ej⟩ := mod_nat x (m := (p :: ps).length) (by simp)
    have n0 : ¬ (((p :: ps).length : Nat) : Int) = 0 := by simp; omega
    have mm : oMod (.int x) (.int (((p :: ps).length : Nat) : Int)) = .ok (.fz (.int j)) := by rw [ev_mod (by simpa using n0), ej]
    have gx : atI ((p :: ps).map fun i : Nat => D.int (i : Int)) (j : Int) = some (.int ((p :: ps)[j] : Nat)) := by
      rw [DL.atI_nat, List.getElem?_map, List.getElem?_eq_getElem hj]; rfl
    refine ⟨(p :: ps)[j], hp _ (List.getElem_mem hj), runD_ok ?_⟩
    have qL : oLen [.lst ((p :: ps).map fun i : Nat => D.int (i : Int))] = .ok (.fz (.int (((p :: ps).length : Nat) : Int))) := by rw [ev_lenL, List.length_map]
    show b_law_pick [.fz (.lst ((p :: ps).map fun i : Nat => D.int (i : Int))), .fz (.int x), .fz (.int 0)] = _
    unfold b_law_pick
    simp only [ev_seq, ev_if, ev_tV, ev_e2, ev_eA, ev_aCons, ev_vs, ev_v0f, ev_bok, ev_rfz, ev_aNil, qL, ev_pok, ev_c, ev_copEq, ev_eqI, n0, decide_false, ev_asB, ev_ofM, Bool.false_eq_true, if_false, ev_next, ev_tn, ev_ret, ev_int, mm, ev_ixL, gx, ev_oR]
theorem law_with_bound_is {i : Nat} {x : Int} (hR : R < 1000) (hi : i < R) : m_law_with_bound [.lst (rowsI R N W g .lst), .int i, .int x] = .ok (.ow (rowsI R N W (fun k => if k = i then x else g k) .lst)) := by
  have hl : i < (rowsI R N W g .lst).length := by simpa using hi
  have cl := cut_len _ hl
  rw [rowsI_len] at cl
  have a1 : oAdd (.lst (cutD (rowsI R N W g .lst) none (some (i : Int)))) (.lst [.tup [.lst (rowD N (W i)), .int x]]) = .ok (.ow (cutD (rowsI R N W g .lst) none (some (i : Int)) ++ [.tup [.lst (rowD N (W i)), .int x]])) := add_l (by simp; omega)
  have a2 : oAdd (.lst (cutD (rowsI R N W g .lst) none (some (i : Int)) ++ [.tup [.lst (rowD N (W i)), .int x]])) (.lst (cutD (rowsI R N W g .lst) (some ((i : Int) + 1)) none)) = .ok (.ow (rowsI R N W (fun k => if k = i then x else g k) .lst)) := by
    rw [add_l (by simp; omega), cut_set _ hl, rowsI_set hi]
    have : (fun k => if k = i then W i else W k) = W := by funext k; by_cases e : k = i <;> simp [e]
    rw [this]
  have l1 : oLstD [.tup [.lst (rowD N (W i)), .int x]] = .ok (.ow [.tup [.lst (rowD N (W i)), .int x]]) := lst_ok (by simp)
  refine runD_ok ?_
  show b_law_with_bound [.fz (.lst (rowsI R N W g .lst)), .fz (.int i), .fz (.int x)] = _
  unfold b_law_with_bound
  simp only [ev_ret, ev_e2, e3', ps, pn, ai, ev_eA, ev_aCons, ev_vs, ev_v0f, ev_bok, ev_rfz, ev_row, ev_aNil, sl_l, ev_pok, rowsI_ix hi, ev_c, pair_0, tup_2, l1, a1, ev_add, a2, ev_ofM]
theorem law_with_weight_is {i k : Nat} {x : Int} (hR : R < 1000) (hi : i < R) (hk : k < N) : m_law_with_weight [.lst (rowsI R N W g .lst), .int i, .int k, .int x] = .ok (.ow (rowsI R N (fun r => if r = i then fun j => if j = k then W i k + x else W i j else W r) g .lst)) := by
  have hl : i < (rowsI R N W g .lst).length := by simpa using hi
  have cl := cut_len _ hl
  rw [rowsI_len] at cl
  have a1 : oAdd (.lst (cutD (rowsI R N W g .lst) none (some (i : Int)))) (.lst [.tup [.lst (rowD N fun j => if j = k then W i k + x else W i j), .int (g i)]]) = .ok (.ow (cutD (rowsI R N W g .lst) none (some (i : Int)) ++ [.tup [.lst (rowD N fun j => if j = k then W i k + x else W i j), .int (g i)]])) := add_l (by simp; omega)
  have a2 : oAdd (.lst (cutD (rowsI R N W g .lst) none (some (i : Int)) ++ [.tup [.lst (rowD N fun j => if j = k then W i k + x else W i j), .int (g i)]])) (.lst (cutD (rowsI R N W g .lst) (some ((i : Int) + 1)) none)) = .ok (.ow (rowsI R N (fun r => if r = i then fun j => if j = k then W i k + x else W i j else W r) g .lst)) := by
    rw [add_l (by simp; omega), cut_set _ hl, rowsI_set hi]
    have : (fun r => if r = i then g i else g r) = g := by funext r; by_cases e : r = i <;> simp [e]
    rw [this]
  have l1 : ∀ d : DL.D, oLstD [d] = .ok (.ow [d]) := fun d => lst_ok (by simp)
  have ol : ∀ ds : List DL.D, oList [.lst ds] = .ok (.ow ds) := fun _ => rfl
  refine runD_ok ?_
  show b_law_with_weight [.fz (.lst (rowsI R N W g .lst)), .fz (.int i), .fz (.int k), .fz (.int x), .un] = _
  unfold b_law_with_weight
  simp only [ev_seq, ev_set, ev_ret, ev_e2, e3', ps, pn, ai, ev_eA, ev_aCons, ev_vs, ev_v0f, ev_v0o, ev_bok, ev_rfz, ev_row, ev_aNil, sl_l, ev_pok, rowsI_ix hi, ev_c, pair_0, pair_1, ol, ev_ofM, ev_frzRow, ev_sow, List.set, ev_tn, ev_setIx, ev_ownS, ev_own0, ev_ixL, ix_row hk, ev_oR, ev_add, ev_frzInt, rowD_len, DL.ixN_nat hk, rowD_set hk, tup_2, l1, a1, a2]
end
end K03
end

section
set_option maxRecDepth 100000
set_option maxHeartbeats 1000000
/-! _law_best_changes: each is a task with a point and a paper of small numbers. -/
namespace K03
open L2 DL PG LW
def Cand5 (d : DL.D) : Prop := ∃ (N R : Nat) (W : Nat → Nat → Int) (g l : Nat → Int) (s : Int) (Ny : Nat) (y : Nat → Int) (Mw : Nat) (w : Nat → Int), d = .tup [.lst (rowD N l), .lst (rowsI R N W g .lst), .int s, .lst (rowD Ny y), .lst (rowD Mw w)] ∧ 1 ≤ N ∧ N < 1000 ∧ R < 1000 ∧ Ny < 1000 ∧ Mw < 1000 ∧
  (∀ k, k < R → ∀ i, i < N → Bd 100 (W k i)) ∧ (∀ k, k < R → Bd 100 (g k)) ∧ (∀ i, i < N → Bd 100 (l i)) ∧ Bd 100 s ∧ (∀ i, i < Ny → Bd 100 (y i)) ∧ ∀ k, k < Mw → Bd 100 (w k)
def PR (N : Nat) (e : DL.Env) (f : DL.Env → DL.M Rs) : Prop := ∃ r l, f e = .ok r ∧ r.d = .lst (rowD N l) ∧ ∀ i, i < N → Bd 100 (l i)
def TA (N : Nat) (e : DL.Env) (f : DL.Env → DL.M Rs) : Prop := ∃ r R W g, f e = .ok r ∧ r.d = .lst (rowsI R N W g .lst) ∧ R < 1000 ∧ (∀ k, k < R → ∀ i, i < N → Bd 100 (W k i)) ∧ ∀ k, k < R → Bd 100 (g k)
def SC (e : DL.Env) (f : DL.Env → DL.M Rs) : Prop := ∃ r s, f e = .ok r ∧ r.d = .int s ∧ Bd 100 s
def SP (e : DL.Env) (f : DL.Env → DL.M Rs) : Prop := ∃ r n y, f e = .ok r ∧ r.d = .lst (rowD n y) ∧ n < 1000 ∧ ∀ i, i < n → Bd 100 (y i)
def CD (e : DL.Env) (f : DL.Env → DL.M Rs) : Prop := ∃ d, f e = .ok (.fz d) ∧ Cand5 d
theorem t5 (a b c d e : DL.D) : oTupD [a, b, c, d, e] = .ok (.fz (.tup [a, b, c, d, e])) := tup_ok (by simp)
theorem cand5 {N : Nat} {e : DL.Env} {a b c p q : DL.Env → DL.M Rs} (n1 : 1 ≤ N) (nN : N < 1000) (ha : PR N e a) (hb : TA N e b) (hc : SC e c) (hp : SP e p) (hq : SP e q) : CD e (eA oTupD (aCons a (aCons b (aCons c (aCons p (aCons q aNil)))))) := by
  obtain ⟨r1, l, a1, a2, a3⟩ := ha
  obtain ⟨r2, R, W, g, b1, b2, b3, b4, b5⟩ := hb
  obtain ⟨r3, s, c1, c2, c3⟩ := hc
  obtain ⟨r4, Ny, y, p1, p2, p3, p4⟩ := hp
  obtain ⟨r5, Mw, w, q1, q2, q3, q4⟩ := hq
  refine ⟨_, ?_, N, R, W, g, l, s, Ny, y, Mw, w, rfl, n1, nN, b3, p3, q3, b4, b5, a3, c3, p4, q4⟩
  simp only [ev_eA, ev_aCons, a1, b1, c1, p1, q1, ev_bok, ev_aNil, a2, b2, c2, p2, q2, t5, ev_pok]
theorem k100 {x : Int} (h : -1000 < x) (h2 : x < 1000) : Bd 100 x := (bd_lit (n := 10) (by simp; omega) (by simp; omega)).up (by decide)
theorem addL {e : DL.Env} {f : DL.Env → DL.M Rs} {n : Nat} {y : Nat → Int} {x : DL.Env → DL.M Rs} {v : Int} (hf : f e = .ok (.fz (.lst (rowD n y)))) (hx : x e = .ok (.fz (.int v))) (hn : n < 1000) : e2 oAdd f (eA oLstD (aCons x aNil)) e = .ok (.ow (rowD (n + 1) fun i => if i < n then y i else v)) := by
  have l1 : oLstD [.int v] = .ok (.ow [.int v]) := lst_ok (by simp)
  have ad : oAdd (.lst (rowD n y)) (.lst [.int v]) = .ok (.ow (rowD (n + 1) fun i => if i < n then y i else v)) := by
    rw [add_l (by simp; omega), row_one, row_app]
  simp only [ev_e2, hf, ev_bok, ev_eA, ev_aCons, hx, ev_rfz, ev_aNil, l1, ev_pok, ev_row, ad]
theorem bd_app {n : Nat} {y : Nat → Int} {v : Int} (hy : ∀ i, i < n → Bd 100 (y i)) (hv : Bd 100 v) : ∀ i, i < n + 1 → Bd 100 (if i < n then y i else v) := fun i hi => by
  split
  · rename_i h; exact hy i h
  · exact hv
section
variable {R N : Nat} {W : Nat → Nat → Int} {nb g l y w ls g2 : Nat → Int} {tm us : Int} {p q r : Nat}
/-- the names of _law_best_changes, frozen -/
def vB (R N : Nat) (W : Nat → Nat → Int) (nb g l y w ls g2 : Nat → Int) (tm us : Int) (p q r : Nat) (s16 s17 s18 : DL.Sl) : DL.Env :=
  [.fz (.lst (rowD 200 nb)), .fz (.lst (rowD N l)), .fz (.lst (rowsI R N W g .lst)), .fz (.lst (rowD N y)), .fz (.lst (rowD R w)), .fz (.int N), .fz (.int R), .fz (.int tm), .fz (.int p), .fz (.int q), .fz (.int r), .fz (.int us), .fz (.lst (rowD N ls)),
    .fz (.lst (rowsI R (N + 1) (fun k j => if j < N then W k j else 0) g .lst)), .fz (.lst (rowsI (R + 1) N (fun k => if k < R then W k else fun _ => 0) (fun k => if k < R then g k else 0) .lst)), .fz (.lst (rowsI R N W g2 .lst)), s16, s17, s18, .un, .un, .un]
structure BOk (R N : Nat) (W : Nat → Nat → Int) (g l y w ls g2 : Nat → Int) (tm us : Int) (p q r : Nat) : Prop where
  rR : R < 100
  r1 : 1 ≤ R
  n1 : 1 ≤ N
  nN : N ≤ 24
  p1 : p < R
  q1 : q < R
  r2 : r < N
  wb : ∀ k, k < R → ∀ i, i < N → Bd 60 (W k i)
  gb : ∀ k, k < R → Bd 60 (g k)
  lb : ∀ i, i < N → Bd 60 (l i)
  yb : ∀ i, i < N → Bd 10 (y i)
  wwb : ∀ i, i < R → Bd 10 (w i)
  lsb : ∀ i, i < N → Bd 90 (ls i)
  g2b : ∀ k, k < R → Bd 90 (g2 k)
  tb : 0 ≤ tm ∧ tm < 10
  ub : Bd 80 us
structure Rd (R N : Nat) (W : Nat → Nat → Int) (nb g l y w ls g2 : Nat → Int) (tm us : Int) (p q r : Nat) (e : DL.Env) : Prop where
  v0 : eVar 0 e = .ok (.fz (.lst (rowD 200 nb)))
  v1 : eVar 1 e = .ok (.fz (.lst (rowD N l)))
  v2 : eVar 2 e = .ok (.fz (.lst (rowsI R N W g .lst)))
  v3 : eVar 3 e = .ok (.fz (.lst (rowD N y)))
  v4 : eVar 4 e = .ok (.fz (.lst (rowD R w)))
  v5 : eVar 5 e = .ok (.fz (.int N))
  v6 : eVar 6 e = .ok (.fz (.int R))
  v7 : eVar 7 e = .ok (.fz (.int tm))
  v8 : eVar 8 e = .ok (.fz (.int p))
  v9 : eVar 9 e = .ok (.fz (.int q))
  v10 : eVar 10 e = .ok (.fz (.int r))
  v11 : eVar 11 e = .ok (.fz (.int us))
  v12 : eVar 12 e = .ok (.fz (.lst (rowD N ls)))
  v13 : eVar 13 e = .ok (.fz (.lst (rowsI R (N + 1) (fun k j => if j < N then W k j else 0) g .lst)))
  v14 : eVar 14 e = .ok (.fz (.lst (rowsI (R + 1) N (fun k => if k < R then W k else fun _ => 0) (fun k => if k < R then g k else 0) .lst)))
  v15 : eVar 15 e = .ok (.fz (.lst (rowsI R N W g2 .lst)))
theorem rd {e : DL.Env} {s16 s17 s18 : DL.Sl} (h : e.map Sl.frz = vB R N W nb g l y w ls g2 tm us p q r s16 s17 s18) : Rd R N W nb g l y w ls g2 tm us p q r e :=
  ⟨ev_view h rfl, ev_view h rfl, ev_view h rfl, ev_view h rfl, ev_view h rfl, ev_view h rfl, ev_view h rfl, ev_view h rfl, ev_view h rfl, ev_view h rfl, ev_view h rfl, ev_view h rfl, ev_view h rfl, ev_view h rfl, ev_view h rfl, ev_view h rfl⟩
variable {e : DL.Env}
theorem zeroL {i : Nat} {n : Nat} (h : eVar i e = .ok (.fz (.int n))) (hn : n < 1000) : SP e (e2 oMul (eA oLstD (aCons (eC (.int 0)) aNil)) (eVar i)) := by
  have l0 : oLstD [.int 0] = .ok (.ow [.int 0]) := lst_ok (by simp)
  refine ⟨.ow (rowD n fun _ => 0), n, _, ?_, rfl, hn, fun i _ => bd_0 _⟩
  simp only [ev_e2, ev_eA, ev_aCons, ev_c, ev_aNil, ev_bok, ev_rfz, l0, ev_pok, ev_row, h, zeros (show n < 1000000 by omega)]
theorem BOk.facts (B : BOk R N W g l y w ls g2 tm us p q r) (h : Rd R N W nb g l y w ls g2 tm us p q r e) :
    PR N e (eVar 1) ∧ PR (N + 1) e (e2 oAdd (eVar 1) (eA oLstD (aCons (eC (.int 0)) aNil))) ∧ PR N e (eVar 12) ∧ TA N e (eVar 2) ∧ TA (N + 1) e (eVar 13) ∧ TA N e (eVar 14) ∧ TA N e (eVar 15) ∧ SC e (eC (.int 0)) ∧ SC e (eC (.int 1)) ∧ SC e (eC (.int 2)) ∧ SC e (eVar 7) ∧
    SP e (eVar 3) ∧ SP e (eVar 4) ∧ SP e (e2 oAdd (eVar 3) (eA oLstD (aCons (eC (.int 0)) aNil))) ∧ SP e (e2 oAdd (eVar 3) (eA oLstD (aCons (e1 oNeg (eC (.int 1))) aNil))) ∧ SP e (e2 oAdd (eVar 4) (eA oLstD (aCons (eC (.int 0)) aNil))) ∧ SP e (e2 oAdd (eVar 4) (eA oLstD (aCons (e1 oNeg (eC (.int 1))) aNil))) ∧
    SP e (e2 oMul (eA oLstD (aCons (eC (.int 0)) aNil)) (eVar 5)) ∧ SP e (e2 oMul (eA oLstD (aCons (eC (.int 0)) aNil)) (eVar 6)) := by
  have nN := B.nN
  have rR := B.rR
  have lb : ∀ i, i < N → Bd 100 (l i) := fun i hi => (B.lb i hi).up (by decide)
  have yb : ∀ i, i < N → Bd 100 (y i) := fun i hi => (B.yb i hi).up (by decide)
  have wb : ∀ i, i < R → Bd 100 (w i) := fun i hi => (B.wwb i hi).up (by decide)
  have Wb : ∀ k, k < R → ∀ i, i < N → Bd 100 (W k i) := fun k hk i hi => (B.wb k hk i hi).up (by decide)
  have gb : ∀ k, k < R → Bd 100 (g k) := fun k hk => (B.gb k hk).up (by decide)
  have z : (eC (.int 0)) e = .ok (.fz (.int 0)) := rfl
  have m : (e1 oNeg (eC (.int 1))) e = .ok (.fz (.int (-1))) := eM1_is e
  refine ⟨⟨_, l, h.v1, rfl, lb⟩, ⟨_, _, addL h.v1 z (by omega), rfl, bd_app lb (bd_0 _)⟩, ⟨_, ls, h.v12, rfl, fun i hi => (B.lsb i hi).up (by decide)⟩, ⟨_, R, W, g, h.v2, rfl, by omega, Wb, gb⟩, ⟨_, R, _, g, h.v13, rfl, by omega, fun k hk i hi => ?_, gb⟩, ⟨_, R + 1, _, _, h.v14, rfl, by omega, fun k hk i hi => ?_, fun k hk => ?_⟩, ⟨_, R, W, g2, h.v15, rfl, by omega, Wb, fun k hk => (B.g2b k hk).up (by decide)⟩,
    ⟨_, 0, rfl, rfl, bd_0 _⟩, ⟨_, 1, rfl, rfl, k100 (by omega) (by omega)⟩, ⟨_, 2, rfl, rfl, k100 (by omega) (by omega)⟩, ⟨_, tm, h.v7, rfl, k100 (by have := B.tb; omega) (by have := B.tb; omega)⟩, ⟨_, N, y, h.v3, rfl, by omega, yb⟩, ⟨_, R, w, h.v4, rfl, by omega, wb⟩,
    ⟨_, N + 1, _, addL h.v3 z (by omega), rfl, by omega, bd_app yb (bd_0 _)⟩, ⟨_, N + 1, _, addL h.v3 m (by omega), rfl, by omega, bd_app yb (k100 (by omega) (by omega))⟩, ⟨_, R + 1, _, addL h.v4 z (by omega), rfl, by omega, bd_app wb (bd_0 _)⟩, ⟨_, R + 1, _, addL h.v4 m (by omega), rfl, by omega, bd_app wb (k100 (by omega) (by omega))⟩, zeroL h.v5 (by omega), zeroL h.v6 (by omega)⟩
  · show Bd 100 (if i < N then W k i else 0)
    split
    · rename_i hi; exact Wb k hk i hi
    · exact bd_0 _
  · show Bd 100 ((if k < R then W k else fun _ => 0) i)
    split
    · rename_i hk; exact Wb k hk i hi
    · exact bd_0 _
  · show Bd 100 (if k < R then g k else 0)
    split
    · rename_i hk; exact gb k hk
    · exact bd_0 _
/-- found + [one, other] -/
theorem plus2 {fnd : List DL.D} {c1 c2 : DL.Env → DL.M Rs} (hf : eVar 16 e = .ok (.fz (.lst fnd))) (hl : fnd.length < 100) (h1 : CD e c1) (h2 : CD e c2) : ∃ d1 d2, e2 oAdd (eVar 16) (eA oLstD (aCons c1 (aCons c2 aNil))) e = .ok (.ow (fnd ++ [d1, d2])) ∧ Cand5 d1 ∧ Cand5 d2 := by
  obtain ⟨d1, a1, a2⟩ := h1
  obtain ⟨d2, b1, b2⟩ := h2
  refine ⟨d1, d2, ?_, a2, b2⟩
  have l2 : oLstD [d1, d2] = .ok (.ow [d1, d2]) := lst_ok (by simp)
  simp only [ev_e2, hf, ev_bok, ev_eA, ev_aCons, a1, b1, ev_rfz, ev_aNil, l2, ev_pok, ev_row]
  rw [add_l (by simp; omega)]
  rfl
/-- where the list stands -/
def At (R N : Nat) (W : Nat → Nat → Int) (nb g l y w ls g2 : Nat → Int) (tm us : Int) (p q r : Nat) (s17 s18 : DL.Sl) (fnd : List DL.D) (e : DL.Env) : Prop :=
  e.map Sl.frz = vB R N W nb g l y w ls g2 tm us p q r (.fz (.lst fnd)) s17 s18 ∧ e[16]? = some (.ow fnd) ∧ fnd.length < 50 ∧ ∀ d, d ∈ fnd → Cand5 d
theorem at_plus {s17 s18 : DL.Sl} {fnd : List DL.D} {A : List Nat} {c1 c2 : DL.Env → DL.M Rs} {n : Nat} (h : At R N W nb g l y w ls g2 tm us p q r s17 s18 fnd e) (hn : fnd.length = n) (hn2 : n < 40) (h1 : CD e c1) (h2 : CD e c2) :
    ∃ e' fnd', sSet 16 A (e2 oAdd (eVar 16) (eA oLstD (aCons c1 (aCons c2 aNil)))) e = .nx e' ∧ At R N W nb g l y w ls g2 tm us p q r s17 s18 fnd' e' ∧ fnd'.length = n + 2 := by
  obtain ⟨hv, ho, hl, hc⟩ := h
  obtain ⟨d1, d2, e1, c1', c2'⟩ := plus2 (ev_view hv rfl) (by omega) h1 h2
  obtain ⟨e', s1, s2, s3⟩ := view_sSet hv (i := 16) (A := A) e1 (by simp [vB])
  refine ⟨e', fnd ++ [d1, d2], s1, ⟨s2, s3, by simp; omega, fun d hd => ?_⟩, by simp; omega⟩
  rcases List.mem_append.mp hd with h | h
  · exact hc d h
  · simp only [List.mem_cons, List.not_mem_nil, or_false] at h
    rcases h with rfl | rfl
    · exact c1'
    · exact c2'
theorem at_app {s17 s18 : DL.Sl} {fnd : List DL.D} {A : List Nat} {c1 : DL.Env → DL.M Rs} {n : Nat} (h : At R N W nb g l y w ls g2 tm us p q r s17 s18 fnd e) (hn : fnd.length = n) (hn2 : n < 40) (hA : 16 ∉ A) (h1 : CD e c1) :
    ∃ e' fnd', sApp 16 A c1 e = .nx e' ∧ At R N W nb g l y w ls g2 tm us p q r s17 s18 fnd' e' ∧ fnd'.length = n + 1 := by
  obtain ⟨hv, ho, hl, hc⟩ := h
  obtain ⟨d1, e1, c1'⟩ := h1
  obtain ⟨e', s1, s2, s3⟩ := view_sApp hv ho hA e1 (by omega)
  refine ⟨e', fnd ++ [d1], s1, ⟨s2, s3, by simp; omega, fun d hd => ?_⟩, by simp; omega⟩
  rcases List.mem_append.mp hd with h | h
  · exact hc d h
  · simp only [List.mem_cons, List.not_mem_nil, or_false] at h
    subst h
    exact c1'
theorem at_int17 {s17 s18 : DL.Sl} {fnd : List DL.D} {A : List Nat} {f : DL.Env → DL.M Rs} {k : Int} (h : At R N W nb g l y w ls g2 tm us p q r s17 s18 fnd e) (hA : 16 ∉ A) (hf : f e = .ok (.fz (.int k))) :
    ∃ e', sSet 17 A f e = .nx e' ∧ At R N W nb g l y w ls g2 tm us p q r (.fz (.int k)) s18 fnd e' := by
  obtain ⟨hv, ho, hl, hc⟩ := h
  obtain ⟨e', s1, s2, s3⟩ := view_sSet hv (i := 17) (A := A) hf (by simp [vB])
  exact ⟨e', s1, s2, view_keep hf hA (by decide) ho s1, hl, hc⟩
theorem at_int18 {s17 s18 : DL.Sl} {fnd : List DL.D} {A : List Nat} {f : DL.Env → DL.M Rs} {k : Int} (h : At R N W nb g l y w ls g2 tm us p q r s17 s18 fnd e) (hA : 16 ∉ A) (hf : f e = .ok (.fz (.int k))) :
    ∃ e', sSet 18 A f e = .nx e' ∧ At R N W nb g l y w ls g2 tm us p q r s17 (.fz (.int k)) fnd e' := by
  obtain ⟨hv, ho, hl, hc⟩ := h
  obtain ⟨e', s1, s2, s3⟩ := view_sSet hv (i := 18) (A := A) hf (by simp [vB])
  exact ⟨e', s1, s2, view_keep hf hA (by decide) ho s1, hl, hc⟩
/-- one number of a row raised -/
theorem bumped {i j : Nat} {n k : Nat} {f : Nat → Int} (hi : eVar i e = .ok (.fz (.lst (rowD n f)))) (hj : eVar j e = .ok (.fz (.int k))) (hk : k < n) (hn : n < 900) (hf : ∀ i, i < n → Bd 10 (f i)) :
    SP e (e2 oAdd (e2 oAdd (e3o oSl (eVar i) pNo (pSome (eVar j))) (eA oLstD (aCons (e2 oAdd (e2 oIx (eVar i) (eVar j)) (eC (.int 1))) aNil))) (e3o oSl (eVar i) (pSome (e2 oAdd (eVar j) (eC (.int 1)))) pNo)) := by
  have hl : k < (rowD n f).length := by simpa using hk
  have cl := cut_len _ hl
  rw [rowD_len] at cl
  have l1 : oLstD [.int (f k + 1)] = .ok (.ow [.int (f k + 1)]) := lst_ok (by simp)
  have a1 : oAdd (.lst (cutD (rowD n f) none (some (k : Int)))) (.lst [.int (f k + 1)]) = .ok (.ow (cutD (rowD n f) none (some (k : Int)) ++ [.int (f k + 1)])) := add_l (by simp; omega)
  have a2 : oAdd (.lst (cutD (rowD n f) none (some (k : Int)) ++ [.int (f k + 1)])) (.lst (cutD (rowD n f) (some ((k : Int) + 1)) none)) = .ok (.ow (rowD n fun i => if i = k then f k + 1 else f i)) := by
    rw [add_l (by simp; omega), cut_set _ hl, rowD_set hk]
  refine ⟨.ow (rowD n fun i => if i = k then f k + 1 else f i), n, _, ?_, rfl, by omega, fun i hi => ?_⟩
  · simp only [ev_e2, e3', ps, pn, ai, ev_eA, ev_aCons, hi, hj, ev_bok, ev_rfz, ev_row, ev_aNil, sl_l, ev_pok, ev_ixL, ix_row hk, ev_oR, ev_c, ev_add, l1, a1, a2]
  · show Bd 100 (if i = k then f k + 1 else f i)
    split
    · exact ((hf k hk).add (bd_lit (n := 10) (x := 1) (by decide) (by decide))).up (by decide)
    · exact (hf i hi).up (by decide)
end
def bc0 : DL.Env → DL.So := (sSet 5 [1] (eA oLen (aCons (eVar 1) aNil)))
def bc1 : DL.Env → DL.So := (sSet 6 [2] (eA oLen (aCons (eVar 2) aNil)))
def bc2 : DL.Env → DL.So := (sSet 7 [0] (e2 oAdd (eC (.int 2)) (e2 oMod (eA oInt (aCons (e2 oIx (eVar 0) (eC (.int 8))) aNil)) (eC (.int 5)))))
def bc3 : DL.Env → DL.So := (sSet 8 (List.range 64 ++ [0]) (eA (oCal 3 m_law_pick) (aCons (eLc [18] (iA oRng1 (aCons (eVar 6) aNil)) (nName 18) (tV (e2 (cop .Eq) (e2 oIx (eVar 4) (eVar 18)) (eC (.int 0)))) (eVar 18)) (aCons (e2 oIx (eVar 0) (eC (.int 6))) (aCons (eC (.int 0)) aNil)))))
def bc4 : DL.Env → DL.So := (sSet 9 (List.range 64 ++ [0]) (eA (oCal 3 m_law_pick) (aCons (eLc [18] (iA oRng1 (aCons (eVar 6) aNil)) (nName 18) (tV (e2 (cop .Gt) (e2 oIx (eVar 4) (eVar 18)) (eC (.int 0)))) (eVar 18)) (aCons (e2 oIx (eVar 0) (eC (.int 7))) (aCons (eC (.int 0)) aNil)))))
def bc5 : DL.Env → DL.So := (sSet 10 (List.range 64 ++ [0]) (eA (oCal 3 m_law_pick) (aCons (eLc [17] (iA oRng1 (aCons (eVar 5) aNil)) (nName 17) (tV (e2 (cop .Eq) (e2 oIx (eVar 3) (eVar 17)) (eC (.int 0)))) (eVar 17)) (aCons (e2 oIx (eVar 0) (eC (.int 9))) (aCons (eC (.int 0)) aNil)))))
def bc6 : DL.Env → DL.So := (sSet 11 [2, 4, 10] (eA (oCal 3 m_law_column) (aCons (eVar 2) (aCons (eVar 4) (aCons (eVar 10) aNil)))))
def bc7 : DL.Env → DL.So := (sSet 12 [1] (eA oList (aCons (eVar 1) aNil)))
def bc8 : DL.Env → DL.So := (sSetIx 12 [1, 10, 11] [10] (eA oMax (aCons (eC (.int 0)) (aCons (e2 oSub (eA oMin (aCons (e2 oIx (eVar 1) (eVar 10)) (aCons (eVar 11) aNil))) (eC (.int 1))) aNil))) (eVar 10))
def bc9 : DL.Env → DL.So := (sSet 13 (List.range 64) (eLc [19, 20] (iE iterA (eVar 2)) (nTup 2 (nCons (nName 19) (nCons (nName 20) nNil))) tYesD (eA oTupD (aCons (e2 oAdd (eVar 19) (eA oLstD (aCons (eC (.int 0)) aNil))) (aCons (eVar 20) aNil)))))
def bc10 : DL.Env → DL.So := (sSet 14 [2, 5] (e2 oAdd (eVar 2) (eA oLstD (aCons (eA oTupD (aCons (e2 oMul (eA oLstD (aCons (eC (.int 0)) aNil)) (eVar 5)) (aCons (eC (.int 0)) aNil))) aNil))))
def bc11 : DL.Env → DL.So := (sSet 15 [2, 8, 2, 8, 3] (eA (oCal 3 m_law_with_bound) (aCons (eVar 2) (aCons (eVar 8) (aCons (e2 oAdd (eA (oCal 2 m_law_dot) (aCons (e2 oIx (e2 oIx (eVar 2) (eVar 8)) (eC (.int 0))) (aCons (eVar 3) aNil))) (eC (.int 1))) aNil)))))
def bc12 : DL.Env → DL.So := (sSet 16 ([1, 2, 7] ++ (List.range 64 ++ List.range 64)) (eA oLstD (aCons (eA oTupD (aCons (eVar 1) (aCons (eVar 2) (aCons (eVar 7) (aCons (eLc [21] (iE iterA (eVar 3)) (nName 21) tYesD (e2 oMul (eVar 7) (eVar 21))) (aCons (eLc [21] (iE iterA (eVar 4)) (nName 21) tYesD (e2 oMul (eVar 7) (eVar 21))) aNil)))))) aNil)))
def bc13 : DL.Env → DL.So := (sSet 16 [16, 1, 2, 5, 6, 1, 2, 3, 4] (e2 oAdd (eVar 16) (eA oLstD (aCons (eA oTupD (aCons (eVar 1) (aCons (eVar 2) (aCons (eC (.int 0)) (aCons (e2 oMul (eA oLstD (aCons (eC (.int 0)) aNil)) (eVar 5)) (aCons (e2 oMul (eA oLstD (aCons (eC (.int 0)) aNil)) (eVar 6)) aNil)))))) (aCons (eA oTupD (aCons (eVar 1) (aCons (eVar 2) (aCons (eC (.int 2)) (aCons (eVar 3) (aCons (eVar 4) aNil)))))) aNil)))))
def bc14 : DL.Env → DL.So := (sSet 16 [16, 1, 13, 3, 4, 1, 13, 3, 4] (e2 oAdd (eVar 16) (eA oLstD (aCons (eA oTupD (aCons (e2 oAdd (eVar 1) (eA oLstD (aCons (eC (.int 0)) aNil))) (aCons (eVar 13) (aCons (eC (.int 1)) (aCons (e2 oAdd (eVar 3) (eA oLstD (aCons (eC (.int 0)) aNil))) (aCons (eVar 4) aNil)))))) (aCons (eA oTupD (aCons (e2 oAdd (eVar 1) (eA oLstD (aCons (eC (.int 0)) aNil))) (aCons (eVar 13) (aCons (eC (.int 1)) (aCons (e2 oAdd (eVar 3) (eA oLstD (aCons (e1 oNeg (eC (.int 1))) aNil))) (aCons (eVar 4) aNil)))))) aNil)))))
def bc15 : DL.Env → DL.So := (sSet 16 [16, 1, 13, 3, 4, 1, 2, 3, 4] (e2 oAdd (eVar 16) (eA oLstD (aCons (eA oTupD (aCons (e2 oAdd (eVar 1) (eA oLstD (aCons (eC (.int 0)) aNil))) (aCons (eVar 13) (aCons (eC (.int 1)) (aCons (eVar 3) (aCons (eVar 4) aNil)))))) (aCons (eA oTupD (aCons (eVar 1) (aCons (eVar 2) (aCons (eC (.int 1)) (aCons (e2 oAdd (eVar 3) (eA oLstD (aCons (eC (.int 0)) aNil))) (aCons (eVar 4) aNil)))))) aNil)))))
def bc16 : DL.Env → DL.So := (sSet 16 [16, 1, 14, 3, 4, 1, 14, 3, 4] (e2 oAdd (eVar 16) (eA oLstD (aCons (eA oTupD (aCons (eVar 1) (aCons (eVar 14) (aCons (eC (.int 1)) (aCons (eVar 3) (aCons (e2 oAdd (eVar 4) (eA oLstD (aCons (eC (.int 0)) aNil))) aNil)))))) (aCons (eA oTupD (aCons (eVar 1) (aCons (eVar 14) (aCons (eC (.int 1)) (aCons (eVar 3) (aCons (e2 oAdd (eVar 4) (eA oLstD (aCons (e1 oNeg (eC (.int 1))) aNil))) aNil)))))) aNil)))))
def bc17 : DL.Env → DL.So := (sSet 16 [16, 1, 14, 3, 4, 1, 2, 3, 4] (e2 oAdd (eVar 16) (eA oLstD (aCons (eA oTupD (aCons (eVar 1) (aCons (eVar 14) (aCons (eC (.int 1)) (aCons (eVar 3) (aCons (eVar 4) aNil)))))) (aCons (eA oTupD (aCons (eVar 1) (aCons (eVar 2) (aCons (eC (.int 1)) (aCons (eVar 3) (aCons (e2 oAdd (eVar 4) (eA oLstD (aCons (eC (.int 0)) aNil))) aNil)))))) aNil)))))
def bc18 : DL.Env → DL.So := (sSet 16 [16, 1, 15, 3, 4, 12, 2, 3, 4] (e2 oAdd (eVar 16) (eA oLstD (aCons (eA oTupD (aCons (eVar 1) (aCons (eVar 15) (aCons (eC (.int 1)) (aCons (eVar 3) (aCons (eVar 4) aNil)))))) (aCons (eA oTupD (aCons (eVar 12) (aCons (eVar 2) (aCons (eC (.int 1)) (aCons (eVar 3) (aCons (eVar 4) aNil)))))) aNil)))))
def bc19 : DL.Env → DL.So := (sApp 16 [1, 2, 9, 2, 9, 3, 4] (eA oTupD (aCons (eVar 1) (aCons (eA (oCal 3 m_law_with_bound) (aCons (eVar 2) (aCons (eVar 9) (aCons (e2 oSub (e2 oIx (e2 oIx (eVar 2) (eVar 9)) (eC (.int 1))) (eC (.int 1))) aNil)))) (aCons (eC (.int 1)) (aCons (eVar 3) (aCons (eVar 4) aNil)))))))
def bc20 : DL.Env → DL.So := (sApp 16 [1, 2, 9, 10, 1, 10, 11, 3, 4] (eA oTupD (aCons (eVar 1) (aCons (eA (oCal 4 m_law_with_weight) (aCons (eVar 2) (aCons (eVar 9) (aCons (eVar 10) (aCons (e2 oAdd (e2 oSub (e2 oIx (eVar 1) (eVar 10)) (eVar 11)) (eC (.int 1))) aNil))))) (aCons (eC (.int 1)) (aCons (eVar 3) (aCons (eVar 4) aNil)))))))
def bc21 : DL.Env → DL.So := (sSet 17 [0, 5] (e2 oMod (eA oInt (aCons (e2 oIx (eVar 0) (eC (.int 10))) aNil)) (eVar 5)))
def bc22 : DL.Env → DL.So := (sApp 16 [1, 2, 3, 17, 3, 17, 3, 17, 4] (eA oTupD (aCons (eVar 1) (aCons (eVar 2) (aCons (eC (.int 1)) (aCons (e2 oAdd (e2 oAdd (e3o oSl (eVar 3) pNo (pSome (eVar 17))) (eA oLstD (aCons (e2 oAdd (e2 oIx (eVar 3) (eVar 17)) (eC (.int 1))) aNil))) (e3o oSl (eVar 3) (pSome (e2 oAdd (eVar 17) (eC (.int 1)))) pNo)) (aCons (eVar 4) aNil)))))))
def bc23 : DL.Env → DL.So := (sSet 18 [0, 6] (e2 oMod (eA oInt (aCons (e2 oIx (eVar 0) (eC (.int 13))) aNil)) (eVar 6)))
def bc24 : DL.Env → DL.So := (sApp 16 [1, 2, 3, 4, 18, 4, 18, 4, 18] (eA oTupD (aCons (eVar 1) (aCons (eVar 2) (aCons (eC (.int 1)) (aCons (eVar 3) (aCons (e2 oAdd (e2 oAdd (e3o oSl (eVar 4) pNo (pSome (eVar 18))) (eA oLstD (aCons (e2 oAdd (e2 oIx (eVar 4) (eVar 18)) (eC (.int 1))) aNil))) (e3o oSl (eVar 4) (pSome (e2 oAdd (eVar 18) (eC (.int 1)))) pNo)) aNil)))))))
def bc25 : DL.Env → DL.So := (sRetV 16)
theorem bc_chain : b_law_best_changes = sSeq bc0 (sSeq bc1 (sSeq bc2 (sSeq bc3 (sSeq bc4 (sSeq bc5 (sSeq bc6 (sSeq bc7 (sSeq bc8 (sSeq bc9 (sSeq bc10 (sSeq bc11 (sSeq bc12 (sSeq bc13 (sSeq bc14 (sSeq bc15 (sSeq bc16 (sSeq bc17 (sSeq bc18 (sSeq bc19 (sSeq bc20 (sSeq bc21 (sSeq bc22 (sSeq bc23 (sSeq bc24 (bc25))))))))))))))))))))))))) := rfl

end K03
end

section
set_option maxRecDepth 100000
set_option maxHeartbeats 1000000
namespace K03
open L2 DL PG LW
section
variable {R N : Nat} {W : Nat → Nat → Int} {nb g l y w : Nat → Int}
theorem len_view {e V : DL.Env} (h : e.map Sl.frz = V) : e.length = V.length := by rw [← h, List.length_map]
theorem timesL {e : DL.Env} {V : DL.Env} {i n : Nat} {f : Nat → Int} {tm : Int} (h : e.map Sl.frz = V) (hl : V.length = 22) (hi : eVar i e = .ok (.fz (.lst (rowD n f)))) (h7 : V[7]? = some (.fz (.int tm))) (ht : 0 ≤ tm ∧ tm < 10) (hn : n < 1000) (hf : ∀ i, i < n → Bd 10 (f i)) :
    SP e (eLc [21] (iE iterA (eVar i)) (nName 21) tYesD (e2 oMul (eVar 7) (eVar 21))) := by
  have mt : ∀ x : Int, oMul (.int tm) (.int x) = .ok (.fz (.int (tm * x))) := fun x => mul_l (by omega)
  refine ⟨.ow (rowD n fun k => tm * f k), n, _, ?_, rfl, hn, fun k hk => ?_⟩
  · refine ev_lc (ds := rowD n f) (by rw [len_view h]; omega) (by simp [hi]) ?_ (.inr (by simp; omega))
    rw [h]
    refine lcL_map (List.range n) _ (fun k => .int (tm * f k)) fun k hk => ⟨_, .fz (.int (tm * f k)), rfl, rfl, ?_, rfl⟩
    have a7 : eVar 7 (((wipeE V [21]).set 21 (.fz (.int (f k))))) = .ok (.fz (.int tm)) := by
      refine ev_view rfl ?_
      rw [List.getElem?_map, List.getElem?_set_ne (by decide)]
      show (V.set 21 .un)[7]?.map _ = _
      rw [List.getElem?_set_ne (by decide), h7]; rfl
    have a21 : eVar 21 (((wipeE V [21]).set 21 (.fz (.int (f k))))) = .ok (.fz (.int (f k))) := by
      refine ev_view rfl ?_
      rw [List.getElem?_map, List.getElem?_set_self (by show 21 < (V.set 21 .un).length; rw [List.length_set]; omega)]; rfl
    simp only [ev_e2, a7, a21, ev_bok, ev_rfz, mt, ev_pok]
  · have : Bd 4 tm := bd_lit (by simp; omega) (by simp; omega)
    exact (this.mul (hf k hk)).up (by decide)
theorem filt_mem {M : Nat} {p : Nat → Bool} : ∀ x, x ∈ (List.range M).filter p → x < M := fun x hx => List.mem_range.mp (List.mem_filter.mp hx).1
theorem filt_len {M : Nat} {p : Nat → Bool} : ((List.range M).filter p).length ≤ M := by
  have := List.length_filter_le p (List.range M)
  simpa using this
theorem law_best_changes_is (T : Task R N W g l) (r1 : 1 ≤ R) (yb : ∀ i, i < N → Bd 10 (y i)) (wwb : ∀ i, i < R → Bd 10 (w i)) :
    ∃ ds, m_law_best_changes [.lst (rowD 200 nb), .lst (rowD N l), .lst (rowsI R N W g .lst), .lst (rowD N y), .lst (rowD R w)] = .ok (.ow ds) ∧ ∀ d, d ∈ ds → Cand5 d := by
  have nN := T.nN
  have rR := T.rR
  have n1 := T.n1
  have c8 : atI (rowD 200 nb) 8 = some (.int (nb 8)) := ix_row (j := 8) (by decide)
  have c6 : atI (rowD 200 nb) 6 = some (.int (nb 6)) := ix_row (j := 6) (by decide)
  have c7 : atI (rowD 200 nb) 7 = some (.int (nb 7)) := ix_row (j := 7) (by decide)
  have c9 : atI (rowD 200 nb) 9 = some (.int (nb 9)) := ix_row (j := 9) (by decide)
  have c10 : atI (rowD 200 nb) 10 = some (.int (nb 10)) := ix_row (j := 10) (by decide)
  have c13 : atI (rowD 200 nb) 13 = some (.int (nb 13)) := ix_row (j := 13) (by decide)
  have tmb := mod_b (nb 8) (m := 5) (by decide)
  have rN : oRng1 [.int N] = .ok (rgD N) := rng1 (by omega)
  have rRr : oRng1 [.int R] = .ok (rgD R) := rng1 (by omega)
  obtain ⟨p, hp, ep⟩ := law_pick_is (M := R) (ps := (List.range R).filter fun i => decide (w i = 0)) (x := nb 6) r1 (by have := filt_len (M := R) (p := fun i => decide (w i = 0)); omega) filt_mem
  obtain ⟨q, hq, eq⟩ := law_pick_is (M := R) (ps := (List.range R).filter fun i => decide (0 < w i)) (x := nb 7) r1 (by have := filt_len (M := R) (p := fun i => decide (0 < w i)); omega) filt_mem
  obtain ⟨r, hr, er⟩ := law_pick_is (M := N) (ps := (List.range N).filter fun i => decide (y i = 0)) (x := nb 9) n1 (by have := filt_len (M := N) (p := fun i => decide (y i = 0)); omega) filt_mem
  have sW : ∀ k, k < R → ∀ i, i < N → Sml (W k i) := fun k hk i hi => (T.wb k hk i hi).sml (by omega)
  have sg : ∀ k, k < R → Sml (g k) := fun k hk => (T.gb k hk).sml (by omega)
  have sw : ∀ k, k < R → Sml (w k) := fun k hk => (wwb k hk).sml (by omega)
  have co := law_column_is (g := g) (W := W) (N := N) (Nat.le_refl R) (show R < 1000 by omega) hr (Sq.l (rowD R w)) sW sw
  have ub : Bd 80 (dotF R w fun i => W i r) := (sm_bd7 (n := 70) (fun i hi => (wwb i hi).mul (T.wb i hi r hr)) (by omega)).up (by decide)
  generalize hus : dotF R w (fun i => W i r) = us at co ub
  generalize htm : 2 + (nb 8).fmod 5 = tm
  have f3 : ∀ e8 e9 e10, eLc [18] (iA oRng1 (aCons (eVar 6) aNil)) (nName 18) (tV (e2 (cop .Eq) (e2 oIx (eVar 4) (eVar 18)) (eC (.int 0)))) (eVar 18) [.fz (.lst (rowD 200 nb)), .fz (.lst (rowD N l)), .fz (.lst (rowsI R N W g .lst)), .fz (.lst (rowD N y)), .fz (.lst (rowD R w)), .fz (.int N), .fz (.int R), .fz (.int tm), e8, e9, e10, .un, .un, .un, .un, .un, .un, .un, .un, .un, .un, .un] = .ok (.ow (((List.range R).filter fun i => decide (w i = 0)).map fun i : Nat => D.int (i : Int))) := fun e8 e9 e10 => by
    refine ev_lc (ds := rgD R) (by simp) (by simp [rRr]) ?_ (.inr (by simp; omega))
    refine lcL_filter (List.range R) _ _ _ fun j hj => ?_
    have hj := List.mem_range.mp hj
    refine ⟨_, rfl, ?_, fun _ => ⟨.fz (.int (j : Int)), ?_, rfl⟩⟩
    · simp only [wipeE, List.map, List.set, ev_frzF, ev_frzU, ev_tV, ev_e2, ev_vs, ev_v0f, ev_bok, ev_rfz, ev_ixL, ix_row hj, ev_oR, ev_pok, ev_c, ev_copEq, ev_eqI, ev_asB]
    · simp only [wipeE, List.map, List.set, ev_vs, ev_v0f]
  have f4 : ∀ e8 e9 e10, eLc [18] (iA oRng1 (aCons (eVar 6) aNil)) (nName 18) (tV (e2 (cop .Gt) (e2 oIx (eVar 4) (eVar 18)) (eC (.int 0)))) (eVar 18) [.fz (.lst (rowD 200 nb)), .fz (.lst (rowD N l)), .fz (.lst (rowsI R N W g .lst)), .fz (.lst (rowD N y)), .fz (.lst (rowD R w)), .fz (.int N), .fz (.int R), .fz (.int tm), e8, e9, e10, .un, .un, .un, .un, .un, .un, .un, .un, .un, .un, .un] = .ok (.ow (((List.range R).filter fun i => decide (0 < w i)).map fun i : Nat => D.int (i : Int))) := fun e8 e9 e10 => by
    refine ev_lc (ds := rgD R) (by simp) (by simp [rRr]) ?_ (.inr (by simp; omega))
    refine lcL_filter (List.range R) _ _ _ fun j hj => ?_
    have hj := List.mem_range.mp hj
    refine ⟨_, rfl, ?_, fun _ => ⟨.fz (.int (j : Int)), ?_, rfl⟩⟩
    · simp only [wipeE, List.map, List.set, ev_frzF, ev_frzU, ev_tV, ev_e2, ev_vs, ev_v0f, ev_bok, ev_rfz, ev_ixL, ix_row hj, ev_oR, ev_pok, ev_c, ev_copGt, ev_gt, ev_asB]
    · simp only [wipeE, List.map, List.set, ev_vs, ev_v0f]
  have f5 : ∀ e8 e9 e10, eLc [17] (iA oRng1 (aCons (eVar 5) aNil)) (nName 17) (tV (e2 (cop .Eq) (e2 oIx (eVar 3) (eVar 17)) (eC (.int 0)))) (eVar 17) [.fz (.lst (rowD 200 nb)), .fz (.lst (rowD N l)), .fz (.lst (rowsI R N W g .lst)), .fz (.lst (rowD N y)), .fz (.lst (rowD R w)), .fz (.int N), .fz (.int R), .fz (.int tm), e8, e9, e10, .un, .un, .un, .un, .un, .un, .un, .un, .un, .un, .un] = .ok (.ow (((List.range N).filter fun i => decide (y i = 0)).map fun i : Nat => D.int (i : Int))) := fun e8 e9 e10 => by
    refine ev_lc (ds := rgD N) (by simp) (by simp [rN]) ?_ (.inr (by simp; omega))
    refine lcL_filter (List.range N) _ _ _ fun j hj => ?_
    have hj := List.mem_range.mp hj
    refine ⟨_, rfl, ?_, fun _ => ⟨.fz (.int (j : Int)), ?_, rfl⟩⟩
    · simp only [wipeE, List.map, List.set, ev_frzF, ev_frzU, ev_tV, ev_e2, ev_vs, ev_v0f, ev_bok, ev_rfz, ev_ixL, ix_row hj, ev_oR, ev_pok, ev_c, ev_copEq, ev_eqI, ev_asB]
    · simp only [wipeE, List.map, List.set, ev_vs, ev_v0f]
  have mi : ∀ a b : Int, oMin [.int a, .int b] = .ok (.fz (.int (if b < a then b else a))) := fun _ _ => rfl
  have ol : ∀ ds : List DL.D, oList [.lst ds] = .ok (.ow ds) := fun _ => rfl
  obtain ⟨lv, hlv⟩ : ∃ lv : Int, lv = (if 0 < (if us < l r then us else l r) - 1 then (if us < l r then us else l r) - 1 else 0) := ⟨_, rfl⟩
  have lvb : Bd 90 lv := by
    have a := T.lb r hr
    have k1 : Bd 80 1 := bd_lit (by decide) (by decide)
    have b : Bd 80 (if us < l r then us else l r) := by
      split
      · exact ub
      · exact a.up (by decide)
    rw [hlv]
    by_cases hc : 0 < (if us < l r then us else l r) - 1
    · rw [if_pos hc]; exact (b.sub k1).up (by decide)
    · rw [if_neg hc]; exact bd_0 _
  -- the first nine
  have pre : ∃ e8, (∀ rest, sSeq bc0 (sSeq bc1 (sSeq bc2 (sSeq bc3 (sSeq bc4 (sSeq bc5 (sSeq bc6 (sSeq bc7 (sSeq bc8 rest)))))))) [.fz (.lst (rowD 200 nb)), .fz (.lst (rowD N l)), .fz (.lst (rowsI R N W g .lst)), .fz (.lst (rowD N y)), .fz (.lst (rowD R w)), .un, .un, .un, .un, .un, .un, .un, .un, .un, .un, .un, .un, .un, .un, .un, .un, .un] = rest e8) ∧
      e8 = [.fz (.lst (rowD 200 nb)), .fz (.lst (rowD N l)), .fz (.lst (rowsI R N W g .lst)), .fz (.lst (rowD N y)), .fz (.lst (rowD R w)), .fz (.int N), .fz (.int R), .fz (.int tm), .fz (.int p), .fz (.int q), .fz (.int r), .fz (.int us), .ow (rowD N fun j => if j = r then lv else l j), .un, .un, .un, .un, .un, .un, .un, .un, .un] := by
    refine ⟨_, fun rest => ?_, rfl⟩
    unfold bc0 bc1 bc2 bc3 bc4 bc5 bc6 bc7 bc8
    simp only [ev_seq, ev_set, ev_eA, ev_e2, ev_aCons, ev_vs, ev_v0f, ev_v0o, ev_bok, ev_rfz, ev_row, ev_aNil, ev_c, ev_lenL, rowD_len, rowsI_len, ev_pok, ev_ofM, ev_frzInt, ev_sfz, List.set, ev_tn, ev_ixL, c8, c6, c7, c9, ev_oR, ev_int, m5', ev_add, htm, f3, f4, f5, oCal, List.length_cons, List.length_nil, if_true, ep, eq, er, co, ol, ev_frzRow, ev_sow, ev_setIx, ev_ownS, ev_own0, ix_row hr, mi, ev_sub, max_is, DL.ixN_nat hr, rowD_set hr, ← hlv]
  obtain ⟨e8, pre, he8⟩ := pre
  generalize hls : (fun j => if j = r then lv else l j) = ls at he8
  have lsb : ∀ i, i < N → Bd 90 (ls i) := fun i hi => by
    rw [← hls]
    show Bd 90 (if i = r then lv else l i)
    split
    · exact lvb
    · exact (T.lb i hi).up (by decide)
  -- wide, tall, raised
  have w9 : (eLc [19, 20] (iE iterA (eVar 2)) (nTup 2 (nCons (nName 19) (nCons (nName 20) nNil))) tYesD (eA oTupD (aCons (e2 oAdd (eVar 19) (eA oLstD (aCons (eC (.int 0)) aNil))) (aCons (eVar 20) aNil)))) e8 = .ok (.ow (rowsI R (N + 1) (fun k j => if j < N then W k j else 0) g .lst)) := by
    rw [he8]
    refine ev_lc (ds := rowsI R N W g .lst) (by simp) (by simp) ?_ (.inr (by simp; omega))
    refine lcL_map (List.range R) _ (fun k => .tup [.lst (rowD (N + 1) fun j => if j < N then W k j else 0), .int (g k)]) fun k hk => ?_
    refine ⟨_, .fz (.tup [.lst (rowD (N + 1) fun j => if j < N then W k j else 0), .int (g k)]), rfl, rfl, ?_, rfl⟩
    have ad := addL (f := eVar 19) (x := eC (.int 0)) (n := N) (y := W k) (v := 0) (e := [.fz (.lst (rowD 200 nb)), .fz (.lst (rowD N l)), .fz (.lst (rowsI R N W g .lst)), .fz (.lst (rowD N y)), .fz (.lst (rowD R w)), .fz (.int N), .fz (.int R), .fz (.int tm), .fz (.int p), .fz (.int q), .fz (.int r), .fz (.int us), .fz (.lst (rowD N ls)), .un, .un, .un, .un, .un, .un, .fz (.lst (rowD N (W k))), .fz (.int (g k)), .un]) rfl rfl (by omega)
    simp only [wipeE, List.map, List.set, ev_frzF, ev_frzO, ev_frzU, ev_eA, ev_aCons] at ad ⊢
    rw [ad]
    simp only [ev_bok, ev_row, ev_vs, ev_v0f, ev_rfz, ev_aNil, tup_2, ev_pok]
  have h8 : e8.map Sl.frz = [.fz (.lst (rowD 200 nb)), .fz (.lst (rowD N l)), .fz (.lst (rowsI R N W g .lst)), .fz (.lst (rowD N y)), .fz (.lst (rowD R w)), .fz (.int N), .fz (.int R), .fz (.int tm), .fz (.int p), .fz (.int q), .fz (.int r), .fz (.int us), .fz (.lst (rowD N ls)), .un, .un, .un, .un, .un, .un, .un, .un, .un] := by rw [he8]; rfl
  obtain ⟨e9, s9, h9, -⟩ := view_sSet h8 (i := 13) (A := List.range 64) w9 (by simp)
  have w10 : (e2 oAdd (eVar 2) (eA oLstD (aCons (eA oTupD (aCons (e2 oMul (eA oLstD (aCons (eC (.int 0)) aNil)) (eVar 5)) (aCons (eC (.int 0)) aNil))) aNil))) e9 = .ok (.ow (rowsI (R + 1) N (fun k => if k < R then W k else fun _ => 0) (fun k => if k < R then g k else 0) .lst)) := by
    have a2 : eVar 2 e9 = .ok (.fz (.lst (rowsI R N W g .lst))) := ev_view h9 rfl
    have a5 : eVar 5 e9 = .ok (.fz (.int N)) := ev_view h9 rfl
    have l0 : oLstD [.int 0] = .ok (.ow [.int 0]) := lst_ok (by simp)
    have l1 : ∀ d : DL.D, oLstD [d] = .ok (.ow [d]) := fun d => lst_ok (by simp)
    have pu : rowsI R N W g .lst ++ [D.tup [.lst (rowD N fun _ => 0), .int 0]] = rowsI (R + 1) N (fun k => if k < R then W k else fun _ => 0) (fun k => if k < R then g k else 0) .lst := by
      have := rowsI_push R N (fun k => if k < R then W k else fun _ => 0) (fun k => if k < R then g k else 0)
      simp only [Nat.lt_irrefl, if_false] at this
      have eq : rowsI R N (fun k => if k < R then W k else fun _ => 0) (fun k => if k < R then g k else 0) .lst = rowsI R N W g .lst := by
        unfold rowsI
        refine List.map_congr_left fun k hk => ?_
        have := List.mem_range.mp hk
        simp [this]
      rw [eq] at this
      exact this
    simp only [ev_e2, a2, a5, ev_bok, ev_eA, ev_aCons, ev_c, ev_rfz, ev_aNil, l0, ev_pok, ev_row, zeros (show N < 1000000 by omega), tup_2, l1]
    rw [add_l (by simp; omega), pu]
    rfl
  obtain ⟨e10, s10, h10, -⟩ := view_sSet h9 (i := 14) (A := [2, 5]) w10 (by simp)
  have dv := law_dot_is (show N < 1000000 by omega) (Nat.le_refl N) (Sq.l (rowD N (W p))) (Sq.l (rowD N y)) (fun j hj => mul_small (sW p hp j hj) ((yb j hj).sml (by omega)))
  have w11 : (eA (oCal 3 m_law_with_bound) (aCons (eVar 2) (aCons (eVar 8) (aCons (e2 oAdd (eA (oCal 2 m_law_dot) (aCons (e2 oIx (e2 oIx (eVar 2) (eVar 8)) (eC (.int 0))) (aCons (eVar 3) aNil))) (eC (.int 1))) aNil)))) e10 = .ok (.ow (rowsI R N W (fun k => if k = p then dotF N (W p) y + 1 else g k) .lst)) := by
    have a2 : eVar 2 e10 = .ok (.fz (.lst (rowsI R N W g .lst))) := ev_view h10 rfl
    have a3 : eVar 3 e10 = .ok (.fz (.lst (rowD N y))) := ev_view h10 rfl
    have a8 : eVar 8 e10 = .ok (.fz (.int p)) := ev_view h10 rfl
    have wbi := law_with_bound_is (N := N) (W := W) (g := g) (x := dotF N (W p) y + 1) (show R < 1000 by omega) hp
    simp only [ev_eA, ev_aCons, a2, a3, a8, ev_bok, ev_e2, ev_c, ev_rfz, rowsI_ix hp, ev_pok, pair_0, ev_aNil, oCal, List.length_cons, List.length_nil, if_true, dv, ev_add, wbi]
  obtain ⟨e11, s11, h11, -⟩ := view_sSet h10 (i := 15) (A := [2, 8, 2, 8, 3]) w11 (by simp)
  generalize hg2 : (fun k => if k = p then dotF N (W p) y + 1 else g k) = g2 at w11 h11
  have g2b : ∀ k, k < R → Bd 90 (g2 k) := fun k hk => by
    rw [← hg2]
    show Bd 90 (if k = p then dotF N (W p) y + 1 else g k)
    split
    · have a : Bd 75 (dotF N (W p) y) := (dot_bd (T.wb p hp) yb (by omega)).up (by decide)
      exact (a.add (bd_lit (n := 10) (x := 1) (by decide) (by decide))).up (by decide)
    · exact (T.gb k hk).up (by decide)
  have B : BOk R N W g l y w ls g2 tm us p q r := ⟨rR, r1, n1, nN, hp, hq, hr, T.wb, T.gb, T.lb, yb, wwb, lsb, g2b, by omega, ub⟩
  have h11 : e11.map Sl.frz = vB R N W nb g l y w ls g2 tm us p q r .un .un .un := h11
  -- the list
  have F11 := B.facts (rd h11)
  obtain ⟨d1, ed1, cd1⟩ := cand5 n1 (show N < 1000 by omega) F11.1 F11.2.2.2.1 F11.2.2.2.2.2.2.2.2.2.2.1 (timesL h11 rfl (rd h11).v3 rfl B.tb (show N < 1000 by omega) yb) (timesL h11 rfl (rd h11).v4 rfl B.tb (show R < 1000 by omega) wwb)
  have w12 : (eA oLstD (aCons (eA oTupD (aCons (eVar 1) (aCons (eVar 2) (aCons (eVar 7) (aCons (eLc [21] (iE iterA (eVar 3)) (nName 21) tYesD (e2 oMul (eVar 7) (eVar 21))) (aCons (eLc [21] (iE iterA (eVar 4)) (nName 21) tYesD (e2 oMul (eVar 7) (eVar 21))) aNil)))))) aNil)) e11 = .ok (.ow [d1]) := by
    have l1 : oLstD [d1] = .ok (.ow [d1]) := lst_ok (by simp)
    rw [ev_eA, ev_aCons, ed1, ev_bok, ev_aNil, ev_bok, ev_bok, ev_rfz, l1]
    rfl
  obtain ⟨e12, s12, h12, o12⟩ := view_sSet h11 (i := 16) (A := [1, 2, 7] ++ (List.range 64 ++ List.range 64)) w12 (by simp [vB])
  have A12 : At R N W nb g l y w ls g2 tm us p q r .un .un [d1] e12 := ⟨h12, o12, by simp, fun d hd => by simp at hd; subst hd; exact cd1⟩
  have nN' : N < 1000 := by omega
  have nN1 : N + 1 < 1000 := by omega
  obtain ⟨p1, p1a, p12, t2, t13, t14, t15, c0, c1, c2, c7', s3, s4, s3a, s3m, s4a, s4m, z5, z6⟩ := B.facts (rd A12.1)
  obtain ⟨e13, f13, s13, A13, l13⟩ := at_plus (A := [16, 1, 2, 5, 6, 1, 2, 3, 4]) (n := 1) A12 rfl (by decide) (cand5 n1 nN' p1 t2 c0 z5 z6) (cand5 n1 nN' p1 t2 c2 s3 s4)
  obtain ⟨p1, p1a, p12, t2, t13, t14, t15, c0, c1, c2, c7', s3, s4, s3a, s3m, s4a, s4m, z5, z6⟩ := B.facts (rd A13.1)
  obtain ⟨e14, f14, s14, A14, l14⟩ := at_plus (A := [16, 1, 13, 3, 4, 1, 13, 3, 4]) A13 l13 (by decide) (cand5 (by omega) nN1 p1a t13 c1 s3a s4) (cand5 (by omega) nN1 p1a t13 c1 s3m s4)
  obtain ⟨p1, p1a, p12, t2, t13, t14, t15, c0, c1, c2, c7', s3, s4, s3a, s3m, s4a, s4m, z5, z6⟩ := B.facts (rd A14.1)
  obtain ⟨e15, f15, s15, A15, l15⟩ := at_plus (A := [16, 1, 13, 3, 4, 1, 2, 3, 4]) A14 l14 (by decide) (cand5 (by omega) nN1 p1a t13 c1 s3 s4) (cand5 n1 nN' p1 t2 c1 s3a s4)
  obtain ⟨p1, p1a, p12, t2, t13, t14, t15, c0, c1, c2, c7', s3, s4, s3a, s3m, s4a, s4m, z5, z6⟩ := B.facts (rd A15.1)
  obtain ⟨e16, f16, s16, A16, l16⟩ := at_plus (A := [16, 1, 14, 3, 4, 1, 14, 3, 4]) A15 l15 (by decide) (cand5 n1 nN' p1 t14 c1 s3 s4a) (cand5 n1 nN' p1 t14 c1 s3 s4m)
  obtain ⟨p1, p1a, p12, t2, t13, t14, t15, c0, c1, c2, c7', s3, s4, s3a, s3m, s4a, s4m, z5, z6⟩ := B.facts (rd A16.1)
  obtain ⟨e17, f17, s17, A17, l17⟩ := at_plus (A := [16, 1, 14, 3, 4, 1, 2, 3, 4]) A16 l16 (by decide) (cand5 n1 nN' p1 t14 c1 s3 s4) (cand5 n1 nN' p1 t2 c1 s3 s4a)
  obtain ⟨p1, p1a, p12, t2, t13, t14, t15, c0, c1, c2, c7', s3, s4, s3a, s3m, s4a, s4m, z5, z6⟩ := B.facts (rd A17.1)
  obtain ⟨e18, f18, s18, A18, l18⟩ := at_plus (A := [16, 1, 15, 3, 4, 12, 2, 3, 4]) A17 l17 (by decide) (cand5 n1 nN' p1 t15 c1 s3 s4) (cand5 n1 nN' p12 t2 c1 s3 s4)
  -- a bound lowered
  have Wb : ∀ k, k < R → ∀ i, i < N → Bd 100 (W k i) := fun k hk i hi => (T.wb k hk i hi).up (by decide)
  have gb : ∀ k, k < R → Bd 100 (g k) := fun k hk => (T.gb k hk).up (by decide)
  obtain ⟨p1, p1a, p12, t2, t13, t14, t15, c0, c1, c2, c7', s3, s4, s3a, s3m, s4a, s4m, z5, z6⟩ := B.facts (rd A18.1)
  have t19 : TA N e18 (eA (oCal 3 m_law_with_bound) (aCons (eVar 2) (aCons (eVar 9) (aCons (e2 oSub (e2 oIx (e2 oIx (eVar 2) (eVar 9)) (eC (.int 1))) (eC (.int 1))) aNil)))) := by
    have k := rd A18.1
    have wbi := law_with_bound_is (N := N) (W := W) (g := g) (x := g q - 1) (show R < 1000 by omega) hq
    refine ⟨.ow (rowsI R N W (fun k => if k = q then g q - 1 else g k) .lst), R, W, _, ?_, rfl, by omega, Wb, fun j hj => ?_⟩
    · simp only [ev_eA, ev_aCons, k.v2, k.v9, ev_bok, ev_e2, ev_c, ev_rfz, rowsI_ix hq, ev_pok, pair_1, ev_sub, ev_aNil, oCal, List.length_cons, List.length_nil, if_true, wbi]
    · show Bd 100 (if j = q then g q - 1 else g j)
      split
      · exact ((T.gb q hq).sub (bd_lit (n := 10) (x := 1) (by decide) (by decide))).up (by decide)
      · exact gb j hj
  obtain ⟨e19, f19, s19, A19, l19⟩ := at_app (A := [1, 2, 9, 2, 9, 3, 4]) A18 l18 (by decide) (by decide) (cand5 n1 nN' p1 t19 c1 s3 s4)
  obtain ⟨p1, p1a, p12, t2, t13, t14, t15, c0, c1, c2, c7', s3, s4, s3a, s3m, s4a, s4m, z5, z6⟩ := B.facts (rd A19.1)
  have t20 : TA N e19 (eA (oCal 4 m_law_with_weight) (aCons (eVar 2) (aCons (eVar 9) (aCons (eVar 10) (aCons (e2 oAdd (e2 oSub (e2 oIx (eVar 1) (eVar 10)) (eVar 11)) (eC (.int 1))) aNil))))) := by
    have k := rd A19.1
    have wwi := law_with_weight_is (N := N) (W := W) (g := g) (x := l r - us + 1) (show R < 1000 by omega) hq hr
    refine ⟨.ow (rowsI R N (fun k => if k = q then fun j => if j = r then W q r + (l r - us + 1) else W q j else W k) g .lst), R, _, g, ?_, rfl, by omega, fun j hj i hi => ?_, gb⟩
    · simp only [ev_eA, ev_aCons, k.v1, k.v2, k.v9, k.v10, k.v11, ev_bok, ev_e2, ev_c, ev_rfz, ev_ixL, ix_row hr, ev_oR, ev_pok, ev_sub, ev_add, ev_aNil, oCal, List.length_cons, List.length_nil, if_true, wwi]
    · show Bd 100 ((if j = q then fun j => if j = r then W q r + (l r - us + 1) else W q j else W j) i)
      split
      · show Bd 100 (if i = r then W q r + (l r - us + 1) else W q i)
        split
        · have a := (T.lb r hr).sub ub
          have b := a.add (bd_lit (n := 10) (x := 1) (by decide) (by decide))
          exact ((T.wb q hq r hr).add b).up (by decide)
        · exact Wb q hq i hi
      · exact Wb j hj i hi
  obtain ⟨e20, f20, s20, A20, l20⟩ := at_app (A := [1, 2, 9, 10, 1, 10, 11, 3, 4]) A19 l19 (by decide) (by decide) (cand5 n1 nN' p1 t20 c1 s3 s4)
  -- a number raised
  obtain ⟨k1, hk1, ek1⟩ := mod_nat (nb 10) (m := N) (by omega)
  obtain ⟨k2, hk2, ek2⟩ := mod_nat (nb 13) (m := R) (by omega)
  have w21 : (e2 oMod (eA oInt (aCons (e2 oIx (eVar 0) (eC (.int 10))) aNil)) (eVar 5)) e20 = .ok (.fz (.int k1)) := by
    have k := rd A20.1
    have mN : ∀ x : Int, oMod (.int x) (.int N) = .ok (.fz (.int (x.fmod N))) := fun x => ev_mod (by omega)
    simp only [ev_e2, ev_eA, ev_aCons, k.v0, k.v5, ev_bok, ev_c, ev_rfz, ev_ixL, c10, ev_oR, ev_pok, ev_aNil, ev_int, mN, ek1]
  obtain ⟨e21, s21, A21⟩ := at_int17 (A := [0, 5]) A20 (by decide) w21
  obtain ⟨p1, p1a, p12, t2, t13, t14, t15, c0, c1, c2, c7', s3, s4, s3a, s3m, s4a, s4m, z5, z6⟩ := B.facts (rd A21.1)
  obtain ⟨e22, f22, s22, A22, l22⟩ := at_app (A := [1, 2, 3, 17, 3, 17, 3, 17, 4]) A21 l20 (by decide) (by decide) (cand5 n1 nN' p1 t2 c1 (bumped (rd A21.1).v3 (ev_view A21.1 (i := 17) rfl) hk1 (by omega) yb) s4)
  have w23 : (e2 oMod (eA oInt (aCons (e2 oIx (eVar 0) (eC (.int 13))) aNil)) (eVar 6)) e22 = .ok (.fz (.int k2)) := by
    have k := rd A22.1
    have mR : ∀ x : Int, oMod (.int x) (.int R) = .ok (.fz (.int (x.fmod R))) := fun x => ev_mod (by omega)
    simp only [ev_e2, ev_eA, ev_aCons, k.v0, k.v6, ev_bok, ev_c, ev_rfz, ev_ixL, c13, ev_oR, ev_pok, ev_aNil, ev_int, mR, ek2]
  obtain ⟨e23, s23, A23⟩ := at_int18 (A := [0, 6]) A22 (by decide) w23
  obtain ⟨p1, p1a, p12, t2, t13, t14, t15, c0, c1, c2, c7', s3, s4, s3a, s3m, s4a, s4m, z5, z6⟩ := B.facts (rd A23.1)
  obtain ⟨e24, f24, s24, A24, l24⟩ := at_app (A := [1, 2, 3, 4, 18, 4, 18, 4, 18]) A23 l22 (by decide) (by decide) (cand5 n1 nN' p1 t2 c1 s3 (bumped (rd A23.1).v4 (ev_view A23.1 (i := 18) rfl) hk2 (by omega) wwb))
  refine ⟨f24, runD_ok ?_, A24.2.2.2⟩
  rw [bc_chain]
  show sSeq _ _ [.fz (.lst (rowD 200 nb)), .fz (.lst (rowD N l)), .fz (.lst (rowsI R N W g .lst)), .fz (.lst (rowD N y)), .fz (.lst (rowD R w)), .un, .un, .un, .un, .un, .un, .un, .un, .un, .un, .un, .un, .un, .un, .un, .un, .un] = _
  rw [pre]
  unfold bc9 bc10 bc11 bc12 bc13 bc14 bc15 bc16 bc17 bc18 bc19 bc20 bc21 bc22 bc23 bc24 bc25
  rw [ev_seq, s9, ev_tn, ev_seq, s10, ev_tn, ev_seq, s11, ev_tn, ev_seq, s12, ev_tn, ev_seq, s13, ev_tn, ev_seq, s14, ev_tn, ev_seq, s15, ev_tn, ev_seq, s16, ev_tn, ev_seq, s17, ev_tn, ev_seq, s18, ev_tn, ev_seq, s19, ev_tn, ev_seq, s20, ev_tn, ev_seq, s21, ev_tn, ev_seq, s22, ev_tn, ev_seq, s23, ev_tn, ev_seq, s24, ev_tn]
  exact ret_own A24.2.1
end
end K03
end

section
set_option maxRecDepth 100000
set_option maxHeartbeats 1000000
/-! _law_none_changes. -/
namespace K03
open L2 DL PG LW
def nc0 : DL.Env → DL.So := (sSet 4 [0] (e2 oAdd (eC (.int 2)) (e2 oMod (eA oInt (aCons (e2 oIx (eVar 0) (eC (.int 14))) aNil)) (eC (.int 5)))))
def nc1 : DL.Env → DL.So := (sSet 5 [0, 2] (e2 oMod (eA oInt (aCons (e2 oIx (eVar 0) (eC (.int 15))) aNil)) (eVar 2)))
def nc2 : DL.Env → DL.So := (sSet 6 [1, 3, 5, 3] (e2 oAdd (e2 oDiv (e2 oSub (eC (.int 0)) (eA (oCal 3 m_law_column) (aCons (eVar 1) (aCons (eVar 3) (aCons (eVar 5) aNil))))) (e2 oIx (eVar 3) (e1 oNeg (eC (.int 1))))) (eC (.int 1))))
def nc3 : DL.Env → DL.So := (sSet 7 [1, 3, 3] (e2 oDiv (e2 oSub (eC (.int 0)) (eA (oCal 2 m_law_paid) (aCons (eVar 1) (aCons (eVar 3) aNil)))) (e2 oIx (eVar 3) (e1 oNeg (eC (.int 1))))))
def nc4 : DL.Env → DL.So := (sSet 8 [1, 2] (e2 oAdd (eVar 1) (eA oLstD (aCons (eA oTupD (aCons (e2 oMul (eA oLstD (aCons (eC (.int 0)) aNil)) (eVar 2)) (aCons (eC (.int 0)) aNil))) aNil))))
def nc5 : DL.Env → DL.So := (sSet 9 ([1] ++ (List.range 64 ++ [1, 3, 8, 3])) (eA oLstD (aCons (eA oTupD (aCons (eVar 1) (aCons (eLc [10] (iE iterA (eVar 3)) (nName 10) tYesD (e2 oMul (eVar 4) (eVar 10))) aNil))) (aCons (eA oTupD (aCons (eVar 1) (aCons (e2 oMul (eA oLstD (aCons (eC (.int 0)) aNil)) (eA oLen (aCons (eVar 3) aNil))) aNil))) (aCons (eA oTupD (aCons (eVar 8) (aCons (e2 oAdd (eVar 3) (eA oLstD (aCons (eC (.int 0)) aNil))) aNil))) aNil)))))
def nc6 : DL.Env → DL.So := (sSet 9 [9, 8, 3, 8, 3, 1, 3] (e2 oAdd (eVar 9) (eA oLstD (aCons (eA oTupD (aCons (eVar 8) (aCons (e2 oAdd (eVar 3) (eA oLstD (aCons (e1 oNeg (eC (.int 1))) aNil))) aNil))) (aCons (eA oTupD (aCons (eVar 8) (aCons (eVar 3) aNil))) (aCons (eA oTupD (aCons (eVar 1) (aCons (e2 oAdd (eVar 3) (eA oLstD (aCons (eC (.int 0)) aNil))) aNil))) aNil))))))
def nc7 : DL.Env → DL.So := (sApp 9 [1, 1, 5, 6, 3] (eA oTupD (aCons (eA (oCal 4 m_law_with_weight) (aCons (eVar 1) (aCons (e2 oSub (eA oLen (aCons (eVar 1) aNil)) (eC (.int 1))) (aCons (eVar 5) (aCons (eVar 6) aNil))))) (aCons (eVar 3) aNil))))
def nc8 : DL.Env → DL.So := (sApp 9 [1, 1, 1, 7, 3] (eA oTupD (aCons (eA (oCal 3 m_law_with_bound) (aCons (eVar 1) (aCons (e2 oSub (eA oLen (aCons (eVar 1) aNil)) (eC (.int 1))) (aCons (e2 oAdd (e2 oIx (e2 oIx (eVar 1) (e1 oNeg (eC (.int 1)))) (eC (.int 1))) (eVar 7)) aNil)))) (aCons (eVar 3) aNil))))
def nc9 : DL.Env → DL.So := (sApp 9 [1, 3, 3] (eA oTupD (aCons (eVar 1) (aCons (e2 oAdd (e3o oSl (eVar 3) pNo (pSome (e1 oNeg (eC (.int 1))))) (eA oLstD (aCons (e2 oSub (e2 oIx (eVar 3) (e1 oNeg (eC (.int 1)))) (eC (.int 1))) aNil))) aNil))))
def nc10 : DL.Env → DL.So := (sRetV 9)
theorem nc_chain : b_law_none_changes = sSeq nc0 (sSeq nc1 (sSeq nc2 (sSeq nc3 (sSeq nc4 (sSeq nc5 (sSeq nc6 (sSeq nc7 (sSeq nc8 (sSeq nc9 (nc10)))))))))) := rfl

def Cand2 (N : Nat) (d : DL.D) : Prop := ∃ (R : Nat) (W : Nat → Nat → Int) (g : Nat → Int) (Mw : Nat) (w : Nat → Int), d = .tup [.lst (rowsI R N W g .lst), .lst (rowD Mw w)] ∧ R < 1000 ∧ Mw < 1000 ∧
  (∀ k, k < R → ∀ i, i < N → Bd 100 (W k i)) ∧ (∀ k, k < R → Bd 100 (g k)) ∧ ∀ k, k < Mw → Bd 100 (w k)
def C2 (N : Nat) (e : DL.Env) (f : DL.Env → DL.M Rs) : Prop := ∃ d, f e = .ok (.fz d) ∧ Cand2 N d
theorem cand2 {N : Nat} {e : DL.Env} {b q : DL.Env → DL.M Rs} (hb : TA N e b) (hq : SP e q) : C2 N e (eA oTupD (aCons b (aCons q aNil))) := by
  obtain ⟨r2, R, W, g, b1, b2, b3, b4, b5⟩ := hb
  obtain ⟨r5, Mw, w, q1, q2, q3, q4⟩ := hq
  refine ⟨_, ?_, R, W, g, Mw, w, rfl, b3, q3, b4, b5, q4⟩
  simp only [ev_eA, ev_aCons, b1, q1, ev_bok, ev_aNil, b2, q2, tup_2, ev_pok]
theorem cut_m1 {n : Nat} {f : Nat → Int} (hn : 1 ≤ n) : cutD (rowD n f) none (some (-1)) = rowD (n - 1) f := by
  unfold cutD
  rw [HT.sIx_none]
  have : HT.sIx (rowD n f).length (rowD n f).length (some (-1)) = n - 1 := by
    rw [rowD_len]
    unfold HT.sIx
    simp
    try omega
  rw [this, Nat.sub_zero, drop_take_row (by omega)]
  rfl
section
variable {R N : Nat} {W : Nat → Nat → Int} {nb g w : Nat → Int}
theorem rowsI_last {R N : Nat} {W : Nat → Nat → Int} {g : Nat → Int} (hR : 1 ≤ R) : oIx (.lst (rowsI R N W g .lst)) (.int (-1)) = .ok (.fz (.tup [.lst (rowD N (W (R - 1))), .int (g (R - 1))])) := by
  rw [ev_ixL, DL.atI_last, rowsI_len, rowsI_get (by omega)]; rfl
theorem fdiv_bd {n : Nat} {x b : Int} (hb : 0 < b) (hx : Bd n x) : Bd n (x.fdiv b) := by
  unfold Bd at *
  rw [Int.fdiv_eq_ediv_of_nonneg _ (by omega)]
  exact Nat.lt_of_le_of_lt (Int.natAbs_ediv_le_natAbs _ _) hx
theorem law_none_changes_is (rR : R < 100) (r1 : 1 ≤ R) (n1 : 1 ≤ N) (nN : N ≤ 24) (Wb : ∀ k, k < R → ∀ i, i < N → Bd 60 (W k i)) (gb : ∀ k, k < R → Bd 60 (g k)) (wb : ∀ i, i < R → Bd 10 (w i)) (hl : 1 ≤ w (R - 1) ∧ w (R - 1) ≤ 3) :
    ∃ ds, m_law_none_changes [.lst (rowD 200 nb), .lst (rowsI R N W g .lst), .int N, .lst (rowD R w)] = .ok (.ow ds) ∧ ∀ d, d ∈ ds → Cand2 N d := by
  have c14 : atI (rowD 200 nb) 14 = some (.int (nb 14)) := ix_row (j := 14) (by decide)
  have c15 : atI (rowD 200 nb) 15 = some (.int (nb 15)) := ix_row (j := 15) (by decide)
  have tmb := mod_b (nb 14) (m := 5) (by decide)
  obtain ⟨k, hk, ek⟩ := mod_nat (nb 15) (m := N) (by omega)
  have mN : ∀ x : Int, oMod (.int x) (.int N) = .ok (.fz (.int (x.fmod N))) := fun x => ev_mod (by omega)
  have sW : ∀ k, k < R → ∀ i, i < N → Sml (W k i) := fun k hk i hi => (Wb k hk i hi).sml (by omega)
  have sg : ∀ k, k < R → Sml (g k) := fun k hk => (gb k hk).sml (by omega)
  have sw : ∀ k, k < R → Sml (w k) := fun k hk => (wb k hk).sml (by omega)
  have co := law_column_is (g := g) (W := W) (N := N) (Nat.le_refl R) (show R < 1000 by omega) hk (Sq.l (rowD R w)) sW sw
  have pa := law_paid_is (g := g) (W := W) (N := N) (Nat.le_refl R) (show R < 1000 by omega) (Sq.l (rowD R w)) sg sw
  have dl : ∀ x : Int, oDiv (.int x) (.int (w (R - 1))) = .ok (.fz (.int (x.fdiv (w (R - 1))))) := fun x => div_ok (by omega) (sw (R - 1) (by omega))
  have ob : Bd 80 ((0 - dotF R w fun i => W i k).fdiv (w (R - 1)) + 1) := by
    have a : Bd 77 (dotF R w fun i => W i k) := (sm_bd7 (n := 70) (fun i hi => (wb i hi).mul (Wb i hi k hk)) (by omega))
    have b := fdiv_bd (b := w (R - 1)) (by omega) ((bd_0 77).sub a)
    exact (b.add (bd_lit (n := 10) (x := 1) (by decide) (by decide))).up (by decide)
  have db : Bd 80 ((0 - dotF R w g).fdiv (w (R - 1))) := by
    have a : Bd 77 (dotF R w g) := (sm_bd7 (n := 70) (fun i hi => (wb i hi).mul (gb i hi)) (by omega))
    exact (fdiv_bd (b := w (R - 1)) (by omega) ((bd_0 77).sub a)).up (by decide)
  generalize hov : (0 - dotF R w fun i => W i k).fdiv (w (R - 1)) + 1 = ov at ob
  generalize hdn : (0 - dotF R w g).fdiv (w (R - 1)) = dn at db
  generalize htm : 2 + (nb 14).fmod 5 = tm
  have tb : 0 ≤ tm ∧ tm < 10 := by omega
  obtain ⟨e3, he3⟩ : ∃ e3 : DL.Env, e3 = [.fz (.lst (rowD 200 nb)), .fz (.lst (rowsI R N W g .lst)), .fz (.int N), .fz (.lst (rowD R w)), .fz (.int tm), .fz (.int k), .fz (.int ov), .fz (.int dn), .un, .un, .un] := ⟨_, rfl⟩
  have pre : ∀ rest, sSeq nc0 (sSeq nc1 (sSeq nc2 (sSeq nc3 rest))) [.fz (.lst (rowD 200 nb)), .fz (.lst (rowsI R N W g .lst)), .fz (.int N), .fz (.lst (rowD R w)), .un, .un, .un, .un, .un, .un, .un] = rest e3 := fun rest => by
    rw [he3]
    unfold nc0 nc1 nc2 nc3
    simp only [ev_seq, ev_set, ev_eA, ev_e2, ev_e1, ev_aCons, ev_vs, ev_v0f, ev_bok, ev_rfz, ev_aNil, ev_c, ev_pok, ev_ofM, ev_frzInt, ev_sfz, List.set, ev_tn, ev_ixL, c14, c15, ev_oR, ev_int, m5', ev_add, htm, mN, ek, oCal, List.length_cons, List.length_nil, if_true, co, pa, ev_sub, ev_neg, last_ix r1, dl, hov, hdn]
  have h3 : e3.map Sl.frz = [.fz (.lst (rowD 200 nb)), .fz (.lst (rowsI R N W g .lst)), .fz (.int N), .fz (.lst (rowD R w)), .fz (.int tm), .fz (.int k), .fz (.int ov), .fz (.int dn), .un, .un, .un] := by rw [he3]; rfl
  have l0 : oLstD [.int 0] = .ok (.ow [.int 0]) := lst_ok (by simp)
  have w4 : (e2 oAdd (eVar 1) (eA oLstD (aCons (eA oTupD (aCons (e2 oMul (eA oLstD (aCons (eC (.int 0)) aNil)) (eVar 2)) (aCons (eC (.int 0)) aNil))) aNil))) e3 = .ok (.ow (rowsI (R + 1) N (fun k => if k < R then W k else fun _ => 0) (fun k => if k < R then g k else 0) .lst)) := by
    have a2 : eVar 1 e3 = .ok (.fz (.lst (rowsI R N W g .lst))) := ev_view h3 rfl
    have a5 : eVar 2 e3 = .ok (.fz (.int N)) := ev_view h3 rfl
    have l1 : ∀ d : DL.D, oLstD [d] = .ok (.ow [d]) := fun d => lst_ok (by simp)
    have pu : rowsI R N W g .lst ++ [D.tup [.lst (rowD N fun _ => 0), .int 0]] = rowsI (R + 1) N (fun k => if k < R then W k else fun _ => 0) (fun k => if k < R then g k else 0) .lst := by
      have := rowsI_push R N (fun k => if k < R then W k else fun _ => 0) (fun k => if k < R then g k else 0)
      simp only [Nat.lt_irrefl, if_false] at this
      have eq : rowsI R N (fun k => if k < R then W k else fun _ => 0) (fun k => if k < R then g k else 0) .lst = rowsI R N W g .lst := by
        unfold rowsI
        refine List.map_congr_left fun k hk => ?_
        have := List.mem_range.mp hk
        simp [this]
      rw [eq] at this
      exact this
    simp only [ev_e2, a2, a5, ev_bok, ev_eA, ev_aCons, ev_c, ev_rfz, ev_aNil, l0, ev_pok, ev_row, zeros (show N < 1000000 by omega), tup_2, l1]
    rw [add_l (by simp; omega), pu]
    rfl
  obtain ⟨e4, s4, h4, -⟩ := view_sSet h3 (i := 8) (A := [1, 2]) w4 (by simp)
  -- what is read, whatever the list holds
  have F : ∀ (e : DL.Env) (s9 : DL.Sl), e.map Sl.frz = [.fz (.lst (rowD 200 nb)), .fz (.lst (rowsI R N W g .lst)), .fz (.int N), .fz (.lst (rowD R w)), .fz (.int tm), .fz (.int k), .fz (.int ov), .fz (.int dn), .fz (.lst (rowsI (R + 1) N (fun k => if k < R then W k else fun _ => 0) (fun k => if k < R then g k else 0) .lst)), s9, .un] →
      TA N e (eVar 1) ∧ TA N e (eVar 8) ∧ SP e (eVar 3) ∧ SP e (e2 oAdd (eVar 3) (eA oLstD (aCons (eC (.int 0)) aNil))) ∧ SP e (e2 oAdd (eVar 3) (eA oLstD (aCons (e1 oNeg (eC (.int 1))) aNil))) ∧ SP e (e2 oMul (eA oLstD (aCons (eC (.int 0)) aNil)) (eA oLen (aCons (eVar 3) aNil))) ∧ SP e (eLc [10] (iE iterA (eVar 3)) (nName 10) tYesD (e2 oMul (eVar 4) (eVar 10))) ∧
      TA N e (eA (oCal 4 m_law_with_weight) (aCons (eVar 1) (aCons (e2 oSub (eA oLen (aCons (eVar 1) aNil)) (eC (.int 1))) (aCons (eVar 5) (aCons (eVar 6) aNil))))) ∧ TA N e (eA (oCal 3 m_law_with_bound) (aCons (eVar 1) (aCons (e2 oSub (eA oLen (aCons (eVar 1) aNil)) (eC (.int 1))) (aCons (e2 oAdd (e2 oIx (e2 oIx (eVar 1) (e1 oNeg (eC (.int 1)))) (eC (.int 1))) (eVar 7)) aNil)))) ∧
      SP e (e2 oAdd (e3o oSl (eVar 3) pNo (pSome (e1 oNeg (eC (.int 1))))) (eA oLstD (aCons (e2 oSub (e2 oIx (eVar 3) (e1 oNeg (eC (.int 1)))) (eC (.int 1))) aNil))) := by
    intro e s9 h
    have v1 : eVar 1 e = .ok (.fz (.lst (rowsI R N W g .lst))) := ev_view h rfl
    have v3 : eVar 3 e = .ok (.fz (.lst (rowD R w))) := ev_view h rfl
    have v5 : eVar 5 e = .ok (.fz (.int k)) := ev_view h rfl
    have v6 : eVar 6 e = .ok (.fz (.int ov)) := ev_view h rfl
    have v7 : eVar 7 e = .ok (.fz (.int dn)) := ev_view h rfl
    have v8 : eVar 8 e = .ok (.fz (.lst (rowsI (R + 1) N (fun k => if k < R then W k else fun _ => 0) (fun k => if k < R then g k else 0) .lst))) := ev_view h rfl
    have W1 : ∀ k, k < R → ∀ i, i < N → Bd 100 (W k i) := fun k hk i hi => (Wb k hk i hi).up (by decide)
    have g1 : ∀ k, k < R → Bd 100 (g k) := fun k hk => (gb k hk).up (by decide)
    have w1 : ∀ k, k < R → Bd 100 (w k) := fun k hk => (wb k hk).up (by decide)
    have z : (eC (.int 0)) e = .ok (.fz (.int 0)) := rfl
    have m : (e1 oNeg (eC (.int 1))) e = .ok (.fz (.int (-1))) := eM1_is e
    have rl : (R : Int) - 1 = ((R - 1 : Nat) : Int) := by omega
    have ww := law_with_weight_is (N := N) (W := W) (g := g) (i := R - 1) (x := ov) (show R < 1000 by omega) (by omega) hk
    have wbd := law_with_bound_is (N := N) (W := W) (g := g) (i := R - 1) (x := g (R - 1) + dn) (show R < 1000 by omega) (by omega)
    refine ⟨⟨_, R, W, g, v1, rfl, by omega, W1, g1⟩, ⟨_, R + 1, _, _, v8, rfl, by omega, fun k hk i hi => ?_, fun k hk => ?_⟩, ⟨_, R, w, v3, rfl, by omega, w1⟩, ⟨_, R + 1, _, addL v3 z (by omega), rfl, by omega, bd_app w1 (bd_0 _)⟩, ⟨_, R + 1, _, addL v3 m (by omega), rfl, by omega, bd_app w1 (k100 (by omega) (by omega))⟩,
      ⟨.ow (rowD R fun _ => 0), R, _, ?_, rfl, by omega, fun i _ => bd_0 _⟩, ⟨.ow (rowD R fun k => tm * w k), R, _, ?_, rfl, by omega, fun i hi => ?_⟩, ⟨.ow (rowsI R N (fun r => if r = R - 1 then fun j => if j = k then W (R - 1) k + ov else W (R - 1) j else W r) g .lst), R, _, g, ?_, rfl, by omega, fun j hj i hi => ?_, g1⟩, ⟨.ow (rowsI R N W (fun k => if k = R - 1 then g (R - 1) + dn else g k) .lst), R, W, _, ?_, rfl, by omega, W1, fun j hj => ?_⟩,
      ⟨.ow (rowD (R - 1 + 1) fun i => if i < R - 1 then w i else w (R - 1) - 1), R - 1 + 1, _, ?_, rfl, by omega, bd_app (fun i hi => w1 i (by omega)) (k100 (by omega) (by omega))⟩⟩
    · show Bd 100 ((if k < R then W k else fun _ => 0) i)
      split
      · rename_i hk; exact W1 k hk i hi
      · exact bd_0 _
    · show Bd 100 (if k < R then g k else 0)
      split
      · rename_i hk; exact g1 k hk
      · exact bd_0 _
    · simp only [ev_e2, ev_eA, ev_aCons, ev_c, ev_aNil, ev_bok, ev_rfz, l0, ev_pok, ev_row, v3, ev_lenL, rowD_len, zeros (show R < 1000000 by omega)]
    · refine ev_lc (ds := rowD R w) (by rw [len_view h]; simp) (by simp [v3]) ?_ (.inr (by simp; omega))
      rw [h]
      have mt : ∀ x : Int, oMul (.int tm) (.int x) = .ok (.fz (.int (tm * x))) := fun x => mul_l (by omega)
      refine lcL_map (List.range R) _ (fun k => .int (tm * w k)) fun k hk => ⟨_, .fz (.int (tm * w k)), rfl, rfl, ?_, rfl⟩
      simp only [wipeE, List.set, ev_e2, ev_vs, ev_v0f, ev_bok, ev_rfz, mt, ev_pok]
    · have : Bd 4 tm := bd_lit (by simp; omega) (by simp; omega)
      exact (this.mul (wb i hi)).up (by decide)
    · simp only [ev_eA, ev_aCons, v1, v5, v6, ev_bok, ev_e2, ev_c, ev_rfz, ev_lenL, rowsI_len, ev_pok, ev_sub, rl, ev_aNil, oCal, List.length_cons, List.length_nil, if_true, ww]
    · show Bd 100 ((if j = R - 1 then fun j => if j = k then W (R - 1) k + ov else W (R - 1) j else W j) i)
      split
      · show Bd 100 (if i = k then W (R - 1) k + ov else W (R - 1) i)
        split
        · exact ((Wb (R - 1) (by omega) k hk).add ob).up (by decide)
        · exact W1 (R - 1) (by omega) i hi
      · exact W1 j hj i hi
    · simp only [ev_eA, ev_aCons, v1, v7, ev_bok, ev_e2, ev_c, ev_rfz, ev_lenL, rowsI_len, ev_pok, ev_sub, rl, m, rowsI_last r1, pair_1, ev_add, ev_aNil, oCal, List.length_cons, List.length_nil, if_true, wbd]
    · show Bd 100 (if j = R - 1 then g (R - 1) + dn else g j)
      split
      · exact ((gb (R - 1) (by omega)).add db).up (by decide)
      · exact g1 j hj
    · have l1 : oLstD [.int (w (R - 1) - 1)] = .ok (.ow [.int (w (R - 1) - 1)]) := lst_ok (by simp)
      have ad : oAdd (.lst (rowD (R - 1) w)) (.lst [.int (w (R - 1) - 1)]) = .ok (.ow (rowD (R - 1 + 1) fun i => if i < R - 1 then w i else w (R - 1) - 1)) := by
        rw [add_l (by simp; omega), row_one, row_app]
      simp only [ev_e2, e3', ps, pn, ev_eA, ev_aCons, v3, m, ev_bok, ev_rfz, ev_row, ev_aNil, ai, sl_l, cut_m1 r1, ev_pok, ev_ixL, last_ix r1, ev_oR, ev_c, ev_sub, l1, ad]
  have step : ∀ {ds : List DL.D} {ds2 : List DL.D}, (∀ d, d ∈ ds → Cand2 N d) → (∀ d, d ∈ ds2 → Cand2 N d) → ∀ d, d ∈ ds ++ ds2 → Cand2 N d := fun h1 h2 d hd => (List.mem_append.mp hd).elim (h1 d) (h2 d)
  have F4 := F e4 _ h4
  obtain ⟨a1, x1, y1⟩ := cand2 F4.1 F4.2.2.2.2.2.2.1
  obtain ⟨a2, x2, y2⟩ := cand2 F4.1 F4.2.2.2.2.2.1
  obtain ⟨a3, x3, y3⟩ := cand2 F4.2.1 F4.2.2.2.1
  have l3 : ∀ a b c : DL.D, oLstD [a, b, c] = .ok (.ow [a, b, c]) := fun a b c => lst_ok (by simp)
  obtain ⟨e5, s5, h5, o5⟩ := view_sSet h4 (i := 9) (A := [1] ++ (List.range 64 ++ [1, 3, 8, 3])) (f := (eA oLstD (aCons (eA oTupD (aCons (eVar 1) (aCons (eLc [10] (iE iterA (eVar 3)) (nName 10) tYesD (e2 oMul (eVar 4) (eVar 10))) aNil))) (aCons (eA oTupD (aCons (eVar 1) (aCons (e2 oMul (eA oLstD (aCons (eC (.int 0)) aNil)) (eA oLen (aCons (eVar 3) aNil))) aNil))) (aCons (eA oTupD (aCons (eVar 8) (aCons (e2 oAdd (eVar 3) (eA oLstD (aCons (eC (.int 0)) aNil))) aNil))) aNil))))) (r := .ow [a1, a2, a3]) (by
    rw [ev_eA, ev_aCons, x1, ev_bok, ev_aCons, x2, ev_bok, ev_aCons, x3, ev_bok, ev_aNil, ev_bok, ev_bok, ev_bok, ev_bok, ev_rfz, ev_rfz, ev_rfz, l3]; rfl) (by simp)
  have F5 := F e5 _ h5
  obtain ⟨b1, u1, v1⟩ := cand2 F5.2.1 F5.2.2.2.2.1
  obtain ⟨b2, u2, v2⟩ := cand2 F5.2.1 F5.2.2.1
  obtain ⟨b3, u3, v3⟩ := cand2 F5.1 F5.2.2.2.1
  have q9 : eVar 9 e5 = .ok (.fz (.lst [a1, a2, a3])) := ev_view h5 rfl
  obtain ⟨e6, s6, h6, o6⟩ := view_sSet h5 (i := 9) (A := [9, 8, 3, 8, 3, 1, 3]) (f := (e2 oAdd (eVar 9) (eA oLstD (aCons (eA oTupD (aCons (eVar 8) (aCons (e2 oAdd (eVar 3) (eA oLstD (aCons (e1 oNeg (eC (.int 1))) aNil))) aNil))) (aCons (eA oTupD (aCons (eVar 8) (aCons (eVar 3) aNil))) (aCons (eA oTupD (aCons (eVar 1) (aCons (e2 oAdd (eVar 3) (eA oLstD (aCons (eC (.int 0)) aNil))) aNil))) aNil)))))) (r := .ow ([a1, a2, a3] ++ [b1, b2, b3])) (by
    rw [ev_e2, q9, ev_bok, ev_eA, ev_aCons, u1, ev_bok, ev_aCons, u2, ev_bok, ev_aCons, u3, ev_bok, ev_aNil, ev_bok, ev_bok, ev_bok, ev_bok, ev_rfz, ev_rfz, ev_rfz, ev_rfz, l3, ev_pok, ev_bok, ev_row, add_l (by simp)]; rfl) (by simp)
  have F6 := F e6 _ h6
  obtain ⟨g7, m7, n7⟩ := cand2 F6.2.2.2.2.2.2.2.1 F6.2.2.1
  obtain ⟨e7, s7, h7, o7⟩ := view_sApp h6 o6 (A := [1, 1, 5, 6, 3]) (by decide) m7 (by simp)
  have F7 := F e7 _ h7
  obtain ⟨g8, m8, n8⟩ := cand2 F7.2.2.2.2.2.2.2.2.1 F7.2.2.1
  obtain ⟨e8, s8, h8, o8⟩ := view_sApp h7 o7 (A := [1, 1, 1, 7, 3]) (by decide) m8 (by simp)
  have F8 := F e8 _ h8
  obtain ⟨g9, m9, n9⟩ := cand2 F8.1 F8.2.2.2.2.2.2.2.2.2
  obtain ⟨e9, s9, h9, o9⟩ := view_sApp h8 o8 (A := [1, 3, 3]) (by decide) m9 (by simp)
  refine ⟨[a1, a2, a3] ++ [b1, b2, b3] ++ [g7] ++ [g8] ++ [g9], runD_ok ?_, ?_⟩
  · rw [nc_chain]
    show sSeq _ _ [.fz (.lst (rowD 200 nb)), .fz (.lst (rowsI R N W g .lst)), .fz (.int N), .fz (.lst (rowD R w)), .un, .un, .un, .un, .un, .un, .un] = _
    rw [pre]
    unfold nc4 nc5 nc6 nc7 nc8 nc9 nc10
    rw [ev_seq, s4, ev_tn, ev_seq, s5, ev_tn, ev_seq, s6, ev_tn, ev_seq, s7, ev_tn, ev_seq, s8, ev_tn, ev_seq, s9, ev_tn]
    exact ret_own o9
  · have one : ∀ {d : DL.D}, Cand2 N d → ∀ x, x ∈ [d] → Cand2 N x := fun h x hx => by simp at hx; subst hx; exact h
    have three : ∀ {a b c : DL.D}, Cand2 N a → Cand2 N b → Cand2 N c → ∀ x, x ∈ [a, b, c] → Cand2 N x := fun h1 h2 h3 x hx => by
      simp only [List.mem_cons, List.not_mem_nil, or_false] at hx
      rcases hx with rfl | rfl | rfl <;> assumption
    exact step (step (step (step (three y1 y2 y3) (three v1 v2 v3)) (one n7)) (one n8)) (one n9)
end
end K03
end

section
set_option maxRecDepth 100000
set_option maxHeartbeats 1000000
/-! _law_judged is True. -/
namespace K03
open L2 DL PG LW
theorem fzAll_id : ∀ {A : List Nat} {e : DL.Env}, e.map Sl.frz = e → fzAll A e = e
  | [], e, _ => rfl
  | i :: A, e, h => by
    have : e.set i (e.getD i .un).frz = e := by
      apply List.ext_getElem?
      intro k
      rw [List.getElem?_set]
      by_cases hk : i = k
      · subst hk
        by_cases hl : i < e.length
        · have : (e.map Sl.frz)[i]? = e[i]? := by rw [h]
          rw [List.getElem?_map] at this
          simp [hl, List.getD] at this ⊢
          exact this
        · simp [hl]
      · simp [hk]
    rw [fzAll, this, fzAll_id h]
theorem frzIf_id {r : Rs} {A : List Nat} {e : DL.Env} (h : e.map Sl.frz = e) : frzIf r A e = e := by
  unfold frzIf
  split
  · rfl
  · exact fzAll_id h
theorem same_b (b : Bool) : m_law_same [.bl b, .bl b] = .ok (.fz (.bl true)) := same_refl 7 _ (.inl (.inr (.inl ⟨b, rfl⟩)))
def BestOk (d : DL.D) : Prop := ∃ M N W g l y w, d = .tup [.lst (rowD N l), .lst (rowsI M N W g .lst), .lst (rowD N y), .lst (rowD M w)] ∧ Task M N W g l ∧ 1 ≤ M ∧ Least M N W g l 1 y w ∧ (∀ i, i < N → Bd 10 (y i)) ∧ ∀ k, k < M → Bd 10 (w k)
def NoneOk (d : DL.D) : Prop := ∃ M N W g l w, d = .tup [.lst (rowD N l), .lst (rowsI M N W g .lst), .lst (rowD M w)] ∧ Task M N W g l ∧ 1 ≤ M ∧ Misses M N W g w ∧ (∀ k, k < M → Bd 10 (w k)) ∧ 1 ≤ w (M - 1) ∧ w (M - 1) ≤ 3
noncomputable def jB1 : DL.Env → DL.So := (sSeq (sSet 12 [7, 8, 9, 10, 11] (eA (oCal 5 m_law_shows) (aCons (eVar 7) (aCons (eVar 8) (aCons (eVar 9) (aCons (eVar 10) (aCons (eVar 11) aNil))))))) (sIf [7, 8, 9, 10, 11, 12] (tN (tV (eA (oCal 2 m_law_same) (aCons (eA (oCal 5 m_shows_least) (aCons (eVar 7) (aCons (eVar 8) (aCons (eVar 9) (aCons (eA oTuple (aCons (eVar 10) aNil)) (aCons (eA oTuple (aCons (eVar 11) aNil)) aNil)))))) (aCons (eVar 12) aNil))))) (sRet [] (eC (.bl false))) sNext))
noncomputable def jB2 : DL.Env → DL.So := (sIf [8, 3, 11, 8, 3, 11] (tN (tV (eA (oCal 2 m_law_same) (aCons (eA (oCal 3 m_misses) (aCons (eVar 8) (aCons (eA oLen (aCons (eVar 3) aNil)) (aCons (eA oTuple (aCons (eVar 11) aNil)) aNil)))) (aCons (eA (oCal 3 m_law_misses) (aCons (eVar 8) (aCons (eA oLen (aCons (eVar 3) aNil)) (aCons (eVar 11) aNil)))) aNil))))) (sRet [] (eC (.bl false))) sNext)
theorem ot (ds : List DL.D) : oTuple [.lst ds] = .ok (.fz (.tup ds)) := (rfl)
theorem jB1_ev {d0 d1 d2 d3 d4 d5 d6 : DL.D} {o12 : DL.Sl} {N R : Nat} {W : Nat → Nat → Int} {g l : Nat → Int} {s : Int} {Ny : Nat} {y : Nat → Int} {Mw : Nat} {w : Nat → Int} (n1 : 1 ≤ N) (nN : N < 1000) (rR : R < 1000) (hNy : Ny < 1000) (hMw : Mw < 1000)
    (Wb : ∀ k, k < R → ∀ i, i < N → Bd 100 (W k i)) (gb : ∀ k, k < R → Bd 100 (g k)) (lb : ∀ i, i < N → Bd 100 (l i)) (sb : Bd 100 s) (yb : ∀ i, i < Ny → Bd 100 (y i)) (wb : ∀ k, k < Mw → Bd 100 (w k)) :
    ∃ b, jB1 [.fz d0, .fz d1, .fz d2, .fz d3, .fz d4, .fz d5, .fz d6, .fz (.lst (rowD N l)), .fz (.lst (rowsI R N W g .lst)), .fz (.int s), .fz (.lst (rowD Ny y)), .fz (.lst (rowD Mw w)), o12] = .nx [.fz d0, .fz d1, .fz d2, .fz d3, .fz d4, .fz d5, .fz d6, .fz (.lst (rowD N l)), .fz (.lst (rowsI R N W g .lst)), .fz (.int s), .fz (.lst (rowD Ny y)), .fz (.lst (rowD Mw w)), .fz (.bl b)] := by
  obtain ⟨b1, e1, i1⟩ := law_shows_is rR n1 nN (Sq.l (rowD N l)) (Sq.l (rowD Ny y)) (Sq.l (rowD Mw w)) (by omega) (fun k hk i hi => (Wb k hk i hi).sml (by omega)) (fun k hk => (gb k hk).sml (by omega)) (fun k hk => (lb k hk).sml (by omega)) (sb.sml (by omega)) (fun k hk => (yb k hk).sml (by omega)) (fun k hk => (wb k hk).sml (by omega))
  obtain ⟨b2, e2, i2⟩ := says_shows_least (c := .lst) (show R < 1000000 by omega) n1 (show N < 1000000 by omega) Sq.l (Sq.l (rowD N l)) (Sq.t (rowD Ny y)) (Sq.t (rowD Mw w)) (fun k hk i hi => (Wb k hk i hi).sml (by omega)) (fun k hk => (gb k hk).sml (by omega)) (fun k hk => (lb k hk).sml (by omega)) (sb.sml (by omega)) (fun k hk => (yb k hk).sml (by omega)) (fun k hk => (wb k hk).sml (by omega))
  have hb : b1 = b2 := by rw [Bool.eq_iff_iff, i1, i2]
  subst hb
  refine ⟨b1, ?_⟩
  unfold jB1
  simp only [ev_seq, ev_set, ev_eA, ev_aCons, ev_vs, ev_v0f, ev_bok, ev_rfz, ev_aNil, oCal, List.length_cons, List.length_nil, if_true, e1, ev_pok, ev_ofM, ev_frzBl, ev_sfz, List.set, ev_tn, ev_if, ev_tN, ev_tV, ot, e2, same_b, ev_asB, Bool.not_true, Bool.false_eq_true, if_false, ev_next]
theorem law_judged_true {nb : Nat → Int} {d1 d2 : DL.D} (hb : BestOk d1) (hn : NoneOk d2) : m_law_judged [.lst (rowD 200 nb), d1, d2] = .ok (.fz (.bl true)) := by
  obtain ⟨M, N, W, g, l, y, w, rfl, T, r1, L, yb, wb⟩ := hb
  obtain ⟨M2, N2, W2, g2, l2, w2, rfl, T2, r2, L2, wb2, hl⟩ := hn
  have rR := T.rR; have nN := T.nN; have rR2 := T2.rR; have nN2 := T2.nN
  generalize hd1 : (.tup [.lst (rowD N l), .lst (rowsI M N W g .lst), .lst (rowD N y), .lst (rowD M w)] : DL.D) = d1
  generalize hd2 : (.tup [.lst (rowD N2 l2), .lst (rowsI M2 N2 W2 g2 .lst), .lst (rowD M2 w2)] : DL.D) = d2
  obtain ⟨ds, e1, hc⟩ := law_best_changes_is (nb := nb) T r1 yb wb
  obtain ⟨ds2, e2, hc2⟩ := law_none_changes_is (nb := nb) (N := N2) rR2 r2 T2.n1 nN2 T2.wb T2.gb wb2 hl
  have k1 : Sml 1 := Bd.sml (n := 10) (bd_lit (by decide) (by decide)) (by omega)
  have sh := (says_shows_least (c := .lst) (show M < 1000000 by omega) T.n1 (show N < 1000000 by omega) Sq.l (Sq.l (rowD N l)) (Sq.t (rowD N y)) (Sq.t (rowD M w)) (fun k hk i hi => (T.wb k hk i hi).sml (by omega)) (fun k hk => (T.gb k hk).sml (by omega)) (fun k hk => (T.lb k hk).sml (by omega)) k1 (fun k hk => (yb k hk).sml (by omega)) (fun k hk => (wb k hk).sml (by omega))).t ⟨rfl, rfl, L⟩
  have mi := (misses_is (show M2 < 1000 by omega) (show N2 < 1000 by omega) (Sq.t (rowD M2 w2)) (by omega) (fun k hk i hi => (T2.wb k hk i hi).sml (by omega)) (fun k hk => (T2.gb k hk).sml (by omega)) (fun k hk => (wb2 k hk).sml (by omega))).t ⟨rfl, L2⟩
  have hcn : b_law_judged = sSeq (sAsg [1] (nTup 4 (nCons (nName 3) (nCons (nName 4) (nCons (nName 5) (nCons (nName 6) nNil))))) (eVar 1)) (sSeq (sIf [3, 4, 5, 6] (tN (tV (eA (oCal 2 m_law_same) (aCons (eA (oCal 5 m_shows_least) (aCons (eVar 3) (aCons (eVar 4) (aCons (eC (.int 1)) (aCons (eA oTuple (aCons (eVar 5) aNil)) (aCons (eA oTuple (aCons (eVar 6) aNil)) aNil)))))) (aCons (eC (.bl true)) aNil))))) (sRet [] (eC (.bl false))) sNext) (sSeq (sFor [0, 3, 4, 5, 6] (iE iterA (eA (oCal 5 m_law_best_changes) (aCons (eVar 0) (aCons (eVar 3) (aCons (eVar 4) (aCons (eVar 5) (aCons (eVar 6) aNil))))))) (nTup 5 (nCons (nName 7) (nCons (nName 8) (nCons (nName 9) (nCons (nName 10) (nCons (nName 11) nNil)))))) jB1) (sSeq (sAsg [2] (nTup 3 (nCons (nName 3) (nCons (nName 4) (nCons (nName 6) nNil)))) (eVar 2)) (sSeq (sIf [4, 3, 6] (tN (tV (eA (oCal 2 m_law_same) (aCons (eA (oCal 3 m_misses) (aCons (eVar 4) (aCons (eA oLen (aCons (eVar 3) aNil)) (aCons (eA oTuple (aCons (eVar 6) aNil)) aNil)))) (aCons (eC (.bl true)) aNil))))) (sRet [] (eC (.bl false))) sNext) (sSeq (sFor [0, 4, 3, 6] (iE iterA (eA (oCal 4 m_law_none_changes) (aCons (eVar 0) (aCons (eVar 4) (aCons (eA oLen (aCons (eVar 3) aNil)) (aCons (eVar 6) aNil)))))) (nTup 2 (nCons (nName 8) (nCons (nName 11) nNil))) jB2) (sRet [] (eC (.bl true)))))))) := rfl
  obtain ⟨e7, l1, o7, o8, o9, o10, o11, o12, rfl, hf⟩ := forL_nx (t := nTup 5 (nCons (nName 7) (nCons (nName 8) (nCons (nName 9) (nCons (nName 10) (nCons (nName 11) nNil)))))) (body := jB1) (ds := ds) (env := [.fz (.lst (rowD 200 nb)), .fz d1, .fz d2, .fz (.lst (rowD N l)), .fz (.lst (rowsI M N W g .lst)), .fz (.lst (rowD N y)), .fz (.lst (rowD M w)), .un, .un, .un, .un, .un, .un])
    (fun _ e => ∃ o7 o8 o9 o10 o11 o12, e = [.fz (.lst (rowD 200 nb)), .fz d1, .fz d2, .fz (.lst (rowD N l)), .fz (.lst (rowsI M N W g .lst)), .fz (.lst (rowD N y)), .fz (.lst (rowD M w)), o7, o8, o9, o10, o11, o12] ∧ e.map Sl.frz = e) ⟨_, _, _, _, _, _, rfl, rfl⟩ (by
      rintro i d e hd ⟨o7, o8, o9, o10, o11, o12, rfl, -⟩
      obtain ⟨N', R', W', g', l', s', Ny, y', Mw, w', rfl, n1', nN', rR', q1, q2, Wb, gb, lb, sb, yb', wb'⟩ := hc d (List.mem_of_getElem? hd)
      obtain ⟨b, ev⟩ := jB1_ev (d0 := .lst (rowD 200 nb)) (d1 := d1) (d2 := d2) (d3 := .lst (rowD N l)) (d4 := .lst (rowsI M N W g .lst)) (d5 := .lst (rowD N y)) (d6 := .lst (rowD M w)) (o12 := o12) n1' nN' rR' q1 q2 Wb gb lb sb yb' wb'
      exact ⟨_, rfl, _, .inl ev, _, _, _, _, _, _, rfl, rfl⟩)
  have f1 : ∀ (r : Rs) A, frzIf r A [.fz (.lst (rowD 200 nb)), .fz d1, .fz d2, .un, .un, .un, .un, .un, .un, .un, .un, .un, .un] = [.fz (.lst (rowD 200 nb)), .fz d1, .fz d2, .un, .un, .un, .un, .un, .un, .un, .un, .un, .un] := fun r A => frzIf_id rfl
  have f2 : ∀ (r : Rs) A, frzIf r A [.fz (.lst (rowD 200 nb)), .fz d1, .fz d2, .fz (.lst (rowD N l)), .fz (.lst (rowsI M N W g .lst)), .fz (.lst (rowD N y)), .fz (.lst (rowD M w)), o7, o8, o9, o10, o11, o12] = [.fz (.lst (rowD 200 nb)), .fz d1, .fz d2, .fz (.lst (rowD N l)), .fz (.lst (rowsI M N W g .lst)), .fz (.lst (rowD N y)), .fz (.lst (rowD M w)), o7, o8, o9, o10, o11, o12] := fun r A => frzIf_id hf
  obtain ⟨e8, lp2, p8, p11, rfl⟩ := forL_nx (t := nTup 2 (nCons (nName 8) (nCons (nName 11) nNil))) (body := jB2) (ds := ds2) (env := [.fz (.lst (rowD 200 nb)), .fz d1, .fz d2, .fz (.lst (rowD N2 l2)), .fz (.lst (rowsI M2 N2 W2 g2 .lst)), .fz (.lst (rowD N y)), .fz (.lst (rowD M2 w2)), o7, o8, o9, o10, o11, o12])
    (fun _ e => ∃ o8 o11, e = [.fz (.lst (rowD 200 nb)), .fz d1, .fz d2, .fz (.lst (rowD N2 l2)), .fz (.lst (rowsI M2 N2 W2 g2 .lst)), .fz (.lst (rowD N y)), .fz (.lst (rowD M2 w2)), o7, o8, o9, o10, o11, o12]) ⟨_, _, rfl⟩ (by
      rintro i d e hd ⟨p8, p11, rfl⟩
      obtain ⟨R', W', g', Mw, w', rfl, rR', q2, Wb, gb, wb'⟩ := hc2 d (List.mem_of_getElem? hd)
      obtain ⟨b1, x1, i1⟩ := law_misses_is rR' (show N2 < 1000 by omega) (Sq.l (rowD Mw w')) (by omega) (fun k hk i hi => (Wb k hk i hi).sml (by omega)) (fun k hk => (gb k hk).sml (by omega)) (fun k hk => (wb' k hk).sml (by omega))
      obtain ⟨b2, x2, i2⟩ := misses_is rR' (show N2 < 1000 by omega) (Sq.t (rowD Mw w')) (by omega) (fun k hk i hi => (Wb k hk i hi).sml (by omega)) (fun k hk => (gb k hk).sml (by omega)) (fun k hk => (wb' k hk).sml (by omega))
      have hb : b1 = b2 := by rw [Bool.eq_iff_iff, i1, i2]
      subst hb
      refine ⟨_, rfl, [.fz (.lst (rowD 200 nb)), .fz d1, .fz d2, .fz (.lst (rowD N2 l2)), .fz (.lst (rowsI M2 N2 W2 g2 .lst)), .fz (.lst (rowD N y)), .fz (.lst (rowD M2 w2)), o7, .fz (.lst (rowsI R' N2 W' g' .lst)), o9, o10, .fz (.lst (rowD Mw w')), o12], .inl ?_, _, _, rfl⟩
      unfold jB2
      simp only [List.set, ev_if, ev_tN, ev_tV, ev_eA, ev_aCons, ev_vs, ev_v0f, ev_bok, ev_rfz, ev_aNil, ev_lenL, rowD_len, ev_pok, ot, oCal, List.length_cons, List.length_nil, if_true, x1, x2, same_b, ev_asB, Bool.not_true, ev_ofM, Bool.false_eq_true, if_false, ev_next])
  refine runD_ok ?_
  rw [hcn]
  show sSeq _ _ [.fz (.lst (rowD 200 nb)), .fz d1, .fz d2, .un, .un, .un, .un, .un, .un, .un, .un, .un, .un] = _
  have a1 : nTup 4 (nCons (nName 3) (nCons (nName 4) (nCons (nName 5) (nCons (nName 6) nNil)))) d1 [.fz (.lst (rowD 200 nb)), .fz d1, .fz d2, .un, .un, .un, .un, .un, .un, .un, .un, .un, .un] = some [.fz (.lst (rowD 200 nb)), .fz d1, .fz d2, .fz (.lst (rowD N l)), .fz (.lst (rowsI M N W g .lst)), .fz (.lst (rowD N y)), .fz (.lst (rowD M w)), .un, .un, .un, .un, .un, .un] := by rw [← hd1]; rfl
  have a2 : nTup 3 (nCons (nName 3) (nCons (nName 4) (nCons (nName 6) nNil))) d2 [.fz (.lst (rowD 200 nb)), .fz d1, .fz d2, .fz (.lst (rowD N l)), .fz (.lst (rowsI M N W g .lst)), .fz (.lst (rowD N y)), .fz (.lst (rowD M w)), o7, o8, o9, o10, o11, o12] = some [.fz (.lst (rowD 200 nb)), .fz d1, .fz d2, .fz (.lst (rowD N2 l2)), .fz (.lst (rowsI M2 N2 W2 g2 .lst)), .fz (.lst (rowD N y)), .fz (.lst (rowD M2 w2)), o7, o8, o9, o10, o11, o12] := by rw [← hd2]; rfl
  simp only [ev_seq, ev_asg, ev_vs, ev_v0f, ev_ofM, f1, ev_rfz, a1, ev_ofO, ev_tn, ev_if, ev_tN, ev_tV, ev_eA, ev_aCons, ev_bok, ev_c, ev_aNil, ot, ev_pok, oCal, List.length_cons, List.length_nil, if_true, sh, same_b, ev_asB, Bool.not_true, Bool.false_eq_true, if_false, ev_next, ev_for, ev_iE, e1, ev_row, ev_iterL, ev_fzCons, ev_fzNil, List.getD_cons_zero, List.getD_cons_succ, ev_frzF, List.set, l1, f2, a2, ev_lenL, rowD_len, mi, e2, lp2, ev_ret]
end K03
end

section
set_option maxRecDepth 100000
set_option maxHeartbeats 1000000
/-! The law of k03. -/
namespace K03
open L2 DL PG LW
section
variable {nb : Nat → Int} {M N : Nat}
theorem toF_b (hM : M < 100) (k : Nat) : Bd 52 (toF nb M k) := by
  have := sm_bd7 (n := 45) (N := M - 1) (f := fun i => paF nb M i * wF nb 60 i k) (fun i _ => (Bd.mul (n := 2) (m := 43) (by have := paF_b nb M i; exact bd_lit (by simp; omega) (by simp; omega)) (wF_b nb 60 i k))) (by omega)
  exact this
theorem to2_b (hM : M < 100) : Bd 14 (to2 nb M) := by
  have := sm_bd7 (n := 7) (N := M - 1) (f := fun i => paF nb M i * bo0 nb i) (fun i _ => (Bd.mul (n := 2) (m := 5) (by have := paF_b nb M i; exact bd_lit (by simp; omega) (by simp; omega)) (by have := bo0_b nb i; exact bd_lit (by simp; omega) (by simp; omega)))) (by omega)
  exact this
theorem laF_b (hM : M < 100) (k : Nat) : Bd 60 (laF nb M k) := by
  have p := paL_b nb
  have r := mod_b (nb (182 + k % 5)) (m := 3) (by decide)
  unfold laF
  have a := fdiv_bd (b := paL nb) (by omega) ((bd_0 52).sub (toF_b (nb := nb) hM k))
  exact (a.sub (bd_lit (n := 3) (x := (nb (182 + k % 5)).fmod 3) (by simp; omega) (by simp; omega))).up (by decide)
theorem boL_b (hM : M < 100) : Bd 60 (boL nb M) := by
  have p := paL_b nb
  have r := mod_b (nb 11) (m := 3) (by decide)
  unfold boL
  have a := fdiv_bd (b := paL nb) (by omega) ((bd_0 14).sub (to2_b (nb := nb) hM))
  exact ((a.add (bd_lit (n := 3) (x := 1) (by decide) (by decide))).add (bd_lit (n := 3) (x := (nb 11).fmod 3) (by simp; omega) (by simp; omega))).up (by decide)
theorem np_ok (h1 : 1 ≤ M) (hM : M < 100) (n1 : 1 ≤ N) (nN : N ≤ 24) : NoneOk (npD nb M N) := by
  refine ⟨M, N, wL nb M, boF nb M, goF nb, paF nb M, rfl, ⟨hM, n1, nN, fun k _ i _ => ?_, fun k _ => ?_, fun i _ => ?_, fun i _ => ?_⟩, h1, none_misses nb M N h1, fun k _ => ?_, ?_⟩
  · unfold wL
    split
    · exact laF_b hM i
    · exact (wF_b nb 60 k i).up (by decide)
  · unfold boF
    split
    · exact boL_b hM
    · have := bo0_b nb k
      exact bd_lit (by simp; omega) (by simp; omega)
  · exact (mod_b _ (by decide)).1
  · have := mod_b (nb (187 + i % 5) + 3 * ((i / 5 : Nat) : Int)) (m := 8) (by decide)
    show Bd 60 ((nb (187 + i % 5) + 3 * ((i / 5 : Nat) : Int)).fmod 8)
    generalize (nb (187 + i % 5) + 3 * ((i / 5 : Nat) : Int)).fmod 8 = z at this ⊢
    exact bd_lit (by simp; omega) (by simp; omega)
  · have := paF_b nb M k
    exact bd_lit (by simp; omega) (by simp; omega)
  · rw [paF_last]; exact paL_b nb
theorem best_ok (h1 : 1 ≤ M) (hM : M < 100) (n1 : 1 ≤ N) (nN : N ≤ 24) : ∃ d, m_law_best_pair [.lst (rowD 200 nb), .int M, .int N] = .ok (.fz d) ∧ BestOk d := by
  obtain ⟨W, g, l, y, w, e, T, L, yb, wb⟩ := law_best_pair_is (nb := nb) hM n1 nN
  exact ⟨_, e, M, N, W, g, l, y, w, rfl, T, h1, L, yb, wb⟩
theorem none_ok (h1 : 1 ≤ M) (hM : M < 100) (n1 : 1 ≤ N) (nN : N ≤ 24) : ∃ d, m_law_none_pair [.lst (rowD 200 nb), .int M, .int N] = .ok (.fz d) ∧ NoneOk d := by
  obtain ⟨nb', e⟩ := law_none_pair_is (nb := nb) (N := N) h1 hM (by omega)
  exact ⟨_, e, np_ok h1 hM n1 nN⟩
theorem asked_best {d : DL.D} (h : BestOk d) : ∃ p0 p1, oIx d (.int 0) = .ok (.fz p0) ∧ oIx d (.int 1) = .ok (.fz p1) ∧ m_law_asked [.lst (rowD 200 nb), p0, p1] = .ok (.fz (.str "least")) := by
  obtain ⟨M, N, W, g, l, y, w, rfl, T, r1, L, yb, wb⟩ := h
  refine ⟨_, _, rfl, rfl, ?_⟩
  obtain ⟨x, e, wd⟩ := law_asked_is (nb := nb) T
  rcases wd with ⟨rfl, -⟩ | ⟨rfl, w', m⟩
  · exact e
  · exact (least_misses L m).elim
theorem asked_none {d : DL.D} (h : NoneOk d) : ∃ p0 p1, oIx d (.int 0) = .ok (.fz p0) ∧ oIx d (.int 1) = .ok (.fz p1) ∧ m_law_asked [.lst (rowD 200 nb), p0, p1] = .ok (.fz (.str "none")) := by
  obtain ⟨M, N, W, g, l, w, rfl, T, r1, L, wb, hl⟩ := h
  refine ⟨_, _, rfl, rfl, ?_⟩
  obtain ⟨x, e, wd⟩ := law_asked_is (nb := nb) T
  rcases wd with ⟨rfl, s, y, w', m⟩ | ⟨rfl, -⟩
  · exact (least_misses m L).elim
  · exact e
end
noncomputable def lwIf : DL.Env → DL.So := (sIf [1] (tV (e2 (cop .Eq) (e2 oMod (eA oInt (aCons (e2 oIx (eVar 1) (eC (.int 4))) aNil)) (eC (.int 16))) (eC (.int 1)))) (sSeq (sSet 2 [1] (e2 oAdd (eC (.int 9)) (e2 oMod (eA oInt (aCons (e2 oIx (eVar 1) (eC (.int 16))) aNil)) (eC (.int 52))))) (sSeq (sSet 3 [1] (e2 oAdd (eC (.int 6)) (e2 oMod (eA oInt (aCons (e2 oIx (eVar 1) (eC (.int 17))) aNil)) (eC (.int 19))))) (sIf [1] (tV (e2 (cop .Eq) (e2 oMod (eA oInt (aCons (e2 oIx (eVar 1) (eC (.int 18))) aNil)) (eC (.int 2))) (eC (.int 1)))) (sSet 4 [1, 2, 3] (eA (oCal 3 m_law_best_pair) (aCons (eVar 1) (aCons (eVar 2) (aCons (eVar 3) aNil))))) (sSet 5 [1, 2, 3] (eA (oCal 3 m_law_none_pair) (aCons (eVar 1) (aCons (eVar 2) (aCons (eVar 3) aNil)))))))) sNext)
noncomputable def lwEnd : DL.Env → DL.So := (sSeq (sIf [1, 4, 4, 1, 5, 5] (tO (tV (e2 (cop .NotEq) (eA (oCal 3 m_law_asked) (aCons (eVar 1) (aCons (e2 oIx (eVar 4) (eC (.int 0))) (aCons (e2 oIx (eVar 4) (eC (.int 1))) aNil)))) (eC (.str "least")))) (tV (e2 (cop .NotEq) (eA (oCal 3 m_law_asked) (aCons (eVar 1) (aCons (e2 oIx (eVar 5) (eC (.int 0))) (aCons (e2 oIx (eVar 5) (eC (.int 1))) aNil)))) (eC (.str "none"))))) (sRet [] (eC (.bl false))) sNext) (sSeq (sAsg [1, 1, 1] (nTup 2 (nCons (nName 6) (nCons (nName 7) nNil))) (eA (oCal 3 m_law_free) (aCons (eVar 1) (aCons (e2 oMod (eA oInt (aCons (e2 oIx (eVar 1) (eC (.int 2))) aNil)) (eC (.int 9))) (aCons (e2 oAdd (eC (.int 1)) (e2 oMod (eA oInt (aCons (e2 oIx (eVar 1) (eC (.int 19))) aNil)) (eC (.int 5)))) aNil))))) (sRet [1, 6, 7] (e2 (cop .NotEq) (eA (oCal 3 m_law_asked) (aCons (eVar 1) (aCons (eVar 6) (aCons (eVar 7) aNil)))) (eC (.str ""))))))
section
variable {nb : Nat → Int} {ns : List Int} {e : DL.Env} {d2 d3 db dn : DL.D}
theorem cell (h : eVar 1 e = .ok (.fz (.lst (rowD 200 nb)))) {k : Nat} (hk : k < 200) {A : List Nat} : (eA oInt (aCons (e2 oIx (eVar 1) (eC (.int k))) aNil)) e = .ok (.fz (.int (nb k))) := by
  have c : atI (rowD 200 nb) (k : Int) = some (.int (nb k)) := ix_row hk
  simp only [ev_eA, ev_aCons, ev_e2, h, ev_bok, ev_c, ev_rfz, ev_ixL, c, ev_oR, ev_pok, ev_aNil, ev_int]
theorem lwEnd_is (hv : e.map Sl.frz = [.fz (.scr ns), .fz (.lst (rowD 200 nb)), .fz d2, .fz d3, .fz db, .fz dn, .un, .un]) (hb : BestOk db) (hn : NoneOk dn) : lwEnd e = .rt (.fz (.bl true)) := by
  have v1 : eVar 1 e = .ok (.fz (.lst (rowD 200 nb))) := ev_view hv rfl
  have v4 : eVar 4 e = .ok (.fz db) := ev_view hv rfl
  have v5 : eVar 5 e = .ok (.fz dn) := ev_view hv rfl
  obtain ⟨p0, p1, a0, a1, a2⟩ := asked_best (nb := nb) hb
  obtain ⟨q0, q1, b0, b1, b2⟩ := asked_none (nb := nb) hn
  have m9 : ∀ x : Int, oMod (.int x) (.int 9) = .ok (.fz (.int (x.fmod 9))) := fun x => ev_mod (by decide)
  have c2 := cell v1 (k := 2) (by decide) (A := [])
  have c19 := cell v1 (k := 19) (by decide) (A := [])
  obtain ⟨M, hM, eM⟩ := mod_nat (nb 2) (m := 9) (by decide)
  obtain ⟨N, hN, eN⟩ := mod_nat (nb 19) (m := 5) (by decide)
  have eM : (nb 2).fmod 9 = M := eM
  have eN : (nb 19).fmod 5 = N := eN
  obtain ⟨W, g, l, ef, T⟩ := law_free_is (nb := nb) (M := M) (N := 1 + N) (by omega) (by omega) (by omega)
  have ef : m_law_free [.lst (rowD 200 nb), .int M, .int (1 + (N : Int))] = .ok (.fz (.tup [.lst (rowD (1 + N) l), .lst (rowsI M (1 + N) W g .lst)])) := by
    rw [← ef]; simp
  obtain ⟨x, ax, wd⟩ := law_asked_is (nb := nb) T
  have nex : decide (PySem.Str.ofString x = PySem.Str.ofString "") = false := by
    rcases wd with ⟨rfl, -⟩ | ⟨rfl, -⟩ <;> decide
  have free : (eA (oCal 3 m_law_free) (aCons (eVar 1) (aCons (e2 oMod (eA oInt (aCons (e2 oIx (eVar 1) (eC (.int 2))) aNil)) (eC (.int 9))) (aCons (e2 oAdd (eC (.int 1)) (e2 oMod (eA oInt (aCons (e2 oIx (eVar 1) (eC (.int 19))) aNil)) (eC (.int 5)))) aNil)))) e = .ok (.fz (.tup [.lst (rowD (1 + N) l), .lst (rowsI M (1 + N) W g .lst)])) := by
    have c2 : (eA oInt (aCons (e2 oIx (eVar 1) (eC (.int 2))) aNil)) e = .ok (.fz (.int (nb 2))) := c2
    have c19 : (eA oInt (aCons (e2 oIx (eVar 1) (eC (.int 19))) aNil)) e = .ok (.fz (.int (nb 19))) := c19
    have x1 : (e2 oMod (eA oInt (aCons (e2 oIx (eVar 1) (eC (.int 2))) aNil)) (eC (.int 9))) e = .ok (.fz (.int M)) := by
      rw [ev_e2, c2]; simp only [ev_bok, ev_c, ev_rfz, m9, eM, ev_pok]
    have x2 : (e2 oAdd (eC (.int 1)) (e2 oMod (eA oInt (aCons (e2 oIx (eVar 1) (eC (.int 19))) aNil)) (eC (.int 5)))) e = .ok (.fz (.int (1 + (N : Int)))) := by
      have x3 : (e2 oMod (eA oInt (aCons (e2 oIx (eVar 1) (eC (.int 19))) aNil)) (eC (.int 5))) e = .ok (.fz (.int N)) := by
        rw [ev_e2, c19]; simp only [ev_bok, ev_c, ev_rfz, m5', eN, ev_pok]
      rw [ev_e2, x3]; simp only [ev_bok, ev_c, ev_rfz, ev_add, ev_pok]
    rw [ev_eA, ev_aCons, v1, ev_bok, ev_aCons, x1, ev_bok, ev_aCons, x2]
    simp only [ev_bok, ev_aNil, ev_rfz, oCal, List.length_cons, List.length_nil, if_true, ef, ev_pok]
  have hl : e.length = 8 := by rw [len_view hv]; rfl
  -- the two names
  have tgt : ∀ e' : DL.Env, nTup 2 (nCons (nName 6) (nCons (nName 7) nNil)) (.tup [.lst (rowD (1 + N) l), .lst (rowsI M (1 + N) W g .lst)]) e' = some ((e'.set 6 (.fz (.lst (rowD (1 + N) l)))).set 7 (.fz (.lst (rowsI M (1 + N) W g .lst)))) := fun _ => rfl
  unfold lwEnd
  have test : (tO (tV (e2 (cop .NotEq) (eA (oCal 3 m_law_asked) (aCons (eVar 1) (aCons (e2 oIx (eVar 4) (eC (.int 0))) (aCons (e2 oIx (eVar 4) (eC (.int 1))) aNil)))) (eC (.str "least")))) (tV (e2 (cop .NotEq) (eA (oCal 3 m_law_asked) (aCons (eVar 1) (aCons (e2 oIx (eVar 5) (eC (.int 0))) (aCons (e2 oIx (eVar 5) (eC (.int 1))) aNil)))) (eC (.str "none"))))) e = .ok false := by
    simp only [ev_tO, ev_tV, ev_e2, ev_eA, ev_aCons, v1, v4, v5, ev_bok, ev_c, ev_rfz, a0, a1, b0, b1, ev_pok, ev_aNil, oCal, List.length_cons, List.length_nil, if_true, a2, b2, ev_copNe, ev_neS, decide_true, Bool.not_true, ev_asB, Bool.false_eq_true, if_false]
  rw [ev_seq, ev_if, test, ev_ofM, if_neg (by decide), ev_next, ev_tn, ev_seq, ev_asg, free, ev_ofM, ev_rfz, tgt, ev_ofO, ev_tn]
  have hv2 := view_set (view_set (h := (view_frzIf (.fz (.tup [.lst (rowD (1 + N) l), .lst (rowsI M (1 + N) W g .lst)])) [1, 1, 1] e).trans hv) 6 (.fz (.lst (rowD (1 + N) l)))) 7 (.fz (.lst (rowsI M (1 + N) W g .lst)))
  generalize ((frzIf (.fz (.tup [.lst (rowD (1 + N) l), .lst (rowsI M (1 + N) W g .lst)])) [1, 1, 1] e).set 6 (.fz (.lst (rowD (1 + N) l)))).set 7 (.fz (.lst (rowsI M (1 + N) W g .lst))) = e2 at hv2
  have w1 : eVar 1 e2 = .ok (.fz (.lst (rowD 200 nb))) := ev_view hv2 rfl
  have w6 : eVar 6 e2 = .ok (.fz (.lst (rowD (1 + N) l))) := ev_view hv2 rfl
  have w7 : eVar 7 e2 = .ok (.fz (.lst (rowsI M (1 + N) W g .lst))) := ev_view hv2 rfl
  simp only [ev_ret, ev_e2, ev_eA, ev_aCons, w1, w6, w7, ev_bok, ev_rfz, ev_aNil, oCal, List.length_cons, List.length_nil, if_true, ax, ev_pok, ev_c, ev_copNe, ev_neS, nex, Bool.not_false, ev_ofM]
theorem lwIf_is (hv : e.map Sl.frz = [.fz (.scr ns), .fz (.lst (rowD 200 nb)), .fz d2, .fz d3, .fz db, .fz dn, .un, .un]) (hb : BestOk db) (hn : NoneOk dn) :
    ∃ e' d2' d3' db' dn', lwIf e = .nx e' ∧ e'.map Sl.frz = [.fz (.scr ns), .fz (.lst (rowD 200 nb)), .fz d2', .fz d3', .fz db', .fz dn', .un, .un] ∧ BestOk db' ∧ NoneOk dn' := by
  have v1 : eVar 1 e = .ok (.fz (.lst (rowD 200 nb))) := ev_view hv rfl
  have m16 : ∀ x : Int, oMod (.int x) (.int 16) = .ok (.fz (.int (x.fmod 16))) := fun x => ev_mod (by decide)
  have m52 : ∀ x : Int, oMod (.int x) (.int 52) = .ok (.fz (.int (x.fmod 52))) := fun x => ev_mod (by decide)
  have m2 : ∀ x : Int, oMod (.int x) (.int 2) = .ok (.fz (.int (x.fmod 2))) := fun x => ev_mod (by decide)
  have c4 : (eA oInt (aCons (e2 oIx (eVar 1) (eC (.int 4))) aNil)) e = .ok (.fz (.int (nb 4))) := cell v1 (k := 4) (by decide) (A := [])
  have t1 : (tV (e2 (cop .Eq) (e2 oMod (eA oInt (aCons (e2 oIx (eVar 1) (eC (.int 4))) aNil)) (eC (.int 16))) (eC (.int 1)))) e = .ok (decide ((nb 4).fmod 16 = 1)) := by
    rw [ev_tV, ev_e2, ev_e2, c4]; simp only [ev_bok, ev_c, ev_rfz, m16, ev_pok, ev_copEq, ev_eqI, ev_asB]
  unfold lwIf
  rw [ev_if, t1, ev_ofM]
  by_cases h16 : (nb 4).fmod 16 = 1
  · rw [if_pos (decide_eq_true h16)]
    obtain ⟨M, hM, eM⟩ := mod_nat (nb 16) (m := 52) (by decide)
    obtain ⟨N, hN, eN⟩ := mod_nat (nb 17) (m := 19) (by decide)
    have eM : (nb 16).fmod 52 = M := eM
    have eN : (nb 17).fmod 19 = N := eN
    have c16 : (eA oInt (aCons (e2 oIx (eVar 1) (eC (.int 16))) aNil)) e = .ok (.fz (.int (nb 16))) := cell v1 (k := 16) (by decide) (A := [])
    have x1 : (e2 oAdd (eC (.int 9)) (e2 oMod (eA oInt (aCons (e2 oIx (eVar 1) (eC (.int 16))) aNil)) (eC (.int 52)))) e = .ok (.fz (.int ((9 + M : Nat) : Int))) := by
      rw [ev_e2, ev_e2, c16]; simp only [ev_bok, ev_c, ev_rfz, m52, eM, ev_pok, ev_add]; simp
    obtain ⟨e1, s1, h1, -⟩ := view_sSet hv (i := 2) (A := [1]) x1 (by simp)
    have v1' : eVar 1 e1 = .ok (.fz (.lst (rowD 200 nb))) := ev_view h1 rfl
    have c17 : (eA oInt (aCons (e2 oIx (eVar 1) (eC (.int 17))) aNil)) e1 = .ok (.fz (.int (nb 17))) := cell v1' (k := 17) (by decide) (A := [])
    have m19'' : ∀ x : Int, oMod (.int x) (.int 19) = .ok (.fz (.int (x.fmod 19))) := m19'
    have x2 : (e2 oAdd (eC (.int 6)) (e2 oMod (eA oInt (aCons (e2 oIx (eVar 1) (eC (.int 17))) aNil)) (eC (.int 19)))) e1 = .ok (.fz (.int ((6 + N : Nat) : Int))) := by
      rw [ev_e2, ev_e2, c17]; simp only [ev_bok, ev_c, ev_rfz, m19'', eN, ev_pok, ev_add]; simp
    obtain ⟨ez, s2, h2, -⟩ := view_sSet h1 (i := 3) (A := [1]) x2 (by simp)
    have u1 : eVar 1 ez = .ok (.fz (.lst (rowD 200 nb))) := ev_view h2 rfl
    have u2 : eVar 2 ez = .ok (.fz (.int ((9 + M : Nat) : Int))) := ev_view h2 rfl
    have u3 : eVar 3 ez = .ok (.fz (.int ((6 + N : Nat) : Int))) := ev_view h2 rfl
    have c18 : (eA oInt (aCons (e2 oIx (eVar 1) (eC (.int 18))) aNil)) ez = .ok (.fz (.int (nb 18))) := cell u1 (k := 18) (by decide) (A := [])
    have t2 : (tV (e2 (cop .Eq) (e2 oMod (eA oInt (aCons (e2 oIx (eVar 1) (eC (.int 18))) aNil)) (eC (.int 2))) (eC (.int 1)))) ez = .ok (decide ((nb 18).fmod 2 = 1)) := by
      rw [ev_tV, ev_e2, ev_e2, c18]; simp only [ev_bok, ev_c, ev_rfz, m2, ev_pok, ev_copEq, ev_eqI, ev_asB]
    rw [ev_seq, s1, ev_tn, ev_seq, s2, ev_tn, ev_if, t2, ev_ofM]
    by_cases h2' : (nb 18).fmod 2 = 1
    · rw [if_pos (decide_eq_true h2')]
      obtain ⟨d, ed, ok⟩ := best_ok (nb := nb) (M := 9 + M) (N := 6 + N) (by omega) (by omega) (by omega) (by omega)
      have x3 : (eA (oCal 3 m_law_best_pair) (aCons (eVar 1) (aCons (eVar 2) (aCons (eVar 3) aNil)))) ez = .ok (.fz d) := by
        simp only [ev_eA, ev_aCons, u1, u2, u3, ev_bok, ev_rfz, ev_aNil, oCal, List.length_cons, List.length_nil, if_true, ed, ev_pok]
      obtain ⟨e3, s3, h3, -⟩ := view_sSet h2 (i := 4) (A := [1, 2, 3]) x3 (by simp)
      exact ⟨e3, _, _, _, _, s3, h3, ok, hn⟩
    · rw [if_neg (by simp [h2'])]
      obtain ⟨d, ed, ok⟩ := none_ok (nb := nb) (M := 9 + M) (N := 6 + N) (by omega) (by omega) (by omega) (by omega)
      have x3 : (eA (oCal 3 m_law_none_pair) (aCons (eVar 1) (aCons (eVar 2) (aCons (eVar 3) aNil)))) ez = .ok (.fz d) := by
        simp only [ev_eA, ev_aCons, u1, u2, u3, ev_bok, ev_rfz, ev_aNil, oCal, List.length_cons, List.length_nil, if_true, ed, ev_pok]
      obtain ⟨e3, s3, h3, -⟩ := view_sSet h2 (i := 5) (A := [1, 2, 3]) x3 (by simp)
      exact ⟨e3, _, _, _, _, s3, h3, hb, ok⟩
  · rw [if_neg (by simp [h16])]
    exact ⟨e, _, _, _, _, rfl, hv, hb, hn⟩
end
theorem m_law_true {ns : List Int} (hn : ns.length ≤ 63) : m_law [.scr ns] = .ok (.fz (.bl true)) := by
  obtain ⟨nb, en, nN⟩ := law_numbers_is (M := 200) (by decide) hn
  have en : m_law_numbers [.scr ns, .int 200] = .ok (.ow (rowD 200 nb)) := en
  obtain ⟨M, hM, eM⟩ := mod_nat (nb 0) (m := 8) (by decide)
  obtain ⟨N, hN, eN⟩ := mod_nat (nb 1) (m := 5) (by decide)
  have eM : (nb 0).fmod 8 = M := eM
  have eN : (nb 1).fmod 5 = N := eN
  have c0 : atI (rowD 200 nb) 0 = some (.int (nb 0)) := ix_row (j := 0) (by decide)
  have c1 : atI (rowD 200 nb) 1 = some (.int (nb 1)) := ix_row (j := 1) (by decide)
  obtain ⟨db, eb, hb⟩ := best_ok (nb := nb) (M := 1 + M) (N := 1 + N) (by omega) (by omega) (by omega) (by omega)
  obtain ⟨dn, ed, hd⟩ := none_ok (nb := nb) (M := 1 + M) (N := 1 + N) (by omega) (by omega) (by omega) (by omega)
  have jd := law_judged_true (nb := nb) hb hd
  have pM : (1 : Int) + (M : Int) = ((1 + M : Nat) : Int) := by omega
  have pN : (1 : Int) + (N : Int) = ((1 + N : Nat) : Int) := by omega
  have h3 : ([.fz (.scr ns), .ow (rowD 200 nb), .fz (.int ((1 + M : Nat) : Int)), .fz (.int ((1 + N : Nat) : Int)), .un, .un, .un, .un] : DL.Env).map Sl.frz = [.fz (.scr ns), .fz (.lst (rowD 200 nb)), .fz (.int ((1 + M : Nat) : Int)), .fz (.int ((1 + N : Nat) : Int)), .un, .un, .un, .un] := rfl
  have x4 : (eA (oCal 3 m_law_best_pair) (aCons (eVar 1) (aCons (eVar 2) (aCons (eVar 3) aNil)))) [.fz (.scr ns), .ow (rowD 200 nb), .fz (.int ((1 + M : Nat) : Int)), .fz (.int ((1 + N : Nat) : Int)), .un, .un, .un, .un] = .ok (.fz db) := by
    simp only [ev_eA, ev_aCons, ev_vs, ev_v0f, ev_v0o, ev_bok, ev_rfz, ev_aNil, oCal, List.length_cons, List.length_nil, if_true, eb, ev_pok]
  obtain ⟨e4, s4, h4, -⟩ := view_sSet h3 (i := 4) (A := [1, 2, 3]) x4 (by simp)
  have u1 : eVar 1 e4 = .ok (.fz (.lst (rowD 200 nb))) := ev_view h4 rfl
  have u2 : eVar 2 e4 = .ok (.fz (.int ((1 + M : Nat) : Int))) := ev_view h4 rfl
  have u3 : eVar 3 e4 = .ok (.fz (.int ((1 + N : Nat) : Int))) := ev_view h4 rfl
  have x5 : (eA (oCal 3 m_law_none_pair) (aCons (eVar 1) (aCons (eVar 2) (aCons (eVar 3) aNil)))) e4 = .ok (.fz dn) := by
    simp only [ev_eA, ev_aCons, u1, u2, u3, ev_bok, ev_rfz, ev_aNil, oCal, List.length_cons, List.length_nil, if_true, ed, ev_pok]
  obtain ⟨e5, s5, h5, -⟩ := view_sSet h4 (i := 5) (A := [1, 2, 3]) x5 (by simp)
  have w1 : eVar 1 e5 = .ok (.fz (.lst (rowD 200 nb))) := ev_view h5 rfl
  have w4 : eVar 4 e5 = .ok (.fz db) := ev_view h5 rfl
  have w5 : eVar 5 e5 = .ok (.fz dn) := ev_view h5 rfl
  have tj : (tN (tV (eA (oCal 3 m_law_judged) (aCons (eVar 1) (aCons (eVar 4) (aCons (eVar 5) aNil)))))) e5 = .ok false := by
    simp only [ev_tN, ev_tV, ev_eA, ev_aCons, w1, w4, w5, ev_bok, ev_rfz, ev_aNil, oCal, List.length_cons, List.length_nil, if_true, jd, ev_pok, ev_asB, Bool.not_true]
  obtain ⟨e6, d2, d3, db', dn', s6, h6, hb', hd'⟩ := lwIf_is h5 hb hd
  have fin := lwEnd_is h6 hb' hd'
  refine runD_ok ?_
  have sh : b_law = sSeq (sSet 1 [0] (eA (oCal 2 m_law_numbers) (aCons (eVar 0) (aCons (eC (.int 200)) aNil)))) (sSeq (sSet 2 [1] (e2 oAdd (eC (.int 1)) (e2 oMod (eA oInt (aCons (e2 oIx (eVar 1) (eC (.int 0))) aNil)) (eC (.int 8))))) (sSeq (sSet 3 [1] (e2 oAdd (eC (.int 1)) (e2 oMod (eA oInt (aCons (e2 oIx (eVar 1) (eC (.int 1))) aNil)) (eC (.int 5))))) (sSeq (sSet 4 [1, 2, 3] (eA (oCal 3 m_law_best_pair) (aCons (eVar 1) (aCons (eVar 2) (aCons (eVar 3) aNil))))) (sSeq (sSet 5 [1, 2, 3] (eA (oCal 3 m_law_none_pair) (aCons (eVar 1) (aCons (eVar 2) (aCons (eVar 3) aNil))))) (sSeq (sIf [1, 4, 5] (tN (tV (eA (oCal 3 m_law_judged) (aCons (eVar 1) (aCons (eVar 4) (aCons (eVar 5) aNil)))))) (sRet [] (eC (.bl false))) sNext) (sSeq lwIf lwEnd)))))) := rfl
  rw [sh]
  show sSeq _ _ [.fz (.scr ns), .un, .un, .un, .un, .un, .un, .un] = _
  have first : ∀ rest, sSeq (sSet 1 [0] (eA (oCal 2 m_law_numbers) (aCons (eVar 0) (aCons (eC (.int 200)) aNil)))) (sSeq (sSet 2 [1] (e2 oAdd (eC (.int 1)) (e2 oMod (eA oInt (aCons (e2 oIx (eVar 1) (eC (.int 0))) aNil)) (eC (.int 8))))) (sSeq (sSet 3 [1] (e2 oAdd (eC (.int 1)) (e2 oMod (eA oInt (aCons (e2 oIx (eVar 1) (eC (.int 1))) aNil)) (eC (.int 5))))) rest)) [.fz (.scr ns), .un, .un, .un, .un, .un, .un, .un] = rest [.fz (.scr ns), .ow (rowD 200 nb), .fz (.int ((1 + M : Nat) : Int)), .fz (.int ((1 + N : Nat) : Int)), .un, .un, .un, .un] := fun rest => by
    simp only [ev_seq, ev_set, ev_eA, ev_e2, ev_aCons, ev_vs, ev_v0f, ev_v0o, ev_bok, ev_rfz, ev_c, ev_aNil, oCal, List.length_cons, List.length_nil, if_true, en, ev_pok, ev_ofM, ev_frzRow, ev_sow, List.set, ev_tn, ev_ixL, c0, c1, ev_oR, ev_int, m8', m5', eM, eN, ev_add, pM, pN, ev_frzInt, ev_sfz]
  rw [first, ev_seq, s4, ev_tn, ev_seq, s5, ev_tn, ev_seq, ev_if, tj, ev_ofM, if_neg (by decide), ev_next, ev_tn, ev_seq, s6, ev_tn, fin]
end K03
end

section
set_option maxRecDepth 100000
set_option maxHeartbeats 4000000
namespace K03
open PySem L2 DL PG LW
variable {P : Program} {w : World} {mg : Str → Option Value} {base : Heap} {G : GC}
def G0 (K : PySem.W.Frag) : GC := ⟨K, fun _ => none⟩
def spLaw (K : PySem.W.Frag) : Sp := spD (G0 K) 1 m_law
theorem all_mk {l : PySem.W.OpenLaw} {w : World} {K : PySem.W.Frag} {h : Heap} {mg : Str → Option Value} {fa : Addr} (X : K.In h) (G : h.Ns mainGlobals mg) (hfa : mg "law" = some (.ref fa))
    {od1 an1 : Option Addr} {sl1 : Array (Option Value)} {oc1 kV1 dc1 pm1 cd1 ct1 : Value} {f1 : Addr} {od2 an2 : Option Addr} {sl2 : Array (Option Value)} {oc2 kV2 dc2 pm2 cd2 ct2 : Value} {f2 : Addr} {od3 an3 : Option Addr} {sl3 : Array (Option Value)} {oc3 kV3 dc3 pm3 cd3 ct3 : Value} {f3 : Addr} {od4 an4 : Option Addr} {sl4 : Array (Option Value)} {oc4 kV4 dc4 pm4 cd4 ct4 : Value} {f4 : Addr} {od5 an5 : Option Addr} {sl5 : Array (Option Value)} {oc5 kV5 dc5 pm5 cd5 ct5 : Value} {f5 : Addr} {od6 an6 : Option Addr} {sl6 : Array (Option Value)} {oc6 kV6 dc6 pm6 cd6 ct6 : Value} {f6 : Addr} {od7 an7 : Option Addr} {sl7 : Array (Option Value)} {oc7 kV7 dc7 pm7 cd7 ct7 : Value} {f7 : Addr} {od8 an8 : Option Addr} {sl8 : Array (Option Value)} {oc8 kV8 dc8 pm8 cd8 ct8 : Value} {f8 : Addr} {od9 an9 : Option Addr} {sl9 : Array (Option Value)} {oc9 kV9 dc9 pm9 cd9 ct9 : Value} {f9 : Addr} {od10 an10 : Option Addr} {sl10 : Array (Option Value)} {oc10 kV10 dc10 pm10 cd10 ct10 : Value} {f10 : Addr} {od11 an11 : Option Addr} {sl11 : Array (Option Value)} {oc11 kV11 dc11 pm11 cd11 ct11 : Value} {f11 : Addr} {od12 an12 : Option Addr} {sl12 : Array (Option Value)} {oc12 kV12 dc12 pm12 cd12 ct12 : Value} {f12 : Addr} {od13 an13 : Option Addr} {sl13 : Array (Option Value)} {oc13 kV13 dc13 pm13 cd13 ct13 : Value} {f13 : Addr} {od14 an14 : Option Addr} {sl14 : Array (Option Value)} {oc14 kV14 dc14 pm14 cd14 ct14 : Value} {f14 : Addr} {od15 an15 : Option Addr} {sl15 : Array (Option Value)} {oc15 kV15 dc15 pm15 cd15 ct15 : Value} {f15 : Addr} {od16 an16 : Option Addr} {sl16 : Array (Option Value)} {oc16 kV16 dc16 pm16 cd16 ct16 : Value} {f16 : Addr} {od17 an17 : Option Addr} {sl17 : Array (Option Value)} {oc17 kV17 dc17 pm17 cd17 ct17 : Value} {f17 : Addr} {od18 an18 : Option Addr} {sl18 : Array (Option Value)} {oc18 kV18 dc18 pm18 cd18 ct18 : Value} {f18 : Addr} {od19 an19 : Option Addr} {sl19 : Array (Option Value)} {oc19 kV19 dc19 pm19 cd19 ct19 : Value} {f19 : Addr} {od20 an20 : Option Addr} {sl20 : Array (Option Value)} {oc20 kV20 dc20 pm20 cd20 ct20 : Value} {f20 : Addr} {od21 an21 : Option Addr} {sl21 : Array (Option Value)} {oc21 kV21 dc21 pm21 cd21 ct21 : Value} {f21 : Addr} {od22 an22 : Option Addr} {sl22 : Array (Option Value)} {oc22 kV22 dc22 pm22 cd22 ct22 : Value} {f22 : Addr} {od23 an23 : Option Addr} {sl23 : Array (Option Value)} {oc23 kV23 dc23 pm23 cd23 ct23 : Value} {f23 : Addr} {od24 an24 : Option Addr} {sl24 : Array (Option Value)} {oc24 kV24 dc24 pm24 cd24 ct24 : Value} {f24 : Addr} {od25 an25 : Option Addr} {sl25 : Array (Option Value)} {oc25 kV25 dc25 pm25 cd25 ct25 : Value} {f25 : Addr} {od26 an26 : Option Addr} {sl26 : Array (Option Value)} {oc26 kV26 dc26 pm26 cd26 ct26 : Value} {f26 : Addr} {od27 an27 : Option Addr} {sl27 : Array (Option Value)} {oc27 kV27 dc27 pm27 cd27 ct27 : Value} {f27 : Addr} {od28 an28 : Option Addr} {sl28 : Array (Option Value)} {oc28 kV28 dc28 pm28 cd28 ct28 : Value} {f28 : Addr} {od29 an29 : Option Addr} {sl29 : Array (Option Value)} {oc29 kV29 dc29 pm29 cd29 ct29 : Value} {f29 : Addr} {od30 an30 : Option Addr} {sl30 : Array (Option Value)} {oc30 kV30 dc30 pm30 cd30 ct30 : Value} {f30 : Addr} {od31 an31 : Option Addr} {sl31 : Array (Option Value)} {oc31 kV31 dc31 pm31 cd31 ct31 : Value} {f31 : Addr} {od32 an32 : Option Addr} {sl32 : Array (Option Value)} {oc32 kV32 dc32 pm32 cd32 ct32 : Value} {f32 : Addr} {od33 an33 : Option Addr} {sl33 : Array (Option Value)} {oc33 kV33 dc33 pm33 cd33 ct33 : Value} {f33 : Addr} {od34 an34 : Option Addr} {sl34 : Array (Option Value)} {oc34 kV34 dc34 pm34 cd34 ct34 : Value} {f34 : Addr}
    (a1 : PySem.W.nsIn K mainGlobals "_law_numbers" = some (some (.ref f1)))
    (l1 : K.lookup f1 = some ⟨oc1, od1, .func (PySem.W.fnOf "_law_numbers" "_law_numbers" (defArgs s_law_numbers) (defBody s_law_numbers) (defScope s_law_numbers) .none kV1 dc1 pm1 an1 cd1 ct1), sl1⟩)
    (c1 : PySem.W.codeIn K cd1 "_law_numbers" = true) (k1 : PySem.W.keepIn K (.ref f1) = true)
    (a2 : PySem.W.nsIn K mainGlobals "_law_number" = some (some (.ref f2)))
    (l2 : K.lookup f2 = some ⟨oc2, od2, .func (PySem.W.fnOf "_law_number" "_law_number" (defArgs s_law_number) (defBody s_law_number) (defScope s_law_number) .none kV2 dc2 pm2 an2 cd2 ct2), sl2⟩)
    (c2 : PySem.W.codeIn K cd2 "_law_number" = true) (k2 : PySem.W.keepIn K (.ref f2) = true)
    (a3 : PySem.W.nsIn K mainGlobals "_law_weights" = some (some (.ref f3)))
    (l3 : K.lookup f3 = some ⟨oc3, od3, .func (PySem.W.fnOf "_law_weights" "_law_weights" (defArgs s_law_weights) (defBody s_law_weights) (defScope s_law_weights) .none kV3 dc3 pm3 an3 cd3 ct3), sl3⟩)
    (c3 : PySem.W.codeIn K cd3 "_law_weights" = true) (k3 : PySem.W.keepIn K (.ref f3) = true)
    (a4 : PySem.W.nsIn K mainGlobals "_law_dot" = some (some (.ref f4)))
    (l4 : K.lookup f4 = some ⟨oc4, od4, .func (PySem.W.fnOf "_law_dot" "_law_dot" (defArgs s_law_dot) (defBody s_law_dot) (defScope s_law_dot) .none kV4 dc4 pm4 an4 cd4 ct4), sl4⟩)
    (c4 : PySem.W.codeIn K cd4 "_law_dot" = true) (k4 : PySem.W.keepIn K (.ref f4) = true)
    (a5 : PySem.W.nsIn K mainGlobals "_law_best_pair" = some (some (.ref f5)))
    (l5 : K.lookup f5 = some ⟨oc5, od5, .func (PySem.W.fnOf "_law_best_pair" "_law_best_pair" (defArgs s_law_best_pair) (defBody s_law_best_pair) (defScope s_law_best_pair) .none kV5 dc5 pm5 an5 cd5 ct5), sl5⟩)
    (c5 : PySem.W.codeIn K cd5 "_law_best_pair" = true) (k5 : PySem.W.keepIn K (.ref f5) = true)
    (a6 : PySem.W.nsIn K mainGlobals "_law_none_pair" = some (some (.ref f6)))
    (l6 : K.lookup f6 = some ⟨oc6, od6, .func (PySem.W.fnOf "_law_none_pair" "_law_none_pair" (defArgs s_law_none_pair) (defBody s_law_none_pair) (defScope s_law_none_pair) .none kV6 dc6 pm6 an6 cd6 ct6), sl6⟩)
    (c6 : PySem.W.codeIn K cd6 "_law_none_pair" = true) (k6 : PySem.W.keepIn K (.ref f6) = true)
    (a7 : PySem.W.nsIn K mainGlobals "_law_free" = some (some (.ref f7)))
    (l7 : K.lookup f7 = some ⟨oc7, od7, .func (PySem.W.fnOf "_law_free" "_law_free" (defArgs s_law_free) (defBody s_law_free) (defScope s_law_free) .none kV7 dc7 pm7 an7 cd7 ct7), sl7⟩)
    (c7 : PySem.W.codeIn K cd7 "_law_free" = true) (k7 : PySem.W.keepIn K (.ref f7) = true)
    (a8 : PySem.W.nsIn K mainGlobals "_law_pick" = some (some (.ref f8)))
    (l8 : K.lookup f8 = some ⟨oc8, od8, .func (PySem.W.fnOf "_law_pick" "_law_pick" (defArgs s_law_pick) (defBody s_law_pick) (defScope s_law_pick) .none kV8 dc8 pm8 an8 cd8 ct8), sl8⟩)
    (c8 : PySem.W.codeIn K cd8 "_law_pick" = true) (k8 : PySem.W.keepIn K (.ref f8) = true)
    (a9 : PySem.W.nsIn K mainGlobals "_law_column" = some (some (.ref f9)))
    (l9 : K.lookup f9 = some ⟨oc9, od9, .func (PySem.W.fnOf "_law_column" "_law_column" (defArgs s_law_column) (defBody s_law_column) (defScope s_law_column) .none kV9 dc9 pm9 an9 cd9 ct9), sl9⟩)
    (c9 : PySem.W.codeIn K cd9 "_law_column" = true) (k9 : PySem.W.keepIn K (.ref f9) = true)
    (a10 : PySem.W.nsIn K mainGlobals "_law_with_bound" = some (some (.ref f10)))
    (l10 : K.lookup f10 = some ⟨oc10, od10, .func (PySem.W.fnOf "_law_with_bound" "_law_with_bound" (defArgs s_law_with_bound) (defBody s_law_with_bound) (defScope s_law_with_bound) .none kV10 dc10 pm10 an10 cd10 ct10), sl10⟩)
    (c10 : PySem.W.codeIn K cd10 "_law_with_bound" = true) (k10 : PySem.W.keepIn K (.ref f10) = true)
    (a11 : PySem.W.nsIn K mainGlobals "_law_with_weight" = some (some (.ref f11)))
    (l11 : K.lookup f11 = some ⟨oc11, od11, .func (PySem.W.fnOf "_law_with_weight" "_law_with_weight" (defArgs s_law_with_weight) (defBody s_law_with_weight) (defScope s_law_with_weight) .none kV11 dc11 pm11 an11 cd11 ct11), sl11⟩)
    (c11 : PySem.W.codeIn K cd11 "_law_with_weight" = true) (k11 : PySem.W.keepIn K (.ref f11) = true)
    (a12 : PySem.W.nsIn K mainGlobals "_law_best_changes" = some (some (.ref f12)))
    (l12 : K.lookup f12 = some ⟨oc12, od12, .func (PySem.W.fnOf "_law_best_changes" "_law_best_changes" (defArgs s_law_best_changes) (defBody s_law_best_changes) (defScope s_law_best_changes) .none kV12 dc12 pm12 an12 cd12 ct12), sl12⟩)
    (c12 : PySem.W.codeIn K cd12 "_law_best_changes" = true) (k12 : PySem.W.keepIn K (.ref f12) = true)
    (a13 : PySem.W.nsIn K mainGlobals "_law_paid" = some (some (.ref f13)))
    (l13 : K.lookup f13 = some ⟨oc13, od13, .func (PySem.W.fnOf "_law_paid" "_law_paid" (defArgs s_law_paid) (defBody s_law_paid) (defScope s_law_paid) .none kV13 dc13 pm13 an13 cd13 ct13), sl13⟩)
    (c13 : PySem.W.codeIn K cd13 "_law_paid" = true) (k13 : PySem.W.keepIn K (.ref f13) = true)
    (a14 : PySem.W.nsIn K mainGlobals "_law_none_changes" = some (some (.ref f14)))
    (l14 : K.lookup f14 = some ⟨oc14, od14, .func (PySem.W.fnOf "_law_none_changes" "_law_none_changes" (defArgs s_law_none_changes) (defBody s_law_none_changes) (defScope s_law_none_changes) .none kV14 dc14 pm14 an14 cd14 ct14), sl14⟩)
    (c14 : PySem.W.codeIn K cd14 "_law_none_changes" = true) (k14 : PySem.W.keepIn K (.ref f14) = true)
    (a15 : PySem.W.nsIn K mainGlobals "_law_same" = some (some (.ref f15)))
    (l15 : K.lookup f15 = some ⟨oc15, od15, .func (PySem.W.fnOf "_law_same" "_law_same" (defArgs s_law_same) (defBody s_law_same) (defScope s_law_same) .none kV15 dc15 pm15 an15 cd15 ct15), sl15⟩)
    (c15 : PySem.W.codeIn K cd15 "_law_same" = true) (k15 : PySem.W.keepIn K (.ref f15) = true)
    (a16 : PySem.W.nsIn K mainGlobals "_law_shows" = some (some (.ref f16)))
    (l16 : K.lookup f16 = some ⟨oc16, od16, .func (PySem.W.fnOf "_law_shows" "_law_shows" (defArgs s_law_shows) (defBody s_law_shows) (defScope s_law_shows) .none kV16 dc16 pm16 an16 cd16 ct16), sl16⟩)
    (c16 : PySem.W.codeIn K cd16 "_law_shows" = true) (k16 : PySem.W.keepIn K (.ref f16) = true)
    (a17 : PySem.W.nsIn K mainGlobals "dot" = some (some (.ref f17)))
    (l17 : K.lookup f17 = some ⟨oc17, od17, .func (PySem.W.fnOf "dot" "dot" (defArgs s_dot) (defBody s_dot) (defScope s_dot) .none kV17 dc17 pm17 an17 cd17 ct17), sl17⟩)
    (c17 : PySem.W.codeIn K cd17 "dot" = true) (k17 : PySem.W.keepIn K (.ref f17) = true)
    (a18 : PySem.W.nsIn K mainGlobals "shows_least" = some (some (.ref f18)))
    (l18 : K.lookup f18 = some ⟨oc18, od18, .func (PySem.W.fnOf "shows_least" "shows_least" (defArgs s_shows_least) (defBody s_shows_least) (defScope s_shows_least) .none kV18 dc18 pm18 an18 cd18 ct18), sl18⟩)
    (c18 : PySem.W.codeIn K cd18 "shows_least" = true) (k18 : PySem.W.keepIn K (.ref f18) = true)
    (a19 : PySem.W.nsIn K mainGlobals "misses" = some (some (.ref f19)))
    (l19 : K.lookup f19 = some ⟨oc19, od19, .func (PySem.W.fnOf "misses" "misses" (defArgs s_misses) (defBody s_misses) (defScope s_misses) .none kV19 dc19 pm19 an19 cd19 ct19), sl19⟩)
    (c19 : PySem.W.codeIn K cd19 "misses" = true) (k19 : PySem.W.keepIn K (.ref f19) = true)
    (a20 : PySem.W.nsIn K mainGlobals "_law_misses" = some (some (.ref f20)))
    (l20 : K.lookup f20 = some ⟨oc20, od20, .func (PySem.W.fnOf "_law_misses" "_law_misses" (defArgs s_law_misses) (defBody s_law_misses) (defScope s_law_misses) .none kV20 dc20 pm20 an20 cd20 ct20), sl20⟩)
    (c20 : PySem.W.codeIn K cd20 "_law_misses" = true) (k20 : PySem.W.keepIn K (.ref f20) = true)
    (a21 : PySem.W.nsIn K mainGlobals "_law_judged" = some (some (.ref f21)))
    (l21 : K.lookup f21 = some ⟨oc21, od21, .func (PySem.W.fnOf "_law_judged" "_law_judged" (defArgs s_law_judged) (defBody s_law_judged) (defScope s_law_judged) .none kV21 dc21 pm21 an21 cd21 ct21), sl21⟩)
    (c21 : PySem.W.codeIn K cd21 "_law_judged" = true) (k21 : PySem.W.keepIn K (.ref f21) = true)
    (a22 : PySem.W.nsIn K mainGlobals "entering_column" = some (some (.ref f22)))
    (l22 : K.lookup f22 = some ⟨oc22, od22, .func (PySem.W.fnOf "entering_column" "entering_column" (defArgs s_entering_column) (defBody s_entering_column) (defScope s_entering_column) .none kV22 dc22 pm22 an22 cd22 ct22), sl22⟩)
    (c22 : PySem.W.codeIn K cd22 "entering_column" = true) (k22 : PySem.W.keepIn K (.ref f22) = true)
    (a23 : PySem.W.nsIn K mainGlobals "leaving_row" = some (some (.ref f23)))
    (l23 : K.lookup f23 = some ⟨oc23, od23, .func (PySem.W.fnOf "leaving_row" "leaving_row" (defArgs s_leaving_row) (defBody s_leaving_row) (defScope s_leaving_row) .none kV23 dc23 pm23 an23 cd23 ct23), sl23⟩)
    (c23 : PySem.W.codeIn K cd23 "leaving_row" = true) (k23 : PySem.W.keepIn K (.ref f23) = true)
    (a24 : PySem.W.nsIn K mainGlobals "exchange" = some (some (.ref f24)))
    (l24 : K.lookup f24 = some ⟨oc24, od24, .func (PySem.W.fnOf "exchange" "exchange" (defArgs s_exchange) (defBody s_exchange) (defScope s_exchange) .none kV24 dc24 pm24 an24 cd24 ct24), sl24⟩)
    (c24 : PySem.W.codeIn K cd24 "exchange" = true) (k24 : PySem.W.keepIn K (.ref f24) = true)
    (a25 : PySem.W.nsIn K mainGlobals "top_of" = some (some (.ref f25)))
    (l25 : K.lookup f25 = some ⟨oc25, od25, .func (PySem.W.fnOf "top_of" "top_of" (defArgs s_top_of) (defBody s_top_of) (defScope s_top_of) .none kV25 dc25 pm25 an25 cd25 ct25), sl25⟩)
    (c25 : PySem.W.codeIn K cd25 "top_of" = true) (k25 : PySem.W.keepIn K (.ref f25) = true)
    (a26 : PySem.W.nsIn K mainGlobals "ray_of" = some (some (.ref f26)))
    (l26 : K.lookup f26 = some ⟨oc26, od26, .func (PySem.W.fnOf "ray_of" "ray_of" (defArgs s_ray_of) (defBody s_ray_of) (defScope s_ray_of) .none kV26 dc26 pm26 an26 cd26 ct26), sl26⟩)
    (c26 : PySem.W.codeIn K cd26 "ray_of" = true) (k26 : PySem.W.keepIn K (.ref f26) = true)
    (a27 : PySem.W.nsIn K mainGlobals "climb" = some (some (.ref f27)))
    (l27 : K.lookup f27 = some ⟨oc27, od27, .func (PySem.W.fnOf "climb" "climb" (defArgs s_climb) (defBody s_climb) (defScope s_climb) .none kV27 dc27 pm27 an27 cd27 ct27), sl27⟩)
    (c27 : PySem.W.codeIn K cd27 "climb" = true) (k27 : PySem.W.keepIn K (.ref f27) = true)
    (a28 : PySem.W.nsIn K mainGlobals "lowest" = some (some (.ref f28)))
    (l28 : K.lookup f28 = some ⟨oc28, od28, .func (PySem.W.fnOf "lowest" "lowest" (defArgs s_lowest) (defBody s_lowest) (defScope s_lowest) .none kV28 dc28 pm28 an28 cd28 ct28), sl28⟩)
    (c28 : PySem.W.codeIn K cd28 "lowest" = true) (k28 : PySem.W.keepIn K (.ref f28) = true)
    (a29 : PySem.W.nsIn K mainGlobals "least" = some (some (.ref f29)))
    (l29 : K.lookup f29 = some ⟨oc29, od29, .func (PySem.W.fnOf "least" "least" (defArgs s_least) (defBody s_least) (defScope s_least) .none kV29 dc29 pm29 an29 cd29 ct29), sl29⟩)
    (c29 : PySem.W.codeIn K cd29 "least" = true) (k29 : PySem.W.keepIn K (.ref f29) = true)
    (a30 : PySem.W.nsIn K mainGlobals "_law_integers" = some (some (.ref f30)))
    (l30 : K.lookup f30 = some ⟨oc30, od30, .func (PySem.W.fnOf "_law_integers" "_law_integers" (defArgs s_law_integers) (defBody s_law_integers) (defScope s_law_integers) .none kV30 dc30 pm30 an30 cd30 ct30), sl30⟩)
    (c30 : PySem.W.codeIn K cd30 "_law_integers" = true) (k30 : PySem.W.keepIn K (.ref f30) = true)
    (a31 : PySem.W.nsIn K mainGlobals "_law_common" = some (some (.ref f31)))
    (l31 : K.lookup f31 = some ⟨oc31, od31, .func (PySem.W.fnOf "_law_common" "_law_common" (defArgs s_law_common) (defBody s_law_common) (defScope s_law_common) .none kV31 dc31 pm31 an31 cd31 ct31), sl31⟩)
    (c31 : PySem.W.codeIn K cd31 "_law_common" = true) (k31 : PySem.W.keepIn K (.ref f31) = true)
    (a32 : PySem.W.nsIn K mainGlobals "_law_word" = some (some (.ref f32)))
    (l32 : K.lookup f32 = some ⟨oc32, od32, .func (PySem.W.fnOf "_law_word" "_law_word" (defArgs s_law_word) (defBody s_law_word) (defScope s_law_word) .none kV32 dc32 pm32 an32 cd32 ct32), sl32⟩)
    (c32 : PySem.W.codeIn K cd32 "_law_word" = true) (k32 : PySem.W.keepIn K (.ref f32) = true)
    (a33 : PySem.W.nsIn K mainGlobals "_law_asked" = some (some (.ref f33)))
    (l33 : K.lookup f33 = some ⟨oc33, od33, .func (PySem.W.fnOf "_law_asked" "_law_asked" (defArgs s_law_asked) (defBody s_law_asked) (defScope s_law_asked) .none kV33 dc33 pm33 an33 cd33 ct33), sl33⟩)
    (c33 : PySem.W.codeIn K cd33 "_law_asked" = true) (k33 : PySem.W.keepIn K (.ref f33) = true)
    (a34 : PySem.W.nsIn K mainGlobals "law" = some (some (.ref f34)))
    (l34 : K.lookup f34 = some ⟨oc34, od34, .func (PySem.W.fnOf "law" "law" (defArgs s_law) (defBody s_law) (defScope s_law) .none kV34 dc34 pm34 an34 cd34 ct34), sl34⟩)
    (c34 : PySem.W.codeIn K cd34 "law" = true) (k34 : PySem.W.keepIn K (.ref f34) = true)
    (z_len : PySem.W.nsIn K mainGlobals "len" = some none)
    (z_min : PySem.W.nsIn K mainGlobals "min" = some none)
    (z_range : PySem.W.nsIn K mainGlobals "range" = some none)
    (z_int : PySem.W.nsIn K mainGlobals "int" = some none)
    (z_sum : PySem.W.nsIn K mainGlobals "sum" = some none)
    (z_max : PySem.W.nsIn K mainGlobals "max" = some none)
    (z_list : PySem.W.nsIn K mainGlobals "list" = some none)
    (z_isinstance : PySem.W.nsIn K mainGlobals "isinstance" = some none)
    (z_bool : PySem.W.nsIn K mainGlobals "bool" = some none)
    (z_str : PySem.W.nsIn K mainGlobals "str" = some none)
    (z_tuple : PySem.W.nsIn K mainGlobals "tuple" = some none)
    (z_zip : PySem.W.nsIn K mainGlobals "zip" = some none)
    (z_abs : PySem.W.nsIn K mainGlobals "abs" = some none)
    (y_gcd : PySem.W.nsIn K mainGlobals "gcd" = some (some (.builtin "math.gcd"))) :
    ∃ fd : FuncData, (∀ (s : Shared) (v : Value), BindsTo s fd ⟨[v], []⟩ [("script", v)]) ∧ ∀ base : Heap, K.In base → base.Ns mainGlobals mg → FnOk l.prog w K mg base CX0 11 fa fd ["script"] (spLaw K) := by
  have e := hfa.symm.trans (PySem.W.mg_of X G a34)
  cases e
  have I_law_numbers : FnIn K mg "_law_numbers" s_law_numbers ["script", "many"] := ⟨f1, _, fun_mk (st := s_law_numbers) l1 c1 k1, PySem.W.mg_of X G a1, (fun_mk (st := s_law_numbers) l1 c1 k1).binds fun _ _ _ _ _ _ us hl => match us, hl with | [_, _], _ => rfl⟩
  have I_law_number : FnIn K mg "_law_number" s_law_number ["numbers", "at", "row", "place"] := ⟨f2, _, fun_mk (st := s_law_number) l2 c2 k2, PySem.W.mg_of X G a2, (fun_mk (st := s_law_number) l2 c2 k2).binds fun _ _ _ _ _ _ us hl => match us, hl with | [_, _, _, _], _ => rfl⟩
  have I_law_weights : FnIn K mg "_law_weights" s_law_weights ["numbers", "at", "many", "count"] := ⟨f3, _, fun_mk (st := s_law_weights) l3 c3 k3, PySem.W.mg_of X G a3, (fun_mk (st := s_law_weights) l3 c3 k3).binds fun _ _ _ _ _ _ us hl => match us, hl with | [_, _, _, _], _ => rfl⟩
  have I_law_dot : FnIn K mg "_law_dot" s_law_dot ["left", "right"] := ⟨f4, _, fun_mk (st := s_law_dot) l4 c4 k4, PySem.W.mg_of X G a4, (fun_mk (st := s_law_dot) l4 c4 k4).binds fun _ _ _ _ _ _ us hl => match us, hl with | [_, _], _ => rfl⟩
  have I_law_best_pair : FnIn K mg "_law_best_pair" s_law_best_pair ["numbers", "many", "count"] := ⟨f5, _, fun_mk (st := s_law_best_pair) l5 c5 k5, PySem.W.mg_of X G a5, (fun_mk (st := s_law_best_pair) l5 c5 k5).binds fun _ _ _ _ _ _ us hl => match us, hl with | [_, _, _], _ => rfl⟩
  have I_law_none_pair : FnIn K mg "_law_none_pair" s_law_none_pair ["numbers", "many", "count"] := ⟨f6, _, fun_mk (st := s_law_none_pair) l6 c6 k6, PySem.W.mg_of X G a6, (fun_mk (st := s_law_none_pair) l6 c6 k6).binds fun _ _ _ _ _ _ us hl => match us, hl with | [_, _, _], _ => rfl⟩
  have I_law_free : FnIn K mg "_law_free" s_law_free ["numbers", "many", "count"] := ⟨f7, _, fun_mk (st := s_law_free) l7 c7 k7, PySem.W.mg_of X G a7, (fun_mk (st := s_law_free) l7 c7 k7).binds fun _ _ _ _ _ _ us hl => match us, hl with | [_, _, _], _ => rfl⟩
  have I_law_pick : FnIn K mg "_law_pick" s_law_pick ["places", "number", "other"] := ⟨f8, _, fun_mk (st := s_law_pick) l8 c8 k8, PySem.W.mg_of X G a8, (fun_mk (st := s_law_pick) l8 c8 k8).binds fun _ _ _ _ _ _ us hl => match us, hl with | [_, _, _], _ => rfl⟩
  have I_law_column : FnIn K mg "_law_column" s_law_column ["rows", "paper", "k"] := ⟨f9, _, fun_mk (st := s_law_column) l9 c9 k9, PySem.W.mg_of X G a9, (fun_mk (st := s_law_column) l9 c9 k9).binds fun _ _ _ _ _ _ us hl => match us, hl with | [_, _, _], _ => rfl⟩
  have I_law_with_bound : FnIn K mg "_law_with_bound" s_law_with_bound ["rows", "i", "bound"] := ⟨f10, _, fun_mk (st := s_law_with_bound) l10 c10 k10, PySem.W.mg_of X G a10, (fun_mk (st := s_law_with_bound) l10 c10 k10).binds fun _ _ _ _ _ _ us hl => match us, hl with | [_, _, _], _ => rfl⟩
  have I_law_with_weight : FnIn K mg "_law_with_weight" s_law_with_weight ["rows", "i", "k", "more"] := ⟨f11, _, fun_mk (st := s_law_with_weight) l11 c11 k11, PySem.W.mg_of X G a11, (fun_mk (st := s_law_with_weight) l11 c11 k11).binds fun _ _ _ _ _ _ us hl => match us, hl with | [_, _, _, _], _ => rfl⟩
  have I_law_best_changes : FnIn K mg "_law_best_changes" s_law_best_changes ["numbers", "goal", "rows", "point", "paper"] := ⟨f12, _, fun_mk (st := s_law_best_changes) l12 c12 k12, PySem.W.mg_of X G a12, (fun_mk (st := s_law_best_changes) l12 c12 k12).binds fun _ _ _ _ _ _ us hl => match us, hl with | [_, _, _, _, _], _ => rfl⟩
  have I_law_paid : FnIn K mg "_law_paid" s_law_paid ["rows", "paper"] := ⟨f13, _, fun_mk (st := s_law_paid) l13 c13 k13, PySem.W.mg_of X G a13, (fun_mk (st := s_law_paid) l13 c13 k13).binds fun _ _ _ _ _ _ us hl => match us, hl with | [_, _], _ => rfl⟩
  have I_law_none_changes : FnIn K mg "_law_none_changes" s_law_none_changes ["numbers", "rows", "count", "paper"] := ⟨f14, _, fun_mk (st := s_law_none_changes) l14 c14 k14, PySem.W.mg_of X G a14, (fun_mk (st := s_law_none_changes) l14 c14 k14).binds fun _ _ _ _ _ _ us hl => match us, hl with | [_, _, _, _], _ => rfl⟩
  have I_law_same : FnIn K mg "_law_same" s_law_same ["told", "due"] := ⟨f15, _, fun_mk (st := s_law_same) l15 c15 k15, PySem.W.mg_of X G a15, (fun_mk (st := s_law_same) l15 c15 k15).binds fun _ _ _ _ _ _ us hl => match us, hl with | [_, _], _ => rfl⟩
  have I_law_shows : FnIn K mg "_law_shows" s_law_shows ["goal", "rows", "scale", "point", "paper"] := ⟨f16, _, fun_mk (st := s_law_shows) l16 c16 k16, PySem.W.mg_of X G a16, (fun_mk (st := s_law_shows) l16 c16 k16).binds fun _ _ _ _ _ _ us hl => match us, hl with | [_, _, _, _, _], _ => rfl⟩
  have I_dot : FnIn K mg "dot" s_dot ["left", "right"] := ⟨f17, _, fun_mk (st := s_dot) l17 c17 k17, PySem.W.mg_of X G a17, (fun_mk (st := s_dot) l17 c17 k17).binds fun _ _ _ _ _ _ us hl => match us, hl with | [_, _], _ => rfl⟩
  have I_shows_least : FnIn K mg "shows_least" s_shows_least ["goal", "rows", "scale", "point", "paper"] := ⟨f18, _, fun_mk (st := s_shows_least) l18 c18 k18, PySem.W.mg_of X G a18, (fun_mk (st := s_shows_least) l18 c18 k18).binds fun _ _ _ _ _ _ us hl => match us, hl with | [_, _, _, _, _], _ => rfl⟩
  have I_misses : FnIn K mg "misses" s_misses ["rows", "count", "paper"] := ⟨f19, _, fun_mk (st := s_misses) l19 c19 k19, PySem.W.mg_of X G a19, (fun_mk (st := s_misses) l19 c19 k19).binds fun _ _ _ _ _ _ us hl => match us, hl with | [_, _, _], _ => rfl⟩
  have I_law_misses : FnIn K mg "_law_misses" s_law_misses ["rows", "count", "paper"] := ⟨f20, _, fun_mk (st := s_law_misses) l20 c20 k20, PySem.W.mg_of X G a20, (fun_mk (st := s_law_misses) l20 c20 k20).binds fun _ _ _ _ _ _ us hl => match us, hl with | [_, _, _], _ => rfl⟩
  have I_law_judged : FnIn K mg "_law_judged" s_law_judged ["numbers", "best", "none"] := ⟨f21, _, fun_mk (st := s_law_judged) l21 c21 k21, PySem.W.mg_of X G a21, (fun_mk (st := s_law_judged) l21 c21 k21).binds fun _ _ _ _ _ _ us hl => match us, hl with | [_, _, _], _ => rfl⟩
  have I_entering_column : FnIn K mg "entering_column" s_entering_column ["gains", "loose"] := ⟨f22, _, fun_mk (st := s_entering_column) l22 c22 k22, PySem.W.mg_of X G a22, (fun_mk (st := s_entering_column) l22 c22 k22).binds fun _ _ _ _ _ _ us hl => match us, hl with | [_, _], _ => rfl⟩
  have I_leaving_row : FnIn K mg "leaving_row" s_leaving_row ["table", "basic", "column"] := ⟨f23, _, fun_mk (st := s_leaving_row) l23 c23 k23, PySem.W.mg_of X G a23, (fun_mk (st := s_leaving_row) l23 c23 k23).binds fun _ _ _ _ _ _ us hl => match us, hl with | [_, _, _], _ => rfl⟩
  have I_exchange : FnIn K mg "exchange" s_exchange ["table", "row", "column", "scale"] := ⟨f24, _, fun_mk (st := s_exchange) l24 c24 k24, PySem.W.mg_of X G a24, (fun_mk (st := s_exchange) l24 c24 k24).binds fun _ _ _ _ _ _ us hl => match us, hl with | [_, _, _, _], _ => rfl⟩
  have I_top_of : FnIn K mg "top_of" s_top_of ["table", "basic", "loose"] := ⟨f25, _, fun_mk (st := s_top_of) l25 c25 k25, PySem.W.mg_of X G a25, (fun_mk (st := s_top_of) l25 c25 k25).binds fun _ _ _ _ _ _ us hl => match us, hl with | [_, _, _], _ => rfl⟩
  have I_ray_of : FnIn K mg "ray_of" s_ray_of ["table", "basic", "loose", "column", "scale"] := ⟨f26, _, fun_mk (st := s_ray_of) l26 c26 k26, PySem.W.mg_of X G a26, (fun_mk (st := s_ray_of) l26 c26 k26).binds fun _ _ _ _ _ _ us hl => match us, hl with | [_, _, _, _, _], _ => rfl⟩
  have I_climb : FnIn K mg "climb" s_climb ["columns", "limits", "gains"] := ⟨f27, _, fun_mk (st := s_climb) l27 c27 k27, PySem.W.mg_of X G a27, (fun_mk (st := s_climb) l27 c27 k27).binds fun _ _ _ _ _ _ us hl => match us, hl with | [_, _, _], _ => rfl⟩
  have I_lowest : FnIn K mg "lowest" s_lowest ["numbers"] := ⟨f28, _, fun_mk (st := s_lowest) l28 c28 k28, PySem.W.mg_of X G a28, (fun_mk (st := s_lowest) l28 c28 k28).binds fun _ _ _ _ _ _ us hl => match us, hl with | [_], _ => rfl⟩
  have I_least : FnIn K mg "least" s_least ["goal", "rows", "count"] := ⟨f29, _, fun_mk (st := s_least) l29 c29 k29, PySem.W.mg_of X G a29, (fun_mk (st := s_least) l29 c29 k29).binds fun _ _ _ _ _ _ us hl => match us, hl with | [_, _, _], _ => rfl⟩
  have I_law_integers : FnIn K mg "_law_integers" s_law_integers ["found", "many", "low"] := ⟨f30, _, fun_mk (st := s_law_integers) l30 c30 k30, PySem.W.mg_of X G a30, (fun_mk (st := s_law_integers) l30 c30 k30).binds fun _ _ _ _ _ _ us hl => match us, hl with | [_, _, _], _ => rfl⟩
  have I_law_common : FnIn K mg "_law_common" s_law_common ["row"] := ⟨f31, _, fun_mk (st := s_law_common) l31 c31 k31, PySem.W.mg_of X G a31, (fun_mk (st := s_law_common) l31 c31 k31).binds fun _ _ _ _ _ _ us hl => match us, hl with | [_], _ => rfl⟩
  have I_law_word : FnIn K mg "_law_word" s_law_word ["goal", "rows", "told"] := ⟨f32, _, fun_mk (st := s_law_word) l32 c32 k32, PySem.W.mg_of X G a32, (fun_mk (st := s_law_word) l32 c32 k32).binds fun _ _ _ _ _ _ us hl => match us, hl with | [_, _, _], _ => rfl⟩
  have I_law_asked : FnIn K mg "_law_asked" s_law_asked ["numbers", "goal", "rows"] := ⟨f33, _, fun_mk (st := s_law_asked) l33 c33 k33, PySem.W.mg_of X G a33, (fun_mk (st := s_law_asked) l33 c33 k33).binds fun _ _ _ _ _ _ us hl => match us, hl with | [_, _, _], _ => rfl⟩
  have n_len := PySem.W.mg_none_of X G z_len
  have n_min := PySem.W.mg_none_of X G z_min
  have n_range := PySem.W.mg_none_of X G z_range
  have n_int := PySem.W.mg_none_of X G z_int
  have n_sum := PySem.W.mg_none_of X G z_sum
  have n_max := PySem.W.mg_none_of X G z_max
  have n_list := PySem.W.mg_none_of X G z_list
  have n_isinstance := PySem.W.mg_none_of X G z_isinstance
  have n_bool := PySem.W.mg_none_of X G z_bool
  have n_str := PySem.W.mg_none_of X G z_str
  have n_tuple := PySem.W.mg_none_of X G z_tuple
  have n_zip := PySem.W.mg_none_of X G z_zip
  have n_abs := PySem.W.mg_none_of X G z_abs
  have g_gcd := PySem.W.mg_of X G y_gcd
  refine ⟨PySem.W.fnOf "law" "law" (defArgs s_law) (defBody s_law) (defScope s_law) .none kV34 dc34 pm34 an34 cd34 ct34, fun s v => .of_eq rfl, fun base _ _ => ?_⟩
  have C_law_numbers := c_law_numbers (P := l.prog) (w := w) (base := base) (G := G0 K) I_law_numbers n_len n_min n_range n_int
  have C_law_number := c_law_number (P := l.prog) (w := w) (base := base) (G := G0 K) I_law_number n_int
  have C_law_weights := c_law_weights (P := l.prog) (w := w) (base := base) (G := G0 K) I_law_weights C_law_number n_range n_int
  have C_law_dot := c_law_dot (P := l.prog) (w := w) (base := base) (G := G0 K) I_law_dot n_len n_range n_sum
  have C_law_best_pair := c_law_best_pair (P := l.prog) (w := w) (base := base) (G := G0 K) I_law_best_pair C_law_weights C_law_dot n_range n_int n_sum n_max
  have C_law_none_pair := c_law_none_pair (P := l.prog) (w := w) (base := base) (G := G0 K) I_law_none_pair (s_law_weights_S (P := l.prog) (w := w) (base := base) (G := G0 K) I_law_weights C_law_number n_range n_int) n_range n_int n_sum
  have C_law_free := c_law_free (P := l.prog) (w := w) (base := base) (G := G0 K) I_law_free C_law_weights n_range n_int
  have C_law_pick := c_law_pick (P := l.prog) (w := w) (base := base) (G := G0 K) I_law_pick n_len n_int
  have C_law_column := c_law_column (P := l.prog) (w := w) (base := base) (G := G0 K) I_law_column n_len n_range n_sum
  have C_law_with_bound := c_law_with_bound (P := l.prog) (w := w) (base := base) (G := G0 K) I_law_with_bound
  have C_law_with_weight := c_law_with_weight (P := l.prog) (w := w) (base := base) (G := G0 K) I_law_with_weight n_list
  have C_law_best_changes := c_law_best_changes (P := l.prog) (w := w) (base := base) (G := G0 K) I_law_best_changes C_law_pick C_law_column C_law_dot C_law_with_bound C_law_with_weight n_len n_int n_range n_list n_min n_max
  have C_law_paid := c_law_paid (P := l.prog) (w := w) (base := base) (G := G0 K) I_law_paid n_len n_range n_sum
  have C_law_none_changes := c_law_none_changes (P := l.prog) (w := w) (base := base) (G := G0 K) I_law_none_changes C_law_column C_law_paid C_law_with_weight C_law_with_bound n_int n_len
  have C_law_same := c_law_same (P := l.prog) (w := w) (base := base) (G := G0 K) I_law_same n_isinstance n_bool n_int n_str n_tuple n_list n_len n_range
  have C_law_shows := c_law_shows (P := l.prog) (w := w) (base := base) (G := G0 K) I_law_shows C_law_dot C_law_column C_law_paid n_len n_list n_min n_range
  have C_dot := c_dot (P := l.prog) (w := w) (base := base) (G := G0 K) I_dot n_zip n_sum
  have C_shows_least := c_shows_least (P := l.prog) (w := w) (base := base) (G := G0 K) I_shows_least C_dot n_len n_min n_range n_zip n_sum
  have C_misses := c_misses (P := l.prog) (w := w) (base := base) (G := G0 K) I_misses n_len n_min n_range n_zip n_sum
  have C_law_misses := c_law_misses (P := l.prog) (w := w) (base := base) (G := G0 K) I_law_misses C_law_column C_law_paid n_len n_list n_min n_range
  have C_law_judged := c_law_judged (P := l.prog) (w := w) (base := base) (G := G0 K) I_law_judged C_shows_least C_law_same C_law_best_changes C_law_shows C_misses C_law_none_changes C_law_misses n_tuple n_len
  have C_entering_column := c_entering_column (P := l.prog) (w := w) (base := base) (G := G0 K) I_entering_column n_len n_range
  have C_leaving_row := c_leaving_row (P := l.prog) (w := w) (base := base) (G := G0 K) I_leaving_row n_len n_range
  have C_exchange := c_exchange (P := l.prog) (w := w) (base := base) (G := G0 K) I_exchange n_len n_range n_zip
  have C_top_of := c_top_of (P := l.prog) (w := w) (base := base) (G := G0 K) I_top_of n_len n_range
  have C_ray_of := c_ray_of (P := l.prog) (w := w) (base := base) (G := G0 K) I_ray_of n_len n_range
  have C_climb := c_climb (P := l.prog) (w := w) (base := base) (G := G0 K) I_climb C_entering_column C_leaving_row C_top_of C_ray_of C_exchange n_len n_range n_list
  have C_lowest := c_lowest (P := l.prog) (w := w) (base := base) (G := G0 K) I_lowest n_tuple g_gcd
  have C_least := c_least (P := l.prog) (w := w) (base := base) (G := G0 K) I_least C_climb C_lowest n_list
  have C_law_integers := c_law_integers (P := l.prog) (w := w) (base := base) (G := G0 K) I_law_integers n_isinstance n_tuple n_len n_int n_bool
  have C_law_common := c_law_common (P := l.prog) (w := w) (base := base) (G := G0 K) I_law_common n_abs n_range n_int
  have C_law_word := c_law_word (P := l.prog) (w := w) (base := base) (G := G0 K) I_law_word C_law_integers C_law_common C_law_misses C_law_shows n_isinstance n_tuple n_len n_str
  have C_law_asked := c_law_asked (P := l.prog) (w := w) (base := base) (G := G0 K) I_law_asked C_least C_law_same C_law_word n_list n_int n_tuple n_len
  exact o_law (P := l.prog) (w := w) (base := base) (G := G0 K) (fun_mk (st := s_law) l34 c34 k34) C_law_numbers C_law_best_pair C_law_none_pair C_law_judged C_law_asked C_law_free n_int
theorem walk {l : PySem.W.OpenLaw} {q : Program} {loose : List Str} {XP : (Str → Option Value) → Heap → Prop} {YP : World → Heap → Prop} {d : DefRec} {K : Params → PySem.W.Frag} (hn : l.most = some 63) (hdf : d.params.defaults = [])
    (hY : ∀ (w : World) (h : Heap), YP w h → (K w.params).In h)
    (F : ∀ (w : World) (mg : Str → Option Value) (fa : Addr) (h : Heap), (K w.params).In h → h.Ns mainGlobals mg → mg d.name = some (.ref fa) →
      ∃ fd : FuncData, (∀ (s : Shared) (u : Value), BindsTo s fd ⟨[u], []⟩ [("script", u)]) ∧ ∀ base : Heap, (K w.params).In base → base.Ns mainGlobals mg → FnOk l.prog w (K w.params) mg base CX0 11 fa fd ["script"] (spLaw (K w.params))) :
    PySem.W.WalkO q loose XP YP l.row.toRowW d [] (fun f vs => PySem.call f vs) :=
  L2.walk_of (n := 63) (k := 11) (x := "script") (CX := fun _ => CX0) (sp := fun w => spLaw (K w.params)) hn (by decide) hdf ⟨rfl, by decide, by decide⟩ hY F (fun _ _ _ _ hl _ hS => sp_true (G0 _) rfl hS (m_law_true hl)) fun _ _ _ _ _ z => z
end K03
open PySem PySem.W PyProof.Rows in
set_option maxRecDepth 100000 in
set_option maxHeartbeats 0 in
theorem PySem.Challenge.cw_unsureminds_k03_whole_least_goal_by_dual_holds : PySem.Challenge.rw_unsureminds_k03_whole_least_goal_by_dual.Holds := by
  w_on; o_law; k_head; (case hw => w_witness2)
  k_fill
  refine K03.walk (l := PySem.Challenge.rw_unsureminds_k03_whole_least_goal_by_dual) rfl rfl (fun w h Y => PySem.W.kIn_of Y) ?F
  case F =>
    intro w mg fa h KX G hmg
    refine' K03.all_mk KX G hmg ?a1 ?l1 ?c1 ?k1 ?a2 ?l2 ?c2 ?k2 ?a3 ?l3 ?c3 ?k3 ?a4 ?l4 ?c4 ?k4 ?a5 ?l5 ?c5 ?k5 ?a6 ?l6 ?c6 ?k6 ?a7 ?l7 ?c7 ?k7 ?a8 ?l8 ?c8 ?k8 ?a9 ?l9 ?c9 ?k9 ?a10 ?l10 ?c10 ?k10 ?a11 ?l11 ?c11 ?k11 ?a12 ?l12 ?c12 ?k12 ?a13 ?l13 ?c13 ?k13 ?a14 ?l14 ?c14 ?k14 ?a15 ?l15 ?c15 ?k15 ?a16 ?l16 ?c16 ?k16 ?a17 ?l17 ?c17 ?k17 ?a18 ?l18 ?c18 ?k18 ?a19 ?l19 ?c19 ?k19 ?a20 ?l20 ?c20 ?k20 ?a21 ?l21 ?c21 ?k21 ?a22 ?l22 ?c22 ?k22 ?a23 ?l23 ?c23 ?k23 ?a24 ?l24 ?c24 ?k24 ?a25 ?l25 ?c25 ?k25 ?a26 ?l26 ?c26 ?k26 ?a27 ?l27 ?c27 ?k27 ?a28 ?l28 ?c28 ?k28 ?a29 ?l29 ?c29 ?k29 ?a30 ?l30 ?c30 ?k30 ?a31 ?l31 ?c31 ?k31 ?a32 ?l32 ?c32 ?k32 ?a33 ?l33 ?c33 ?k33 ?a34 ?l34 ?c34 ?k34 ?z_len ?z_min ?z_range ?z_int ?z_sum ?z_max ?z_list ?z_isinstance ?z_bool ?z_str ?z_tuple ?z_zip ?z_abs ?y_gcd
    (case a1 => k_is)
    (case l1 => k_is)
    (case c1 => k_is)
    (case k1 => k_is)
    (case a2 => k_is)
    (case l2 => k_is)
    (case c2 => k_is)
    (case k2 => k_is)
    (case a3 => k_is)
    (case l3 => k_is)
    (case c3 => k_is)
    (case k3 => k_is)
    (case a4 => k_is)
    (case l4 => k_is)
    (case c4 => k_is)
    (case k4 => k_is)
    (case a5 => k_is)
    (case l5 => k_is)
    (case c5 => k_is)
    (case k5 => k_is)
    (case a6 => k_is)
    (case l6 => k_is)
    (case c6 => k_is)
    (case k6 => k_is)
    (case a7 => k_is)
    (case l7 => k_is)
    (case c7 => k_is)
    (case k7 => k_is)
    (case a8 => k_is)
    (case l8 => k_is)
    (case c8 => k_is)
    (case k8 => k_is)
    (case a9 => k_is)
    (case l9 => k_is)
    (case c9 => k_is)
    (case k9 => k_is)
    (case a10 => k_is)
    (case l10 => k_is)
    (case c10 => k_is)
    (case k10 => k_is)
    (case a11 => k_is)
    (case l11 => k_is)
    (case c11 => k_is)
    (case k11 => k_is)
    (case a12 => k_is)
    (case l12 => k_is)
    (case c12 => k_is)
    (case k12 => k_is)
    (case a13 => k_is)
    (case l13 => k_is)
    (case c13 => k_is)
    (case k13 => k_is)
    (case a14 => k_is)
    (case l14 => k_is)
    (case c14 => k_is)
    (case k14 => k_is)
    (case a15 => k_is)
    (case l15 => k_is)
    (case c15 => k_is)
    (case k15 => k_is)
    (case a16 => k_is)
    (case l16 => k_is)
    (case c16 => k_is)
    (case k16 => k_is)
    (case a17 => k_is)
    (case l17 => k_is)
    (case c17 => k_is)
    (case k17 => k_is)
    (case a18 => k_is)
    (case l18 => k_is)
    (case c18 => k_is)
    (case k18 => k_is)
    (case a19 => k_is)
    (case l19 => k_is)
    (case c19 => k_is)
    (case k19 => k_is)
    (case a20 => k_is)
    (case l20 => k_is)
    (case c20 => k_is)
    (case k20 => k_is)
    (case a21 => k_is)
    (case l21 => k_is)
    (case c21 => k_is)
    (case k21 => k_is)
    (case a22 => k_is)
    (case l22 => k_is)
    (case c22 => k_is)
    (case k22 => k_is)
    (case a23 => k_is)
    (case l23 => k_is)
    (case c23 => k_is)
    (case k23 => k_is)
    (case a24 => k_is)
    (case l24 => k_is)
    (case c24 => k_is)
    (case k24 => k_is)
    (case a25 => k_is)
    (case l25 => k_is)
    (case c25 => k_is)
    (case k25 => k_is)
    (case a26 => k_is)
    (case l26 => k_is)
    (case c26 => k_is)
    (case k26 => k_is)
    (case a27 => k_is)
    (case l27 => k_is)
    (case c27 => k_is)
    (case k27 => k_is)
    (case a28 => k_is)
    (case l28 => k_is)
    (case c28 => k_is)
    (case k28 => k_is)
    (case a29 => k_is)
    (case l29 => k_is)
    (case c29 => k_is)
    (case k29 => k_is)
    (case a30 => k_is)
    (case l30 => k_is)
    (case c30 => k_is)
    (case k30 => k_is)
    (case a31 => k_is)
    (case l31 => k_is)
    (case c31 => k_is)
    (case k31 => k_is)
    (case a32 => k_is)
    (case l32 => k_is)
    (case c32 => k_is)
    (case k32 => k_is)
    (case a33 => k_is)
    (case l33 => k_is)
    (case c33 => k_is)
    (case k33 => k_is)
    (case a34 => k_is)
    (case l34 => k_is)
    (case c34 => k_is)
    (case k34 => k_is)
    (case z_len => k_is)
    (case z_min => k_is)
    (case z_range => k_is)
    (case z_int => k_is)
    (case z_sum => k_is)
    (case z_max => k_is)
    (case z_list => k_is)
    (case z_isinstance => k_is)
    (case z_bool => k_is)
    (case z_str => k_is)
    (case z_tuple => k_is)
    (case z_zip => k_is)
    (case z_abs => k_is)
    (case y_gcd => k_is)
end
