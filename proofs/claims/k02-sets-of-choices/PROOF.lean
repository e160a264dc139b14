import PyProof.Rows.All
import Wide.All
import OpenK.AllK
import Wide.FinOn
import HandS.ForMost
import HandS.Exc
import HandS.ExcOwn
import HandS.TryOnly
import HandS.WordsExc
import HandS.IsInst
import HandS.Defaults
import HandS.HeadHook2
import HandS.TupAny
import HandS.Deep
import HandS.HeadEnd
import HandS.Ends
import KE.KStateDown
import Lean
import HandS.Head0
import HandS.Head1
import HandS.Head2
import PySem.Challenge.RW_manyleaf_k02_sets_of_choices
set_option Elab.async false
set_option linter.all false
set_option autoImplicit false
set_option maxRecDepth 100000
set_option maxHeartbeats 4000000
namespace Pd
open PySem PySem.Spec PyProof.Rows L2

/-- data -/
inductive D where
  | non | bl (b : Bool) | int (i : Int) | str (s : Str)
  | list (xs : List D) | tup (xs : List D)
  | dict (kvs : List (Key × D)) | dictT (kvs : List (List Key × D))
  | obj (c : Str) (fs : List (Str × D))
  deriving Inhabited
/-- an exception -/
structure Ex where
  cls : Str
  fs : List (Str × D)
/-- what a computation comes to; st: not told -/
inductive R (α : Type) where
  | ok (a : α) | ex (x : Ex) | st
def R.bind {α β : Type} (r : R α) (f : α → R β) : R β := match r with
  | .ok a => f a
  | .ex x => .ex x
  | .st => .st
instance : Monad R where
  pure := R.ok
  bind := R.bind
theorem ok_bind {α β : Type} (a : α) (f : α → R β) : (R.ok a).bind f = f a := rfl
theorem ex_bind {α β : Type} (x : Ex) (f : α → R β) : (R.ex x).bind f = R.ex x := rfl
theorem st_bind {α β : Type} (f : α → R β) : (R.st).bind f = R.st := rfl

/-! ### values that represent data -/
inductive Is (K : PySem.W.Frag) (H : Hp) : V → D → Prop
  | non : Is K H .non .non
  | bl (b : Bool) : Is K H (.bl b) (.bl b)
  | int (i : Int) : Is K H (.int i) (.int i)
  | str (s : Str) : Is K H (.str s) (.str s)
  | list {a : Addr} {xs : List V} {ds : List D} (h : SqL K H a xs) (l : xs.length = ds.length) (e : ∀ (i : Nat) x d, xs[i]? = some x → ds[i]? = some d → Is K H x d) : Is K H (.ref a) (.list ds)
  | tup {a : Addr} {xs : List V} {ds : List D} (h : SqT K H a xs) (l : xs.length = ds.length) (e : ∀ (i : Nat) x d, xs[i]? = some x → ds[i]? = some d → Is K H x d) : Is K H (.ref a) (.tup ds)
  | dict {a : Addr} {xs : List (Key × V)} {ds : List (Key × D)} (h : Rd H a (.dK xs)) (l : xs.length = ds.length) (e : ∀ (i : Nat) x d, xs[i]? = some x → ds[i]? = some d → x.1 = d.1)
      (e2 : ∀ (i : Nat) x d, xs[i]? = some x → ds[i]? = some d → Is K H x.2 d.2) : Is K H (.ref a) (.dict ds)
  | dictT {a : Addr} {xs : List (List Key × V)} {ds : List (List Key × D)} (h : H a = some (.dT xs)) (l : xs.length = ds.length) (e : ∀ (i : Nat) x d, xs[i]? = some x → ds[i]? = some d → x.1 = d.1)
      (e2 : ∀ (i : Nat) x d, xs[i]? = some x → ds[i]? = some d → Is K H x.2 d.2) : Is K H (.ref a) (.dictT ds)
  | obj {a : Addr} {c : Str} {dx : Addr} {xs : List (Str × V)} {ds : List (Str × D)} (h : H a = some (.ins (He.ga K c) dx xs)) (l : xs.length = ds.length) (e : ∀ (i : Nat) x d, xs[i]? = some x → ds[i]? = some d → x.1 = d.1)
      (e2 : ∀ (i : Nat) x d, xs[i]? = some x → ds[i]? = some d → Is K H x.2 d.2) : Is K H (.ref a) (.obj c ds)
def IsL (K : PySem.W.Frag) (H : Hp) (xs : List V) (ds : List D) : Prop := xs.length = ds.length ∧ ∀ (i : Nat) x d, xs[i]? = some x → ds[i]? = some d → Is K H x d
def IsK {κ : Type} (K : PySem.W.Frag) (H : Hp) (xs : List (κ × V)) (ds : List (κ × D)) : Prop :=
  xs.length = ds.length ∧ (∀ (i : Nat) x d, xs[i]? = some x → ds[i]? = some d → x.1 = d.1) ∧ ∀ (i : Nat) x d, xs[i]? = some x → ds[i]? = some d → Is K H x.2 d.2
/-- what stands at an address, as the content of data -/
def IsC (K : PySem.W.Frag) (H : Hp) : HO → D → Prop
  | .lst xs, .list ds => IsL K H xs ds
  | .dK xs, .dict ds => IsK K H xs ds
  | .dT xs, .dictT ds => IsK K H xs ds
  | .ins C _ xs, .obj c ds => C = He.ga K c ∧ IsK K H xs ds
  | _, _ => False

section
variable {K : PySem.W.Frag} {H H' H1 H2 F F' F1 F2 : Hp} {v : V} {d : D}
theorem sameT {a : Addr} {xs : List V} (e : Same H H') (h : SqT K H a xs) : SqT K H' a xs := by
  rcases h with (h | ⟨o, h⟩) | h
  · exact .inl (.inl (e _ _ h))
  · exact .inl (.inr ⟨o, e _ _ h⟩)
  · exact .inr h
theorem sameR {a : Addr} {u : HO} (e : Same H H') (h : Rd H a u) : Rd H' a u := by
  rcases h with h | ⟨o, h⟩
  · exact .inl (e _ _ h)
  · exact .inr ⟨o, e _ _ h⟩
theorem Is.mono (h : Is K H v d) (s : Same H H') : Is K H' v d := by
  induction h with
  | non => exact .non
  | bl b => exact .bl b
  | int i => exact .int i
  | str x => exact .str x
  | list h l _ ih => exact .list (s.seq h) l ih
  | tup h l _ ih => exact .tup (sameT s h) l ih
  | dict h l e _ ih => exact .dict (sameR s h) l e ih
  | dictT h l e _ ih => exact .dictT (s _ _ h) l e ih
  | obj h l e _ ih => exact .obj (s _ _ h) l e ih
theorem IsL.mono {xs : List V} {ds : List D} (h : IsL K H xs ds) (s : Same H H') : IsL K H' xs ds := ⟨h.1, fun i x d a b => (h.2 i x d a b).mono s⟩
theorem IsK.mono {κ : Type} {xs : List (κ × V)} {ds : List (κ × D)} (h : IsK K H xs ds) (s : Same H H') : IsK K H' xs ds := ⟨h.1, h.2.1, fun i x d a b => (h.2.2 i x d a b).mono s⟩
theorem IsC.mono {o : HO} (h : IsC K H o d) (s : Same H H') : IsC K H' o d := by
  cases o <;> cases d <;> first
    | exact h.elim
    | exact IsL.mono (show IsL K H _ _ from h) s
    | exact IsK.mono (show IsK K H _ _ from h) s
    | exact ⟨h.1, IsK.mono h.2 s⟩
theorem IsL.nil : IsL K H [] [] := ⟨rfl, fun i x d a _ => by simp at a⟩
theorem IsL.cons {x : V} {xs : List V} {ds : List D} (h : Is K H x d) (t : IsL K H xs ds) : IsL K H (x :: xs) (d :: ds) := by
  refine ⟨by simp [t.1], fun i y e a b => ?_⟩
  cases i with
  | zero => simp at a b; subst a; subst b; exact h
  | succ i => exact t.2 i y e (by simpa using a) (by simpa using b)
theorem IsL.uncons {xs : List V} {ds : List D} (h : IsL K H xs (d :: ds)) : ∃ x xr, xs = x :: xr ∧ Is K H x d ∧ IsL K H xr ds := by
  obtain ⟨l, e⟩ := h
  cases xs with
  | nil => simp at l
  | cons x xr => exact ⟨x, xr, rfl, e 0 x d rfl rfl, by simpa using l, fun i y z a b => e (i + 1) y z (by simpa using a) (by simpa using b)⟩
theorem IsL.unnil {xs : List V} (h : IsL K H xs []) : xs = [] := by
  have l := h.1
  cases xs with
  | nil => rfl
  | cons _ _ => simp at l
theorem IsL.append {xs ys : List V} {ds es : List D} (h : IsL K H xs ds) (t : IsL K H ys es) : IsL K H (xs ++ ys) (ds ++ es) := by
  refine ⟨by simp [h.1, t.1], fun i y e a b => ?_⟩
  by_cases hi : i < xs.length
  · rw [List.getElem?_append_left hi] at a
    rw [List.getElem?_append_left (by have := h.1; omega)] at b
    exact h.2 i y e a b
  · rw [List.getElem?_append_right (by omega)] at a
    rw [List.getElem?_append_right (by have := h.1; omega), ← h.1] at b
    exact t.2 _ y e a b
theorem IsL.snoc {x : V} {xs : List V} {ds : List D} (t : IsL K H xs ds) (h : Is K H x d) : IsL K H (xs ++ [x]) (ds ++ [d]) := t.append (.cons h .nil)
theorem IsL.take {xs : List V} {ds : List D} (n : Nat) (t : IsL K H xs ds) : IsL K H (xs.take n) (ds.take n) := by
  refine ⟨by simp [t.1], fun i y e a b => ?_⟩
  rw [List.getElem?_take] at a b
  split at a
  · rw [if_pos (by assumption)] at b; exact t.2 i y e a b
  · cases a
theorem IsL.drop {xs : List V} {ds : List D} (n : Nat) (t : IsL K H xs ds) : IsL K H (xs.drop n) (ds.drop n) := by
  refine ⟨by simp [t.1], fun i y e a b => ?_⟩
  rw [List.getElem?_drop] at a b
  exact t.2 _ y e a b
theorem IsL.at {xs : List V} {ds : List D} (t : IsL K H xs ds) {i : Nat} (h : ds[i]? = some d) : ∃ x, xs[i]? = some x ∧ Is K H x d := by
  have hi : i < ds.length := (List.getElem?_eq_some_iff.mp h).1
  have hx : i < xs.length := by have := t.1; omega
  exact ⟨xs[i], by simp [hx], t.2 i _ d (by simp [hx]) h⟩
theorem IsL.atV {x : V} {xs : List V} {ds : List D} (t : IsL K H xs ds) {i : Nat} (h : xs[i]? = some x) : ∃ d, ds[i]? = some d ∧ Is K H x d := by
  have hi : i < xs.length := (List.getElem?_eq_some_iff.mp h).1
  have hx : i < ds.length := by have := t.1; omega
  exact ⟨ds[i], by simp [hx], t.2 i x _ h (by simp [hx])⟩
theorem is_list {a : Addr} {xs : List V} {ds : List D} (h : SqL K H a xs) (t : IsL K H xs ds) : Is K H (.ref a) (.list ds) := .list h t.1 t.2
theorem is_tup {a : Addr} {xs : List V} {ds : List D} (h : SqT K H a xs) (t : IsL K H xs ds) : Is K H (.ref a) (.tup ds) := .tup h t.1 t.2
theorem Is.list_inv {ds : List D} (h : Is K H v (.list ds)) : ∃ a xs, v = .ref a ∧ SqL K H a xs ∧ IsL K H xs ds := by
  cases h with
  | list h l e => exact ⟨_, _, rfl, h, l, e⟩
theorem Is.tup_inv {ds : List D} (h : Is K H v (.tup ds)) : ∃ a xs, v = .ref a ∧ SqT K H a xs ∧ IsL K H xs ds := by
  cases h with
  | tup h l e => exact ⟨_, _, rfl, h, l, e⟩
theorem Is.dict_inv {ds : List (Key × D)} (h : Is K H v (.dict ds)) : ∃ a xs, v = .ref a ∧ Rd H a (.dK xs) ∧ IsK K H xs ds := by
  cases h with
  | dict h l e e2 => exact ⟨_, _, rfl, h, l, e, e2⟩
theorem Is.obj_inv {c : Str} {ds : List (Str × D)} (h : Is K H v (.obj c ds)) : ∃ a dx xs, v = .ref a ∧ H a = some (.ins (He.ga K c) dx xs) ∧ IsK K H xs ds := by
  cases h with
  | obj h l e e2 => exact ⟨_, _, _, rfl, h, l, e, e2⟩
theorem is_of_c {a : Addr} {o : HO} (h : H a = some o) (c : IsC K H o d) : Is K H (.ref a) d := by
  cases o <;> cases d <;> first
    | exact c.elim
    | exact is_list (.of h) c
    | exact .dict (.of h) c.1 c.2.1 c.2.2
    | exact .dictT h c.1 c.2.1 c.2.2
    | (obtain ⟨c1, c2⟩ := c; subst c1; exact .obj h c2.1 c2.2.1 c2.2.2)
end

/-! ### the state of a def: slots as data; m: the slots whose object is the frame's own (not yet shared) -/
abbrev Rho := List (Option D)
/-- F: what is shared (never changes again), H: all that stands. F0, H0: at the def's entry -/
structure Rep (K : PySem.W.Frag) (F0 H0 : Hp) (m : List Bool) (ρ : Rho) (σ : L2.St) (F H : Hp) : Prop where
  len : σ.length = ρ.length
  fh : Same F H
  f0 : Same F0 F
  h0 : Same H0 H
  new : ∀ p, H0 p ≠ none → F0 p = none → F p = none
  val : ∀ (i : Nat) d, ρ[i]? = some (some d) → m[i]? ≠ some true → ∃ v, σ[i]? = some (some v) ∧ Is K F v d
  own : ∀ (i : Nat) d, ρ[i]? = some (some d) → m[i]? = some true → ∃ p o, σ[i]? = some (some (.ref p)) ∧ H p = some o ∧ IsC K F o d ∧ F p = none ∧ H0 p = none
  apart : ∀ (i j : Nat) p d e, i ≠ j → m[i]? = some true → m[j]? = some true → ρ[i]? = some (some d) → ρ[j]? = some (some e) → σ[i]? = some (some (.ref p)) → σ[j]? ≠ some (some (.ref p))
structure Ext (F H F' H' : Hp) : Prop where
  ff : Same F F'
  hh : Same H H'
  fh : Same F' H'
  nw : ∀ p, H p ≠ none → F p = none → F' p = none
section
variable {K : PySem.W.Frag} {F0 H0 F H F' H' F2 H2 : Hp} {m : List Bool} {ρ : Rho} {σ : L2.St}
theorem Ext.trans (a : Ext F H F' H') (b : Ext F' H' F2 H2) : Ext F H F2 H2 :=
  ⟨a.ff.trans b.ff, a.hh.trans b.hh, b.fh, fun p h f => b.nw p (fun z => by
    cases q : H p with
    | none => exact h q
    | some o => rw [a.hh p o q] at z; cases z) (a.nw p h f)⟩
theorem Ext.refl (h : Same F H) : Ext F H F H := ⟨.refl _, .refl _, h, fun _ _ f => f⟩
theorem same_upd {p : Addr} {o : HO} (h : H p = none) : Same H (upd H p o) := fun b u e => by
  rw [upd_ne (ne_of_none e h)]; exact e
/-- a new object is laid, shared at once -/
theorem Ext.laid {p : Addr} {o : HO} (h : Same F H) (n : H p = none) : Ext F H (upd F p o) (upd H p o) :=
  ⟨same_upd (h.free n), same_upd n, fun b u e => by
    by_cases q : b = p
    · subst q; rw [upd_same] at e ⊢; exact e
    · rw [upd_ne q] at e ⊢; exact h b u e, fun b hb fb => by
    have q : b ≠ p := fun z => hb (z ▸ n)
    rw [upd_ne q]; exact fb⟩
/-- a new object is laid, not shared -/
theorem Ext.laid' {p : Addr} {o : HO} (h : Same F H) (n : H p = none) : Ext F H F (upd H p o) :=
  ⟨.refl _, same_upd n, h.trans (same_upd n), fun _ _ f => f⟩
theorem Rep.ext (r : Rep K F0 H0 m ρ σ F H) (x : Ext F H F' H') : Rep K F0 H0 m ρ σ F' H' where
  len := r.len
  fh := x.fh
  f0 := r.f0.trans x.ff
  h0 := r.h0.trans x.hh
  new := fun p h f => x.nw p (fun z => by
    cases q : H0 p with
    | none => exact h q
    | some o => rw [r.h0 p o q] at z; cases z) (r.new p h f)
  val := fun i d a b => by
    obtain ⟨v, e, h⟩ := r.val i d a b
    exact ⟨v, e, h.mono x.ff⟩
  own := fun i d a b => by
    obtain ⟨p, o, e, h, c, f, h0⟩ := r.own i d a b
    exact ⟨p, o, e, x.hh _ _ h, c.mono x.ff, x.nw p (by rw [h]; simp) f, h0⟩
  apart := r.apart
end

/-! ### the reading by data -/
/-- an exception that is represented -/
def IsX (K : PySem.W.Frag) (F : Hp) (x : Ex) (cls : Value) (od : Option Addr) : Prop :=
  cls = .ref (He.ga K x.cls) ∧ (x.fs ≠ [] → ∃ d vs, od = some d ∧ F d = some (.xd vs) ∧ IsK K F vs x.fs)
def after (K : PySem.W.Frag) (W : WX) (σ : L2.St) (F H : Hp) (r : R D) (Q : VK) : Prop := match r with
  | .ok d => ∀ v F' H', Ext F H F' H' → Is K F' v d → Q v H'
  | .ex x => ∀ cls od F' H', Ext F H F' H' → IsX K F' x cls od → W cls od σ H'
  | .st => False
def tSem (K : PySem.W.Frag) (F0 H0 : Hp) (m : List Bool) (W : WX) (g : Rho → R D) : TE := fun σ H Q => ∃ ρ F, Rep K F0 H0 m ρ σ F H ∧ after K W σ F H (g ρ) Q
/-- a test -/
def tSemT (K : PySem.W.Frag) (F0 H0 : Hp) (m : List Bool) (W : WX) (g : Rho → R Bool) : TT := fun σ H Q => ∃ ρ F, Rep K F0 H0 m ρ σ F H ∧ match g ρ with
  | .ok b => ∀ F' H', Ext F H F' H' → Q b H'
  | .ex x => ∀ cls od F' H', Ext F H F' H' → IsX K F' x cls od → W cls od σ H'
  | .st => False
/-- arguments -/
def tSemA (K : PySem.W.Frag) (F0 H0 : Hp) (m : List Bool) (W : WX) (g : Rho → R (List D)) : TA := fun σ H Q => ∃ ρ F, Rep K F0 H0 m ρ σ F H ∧ match g ρ with
  | .ok ds => ∀ vs F' H', Ext F H F' H' → IsL K F' vs ds → Q vs H'
  | .ex x => ∀ cls od F' H', Ext F H F' H' → IsX K F' x cls od → W cls od σ H'
  | .st => False
abbrev DE (X : Cx) (F0 H0 : Hp) (m : List Bool) (W : WX) (e : Expr) (g : Rho → R D) : Prop := PE X e (tSem X.K F0 H0 m W g)
abbrev DT (X : Cx) (F0 H0 : Hp) (m : List Bool) (W : WX) (e : Expr) (g : Rho → R Bool) : Prop := PT X e (tSemT X.K F0 H0 m W g)
abbrev DA (X : Cx) (F0 H0 : Hp) (m : List Bool) (W : WX) (es : List Expr) (g : Rho → R (List D)) : Prop := PA X es (tSemA X.K F0 H0 m W g)
theorem pe_imp {X : Cx} {e : Expr} {t t' : TE} (h : PE X e t) (f : ∀ σ H Q, t' σ H Q → t σ H Q) : PE X e t' := ⟨fun pins s σ H Q I q => h.run pins s σ H Q I (f σ H Q q)⟩
theorem pt_imp {X : Cx} {e : Expr} {t t' : TT} (h : PT X e t) (f : ∀ σ H Q, t' σ H Q → t σ H Q) : PT X e t' := ⟨fun pins s σ H Q I q => h.run pins s σ H Q I (f σ H Q q)⟩
theorem pa_imp {X : Cx} {e : List Expr} {t t' : TA} (h : PA X e t) (f : ∀ σ H Q, t' σ H Q → t σ H Q) : PA X e t' := ⟨fun pos pins s σ H Q I q => h.run pos pins s σ H Q I (f σ H Q q)⟩
theorem ps_imp {X : Cx} {e : Stmt} {t t' : TS} (h : PS X e t) (f : ∀ D σ H, t' D σ H → t D σ H) : PS X e t' := ⟨fun pins s σ H Q I q => h.run pins s σ H Q I (f Q σ H q)⟩
theorem pss_imp {X : Cx} {e : List Stmt} {t t' : TS} (h : PSs X e t) (f : ∀ D σ H, t' D σ H → t D σ H) : PSs X e t' := ⟨fun pins s σ H Q I q => h.run pins s σ H Q I (f Q σ H q)⟩
theorem pe_or2 {X : Cx} {e : Expr} {t t' : TE} (h : PE X e t) (h' : PE X e t') : PE X e (fun σ H Q => t σ H Q ∨ t' σ H Q) := ⟨fun pins s σ H Q I q => q.elim (h.run pins s σ H Q I) (h'.run pins s σ H Q I)⟩

section
variable {K : PySem.W.Frag} {F0 H0 F H F' H' : Hp} {m : List Bool} {W : WX} {ρ : Rho} {σ : L2.St} {g : Rho → R D} {Q : VK}
theorem after.ext {r : R D} (h : after K W σ F H r Q) (x : Ext F H F' H') : after K W σ F' H' r Q := by
  cases r with
  | ok d => exact fun v F2 H2 y i => h v F2 H2 (x.trans y) i
  | ex e => exact fun cls od F2 H2 y i => h cls od F2 H2 (x.trans y) i
  | st => exact h
theorem after.now {d : D} {v : V} (h : after K W σ F H (.ok d) Q) (s : Same F H) (i : Is K F v d) : Q v H := h v F H (.refl s) i
/-- one part of an expression is read, then the rest -/
theorem sem_bind {k : D → R D} {Φ : VK} (r : Rep K F0 H0 m ρ σ F H) (h : after K W σ F H ((g ρ).bind k) Q)
    (f : ∀ d v F' H', Ext F H F' H' → Is K F' v d → Rep K F0 H0 m ρ σ F' H' → after K W σ F' H' (k d) Q → Φ v H') : tSem K F0 H0 m W g σ H Φ := by
  refine ⟨ρ, F, r, ?_⟩
  cases e : g ρ with
  | ok d =>
    rw [e] at h
    exact fun v F' H' x i => f d v F' H' x i (r.ext x) (after.ext h x)
  | ex x =>
    rw [e] at h
    exact h
  | st =>
    rw [e] at h
    exact h
theorem semT_bind {gt : Rho → R Bool} {k : Bool → R D} {Φ : Bool → Hp → Prop} (r : Rep K F0 H0 m ρ σ F H) (h : after K W σ F H ((gt ρ).bind k) Q)
    (f : ∀ b F' H', Ext F H F' H' → Rep K F0 H0 m ρ σ F' H' → after K W σ F' H' (k b) Q → Φ b H') : tSemT K F0 H0 m W gt σ H Φ := by
  refine ⟨ρ, F, r, ?_⟩
  cases e : gt ρ with
  | ok d =>
    rw [e] at h
    exact fun F' H' x => f d F' H' x (r.ext x) (after.ext h x)
  | ex x =>
    rw [e] at h
    exact h
  | st =>
    rw [e] at h
    exact h
theorem semA_bind {ga : Rho → R (List D)} {k : List D → R D} {Φ : List V → Hp → Prop} (r : Rep K F0 H0 m ρ σ F H) (h : after K W σ F H ((ga ρ).bind k) Q)
    (f : ∀ ds vs F' H', Ext F H F' H' → IsL K F' vs ds → Rep K F0 H0 m ρ σ F' H' → after K W σ F' H' (k ds) Q → Φ vs H') : tSemA K F0 H0 m W ga σ H Φ := by
  refine ⟨ρ, F, r, ?_⟩
  cases e : ga ρ with
  | ok d =>
    rw [e] at h
    exact fun vs F' H' x i => f d vs F' H' x i (r.ext x) (after.ext h x)
  | ex x =>
    rw [e] at h
    exact h
  | st =>
    rw [e] at h
    exact h
end
end Pd

/-! Pd2: expressions read as functions of data -/
namespace Pd
open PySem PySem.Spec PyProof.Rows L2
section
variable {X : Cx} {F0 H0 : Hp} {m : List Bool} {W : WX} {pos : Pos} {a b c : Expr} {ga gb gc : Rho → R D}

/-! ### names, constants -/
def gVar (i : Nat) : Rho → R D := fun ρ => match ρ[i]? with
  | some (some d) => .ok d
  | _ => .st
theorem d_var (i : Nat) {x : Str} (hN : X.N[i]? = some x := by rfl) (hv : Vis X.env.scope x := by first | exact Or.inl rfl | exact Or.inr (Or.inl rfl) | exact Or.inr (Or.inr rfl)) (hm : (m[i]? == some true) = false := by rfl) (hd : (x == ("__debug__" : Str)) = false := by decide)
    (hcd : (x == ("__classdict__" : Str)) = false := by decide) : DE X F0 H0 m W (.Name x pos) (gVar i) := by
  refine pe_imp (pe_var hN hv hd hcd) fun σ H Q ⟨ρ, F, r, h⟩ => ?_
  unfold gVar at h
  split at h
  · rename_i d e
    obtain ⟨v, e1, i1⟩ := r.val i d e (by intro z; rw [z] at hm; cases hm)
    exact ⟨v, e1, after.now h r.fh i1⟩
  · exact h.elim
def gC (d : D) : Rho → R D := fun _ => .ok d
theorem sem_const {K : PySem.W.Frag} {v : V} {d : D} (i : ∀ H, Is K H v d) : ∀ (σ : L2.St) (H : Hp) (Q : VK), tSem K F0 H0 m W (gC d) σ H Q → tC v σ H Q :=
  fun σ H Q ⟨ρ, F, r, h⟩ => after.now h r.fh (i F)
theorem d_int {i : Int} {j} : DE X F0 H0 m W (.Constant (.int i) j pos) (gC (.int i)) := pe_imp pe_int (sem_const fun _ => .int i)
theorem d_bl {i : Bool} {j} : DE X F0 H0 m W (.Constant (.bool i) j pos) (gC (.bl i)) := pe_imp pe_bl (sem_const fun _ => .bl i)
theorem d_str {i : Str} {j} : DE X F0 H0 m W (.Constant (.str i) j pos) (gC (.str i)) := pe_imp pe_str (sem_const fun _ => .str i)
theorem d_non {j} : DE X F0 H0 m W (.Constant .none j pos) (gC .non) := pe_imp pe_non (sem_const fun _ => .non)
theorem d_glob {x : Str} {v : V} {u : Value} {d : D} (hg : Gl X x) (hm : X.mg x = some u) (r : RelV v u) (i : ∀ H, Is X.K H v d) (hd : (x == ("__debug__" : Str)) = false := by decide) : DE X F0 H0 m W (.Name x pos) (gC d) :=
  pe_imp (pe_glob hg hm r hd) (sem_const i)
theorem d_gint {x : Str} {i : Int} (hg : Gl X x) (hm : ∃ t, X.mg x = some (.int i t)) (hd : (x == ("__debug__" : Str)) = false := by decide) : DE X F0 H0 m W (.Name x pos) (gC (.int i)) := by
  obtain ⟨t, hm⟩ := hm
  exact d_glob (v := .int i) hg hm ⟨t, rfl⟩ (fun _ => .int i) hd
theorem d_gstr {x : Str} {i : Str} (hg : Gl X x) (hm : ∃ t, X.mg x = some (.str i t)) (hd : (x == ("__debug__" : Str)) = false := by decide) : DE X F0 H0 m W (.Name x pos) (gC (.str i)) := by
  obtain ⟨t, hm⟩ := hm
  exact d_glob (v := .str i) hg hm ⟨t, rfl⟩ (fun _ => .str i) hd

/-! ### two operands -/
def g2 (f : D → D → R D) (ga gb : Rho → R D) : Rho → R D := fun ρ => (ga ρ).bind fun d => (gb ρ).bind fun e => f d e
def OpD (K : PySem.W.Frag) (f : D → D → R D) (r : R2) : Prop :=
  ∀ (W : WX) (σ : L2.St) (F H : Hp) (d e : D) (v u : V) (Q : VK), Same F H → Is K F v d → Is K F u e → after K W σ F H (f d e) Q → r v u H Q
theorem sem2 {f : D → D → R D} {r : R2} (o : OpD X.K f r) : ∀ (σ : L2.St) (H : Hp) (Q : VK), tSem X.K F0 H0 m W (g2 f ga gb) σ H Q → tOp r (tSem X.K F0 H0 m W ga) (tSem X.K F0 H0 m W gb) σ H Q :=
  fun σ H Q ⟨ρ, F, r, h⟩ => sem_bind (k := fun d => (gb ρ).bind fun e => f d e) r h fun d v F1 H1 _ i1 r1 h1 =>
    sem_bind (k := fun e => f d e) r1 h1 fun e u F2 H2 x2 i2 r2 h2 => o W σ F2 H2 d e v u Q r2.fh (i1.mono x2.ff) i2 h2
theorem OpD.or {K : PySem.W.Frag} {f g : D → D → R D} {r r' : R2} (h : OpD K f r) (h' : OpD K g r') : OpD K (fun d e => match f d e with | .st => g d e | x => x) (fun x y H Q => r x y H Q ∨ r' x y H Q) := by
  intro W σ F H d e v u Q s i j q
  dsimp only at q
  cases z : f d e with
  | ok _ => rw [z] at q; exact .inl (h W σ F H d e v u Q s i j (by rw [z]; exact q))
  | ex _ => rw [z] at q; exact .inl (h W σ F H d e v u Q s i j (by rw [z]; exact q))
  | st => rw [z] at q; exact .inr (h' W σ F H d e v u Q s i j q)
theorem OpD.imp {K : PySem.W.Frag} {f g : D → D → R D} {r : R2} (h : OpD K f r) (e : ∀ d e, g d e = f d e ∨ g d e = .st) : OpD K g r := by
  intro W σ F H d e' v u Q s i j q
  rcases e d e' with z | z
  · rw [z] at q; exact h W σ F H d e' v u Q s i j q
  · rw [z] at q; exact q.elim
theorem d_op {op : Operator} {f : D → D → R D} {r : R2} (ho : OpR X (binaryOp op) r) (o : OpD X.K f r) (ha : DE X F0 H0 m W a ga) (hb : DE X F0 H0 m W b gb) : DE X F0 H0 m W (.BinOp a op b pos) (g2 f ga gb) :=
  pe_imp (pe_op ho ha hb) (sem2 o)
theorem d_cmp {op : CmpOp} {f : D → D → R D} {r : R2} (ho : OpR X (compareOp op) r) (o : OpD X.K f r) (ha : DE X F0 H0 m W a ga) (hb : DE X F0 H0 m W b gb) (hm : behindInMarks op b = false) : DE X F0 H0 m W (.Compare a [op] [b] pos) (g2 f ga gb) :=
  pe_imp (pe_cmpR ho ha hb hm) (sem2 o)
/-- a value as a truth value -/
def asB : D → R Bool
  | .bl b => .ok b
  | _ => .st
def gB (g : Rho → R D) : Rho → R Bool := fun ρ => (g ρ).bind asB
theorem sem_test {t : TE} {g : Rho → R D} (f : ∀ σ H Q, tSem X.K F0 H0 m W g σ H Q → t σ H Q) (mono : ∀ σ H Q Q', (∀ v H', Q v H' → Q' v H') → t σ H Q → t σ H Q') : ∀ (σ : L2.St) (H : Hp) (Q : Bool → Hp → Prop), tSemT X.K F0 H0 m W (gB g) σ H Q → t σ H fun x H' => ∃ k, x = .bl k ∧ Q k H' := by
  intro σ H Q ⟨ρ, F, r, h⟩
  refine f σ H _ ⟨ρ, F, r, ?_⟩
  unfold gB at h
  cases e : g ρ with
  | ok d =>
    rw [e] at h
    intro v F' H' x i
    cases i with
    | bl b => exact ⟨b, rfl, h F' H' x⟩
    | _ => exact h.elim
  | ex x =>
    rw [e] at h
    exact h
  | st =>
    rw [e] at h
    exact h.elim
theorem t_cmp {op : CmpOp} {f : D → D → R D} {r : R2} (ho : OpR X (compareOp op) r) (o : OpD X.K f r) (ha : DE X F0 H0 m W a ga) (hb : DE X F0 H0 m W b gb) (hm : behindInMarks op b = false) : DT X F0 H0 m W (.Compare a [op] [b] pos) (gB (g2 f ga gb)) := by
  refine pt_imp (pt_cmpR ho ha hb hm) fun σ H Q ⟨ρ, F, r, h⟩ => ?_
  refine sem2 o σ H _ ⟨ρ, F, r, ?_⟩
  unfold gB at h
  cases e : g2 f ga gb ρ with
  | ok d =>
    rw [e] at h
    intro v F' H' x i
    cases i with
    | bl b => exact ⟨b, rfl, h F' H' x⟩
    | _ => exact h.elim
  | ex x =>
    rw [e] at h
    exact h
  | st =>
    rw [e] at h
    exact h.elim
/-- a op b op' c -/
def g3 (f f' : D → D → R D) (ga gb gc : Rho → R D) : Rho → R D := fun ρ => (ga ρ).bind fun d => (gb ρ).bind fun e => (f d e).bind fun z => (asB z).bind fun k => if k = true then (gc ρ).bind fun y => f' e y else .ok (.bl false)
theorem sem3 {f f' : D → D → R D} {r r' : R2} (o : OpD X.K f r) (o' : OpD X.K f' r') (nx : ∀ d e, ∃ k, f d e = .ok (.bl k) ∨ f d e = .st) : ∀ (σ : L2.St) (H : Hp) (Q : VK), tSem X.K F0 H0 m W (g3 f f' ga gb gc) σ H Q →
    tChain r r' (tSem X.K F0 H0 m W ga) (tSem X.K F0 H0 m W gb) (tSem X.K F0 H0 m W gc) σ H Q :=
  fun σ H Q ⟨ρ, F, r, h⟩ => sem_bind (k := fun d => (gb ρ).bind fun e => (f d e).bind fun z => (asB z).bind fun k => if k = true then (gc ρ).bind fun y => f' e y else .ok (.bl false)) r h fun d v F1 H1 _ i1 r1 h1 =>
    sem_bind (k := fun e => (f d e).bind fun z => (asB z).bind fun k => if k = true then (gc ρ).bind fun y => f' e y else .ok (.bl false)) r1 h1 fun e u F2 H2 x2 i2 r2 h2 => by
      refine o W σ F2 H2 d e v u _ r2.fh (i1.mono x2.ff) i2 ?_
      obtain ⟨k, z | z⟩ := nx d e
      · rw [z] at h2 ⊢
        intro v' F3 H3 x3 i3
        cases i3
        refine ⟨k, rfl, ?_⟩
        have h3 := after.ext h2 x3
        cases k with
        | true => exact iteT (sem_bind (k := fun y => f' e y) (r2.ext x3) h3 fun y w' F4 H4 x4 i4 r4 h4 => o' W σ F4 H4 e y u w' Q r4.fh ((i2.mono x3.ff).mono x4.ff) i4 h4)
        | false => exact iteF (after.now h3 x3.fh (.bl false))
      · rw [z] at h2
        exact h2.elim
theorem d_chain {op op' : CmpOp} {f f' : D → D → R D} {r r' : R2} (ho : OpR X (compareOp op) r) (o : OpD X.K f r) (ho' : OpR X (compareOp op') r') (o' : OpD X.K f' r') (nx : ∀ d e, ∃ k, f d e = .ok (.bl k) ∨ f d e = .st)
    (ha : DE X F0 H0 m W a ga) (hb : DE X F0 H0 m W b gb) (hc : DE X F0 H0 m W c gc) (hm : lastMarks [op, op'] [b, c] = false := by with_unfolding_all rfl) : DE X F0 H0 m W (.Compare a [op, op'] [b, c] pos) (g3 f f' ga gb gc) :=
  pe_imp (pe_chain ho ho' ha hb hc hm) (sem3 o o' nx)
theorem semT_of {t : TE} {g : Rho → R D} (f : ∀ σ H Q, tSem X.K F0 H0 m W g σ H Q → t σ H Q) : ∀ (σ : L2.St) (H : Hp) (Q : Bool → Hp → Prop), tSemT X.K F0 H0 m W (gB g) σ H Q → t σ H fun x H' => ∃ k, x = .bl k ∧ Q k H' :=
  fun σ H Q ⟨ρ, F, r, h⟩ => by
  refine f σ H _ ⟨ρ, F, r, ?_⟩
  unfold gB at h
  cases e : g ρ with
  | ok d =>
    rw [e] at h
    intro v F' H' x i
    cases i with
    | bl b => exact ⟨b, rfl, h F' H' x⟩
    | _ => exact h.elim
  | ex x =>
    rw [e] at h
    exact h
  | st =>
    rw [e] at h
    exact h.elim
theorem t_chain {op op' : CmpOp} {f f' : D → D → R D} {r r' : R2} (ho : OpR X (compareOp op) r) (o : OpD X.K f r) (ho' : OpR X (compareOp op') r') (o' : OpD X.K f' r') (nx : ∀ d e, ∃ k, f d e = .ok (.bl k) ∨ f d e = .st)
    (ha : DE X F0 H0 m W a ga) (hb : DE X F0 H0 m W b gb) (hc : DE X F0 H0 m W c gc) (hm : lastMarks [op, op'] [b, c] = false := by with_unfolding_all rfl) : DT X F0 H0 m W (.Compare a [op, op'] [b, c] pos) (gB (g3 f f' ga gb gc)) :=
  pt_imp (pt_chain ho ho' ha hb hc hm) (semT_of (sem3 o o' nx))
/-- a bool as a test -/
theorem t_val {e : Expr} {g : Rho → R D} (h : DE X F0 H0 m W e g) (he : ∀ whole, isTrue e X.env whole = (do let v ← whole; standAt e.pos; holding [v] (truthy v)) := by intro _; rfl) : DT X F0 H0 m W e (gB g) :=
  pt_imp (pt_val h he) (semT_of fun _ _ _ z => z)
/-- truth of data -/
def truD : D → R Bool
  | .non => .ok false
  | .bl b => .ok b
  | .int i => .ok (i != 0)
  | .str s => if s.length ≤ sizeLine then .ok ((s.length : Int) != 0) else .st
  | .list xs => .ok (!xs.isEmpty)
  | .tup xs => .ok (!xs.isEmpty)
  | _ => .st
theorem IsL.empty {K : PySem.W.Frag} {H : Hp} {xs : List V} {ds : List D} (h : IsL K H xs ds) : xs.isEmpty = ds.isEmpty := by
  have l := h.1
  cases xs <;> cases ds <;> first | rfl | (simp at l)
theorem tru_of {K : PySem.W.Frag} {F H : Hp} {v : V} {d : D} {k : Bool} (s : Same F H) (i : Is K F v d) (h : truD d = .ok k) : TruV K v H k := by
  cases i with
  | non => cases h; rfl
  | bl b => cases h; rfl
  | int i => cases h; rfl
  | str x =>
    have h' : (if x.length ≤ sizeLine then R.ok ((x.length : Int) != 0) else .st) = .ok k := h
    by_cases hx : x.length ≤ sizeLine
    · rw [if_pos hx] at h'
      cases h'
      exact ⟨hx, rfl⟩
    · rw [if_neg hx] at h'
      cases h'
  | list hl l e => cases h; exact .inl ⟨_, s.seq hl, by rw [IsL.empty (K := K) (H := F) ⟨l, e⟩]⟩
  | tup hl l e => cases h; exact .inr (.inl ⟨_, sameT s hl, by rw [IsL.empty (K := K) (H := F) ⟨l, e⟩]⟩)
  | dict _ _ _ _ => cases h
  | dictT _ _ _ _ => cases h
  | obj _ _ _ _ => cases h
def gTru (g : Rho → R D) : Rho → R Bool := fun ρ => (g ρ).bind truD
theorem truD_nx (d : D) : (∃ k, truD d = .ok k) ∨ truD d = .st := by
  cases d with
  | str x =>
    show (∃ k, (if x.length ≤ sizeLine then R.ok ((x.length : Int) != 0) else .st) = .ok k) ∨ (if x.length ≤ sizeLine then R.ok ((x.length : Int) != 0) else .st) = .st
    by_cases hx : x.length ≤ sizeLine
    · rw [if_pos hx]; exact .inl ⟨_, rfl⟩
    · rw [if_neg hx]; exact .inr rfl
  | dict _ => exact .inr rfl
  | dictT _ => exact .inr rfl
  | obj _ _ => exact .inr rfl
  | _ => exact .inl ⟨_, rfl⟩
theorem t_tru {e : Expr} {g : Rho → R D} (h : DE X F0 H0 m W e g) (he : ∀ whole, isTrue e X.env whole = (do let v ← whole; standAt e.pos; holding [v] (truthy v)) := by intro _; rfl) : DT X F0 H0 m W e (gTru g) := by
  refine pt_imp (pt_truth h he) fun σ H Q ⟨ρ, F, r, h⟩ => ⟨ρ, F, r, ?_⟩
  unfold gTru at h
  cases e : g ρ with
  | ok d =>
    rw [e] at h
    intro v F' H' x i
    have h' : match truD d with
      | .ok b => ∀ F' H', Ext F H F' H' → Q b H'
      | .ex x => ∀ cls od F' H', Ext F H F' H' → IsX X.K F' x cls od → W cls od σ H'
      | .st => False := h
    rcases truD_nx d with ⟨k, z⟩ | z
    · rw [z] at h'
      exact ⟨k, tru_of x.fh i z, h' F' H' x⟩
    · rw [z] at h'
      exact h'.elim
  | ex x =>
    rw [e] at h
    exact h
  | st =>
    rw [e] at h
    exact h.elim

/-! ### and, or, not, if else -/
abbrev DW (X : Cx) (F0 H0 : Hp) (m : List Bool) (W : WX) (e : Expr) (g : Rho → R Bool) : Prop := PW X e (tSemT X.K F0 H0 m W g)
theorem pw_imp {e : Expr} {t t' : TT} (h : PW X e t) (f : ∀ σ H Q, t' σ H Q → t σ H Q) : PW X e t' := ⟨fun wh pins s σ H Q I q => h.run wh pins s σ H Q I (f σ H Q q)⟩
def bAnd (p q : Rho → R Bool) : Rho → R Bool := fun ρ => (p ρ).bind fun k => if k = true then q ρ else .ok false
def bOr (p q : Rho → R Bool) : Rho → R Bool := fun ρ => (p ρ).bind fun k => if k = true then .ok true else q ρ
def bNot (p : Rho → R Bool) : Rho → R Bool := fun ρ => (p ρ).bind fun k => .ok (!k)
/-- a test is read, then the rest -/
def afterT (K : PySem.W.Frag) (W : WX) (σ : L2.St) (F H : Hp) (r : R Bool) (Q : Bool → Hp → Prop) : Prop := match r with
  | .ok b => ∀ F' H', Ext F H F' H' → Q b H'
  | .ex x => ∀ cls od F' H', Ext F H F' H' → IsX K F' x cls od → W cls od σ H'
  | .st => False
theorem afterT.ext {K : PySem.W.Frag} {σ : L2.St} {F H F' H' : Hp} {Q : Bool → Hp → Prop} {r : R Bool} (h : afterT K W σ F H r Q) (x : Ext F H F' H') : afterT K W σ F' H' r Q := by
  cases r with
  | ok d => exact fun F2 H2 y => h F2 H2 (x.trans y)
  | ex e => exact fun cls od F2 H2 y i => h cls od F2 H2 (x.trans y) i
  | st => exact h
theorem semTT {K : PySem.W.Frag} {σ : L2.St} {F H : Hp} {ρ : Rho} {p : Rho → R Bool} {k : Bool → R Bool} {Q Φ : Bool → Hp → Prop} (r : Rep K F0 H0 m ρ σ F H) (h : afterT K W σ F H ((p ρ).bind k) Q)
    (f : ∀ b F' H', Ext F H F' H' → Rep K F0 H0 m ρ σ F' H' → afterT K W σ F' H' (k b) Q → Φ b H') : tSemT K F0 H0 m W p σ H Φ := by
  refine ⟨ρ, F, r, ?_⟩
  cases e : p ρ with
  | ok d =>
    rw [e] at h
    exact fun F' H' x => f d F' H' x (r.ext x) (afterT.ext h x)
  | ex x =>
    rw [e] at h
    exact h
  | st =>
    rw [e] at h
    exact h
variable {p q : Rho → R Bool} {rest : List Expr}
theorem w_and1 (ha : DT X F0 H0 m W a p) : DW X F0 H0 m W (.BoolOp .And [a] pos) p := pw_and1 ha
theorem w_or1 (ha : DT X F0 H0 m W a p) : DW X F0 H0 m W (.BoolOp .Or [a] pos) p := pw_or1 ha
theorem w_and (ha : DT X F0 H0 m W a p) (hb : DW X F0 H0 m W (.BoolOp .And (b :: rest) pos) q) : DW X F0 H0 m W (.BoolOp .And (a :: b :: rest) pos) (bAnd p q) := by
  refine pw_imp (pw_and ha hb) fun σ H Q ⟨ρ, F, r, h⟩ => ?_
  refine semTT (k := fun k => if k = true then q ρ else .ok false) r h fun k F1 H1 x1 r1 h1 => ?_
  cases k with
  | true => exact iteT ⟨ρ, F1, r1, h1⟩
  | false => exact iteF (h1 F1 H1 (.refl r1.fh))
theorem w_or (ha : DT X F0 H0 m W a p) (hb : DW X F0 H0 m W (.BoolOp .Or (b :: rest) pos) q) : DW X F0 H0 m W (.BoolOp .Or (a :: b :: rest) pos) (bOr p q) := by
  refine pw_imp (pw_or ha hb) fun σ H Q ⟨ρ, F, r, h⟩ => ?_
  refine semTT (k := fun k => if k = true then .ok true else q ρ) r h fun k F1 H1 x1 r1 h1 => ?_
  cases k with
  | true => exact iteT (h1 F1 H1 (.refl r1.fh))
  | false => exact iteF ⟨ρ, F1, r1, h1⟩
theorem t_w {e : Expr} (h : DW X F0 H0 m W e p) : DT X F0 H0 m W e p := PW.pt h
theorem t_not (ha : DT X F0 H0 m W a p) : DT X F0 H0 m W (.UnaryOp .Not a pos) (bNot p) := by
  refine pt_imp (pt_not ha) fun σ H Q ⟨ρ, F, r, h⟩ => ?_
  exact semTT (k := fun k => .ok (!k)) r h fun k F1 H1 x1 r1 h1 => h1 F1 H1 (.refl r1.fh)
def gAnd (ga gb : Rho → R D) : Rho → R D := fun ρ => (ga ρ).bind fun d => (asB d).bind fun k => if k = true then gb ρ else .ok (.bl false)
def gOr (ga gb : Rho → R D) : Rho → R D := fun ρ => (ga ρ).bind fun d => (asB d).bind fun k => if k = true then .ok (.bl true) else gb ρ
def gNot (ga : Rho → R D) : Rho → R D := fun ρ => (ga ρ).bind fun d => (asB d).bind fun k => .ok (.bl (!k))
theorem asB_of {K : PySem.W.Frag} {F H : Hp} {σ : L2.St} {v : V} {d : D} {k : Bool → R D} {Q : VK} (i : Is K F v d) (h : after K W σ F H ((asB d).bind k) Q) : ∃ b, v = .bl b ∧ d = .bl b ∧ after K W σ F H (k b) Q := by
  cases i with
  | bl b => exact ⟨b, rfl, rfl, h⟩
  | _ => exact h.elim
theorem d_one {op} (ha : DE X F0 H0 m W a ga) : DE X F0 H0 m W (.BoolOp op [a] pos) ga := pe_one ha
theorem d_and (ha : DE X F0 H0 m W a ga) (hb : DE X F0 H0 m W (.BoolOp .And (b :: rest) pos) gb) : DE X F0 H0 m W (.BoolOp .And (a :: b :: rest) pos) (gAnd ga gb) := by
  refine pe_imp (pe_and ha hb) fun σ H Q ⟨ρ, F, r, h⟩ => ?_
  refine sem_bind (k := fun d => (asB d).bind fun k => if k = true then gb ρ else .ok (.bl false)) r h fun d v F1 H1 _ i1 r1 h1 => ?_
  obtain ⟨k, rfl, rfl, h2⟩ := asB_of i1 h1
  refine ⟨k, rfl, ?_⟩
  cases k with
  | true => exact iteT ⟨ρ, F1, r1, h2⟩
  | false => exact iteF (after.now h2 r1.fh (.bl false))
theorem d_or (ha : DE X F0 H0 m W a ga) (hb : DE X F0 H0 m W (.BoolOp .Or (b :: rest) pos) gb) : DE X F0 H0 m W (.BoolOp .Or (a :: b :: rest) pos) (gOr ga gb) := by
  refine pe_imp (pe_or ha hb) fun σ H Q ⟨ρ, F, r, h⟩ => ?_
  refine sem_bind (k := fun d => (asB d).bind fun k => if k = true then .ok (.bl true) else gb ρ) r h fun d v F1 H1 _ i1 r1 h1 => ?_
  obtain ⟨k, rfl, rfl, h2⟩ := asB_of i1 h1
  refine ⟨k, rfl, ?_⟩
  cases k with
  | true => exact iteT (after.now h2 r1.fh (.bl true))
  | false => exact iteF ⟨ρ, F1, r1, h2⟩
theorem d_not (ha : DE X F0 H0 m W a ga) : DE X F0 H0 m W (.UnaryOp .Not a pos) (gNot ga) := by
  refine pe_imp (pe_not ha) fun σ H Q ⟨ρ, F, r, h⟩ => ?_
  refine sem_bind (k := fun d => (asB d).bind fun k => .ok (.bl (!k))) r h fun d v F1 H1 _ i1 r1 h1 => ?_
  obtain ⟨k, rfl, rfl, h2⟩ := asB_of i1 h1
  exact ⟨k, rfl, after.now h2 r1.fh (.bl _)⟩
def gIf (p : Rho → R Bool) (ga gb : Rho → R D) : Rho → R D := fun ρ => (p ρ).bind fun k => if k = true then ga ρ else gb ρ
theorem d_if (hc : DT X F0 H0 m W c p) (ha : DE X F0 H0 m W a ga) (hb : DE X F0 H0 m W b gb) : DE X F0 H0 m W (.IfExp c a b pos) (gIf p ga gb) := by
  refine pe_imp (pe_ifExp hc ha hb) fun σ H Q ⟨ρ, F, r, h⟩ => ?_
  refine semT_bind (k := fun k => if k = true then ga ρ else gb ρ) r h fun k F1 H1 _ r1 h1 => ?_
  cases k with
  | true => exact iteT ⟨ρ, F1, r1, h1⟩
  | false => exact iteF ⟨ρ, F1, r1, h1⟩

/-! ### one operand -/
def g1 (f : D → R D) (ga : Rho → R D) : Rho → R D := fun ρ => (ga ρ).bind f
def UnD (K : PySem.W.Frag) (f : D → R D) (r : V → Hp → VK → Prop) : Prop :=
  ∀ (W : WX) (σ : L2.St) (F H : Hp) (d : D) (v : V) (Q : VK), Same F H → Is K F v d → after K W σ F H (f d) Q → r v H Q
theorem d_un {op : UnaryOp} {f : D → R D} {r : V → Hp → VK → Prop} (ho : UnR X (unaryOp op) r) (o : UnD X.K f r) (ha : DE X F0 H0 m W a ga) : DE X F0 H0 m W (.UnaryOp op a pos) (g1 f ga) :=
  pe_imp (pe_un ho ha) fun σ H Q ⟨ρ, F, r, h⟩ => sem_bind (k := f) r h fun d v F1 H1 _ i1 r1 h1 => o W σ F1 H1 d v Q r1.fh i1 h1
def negD : D → R D
  | .int i => .ok (.int (-i))
  | _ => .st
theorem o_neg {K : PySem.W.Frag} : UnD K negD (rU fun i => .int (-i)) := by
  intro W σ F H d v Q s i q
  cases i with
  | int k => exact ⟨k, rfl, after.now q s (.int _)⟩
  | _ => exact q.elim

/-! ### arguments, displays, calls of built-ins -/
def aNil : Rho → R (List D) := fun _ => .ok []
def aCons (g : Rho → R D) (t : Rho → R (List D)) : Rho → R (List D) := fun ρ => (g ρ).bind fun d => (t ρ).bind fun ds => .ok (d :: ds)
variable {e : Expr} {es : List Expr} {g : Rho → R D} {t : Rho → R (List D)}
theorem da_nil : DA X F0 H0 m W [] aNil := pa_imp pa_nil fun σ H Q ⟨ρ, F, r, h⟩ => h [] F H (.refl r.fh) .nil
def afterA (K : PySem.W.Frag) (W : WX) (σ : L2.St) (F H : Hp) (r : R (List D)) (Q : List V → Hp → Prop) : Prop := match r with
  | .ok ds => ∀ vs F' H', Ext F H F' H' → IsL K F' vs ds → Q vs H'
  | .ex x => ∀ cls od F' H', Ext F H F' H' → IsX K F' x cls od → W cls od σ H'
  | .st => False
theorem afterA.ext {K : PySem.W.Frag} {σ : L2.St} {F H F' H' : Hp} {Q : List V → Hp → Prop} {r : R (List D)} (h : afterA K W σ F H r Q) (x : Ext F H F' H') : afterA K W σ F' H' r Q := by
  cases r with
  | ok d => exact fun vs F2 H2 y i => h vs F2 H2 (x.trans y) i
  | ex e => exact fun cls od F2 H2 y i => h cls od F2 H2 (x.trans y) i
  | st => exact h
theorem da_cons (ha : DE X F0 H0 m W e g) (hr : DA X F0 H0 m W es t) (hs : starEach (e :: es) X.env = (false, eval e X.env) :: starEach es X.env := by rfl) : DA X F0 H0 m W (e :: es) (aCons g t) := by
  refine pa_imp (pa_cons ha hr hs) fun σ H Q ⟨ρ, F, r, h⟩ => ?_
  refine ⟨ρ, F, r, ?_⟩
  have h' : afterA X.K W σ F H ((g ρ).bind fun d => (t ρ).bind fun ds => .ok (d :: ds)) Q := h
  cases eg : g ρ with
  | ok d =>
    rw [eg] at h'
    intro v F1 H1 x1 i1
    refine ⟨ρ, F1, r.ext x1, ?_⟩
    have h2 : afterA X.K W σ F1 H1 ((t ρ).bind fun ds => .ok (d :: ds)) Q := afterA.ext h' x1
    show afterA X.K W σ F1 H1 (t ρ) _
    cases et : t ρ with
    | ok ds =>
      rw [et] at h2
      exact fun vs F2 H2 x2 i2 => h2 (v :: vs) F2 H2 x2 (.cons (i1.mono x2.ff) i2)
    | ex x =>
      rw [et] at h2
      exact h2
    | st =>
      rw [et] at h2
      exact h2.elim
  | ex x =>
    rw [eg] at h'
    exact h'
  | st =>
    rw [eg] at h'
    exact h'.elim
def gA (f : List D → R D) (t : Rho → R (List D)) : Rho → R D := fun ρ => (t ρ).bind f
def CallD (K : PySem.W.Frag) (f : List D → R D) (r : List V → Hp → VK → Prop) : Prop :=
  ∀ (W : WX) (σ : L2.St) (F H : Hp) (ds : List D) (vs : List V) (Q : VK), Same F H → IsL K F vs ds → after K W σ F H (f ds) Q → r vs H Q
theorem semA {f : List D → R D} {r : List V → Hp → VK → Prop} (o : CallD X.K f r) : ∀ (σ : L2.St) (H : Hp) (Q : VK), tSem X.K F0 H0 m W (gA f t) σ H Q → tSemA X.K F0 H0 m W t σ H fun vs H1 => r vs H1 Q :=
  fun σ H Q ⟨ρ, F, r, h⟩ => semA_bind (k := f) r h fun ds vs F1 H1 _ i1 r1 h1 => o W σ F1 H1 ds vs Q r1.fh i1 h1
theorem d_callB {x : Str} {p : Pos} {id : String} {f : List D → R D} {r : List V → Hp → VK → Prop} (hc : CallR X (.builtin id) r) (o : CallD X.K f r) (hm : X.mg x = none) (ha : DA X F0 H0 m W (e :: es) t) (hg : Gl X x := by rfl) (hv : bootBuiltins x = some (.builtin id) := by decide +kernel) (hn : x ≠ "__name__" := by decide) (hdb : (x == ("__debug__" : Str)) = false := by decide)
    (he : starEach (e :: es) X.env = (false, eval e X.env) :: starEach es X.env := by rfl) (hpl : (backTo pos (starEach es X.env)).any (·.1) = false := by rfl) : DE X F0 H0 m W (.Call (.Name x p) (e :: es) [] pos) (gA f t) :=
  pe_imp (pe_callB hc hg hm hv ha hn hdb he hpl) (semA o)
theorem d_callTy {x : Str} {p : Pos} {T : String} {f : List D → R D} {r : List V → Hp → VK → Prop} (hc : CallR X (.type T) r) (o : CallD X.K f r) (hm : X.mg x = none) (ha : DA X F0 H0 m W (e :: es) t) (hg : Gl X x := by rfl) (hv : bootBuiltins x = some (.type T) := by decide +kernel) (hn : x ≠ "__name__" := by decide) (hdb : (x == ("__debug__" : Str)) = false := by decide)
    (he : starEach (e :: es) X.env = (false, eval e X.env) :: starEach es X.env := by rfl) (hpl : (backTo pos (starEach es X.env)).any (·.1) = false := by rfl) : DE X F0 H0 m W (.Call (.Name x p) (e :: es) [] pos) (gA f t) :=
  pe_imp (pe_callTy hc hg hm hv ha hn hdb he hpl) (semA o)
def lstD : List D → R D := fun ds => if ds.length ≤ sizeLine then .ok (.list ds) else .st
def tupD : List D → R D := fun ds => if ds.length ≤ sizeLine then .ok (.tup ds) else .st
theorem d_list (ha : DA X F0 H0 m W es t) : DE X F0 H0 m W (.List es pos) (gA lstD t) := by
  refine pe_imp (pe_lst ha) fun σ H Q ⟨ρ, F, r, h⟩ => semA_bind (k := lstD) r h fun ds vs F1 H1 _ i1 r1 h1 => ?_
  unfold lstD at h1
  split at h1
  · rename_i hl
    refine ⟨by rw [i1.1]; exact hl, fun p hp => ?_⟩
    have x := Ext.laid (o := .lst vs) r1.fh hp
    exact h1 (.ref p) _ _ x (is_list (.of upd_same) (i1.mono x.ff))
  · exact h1.elim
theorem d_tup {k} (ha : DA X F0 H0 m W es t) : DE X F0 H0 m W (.Tuple es k pos) (gA tupD t) := by
  refine pe_imp (pe_tup ha) fun σ H Q ⟨ρ, F, r, h⟩ => semA_bind (k := tupD) r h fun ds vs F1 H1 _ i1 r1 h1 => ?_
  unfold tupD at h1
  split at h1
  · rename_i hl
    refine ⟨by rw [i1.1]; exact hl, fun p hp => ?_⟩
    have x := Ext.laid (o := .tup vs) r1.fh hp
    exact h1 (.ref p) _ _ x (is_tup (.of upd_same) (i1.mono x.ff))
  · exact h1.elim
end
end Pd

/-! Pd3: operators, built-ins, subscripts, methods, calls -/
namespace Pd
open PySem PySem.Spec PyProof.Rows L2
section
variable {K : PySem.W.Frag}
/-! ### operators of ints -/
def iD (g : Int → Int → D) : D → D → R D
  | .int i, .int j => .ok (g i j)
  | _, _ => .st
def icD (C : Int → Int → Bool) (g : Int → Int → D) : D → D → R D
  | .int i, .int j => if C i j = true then .ok (g i j) else .st
  | _, _ => .st
theorem o_i {g : Int → Int → D} {g' : Int → Int → V} (h : ∀ i j H, Is K H (g' i j) (g i j)) : OpD K (iD g) (rI0 g') := by
  intro W σ F H d e v u Q s i j q
  cases i with
  | int k =>
    cases j with
    | int l => exact ⟨k, l, rfl, rfl, after.now q s (h k l F)⟩
    | _ => exact q.elim
  | _ => exact q.elim
theorem o_ic {C : Int → Int → Prop} {C' : Int → Int → Bool} {g : Int → Int → D} {g' : Int → Int → V} (hC : ∀ i j, C' i j = true → C i j) (h : ∀ i j H, Is K H (g' i j) (g i j)) : OpD K (icD C' g) (rI C g') := by
  intro W σ F H d e v u Q s i j q
  cases i with
  | int k =>
    cases j with
    | int l =>
      have q' : after K W σ F H (if C' k l = true then .ok (g k l) else .st) Q := q
      by_cases hc : C' k l = true
      · rw [if_pos hc] at q'
        exact ⟨k, l, rfl, rfl, hC k l hc, after.now q' s (h k l F)⟩
      · rw [if_neg hc] at q'
        exact q'.elim
    | _ => exact q.elim
  | _ => exact q.elim
def subD : D → D → R D := iD fun i j => .int (i - j)
theorem o_sub : OpD K subD (rI0 fun i j => .int (i - j)) := o_i fun _ _ _ => .int _
def small64b (i : Int) : Bool := decide (-(2 ^ 64) < i) && decide (i < 2 ^ 64)
def mulD : D → D → R D := icD (fun i j => small64b i || small64b j) fun i j => .int (i * j)
theorem o_mul : OpD K mulD (rI CMul fun i j => .int (i * j)) := o_ic (fun i j h => by
  simp only [small64b, Bool.or_eq_true, Bool.and_eq_true, decide_eq_true_eq] at h
  exact h) fun _ _ _ => .int _
def fdivD : D → D → R D := icD (fun _ j => decide (0 < j) && decide (j < 1073741824)) fun i j => .int (i / j)
theorem o_fdiv : OpD K fdivD (rI CDiv fun i j => .int (i / j)) := o_ic (fun i j h => by
  simp only [Bool.and_eq_true, decide_eq_true_eq] at h
  exact h) fun _ _ _ => .int _
def modD : D → D → R D := icD (fun _ j => decide (0 < j)) fun i j => .int (i % j)
theorem o_mod : OpD K modD (rI (fun _ j => 0 < j) fun i j => .int (i % j)) := o_ic (fun i j h => of_decide_eq_true h) fun _ _ _ => .int _
def powOk (i j : Int) : Bool := decide (0 ≤ j) && (decide (j ≤ 1000000) && decide (i.natAbs < 2 ^ 64))
theorem powOk_ok {i j : Int} (h : powOk i j = true) : CPow i j := by
  simp only [powOk, Bool.and_eq_true, decide_eq_true_eq] at h
  exact h
def powD : D → D → R D := icD powOk fun i j => .int (i ^ j.toNat)
theorem o_pow : OpD K powD (rI CPow fun i j => .int (i ^ j.toNat)) := o_ic (fun _ _ h => powOk_ok h) fun _ _ _ => .int _
def shlD : D → D → R D := icD powOk fun i j => .int (i * 2 ^ j.toNat)
theorem o_shl : OpD K shlD (rI CPow fun i j => .int (i * 2 ^ j.toNat)) := o_ic (fun _ _ h => powOk_ok h) fun _ _ _ => .int _
def shrD : D → D → R D := icD (fun _ j => decide (0 ≤ j)) fun i j => .int (i / 2 ^ j.toNat)
theorem o_shr : OpD K shrD (rI (fun _ j => 0 ≤ j) fun i j => .int (i / 2 ^ j.toNat)) := o_ic (fun i j h => of_decide_eq_true h) fun _ _ _ => .int _
def andD : D → D → R D := iD fun i j => .int (Builtin.bitAnd i j)
theorem o_and : OpD K andD (rI0 fun i j => .int (Builtin.bitAnd i j)) := o_i fun _ _ _ => .int _
def orD : D → D → R D := iD fun i j => .int (Builtin.bitOr i j)
theorem o_or : OpD K orD (rI0 fun i j => .int (Builtin.bitOr i j)) := o_i fun _ _ _ => .int _
def xorD : D → D → R D := iD fun i j => .int (Builtin.bitXor i j)
theorem o_xor : OpD K xorD (rI0 fun i j => .int (Builtin.bitXor i j)) := o_i fun _ _ _ => .int _

/-! ### + -/
def rCatL (K : PySem.W.Frag) : R2 := fun x y H Q => ∃ l b xs zs, x = .ref l ∧ y = .ref b ∧ SqL K H l xs ∧ SqL K H b zs ∧ xs.length + zs.length ≤ sizeLine ∧ ∀ p, H p = none → Q (.ref p) (upd H p (.lst (xs ++ zs)))
theorem op_catL {X : Cx} : OpR X (binaryOp .Add) (rCatL X.K) := by
  intro pins s σ H x y v u Q I rx ry h
  obtain ⟨l, b, xs, zs, rfl, rfl, hH, hB, hz, q⟩ := h
  cases rx
  cases ry
  obtain ⟨its, r, pl, z⟩ := I.list hH
  obtain ⟨its2, r2, pl2, z2⟩ := I.list hB
  obtain ⟨⟨cls, dd, data, sl⟩, n, ho, hc, h0, hd⟩ := id pl
  obtain ⟨⟨cls2, dd2, data2, sl2⟩, n2, ho2, hc2, h02, hd2⟩ := id pl2
  simp only at hc hd hc2 hd2
  subst hc hd hc2 hd2
  have ea : its.toArray ++ its2.toArray = (its ++ its2).toArray := by simp
  refine concat_meets ⟨_, ho, rfl⟩ ⟨_, ho2, rfl⟩ noFill_list_add seq_list_add PySem.F.slot_list_add PySem.F.entry_list_add (PySem.F.args_list_add_2 _ _) (list_addW l b its.toArray its2.toArray n n2 dd dd2 sl sl2 (by rw [List.size_toArray, List.size_toArray, ← r.length, ← r2.length]; exact hz)) ⟨ho, ho2, ?_⟩
  rw [ea]
  exact ⟨.ref _, _, I.lnew (t' := s.toks) (r.append r2) (by rw [List.length_append]; omega), rfl, q _ I.fresh⟩
def addD : D → D → R D
  | .int i, .int j => .ok (.int (i + j))
  | .str a, .str b => if a.length + b.length ≤ sizeLine then .ok (.str (a ++ b)) else .st
  | .list a, .list b => if a.length + b.length ≤ sizeLine then .ok (.list (a ++ b)) else .st
  | .tup a, .tup b => if a.length + b.length ≤ sizeLine then .ok (.tup (a ++ b)) else .st
  | _, _ => .st
def rAddD (K : PySem.W.Frag) : R2 := fun x y H Q => rI0 (fun i j => .int (i + j)) x y H Q ∨ ((∃ i j, x = .str i ∧ y = .str j ∧ i.length + j.length ≤ sizeLine ∧ Q (.str (i ++ j)) H) ∨ (rCatL K x y H Q ∨ rCatA K x y H Q))
theorem op_addD {X : Cx} : OpR X (binaryOp .Add) (rAddD X.K) := op_add.or (op_add_str.or (op_catL.or op_catA))
theorem o_add : OpD K addD (rAddD K) := by
  intro W σ F H d e v u Q s i j q
  cases i with
  | int k =>
    cases j with
    | int l => exact .inl ⟨k, l, rfl, rfl, after.now q s (.int _)⟩
    | _ => exact q.elim
  | str x =>
    cases j with
    | str y =>
      have q' : after K W σ F H (if x.length + y.length ≤ sizeLine then .ok (.str (x ++ y)) else .st) Q := q
      by_cases hc : x.length + y.length ≤ sizeLine
      · rw [if_pos hc] at q'
        exact .inr (.inl ⟨x, y, rfl, rfl, hc, after.now q' s (.str _)⟩)
      · rw [if_neg hc] at q'
        exact q'.elim
    | _ => exact q.elim
  | @list a xs ds h l e =>
    cases j with
    | @list b ys es h' l' e' =>
      have q' : after K W σ F H (if ds.length + es.length ≤ sizeLine then .ok (.list (ds ++ es)) else .st) Q := q
      by_cases hc : ds.length + es.length ≤ sizeLine
      · rw [if_pos hc] at q'
        refine .inr (.inr (.inl ⟨a, b, xs, ys, rfl, rfl, s.seq h, s.seq h', by omega, fun p hp => ?_⟩))
        have x := Ext.laid (o := .lst (xs ++ ys)) s hp
        exact q' _ _ _ x (is_list (.of upd_same) ((IsL.append ⟨l, e⟩ ⟨l', e'⟩).mono x.ff))
      · rw [if_neg hc] at q'
        exact q'.elim
    | _ => exact q.elim
  | @tup a xs ds h l e =>
    cases j with
    | @tup b ys es h' l' e' =>
      have q' : after K W σ F H (if ds.length + es.length ≤ sizeLine then .ok (.tup (ds ++ es)) else .st) Q := q
      by_cases hc : ds.length + es.length ≤ sizeLine
      · rw [if_pos hc] at q'
        have ap := IsL.append (K := K) (H := F) ⟨l, e⟩ ⟨l', e'⟩
        refine .inr (.inr (.inr ⟨a, b, xs, ys, rfl, rfl, sameT s h, sameT s h', by omega, fun hx => ?_, fun hx hy => ?_, fun hx hy p hp => ?_⟩))
        · subst hx
          refine after.now q' s (is_tup h' ?_)
          have hd : ds = [] := by
            cases ds with
            | nil => rfl
            | cons _ _ => simp at l
          subst hd
          exact ⟨l', e'⟩
        · subst hy
          refine after.now q' s (is_tup h ?_)
          have hd : es = [] := by
            cases es with
            | nil => rfl
            | cons _ _ => simp at l'
          subst hd
          rw [List.append_nil]
          exact ⟨l, e⟩
        · have x := Ext.laid (o := .tup (xs ++ ys)) s hp
          exact q' _ _ _ x (is_tup (.of upd_same) (ap.mono x.ff))
      · rw [if_neg hc] at q'
        exact q'.elim
    | _ => exact q.elim
  | _ => exact q.elim

/-! ### comparisons -/
mutual
def D.py : D → PyData
  | .non => .none
  | .bl b => .bool b
  | .int i => .int i
  | .str s => .str s
  | .list xs => .list (D.pyAll xs)
  | .tup xs => .tuple (D.pyAll xs)
  | .dict _ => .dict []
  | .dictT _ => .dict []
  | .obj _ _ => .dict []
def D.pyAll : List D → List PyData
  | [] => []
  | d :: ds => D.py d :: D.pyAll ds
end
mutual
/-- no dicts, no objects in it -/
def D.flat : D → Bool
  | .non => true
  | .bl _ => true
  | .int _ => true
  | .str _ => true
  | .list xs => D.flatAll xs
  | .tup xs => D.flatAll xs
  | .dict _ => false
  | .dictT _ => false
  | .obj _ _ => false
def D.flatAll : List D → Bool
  | [] => true
  | d :: ds => D.flat d && D.flatAll ds
end
mutual
theorem dp_of {F : Hp} : ∀ (d : D) (v : V), D.flat d = true → Is K F v d → Dp K F v (D.py d)
  | .non, _, _, i => by cases i; exact .non
  | .bl b, _, _, i => by cases i; exact .bl b
  | .int k, _, _, i => by cases i; exact .int k
  | .str s, _, _, i => by cases i; exact .str s
  | .list ds, _, f, i => by
    obtain ⟨a, xs, rfl, h, l⟩ := i.list_inv
    exact .lst h (dp_ofAll ds xs f l)
  | .tup ds, _, f, i => by
    obtain ⟨a, xs, rfl, h, l⟩ := i.tup_inv
    exact .tup h (dp_ofAll ds xs f l)
  | .dict _, _, f, _ => by cases f
  | .dictT _, _, f, _ => by cases f
  | .obj _ _, _, f, _ => by cases f
theorem dp_ofAll {F : Hp} : ∀ (ds : List D) (vs : List V), D.flatAll ds = true → IsL K F vs ds → DpAll K F vs (D.pyAll ds)
  | [], vs, _, l => by rw [l.unnil]; exact .nil
  | d :: ds, vs, f, l => by
    obtain ⟨x, xr, rfl, h, t⟩ := l.uncons
    have f' : (D.flat d && D.flatAll ds) = true := f
    rw [Bool.and_eq_true] at f'
    exact .cons (dp_of d x f'.1 h) (dp_ofAll ds xr f'.2 t)
end
end
end Pd

/-! Pd4: comparisons, built-ins, subscripts, slices, methods, calls -/
namespace Pd
open PySem PySem.Spec PyProof.Rows L2
section
variable {K : PySem.W.Frag}
/-! ### == -/
def eqvD (d e : D) : Bool := PyData.eqv d.py e.py
def D.sh (d : D) : Bool := D.flat d && SeqAt.shaped d.py
/-- scalars of which == is told at once -/
def scD : D → D → Bool
  | .non, .non => true | .non, .int _ => true | .int _, .non => true | .non, .bl _ => true | .bl _, .non => true | .non, .str _ => true | .str _, .non => true
  | .int _, .int _ => true | .bl _, .bl _ => true | .str _, .str _ => true
  | .int _, .str _ => true | .str _, .int _ => true | .bl _, .str _ => true | .str _, .bl _ => true
  | _, _ => false
def eqD (d e : D) : R D := if scD d e = true then .ok (.bl (eqvD d e)) else if (D.sh d && D.sh e) = true then .ok (.bl (eqvD d e)) else .st
def neD (d e : D) : R D := if scD d e = true then .ok (.bl (!eqvD d e)) else if (D.sh d && D.sh e) = true then .ok (.bl (!eqvD d e)) else .st
theorem sc_eq {F : Hp} {v u : V} {d e : D} (i : Is K F v d) (j : Is K F u e) (h : scD d e = true) : scal v u = true ∧ decide (v = u) = eqvD d e := by
  cases i <;> cases j <;> first
    | exact ⟨rfl, rfl⟩
    | exact ⟨rfl, dec_int⟩
    | exact ⟨rfl, dec_bl⟩
    | exact ⟨rfl, dec_str⟩
    | exact absurd h (by intro z; cases z)
def rEq2 (K : PySem.W.Frag) : R2 := fun x y H Q => rEq x y H Q ∨ rEqD K x y H Q
def rNe2 (K : PySem.W.Frag) : R2 := fun x y H Q => rNe x y H Q ∨ rNeD K x y H Q
theorem op_eq2 {X : Cx} (hu : X.A.units + 64 < cLine) : OpR X (compareOp .Eq) (rEq2 X.K) := op_eq.or (op_eqD hu)
theorem op_ne2 {X : Cx} (hu : X.A.units + 64 < cLine) : OpR X (compareOp .NotEq) (rNe2 X.K) := op_ne.or (op_neD hu)
theorem dp_mono {F H : Hp} {v : V} {d : D} (s : Same F H) (i : Is K F v d) (h : D.sh d = true) : Dp K H v d.py ∧ SeqAt.shaped d.py = true := by
  have h' : (D.flat d && SeqAt.shaped d.py) = true := h
  rw [Bool.and_eq_true] at h'
  exact ⟨dp_of d v h'.1 (i.mono s), h'.2⟩
theorem o_eq : OpD K eqD (rEq2 K) := by
  intro W σ F H d e v u Q s i j q
  unfold eqD at q
  by_cases h1 : scD d e = true
  · rw [if_pos h1] at q
    obtain ⟨a, b⟩ := sc_eq i j h1
    exact .inl ⟨a, by rw [b]; exact after.now q s (.bl _)⟩
  · rw [if_neg h1] at q
    by_cases h2 : (D.sh d && D.sh e) = true
    · rw [if_pos h2] at q
      rw [Bool.and_eq_true] at h2
      obtain ⟨a1, a2⟩ := dp_mono s i h2.1
      obtain ⟨b1, b2⟩ := dp_mono s j h2.2
      exact .inr ⟨_, _, a1, b1, a2, b2, after.now q s (.bl _)⟩
    · rw [if_neg h2] at q
      exact q.elim
theorem o_ne : OpD K neD (rNe2 K) := by
  intro W σ F H d e v u Q s i j q
  unfold neD at q
  by_cases h1 : scD d e = true
  · rw [if_pos h1] at q
    obtain ⟨a, b⟩ := sc_eq i j h1
    exact .inl ⟨a, by rw [b]; exact after.now q s (.bl _)⟩
  · rw [if_neg h1] at q
    by_cases h2 : (D.sh d && D.sh e) = true
    · rw [if_pos h2] at q
      rw [Bool.and_eq_true] at h2
      obtain ⟨a1, a2⟩ := dp_mono s i h2.1
      obtain ⟨b1, b2⟩ := dp_mono s j h2.2
      exact .inr ⟨_, _, a1, b1, a2, b2, after.now q s (.bl _)⟩
    · rw [if_neg h2] at q
      exact q.elim
/-! ### order -/
def ltS (a b : Str) : Bool := decide (a.cps.toList < b.cps.toList)
def ltD : D → D → R D
  | .int i, .int j => .ok (.bl (decide (i < j)))
  | .str a, .str b => .ok (.bl (ltS a b))
  | _, _ => .st
def gtD : D → D → R D
  | .int i, .int j => .ok (.bl (decide (j < i)))
  | .str a, .str b => .ok (.bl (ltS b a))
  | _, _ => .st
def leD : D → D → R D := iD fun i j => .bl (decide (i ≤ j))
def geD : D → D → R D := iD fun i j => .bl (decide (j ≤ i))
def rLt2 : R2 := fun x y H Q => rI0 (fun i j => .bl (decide (i < j))) x y H Q ∨ ∃ i j, x = .str i ∧ y = .str j ∧ Q (.bl (decide (i.cps.toList < j.cps.toList))) H
def rGt2 : R2 := fun x y H Q => rI0 (fun i j => .bl (decide (j < i))) x y H Q ∨ ∃ i j, x = .str i ∧ y = .str j ∧ Q (.bl (decide (j.cps.toList < i.cps.toList))) H
theorem op_lt2 {X : Cx} : OpR X (compareOp .Lt) rLt2 := op_lt.or op_lt_str
theorem op_gt2 {X : Cx} : OpR X (compareOp .Gt) rGt2 := op_gt.or op_gt_str
theorem o_lt : OpD K ltD rLt2 := by
  intro W σ F H d e v u Q s i j q
  cases i <;> cases j <;> first
    | exact .inl ⟨_, _, rfl, rfl, after.now q s (.bl _)⟩
    | exact .inr ⟨_, _, rfl, rfl, after.now q s (.bl _)⟩
    | exact q.elim
theorem o_gt : OpD K gtD rGt2 := by
  intro W σ F H d e v u Q s i j q
  cases i <;> cases j <;> first
    | exact .inl ⟨_, _, rfl, rfl, after.now q s (.bl _)⟩
    | exact .inr ⟨_, _, rfl, rfl, after.now q s (.bl _)⟩
    | exact q.elim
theorem o_le : OpD K leD (rI0 fun i j => .bl (decide (i ≤ j))) := o_i fun _ _ _ => .bl _
theorem o_ge : OpD K geD (rI0 fun i j => .bl (decide (j ≤ i))) := o_i fun _ _ _ => .bl _
theorem nx_lt (d e : D) : ∃ k, ltD d e = .ok (.bl k) ∨ ltD d e = .st := by
  cases d <;> cases e <;> first | exact ⟨_, .inl rfl⟩ | exact ⟨true, .inr rfl⟩
theorem nx_le (d e : D) : ∃ k, leD d e = .ok (.bl k) ∨ leD d e = .st := by
  cases d <;> cases e <;> first | exact ⟨_, .inl rfl⟩ | exact ⟨true, .inr rfl⟩
theorem nx_gt (d e : D) : ∃ k, gtD d e = .ok (.bl k) ∨ gtD d e = .st := by
  cases d <;> cases e <;> first | exact ⟨_, .inl rfl⟩ | exact ⟨true, .inr rfl⟩
theorem nx_ge (d e : D) : ∃ k, geD d e = .ok (.bl k) ∨ geD d e = .st := by
  cases d <;> cases e <;> first | exact ⟨_, .inl rfl⟩ | exact ⟨true, .inr rfl⟩
/-! ### is None -/
def isND : D → D → R D
  | .non, .non => .ok (.bl true)
  | _, .non => .ok (.bl false)
  | _, _ => .st
def notND : D → D → R D
  | .non, .non => .ok (.bl false)
  | _, .non => .ok (.bl true)
  | _, _ => .st
theorem o_isN : OpD K isND (fun x y H Q => y = .non ∧ Q (.bl (decide (x = .non))) H) := by
  intro W σ F H d e v u Q s i j q
  cases j <;> cases i <;> first
    | exact ⟨rfl, after.now q s (.bl _)⟩
    | exact q.elim
theorem o_notN : OpD K notND (fun x y H Q => y = .non ∧ Q (.bl (!decide (x = .non))) H) := by
  intro W σ F H d e v u Q s i j q
  cases j <;> cases i <;> first
    | exact ⟨rfl, after.now q s (.bl _)⟩
    | exact q.elim
/-! ### in -/
def hasSub (j i : Str) : Bool := !(Builtin.Str.occurrences j i 0 j.length 1).isEmpty
theorem hasSub_one (j : Str) (c : Nat) : hasSub j ⟨#[c]⟩ = decide (c ∈ j.cps.toList) := PySem.StrLaws.found_one j c
def flD : D → Bool
  | .non => true
  | .bl _ => true
  | .int _ => true
  | .str _ => true
  | _ => false
def inD : D → D → R Bool
  | .str a, .str b => .ok (hasSub b a)
  | d, .list ds => if (flD d && ds.all flD) = true then .ok (ds.any fun z => eqvD z d) else if (D.sh d && D.sh (.list ds)) = true then .ok (ds.any fun z => eqvD z d) else .st
  | d, .tup ds => if (flD d && ds.all flD) = true then .ok (ds.any fun z => eqvD z d) else .st
  | _, _ => .st
def inDD (d e : D) : R D := (inD d e).bind fun b => .ok (.bl b)
def notInDD (d e : D) : R D := (inD d e).bind fun b => .ok (.bl (!b))
theorem fl_of {F : Hp} {v : V} {d : D} (i : Is K F v d) (h : flD d = true) : flatV v = true := by
  cases i <;> first | rfl | exact absurd h (by intro z; cases z)
theorem fl_all {F : Hp} {xs : List V} {ds : List D} (i : IsL K F xs ds) (h : ds.all flD = true) : xs.all flatV = true := by
  rw [List.all_eq_true] at h ⊢
  intro x hx
  obtain ⟨k, hk⟩ := List.getElem?_of_mem hx
  obtain ⟨d, e, z⟩ := i.atV hk
  exact fl_of z (h d (List.mem_of_getElem? e))
theorem eqV_of {F : Hp} {v u : V} {d e : D} (i : Is K F v d) (j : Is K F u e) (h : flD d = true) (h' : flD e = true) : eqV v u = eqvD d e := by
  cases i <;> cases j <;> first
    | rfl
    | exact absurd h (by intro z; cases z)
    | exact absurd h' (by intro z; cases z)
theorem inV_of {F : Hp} {v : V} {d : D} (i : Is K F v d) (hd : flD d = true) : ∀ {xs : List V} {ds : List D}, IsL K F xs ds → ds.all flD = true → inV v xs = ds.any fun z => eqvD z d
  | xs, [], l, _ => by rw [l.unnil]; rfl
  | xs, e :: ds, l, f => by
    obtain ⟨x, xr, rfl, h, t⟩ := l.uncons
    rw [List.all_cons, Bool.and_eq_true] at f
    have ih := inV_of i hd t f.2
    show (eqV x v || inV v xr) = (eqvD e d || ds.any fun z => eqvD z d)
    rw [ih, eqV_of h i f.1 hd]
theorem any_py : ∀ (ds : List D) (d : D), ((D.pyAll ds).any fun z => PyData.eqv z d.py) = ds.any fun z => eqvD z d
  | [], _ => rfl
  | e :: ds, d => by
    show (PyData.eqv e.py d.py || _) = (eqvD e d || _)
    rw [any_py ds d]
    rfl
def rIn2 (K : PySem.W.Frag) : R2 := fun x y H Q => (∃ i j, x = .str i ∧ y = .str j ∧ Q (.bl (!(Builtin.Str.occurrences j i 0 j.length 1).isEmpty)) H) ∨ (rIn K false x y H Q ∨ rInD K x y H Q)
def rNotIn2 (K : PySem.W.Frag) : R2 := fun x y H Q => (∃ i j, x = .str i ∧ y = .str j ∧ Q (.bl (!(!(Builtin.Str.occurrences j i 0 j.length 1).isEmpty))) H) ∨ (rIn K true x y H Q ∨ rNotInD K x y H Q)
theorem op_in2 {X : Cx} (hu : X.A.units + 65 < cLine) : OpR X (compareOp .In) (rIn2 X.K) := op_in_str.or (op_in_seq.or (op_inD hu))
theorem op_notIn2 {X : Cx} (hu : X.A.units + 65 < cLine) : OpR X (compareOp .NotIn) (rNotIn2 X.K) := op_notIn_str.or (op_notIn_seq.or (op_notInD hu))
theorem in_cases {F H : Hp} {v u : V} {d e : D} {b : Bool} (s : Same F H) (i : Is K F v d) (j : Is K F u e) (h : inD d e = .ok b) :
    (∃ x y, v = .str x ∧ u = .str y ∧ (!(Builtin.Str.occurrences y x 0 y.length 1).isEmpty) = b) ∨ (∃ p xs, u = .ref p ∧ (SqL K H p xs ∨ SqT K H p xs) ∧ flatV v = true ∧ xs.all flatV = true ∧ inV v xs = b) ∨
      ∃ a c, Dp K H v a ∧ Dp K H u (.list c) ∧ SeqAt.shaped a = true ∧ SeqAt.shaped (.list c) = true ∧ (c.any fun z => PyData.eqv z a) = b := by
  cases e with
  | str y =>
    cases d with
    | str x =>
      cases i
      cases j
      injection h with h
      exact .inl ⟨x, y, rfl, rfl, h⟩
    | _ => cases h
  | list ds =>
    obtain ⟨p, xs, rfl, hp, l⟩ := j.list_inv
    have h' : (if (flD d && ds.all flD) = true then R.ok (ds.any fun z => eqvD z d) else if (D.sh d && D.sh (.list ds)) = true then .ok (ds.any fun z => eqvD z d) else .st) = .ok b := by
      rw [← h]
      cases d <;> rfl
    by_cases h1 : (flD d && ds.all flD) = true
    · rw [if_pos h1] at h'
      rw [Bool.and_eq_true] at h1
      injection h' with h'
      exact .inr (.inl ⟨p, xs, rfl, .inl (s.seq hp), fl_of i h1.1, fl_all l h1.2, (inV_of i h1.1 l h1.2).trans h'⟩)
    · rw [if_neg h1] at h'
      by_cases h2 : (D.sh d && D.sh (.list ds)) = true
      · rw [if_pos h2] at h'
        rw [Bool.and_eq_true] at h2
        injection h' with h'
        obtain ⟨a1, a2⟩ := dp_mono s i h2.1
        obtain ⟨b1, b2⟩ := dp_mono s (is_list hp l) h2.2
        exact .inr (.inr ⟨d.py, D.pyAll ds, a1, b1, a2, b2, (any_py ds d).trans h'⟩)
      · rw [if_neg h2] at h'
        cases h'
  | tup ds =>
    obtain ⟨p, xs, rfl, hp, l⟩ := j.tup_inv
    have h' : (if (flD d && ds.all flD) = true then R.ok (ds.any fun z => eqvD z d) else .st) = .ok b := by
      rw [← h]
      cases d <;> rfl
    by_cases h1 : (flD d && ds.all flD) = true
    · rw [if_pos h1] at h'
      rw [Bool.and_eq_true] at h1
      injection h' with h'
      exact .inr (.inl ⟨p, xs, rfl, .inr (sameT s hp), fl_of i h1.1, fl_all l h1.2, (inV_of i h1.1 l h1.2).trans h'⟩)
    · rw [if_neg h1] at h'
      cases h'
  | _ => cases d <;> cases h
theorem inD_nx (d e : D) : (∃ b, inD d e = .ok b) ∨ inD d e = .st := by
  cases h : inD d e with
  | ok b => exact .inl ⟨b, rfl⟩
  | st => exact .inr rfl
  | ex x =>
    exfalso
    unfold inD at h
    repeat' (first | split at h | cases h)
theorem o_in : OpD K inDD (rIn2 K) := by
  intro W σ F H d e v u Q s i j q
  unfold inDD at q
  rcases inD_nx d e with ⟨b, z⟩ | z
  · rw [z] at q
    have q' := after.now q s (.bl b)
    rcases in_cases s i j z with ⟨x, y, rfl, rfl, h⟩ | ⟨p, xs, rfl, h1, h2, h3, h4⟩ | ⟨a, c, h1, h2, h3, h4, h5⟩
    · exact .inl ⟨x, y, rfl, rfl, by rw [h]; exact q'⟩
    · exact .inr (.inl ⟨p, xs, rfl, h1, h2, h3, by rw [h4]; exact q'⟩)
    · exact .inr (.inr ⟨a, c, h1, h2, h3, h4, by rw [h5]; exact q'⟩)
  · rw [z] at q
    exact q.elim
theorem o_notIn : OpD K notInDD (rNotIn2 K) := by
  intro W σ F H d e v u Q s i j q
  unfold notInDD at q
  rcases inD_nx d e with ⟨b, z⟩ | z
  · rw [z] at q
    have q' := after.now q s (.bl (!b))
    rcases in_cases s i j z with ⟨x, y, rfl, rfl, h⟩ | ⟨p, xs, rfl, h1, h2, h3, h4⟩ | ⟨a, c, h1, h2, h3, h4, h5⟩
    · exact .inl ⟨x, y, rfl, rfl, by rw [h]; exact q'⟩
    · exact .inr (.inl ⟨p, xs, rfl, h1, h2, h3, by rw [h4]; exact q'⟩)
    · exact .inr (.inr ⟨a, c, h1, h2, h3, h4, by rw [h5]; exact q'⟩)
  · rw [z] at q
    exact q.elim

/-! ### built-ins -/
def lenD : List D → R D
  | [.str s] => if s.length ≤ sizeLine then .ok (.int s.length) else .st
  | [.list ds] => .ok (.int ds.length)
  | [.tup ds] => .ok (.int ds.length)
  | _ => .st
theorem one_of {F : Hp} {vs : List V} {d : D} (l : IsL K F vs [d]) : ∃ v, vs = [v] ∧ Is K F v d := by
  obtain ⟨v, vr, rfl, h, t⟩ := l.uncons
  rw [t.unnil]
  exact ⟨v, rfl, h⟩
theorem two_of {F : Hp} {vs : List V} {d e : D} (l : IsL K F vs [d, e]) : ∃ v u, vs = [v, u] ∧ Is K F v d ∧ Is K F u e := by
  obtain ⟨v, vr, rfl, h, t⟩ := l.uncons
  obtain ⟨u, rfl, h'⟩ := one_of t
  exact ⟨v, u, rfl, h, h'⟩
theorem c_len : CallD K lenD (fun xs H Q => ∃ x n, xs = [x] ∧ LenV K x H n ∧ Q (.int n) H) := by
  intro W σ F H ds vs Q s l q
  match ds, l, q with
  | [.str z], l, q =>
    obtain ⟨v, rfl, i⟩ := one_of l
    cases i
    have q' : after K W σ F H (if z.length ≤ sizeLine then .ok (.int z.length) else .st) Q := q
    by_cases h : z.length ≤ sizeLine
    · rw [if_pos h] at q'
      exact ⟨_, _, rfl, ⟨h, rfl⟩, after.now q' s (.int _)⟩
    · rw [if_neg h] at q'
      exact q'.elim
  | [.list es], l, q =>
    obtain ⟨v, rfl, i⟩ := one_of l
    obtain ⟨a, xs, rfl, h, t⟩ := i.list_inv
    exact ⟨_, _, rfl, .inl ⟨xs, s.seq h, t.1.symm⟩, after.now q s (.int _)⟩
  | [.tup es], l, q =>
    obtain ⟨v, rfl, i⟩ := one_of l
    obtain ⟨a, xs, rfl, h, t⟩ := i.tup_inv
    exact ⟨_, _, rfl, .inr ⟨xs, sameT s h, t.1.symm⟩, after.now q s (.int _)⟩
def ordD : List D → R D
  | [.str s] => if s.length = 1 then .ok (.int (s.cps.getD 0 0 : Nat)) else .st
  | _ => .st
theorem c_ord : CallD K ordD (fun xs H Q => ∃ x, xs = [.str x] ∧ x.length = 1 ∧ Q (.int (x.cps.getD 0 0 : Nat)) H) := by
  intro W σ F H ds vs Q s l q
  match ds, l, q with
  | [.str z], l, q =>
    obtain ⟨v, rfl, i⟩ := one_of l
    cases i
    have q' : after K W σ F H (if z.length = 1 then .ok (.int (z.cps.getD 0 0 : Nat)) else .st) Q := q
    by_cases h : z.length = 1
    · rw [if_pos h] at q'
      exact ⟨_, rfl, h, after.now q' s (.int _)⟩
    · rw [if_neg h] at q'
      exact q'.elim
def intD : List D → R D
  | [.int i] => .ok (.int i)
  | [.bl b] => .ok (.int (if b then 1 else 0))
  | _ => .st
theorem c_int : CallD K intD (fun xs H Q => (∃ i, xs = [.int i] ∧ Q (.int i) H) ∨ ∃ k, xs = [.bl k] ∧ Q (.int (if k then 1 else 0)) H) := by
  intro W σ F H ds vs Q s l q
  match ds, l, q with
  | [.int z], l, q =>
    obtain ⟨v, rfl, i⟩ := one_of l
    cases i
    exact .inl ⟨_, rfl, after.now q s (.int _)⟩
  | [.bl z], l, q =>
    obtain ⟨v, rfl, i⟩ := one_of l
    cases i
    exact .inr ⟨_, rfl, after.now q s (.int _)⟩
def strD : List D → R D
  | [.int i] => if i.natAbs.log2 < 1920 then .ok (.str (toString i)) else .st
  | _ => .st
theorem c_str : CallD K strD (fun xs H Q => ∃ i, xs = [.int i] ∧ i.natAbs.log2 < 1920 ∧ Q (.str (toString i)) H) := by
  intro W σ F H ds vs Q s l q
  match ds, l, q with
  | [.int z], l, q =>
    obtain ⟨v, rfl, i⟩ := one_of l
    cases i
    have q' : after K W σ F H (if z.natAbs.log2 < 1920 then .ok (.str (toString z)) else .st) Q := q
    by_cases h : z.natAbs.log2 < 1920
    · rw [if_pos h] at q'
      exact ⟨_, rfl, h, after.now q' s (.str _)⟩
    · rw [if_neg h] at q'
      exact q'.elim
/-- isinstance(x, T), T a built-in type -/
def tyD : D → String
  | .non => "NoneType"
  | .bl _ => "bool"
  | .int _ => "int"
  | .str _ => "str"
  | .list _ => "list"
  | .tup _ => "tuple"
  | .dict _ => "dict"
  | .dictT _ => "dict"
  | .obj _ _ => ""
def subTy : String → String → Option Bool
  | "bool", "int" => some true
  | "NoneType", "int" => some false | "int", "int" => some true | "str", "int" => some false | "list", "int" => some false | "tuple", "int" => some false | "dict", "int" => some false
  | "NoneType", "bool" => some false | "bool", "bool" => some true | "int", "bool" => some false | "str", "bool" => some false | "list", "bool" => some false | "tuple", "bool" => some false | "dict", "bool" => some false
  | "NoneType", "str" => some false | "bool", "str" => some false | "int", "str" => some false | "str", "str" => some true | "list", "str" => some false | "tuple", "str" => some false | "dict", "str" => some false
  | "NoneType", "list" => some false | "bool", "list" => some false | "int", "list" => some false | "str", "list" => some false | "list", "list" => some true | "tuple", "list" => some false | "dict", "list" => some false
  | "NoneType", "tuple" => some false | "bool", "tuple" => some false | "int", "tuple" => some false | "str", "tuple" => some false | "list", "tuple" => some false | "tuple", "tuple" => some true | "dict", "tuple" => some false
  | "NoneType", "dict" => some false | "bool", "dict" => some false | "int", "dict" => some false | "str", "dict" => some false | "list", "dict" => some false | "tuple", "dict" => some false | "dict", "dict" => some true
  | _, _ => none
theorem subTy_kit {a b : String} {r : Bool} (h : subTy a b = some r) : kitB a b = some r := by
  unfold subTy at h
  split at h <;> first
    | (injection h with h; subst h; decide +kernel)
    | cases h
theorem tyx_of {F H : Hp} {v : V} {d : D} (s : Same F H) (i : Is K F v d) (h : ∀ c fs, d ≠ .obj c fs) : TyX K H v (.type (tyD d)) := by
  cases i with
  | non => exact .base .non
  | bl b => exact .base (.bl b)
  | int b => exact .base (.int b)
  | str b => exact .base (.str b)
  | list hl _ _ =>
    rcases hl with (hl | ⟨o, hl⟩) | ⟨o, its, n, hk, hc, _⟩
    · exact .base (.lst (s _ _ hl))
    · exact .base (.frz (s _ _ hl))
    · exact .kList hk hc
  | tup hl _ _ =>
    rcases hl with (hl | ⟨o, hl⟩) | ⟨o, its, n, hk, hc, _⟩
    · exact .base (.tup (s _ _ hl))
    · exact .fTuple (s _ _ hl)
    · exact .kTuple hk hc
  | dict hl _ _ _ =>
    rcases hl with hl | ⟨o, hl⟩
    · exact .base (.dK (s _ _ hl))
    · exact .fDict (s _ _ hl)
  | dictT hl _ _ _ => exact .base (.dT (s _ _ hl))
  | obj _ _ _ _ => exact absurd rfl (h _ _)
def isiD (n : String) (d : D) : R D := match subTy (tyD d) n with
  | some b => .ok (.bl b)
  | none => .st
end
section
variable {X : Cx} {F0 H0 : Hp} {m : List Bool} {W : WX} {pos : Pos} {a b e : Expr} {es : List Expr} {ga gb g : Rho → R D} {t : Rho → R (List D)}
theorem d_isinst {y : Str} {p p2 : Pos} {n : String} (hm : X.mg "isinstance" = none) (hy : X.mg y = none) (ha : DE X F0 H0 m W e g) (hg : Gl X "isinstance" := by rfl) (hg2 : Gl X y := by rfl) (hv : bootBuiltins y = some (.type n) := by decide +kernel)
    (hn : y ≠ "__name__" := by decide) (hd : (y == ("__debug__" : Str)) = false := by decide)
    (hs : starEach [e, .Name y p2] X.env = (false, eval e X.env) :: starEach [.Name y p2] X.env := by rfl) (hs2 : starEach [.Name y p2] X.env = (false, eval (.Name y p2) X.env) :: starEach [] X.env := by rfl)
    (hpl : (backTo pos (starEach [.Name y p2] X.env)).any (·.1) = false := by rfl) : DE X F0 H0 m W (.Call (.Name "isinstance" p) [e, .Name y p2] [] pos) (g1 (isiD n) g) := by
  refine pe_imp (pe_callB call_isi hg hm (by decide +kernel) (pa_cons ha (pa_cons (pe_bltn (v := .ty n) hg2 hy hv rfl hn hd) pa_nil hs2) hs) (by decide) (by decide) hs hpl) fun σ H Q ⟨ρ, F, r, h⟩ => ?_
  refine sem_bind (k := isiD n) r h fun d v F1 H1 _ i1 r1 h1 => ?_
  unfold isiD at h1
  cases z : subTy (tyD d) n with
  | none => rw [z] at h1; exact h1.elim
  | some b =>
    rw [z] at h1
    refine ⟨v, .ty n, .type (tyD d), .type n, b, rfl, .ty n, tyx_of r1.fh i1 (fun c fs q => ?_), kit_ty (subTy_kit z), after.now h1 r1.fh (.bl b)⟩
    subst q
    have z' : subTy "" n = some b := z
    unfold subTy at z'
    split at z' <;> first | (simp_all; done) | cases z'

/-! ### subscripts -/
def ixD : D → D → R D
  | .list ds, .int i => match atI ds i with
    | some d => .ok d
    | none => .st
  | .tup ds, .int i => match atI ds i with
    | some d => .ok d
    | none => .st
  | .str s, .int i => if s.length ≤ sizeLine then (match atI s.cps.toList i with
    | some c => .ok (.str ⟨#[c]⟩)
    | none => .st) else .st
  | _, _ => .st
theorem atI_is {K : PySem.W.Frag} {F : Hp} {xs : List V} {ds : List D} (l : IsL K F xs ds) {i : Int} {d : D} (h : atI ds i = some d) : ∃ v, atI xs i = some v ∧ Is K F v d := by
  unfold atI at h ⊢
  rw [l.1]
  cases z : ixN ds.length i with
  | none => rw [z] at h; cases h
  | some j =>
    rw [z] at h
    exact l.at h
theorem o_ix {K : PySem.W.Frag} : OpD K ixD (rIx K) := by
  intro W σ F H d e v u Q s i j q
  cases d with
  | list ds =>
    obtain ⟨p, xs, rfl, hp, l⟩ := i.list_inv
    cases j with
    | int k =>
      have q' : after K W σ F H (match atI ds k with | some d => .ok d | none => .st) Q := q
      cases z : atI ds k with
      | none => rw [z] at q'; exact q'.elim
      | some d =>
        rw [z] at q'
        obtain ⟨w', e1, i1⟩ := atI_is l z
        exact .inl ⟨p, xs, k, w', rfl, rfl, s.seq hp, e1, after.now q' s i1⟩
    | _ => exact q.elim
  | tup ds =>
    obtain ⟨p, xs, rfl, hp, l⟩ := i.tup_inv
    cases j with
    | int k =>
      have q' : after K W σ F H (match atI ds k with | some d => .ok d | none => .st) Q := q
      cases z : atI ds k with
      | none => rw [z] at q'; exact q'.elim
      | some d =>
        rw [z] at q'
        obtain ⟨w', e1, i1⟩ := atI_is l z
        exact .inr (.inl ⟨p, xs, k, w', rfl, rfl, sameT s hp, e1, after.now q' s i1⟩)
    | _ => exact q.elim
  | str x =>
    cases i
    cases j with
    | int k =>
      have q' : after K W σ F H (if x.length ≤ sizeLine then (match atI x.cps.toList k with | some c => .ok (.str ⟨#[c]⟩) | none => .st) else .st) Q := q
      by_cases hx : x.length ≤ sizeLine
      · rw [if_pos hx] at q'
        cases z : atI x.cps.toList k with
        | none => rw [z] at q'; exact q'.elim
        | some c =>
          rw [z] at q'
          exact .inr (.inr ⟨x, k, c, rfl, rfl, hx, z, after.now q' s (.str _)⟩)
      · rw [if_neg hx] at q'
        exact q'.elim
    | _ => exact q.elim
  | _ => exact q.elim
theorem d_ix (ha : DE X F0 H0 m W a ga) (hb : DE X F0 H0 m W b gb) (hs : PlainIx b := by exact fun _ _ => rfl) : DE X F0 H0 m W (.Subscript a b pos) (g2 ixD ga gb) := pe_imp (pe_ix ix_seq ha hb hs) (sem2 o_ix)

/-! ### slices -/
abbrev DO (X : Cx) (F0 H0 : Hp) (m : List Bool) (W : WX) (e : Option Expr) (g : Rho → R (Option Int)) : Prop := PO X e (fun σ H Q => ∃ ρ F, Rep X.K F0 H0 m ρ σ F H ∧ match g ρ with
  | .ok i => ∀ F' H', Ext F H F' H' → Q i H'
  | .ex x => ∀ cls od F' H', Ext F H F' H' → IsX X.K F' x cls od → W cls od σ H'
  | .st => False)
theorem po_imp {e : Option Expr} {t t' : TO} (h : PO X e t) (f : ∀ σ H Q, t' σ H Q → t σ H Q) : PO X e t' := ⟨fun pins s σ H Q I q => h.run pins s σ H Q I (f σ H Q q)⟩
def pNone : Rho → R (Option Int) := fun _ => .ok none
def asI : D → R (Option Int)
  | .int i => .ok (some i)
  | _ => .st
def pSome (g : Rho → R D) : Rho → R (Option Int) := fun ρ => (g ρ).bind asI
theorem do_none : DO X F0 H0 m W none pNone := po_imp po_none fun σ H Q ⟨ρ, F, r, h⟩ => h F H (.refl r.fh)
theorem do_some (ha : DE X F0 H0 m W e g) : DO X F0 H0 m W (some e) (pSome g) := by
  refine po_imp (po_some ha) fun σ H Q ⟨ρ, F, r, h⟩ => ?_
  refine ⟨ρ, F, r, ?_⟩
  unfold pSome at h
  cases z : g ρ with
  | ok d =>
    rw [z] at h
    intro v F' H' x i
    cases i with
    | int k => exact ⟨k, rfl, h F' H' x⟩
    | _ => exact h.elim
  | ex x =>
    rw [z] at h
    exact h
  | st =>
    rw [z] at h
    exact h.elim
def cutD {α : Type} (xs : List α) (lo hi : Option Int) : List α := (xs.drop (HT.sIx xs.length 0 lo)).take (HT.sIx xs.length xs.length hi - HT.sIx xs.length 0 lo)
def slD : D → Option Int → Option Int → R D
  | .list ds, lo, hi => .ok (.list (cutD ds lo hi))
  | .tup ds, lo, hi => .ok (.tup (cutD ds lo hi))
  | .str s, lo, hi => if s.length ≤ sizeLine then .ok (.str (cutS s lo hi)) else .st
  | _, _, _ => .st
def gSl (g : Rho → R D) (pl ph : Rho → R (Option Int)) : Rho → R D := fun ρ => (g ρ).bind fun d => (pl ρ).bind fun lo => (ph ρ).bind fun hi => slD d lo hi
theorem cut_is {K : PySem.W.Frag} {F : Hp} {xs : List V} {ds : List D} (l : IsL K F xs ds) (lo hi : Option Int) : IsL K F (cutV xs lo hi) (cutD ds lo hi) := by
  unfold cutV cutD
  rw [l.1]
  exact (l.drop _).take _
def rSl2 (K : PySem.W.Frag) : V → Option Int → Option Int → Hp → VK → Prop := fun x lo hi H Q => rSlL K x lo hi H Q ∨ (rSlA K x lo hi H Q ∨ rSlS x lo hi H Q)
theorem sl2 : SlR X (rSl2 X.K) := sl_list.or (sl_tupA.or sl_str)
theorem cut_all {α : Type} (xs : List α) (lo hi : Option Int) (h : HT.sIx xs.length 0 lo = 0 ∧ HT.sIx xs.length xs.length hi = xs.length) : cutD xs lo hi = xs := by
  unfold cutD
  rw [h.1, h.2]
  simp
theorem sl_run {K : PySem.W.Frag} {σ : L2.St} {F H : Hp} {d : D} {v : V} {lo hi : Option Int} {Q : VK} (s : Same F H) (i : Is K F v d) (q : after K W σ F H (slD d lo hi) Q) : rSl2 K v lo hi H Q := by
  cases d with
  | list ds =>
    obtain ⟨p, xs, rfl, hp, l⟩ := i.list_inv
    refine .inl ⟨p, xs, rfl, s.seq hp, fun r hr => ?_⟩
    have x := Ext.laid (o := .lst (cutV xs lo hi)) s hr
    exact q _ _ _ x (is_list (.of upd_same) ((cut_is l lo hi).mono x.ff))
  | tup ds =>
    obtain ⟨p, xs, rfl, hp, l⟩ := i.tup_inv
    refine .inr (.inl ⟨p, xs, rfl, sameT s hp, fun hw => ?_, fun hw r hr => ?_⟩)
    · have q' : after K W σ F H (.ok (.tup (cutD ds lo hi))) Q := q
      rw [l.1] at hw
      rw [cut_all ds lo hi hw] at q'
      exact after.now q' s i
    · have x := Ext.laid (o := .tup (cutV xs lo hi)) s hr
      exact q _ _ _ x (is_tup (.of upd_same) ((cut_is l lo hi).mono x.ff))
  | str z =>
    cases i
    have q' : after K W σ F H (if z.length ≤ sizeLine then .ok (.str (cutS z lo hi)) else .st) Q := q
    by_cases hz : z.length ≤ sizeLine
    · rw [if_pos hz] at q'
      exact .inr (.inr ⟨z, rfl, hz, after.now q' s (.str _)⟩)
    · rw [if_neg hz] at q'
      exact q'.elim
  | _ => exact q.elim
theorem d_slice {lo hi : Option Expr} {pl ph : Rho → R (Option Int)} {p2 : Pos} (ha : DE X F0 H0 m W e g) (hl : DO X F0 H0 m W lo pl) (hh : DO X F0 H0 m W hi ph) : DE X F0 H0 m W (.Subscript e (.Slice lo hi none p2) pos) (gSl g pl ph) := by
  refine pe_imp (pe_slice sl2 ha hl hh) fun σ H Q ⟨ρ, F, r, h⟩ => ?_
  refine sem_bind (k := fun d => (pl ρ).bind fun lo => (ph ρ).bind fun hi => slD d lo hi) r h fun d v F1 H1 _ i1 r1 h1 => ?_
  refine ⟨ρ, F1, r1, ?_⟩
  cases z1 : pl ρ with
  | ok l =>
    rw [z1] at h1
    intro F2 H2 x2
    refine ⟨ρ, F2, r1.ext x2, ?_⟩
    have h2 : after X.K W σ F2 H2 ((ph ρ).bind fun hi => slD d l hi) Q := after.ext h1 x2
    cases z2 : ph ρ with
    | ok u =>
      rw [z2] at h2
      intro F3 H3 x3
      exact sl_run x3.fh ((i1.mono x2.ff).mono x3.ff) (after.ext h2 x3)
    | ex x =>
      rw [z2] at h2
      exact h2
    | st =>
      rw [z2] at h2
      exact h2.elim
  | ex x =>
    rw [z1] at h1
    exact h1
  | st =>
    rw [z1] at h1
    exact h1.elim
end
end Pd

/-! Pd5: new objects, targets, what is walked, comprehensions, methods, calls -/
namespace Pd
open PySem PySem.Spec PyProof.Rows L2
/-! ### an expression that makes a new object, not yet shared -/
def afterN (K : PySem.W.Frag) (W : WX) (σ : L2.St) (F H : Hp) (r : R D) (Q : VK) : Prop := match r with
  | .ok d => ∀ p o F' H', Ext F H F' H' → H' p = some o → IsC K F' o d → F' p = none → H p = none → Q (.ref p) H'
  | .ex x => ∀ cls od F' H', Ext F H F' H' → IsX K F' x cls od → W cls od σ H'
  | .st => False
def tSemN (K : PySem.W.Frag) (F0 H0 : Hp) (m : List Bool) (W : WX) (g : Rho → R D) : TE := fun σ H Q => ∃ ρ F, Rep K F0 H0 m ρ σ F H ∧ afterN K W σ F H (g ρ) Q
abbrev DN (X : Cx) (F0 H0 : Hp) (m : List Bool) (W : WX) (e : Expr) (g : Rho → R D) : Prop := PE X e (tSemN X.K F0 H0 m W g)
/-- shared from now on -/
theorem Ext.share {F H F' H' : Hp} {p : Addr} {o : HO} (x : Ext F H F' H') (h : H' p = some o) (f : F' p = none) (n : H p = none) : Ext F H (upd F' p o) H' :=
  ⟨x.ff.trans (same_upd f), x.hh, fun b u e => by
    by_cases q : b = p
    · subst q; rw [upd_same] at e; rw [h]; exact e
    · rw [upd_ne q] at e; exact x.fh b u e, fun b hb fb => by
    have q : b ≠ p := fun z => hb (z ▸ n)
    rw [upd_ne q]; exact x.nw b hb fb⟩
theorem afterN_of {K : PySem.W.Frag} {W : WX} {σ : L2.St} {F H : Hp} {r : R D} {Q : VK} (h : after K W σ F H r Q) : afterN K W σ F H r Q := by
  cases r with
  | ok d =>
    intro p o F' H' x e c f n
    exact h (.ref p) (upd F' p o) H' (x.share e f n) (is_of_c upd_same (c.mono (same_upd f)))
  | ex x => exact h
  | st => exact h
theorem d_new {X : Cx} {F0 H0 : Hp} {m : List Bool} {W : WX} {e : Expr} {g : Rho → R D} (h : DN X F0 H0 m W e g) : DE X F0 H0 m W e g :=
  pe_imp h fun σ H Q ⟨ρ, F, r, q⟩ => ⟨ρ, F, r, afterN_of q⟩
section
variable {K : PySem.W.Frag} {F0 H0 F H F' H' : Hp} {m : List Bool} {W : WX} {ρ : Rho} {σ : L2.St} {g : Rho → R D} {Q : VK}
theorem afterN.ext {r : R D} (h : afterN K W σ F H r Q) (x : Ext F H F' H') : afterN K W σ F' H' r Q := by
  cases r with
  | ok d =>
    intro p o F2 H2 y e c f n
    refine h p o F2 H2 (x.trans y) e c f ?_
    cases q : H p with
    | none => rfl
    | some u => rw [x.hh p u q] at n; cases n
  | ex e => exact fun cls od F2 H2 y i => h cls od F2 H2 (x.trans y) i
  | st => exact h
theorem afterN.now {d : D} {p : Addr} {o : HO} (h : afterN K W σ F H (.ok d) Q) (s : Same F H) (n : H p = none) (c : IsC K F o d) : Q (.ref p) (upd H p o) :=
  h p o F (upd H p o) (.laid' s n) upd_same c (s.free n) n
theorem sem_bindN {k : D → R D} {Φ : VK} (r : Rep K F0 H0 m ρ σ F H) (h : afterN K W σ F H ((g ρ).bind k) Q)
    (f : ∀ d v F' H', Ext F H F' H' → Is K F' v d → Rep K F0 H0 m ρ σ F' H' → afterN K W σ F' H' (k d) Q → Φ v H') : tSem K F0 H0 m W g σ H Φ := by
  refine ⟨ρ, F, r, ?_⟩
  cases e : g ρ with
  | ok d =>
    rw [e] at h
    exact fun v F' H' x i => f d v F' H' x i (r.ext x) (afterN.ext h x)
  | ex x =>
    rw [e] at h
    exact h
  | st =>
    rw [e] at h
    exact h
theorem semA_bindN {ga : Rho → R (List D)} {k : List D → R D} {Φ : List V → Hp → Prop} (r : Rep K F0 H0 m ρ σ F H) (h : afterN K W σ F H ((ga ρ).bind k) Q)
    (f : ∀ ds vs F' H', Ext F H F' H' → IsL K F' vs ds → Rep K F0 H0 m ρ σ F' H' → afterN K W σ F' H' (k ds) Q → Φ vs H') : tSemA K F0 H0 m W ga σ H Φ := by
  refine ⟨ρ, F, r, ?_⟩
  cases e : ga ρ with
  | ok d =>
    rw [e] at h
    exact fun vs F' H' x i => f d vs F' H' x i (r.ext x) (afterN.ext h x)
  | ex x =>
    rw [e] at h
    exact h
  | st =>
    rw [e] at h
    exact h
end
section
variable {X : Cx} {F0 H0 : Hp} {m : List Bool} {W : WX} {pos : Pos} {a b e : Expr} {es : List Expr} {ga gb g : Rho → R D} {t : Rho → R (List D)}
theorem n_list (ha : DA X F0 H0 m W es t) : DN X F0 H0 m W (.List es pos) (gA lstD t) := by
  refine pe_imp (pe_lst ha) fun σ H Q ⟨ρ, F, r, h⟩ => semA_bindN (k := lstD) r h fun ds vs F1 H1 _ i1 r1 h1 => ?_
  unfold lstD at h1
  split at h1
  · rename_i hl
    exact ⟨by rw [i1.1]; exact hl, fun p hp => afterN.now h1 r1.fh hp (show IsC _ _ (.lst vs) (.list ds) from i1)⟩
  · exact h1.elim
/-- list(x), tuple(x) -/
def listD : List D → R D
  | [.list ds] => .ok (.list ds)
  | [.tup ds] => .ok (.list ds)
  | _ => .st
def tupleD : List D → R D
  | [.list ds] => .ok (.tup ds)
  | [.tup ds] => .ok (.tup ds)
  | _ => .st
theorem c_tuple {K : PySem.W.Frag} : CallD K tupleD (fun xs H Q => ∃ p ys, xs = [.ref p] ∧ ((SqL K H p ys ∧ ∀ l, H l = none → Q (.ref l) (upd H l (.tup ys))) ∨ (SqT K H p ys ∧ Q (.ref p) H))) := by
  intro W σ F H ds vs Q s l q
  match ds, l, q with
  | [.list es], l, q =>
    obtain ⟨v, rfl, i⟩ := one_of l
    obtain ⟨a, xs, rfl, h, t⟩ := i.list_inv
    refine ⟨a, xs, rfl, .inl ⟨s.seq h, fun p hp => ?_⟩⟩
    have x := Ext.laid (o := .tup xs) s hp
    exact q _ _ _ x (is_tup (.of upd_same) (t.mono x.ff))
  | [.tup es], l, q =>
    obtain ⟨v, rfl, i⟩ := one_of l
    obtain ⟨a, xs, rfl, h, t⟩ := i.tup_inv
    exact ⟨a, xs, rfl, .inr ⟨sameT s h, after.now q s i⟩⟩
def CallDN (K : PySem.W.Frag) (f : List D → R D) (r : List V → Hp → VK → Prop) : Prop :=
  ∀ (W : WX) (σ : L2.St) (F H : Hp) (ds : List D) (vs : List V) (Q : VK), Same F H → IsL K F vs ds → afterN K W σ F H (f ds) Q → r vs H Q
theorem c_list {K : PySem.W.Frag} : CallDN K listD (fun xs H Q => ∃ p ys, xs = [.ref p] ∧ (SqL K H p ys ∨ SqT K H p ys) ∧ ∀ l, H l = none → Q (.ref l) (upd H l (.lst ys))) := by
  intro W σ F H ds vs Q s l q
  match ds, l, q with
  | [.list es], l, q =>
    obtain ⟨v, rfl, i⟩ := one_of l
    obtain ⟨a, xs, rfl, h, t⟩ := i.list_inv
    exact ⟨a, xs, rfl, .inl (s.seq h), fun p hp => afterN.now q s hp (show IsC _ _ (.lst xs) (.list es) from t)⟩
  | [.tup es], l, q =>
    obtain ⟨v, rfl, i⟩ := one_of l
    obtain ⟨a, xs, rfl, h, t⟩ := i.tup_inv
    exact ⟨a, xs, rfl, .inr (sameT s h), fun p hp => afterN.now q s hp (show IsC _ _ (.lst xs) (.list es) from t)⟩
theorem n_callTy {x : Str} {p : Pos} {T : String} {f : List D → R D} {r : List V → Hp → VK → Prop} (hc : CallR X (.type T) r) (o : CallDN X.K f r) (hm : X.mg x = none) (ha : DA X F0 H0 m W (e :: es) t) (hg : Gl X x := by rfl) (hv : bootBuiltins x = some (.type T) := by decide +kernel) (hn : x ≠ "__name__" := by decide) (hdb : (x == ("__debug__" : Str)) = false := by decide)
    (he : starEach (e :: es) X.env = (false, eval e X.env) :: starEach es X.env := by rfl) (hpl : (backTo pos (starEach es X.env)).any (·.1) = false := by rfl) : DN X F0 H0 m W (.Call (.Name x p) (e :: es) [] pos) (gA f t) :=
  pe_imp (pe_callTy hc hg hm hv ha hn hdb he hpl) fun σ H Q ⟨ρ, F, r, h⟩ => semA_bindN (k := f) r h fun ds vs F1 H1 _ i1 r1 h1 => o W σ F1 H1 ds vs Q r1.fh i1 h1

/-! ### targets -/
/-- is: the slots that it stores -/
def tSemG (K : PySem.W.Frag) (F0 H0 : Hp) (m m' : List Bool) (is : List Nat) (τ : D → Rho → R Rho) : TG := fun v σ H Q => ∃ ρ F d, Rep K F0 H0 m ρ σ F H ∧ Is K F v d ∧ match τ d ρ with
  | .ok ρ' => ∀ σ', Rep K F0 H0 m' ρ' σ' F H → σ'.length = σ.length → (∀ j, j ∉ is → σ'[j]? = σ[j]?) → Q σ' H
  | _ => False
abbrev DG (X : Cx) (F0 H0 : Hp) (m m' : List Bool) (is : List Nat) (tg : Expr) (τ : D → Rho → R Rho) : Prop := PG X tg (tSemG X.K F0 H0 m m' is τ)
theorem pg_imp {tg : Expr} {t t' : TG} (h : PG X tg t) (f : ∀ v σ H Q, t' v σ H Q → t v σ H Q) : PG X tg t' := ⟨fun pins s σ H v u Q I r q => h.run pins s σ H v u Q I r (f v σ H Q q)⟩
def τName (i : Nat) : D → Rho → R Rho := fun d ρ => .ok (ρ.set i (some d))
theorem getElem?_set_cases {α : Type} {l : List α} {i j : Nat} {x y : α} (h : (l.set i x)[j]? = some y) : (j = i ∧ y = x ∧ i < l.length) ∨ (j ≠ i ∧ l[j]? = some y) := by
  by_cases hj : j = i
  · subst hj
    by_cases hl : j < l.length
    · rw [List.getElem?_set_self hl] at h
      exact .inl ⟨rfl, (Option.some.inj h).symm, hl⟩
    · rw [List.getElem?_eq_none (by simpa using hl)] at h
      cases h
  · rw [List.getElem?_set_ne (Ne.symm hj)] at h
    exact .inr ⟨hj, h⟩
theorem mset {m : List Bool} {i j : Nat} (h : (m.set i false)[j]? = some true) : j ≠ i ∧ m[j]? = some true := by
  rcases getElem?_set_cases h with ⟨_, z, _⟩ | z
  · cases z
  · exact z
theorem mset' {m : List Bool} {i j : Nat} (hj : j ≠ i) (b : Bool) : (m.set i b)[j]? = m[j]? := List.getElem?_set_ne (Ne.symm hj)
/-- a slot gets shared data -/
theorem Rep.set {K : PySem.W.Frag} {ρ : Rho} {σ : L2.St} {F H : Hp} {v : V} {d : D} (r : Rep K F0 H0 m ρ σ F H) (i : Nat) (h : Is K F v d) : Rep K F0 H0 (m.set i false) (ρ.set i (some d)) (σ.set i (some v)) F H where
  len := by rw [List.length_set, List.length_set, r.len]
  fh := r.fh
  f0 := r.f0
  h0 := r.h0
  new := r.new
  val := fun j e a b => by
    rcases getElem?_set_cases a with ⟨rfl, z, hl⟩ | ⟨hj, z⟩
    · cases z
      exact ⟨v, by rw [List.getElem?_set_self (by rw [r.len]; exact hl)], h⟩
    · rw [List.getElem?_set_ne (Ne.symm hj)]
      exact r.val j e z (by rw [mset' hj] at b; exact b)
  own := fun j e a b => by
    obtain ⟨hj, b⟩ := mset b
    rw [List.getElem?_set_ne (Ne.symm hj)] at a ⊢
    exact r.own j e a b
  apart := fun j k p d1 e1 hjk a b c c' q => by
    obtain ⟨hj, a⟩ := mset a
    obtain ⟨hk, b⟩ := mset b
    rw [List.getElem?_set_ne (Ne.symm hj)] at c q
    rw [List.getElem?_set_ne (Ne.symm hk)] at c' ⊢
    exact r.apart j k p d1 e1 hjk a b c c' q
theorem dg_name (i : Nat) {x : Str} (hN : X.N.Nodup) (hi : X.N[i]? = some x := by rfl) (hx : Loc X.env.scope x := by exact Or.inl rfl) (hf : X.fn x = true ∨ X.env.scope.names.lookup x = some .local := by first | exact .inl rfl | exact .inr rfl | assumption) :
    DG X F0 H0 m (m.set i false) [i] (.Name x pos) (τName i) := by
  refine pg_imp (pg_name hN hi hx hf) fun v σ H Q ⟨ρ, F, d, r, h, q⟩ => ?_
  exact q _ (r.set i h) (List.length_set ..) fun j hj => List.getElem?_set_ne (fun z => hj (by simp [z]))
/-- several -/
def tSemGs (K : PySem.W.Frag) (F0 H0 : Hp) (m m' : List Bool) (is : List Nat) (τ : List D → Rho → R Rho) : TGs := fun vs σ H Q => ∃ ρ F ds, Rep K F0 H0 m ρ σ F H ∧ IsL K F vs ds ∧ match τ ds ρ with
  | .ok ρ' => ∀ σ', Rep K F0 H0 m' ρ' σ' F H → σ'.length = σ.length → (∀ j, j ∉ is → σ'[j]? = σ[j]?) → Q σ' H
  | _ => False
abbrev DGs (X : Cx) (F0 H0 : Hp) (m m' : List Bool) (is : List Nat) (tg : List Expr) (τ : List D → Rho → R Rho) : Prop := PGs X tg (tSemGs X.K F0 H0 m m' is τ)
theorem pgs_imp {tg : List Expr} {t t' : TGs} (h : PGs X tg t) (f : ∀ v σ H Q, t' v σ H Q → t v σ H Q) : PGs X tg t' := ⟨fun pins s σ H v u Q I r q => h.run pins s σ H v u Q I r (f v σ H Q q)⟩
def τNil : List D → Rho → R Rho := fun ds ρ => match ds with
  | [] => .ok ρ
  | _ => .st
def τCons (τ : D → Rho → R Rho) (τs : List D → Rho → R Rho) : List D → Rho → R Rho := fun ds ρ => match ds with
  | d :: r => (τ d ρ).bind fun ρ1 => τs r ρ1
  | [] => .st
theorem dgs_nil : DGs X F0 H0 m m [] [] τNil := by
  refine pgs_imp pgs_nil fun vs σ H Q ⟨ρ, F, ds, r, l, q⟩ => ?_
  cases ds with
  | nil => exact ⟨l.unnil, q σ r rfl fun _ _ => rfl⟩
  | cons d ds => exact q.elim
theorem dgs_cons {m1 m2 : List Bool} {is is2 : List Nat} {τ : D → Rho → R Rho} {τs : List D → Rho → R Rho} (h1 : DG X F0 H0 m m1 is e τ) (h2 : DGs X F0 H0 m1 m2 is2 es τs)
    (hs : (assignEach (e :: es) X.env).map (·.2) = assign e X.env :: (assignEach es X.env).map (·.2) := by rfl) : DGs X F0 H0 m m2 (is ++ is2) (e :: es) (τCons τ τs) := by
  refine pgs_imp (pgs_cons h1 h2 hs) fun vs σ H Q ⟨ρ, F, ds, r, l, q⟩ => ?_
  cases ds with
  | nil => exact q.elim
  | cons d ds =>
    obtain ⟨v, vr, rfl, i, t⟩ := l.uncons
    refine ⟨v, vr, rfl, ρ, F, d, r, i, ?_⟩
    have q' : match (τ d ρ).bind fun ρ1 => τs ds ρ1 with
      | .ok ρ' => ∀ σ', Rep X.K F0 H0 m2 ρ' σ' F H → σ'.length = σ.length → (∀ j, j ∉ is ++ is2 → σ'[j]? = σ[j]?) → Q σ' H
      | _ => False := q
    cases z : τ d ρ with
    | ok ρ1 =>
      rw [z] at q'
      intro σ1 r1 l1 k1
      refine ⟨ρ1, F, ds, r1, t, ?_⟩
      have q2 : match τs ds ρ1 with
        | .ok ρ' => ∀ σ', Rep X.K F0 H0 m2 ρ' σ' F H → σ'.length = σ.length → (∀ j, j ∉ is ++ is2 → σ'[j]? = σ[j]?) → Q σ' H
        | _ => False := q'
      cases z2 : τs ds ρ1 with
      | ok ρ2 =>
        rw [z2] at q2
        intro σ2 r2 l2 k2
        exact q2 σ2 r2 (l2.trans l1) fun j hj => (k2 j fun w => hj (List.mem_append_right _ w)).trans (k1 j fun w => hj (List.mem_append_left _ w))
      | ex x => rw [z2] at q2; exact q2.elim
      | st => rw [z2] at q2; exact q2.elim
    | ex x => rw [z] at q'; exact q'.elim
    | st => rw [z] at q'; exact q'.elim
def τTup (n : Nat) (τs : List D → Rho → R Rho) : D → Rho → R Rho := fun d ρ => match d with
  | .tup ds => if ds.length = n then τs ds ρ else .st
  | _ => .st
theorem dg_tup {m' : List Bool} {is : List Nat} {τs : List D → Rho → R Rho} {k : Nat} {n : Nat} (hc : X.calm = true) (h : DGs X F0 H0 m m' is es τs)
    (hn : (assignEach es X.env).length = n := by rfl) (hst : (assignEach es X.env).findIdx? (·.1) = none := by rfl) : DG X F0 H0 m m' is (.Tuple es k pos) (τTup n τs) := by
  refine pg_imp (pg_tup hc h hn hst) fun v σ H Q ⟨ρ, F, d, r, i, q⟩ => ?_
  cases d with
  | tup ds =>
    obtain ⟨a, xs, rfl, hp, l⟩ := i.tup_inv
    have q' : match (if ds.length = n then τs ds ρ else .st) with
      | .ok ρ' => ∀ σ', Rep X.K F0 H0 m' ρ' σ' F H → σ'.length = σ.length → (∀ j, j ∉ is → σ'[j]? = σ[j]?) → Q σ' H
      | _ => False := q
    by_cases hd : ds.length = n
    · rw [if_pos hd] at q'
      exact ⟨a, xs, rfl, sameT r.fh hp, l.1.trans hd, ρ, F, ds, r, l, q'⟩
    · rw [if_neg hd] at q'
      exact q'.elim
  | _ => exact q.elim

/-! ### what is walked -/
/-- the iterator J yields these -/
def Yl (K : PySem.W.Frag) (J : It) (items : List D) (F : Hp) : Prop := ∀ (i : Nat) (F1 H1 : Hp), Same F F1 → Same F1 H1 →
  (i < items.length → J.go i H1 ∧ ∀ x H2, J.yld i H1 x H2 → ∃ F2 d, items[i]? = some d ∧ Ext F1 H1 F2 H2 ∧ Is K F2 x d) ∧ (items.length ≤ i → J.stop i H1)
def tSemI (K : PySem.W.Frag) (F0 H0 : Hp) (m : List Bool) (W : WX) (g : Rho → R (List D)) : TI := fun σ H Q => ∃ ρ F, Rep K F0 H0 m ρ σ F H ∧ match g ρ with
  | .ok items => ∀ J F' H', Ext F H F' H' → Yl K J items F' → Q J H'
  | .ex x => ∀ cls od F' H', Ext F H F' H' → IsX K F' x cls od → W cls od σ H'
  | .st => False
abbrev DI (X : Cx) (F0 H0 : Hp) (m : List Bool) (W : WX) (tg e : Expr) (g : Rho → R (List D)) : Prop := PI X tg e (tSemI X.K F0 H0 m W g)
theorem pi_imp {tg e : Expr} {t t' : TI} (h : PI X tg e t) (f : ∀ σ H Q, t' σ H Q → t σ H Q) : PI X tg e t' := ⟨fun pins s σ H Q I q => h.run pins s σ H Q I (f σ H Q q)⟩
theorem pi_or2 {tg e : Expr} {t t' : TI} (h : PI X tg e t) (h' : PI X tg e t') : PI X tg e (fun σ H Q => t σ H Q ∨ t' σ H Q) := ⟨fun pins s σ H Q I q => q.elim (h.run pins s σ H Q I) (h'.run pins s σ H Q I)⟩
theorem yl_list {K : PySem.W.Frag} {a : Addr} {xs : List V} {ds : List D} {F : Hp} (h : SqL K F a xs) (l : IsL K F xs ds) : Yl K (Itl K a) ds F := by
  intro i F1 H1 s1 s2
  have h1 : SqL K H1 a xs := (s1.trans s2).seq h
  refine ⟨fun hi => ?_, fun hi => ⟨xs, h1, by rw [l.1]; exact hi⟩⟩
  obtain ⟨x, hx, ix⟩ := l.at (i := i) (d := ds[i]) (by simp [hi])
  refine ⟨⟨xs, x, h1, hx⟩, fun y H2 ⟨e, k⟩ => ?_⟩
  subst e
  have e1 := k xs h1
  rw [hx] at e1
  cases e1
  exact ⟨F1, ds[i], by simp [hi], .refl s2, ix.mono s1⟩
theorem yl_tup {K : PySem.W.Frag} {a : Addr} {xs : List V} {ds : List D} {F : Hp} (h : SqT K F a xs) (l : IsL K F xs ds) : Yl K (Itt K a) ds F := by
  intro i F1 H1 s1 s2
  have h1 : SqT K H1 a xs := sameT (s1.trans s2) h
  refine ⟨fun hi => ?_, fun hi => ⟨xs, h1, by rw [l.1]; exact hi⟩⟩
  obtain ⟨x, hx, ix⟩ := l.at (i := i) (d := ds[i]) (by simp [hi])
  refine ⟨⟨xs, x, h1, hx⟩, fun y H2 ⟨e, k⟩ => ?_⟩
  subst e
  have e1 := k xs h1
  rw [hx] at e1
  cases e1
  exact ⟨F1, ds[i], by simp [hi], .refl s2, ix.mono s1⟩
def signs (s : Str) : List D := s.cps.toList.map fun c => .str ⟨#[c]⟩
theorem yl_str {K : PySem.W.Frag} {s : Str} {F : Hp} : Yl K (Its s) (signs s) F := by
  intro i F1 H1 s1 s2
  have hl : (signs s).length = s.cps.size := by unfold signs; rw [List.length_map, Array.length_toList]
  refine ⟨fun hi => ?_, fun hi => by rw [hl] at hi; exact hi⟩
  rw [hl] at hi
  refine ⟨hi, fun y H2 ⟨e, c, hc, k⟩ => ?_⟩
  subst e k
  exact ⟨F1, .str ⟨#[c]⟩, by unfold signs; rw [List.getElem?_map, Array.getElem?_toList, hc]; rfl, .refl s2, .str _⟩
def itemsD : D → R (List D)
  | .list ds => .ok ds
  | .tup ds => .ok ds
  | .str s => .ok (signs s)
  | _ => .st
def iSeq (g : Rho → R D) : Rho → R (List D) := fun ρ => (g ρ).bind itemsD
theorem di_seq {tg : Expr} (h : DE X F0 H0 m W e g) : DI X F0 H0 m W tg e (iSeq g) := by
  refine pi_imp (pi_or2 (pi_list h) (pi_or2 (pi_tup h) (pi_str h))) fun σ H Q ⟨ρ, F, r, q⟩ => ?_
  unfold iSeq at q
  cases z : g ρ with
  | ok d =>
    rw [z] at q
    cases d with
    | list ds =>
      refine .inl ⟨ρ, F, r, ?_⟩
      rw [z]
      intro v F' H' x i
      obtain ⟨a, xs, rfl, hp, l⟩ := i.list_inv
      exact ⟨a, rfl, ⟨xs, x.fh.seq hp⟩, q (Itl X.K a) F' H' x (yl_list hp l)⟩
    | tup ds =>
      refine .inr (.inl ⟨ρ, F, r, ?_⟩)
      rw [z]
      intro v F' H' x i
      obtain ⟨a, xs, rfl, hp, l⟩ := i.tup_inv
      exact ⟨a, rfl, ⟨xs, sameT x.fh hp⟩, q (Itt X.K a) F' H' x (yl_tup hp l)⟩
    | str s =>
      refine .inr (.inr ⟨ρ, F, r, ?_⟩)
      rw [z]
      intro v F' H' x i
      cases i
      exact ⟨s, rfl, q (Its s) F' H' x yl_str⟩
    | _ => exact q.elim
  | ex x =>
    rw [z] at q
    refine .inl ⟨ρ, F, r, ?_⟩
    rw [z]
    exact q
  | st =>
    rw [z] at q
    exact q.elim
def rngL (lo : Int) (n : Nat) : List D := (List.range n).map fun (k : Nat) => .int (lo + k)
theorem yl_range {K : PySem.W.Frag} {lo : Int} {n : Nat} {F : Hp} : Yl K (Itr lo n) (rngL lo n) F := by
  intro i F1 H1 s1 s2
  have hl : (rngL lo n).length = n := by unfold rngL; simp
  refine ⟨fun hi => ?_, fun hi => by rw [hl] at hi; exact hi⟩
  rw [hl] at hi
  refine ⟨hi, fun y H2 ⟨e, k⟩ => ?_⟩
  subst e k
  refine ⟨F1, .int (lo + i), ?_, .refl s2, .int _⟩
  unfold rngL
  rw [List.getElem?_map, List.getElem?_range hi]
  rfl
def small62 (i : Int) : Bool := decide (-(2 ^ 62) ≤ i) && decide (i < 2 ^ 62)
def afterI (K : PySem.W.Frag) (W : WX) (σ : L2.St) (F H : Hp) (r : R (List D)) (Q : It → Hp → Prop) : Prop := match r with
  | .ok items => ∀ J F' H', Ext F H F' H' → Yl K J items F' → Q J H'
  | .ex x => ∀ cls od F' H', Ext F H F' H' → IsX K F' x cls od → W cls od σ H'
  | .st => False
theorem afterI.ext {K : PySem.W.Frag} {σ : L2.St} {F H F' H' : Hp} {Q : It → Hp → Prop} {r : R (List D)} (h : afterI K W σ F H r Q) (x : Ext F H F' H') : afterI K W σ F' H' r Q := by
  cases r with
  | ok d => exact fun J F2 H2 y i => h J F2 H2 (x.trans y) i
  | ex e => exact fun cls od F2 H2 y i => h cls od F2 H2 (x.trans y) i
  | st => exact h
/-- arguments, then what is walked -/
theorem semA_I {K : PySem.W.Frag} {σ : L2.St} {F H : Hp} {ρ : Rho} {f : List D → R (List D)} {Q : It → Hp → Prop} {Φ : List V → Hp → Prop} (r : Rep K F0 H0 m ρ σ F H) (h : afterI K W σ F H ((t ρ).bind f) Q)
    (k : ∀ ds vs F' H', Ext F H F' H' → IsL K F' vs ds → Rep K F0 H0 m ρ σ F' H' → afterI K W σ F' H' (f ds) Q → Φ vs H') : tSemA K F0 H0 m W t σ H Φ := by
  refine ⟨ρ, F, r, ?_⟩
  cases e : t ρ with
  | ok d =>
    rw [e] at h
    exact fun vs F' H' x i => k d vs F' H' x i (r.ext x) (afterI.ext h x)
  | ex x =>
    rw [e] at h
    exact h
  | st =>
    rw [e] at h
    exact h
def iA (f : List D → R (List D)) (t : Rho → R (List D)) : Rho → R (List D) := fun ρ => (t ρ).bind f
def rangeD1 : List D → R (List D)
  | [.int j] => if small62 j = true then .ok (rngL 0 j.toNat) else .st
  | _ => .st
def rangeD2 : List D → R (List D)
  | [.int i, .int j] => if (small62 i && small62 j) = true then .ok (rngL i (j - i).toNat) else .st
  | _ => .st
theorem di_range1 {tg : Expr} {p : Pos} (hm : X.mg "range" = none) (ha : DA X F0 H0 m W [a] t) (hg : Gl X "range" := by rfl) (hs : starEach [a] X.env = [(false, eval a X.env)] := by rfl) : DI X F0 H0 m W tg (.Call (.Name "range" p) [a] [] pos) (iA rangeD1 t) := by
  refine pi_imp (pi_range1 hg hm ha hs) fun σ H Q ⟨ρ, F, r, q⟩ => semA_I (f := rangeD1) r q fun ds vs F1 H1 _ l r1 q1 => ?_
  match ds, l, q1 with
  | [.int j], l, q1 =>
    obtain ⟨v, rfl, i⟩ := one_of l
    cases i
    have q' : afterI X.K W σ F1 H1 (if small62 j = true then .ok (rngL 0 j.toNat) else .st) Q := q1
    by_cases hj : small62 j = true
    · rw [if_pos hj] at q'
      simp only [small62, Bool.and_eq_true, decide_eq_true_eq] at hj
      exact ⟨j, rfl, hj.1, hj.2, q' _ F1 H1 (.refl r1.fh) yl_range⟩
    · rw [if_neg hj] at q'
      exact q'.elim
theorem di_range2 {tg : Expr} {p : Pos} (hm : X.mg "range" = none) (ha : DA X F0 H0 m W [a, b] t) (hg : Gl X "range" := by rfl) (hs : starEach [a, b] X.env = [(false, eval a X.env), (false, eval b X.env)] := by rfl) (hs2 : starEach [b] X.env = [(false, eval b X.env)] := by rfl) :
    DI X F0 H0 m W tg (.Call (.Name "range" p) [a, b] [] pos) (iA rangeD2 t) := by
  refine pi_imp (pi_range2 hg hm ha hs hs2) fun σ H Q ⟨ρ, F, r, q⟩ => semA_I (f := rangeD2) r q fun ds vs F1 H1 _ l r1 q1 => ?_
  match ds, l, q1 with
  | [.int i, .int j], l, q1 =>
    obtain ⟨v, u, rfl, z1, z2⟩ := two_of l
    cases z1
    cases z2
    have q' : afterI X.K W σ F1 H1 (if (small62 i && small62 j) = true then .ok (rngL i (j - i).toNat) else .st) Q := q1
    by_cases hj : (small62 i && small62 j) = true
    · rw [if_pos hj] at q'
      simp only [small62, Bool.and_eq_true, decide_eq_true_eq] at hj
      exact ⟨i, j, rfl, ⟨hj.1.1, hj.1.2, hj.2.1, hj.2.2⟩, q' _ F1 H1 (.refl r1.fh) yl_range⟩
    · rw [if_neg hj] at q'
      exact q'.elim
/-- zip of two lists -/
def zipL : List D → List D → List D
  | a :: as, b :: bs => .tup [a, b] :: zipL as bs
  | _, _ => []
theorem zipL_at : ∀ (as bs : List D) (i : Nat), (zipL as bs)[i]? = (match as[i]?, bs[i]? with | some a, some b => some (.tup [a, b]) | _, _ => none)
  | [], bs, i => by cases bs <;> simp [zipL]
  | a :: as, [], i => by simp [zipL]
  | a :: as, b :: bs, 0 => rfl
  | a :: as, b :: bs, i + 1 => by
    show (zipL as bs)[i]? = _
    rw [zipL_at as bs i]
    rfl
theorem zipL_len : ∀ (as bs : List D), (zipL as bs).length = min as.length bs.length
  | [], bs => by cases bs <;> simp [zipL]
  | a :: as, [] => by simp [zipL]
  | a :: as, b :: bs => by
    show (zipL as bs).length + 1 = _
    rw [zipL_len as bs]
    simp only [List.length_cons]
    omega
def zipD : List D → R (List D)
  | [.list as, .list bs] => .ok (zipL as bs)
  | _ => .st
theorem sizeLine_2 : (2 : Nat) ≤ sizeLine := by rw [sizeLine_eq]; decide
theorem yl_zip {K : PySem.W.Frag} {a b : Addr} {xs ys : List V} {as bs : List D} {F : Hp} (h : SqL K F a xs) (l : IsL K F xs as) (h' : SqL K F b ys) (l' : IsL K F ys bs) : Yl K (Itz K a b) (zipL as bs) F := by
  intro i F1 H1 s1 s2
  have h1 : SqL K H1 a xs := (s1.trans s2).seq h
  have h2 : SqL K H1 b ys := (s1.trans s2).seq h'
  rw [zipL_len]
  refine ⟨fun hi => ?_, fun hi => ⟨xs, ys, h1, h2, by have := l.1; have := l'.1; omega⟩⟩
  obtain ⟨x, hx, ix⟩ := l.at (i := i) (d := as[i]'(by omega)) (List.getElem?_eq_getElem _)
  obtain ⟨y, hy, iy⟩ := l'.at (i := i) (d := bs[i]'(by omega)) (List.getElem?_eq_getElem _)
  refine ⟨⟨xs, ys, x, y, h1, h2, hx, hy⟩, fun v H2 ⟨T, x', y', e, hT, e2, k1, k2⟩ => ?_⟩
  subst e e2
  have e3 := k1 xs h1
  rw [hx] at e3
  cases e3
  have e4 := k2 ys h2
  rw [hy] at e4
  cases e4
  have xe := Ext.laid (o := .tup [x, y]) s2 hT
  refine ⟨_, .tup [as[i]'(by omega), bs[i]'(by omega)], ?_, xe, is_tup (.of upd_same) (IsL.cons ((ix.mono s1).mono xe.ff) (IsL.cons ((iy.mono s1).mono xe.ff) .nil))⟩
  rw [zipL_at, List.getElem?_eq_getElem (by omega), List.getElem?_eq_getElem (by omega)]
theorem di_zip {p tpos : Pos} {elts : List Expr} {kk : Nat} (hm : X.mg "zip" = none) (ha : DA X F0 H0 m W [a, b] t) (hg : Gl X "zip" := by rfl)
    (hs : starEach [a, b] X.env = (false, eval a X.env) :: starEach [b] X.env := by rfl) (hpl : (backTo pos (starEach [b] X.env)).any (·.1) = false := by rfl) : DI X F0 H0 m W (.Tuple elts kk tpos) (.Call (.Name "zip" p) [a, b] [] pos) (iA zipD t) := by
  refine pi_imp (pi_zip hg hm ha hs hpl) fun σ H Q ⟨ρ, F, r, q⟩ => semA_I (f := zipD) r q fun ds vs F1 H1 _ l r1 q1 => ?_
  match ds, l, q1 with
  | [.list as, .list bs], l, q1 =>
    obtain ⟨v, u, rfl, z1, z2⟩ := two_of l
    obtain ⟨a1, xs, rfl, h1, l1⟩ := z1.list_inv
    obtain ⟨b1, ys, rfl, h2, l2⟩ := z2.list_inv
    exact ⟨a1, b1, xs, ys, rfl, r1.fh.seq h1, r1.fh.seq h2, q1 _ F1 H1 (.refl r1.fh) (yl_zip h1 l1 h2 l2)⟩
/-- enumerate of a list -/
def enumL : Nat → List D → List D
  | _, [] => []
  | k, d :: ds => .tup [.int k, d] :: enumL (k + 1) ds
theorem enumL_at : ∀ (ds : List D) (k i : Nat), (enumL k ds)[i]? = (ds[i]?).map fun d => .tup [.int ((k + i : Nat) : Int), d]
  | [], k, i => by simp [enumL]
  | d :: ds, k, 0 => rfl
  | d :: ds, k, i + 1 => by
    show (enumL (k + 1) ds)[i]? = _
    rw [enumL_at ds (k + 1) i, show k + 1 + i = k + (i + 1) by omega]
    rfl
theorem enumL_len : ∀ (ds : List D) (k : Nat), (enumL k ds).length = ds.length
  | [], k => rfl
  | d :: ds, k => by
    show (enumL (k + 1) ds).length + 1 = _
    rw [enumL_len ds (k + 1)]
    rfl
def enumD : List D → R (List D)
  | [.list ds] => .ok (enumL 0 ds)
  | _ => .st
theorem yl_enum {K : PySem.W.Frag} {a : Addr} {xs : List V} {ds : List D} {F : Hp} (h : SqL K F a xs) (l : IsL K F xs ds) : Yl K (Ite K a) (enumL 0 ds) F := by
  intro i F1 H1 s1 s2
  have h1 : SqL K H1 a xs := (s1.trans s2).seq h
  rw [enumL_len]
  refine ⟨fun hi => ?_, fun hi => ⟨xs, h1, by have := l.1; omega⟩⟩
  obtain ⟨x, hx, ix⟩ := l.at (i := i) (d := ds[i]'(by omega)) (List.getElem?_eq_getElem _)
  refine ⟨⟨xs, x, h1, hx⟩, fun v H2 y => ?_⟩
  obtain ⟨T, x', e, hT, e2, k1⟩ := y
  subst e e2
  have e3 := k1 xs h1
  rw [hx] at e3
  cases e3
  have xe := Ext.laid (o := .tup [.int (i : Nat), x]) s2 hT
  refine ⟨_, .tup [.int (i : Nat), ds[i]'(by omega)], ?_, xe, is_tup (.of upd_same) (IsL.cons (.int _) (IsL.cons ((ix.mono s1).mono xe.ff) .nil))⟩
  rw [enumL_at, List.getElem?_eq_getElem (by omega)]
  simp
theorem di_enum {p tpos : Pos} {elts : List Expr} {kk : Nat} (hm : X.mg "enumerate" = none) (ha : DA X F0 H0 m W [a] t) (hg : Gl X "enumerate" := by rfl)
    (hs : starEach [a] X.env = [(false, eval a X.env)] := by rfl) : DI X F0 H0 m W (.Tuple elts kk tpos) (.Call (.Name "enumerate" p) [a] [] pos) (iA enumD t) := by
  refine pi_imp (pi_enum hg hm ha hs) fun σ H Q ⟨ρ, F, r, q⟩ => semA_I (f := enumD) r q fun ds vs F1 H1 _ l r1 q1 => ?_
  match ds, l, q1 with
  | [.list as], l, q1 =>
    obtain ⟨v, rfl, z1⟩ := one_of l
    obtain ⟨a1, xs, rfl, h1, l1⟩ := z1.list_inv
    exact ⟨a1, xs, rfl, r1.fh.seq h1, q1 _ F1 H1 (.refl r1.fh) (yl_enum h1 l1)⟩
end
end Pd

/-! Pd6: comprehensions, methods of built-ins, calls -/
namespace Pd
open PySem PySem.Spec PyProof.Rows L2
def noX {α : Type} : R α → R α
  | .ok a => .ok a
  | _ => .st
def wipeR (ρ : Rho) : List Nat → Rho
  | [] => ρ
  | v :: vs => (wipeR ρ vs).set v none
/-- one after another: target, test, element -/
def lcR (τ : D → Rho → R Rho) (p : Rho → R Bool) (ge : Rho → R D) (ρ : Rho) : List D → R (List D)
  | [] => .ok []
  | d :: ds => (τ d ρ).bind fun ρ1 => (p ρ1).bind fun k => if k = true then (ge ρ1).bind fun y => (lcR τ p ge ρ ds).bind fun ys => .ok (y :: ys) else lcR τ p ge ρ ds
def gLc (gi : Rho → R (List D)) (vs : List Nat) (τ : D → Rho → R Rho) (p : Rho → R Bool) (ge : Rho → R D) : Rho → R D := fun ρ => (gi ρ).bind fun items =>
  if items.length ≤ sizeLine then (noX (lcR τ p ge (wipeR ρ vs) items)).bind fun ys => .ok (.list ys) else .st
def W0 : WX := fun _ _ _ _ => False
def bYes : Rho → R Bool := fun _ => .ok true
theorem Rep.wipe1 {K : PySem.W.Frag} {F0 H0 F H : Hp} {m : List Bool} {ρ : Rho} {σ : L2.St} (r : Rep K F0 H0 m ρ σ F H) (i : Nat) : Rep K F0 H0 m (ρ.set i none) (σ.set i none) F H where
  len := by rw [List.length_set, List.length_set, r.len]
  fh := r.fh
  f0 := r.f0
  h0 := r.h0
  new := r.new
  val := fun j e a b => by
    rcases getElem?_set_cases a with ⟨_, z, _⟩ | ⟨hj, z⟩
    · cases z
    · rw [List.getElem?_set_ne (Ne.symm hj)]
      exact r.val j e z b
  own := fun j e a b => by
    rcases getElem?_set_cases a with ⟨_, z, _⟩ | ⟨hj, z⟩
    · cases z
    · rw [List.getElem?_set_ne (Ne.symm hj)]
      exact r.own j e z b
  apart := fun j k p d1 e1 hjk a b c c' q => by
    rcases getElem?_set_cases c with ⟨_, z, _⟩ | ⟨hj, z⟩
    · cases z
    · rcases getElem?_set_cases c' with ⟨_, z', _⟩ | ⟨hk, z'⟩
      · cases z'
      · rw [List.getElem?_set_ne (Ne.symm hj)] at q
        rw [List.getElem?_set_ne (Ne.symm hk)]
        exact r.apart j k p d1 e1 hjk a b z z' q
theorem Rep.wipe {K : PySem.W.Frag} {F0 H0 F H : Hp} {m : List Bool} {ρ : Rho} {σ : L2.St} (r : Rep K F0 H0 m ρ σ F H) : ∀ vs : List Nat, Rep K F0 H0 m (wipeR ρ vs) (L2.wipe σ vs) F H
  | [] => r
  | v :: vs => (r.wipe vs).wipe1 v
theorem wipe_same {σ σ2 : L2.St} (l : σ2.length = σ.length) : ∀ {vs : List Nat}, (∀ j, j ∉ vs → σ2[j]? = (L2.wipe σ vs)[j]?) → L2.wipe σ2 vs = L2.wipe σ vs := by
  intro vs h
  apply List.ext_getElem?
  intro j
  have key : ∀ (us : List Nat) (s : L2.St), j ∈ us → (L2.wipe s us)[j]? = if j < s.length then some none else none := by
    intro us s
    induction us with
    | nil => intro hj; cases hj
    | cons u us ih =>
      intro hj
      unfold L2.wipe
      by_cases e : j = u
      · subst e
        by_cases hl : j < s.length
        · rw [if_pos hl, List.getElem?_set_self (by rw [wipe_length]; exact hl)]
        · rw [if_neg hl, List.getElem?_eq_none (by rw [List.length_set, wipe_length]; omega)]
      · rw [List.getElem?_set_ne (Ne.symm e)]
        exact ih ((List.mem_cons.mp hj).resolve_left e)
  have key2 : ∀ (us : List Nat) (s : L2.St), j ∉ us → (L2.wipe s us)[j]? = s[j]? := by
    intro us s
    induction us with
    | nil => intro _; rfl
    | cons u us ih =>
      intro hj
      unfold L2.wipe
      rw [List.getElem?_set_ne (fun e => hj (by simp [e]))]
      exact ih fun z => hj (List.mem_cons_of_mem _ z)
  by_cases hj : j ∈ vs
  · rw [key vs σ2 hj, key vs σ hj, l]
  · rw [key2 vs σ2 hj, h j hj]
section
variable {X : Cx} {F0 H0 : Hp} {m m' : List Bool} {W : WX} {pos : Pos} {elt tg iter : Expr} {ifs : List Expr} {gi : Rho → R (List D)} {τ : D → Rho → R Rho} {p : Rho → R Bool} {ge : Rho → R D}
abbrev DTs (X : Cx) (F0 H0 : Hp) (m : List Bool) (W : WX) (es : List Expr) (g : Rho → R Bool) : Prop := PTs X es (tSemT X.K F0 H0 m W g)
theorem pts_imp {es : List Expr} {t t' : TT} (h : PTs X es t) (f : ∀ σ H Q, t' σ H Q → t σ H Q) : PTs X es t' := ⟨fun pins s σ H Q I q => h.run pins s σ H Q I (f σ H Q q)⟩
theorem dts_nil : DTs X F0 H0 m W [] bYes := pts_imp pts_nil fun σ H Q ⟨ρ, F, r, h⟩ => h F H (.refl r.fh)
theorem dts_one {c : Expr} (h : DT X F0 H0 m W c p) : DTs X F0 H0 m W [c] p := pts_one h
theorem lc_sem {K : PySem.W.Frag} {is vs : List Nat} (hv : ∀ i ∈ is, i ∈ vs) (σ : L2.St) (H : Hp) (Q : VK) (h : tSemN K F0 H0 m W (gLc gi vs τ p ge) σ H Q) :
    tLc (tSemI K F0 H0 m W gi) (tSemG K F0 H0 m m' is τ) (tSemT K F0 H0 m' W0 p) (tSem K F0 H0 m' W0 ge) vs σ H Q := by
  obtain ⟨ρ, F, r, h⟩ := h
  unfold gLc at h
  refine ⟨ρ, F, r, ?_⟩
  cases z : gi ρ with
  | ex x =>
    rw [z] at h
    exact h
  | st =>
    rw [z] at h
    exact h.elim
  | ok items =>
    rw [z] at h
    intro J F1 H1 x1 y1 Dn hD
    have h1 : afterN K W σ F H (if items.length ≤ sizeLine then (noX (lcR τ p ge (wipeR ρ vs) items)).bind fun ys => .ok (.list ys) else .st) Q := h
    by_cases hz : items.length ≤ sizeLine
    · rw [if_pos hz] at h1
      cases e : lcR τ p ge (wipeR ρ vs) items with
      | ex x => rw [e] at h1; exact h1.elim
      | st => rw [e] at h1; exact h1.elim
      | ok ys =>
        rw [e] at h1
        have r1 := r.ext x1
        -- the invariant
        refine ⟨fun i mm Hc => ∃ Fc acc done rest, Ext F1 H1 Fc Hc ∧ Fc Dn = none ∧ Hc Dn = some (.lst acc) ∧ IsL K Fc acc done ∧ done.length ≤ i ∧ lcR τ p ge (wipeR ρ vs) (items.drop i) = .ok rest ∧ done ++ rest = ys ∧ i ≤ items.length ∧ mm = items.length - i,
          ⟨items.length, F1, [], [], ys, .laid' x1.fh hD, x1.fh.free hD, upd_same, .nil, Nat.le_refl _, e, rfl, Nat.zero_le _, rfl⟩, ?_⟩
        rintro i mm Hc ⟨Fc, acc, done, rest, xc, fD, hDc, ic, dl, ec, ey, hi, rfl⟩
        have x2 := x1.trans xc
        have yc := y1 i Fc Hc xc.ff xc.fh
        by_cases hlt : i < items.length
        · obtain ⟨go, yld⟩ := yc.1 hlt
          refine .inr ⟨go, fun Hn => ∃ Fc acc done rest, Ext F1 H1 Fc Hn ∧ Fc Dn = none ∧ Hn Dn = some (.lst acc) ∧ IsL K Fc acc done ∧ done.length ≤ i + 1 ∧ lcR τ p ge (wipeR ρ vs) (items.drop (i + 1)) = .ok rest ∧ done ++ rest = ys, fun Hn ⟨Fc, acc, done, rest, q1, q2, q3, q4, q5, q6, q7⟩ =>
            ⟨items.length - (i + 1), by omega, Fc, acc, done, rest, q1, q2, q3, q4, q5, q6, q7, hlt, rfl⟩, fun x Hy y => ?_⟩
          obtain ⟨F2, d, hd, xe, ix⟩ := yld x Hy y
          have ed : items.drop i = d :: items.drop (i + 1) := by
            rw [List.drop_eq_getElem_cons hlt]
            rw [List.getElem?_eq_getElem hlt] at hd
            rw [Option.some.inj hd]
          rw [ed] at ec
          have fD2 : F2 Dn = none := xe.nw Dn (by rw [hDc]; simp) fD
          have hD2 : Hy Dn = some (.lst acc) := xe.hh _ _ hDc
          have r2 := ((r1.ext xc).ext xe).wipe vs
          refine ⟨wipeR ρ vs, F2, d, r2, ix, ?_⟩
          have ec' : ((τ d (wipeR ρ vs)).bind fun ρ1 => (p ρ1).bind fun k => if k = true then (ge ρ1).bind fun y => (lcR τ p ge (wipeR ρ vs) (items.drop (i + 1))).bind fun ys => .ok (y :: ys) else lcR τ p ge (wipeR ρ vs) (items.drop (i + 1))) = .ok rest := ec
          cases e1 : τ d (wipeR ρ vs) with
          | ex x => rw [e1] at ec'; cases ec'
          | st => rw [e1] at ec'; cases ec'
          | ok ρ1 =>
            rw [e1] at ec'
            intro σ1 r3 l3 k3
            refine ⟨wipe_same (by rw [l3, wipe_length]) fun j hj => k3 j fun z => hj (hv j z), ρ1, F2, r3, ?_⟩
            have ec2 : ((p ρ1).bind fun k => if k = true then (ge ρ1).bind fun y => (lcR τ p ge (wipeR ρ vs) (items.drop (i + 1))).bind fun ys => .ok (y :: ys) else lcR τ p ge (wipeR ρ vs) (items.drop (i + 1))) = .ok rest := ec'
            cases e2 : p ρ1 with
            | ex x => rw [e2] at ec2; cases ec2
            | st => rw [e2] at ec2; cases ec2
            | ok k =>
              rw [e2] at ec2
              intro F3 H3 x3
              have x4 := (xc.trans xe).trans x3
              have fD3 : F3 Dn = none := x3.nw Dn (by rw [hD2]; simp) fD2
              have hD3 : H3 Dn = some (.lst acc) := x3.hh _ _ hD2
              cases k with
              | false =>
                refine iteF ⟨F3, acc, done, rest, x4, fD3, hD3, (ic.mono xe.ff).mono x3.ff, by omega, ec2, ey⟩
              | true =>
                refine iteT ⟨ρ1, F3, r3.ext x3, ?_⟩
                have ec3 : ((ge ρ1).bind fun y => (lcR τ p ge (wipeR ρ vs) (items.drop (i + 1))).bind fun ys => .ok (y :: ys)) = .ok rest := ec2
                cases e3 : ge ρ1 with
                | ex x => rw [e3] at ec3; cases ec3
                | st => rw [e3] at ec3; cases ec3
                | ok y =>
                  rw [e3] at ec3
                  intro v F4 H4 x5 iv
                  have fD4 : F4 Dn = none := x5.nw Dn (by rw [hD3]; simp) fD3
                  have hD4 : H4 Dn = some (.lst acc) := x5.hh _ _ hD3
                  have i4 := ((ic.mono xe.ff).mono x3.ff).mono x5.ff
                  have ec4 : ((lcR τ p ge (wipeR ρ vs) (items.drop (i + 1))).bind fun ys => R.ok (y :: ys)) = .ok rest := ec3
                  cases e4 : lcR τ p ge (wipeR ρ vs) (items.drop (i + 1)) with
                  | ex x => rw [e4] at ec4; cases ec4
                  | st => rw [e4] at ec4; cases ec4
                  | ok ys2 =>
                    rw [e4] at ec4
                    injection ec4 with ec4
                    refine ⟨acc, hD4, by have := ic.1; omega, F4, acc ++ [v], done ++ [y], ys2, ?_, fD4, upd_same, i4.snoc iv, by simp; omega, rfl, ?_⟩
                    · have x6 := x4.trans x5
                      refine ⟨x6.ff, fun b u eb => ?_, fun b u eb => ?_, x6.nw⟩
                      · rw [upd_ne (ne_of_none eb hD)]
                        exact x6.hh b u eb
                      · rw [upd_ne (ne_of_none eb fD4)]
                        exact x6.fh b u eb
                    · rw [List.append_assoc, List.singleton_append, ec4]
                      exact ey
        · have ei : i = items.length := by omega
          subst ei
          rw [List.drop_length] at ec
          have er : rest = [] := by
            have : (R.ok [] : R (List D)) = .ok rest := ec
            injection this with this
            exact this.symm
          subst er
          rw [List.append_nil] at ey
          subst ey
          refine .inl ⟨yc.2 (Nat.le_refl _), h1 Dn (.lst acc) Fc Hc x2 hDc ic fD ?_⟩
          exact x1.hh.free hD
    · rw [if_neg hz] at h1
      exact h1.elim
theorem n_lc {scope : Scope} {own : List (Str × Nat)} {is : List Nat} (hc : X.calm = true) (hN : X.N.Nodup) (hi : DI X F0 H0 m W tg iter gi) (ok : blkC X.N X.env.scope scope own = true)
    (hg : ∀ (s : Shared) (H : Hp) (C : Addr) (cl : List (Str × Addr)) (fp : List Addr), DG (X.blk s H scope (compEnvC scope cl C X.env) fp) F0 H0 m m' is tg τ)
    (ht : ∀ (s : Shared) (H : Hp) (C : Addr) (cl : List (Str × Addr)) (fp : List Addr), DTs (X.blk s H scope (compEnvC scope cl C X.env) fp) F0 H0 m' W0 ifs p)
    (he : ∀ (s : Shared) (H : Hp) (C : Addr) (cl : List (Str × Addr)) (fp : List Addr), DE (X.blk s H scope (compEnvC scope cl C X.env) fp) F0 H0 m' W0 elt ge) (hv : ∀ i ∈ is, i ∈ own.map (·.2)) (hs : ∀ x, foldedSetIterable iter X.env x = pure x := by intro _; rfl) :
    DN X F0 H0 m W (.ListComp elt [⟨tg, iter, ifs, 0⟩] scope pos) (gLc gi (own.map (·.2)) τ p ge) :=
  pe_imp (pe_lc hc hN hi (blkOk_by ok) hg ht he hs) fun σ H Q h => lc_sem hv σ H Q h
end

/-! ### methods of built-ins -/
section
variable {X : Cx} {F0 H0 : Hp} {m : List Bool} {W : WX} {pos : Pos} {o e : Expr} {es : List Expr} {go g : Rho → R D} {t : Rho → R (List D)}
def tyOk (T : String) : D → Bool
  | .str _ => decide (T = "str")
  | .list _ => decide (T = "list")
  | _ => false
theorem tyOk_V {K : PySem.W.Frag} {F H : Hp} {T : String} {v : V} {d : D} (s : Same F H) (i : Is K F v d) (h : tyOk T d = true) : tyV K T v H := by
  cases i with
  | str x => exact (show T = "str" from of_decide_eq_true h)
  | list hl l e => exact .inl ⟨of_decide_eq_true h, _, s.seq hl⟩
  | _ => cases h
def MetD (K : PySem.W.Frag) (f : D → List D → R D) (r : V → List V → Hp → VK → Prop) : Prop :=
  ∀ (W : WX) (σ : L2.St) (F H : Hp) (d : D) (v : V) (ds : List D) (vs : List V) (Q : VK), Same F H → Is K F v d → IsL K F vs ds → after K W σ F H (f d ds) Q → r v vs H Q
def gMt (T : String) (f : D → List D → R D) (go : Rho → R D) (t : Rho → R (List D)) : Rho → R D := fun ρ => (go ρ).bind fun d => if tyOk T d = true then (t ρ).bind fun ds => f d ds else .st
theorem d_met {T : String} {id : String} {name : Str} {apos cpos : Pos} {f : D → List D → R D} {r : V → List V → Hp → VK → Prop} (pa : PlainAttrs T) (slot : Slot T name id) (hty : typeOf (.builtin id) = pure (.type "method_descriptor")) (hm : MtR X id r) (od : MetD X.K f r) (ho : DE X F0 H0 m W o go) (ha : DA X F0 H0 m W (e :: es) t)
    (hbase : attributeBase o name X.env (eval o X.env) = eval o X.env := by rfl)
    (hfew : ((backTo cpos (starEach (e :: es) X.env)).all (fun x => !x.1) && (backToKw cpos (keywordEach [] X.env)).all (fun x => x.1.isSome)
      && decide ((e :: es).length + ([] : List Keyword).length + (if ([] : List Keyword).isEmpty then 0 else 1) < 30)) = true := by rfl)
    (hline : (apos.endLine == cpos.line) = true := by rfl) (hs : starEach (e :: es) X.env = (false, eval e X.env) :: starEach es X.env := by rfl) (hplain : (backTo cpos (starEach es X.env)).any (·.1) = false := by rfl) :
    DE X F0 H0 m W (.Call (.Attribute o name apos) (e :: es) [] cpos) (gMt T f go t) := by
  refine pe_imp (pe_bm pa slot hty hm ho ha hbase hfew hline hs hplain) fun σ H Q ⟨ρ, F, r, h⟩ => ?_
  refine sem_bind (k := fun d => if tyOk T d = true then (t ρ).bind fun ds => f d ds else .st) r h fun d v F1 H1 _ i1 r1 h1 => ?_
  by_cases ht : tyOk T d = true
  · rw [if_pos ht] at h1
    refine ⟨tyOk_V r1.fh i1 ht, semA_bind (k := fun ds => f d ds) r1 h1 fun ds vs F2 H2 x2 i2 r2 h2 => od W σ F2 H2 d v ds vs Q r2.fh (i1.mono x2.ff) i2 h2⟩
  · rw [if_neg ht] at h1
    exact h1.elim
def strsOf : List D → Option (List Str)
  | [] => some []
  | .str s :: r => (strsOf r).map (s :: ·)
  | _ :: _ => none
theorem strs_is {K : PySem.W.Frag} {F : Hp} : ∀ {ds : List D} {vs : List V} {ys : List Str}, IsL K F vs ds → strsOf ds = some ys → vs = ys.map V.str
  | [], vs, ys, l, h => by cases h; exact l.unnil
  | d :: ds, vs, ys, l, h => by
    obtain ⟨x, xr, rfl, i, t⟩ := l.uncons
    cases d with
    | str s =>
      cases i
      have h' : (strsOf ds).map (s :: ·) = some ys := h
      cases e : strsOf ds with
      | none => rw [e] at h'; cases h'
      | some zs =>
        rw [e] at h'
        cases h'
        rw [strs_is t e]
        rfl
    | _ => cases h
def joinOk (a : Str) (ys : List Str) : Bool := decide ((ys.map (·.length)).sum + ys.length * a.length ≤ 16777216)
def joinSeq (a : Str) (ds : List D) : R D := match strsOf ds with
  | some ys => if joinOk a ys = true then .ok (.str (Txt.join a ys)) else .st
  | none => .st
def joinD : D → List D → R D
  | .str a, [.list ds] => joinSeq a ds
  | .str a, [.tup ds] => joinSeq a ds
  | _, _ => .st
theorem o_join {K : PySem.W.Frag} : MetD K joinD (fun x xs H Q => ∃ a p, ∃ ys : List Str, x = .str a ∧ xs = [.ref p] ∧ (SqL K H p (ys.map V.str) ∨ SqT K H p (ys.map V.str)) ∧ (ys.map (·.length)).sum + ys.length * a.length ≤ 16777216 ∧ Q (.str (Txt.join a ys)) H) := by
  intro W σ F H d v ds vs Q s i l q
  cases d with
  | str a =>
    cases i
    match ds, l, q with
    | [.list es], l, q =>
      obtain ⟨v, rfl, i⟩ := one_of l
      obtain ⟨p, xs, rfl, h, t⟩ := i.list_inv
      have q' : after K W σ F H (match strsOf es with | some ys => if joinOk a ys = true then .ok (.str (Txt.join a ys)) else .st | none => .st) Q := q
      cases e : strsOf es with
      | none => rw [e] at q'; exact q'.elim
      | some ys =>
        rw [e] at q'
        have q2 : after K W σ F H (if joinOk a ys = true then .ok (.str (Txt.join a ys)) else .st) Q := q'
        by_cases hz : joinOk a ys = true
        · rw [if_pos hz] at q2
          have e2 := strs_is t e
          subst e2
          exact ⟨a, p, ys, rfl, rfl, .inl (s.seq h), of_decide_eq_true hz, after.now q2 s (.str _)⟩
        · rw [if_neg hz] at q2
          exact q2.elim
    | [.tup es], l, q =>
      obtain ⟨v, rfl, i⟩ := one_of l
      obtain ⟨p, xs, rfl, h, t⟩ := i.tup_inv
      have q' : after K W σ F H (match strsOf es with | some ys => if joinOk a ys = true then .ok (.str (Txt.join a ys)) else .st | none => .st) Q := q
      cases e : strsOf es with
      | none => rw [e] at q'; exact q'.elim
      | some ys =>
        rw [e] at q'
        have q2 : after K W σ F H (if joinOk a ys = true then .ok (.str (Txt.join a ys)) else .st) Q := q'
        by_cases hz : joinOk a ys = true
        · rw [if_pos hz] at q2
          have e2 := strs_is t e
          subst e2
          exact ⟨a, p, ys, rfl, rfl, .inr (sameT s h), of_decide_eq_true hz, after.now q2 s (.str _)⟩
        · rw [if_neg hz] at q2
          exact q2.elim
  | _ => exact q.elim

/-! ### a def called -/
def spD (K : PySem.W.Frag) (G : List D → R D) : Sp := fun vs H Q E => ∃ ds F, IsL K F vs ds ∧ Same F H ∧ match G ds with
  | .ok d => ∀ v F' H', Ext F H F' H' → Is K F' v d → Q v H'
  | .ex x => ∀ cls od F' H', Ext F H F' H' → IsX K F' x cls od → E cls od H'
  | .st => False
/-- .. that hands back a new object of its own -/
def spN (K : PySem.W.Frag) (G : List D → R D) : Sp := fun vs H Q E => ∃ ds F, IsL K F vs ds ∧ Same F H ∧ match G ds with
  | .ok d => ∀ p o F' H', Ext F H F' H' → H' p = some o → IsC K F' o d → F' p = none → H p = none → Q (.ref p) H'
  | .ex x => ∀ cls od F' H', Ext F H F' H' → IsX K F' x cls od → E cls od H'
  | .st => False
theorem spN_of {K : PySem.W.Frag} {G : List D → R D} {vs : List V} {H : Hp} {Q : VK} {E : XK} (h : spD K G vs H Q E) : spN K G vs H Q E := by
  obtain ⟨ds, F, l, s, h⟩ := h
  refine ⟨ds, F, l, s, ?_⟩
  cases z : G ds with
  | ok d =>
    rw [z] at h
    exact fun p o F' H' x e c f n => h (.ref p) (upd F' p o) H' (x.share e f n) (is_of_c upd_same (c.mono (same_upd f)))
  | ex x =>
    rw [z] at h
    exact h
  | st =>
    rw [z] at h
    exact h
variable {f : Addr} {fd : FuncData} {ps : List Str} {k : Nat} {x : Str} {p : Pos} {G : List D → R D}
theorem d_call (C : FnOk X.prog X.w X.K X.mg X.base (L2.CX X.prog X.w) k f fd ps (spD X.K G)) (hr : Room k X.A) (hm : X.mg x = some (.ref f)) (hk : PySem.W.keepIn X.K (.ref f) = true) (hb : Binds X.K fd ps []) (tk : Takes X W) (ha : DA X F0 H0 m W (e :: es) t) (hg : Gl X x := by rfl)
    (hdb : (x == ("__debug__" : Str)) = false := by decide) (he : starEach (e :: es) X.env = (false, eval e X.env) :: starEach es X.env := by rfl) (hpl : (backTo pos (starEach es X.env)).any (·.1) = false := by rfl) : DE X F0 H0 m W (.Call (.Name x p) (e :: es) [] pos) (gA G t) := by
  refine pe_imp (pe_callS C hr hg hm hk hb (fun σ => passAt tk σ) ha hdb he hpl) fun σ H Q ⟨ρ, F, r, h⟩ => ?_
  refine semA_bind (k := G) r h fun ds vs F1 H1 _ i1 r1 h1 => ⟨ds, F1, i1, r1.fh, ?_⟩
  cases z : G ds with
  | ok d => rw [z] at h1; exact h1
  | ex x => rw [z] at h1; exact h1
  | st => rw [z] at h1; exact h1
theorem n_call (C : FnOk X.prog X.w X.K X.mg X.base (L2.CX X.prog X.w) k f fd ps (spN X.K G)) (hr : Room k X.A) (hm : X.mg x = some (.ref f)) (hk : PySem.W.keepIn X.K (.ref f) = true) (hb : Binds X.K fd ps []) (tk : Takes X W) (ha : DA X F0 H0 m W (e :: es) t) (hg : Gl X x := by rfl)
    (hdb : (x == ("__debug__" : Str)) = false := by decide) (he : starEach (e :: es) X.env = (false, eval e X.env) :: starEach es X.env := by rfl) (hpl : (backTo pos (starEach es X.env)).any (·.1) = false := by rfl) : DN X F0 H0 m W (.Call (.Name x p) (e :: es) [] pos) (gA G t) := by
  refine pe_imp (pe_callS C hr hg hm hk hb (fun σ => passAt tk σ) ha hdb he hpl) fun σ H Q ⟨ρ, F, r, h⟩ => ?_
  refine semA_bindN (k := G) r h fun ds vs F1 H1 _ i1 r1 h1 => ⟨ds, F1, i1, r1.fh, ?_⟩
  cases z : G ds with
  | ok d => rw [z] at h1; exact h1
  | ex x => rw [z] at h1; exact h1
  | st => rw [z] at h1; exact h1
end
end Pd

/-! Pd7: statements, defs -/
namespace Pd
open PySem PySem.Spec PyProof.Rows L2
/-- what a statement comes to; rn: a new object of the frame's own is handed back -/
inductive S where
  | nx (ρ : Rho) | rt (d : D) | rn (d : D) | bk (ρ : Rho) | ct (ρ : Rho) | ex (x : Ex) (ρ : Rho) | st
/-- all that the frame owns is shared from now on -/
theorem Rep.freeze {K : PySem.W.Frag} {F0 H0 F H : Hp} {m : List Bool} {ρ : Rho} {σ : L2.St} (r : Rep K F0 H0 m ρ σ F H) : ∃ F', Rep K F0 H0 [] ρ σ F' H ∧ Same F F' := by
  classical
  let O : Addr → Prop := fun p => ∃ (i : Nat) (d : D), ρ[i]? = some (some d) ∧ m[i]? = some true ∧ σ[i]? = some (some (.ref p))
  let F' : Hp := fun p => if O p then H p else F p
  have sF : Same F F' := fun b u e => by
    show (if O b then H b else F b) = some u
    by_cases h : O b
    · rw [if_pos h]; exact r.fh b u e
    · rw [if_neg h]; exact e
  refine ⟨F', ⟨r.len, fun b u e => ?_, r.f0.trans sF, r.h0, fun p h f => ?_, fun i d a _ => ?_, fun i d _ b => by simp at b, fun i j p d e _ a => by simp at a⟩, sF⟩
  · have e' : (if O b then H b else F b) = some u := e
    by_cases h : O b
    · rw [if_pos h] at e'; exact e'
    · rw [if_neg h] at e'; exact r.fh b u e'
  · show (if O p then H p else F p) = none
    by_cases ho : O p
    · obtain ⟨i, d, a, b, c⟩ := ho
      obtain ⟨q, o, e1, e2, e3, e4, e5⟩ := r.own i d a b
      rw [c] at e1
      cases e1
      exact absurd e5 h
    · rw [if_neg ho]; exact r.new p h f
  · by_cases b : m[i]? = some true
    · obtain ⟨p, o, e1, e2, e3, e4, e5⟩ := r.own i d a b
      refine ⟨.ref p, e1, is_of_c (o := o) ?_ (e3.mono sF)⟩
      show (if O p then H p else F p) = some o
      rw [if_pos ⟨i, d, a, b, e1⟩]; exact e2
    · obtain ⟨v, e1, e2⟩ := r.val i d a b
      exact ⟨v, e1, e2.mono sF⟩
theorem Is.monoX {K : PySem.W.Frag} {F F' : Hp} {x : Ex} {cls : Value} {od : Option Addr} (h : IsX K F x cls od) (s : Same F F') : IsX K F' x cls od :=
  ⟨h.1, fun n => let ⟨d, vs, e, a, b⟩ := h.2 n; ⟨d, vs, e, s _ _ a, b.mono s⟩⟩
def afterS (K : PySem.W.Frag) (F0 H0 : Hp) (m' mL : List Bool) (W : WX) (Fb : Hp) (r : S) (E : Ends) : Prop := match r with
  | .nx ρ => ∀ σ F H, Rep K F0 H0 m' ρ σ F H → Same Fb F → E.nx σ H
  | .rt d => ∀ v F H, Ext F0 H0 F H → Is K F v d → E.rt v H
  | .rn d => ∀ p o F H, Ext F0 H0 F H → H p = some o → IsC K F o d → F p = none → H0 p = none → E.rt (.ref p) H
  | .bk ρ => ∀ σ F H, Rep K F0 H0 mL ρ σ F H → Same Fb F → E.bk σ H
  | .ct ρ => ∀ σ F H, Rep K F0 H0 mL ρ σ F H → Same Fb F → E.ct σ H
  | .ex x ρ => ∀ cls od σ F H, Rep K F0 H0 [] ρ σ F H → IsX K F x cls od → W cls od σ H
  | .st => False
def tSemS (K : PySem.W.Frag) (F0 H0 : Hp) (m m' mL : List Bool) (W : WX) (s : Rho → S) : TS := fun E σ H => ∃ ρ F, Rep K F0 H0 m ρ σ F H ∧ afterS K F0 H0 m' mL W F (s ρ) E
theorem afterS.mono {K : PySem.W.Frag} {F0 H0 F F2 : Hp} {m' mL : List Bool} {W : WX} {r : S} {E : Ends} (h : afterS K F0 H0 m' mL W F r E) (s : Same F F2) : afterS K F0 H0 m' mL W F2 r E := by
  cases r with
  | nx ρ => exact fun σ F' H' r x => h σ F' H' r (s.trans x)
  | bk ρ => exact fun σ F' H' r x => h σ F' H' r (s.trans x)
  | ct ρ => exact fun σ F' H' r x => h σ F' H' r (s.trans x)
  | _ => exact h
abbrev DS (X : Cx) (F0 H0 : Hp) (m m' mL : List Bool) (W : WX) (st : Stmt) (s : Rho → S) : Prop := PS X st (tSemS X.K F0 H0 m m' mL W s)
abbrev DSs (X : Cx) (F0 H0 : Hp) (m m' mL : List Bool) (W : WX) (st : List Stmt) (s : Rho → S) : Prop := PSs X st (tSemS X.K F0 H0 m m' mL W s)
theorem Rep.ext0 {K : PySem.W.Frag} {F0 H0 F H : Hp} {m : List Bool} {ρ : Rho} {σ : L2.St} (r : Rep K F0 H0 m ρ σ F H) : Ext F0 H0 F H := ⟨r.f0, r.h0, r.fh, r.new⟩
section
variable {X : Cx} {F0 H0 : Hp} {m m' m2 mL : List Bool} {W : WX} {pos : Pos} {e : Expr} {st : Stmt} {sts : List Stmt} {g : Rho → R D} {s u : Rho → S}
/-! ### blocks -/
def sNil : Rho → S := fun ρ => .nx ρ
def sSeq (s u : Rho → S) : Rho → S := fun ρ => match s ρ with
  | .nx ρ1 => u ρ1
  | r => r
theorem ss_nil : DSs X F0 H0 m m mL W [] sNil := pss_imp pss_nil fun E σ H ⟨ρ, F, r, h⟩ => h σ F H r (.refl F)
theorem ss_one (h : DS X F0 H0 m m' mL W st s) : DSs X F0 H0 m m' mL W [st] s := pss_one h
theorem ss_cons (h1 : DS X F0 H0 m m2 mL W st s) (h2 : DSs X F0 H0 m2 m' mL W sts u) : DSs X F0 H0 m m' mL W (st :: sts) (sSeq s u) := by
  refine pss_imp (pss_cons h1 h2) fun E σ H ⟨ρ, F, r, h⟩ => ⟨ρ, F, r, ?_⟩
  unfold sSeq at h
  cases z : s ρ with
  | nx ρ1 =>
    rw [z] at h
    exact fun σ1 F1 H1 r1 x1 => ⟨ρ1, F1, r1, h.mono x1⟩
  | _ => rw [z] at h; exact h
/-- an expression is read, then the rest -/
theorem semS {K : PySem.W.Frag} {σ : L2.St} {F H : Hp} {ρ : Rho} {k : D → S} {E : Ends} {Φ : VK} (r : Rep K F0 H0 m ρ σ F H)
    (h : afterS K F0 H0 m' mL W F (match g ρ with | .ok d => k d | .ex x => .ex x ρ | .st => .st) E)
    (f : ∀ d v F' H', Is K F' v d → Rep K F0 H0 m ρ σ F' H' → Same F F' → afterS K F0 H0 m' mL W F' (k d) E → Φ v H') : tSem K F0 H0 m W g σ H Φ := by
  refine ⟨ρ, F, r, ?_⟩
  cases z : g ρ with
  | ok d =>
    rw [z] at h
    exact fun v F' H' x i => f d v F' H' i (r.ext x) x.ff (h.mono x.ff)
  | ex x =>
    rw [z] at h
    intro cls od F' H' xe i
    obtain ⟨F2, r2, s2⟩ := (r.ext xe).freeze
    exact h cls od σ F2 H' r2 (Is.monoX i s2)
  | st =>
    rw [z] at h
    exact h.elim
theorem semST {K : PySem.W.Frag} {σ : L2.St} {F H : Hp} {ρ : Rho} {p : Rho → R Bool} {k : Bool → S} {E : Ends} {Φ : Bool → Hp → Prop} (r : Rep K F0 H0 m ρ σ F H)
    (h : afterS K F0 H0 m' mL W F (match p ρ with | .ok d => k d | .ex x => .ex x ρ | .st => .st) E)
    (f : ∀ d F' H', Rep K F0 H0 m ρ σ F' H' → Same F F' → afterS K F0 H0 m' mL W F' (k d) E → Φ d H') : tSemT K F0 H0 m W p σ H Φ := by
  refine ⟨ρ, F, r, ?_⟩
  cases z : p ρ with
  | ok d =>
    rw [z] at h
    exact fun F' H' x => f d F' H' (r.ext x) x.ff (h.mono x.ff)
  | ex x =>
    rw [z] at h
    intro cls od F' H' xe i
    obtain ⟨F2, r2, s2⟩ := (r.ext xe).freeze
    exact h cls od σ F2 H' r2 (Is.monoX i s2)
  | st =>
    rw [z] at h
    exact h.elim
/-- .. that makes a new object -/
theorem semSN {K : PySem.W.Frag} {σ : L2.St} {F H : Hp} {ρ : Rho} {k : D → S} {E : Ends} {Φ : VK} (r : Rep K F0 H0 m ρ σ F H)
    (h : afterS K F0 H0 m' mL W F (match g ρ with | .ok d => k d | .ex x => .ex x ρ | .st => .st) E)
    (f : ∀ d p o F' H', H' p = some o → IsC K F' o d → F' p = none → H p = none → Same H H' → Rep K F0 H0 m ρ σ F' H' → Same F F' → afterS K F0 H0 m' mL W F' (k d) E → Φ (.ref p) H') : tSemN K F0 H0 m W g σ H Φ := by
  refine ⟨ρ, F, r, ?_⟩
  cases z : g ρ with
  | ok d =>
    rw [z] at h
    exact fun p o F' H' x e c fn n => f d p o F' H' e c fn n x.hh (r.ext x) x.ff (h.mono x.ff)
  | ex x =>
    rw [z] at h
    intro cls od F' H' xe i
    obtain ⟨F2, r2, s2⟩ := (r.ext xe).freeze
    exact h cls od σ F2 H' r2 (Is.monoX i s2)
  | st =>
    rw [z] at h
    exact h.elim
/-! ### small statements -/
def sE (g : Rho → R D) (k : Rho → D → S) : Rho → S := fun ρ => match g ρ with
  | .ok d => k ρ d
  | .ex x => .ex x ρ
  | .st => .st
def sDrop (g : Rho → R D) : Rho → S := sE g fun ρ _ => .nx ρ
theorem s_expr (he : DE X F0 H0 m W e g) (hs : swapsWith e none pos.line X.env = pure false := by rfl) : DS X F0 H0 m m mL W (.Expr e pos) (sDrop g) :=
  ps_imp (ps_expr he hs) fun E σ H ⟨ρ, F, r, h⟩ => semS (k := fun _ => .nx ρ) r h fun d v F1 H1 i1 r1 _ h1 => h1 σ F1 H1 r1 (.refl F1)
def sRet (g : Rho → R D) : Rho → S := sE g fun _ d => .rt d
theorem s_ret (he : DE X F0 H0 m W e g) : DS X F0 H0 m m' mL W (.Return (some e) pos) (sRet g) :=
  ps_imp (ps_ret he) fun E σ H ⟨ρ, F, r, h⟩ => semS (k := fun d => .rt d) r h fun d v F1 H1 i1 r1 _ h1 => h1 v F1 H1 r1.ext0 i1
def sRetN (g : Rho → R D) : Rho → S := sE g fun _ d => .rn d
theorem s_retN (he : DN X F0 H0 m W e g) : DS X F0 H0 m m' mL W (.Return (some e) pos) (sRetN g) :=
  ps_imp (ps_ret he) fun E σ H ⟨ρ, F, r, h⟩ => semSN (k := fun d => .rn d) r h fun d p o F1 H1 e c f n s r1 _ h1 => h1 p o F1 H1 r1.ext0 e c f (r.h0.free n)
/-- return x, x the frame's own -/
def sRetO (i : Nat) : Rho → S := fun ρ => match ρ[i]? with
  | some (some d) => .rn d
  | _ => .st
theorem s_retO (i : Nat) {x : Str} {p2 : Pos} (hN : X.N[i]? = some x := by rfl) (hv : Vis X.env.scope x := by first | exact Or.inl rfl | exact Or.inr (Or.inl rfl) | exact Or.inr (Or.inr rfl)) (hm : m[i]? = some true := by rfl) (hd : (x == ("__debug__" : Str)) = false := by decide)
    (hcd : (x == ("__classdict__" : Str)) = false := by decide) : DS X F0 H0 m m' mL W (.Return (some (.Name x p2)) pos) (sRetO i) := by
  refine ps_imp (ps_ret (pe_var hN hv hd hcd)) fun E σ H ⟨ρ, F, r, h⟩ => ?_
  unfold sRetO at h
  split at h
  · rename_i d e
    obtain ⟨p, o, e1, e2, e3, e4, e5⟩ := r.own i d e hm
    exact ⟨.ref p, e1, h p o F H r.ext0 e2 e3 e4 e5⟩
  · exact h.elim
theorem s_retNone : DS X F0 H0 m m' mL W (.Return none pos) (sRet (gC .non)) :=
  ps_imp ps_retN fun E σ H ⟨ρ, F, r, h⟩ => h .non F H r.ext0 .non
theorem s_pass : DS X F0 H0 m m mL W (.Pass pos) sNil := ps_imp ps_pass fun E σ H ⟨ρ, F, r, h⟩ => h σ F H r (.refl F)
def sBrk : Rho → S := fun ρ => .bk ρ
def sCnt : Rho → S := fun ρ => .ct ρ
theorem s_break : DS X F0 H0 m m' m W (.Break pos) sBrk := ps_imp ps_break fun E σ H ⟨ρ, F, r, h⟩ => h σ F H r (.refl F)
theorem s_continue : DS X F0 H0 m m' m W (.Continue pos) sCnt := ps_imp ps_continue fun E σ H ⟨ρ, F, r, h⟩ => h σ F H r (.refl F)
/-- x = e -/
def sSet (i : Nat) (g : Rho → R D) : Rho → S := sE g fun ρ d => .nx (ρ.set i (some d))
theorem s_set (i : Nat) {x : Str} {p2 : Pos} (hN : X.N.Nodup) (he : DE X F0 H0 m W e g) (hi : X.N[i]? = some x := by rfl) (hx : Loc X.env.scope x := by exact Or.inl rfl) (hs : swapsWith e (some (.Name x p2)) pos.line X.env = pure false := by rfl) (hf : X.fn x = true ∨ X.env.scope.names.lookup x = some .local := by first | exact .inl rfl | exact .inr rfl | assumption) :
    DS X F0 H0 m (m.set i false) mL W (.Assign [.Name x p2] e pos) (sSet i g) :=
  ps_imp (ps_set hN hi hx he hs hf) fun E σ H ⟨ρ, F, r, h⟩ => semS (k := fun d => .nx (ρ.set i (some d))) r h fun d v F1 H1 i1 r1 _ h1 => h1 _ F1 H1 (r1.set i i1) (.refl F1)
/-- a slot gets an object of the frame's own -/
theorem Rep.setN {K : PySem.W.Frag} {ρ : Rho} {σ : L2.St} {F H : Hp} {p : Addr} {o : HO} {d : D} (r : Rep K F0 H0 m ρ σ F H) (i : Nat) (hm : i < m.length) (h : H p = some o) (c : IsC K F o d) (f : F p = none) (n : H0 p = none)
    (ne : ∀ (j : Nat) q e, m[j]? = some true → ρ[j]? = some (some e) → σ[j]? = some (some (.ref q)) → q ≠ p) : Rep K F0 H0 (m.set i true) (ρ.set i (some d)) (σ.set i (some (.ref p))) F H where
  len := by rw [List.length_set, List.length_set, r.len]
  fh := r.fh
  f0 := r.f0
  h0 := r.h0
  new := r.new
  val := fun j e a b => by
    rcases getElem?_set_cases a with ⟨rfl, z, hl⟩ | ⟨hj, z⟩
    · cases z
      rw [List.getElem?_set_self hm] at b
      exact absurd rfl b
    · rw [List.getElem?_set_ne (Ne.symm hj)]
      exact r.val j e z (by rw [mset' hj] at b; exact b)
  own := fun j e a b => by
    rcases getElem?_set_cases a with ⟨rfl, z, hl⟩ | ⟨hj, z⟩
    · cases z
      exact ⟨p, o, by rw [List.getElem?_set_self (by rw [r.len]; exact hl)], h, c, f, n⟩
    · rw [List.getElem?_set_ne (Ne.symm hj)]
      exact r.own j e z (by rw [mset' hj] at b; exact b)
  apart := fun j k q d1 e1 hjk a b c1 c2 e => by
    rcases getElem?_set_cases c1 with ⟨rfl, z, hl⟩ | ⟨hj, z⟩
    · rcases getElem?_set_cases c2 with ⟨rfl, z', hl'⟩ | ⟨hk, z'⟩
      · exact absurd rfl hjk
      · rw [List.getElem?_set_ne (Ne.symm hk)]
        rw [List.getElem?_set_self (by rw [r.len]; exact hl)] at e
        cases e
        intro w
        exact ne k _ e1 (by rw [mset' hk] at b; exact b) z' w rfl
    · rcases getElem?_set_cases c2 with ⟨rfl, z', hl'⟩ | ⟨hk, z'⟩
      · rw [List.getElem?_set_ne (Ne.symm hj)] at e
        rw [List.getElem?_set_self (by rw [r.len]; exact hl')]
        intro w
        cases w
        exact ne j _ d1 (by rw [mset' hj] at a; exact a) z e rfl
      · rw [List.getElem?_set_ne (Ne.symm hj)] at e
        rw [List.getElem?_set_ne (Ne.symm hk)]
        exact r.apart j k q d1 e1 hjk (by rw [mset' hj] at a; exact a) (by rw [mset' hk] at b; exact b) z z' e
theorem s_setN (i : Nat) {x : Str} {p2 : Pos} (hN : X.N.Nodup) (he : DN X F0 H0 m W e g) (hm : i < m.length := by decide) (hi : X.N[i]? = some x := by rfl) (hx : Loc X.env.scope x := by exact Or.inl rfl) (hs : swapsWith e (some (.Name x p2)) pos.line X.env = pure false := by rfl) (hf : X.fn x = true ∨ X.env.scope.names.lookup x = some .local := by first | exact .inl rfl | exact .inr rfl | assumption) :
    DS X F0 H0 m (m.set i true) mL W (.Assign [.Name x p2] e pos) (sSet i g) :=
  ps_imp (ps_set hN hi hx he hs hf) fun E σ H ⟨ρ, F, r, h⟩ => semSN (k := fun d => .nx (ρ.set i (some d))) r h fun d p o F1 H1 e c f n s r1 _ h1 => h1 _ F1 H1 (r1.setN i hm e c f (r.h0.free n) fun j q e' a b c' w => by
    obtain ⟨q', o', e1, e2, _⟩ := r.own j e' b a
    rw [c'] at e1
    cases e1
    rw [w, n] at e2
    cases e2) (.refl F1)
/-- one slot's object is shared from now on -/
theorem Rep.share {K : PySem.W.Frag} {ρ : Rho} {σ : L2.St} {F H : Hp} (r : Rep K F0 H0 m ρ σ F H) (i : Nat) : ∃ F', Rep K F0 H0 (m.set i false) ρ σ F' H ∧ Same F F' := by
  by_cases hm : m[i]? = some true
  · by_cases hd : ∃ d, ρ[i]? = some (some d)
    · obtain ⟨d, hd⟩ := hd
      obtain ⟨p, o, e1, e2, e3, e4, e5⟩ := r.own i d hd hm
      have sF : Same F (upd F p o) := same_upd e4
      refine ⟨upd F p o, ⟨r.len, fun b u e => ?_, r.f0.trans sF, r.h0, fun b h f => ?_, fun j d' a b => ?_, fun j d' a b => ?_, fun j k q d1 e1' hjk a b c c' q' => ?_⟩, sF⟩
      · by_cases q : b = p
        · subst q; rw [upd_same] at e; rw [e2]; exact e
        · rw [upd_ne q] at e; exact r.fh b u e
      · have q : b ≠ p := fun z => h (z ▸ e5)
        rw [upd_ne q]; exact r.new b h f
      · by_cases hj : j = i
        · subst hj
          rw [hd] at a
          cases a
          exact ⟨.ref p, e1, is_of_c upd_same (e3.mono sF)⟩
        · obtain ⟨v, z1, z2⟩ := r.val j d' a (by rw [mset' hj] at b; exact b)
          exact ⟨v, z1, z2.mono sF⟩
      · obtain ⟨hj, b⟩ := mset b
        obtain ⟨p', o', z1, z2, z3, z4, z5⟩ := r.own j d' a b
        have q : p' ≠ p := fun w => r.apart j i p d' d hj b hm a hd (w ▸ z1) e1
        exact ⟨p', o', z1, z2, z3.mono sF, by rw [upd_ne q]; exact z4, z5⟩
      · obtain ⟨hj, a⟩ := mset a
        obtain ⟨hk, b⟩ := mset b
        exact r.apart j k q d1 e1' hjk a b c c' q'
    · refine ⟨F, ⟨r.len, r.fh, r.f0, r.h0, r.new, fun j d' a b => ?_, fun j d' a b => ?_, fun j k q d1 e1' hjk a b c c' q' => ?_⟩, .refl F⟩
      · have hj : j ≠ i := fun z => hd ⟨d', z ▸ a⟩
        exact r.val j d' a (by rw [mset' hj] at b; exact b)
      · obtain ⟨hj, b⟩ := mset b
        exact r.own j d' a b
      · obtain ⟨hj, a⟩ := mset a
        obtain ⟨hk, b⟩ := mset b
        exact r.apart j k q d1 e1' hjk a b c c' q'
  · refine ⟨F, ⟨r.len, r.fh, r.f0, r.h0, r.new, fun j d' a b => ?_, fun j d' a b => ?_, fun j k q d1 e1' hjk a b c c' q' => ?_⟩, .refl F⟩
    · refine r.val j d' a fun z => ?_
      by_cases hj : j = i
      · subst hj; exact hm z
      · rw [mset' hj] at b; exact b z
    · obtain ⟨hj, b⟩ := mset b
      exact r.own j d' a b
    · obtain ⟨hj, a⟩ := mset a
      obtain ⟨hk, b⟩ := mset b
      exact r.apart j k q d1 e1' hjk a b c c' q'
theorem ss_share (i : Nat) (h : DSs X F0 H0 (m.set i false) m' mL W sts s) : DSs X F0 H0 m m' mL W sts s := pss_imp h fun E σ H ⟨ρ, F, r, q⟩ => by
  obtain ⟨F', r', x⟩ := r.share i
  exact ⟨ρ, F', r', q.mono x⟩
/-! ### if, for, while -/
def sIf (p : Rho → R Bool) (s u : Rho → S) : Rho → S := fun ρ => match p ρ with
  | .ok b => if b = true then s ρ else u ρ
  | .ex x => .ex x ρ
  | .st => .st
theorem s_if {c : Expr} {a b : List Stmt} {p : Rho → R Bool} (hc : DT X F0 H0 m W c p) (ha : DSs X F0 H0 m m' mL W a s) (hb : DSs X F0 H0 m m' mL W b u) : DS X F0 H0 m m' mL W (.If c a b pos) (sIf p s u) := by
  refine ps_imp (ps_if hc ha hb) fun E σ H ⟨ρ, F, r, h⟩ => semST (k := fun b => if b = true then s ρ else u ρ) r h fun b F1 H1 r1 _ h1 => ?_
  cases b with
  | true => exact iteT ⟨ρ, F1, r1, h1⟩
  | false => exact iteF ⟨ρ, F1, r1, h1⟩
def forL (τ : D → Rho → R Rho) (b : Rho → S) : List D → Rho → S
  | [], ρ => .nx ρ
  | d :: ds, ρ => match τ d ρ with
    | .ok ρ1 => match b ρ1 with
      | .nx ρ2 => forL τ b ds ρ2
      | .ct ρ2 => forL τ b ds ρ2
      | .bk ρ2 => .nx ρ2
      | r => r
    | _ => .st
def sFor (gi : Rho → R (List D)) (τ : D → Rho → R Rho) (b : Rho → S) : Rho → S := fun ρ => match gi ρ with
  | .ok items => forL τ b items ρ
  | .ex x => .ex x ρ
  | .st => .st
theorem s_for {tg iter : Expr} {body : List Stmt} {gi : Rho → R (List D)} {τ : D → Rho → R Rho} {b : Rho → S} {m1 : List Bool} {is : List Nat} (hp : PassesOwn (model X.prog X.w) X.A X.env X.xe) (hc : X.calm = true) (hi : DI X F0 H0 m W tg iter gi) (hg : DG X F0 H0 m m1 is tg τ) (hb : DSs X F0 H0 m1 m m W body b)
    (hs : ∀ x, foldedSetIterable iter X.env x = pure x := by intro _; rfl) : DS X F0 H0 m m mL W (.For tg iter body [] pos) (sFor gi τ b) := by
  refine ps_imp (ps_for hp hc hi hg hb hs) fun E σ H ⟨ρ, F, r, h⟩ => ⟨ρ, F, r, ?_⟩
  unfold sFor at h
  cases z : gi ρ with
  | ex x =>
    rw [z] at h
    intro cls od F' H' xe i
    obtain ⟨F2, r2, s2⟩ := (r.ext xe).freeze
    exact h cls od σ F2 H' r2 (Is.monoX i s2)
  | st => rw [z] at h; exact h.elim
  | ok items =>
    rw [z] at h
    intro J F1 H1 x1 y1
    refine ⟨fun i mm σ H => ∃ ρ F, Rep X.K F0 H0 m ρ σ F H ∧ Same F1 F ∧ i ≤ items.length ∧ mm = items.length - i ∧ afterS X.K F0 H0 m mL W F (forL τ b (items.drop i) ρ) E, ⟨items.length, ρ, F1, r.ext x1, .refl _, Nat.zero_le _, rfl, h.mono x1.ff⟩, ?_⟩
    rintro i mm σ2 H2 ⟨ρ2, F2, r2, x2, hi, rfl, h2⟩
    have yc := y1 i F2 H2 x2 r2.fh
    by_cases hlt : i < items.length
    · obtain ⟨go, yld⟩ := yc.1 hlt
      refine .inr ⟨go, fun σ3 H3 => ∃ ρ3 F3, Rep X.K F0 H0 m ρ3 σ3 F3 H3 ∧ Same F1 F3 ∧ afterS X.K F0 H0 m mL W F3 (forL τ b (items.drop (i + 1)) ρ3) E, fun σ3 H3 ⟨ρ3, F3, q1, q2, q3⟩ => ⟨items.length - (i + 1), by omega, ρ3, F3, q1, q2, hlt, rfl, q3⟩, fun x Hy y => ?_⟩
      obtain ⟨F3, d, hd, xe, ix⟩ := yld x Hy y
      have ed : items.drop i = d :: items.drop (i + 1) := by
        rw [List.drop_eq_getElem_cons hlt]
        rw [List.getElem?_eq_getElem hlt] at hd
        rw [Option.some.inj hd]
      rw [ed] at h2
      refine ⟨ρ2, F3, d, r2.ext xe, ix, ?_⟩
      have h3 : afterS X.K F0 H0 m mL W F3 (match τ d ρ2 with
        | .ok ρ1 => match b ρ1 with
          | .nx ρ2 => forL τ b (items.drop (i + 1)) ρ2
          | .ct ρ2 => forL τ b (items.drop (i + 1)) ρ2
          | .bk ρ2 => .nx ρ2
          | r => r
        | _ => .st) E := h2.mono xe.ff
      cases z1 : τ d ρ2 with
      | ex x => rw [z1] at h3; exact h3.elim
      | st => rw [z1] at h3; exact h3.elim
      | ok ρ4 =>
        rw [z1] at h3
        intro σ4 r4 _ _
        refine ⟨ρ4, F3, r4, ?_⟩
        have h4 : afterS X.K F0 H0 m mL W F3 (match b ρ4 with
          | .nx ρ2 => forL τ b (items.drop (i + 1)) ρ2
          | .ct ρ2 => forL τ b (items.drop (i + 1)) ρ2
          | .bk ρ2 => .nx ρ2
          | r => r) E := h3
        cases z2 : b ρ4 with
        | nx ρ5 =>
          rw [z2] at h4
          exact fun σ5 F5 H5 r5 x5 => ⟨ρ5, F5, r5, (x2.trans xe.ff).trans x5, h4.mono x5⟩
        | ct ρ5 =>
          rw [z2] at h4
          exact fun σ5 F5 H5 r5 x5 => ⟨ρ5, F5, r5, (x2.trans xe.ff).trans x5, h4.mono x5⟩
        | bk ρ5 =>
          rw [z2] at h4
          exact h4
        | rt d => rw [z2] at h4; exact h4
        | rn d => rw [z2] at h4; exact h4
        | ex x ρ5 => rw [z2] at h4; exact h4
        | st => rw [z2] at h4; exact h4
    · have ei : i = items.length := by omega
      subst ei
      rw [List.drop_length] at h2
      exact .inl ⟨yc.2 (Nat.le_refl _), h2 σ2 F2 H2 r2 (.refl F2)⟩
def whileL (p : Rho → R Bool) (b : Rho → S) : Nat → Rho → S
  | 0, _ => .st
  | n + 1, ρ => match p ρ with
    | .ok k => if k = true then (match b ρ with
      | .nx ρ2 => whileL p b n ρ2
      | .ct ρ2 => whileL p b n ρ2
      | .bk ρ2 => .nx ρ2
      | r => r) else .nx ρ
    | .ex x => .ex x ρ
    | .st => .st
/-- fuel: how many turns at most (one more) -/
def sWhile (fuel : Rho → Nat) (p : Rho → R Bool) (b : Rho → S) : Rho → S := fun ρ => whileL p b (fuel ρ) ρ
theorem s_while {c : Expr} {body : List Stmt} {p : Rho → R Bool} {b : Rho → S} (fuel : Rho → Nat) (hp : PassesOwn (model X.prog X.w) X.A X.env X.xe) (hc : DT X F0 H0 m W c p) (hb : DSs X F0 H0 m m m W body b) : DS X F0 H0 m m mL W (.While c body [] pos) (sWhile fuel p b) := by
  refine ps_imp (ps_while hp hc hb) fun E σ H ⟨ρ, F, r, h⟩ => ?_
  refine ⟨fun n σ H => ∃ ρ F, Rep X.K F0 H0 m ρ σ F H ∧ afterS X.K F0 H0 m mL W F (whileL p b n ρ) E, ⟨fuel ρ, ρ, F, r, h⟩, ?_⟩
  rintro n σ1 H1 ⟨ρ1, F1, r1, h1⟩
  cases n with
  | zero => exact h1.elim
  | succ n =>
    refine semST (k := fun k => if k = true then (match b ρ1 with | .nx ρ2 => whileL p b n ρ2 | .ct ρ2 => whileL p b n ρ2 | .bk ρ2 => .nx ρ2 | r => r) else .nx ρ1) r1 h1 fun k F2 H2 r2 _ h2 => ?_
    cases k with
    | false => exact iteF (h2 σ1 F2 H2 r2 (.refl F2))
    | true =>
      refine iteT ⟨fun σ3 H3 => ∃ ρ F, Rep X.K F0 H0 m ρ σ3 F H3 ∧ afterS X.K F0 H0 m mL W F (whileL p b n ρ) E, fun σ3 H3 q => ⟨n, Nat.lt_succ_self _, q⟩, ρ1, F2, r2, ?_⟩
      have h4 : afterS X.K F0 H0 m mL W F2 (match b ρ1 with | .nx ρ2 => whileL p b n ρ2 | .ct ρ2 => whileL p b n ρ2 | .bk ρ2 => .nx ρ2 | r => r) E := h2
      cases z2 : b ρ1 with
      | nx ρ5 =>
        rw [z2] at h4
        exact fun σ5 F5 H5 r5 x5 => ⟨ρ5, F5, r5, h4.mono x5⟩
      | ct ρ5 =>
        rw [z2] at h4
        exact fun σ5 F5 H5 r5 x5 => ⟨ρ5, F5, r5, h4.mono x5⟩
      | bk ρ5 => rw [z2] at h4; exact h4
      | rt d => rw [z2] at h4; exact h4
      | rn d => rw [z2] at h4; exact h4
      | ex x ρ5 => rw [z2] at h4; exact h4
      | st => rw [z2] at h4; exact h4
/-! ### targets of any form; += -/
def sAsg (g : Rho → R D) (τ : D → Rho → R Rho) : Rho → S := sE g fun ρ d => match τ d ρ with
  | .ok ρ' => .nx ρ'
  | _ => .st
theorem s_asg {tg : Expr} {τ : D → Rho → R Rho} {is : List Nat} (he : DE X F0 H0 m W e g) (hg : DG X F0 H0 m m' is tg τ) (hs : swapsWithSole [tg] e pos.line X.env = pure false := by rfl) (hw : swappedStores [tg] e X.env = pure none := by rfl)
    (h1 : (assignEach [tg] X.env).map (·.2) = [assign tg X.env] := by rfl) : DS X F0 H0 m m' mL W (.Assign [tg] e pos) (sAsg g τ) := by
  refine ps_imp (ps_asg he hg hs hw h1) fun E σ H ⟨ρ, F, r, h⟩ => semS (k := fun d => match τ d ρ with | .ok ρ' => .nx ρ' | _ => .st) r h fun d v F1 H1 i1 r1 _ h1 => ⟨ρ, F1, d, r1, i1, ?_⟩
  cases z : τ d ρ with
  | ok ρ' =>
    rw [z] at h1
    exact fun σ' r' _ _ => h1 σ' F1 H1 r' (.refl F1)
  | ex x => rw [z] at h1; exact h1
  | st => rw [z] at h1; exact h1
def sAug (i : Nat) (f : D → D → R D) (g : Rho → R D) : Rho → S := fun ρ => match ρ[i]? with
  | some (some d) => sE g (fun ρ e => match f d e with
    | .ok z => .nx (ρ.set i (some z))
    | .ex x => .ex x ρ
    | .st => .st) ρ
  | _ => .st
theorem s_aug (i : Nat) {x : Str} {p2 : Pos} {op : Operator} {f : D → D → R D} {r2 : R2} (hN : X.N.Nodup) (ho : OpR X (inplaceOp op) r2) (o : OpD X.K f r2) (he : DE X F0 H0 m W e g) (hm : (m[i]? == some true) = false := by rfl) (hi : X.N[i]? = some x := by rfl) (hx : Loc X.env.scope x := by exact Or.inl rfl) (hf : X.fn x = true ∨ X.env.scope.names.lookup x = some .local := by first | exact .inl rfl | exact .inr rfl | assumption) :
    DS X F0 H0 m (m.set i false) mL W (.AugAssign (.Name x p2) op e pos) (sAug i f g) := by
  refine ps_imp (ps_aug hN hi hx he (ti := r2) (fun pins s σ H x y v u Q I r1 r2 h => ho pins s σ H x y v u Q I r1 r2 h) hf) fun E σ H ⟨ρ, F, r, h⟩ => ?_
  unfold sAug at h
  split at h
  · rename_i d e1
    obtain ⟨v, ev, iv⟩ := r.val i d e1 (by intro z; rw [z] at hm; cases hm)
    refine ⟨v, ev, ?_⟩
    refine semS (k := fun e => match f d e with | .ok z => .nx (ρ.set i (some z)) | .ex x => .ex x ρ | .st => .st) r h fun d2 v2 F1 H1 i1 r1 x1 h1 => ?_
    refine o W σ F1 H1 d d2 v v2 _ r1.fh (iv.mono x1) i1 ?_
    cases z : f d d2 with
    | ok d3 =>
      rw [z] at h1
      exact fun v3 F3 H3 x3 i3 => (h1.mono x3.ff) _ F3 H3 ((r1.ext x3).set i i3) (.refl F3)
    | ex x =>
      rw [z] at h1
      intro cls od F' H' xe ie
      obtain ⟨F2, r2, s2⟩ := (r1.ext xe).freeze
      exact h1 cls od σ F2 H' r2 (Is.monoX ie s2)
    | st => rw [z] at h1; exact h1
  · exact h.elim
/-! ### an own object changes -/
theorem Rep.mut {K : PySem.W.Frag} {ρ : Rho} {σ : L2.St} {F H : Hp} {i : Nat} {p : Addr} {d d' : D} {o' : HO} (r : Rep K F0 H0 m ρ σ F H) (hm : m[i]? = some true) (hd : ρ[i]? = some (some d)) (hp : σ[i]? = some (some (.ref p))) (f : F p = none) (n : H0 p = none) (c : IsC K F o' d') :
    Rep K F0 H0 m (ρ.set i (some d')) σ F (upd H p o') where
  len := by rw [List.length_set, r.len]
  fh := fun b u e => by rw [upd_ne (ne_of_none e f)]; exact r.fh b u e
  f0 := r.f0
  h0 := fun b u e => by rw [upd_ne (ne_of_none e n)]; exact r.h0 b u e
  new := r.new
  val := fun j e a b => by
    rcases getElem?_set_cases a with ⟨rfl, z, hl⟩ | ⟨hj, z⟩
    · exact absurd hm b
    · exact r.val j e z b
  own := fun j e a b => by
    rcases getElem?_set_cases a with ⟨rfl, z, hl⟩ | ⟨hj, z⟩
    · cases z
      exact ⟨p, o', hp, upd_same, c, f, n⟩
    · obtain ⟨q, o, z1, z2, z3, z4, z5⟩ := r.own j e z b
      have ne : q ≠ p := fun w => r.apart j i p e d hj b hm z hd (w ▸ z1) hp
      exact ⟨q, o, z1, by rw [upd_ne ne]; exact z2, z3, z4, z5⟩
  apart := fun j k q d1 e1 hjk a b c1 c2 e => by
    have k1 : ∃ d2, ρ[j]? = some (some d2) := by
      rcases getElem?_set_cases c1 with ⟨rfl, _, _⟩ | ⟨_, z⟩
      · exact ⟨d, hd⟩
      · exact ⟨d1, z⟩
    have k2 : ∃ d2, ρ[k]? = some (some d2) := by
      rcases getElem?_set_cases c2 with ⟨rfl, _, _⟩ | ⟨_, z⟩
      · exact ⟨d, hd⟩
      · exact ⟨e1, z⟩
    obtain ⟨d3, z3⟩ := k1
    obtain ⟨d4, z4⟩ := k2
    exact r.apart j k q d3 d4 hjk a b z3 z4 e
def sAppend (i : Nat) (g : Rho → R D) : Rho → S := fun ρ => match ρ[i]? with
  | some (some (.list ds)) => sE g (fun ρ d => if ds.length < sizeLine then .nx (ρ.set i (some (.list (ds ++ [d])))) else .st) ρ
  | _ => .st
theorem s_append (i : Nat) {x : Str} {p2 apos cpos : Pos} (he : DE X F0 H0 m W e g) (hm : m[i]? = some true := by rfl) (hN : X.N[i]? = some x := by rfl) (hv : Vis X.env.scope x := by first | exact Or.inl rfl | exact Or.inr (Or.inl rfl) | exact Or.inr (Or.inr rfl)) (hd : (x == ("__debug__" : Str)) = false := by decide)
    (hcd : (x == ("__classdict__" : Str)) = false := by decide) (hsw : swapsWith (.Call (.Attribute (.Name x p2) "append" apos) [e] [] cpos) none pos.line X.env = pure false := by rfl)
    (hbase : attributeBase (.Name x p2) "append" X.env (eval (.Name x p2) X.env) = eval (.Name x p2) X.env := by rfl)
    (hfew : ((backTo cpos (starEach [e] X.env)).all (fun x => !x.1) && (backToKw cpos (keywordEach [] X.env)).all (fun x => x.1.isSome)
      && decide ([e].length + ([] : List Keyword).length + (if ([] : List Keyword).isEmpty then 0 else 1) < 30)) = true := by rfl)
    (hline : (apos.endLine == cpos.line) = true := by rfl) (hs : starEach [e] X.env = (false, eval e X.env) :: starEach [] X.env := by rfl) (hplain : (backTo cpos (starEach [] X.env)).any (·.1) = false := by rfl) :
    DS X F0 H0 m m mL W (.Expr (.Call (.Attribute (.Name x p2) "append" apos) [e] [] cpos) pos) (sAppend i g) := by
  refine ps_imp (ps_expr (pe_bm PySem.F.plainAttrs_list PySem.F.slot_list_append PySem.F.type_list_append mt_append (pe_var hN hv hd hcd) (pa_cons he pa_nil hs) hbase hfew hline hs hplain) hsw) fun E σ H ⟨ρ, F, r, h⟩ => ?_
  unfold sAppend at h
  split at h
  · rename_i ds e1
    obtain ⟨p, o, z1, z2, z3, z4, z5⟩ := r.own i _ e1 hm
    cases o with
    | lst xs =>
      have l : IsL X.K F xs ds := z3
      refine ⟨.ref p, z1, .inl ⟨rfl, xs, .of z2⟩, ?_⟩
      refine semS (k := fun d => if ds.length < sizeLine then .nx (ρ.set i (some (.list (ds ++ [d])))) else .st) r h fun d v F1 H1 i1 r1 x1 h1 => ?_
      by_cases hz : ds.length < sizeLine
      · rw [if_pos hz] at h1
        obtain ⟨p', o', y1, y2, y3, y4, y5⟩ := r1.own i _ e1 hm
        rw [z1] at y1
        cases y1
        cases o' with
        | lst xs' =>
          have l' : IsL X.K F1 xs' ds := y3
          exact ⟨p, xs', v, rfl, rfl, y2, by rw [l'.1]; exact hz, h1 σ F1 _ (r1.mut hm e1 z1 y4 y5 (show IsC _ _ (.lst (xs' ++ [v])) (.list (ds ++ [d])) from l'.snoc i1)) (.refl F1)⟩
        | _ => exact y3.elim
      · rw [if_neg hz] at h1
        exact h1.elim
    | _ => exact z3.elim
  · exact h.elim
/-! ### a value of the frame's own objects that is no object: read as if they were shared -/
def scalD : D → R D
  | .non => .ok .non
  | .bl b => .ok (.bl b)
  | .int i => .ok (.int i)
  | .str s => .ok (.str s)
  | _ => .st
theorem scal_is {K : PySem.W.Frag} {F F' : Hp} {v : V} {d e : D} (h : scalD d = .ok e) (i : Is K F v d) : Is K F' v e := by
  cases i <;> cases h
  · exact .non
  · exact .bl _
  · exact .int _
  · exact .str _
theorem back_ext {K : PySem.W.Frag} {σ : L2.St} {ρ : Rho} {F F1 H F2 H2 : Hp} (r : Rep K F0 H0 m ρ σ F H) (x : Ext F1 H F2 H2) : Ext F H F H2 := ⟨.refl _, x.hh, r.fh.trans x.hh, fun _ _ f => f⟩
def gScal (g : Rho → R D) : Rho → R D := fun ρ => noX ((g ρ).bind scalD)
def bScal (p : Rho → R Bool) : Rho → R Bool := fun ρ => noX (p ρ)
theorem d_scal (h : DE X F0 H0 [] W0 e g) : DE X F0 H0 m W e (gScal g) := by
  refine pe_imp h fun σ H Q ⟨ρ, F, r, q⟩ => ?_
  obtain ⟨F1, r1, s1⟩ := r.freeze
  refine ⟨ρ, F1, r1, ?_⟩
  unfold gScal at q
  cases z : g ρ with
  | ex x => rw [z] at q; exact q.elim
  | st => rw [z] at q; exact q.elim
  | ok d =>
    rw [z] at q
    have q' : after X.K W σ F H (noX (scalD d)) Q := q
    cases z2 : scalD d with
    | ex x => rw [z2] at q'; exact q'.elim
    | st => rw [z2] at q'; exact q'.elim
    | ok d2 =>
      rw [z2] at q'
      intro v F2 H2 x2 i2
      exact q' v F H2 (back_ext r x2) (scal_is z2 i2)
theorem t_scal {p : Rho → R Bool} (h : DT X F0 H0 [] W0 e p) : DT X F0 H0 m W e (bScal p) := by
  refine pt_imp h fun σ H Q ⟨ρ, F, r, q⟩ => ?_
  obtain ⟨F1, r1, s1⟩ := r.freeze
  refine ⟨ρ, F1, r1, ?_⟩
  unfold bScal at q
  cases z : p ρ with
  | ex x => rw [z] at q; exact q.elim
  | st => rw [z] at q; exact q.elim
  | ok d =>
    rw [z] at q
    exact fun F2 H2 x2 => q F H2 (back_ext r x2)
end
/-! ### defs -/
def startR (n : Nat) (ds : List D) : Rho := ds.map some ++ List.replicate (n - ds.length) none
def endS : S → R D
  | .rt d => .ok d
  | .rn d => .ok d
  | .nx _ => .ok .non
  | .ex x _ => .ex x
  | _ => .st
def endN : S → R D
  | .rn d => .ok d
  | .ex x _ => .ex x
  | _ => .st
/-- the def with n names, np of them parameters -/
def runS (n np : Nat) (s : Rho → S) (ds : List D) : R D := if ds.length = np then endS (s (startR n ds)) else .st
def runN (n np : Nat) (s : Rho → S) (ds : List D) : R D := if ds.length = np then endN (s (startR n ds)) else .st
theorem rep_start {K : PySem.W.Frag} {F H : Hp} {N : List Str} {ds : List D} {vs : List V} {m : List Bool} (l : IsL K F vs ds) (s : Same F H) (hm : m.all (!·) = true) : Rep K F H m (startR N.length ds) (L2.start N vs) F H := by
  have nm : ∀ i : Nat, m[i]? ≠ some true := fun i z => by
    have := List.all_eq_true.mp hm true (List.mem_of_getElem? z)
    cases this
  refine ⟨?_, s, .refl _, .refl _, fun p h f => f, fun i d a _ => ?_, fun i d _ b => absurd b (nm i), fun i j p d e _ a => absurd a (nm i)⟩
  · unfold startR L2.start
    rw [List.length_append, List.length_append, List.length_map, List.length_map, List.length_replicate, List.length_replicate, l.1]
  · unfold startR at a
    by_cases hi : i < ds.length
    · rw [List.getElem?_append_left (by simpa using hi), List.getElem?_map] at a
      cases e : ds[i]? with
      | none => rw [e] at a; cases a
      | some d' =>
        rw [e] at a
        cases a
        obtain ⟨v, e2, i2⟩ := l.at e
        refine ⟨v, ?_, i2⟩
        unfold L2.start
        rw [List.getElem?_append_left (by rw [List.length_map, l.1]; exact hi), List.getElem?_map, e2]
        rfl
    · rw [List.getElem?_append_right (by simpa using hi), List.getElem?_replicate] at a
      split at a <;> cases a
section
variable {P : Program} {w : World} {K : PySem.W.Frag} {mg : Str → Option Value} {base : Heap} {x qual : Str} {params : Arguments} {body : List Stmt} {scope : Scope} {dvs : List V} {kws : List (Str × V)} {f : Addr} {fd : FuncData}
theorem fn_d {N ps : List Str} {k : Nat} {m m' : List Bool} {s : Rho → S} (n : Nat) (Fn : FunD K x qual params body scope dvs kws f fd) (Sc : FnScope N ps scope) (hn : N.length = n) (hm : m.all (!·) = true)
    (hb : ∀ (cdv : Value) (A : Around) (outer : List Env) (st : Shared) (H : Hp) (E : XK) (F0 : Hp), Room k (A.deeper (envOfC qual scope st.heap.objs.size f cdv)) →
      DSs (cxOf (L2.CX P w) P w K mg base N qual scope f cdv A outer st H E) F0 H m m' [] (fun cls d _ H => E cls d H) body s) : FnOk P w K mg base (L2.CX P w) (k + 1) f fd ps (spD K (runS n ps.length s)) := by
  subst hn
  refine Fn.ok Sc (fun vs H Q E h => ?_) fun cdv A outer st H vs Q E hr h => ?_
  · obtain ⟨ds, F, l, _, h⟩ := h
    unfold runS at h
    by_cases hd : ds.length = ps.length
    · rw [l.1]; exact hd
    · rw [if_neg hd] at h
      exact h.elim
  · obtain ⟨ds, F, l, sm, h⟩ := h
    refine ⟨_, hb cdv A outer st H E F hr, startR N.length ds, F, rep_start l sm hm, ?_⟩
    unfold runS at h
    by_cases hd : ds.length = ps.length
    · rw [if_pos hd] at h
      cases z : s (startR N.length ds) with
      | nx ρ => rw [z] at h; exact fun σ' F' H' r' _ => h .non F' H' r'.ext0 .non
      | rt d => rw [z] at h; exact h
      | rn d => rw [z] at h; exact fun p o F' H' x e c fn n => h (.ref p) (upd F' p o) H' (x.share e fn n) (is_of_c upd_same (c.mono (same_upd fn)))
      | bk ρ => rw [z] at h; exact h.elim
      | ct ρ => rw [z] at h; exact h.elim
      | ex x ρ => rw [z] at h; exact fun cls od σ' F' H' r' i => h cls od F' H' r'.ext0 i
      | st => rw [z] at h; exact h.elim
    · rw [if_neg hd] at h
      exact h.elim
theorem fn_n {N ps : List Str} {k : Nat} {m m' : List Bool} {s : Rho → S} (n : Nat) (Fn : FunD K x qual params body scope dvs kws f fd) (Sc : FnScope N ps scope) (hn : N.length = n) (hm : m.all (!·) = true)
    (hb : ∀ (cdv : Value) (A : Around) (outer : List Env) (st : Shared) (H : Hp) (E : XK) (F0 : Hp), Room k (A.deeper (envOfC qual scope st.heap.objs.size f cdv)) →
      DSs (cxOf (L2.CX P w) P w K mg base N qual scope f cdv A outer st H E) F0 H m m' [] (fun cls d _ H => E cls d H) body s) : FnOk P w K mg base (L2.CX P w) (k + 1) f fd ps (spN K (runN n ps.length s)) := by
  subst hn
  refine Fn.ok Sc (fun vs H Q E h => ?_) fun cdv A outer st H vs Q E hr h => ?_
  · obtain ⟨ds, F, l, _, h⟩ := h
    unfold runN at h
    by_cases hd : ds.length = ps.length
    · rw [l.1]; exact hd
    · rw [if_neg hd] at h
      exact h.elim
  · obtain ⟨ds, F, l, sm, h⟩ := h
    refine ⟨_, hb cdv A outer st H E F hr, startR N.length ds, F, rep_start l sm hm, ?_⟩
    unfold runN at h
    by_cases hd : ds.length = ps.length
    · rw [if_pos hd] at h
      cases z : s (startR N.length ds) with
      | nx ρ => rw [z] at h; exact h.elim
      | rt d => rw [z] at h; exact h.elim
      | rn d => rw [z] at h; exact h
      | bk ρ => rw [z] at h; exact h.elim
      | ct ρ => rw [z] at h; exact h.elim
      | ex x ρ => rw [z] at h; exact fun cls od σ' F' H' r' i => h cls od F' H' r'.ext0 i
      | st => rw [z] at h; exact h.elim
    · rw [if_neg hd] at h
      exact h.elim
/-- a def that hands back its own may be taken as one that hands back what is shared -/
theorem FnOk.ofN {k : Nat} {ps : List Str} {G : List D → R D} (h : FnOk P w K mg base (L2.CX P w) k f fd ps (spN K G)) : FnOk P w K mg base (L2.CX P w) k f fd ps (spD K G) := h.imp fun vs H Q E => spN_of
end
/-- the law's own promise -/
theorem law_sp {K : PySem.W.Frag} {G : List D → R D} {H : Hp} {a : Addr} {ns : List Int} (h : SqL K H a (ns.map V.int)) (hG : G [.list (ns.map D.int)] = .ok (.bl true)) : spD K G [.ref a] H (fun v _ => v = .bl true) fun _ _ _ => False := by
  refine ⟨[.list (ns.map D.int)], H, .cons (is_list h ⟨by rw [List.length_map, List.length_map], fun i x d a b => ?_⟩) .nil, .refl H, ?_⟩
  · rw [List.getElem?_map] at a b
    cases e : ns[i]? with
    | none => rw [e] at a; cases a
    | some z =>
      rw [e] at a b
      cases a
      cases b
      exact .int z
  · rw [hG]
    intro v F' H' x i
    cases i
    rfl
end Pd

/-! Pd8: defs as callers see them; y = [..]; all, any -/
namespace Pd
open PySem PySem.Spec PyProof.Rows L2
/-- the module's def x does G (shared results); CalN: hands back an object of its own -/
structure CalF (P : Program) (w : World) (K : PySem.W.Frag) (mg : Str → Option Value) (base : Heap) (k : Nat) (x : Str) (ps : List Str) (G : List D → R D) : Prop where
  ex : ∃ f fd, FnOk P w K mg base (L2.CX P w) k f fd ps (spD K G) ∧ mg x = some (.ref f) ∧ PySem.W.keepIn K (.ref f) = true ∧ Binds K fd ps []
structure CalN (P : Program) (w : World) (K : PySem.W.Frag) (mg : Str → Option Value) (base : Heap) (k : Nat) (x : Str) (ps : List Str) (G : List D → R D) : Prop where
  ex : ∃ f fd, FnOk P w K mg base (L2.CX P w) k f fd ps (spN K G) ∧ mg x = some (.ref f) ∧ PySem.W.keepIn K (.ref f) = true ∧ Binds K fd ps []
/-- a def as the top left it -/
structure DefF (K : PySem.W.Frag) (mg : Str → Option Value) (x : Str) (st : Stmt) (ps : List Str) : Prop where
  ex : ∃ f fd, FunD K x x (defArgs st) (defBody st) (defScope st) [] [] f fd ∧ mg x = some (.ref f) ∧ Binds K fd ps []
section
variable {P : Program} {w : World} {K : PySem.W.Frag} {mg : Str → Option Value} {base : Heap} {k j : Nat} {x : Str} {ps : List Str} {G : List D → R D} {st : Stmt}
theorem CalN.cal (h : CalN P w K mg base k x ps G) : CalF P w K mg base k x ps G := by
  obtain ⟨f, fd, a, b, c, d⟩ := h.ex
  exact ⟨f, fd, FnOk.ofN a, b, c, d⟩
theorem cal_d {N : List Str} {m m' : List Bool} {s : Rho → S} (n : Nat) (Df : DefF K mg x st ps) (Sc : FnScope N ps (defScope st)) (hn : N.length = n) (hm : m.all (!·) = true)
    (hb : ∀ (f : Addr) (cdv : Value) (A : Around) (outer : List Env) (sh : Shared) (H : Hp) (E : XK) (F0 : Hp), Room k (A.deeper (envOfC x (defScope st) sh.heap.objs.size f cdv)) →
      DSs (cxOf (L2.CX P w) P w K mg base N x (defScope st) f cdv A outer sh H E) F0 H m m' [] (fun cls d _ H => E cls d H) (defBody st) s) : CalF P w K mg base (k + 1) x ps (runS n ps.length s) := by
  obtain ⟨f, fd, F, gm, b⟩ := Df.ex
  exact ⟨f, fd, fn_d n F Sc hn hm (hb f), gm, F.kp, b⟩
theorem cal_n {N : List Str} {m m' : List Bool} {s : Rho → S} (n : Nat) (Df : DefF K mg x st ps) (Sc : FnScope N ps (defScope st)) (hn : N.length = n) (hm : m.all (!·) = true)
    (hb : ∀ (f : Addr) (cdv : Value) (A : Around) (outer : List Env) (sh : Shared) (H : Hp) (E : XK) (F0 : Hp), Room k (A.deeper (envOfC x (defScope st) sh.heap.objs.size f cdv)) →
      DSs (cxOf (L2.CX P w) P w K mg base N x (defScope st) f cdv A outer sh H E) F0 H m m' [] (fun cls d _ H => E cls d H) (defBody st) s) : CalN P w K mg base (k + 1) x ps (runN n ps.length s) := by
  obtain ⟨f, fd, F, gm, b⟩ := Df.ex
  exact ⟨f, fd, fn_n n F Sc hn hm (hb f), gm, F.kp, b⟩
end
section
variable {X : Cx} {F0 H0 : Hp} {m m' mL : List Bool} {W : WX} {pos : Pos} {e : Expr} {es : List Expr} {g : Rho → R D} {t : Rho → R (List D)} {k j : Nat} {x : Str} {ps : List Str} {G : List D → R D} {p : Pos}
theorem d_c (C : CalF X.prog X.w X.K X.mg X.base k x ps G) (hr : Room j X.A) (hj : k ≤ j) (tk : Takes X W) (ha : DA X F0 H0 m W (e :: es) t) (hg : Gl X x := by rfl)
    (hdb : (x == ("__debug__" : Str)) = false := by decide) (he : starEach (e :: es) X.env = (false, eval e X.env) :: starEach es X.env := by rfl) (hpl : (backTo pos (starEach es X.env)).any (·.1) = false := by rfl) : DE X F0 H0 m W (.Call (.Name x p) (e :: es) [] pos) (gA G t) := by
  obtain ⟨f, fd, a, b, c, d⟩ := C.ex
  exact d_call a (hr.mono hj) b c d tk ha hg hdb he hpl
theorem n_c (C : CalN X.prog X.w X.K X.mg X.base k x ps G) (hr : Room j X.A) (hj : k ≤ j) (tk : Takes X W) (ha : DA X F0 H0 m W (e :: es) t) (hg : Gl X x := by rfl)
    (hdb : (x == ("__debug__" : Str)) = false := by decide) (he : starEach (e :: es) X.env = (false, eval e X.env) :: starEach es X.env := by rfl) (hpl : (backTo pos (starEach es X.env)).any (·.1) = false := by rfl) : DN X F0 H0 m W (.Call (.Name x p) (e :: es) [] pos) (gA G t) := by
  obtain ⟨f, fd, a, b, c, d⟩ := C.ex
  exact n_call a (hr.mono hj) b c d tk ha hg hdb he hpl
/-- f() -/
def gC0 (G : List D → R D) : Rho → R D := fun _ => noX (G [])
theorem d_c0 (C : CalF X.prog X.w X.K X.mg X.base k x ps G) (hr : Room j X.A) (hj : k ≤ j) (hg : Gl X x := by rfl) (hdb : (x == ("__debug__" : Str)) = false := by decide) : DE X F0 H0 m W (.Call (.Name x p) [] [] pos) (gC0 G) := by
  obtain ⟨f, fd, a, b, c, d⟩ := C.ex
  refine pe_imp (pe_call0 a (hr.mono hj) hg b c d .nil passL hdb) fun σ H Q ⟨ρ, F, r, h⟩ => ⟨[], F, .nil, r.fh, ?_⟩
  unfold gC0 at h
  cases z : G [] with
  | ok d => rw [z] at h; exact h
  | ex x => rw [z] at h; exact h.elim
  | st => rw [z] at h; exact h.elim
/-! ### y = [..] on one line -/
theorem tN_of {K : PySem.W.Frag} {σ : L2.St} {H : Hp} {Q : VK} (h : tSem K F0 H0 m W g σ H Q) : tSemN K F0 H0 m W g σ H Q := by
  obtain ⟨ρ, F, r, h⟩ := h
  exact ⟨ρ, F, r, afterN_of h⟩
section
variable {elt tg iter : Expr} {ifs : List Expr} {gi : Rho → R (List D)} {τ : D → Rho → R Rho} {q : Rho → R Bool} {ge : Rho → R D} {m2 : List Bool}
theorem s_setLcN (i : Nat) {y : Str} {py : Pos} {scope : Scope} {own : List (Str × Nat)} {is : List Nat} {spos : Pos} (hc : X.calm = true) (hN : X.N.Nodup) (hi : DI X F0 H0 m W tg iter gi) (ok : blkC X.N X.env.scope scope own = true)
    (hg : ∀ (s : Shared) (H : Hp) (C : Addr) (cl : List (Str × Addr)) (fp : List Addr), DG (X.blk s H scope (compEnvC scope cl C X.env) fp) F0 H0 m m2 is tg τ)
    (ht : ∀ (s : Shared) (H : Hp) (C : Addr) (cl : List (Str × Addr)) (fp : List Addr), DTs (X.blk s H scope (compEnvC scope cl C X.env) fp) F0 H0 m2 W0 ifs q)
    (he : ∀ (s : Shared) (H : Hp) (C : Addr) (cl : List (Str × Addr)) (fp : List Addr), DE (X.blk s H scope (compEnvC scope cl C X.env) fp) F0 H0 m2 W0 elt ge) (hv : ∀ i ∈ is, i ∈ own.map (·.2)) (hm : i < m.length := by decide) (hy : X.N[i]? = some y := by rfl) (hyl : X.env.scope.names.lookup y = some .local := by rfl)
    (hsw : swapsWith (.ListComp elt [⟨tg, iter, ifs, 0⟩] scope pos) (some (.Name y py)) spos.line X.env = pure true := by exact sw_true rfl rfl rfl (by decide +kernel)) (hs : ∀ x, foldedSetIterable iter X.env x = pure x := by intro _; rfl) :
    DS X F0 H0 m (m.set i true) mL W (.Assign [.Name y py] (.ListComp elt [⟨tg, iter, ifs, 0⟩] scope pos) spos) (sSet i (gLc gi (own.map (·.2)) τ q ge)) :=
  ps_imp (ps_setLc hc hN hy hyl hsw hi (blkOk_by ok) hg ht he hs) fun E σ H ⟨ρ, F, r, h⟩ => lc_sem hv σ H _ (semSN (k := fun d => .nx (ρ.set i (some d))) r h fun d p o F1 H1 e c f n s r1 _ h1 => h1 _ F1 H1 (r1.setN i hm e c f (r.h0.free n) fun j q e' a b c' w => by
    obtain ⟨q', o', e1, e2, _⟩ := r.own j e' b a
    rw [c'] at e1
    cases e1
    rw [w, n] at e2
    cases e2) (.refl F1))
theorem s_setLc (i : Nat) {y : Str} {py : Pos} {scope : Scope} {own : List (Str × Nat)} {is : List Nat} {spos : Pos} (hc : X.calm = true) (hN : X.N.Nodup) (hi : DI X F0 H0 m W tg iter gi) (ok : blkC X.N X.env.scope scope own = true)
    (hg : ∀ (s : Shared) (H : Hp) (C : Addr) (cl : List (Str × Addr)) (fp : List Addr), DG (X.blk s H scope (compEnvC scope cl C X.env) fp) F0 H0 m m2 is tg τ)
    (ht : ∀ (s : Shared) (H : Hp) (C : Addr) (cl : List (Str × Addr)) (fp : List Addr), DTs (X.blk s H scope (compEnvC scope cl C X.env) fp) F0 H0 m2 W0 ifs q)
    (he : ∀ (s : Shared) (H : Hp) (C : Addr) (cl : List (Str × Addr)) (fp : List Addr), DE (X.blk s H scope (compEnvC scope cl C X.env) fp) F0 H0 m2 W0 elt ge) (hv : ∀ i ∈ is, i ∈ own.map (·.2)) (hy : X.N[i]? = some y := by rfl) (hyl : X.env.scope.names.lookup y = some .local := by rfl)
    (hsw : swapsWith (.ListComp elt [⟨tg, iter, ifs, 0⟩] scope pos) (some (.Name y py)) spos.line X.env = pure true := by exact sw_true rfl rfl rfl (by decide +kernel)) (hs : ∀ x, foldedSetIterable iter X.env x = pure x := by intro _; rfl) :
    DS X F0 H0 m (m.set i false) mL W (.Assign [.Name y py] (.ListComp elt [⟨tg, iter, ifs, 0⟩] scope pos) spos) (sSet i (gLc gi (own.map (·.2)) τ q ge)) :=
  ps_imp (ps_setLc hc hN hy hyl hsw hi (blkOk_by ok) hg ht he hs) fun E σ H ⟨ρ, F, r, h⟩ => lc_sem hv σ H _ (tN_of (semS (k := fun d => .nx (ρ.set i (some d))) r h fun d v F1 H1 i1 r1 _ h1 => h1 _ F1 H1 (r1.set i i1) (.refl F1)))
end
/-! ### all, any -/
def bools : List D → Option (List Bool)
  | [] => some []
  | .bl b :: r => (bools r).map (b :: ·)
  | _ :: _ => none
theorem bools_is {K : PySem.W.Frag} {F : Hp} : ∀ {ds : List D} {vs : List V} {ys : List Bool}, IsL K F vs ds → bools ds = some ys → vs = ys.map V.bl
  | [], vs, ys, l, h => by cases h; exact l.unnil
  | d :: ds, vs, ys, l, h => by
    obtain ⟨x, xr, rfl, i, t⟩ := l.uncons
    cases d with
    | bl s =>
      cases i
      have h' : (bools ds).map (s :: ·) = some ys := h
      cases e : bools ds with
      | none => rw [e] at h'; cases h'
      | some zs =>
        rw [e] at h'
        cases h'
        rw [bools_is t e]
        rfl
    | _ => cases h
def allD : List D → R D
  | [.list ds] => match bools ds with
    | some bs => .ok (.bl (bs.all id))
    | none => .st
  | _ => .st
def anyD : List D → R D
  | [.list ds] => match bools ds with
    | some bs => .ok (.bl (bs.any id))
    | none => .st
  | _ => .st
theorem c_all {K : PySem.W.Frag} : CallD K allD (rAll K) := by
  intro W σ F H ds vs Q s l q
  match ds, l, q with
  | [.list es], l, q =>
    obtain ⟨v, rfl, i⟩ := one_of l
    obtain ⟨a, xs, rfl, h, t⟩ := i.list_inv
    have q' : after K W σ F H (match bools es with | some bs => .ok (.bl (bs.all id)) | none => .st) Q := q
    cases e : bools es with
    | none => rw [e] at q'; exact q'.elim
    | some bs =>
      rw [e] at q'
      have e2 := bools_is t e
      subst e2
      exact ⟨a, bs, rfl, s.seq h, after.now q' s (.bl _)⟩
theorem c_any {K : PySem.W.Frag} : CallD K anyD (rAny K) := by
  intro W σ F H ds vs Q s l q
  match ds, l, q with
  | [.list es], l, q =>
    obtain ⟨v, rfl, i⟩ := one_of l
    obtain ⟨a, xs, rfl, h, t⟩ := i.list_inv
    have q' : after K W σ F H (match bools es with | some bs => .ok (.bl (bs.any id)) | none => .st) Q := q
    cases e : bools es with
    | none => rw [e] at q'; exact q'.elim
    | some bs =>
      rw [e] at q'
      have e2 := bools_is t e
      subst e2
      exact ⟨a, bs, rfl, s.seq h, after.now q' s (.bl _)⟩
end
/-! ### op= -/
def iaddD : D → D → R D
  | .int i, .int j => .ok (.int (i + j))
  | .str a, .str b => if a.length + b.length ≤ sizeLine then .ok (.str (a ++ b)) else .st
  | _, _ => .st
def rIadd : R2 := fun x y H Q => rI0 (fun i j => .int (i + j)) x y H Q ∨ ∃ i j, x = .str i ∧ y = .str j ∧ i.length + j.length ≤ sizeLine ∧ Q (.str (i ++ j)) H
theorem iop_addD {X : Cx} : OpR X (inplaceOp .Add) rIadd := iop_add.or iop_add_str
theorem o_iadd {K : PySem.W.Frag} : OpD K iaddD rIadd := by
  intro W σ F H d e v u Q s i j q
  cases i with
  | int k =>
    cases j with
    | int l => exact .inl ⟨k, l, rfl, rfl, after.now q s (.int _)⟩
    | _ => exact q.elim
  | str x =>
    cases j with
    | str y =>
      have q' : after K W σ F H (if x.length + y.length ≤ sizeLine then .ok (.str (x ++ y)) else .st) Q := q
      by_cases hc : x.length + y.length ≤ sizeLine
      · rw [if_pos hc] at q'
        exact .inr ⟨x, y, rfl, rfl, hc, after.now q' s (.str _)⟩
      · rw [if_neg hc] at q'
        exact q'.elim
    | _ => exact q.elim
  | _ => exact q.elim
theorem hu65 {A : Around} {k : Nat} (hr : Room k A) : A.units + 65 < cLine := by
  have := hr.un
  omega
/-! ### the law's end -/
theorem walk_d {l : PySem.W.OpenLaw} {n k : Nat} {q : Program} {loose : List Str} {XP : (Str → Option Value) → Heap → Prop} {YP : World → Heap → Prop} {d : DefRec} {x : Str} {G : List D → R D}
    (hn : l.most = some n) (hz : n ≤ sizeLine) (hdf : d.params.defaults = []) (hr : Room k callerA) (hG : ∀ ns : List Int, ns.length ≤ n → G [.list (ns.map D.int)] = .ok (.bl true))
    (hF : ∀ (w : World) (mg : Str → Option Value) (fa : Addr) (h : Heap), YP w h → h.Ns mainGlobals mg → mg d.name = some (.ref fa) →
      ∃ (K : PySem.W.Frag) (fd : FuncData), K.In h ∧ (∀ (s : Shared) (u : Value), BindsTo s fd ⟨[u], []⟩ [(x, u)]) ∧ ∀ base : Heap, K.In base → base.Ns mainGlobals mg → FnOk l.prog w K mg base (L2.CX l.prog w) k fa fd [x] (spD K G)) :
    PySem.W.WalkO q loose XP YP l.row.toRowW d [] (fun f vs => PySem.call f vs) := by
  refine Att.attach_call hn hdf ?_
  intro w s₀ s₁ mg mb fa o pm cd doc a vs ns Gr Y h1 h2 h3 hm ho hi hl hg
  obtain ⟨K, fd, KX, hb, ok⟩ := hF w mg fa _ Y Gr.T.g hm
  refine law_call (CX := L2.CX l.prog w) KX Gr.T.g Gr.T.b Gr.T.builtins Gr.T.nolimit hg ho hi (Nat.le_trans hl hz) hr ok hb (fun H _ hS => law_sp hS (hG ns hl)) fun H e s' z => ?_
  obtain ⟨_, _, _, _, _, _, _, _, _, _, _, _, z⟩ := z
  exact z.elim
/-- turns enough for a while that lowers the int in slot i -/
def fuelInt (i : Nat) : Rho → Nat := fun ρ => match gVar i ρ with
  | .ok (.int n) => n.toNat + 1
  | _ => 0
end Pd

/-! Pe1: functions of data evaluated: rows for simp, loops by rules -/
namespace Pd
open PySem PySem.Spec PyProof.Rows L2
/-- r, then u -/
def S.then (r : S) (u : Rho → S) : S := match r with
  | .nx ρ => u ρ
  | r => r
def S.pick (p : R Bool) (ρ : Rho) (a b : S) : S := match p with
  | .ok k => if k = true then a else b
  | .ex x => .ex x ρ
  | .st => .st
def S.ofR (r : R D) (ρ : Rho) (k : D → S) : S := match r with
  | .ok d => k d
  | .ex x => .ex x ρ
  | .st => .st
def S.ofI (r : R (List D)) (ρ : Rho) (k : List D → S) : S := match r with
  | .ok d => k d
  | .ex x => .ex x ρ
  | .st => .st
section
variable {s u : Rho → S} {ρ : Rho} {p : Rho → R Bool} {g : Rho → R D} {gi : Rho → R (List D)} {τ : D → Rho → R Rho} {b : Rho → S} {k : Rho → D → S} {i : Nat}
theorem e_seq : sSeq s u ρ = (s ρ).then u := rfl
theorem e_thn (ρ1 : Rho) : (S.nx ρ1).then u = u ρ1 := rfl
theorem e_trt (d : D) : (S.rt d).then u = .rt d := rfl
theorem e_trn (d : D) : (S.rn d).then u = .rn d := rfl
theorem e_tex (x : Ex) (ρ1 : Rho) : (S.ex x ρ1).then u = .ex x ρ1 := rfl
theorem e_tbk (ρ1 : Rho) : (S.bk ρ1).then u = .bk ρ1 := rfl
theorem e_tct (ρ1 : Rho) : (S.ct ρ1).then u = .ct ρ1 := rfl
theorem e_if : sIf p s u ρ = S.pick (p ρ) ρ (s ρ) (u ρ) := rfl
theorem e_pick (k : Bool) (a b : S) : S.pick (.ok k) ρ a b = if k = true then a else b := rfl
theorem e_pickx (x : Ex) (a b : S) : S.pick (.ex x) ρ a b = .ex x ρ := rfl
theorem e_E : sE g k ρ = S.ofR (g ρ) ρ (k ρ) := rfl
theorem e_ofR (d : D) (k : D → S) : S.ofR (.ok d) ρ k = k d := rfl
theorem e_ofRx (x : Ex) (k : D → S) : S.ofR (.ex x) ρ k = .ex x ρ := rfl
theorem e_ret : sRet g ρ = S.ofR (g ρ) ρ fun d => .rt d := rfl
theorem e_retN : sRetN g ρ = S.ofR (g ρ) ρ fun d => .rn d := rfl
theorem e_set : sSet i g ρ = S.ofR (g ρ) ρ fun d => .nx (ρ.set i (some d)) := rfl
theorem e_drop : sDrop g ρ = S.ofR (g ρ) ρ fun _ => .nx ρ := rfl
theorem e_for : sFor gi τ b ρ = S.ofI (gi ρ) ρ fun items => forL τ b items ρ := rfl
theorem e_ofI (d : List D) (k : List D → S) : S.ofI (.ok d) ρ k = k d := rfl
theorem e_ofIx (x : Ex) (k : List D → S) : S.ofI (.ex x) ρ k = .ex x ρ := rfl
theorem e_nil : sNil ρ = .nx ρ := rfl
theorem e_asg : sAsg g τ ρ = S.ofR (g ρ) ρ fun d => match τ d ρ with | .ok ρ' => .nx ρ' | _ => .st := rfl
theorem e_append (ds : List D) (h : ρ[i]? = some (some (.list ds))) : sAppend i g ρ = S.ofR (g ρ) ρ fun d => if ds.length < sizeLine then .nx (ρ.set i (some (.list (ds ++ [d])))) else .st := by
  unfold sAppend
  rw [h]
  rfl
theorem e_retO (d : D) (h : ρ[i]? = some (some d)) : sRetO i ρ = .rn d := by
  unfold sRetO
  rw [h]
theorem e_var (d : D) (h : ρ[i]? = some (some d)) : gVar i ρ = .ok d := by
  unfold gVar
  rw [h]
end
theorem endS_rt (d : D) : endS (.rt d) = .ok d := rfl
theorem endS_rn (d : D) : endS (.rn d) = .ok d := rfl
theorem endS_nx (ρ : Rho) : endS (.nx ρ) = .ok .non := rfl
theorem endS_ex (x : Ex) (ρ : Rho) : endS (.ex x ρ) = .ex x := rfl
theorem endN_rn (d : D) : endN (.rn d) = .ok d := rfl
theorem endN_ex (x : Ex) (ρ : Rho) : endN (.ex x ρ) = .ex x := rfl
/-- a for whose turns are judged by what they come to -/
theorem forL_rule {τ : D → Rho → R Rho} {b : Rho → S} (Post : S → Prop) (Inv : Nat → Rho → Prop) : ∀ (items : List D) (k : Nat) (ρ : Rho), Inv k ρ →
    (∀ j d ρ, items[j]? = some d → Inv (k + j) ρ → ∃ ρ1, τ d ρ = .ok ρ1 ∧ match b ρ1 with
      | .nx ρ2 => Inv (k + j + 1) ρ2
      | .ct ρ2 => Inv (k + j + 1) ρ2
      | .bk ρ2 => Post (.nx ρ2)
      | r => Post r) → (∀ ρ, Inv (k + items.length) ρ → Post (.nx ρ)) → Post (forL τ b items ρ)
  | [], k, ρ, h0, _, hd => hd ρ h0
  | d :: ds, k, ρ, h0, hs, hd => by
    have ih := forL_rule (τ := τ) (b := b) Post Inv ds (k + 1)
    obtain ⟨ρ1, e1, h1⟩ := hs 0 d ρ rfl h0
    have go : ∀ ρ2, Inv (k + 1) ρ2 → Post (forL τ b ds ρ2) := fun ρ2 h2 => by
      refine ih ρ2 h2 (fun j d' ρ' e h => ?_) fun ρ' h => hd ρ' ?_
      · have := hs (j + 1) d' ρ' (by simpa using e) (by rw [show k + (j + 1) = k + 1 + j by omega]; exact h)
        rw [show k + (j + 1) + 1 = k + 1 + j + 1 by omega] at this
        exact this
      · rw [List.length_cons, show k + (ds.length + 1) = k + 1 + ds.length by omega]; exact h
    unfold forL
    rw [e1]
    dsimp only
    cases e2 : b ρ1 with
    | nx ρ2 => rw [e2] at h1; exact go ρ2 h1
    | ct ρ2 => rw [e2] at h1; exact go ρ2 h1
    | bk ρ2 => rw [e2] at h1; exact h1
    | rt d => rw [e2] at h1; exact h1
    | rn d => rw [e2] at h1; exact h1
    | ex x ρ2 => rw [e2] at h1; exact h1
    | st => rw [e2] at h1; exact h1
theorem set_set {α : Type} (l : List α) (i : Nat) (a b : α) : (l.set i a).set i b = l.set i b := by
  apply List.ext_getElem?
  intro j
  by_cases h : j = i
  · subst h
    by_cases hl : j < l.length
    · rw [List.getElem?_set_self (by simpa using hl), List.getElem?_set_self hl]
    · rw [List.getElem?_eq_none (by simpa using hl), List.getElem?_eq_none (by simpa using hl)]
  · rw [List.getElem?_set_ne (Ne.symm h), List.getElem?_set_ne (Ne.symm h), List.getElem?_set_ne (Ne.symm h)]
/-- a search: each turn goes on, or hands back v -/
theorem forL_all {i : Nat} {b : Rho → S} (P : D → Bool) (v : S) (hv : (∃ d, v = .rt d) ∨ ∃ d, v = .rn d) (ρ : Rho) : ∀ (items : List D) (ρ0 : Rho), (ρ0 = ρ ∨ ∃ d, ρ0 = ρ.set i (some d)) →
    (∀ d ∈ items, b (ρ.set i (some d)) = if P d = true then .nx (ρ.set i (some d)) else v) → ∃ ρ', (ρ' = ρ ∨ ∃ d, ρ' = ρ.set i (some d)) ∧ forL (τName i) b items ρ0 = if items.all P = true then .nx ρ' else v
  | [], ρ0, h0, _ => ⟨ρ0, h0, rfl⟩
  | d :: ds, ρ0, h0, h => by
    have e : ρ0.set i (some d) = ρ.set i (some d) := by
      rcases h0 with rfl | ⟨d', rfl⟩
      · rfl
      · exact set_set _ _ _ _
    have h1 := h d List.mem_cons_self
    unfold forL τName
    dsimp only
    rw [e, h1, List.all_cons]
    by_cases hp : P d = true
    · rw [if_pos hp, hp, Bool.true_and]
      obtain ⟨ρ', a, c⟩ := forL_all P v hv ρ ds (ρ.set i (some d)) (.inr ⟨d, rfl⟩) fun d' hd => h d' (List.mem_cons_of_mem _ hd)
      exact ⟨ρ', a, c⟩
    · rw [if_neg hp]
      refine ⟨ρ, .inl rfl, ?_⟩
      rw [show P d = false by simpa using hp, Bool.false_and, if_neg Bool.false_ne_true]
      rcases hv with ⟨d', rfl⟩ | ⟨d', rfl⟩ <;> rfl
/-- one list made of another -/
theorem lcR_map {i : Nat} {ge : Rho → R D} {ρ : Rho} (f : D → D) : ∀ (items : List D), (∀ d ∈ items, ge (ρ.set i (some d)) = .ok (f d)) → lcR (τName i) bYes ge ρ items = .ok (items.map f)
  | [], _ => rfl
  | d :: ds, h => by
    unfold lcR τName
    rw [ok_bind]
    show (bYes _).bind _ = _
    unfold bYes
    rw [ok_bind, if_pos rfl, h d List.mem_cons_self, ok_bind]
    have ih := lcR_map (i := i) (ge := ge) (ρ := ρ) f ds fun d' hd => h d' (List.mem_cons_of_mem _ hd)
    unfold τName bYes at ih
    rw [ih]
    rfl
theorem lcR_filter {i : Nat} {p : Rho → R Bool} {ge : Rho → R D} {ρ : Rho} (P : D → Bool) (f : D → D) : ∀ (items : List D), (∀ d ∈ items, p (ρ.set i (some d)) = .ok (P d)) → (∀ d ∈ items, P d = true → ge (ρ.set i (some d)) = .ok (f d)) →
    lcR (τName i) p ge ρ items = .ok ((items.filter P).map f)
  | [], _, _ => rfl
  | d :: ds, h, h2 => by
    unfold lcR τName
    rw [ok_bind]
    show (p (ρ.set i (some d))).bind _ = _
    rw [h d List.mem_cons_self, ok_bind]
    have ih := lcR_filter (i := i) (p := p) (ge := ge) (ρ := ρ) P f ds (fun d' hd => h d' (List.mem_cons_of_mem _ hd)) fun d' hd => h2 d' (List.mem_cons_of_mem _ hd)
    unfold τName at ih
    by_cases hp : P d = true
    · rw [if_pos hp, h2 d List.mem_cons_self hp, ok_bind, ih, List.filter_cons_of_pos hp]
      rfl
    · rw [if_neg hp, ih, List.filter_cons_of_neg hp]
/-- where the first targets are drawn from pairs: the turn is told as a whole -/
theorem lcR_gen {τ : D → Rho → R Rho} {p : Rho → R Bool} {ge : Rho → R D} {ρ : Rho} (f : D → Option D) : ∀ (items : List D),
    (∀ d ∈ items, ∃ ρ1, τ d ρ = .ok ρ1 ∧ ((∃ y, p ρ1 = .ok true ∧ ge ρ1 = .ok y ∧ f d = some y) ∨ (p ρ1 = .ok false ∧ f d = none))) → lcR τ p ge ρ items = .ok (items.filterMap f)
  | [], _ => rfl
  | d :: ds, h => by
    obtain ⟨ρ1, e1, h1⟩ := h d List.mem_cons_self
    have ih := lcR_gen (τ := τ) (p := p) (ge := ge) (ρ := ρ) f ds fun d' hd => h d' (List.mem_cons_of_mem _ hd)
    unfold lcR
    rw [e1, ok_bind]
    rcases h1 with ⟨y, e2, e3, e4⟩ | ⟨e2, e4⟩
    · rw [e2, ok_bind, if_pos rfl, e3, ok_bind, ih, List.filterMap_cons, e4]
      rfl
    · rw [e2, ok_bind, if_neg Bool.false_ne_true, ih, List.filterMap_cons, e4]
theorem small_ok {i : Int} (h : -(2 ^ 62) ≤ i) (h' : i < 2 ^ 62) : small62 i = true := by
  unfold small62
  rw [decide_eq_true h, decide_eq_true h']
  rfl
theorem atI_of {α : Type} {xs : List α} {i : Int} (h0 : 0 ≤ i) (h1 : i < xs.length) : ∃ d, atI xs i = some d ∧ xs[i.toNat]? = some d ∧ d ∈ xs := by
  have hl : i.toNat < xs.length := by omega
  refine ⟨xs[i.toNat], ?_, List.getElem?_eq_getElem hl, List.getElem_mem hl⟩
  have e : i = ((i.toNat : Nat) : Int) := by omega
  have := atI_nat (xs := xs) (j := i.toNat) (v := xs[i.toNat]) (List.getElem?_eq_getElem hl)
  rw [← e] at this
  exact this
theorem e_isi_int_non  : isiD "int" (.non) = .ok (.bl false) := rfl
theorem e_isi_int_bl (b : Bool) : isiD "int" (.bl b) = .ok (.bl true) := rfl
theorem e_isi_int_int (i : Int) : isiD "int" (.int i) = .ok (.bl true) := rfl
theorem e_isi_int_str (z : Str) : isiD "int" (.str z) = .ok (.bl false) := rfl
theorem e_isi_int_list (ds : List D) : isiD "int" (.list ds) = .ok (.bl false) := rfl
theorem e_isi_int_tup (ds : List D) : isiD "int" (.tup ds) = .ok (.bl false) := rfl
theorem e_isi_int_dict (ds : List (Key × D)) : isiD "int" (.dict ds) = .ok (.bl false) := rfl
theorem e_isi_int_dictT (ds : List (List Key × D)) : isiD "int" (.dictT ds) = .ok (.bl false) := rfl
theorem e_isi_bool_non  : isiD "bool" (.non) = .ok (.bl false) := rfl
theorem e_isi_bool_bl (b : Bool) : isiD "bool" (.bl b) = .ok (.bl true) := rfl
theorem e_isi_bool_int (i : Int) : isiD "bool" (.int i) = .ok (.bl false) := rfl
theorem e_isi_bool_str (z : Str) : isiD "bool" (.str z) = .ok (.bl false) := rfl
theorem e_isi_bool_list (ds : List D) : isiD "bool" (.list ds) = .ok (.bl false) := rfl
theorem e_isi_bool_tup (ds : List D) : isiD "bool" (.tup ds) = .ok (.bl false) := rfl
theorem e_isi_bool_dict (ds : List (Key × D)) : isiD "bool" (.dict ds) = .ok (.bl false) := rfl
theorem e_isi_bool_dictT (ds : List (List Key × D)) : isiD "bool" (.dictT ds) = .ok (.bl false) := rfl
theorem e_isi_str_non  : isiD "str" (.non) = .ok (.bl false) := rfl
theorem e_isi_str_bl (b : Bool) : isiD "str" (.bl b) = .ok (.bl false) := rfl
theorem e_isi_str_int (i : Int) : isiD "str" (.int i) = .ok (.bl false) := rfl
theorem e_isi_str_str (z : Str) : isiD "str" (.str z) = .ok (.bl true) := rfl
theorem e_isi_str_list (ds : List D) : isiD "str" (.list ds) = .ok (.bl false) := rfl
theorem e_isi_str_tup (ds : List D) : isiD "str" (.tup ds) = .ok (.bl false) := rfl
theorem e_isi_str_dict (ds : List (Key × D)) : isiD "str" (.dict ds) = .ok (.bl false) := rfl
theorem e_isi_str_dictT (ds : List (List Key × D)) : isiD "str" (.dictT ds) = .ok (.bl false) := rfl
theorem e_isi_list_non  : isiD "list" (.non) = .ok (.bl false) := rfl
theorem e_isi_list_bl (b : Bool) : isiD "list" (.bl b) = .ok (.bl false) := rfl
theorem e_isi_list_int (i : Int) : isiD "list" (.int i) = .ok (.bl false) := rfl
theorem e_isi_list_str (z : Str) : isiD "list" (.str z) = .ok (.bl false) := rfl
theorem e_isi_list_list (ds : List D) : isiD "list" (.list ds) = .ok (.bl true) := rfl
theorem e_isi_list_tup (ds : List D) : isiD "list" (.tup ds) = .ok (.bl false) := rfl
theorem e_isi_list_dict (ds : List (Key × D)) : isiD "list" (.dict ds) = .ok (.bl false) := rfl
theorem e_isi_list_dictT (ds : List (List Key × D)) : isiD "list" (.dictT ds) = .ok (.bl false) := rfl
theorem e_isi_tuple_non  : isiD "tuple" (.non) = .ok (.bl false) := rfl
theorem e_isi_tuple_bl (b : Bool) : isiD "tuple" (.bl b) = .ok (.bl false) := rfl
theorem e_isi_tuple_int (i : Int) : isiD "tuple" (.int i) = .ok (.bl false) := rfl
theorem e_isi_tuple_str (z : Str) : isiD "tuple" (.str z) = .ok (.bl false) := rfl
theorem e_isi_tuple_list (ds : List D) : isiD "tuple" (.list ds) = .ok (.bl false) := rfl
theorem e_isi_tuple_tup (ds : List D) : isiD "tuple" (.tup ds) = .ok (.bl true) := rfl
theorem e_isi_tuple_dict (ds : List (Key × D)) : isiD "tuple" (.dict ds) = .ok (.bl false) := rfl
theorem e_isi_tuple_dictT (ds : List (List Key × D)) : isiD "tuple" (.dictT ds) = .ok (.bl false) := rfl
theorem e_isi_dict_non  : isiD "dict" (.non) = .ok (.bl false) := rfl
theorem e_isi_dict_bl (b : Bool) : isiD "dict" (.bl b) = .ok (.bl false) := rfl
theorem e_isi_dict_int (i : Int) : isiD "dict" (.int i) = .ok (.bl false) := rfl
theorem e_isi_dict_str (z : Str) : isiD "dict" (.str z) = .ok (.bl false) := rfl
theorem e_isi_dict_list (ds : List D) : isiD "dict" (.list ds) = .ok (.bl false) := rfl
theorem e_isi_dict_tup (ds : List D) : isiD "dict" (.tup ds) = .ok (.bl false) := rfl
theorem e_isi_dict_dict (ds : List (Key × D)) : isiD "dict" (.dict ds) = .ok (.bl true) := rfl
theorem e_isi_dict_dictT (ds : List (List Key × D)) : isiD "dict" (.dictT ds) = .ok (.bl true) := rfl
theorem e_asB (b : Bool) : asB (.bl b) = .ok b := rfl
theorem e_lt (i j : Int) : ltD (.int i) (.int j) = .ok (.bl (decide (i < j))) := rfl
theorem e_gt (i j : Int) : gtD (.int i) (.int j) = .ok (.bl (decide (j < i))) := rfl
theorem e_le (i j : Int) : leD (.int i) (.int j) = .ok (.bl (decide (i ≤ j))) := rfl
theorem e_ge (i j : Int) : geD (.int i) (.int j) = .ok (.bl (decide (j ≤ i))) := rfl
theorem e_ltS (i j : Str) : ltD (.str i) (.str j) = .ok (.bl (ltS i j)) := rfl
theorem e_gtS (i j : Str) : gtD (.str i) (.str j) = .ok (.bl (ltS j i)) := rfl
theorem e_eqI (i j : Int) : eqD (.int i) (.int j) = .ok (.bl (i == j)) := rfl
theorem e_eqS (i j : Str) : eqD (.str i) (.str j) = .ok (.bl (i == j)) := rfl
theorem e_eqB (i j : Bool) : eqD (.bl i) (.bl j) = .ok (.bl (i == j)) := rfl
theorem e_neI (i j : Int) : neD (.int i) (.int j) = .ok (.bl (!(i == j))) := rfl
theorem e_neS (i j : Str) : neD (.str i) (.str j) = .ok (.bl (!(i == j))) := rfl
theorem e_neB (i j : Bool) : neD (.bl i) (.bl j) = .ok (.bl (!(i == j))) := rfl
theorem e_addI (i j : Int) : addD (.int i) (.int j) = .ok (.int (i + j)) := rfl
theorem e_iaddI (i j : Int) : iaddD (.int i) (.int j) = .ok (.int (i + j)) := rfl
theorem e_subI (i j : Int) : subD (.int i) (.int j) = .ok (.int (i - j)) := rfl
theorem e_negI (i : Int) : negD (.int i) = .ok (.int (-i)) := rfl
theorem e_andI (i j : Int) : andD (.int i) (.int j) = .ok (.int (Builtin.bitAnd i j)) := rfl
theorem e_orI (i j : Int) : orD (.int i) (.int j) = .ok (.int (Builtin.bitOr i j)) := rfl
theorem e_xorI (i j : Int) : xorD (.int i) (.int j) = .ok (.int (Builtin.bitXor i j)) := rfl
theorem e_modI (i j : Int) (h : 0 < j) : modD (.int i) (.int j) = .ok (.int (i % j)) := by
  show (if decide (0 < j) = true then R.ok (D.int (i % j)) else .st) = _
  rw [if_pos (decide_eq_true h)]
theorem e_fdivI (i j : Int) (h : 0 < j) (h' : j < 1073741824) : fdivD (.int i) (.int j) = .ok (.int (i / j)) := by
  show (if (decide (0 < j) && decide (j < 1073741824)) = true then R.ok (D.int (i / j)) else .st) = _
  rw [decide_eq_true h, decide_eq_true h']
  rfl
theorem e_mulI (i j : Int) (h : small64b i = true ∨ small64b j = true) : mulD (.int i) (.int j) = .ok (.int (i * j)) := by
  show (if (small64b i || small64b j) = true then R.ok (D.int (i * j)) else .st) = _
  rw [if_pos (by rw [Bool.or_eq_true]; exact h)]
theorem s64 {i : Int} (h : -(2 ^ 64) < i) (h' : i < 2 ^ 64) : small64b i = true := by
  unfold small64b
  rw [decide_eq_true h, decide_eq_true h']
  rfl
theorem e_shrI (i j : Int) (h : 0 ≤ j) : shrD (.int i) (.int j) = .ok (.int (i / 2 ^ j.toNat)) := by
  show (if decide (0 ≤ j) = true then R.ok (D.int (i / 2 ^ j.toNat)) else .st) = _
  rw [if_pos (decide_eq_true h)]
theorem e_shlI (i j : Int) (h : CPow i j) : shlD (.int i) (.int j) = .ok (.int (i * 2 ^ j.toNat)) := by
  show (if powOk i j = true then R.ok (D.int (i * 2 ^ j.toNat)) else .st) = _
  rw [if_pos (by unfold powOk; rw [decide_eq_true h.1, decide_eq_true h.2.1, decide_eq_true h.2.2]; rfl)]
theorem e_powI (i j : Int) (h : CPow i j) : powD (.int i) (.int j) = .ok (.int (i ^ j.toNat)) := by
  show (if powOk i j = true then R.ok (D.int (i ^ j.toNat)) else .st) = _
  rw [if_pos (by unfold powOk; rw [decide_eq_true h.1, decide_eq_true h.2.1, decide_eq_true h.2.2]; rfl)]
theorem line_small {n : Nat} (h : n ≤ 16777216) : n ≤ sizeLine := by rw [sizeLine_eq]; exact h
theorem e_addS (i j : Str) (h : i.length + j.length ≤ 16777216) : addD (.str i) (.str j) = .ok (.str (i ++ j)) := if_pos (line_small h)
theorem e_iaddS (i j : Str) (h : i.length + j.length ≤ 16777216) : iaddD (.str i) (.str j) = .ok (.str (i ++ j)) := if_pos (line_small h)
theorem e_addL (i j : List D) (h : i.length + j.length ≤ 16777216) : addD (.list i) (.list j) = .ok (.list (i ++ j)) := if_pos (line_small h)
theorem e_addT (i j : List D) (h : i.length + j.length ≤ 16777216) : addD (.tup i) (.tup j) = .ok (.tup (i ++ j)) := if_pos (line_small h)
theorem e_lenL (ds : List D) : lenD [.list ds] = .ok (.int ds.length) := rfl
theorem e_lenT (ds : List D) : lenD [.tup ds] = .ok (.int ds.length) := rfl
theorem e_lenS (z : Str) (h : z.length ≤ 16777216) : lenD [.str z] = .ok (.int z.length) := if_pos (line_small h)
theorem e_ord (c : Nat) : ordD [.str ⟨#[c]⟩] = .ok (.int c) := rfl
theorem e_intB (b : Bool) : intD [.bl b] = .ok (.int (if b then 1 else 0)) := rfl
theorem e_intI (i : Int) : intD [.int i] = .ok (.int i) := rfl
theorem e_lst (ds : List D) (h : ds.length ≤ 16777216) : lstD ds = .ok (.list ds) := if_pos (line_small h)
theorem e_tup (ds : List D) (h : ds.length ≤ 16777216) : tupD ds = .ok (.tup ds) := if_pos (line_small h)
theorem e_ixL (ds : List D) (i : Int) (d : D) (h : atI ds i = some d) : ixD (.list ds) (.int i) = .ok d := by
  show (match atI ds i with | some d => R.ok d | none => .st) = _
  rw [h]
theorem e_ixT (ds : List D) (i : Int) (d : D) (h : atI ds i = some d) : ixD (.tup ds) (.int i) = .ok d := by
  show (match atI ds i with | some d => R.ok d | none => .st) = _
  rw [h]
theorem e_ixS (z : Str) (i : Int) (c : Nat) (hz : z.length ≤ 16777216) (h : atI z.cps.toList i = some c) : ixD (.str z) (.int i) = .ok (.str ⟨#[c]⟩) := by
  show (if z.length ≤ sizeLine then (match atI z.cps.toList i with | some c => R.ok (D.str ⟨#[c]⟩) | none => .st) else .st) = _
  rw [if_pos (line_small hz), h]
theorem e_inS (i j : Str) : inDD (.str i) (.str j) = .ok (.bl (hasSub j i)) := rfl
theorem e_ninS (i j : Str) : notInDD (.str i) (.str j) = .ok (.bl (!hasSub j i)) := rfl
theorem e_inL (d : D) (ds : List D) (h : (flD d && ds.all flD) = true) : inDD d (.list ds) = .ok (.bl (ds.any fun z => eqvD z d)) := by
  have e : inD d (.list ds) = .ok (ds.any fun z => eqvD z d) := by
    have e1 : inD d (.list ds) = (if (flD d && ds.all flD) = true then R.ok (ds.any fun z => eqvD z d) else if (D.sh d && D.sh (.list ds)) = true then .ok (ds.any fun z => eqvD z d) else .st) := by
      cases d <;> rfl
    rw [e1, if_pos h]
  unfold inDD
  rw [e]
  rfl
theorem e_ninL (d : D) (ds : List D) (h : (flD d && ds.all flD) = true) : notInDD d (.list ds) = .ok (.bl (!ds.any fun z => eqvD z d)) := by
  have e : inD d (.list ds) = .ok (ds.any fun z => eqvD z d) := by
    have e1 : inD d (.list ds) = (if (flD d && ds.all flD) = true then R.ok (ds.any fun z => eqvD z d) else if (D.sh d && D.sh (.list ds)) = true then .ok (ds.any fun z => eqvD z d) else .st) := by
      cases d <;> rfl
    rw [e1, if_pos h]
  unfold notInDD
  rw [e]
  rfl
theorem e_inT (d : D) (ds : List D) (h : (flD d && ds.all flD) = true) : inDD d (.tup ds) = .ok (.bl (ds.any fun z => eqvD z d)) := by
  have e : inD d (.tup ds) = .ok (ds.any fun z => eqvD z d) := by
    have e1 : inD d (.tup ds) = (if (flD d && ds.all flD) = true then R.ok (ds.any fun z => eqvD z d) else .st) := by
      cases d <;> rfl
    rw [e1, if_pos h]
  unfold inDD
  rw [e]
  rfl
theorem e_ninT (d : D) (ds : List D) (h : (flD d && ds.all flD) = true) : notInDD d (.tup ds) = .ok (.bl (!ds.any fun z => eqvD z d)) := by
  have e : inD d (.tup ds) = .ok (ds.any fun z => eqvD z d) := by
    have e1 : inD d (.tup ds) = (if (flD d && ds.all flD) = true then R.ok (ds.any fun z => eqvD z d) else .st) := by
      cases d <;> rfl
    rw [e1, if_pos h]
  unfold notInDD
  rw [e]
  rfl
theorem e_seqL (g : Rho → R D) (ρ : Rho) (ds : List D) (h : g ρ = .ok (.list ds)) : iSeq g ρ = .ok ds := by unfold iSeq; rw [h]; rfl
theorem e_itL (ds : List D) : itemsD (.list ds) = .ok ds := rfl
theorem e_itT (ds : List D) : itemsD (.tup ds) = .ok ds := rfl
theorem e_itS (z : Str) : itemsD (.str z) = .ok (signs z) := rfl
theorem e_rng1 (j : Int) (h : small62 j = true) : rangeD1 [.int j] = .ok (rngL 0 j.toNat) := if_pos h
theorem e_rng2 (i j : Int) (h : (small62 i && small62 j) = true) : rangeD2 [.int i, .int j] = .ok (rngL i (j - i).toNat) := if_pos h
theorem e_zip (a b : List D) : zipD [.list a, .list b] = .ok (zipL a b) := rfl
theorem e_enum (a : List D) : enumD [.list a] = .ok (enumL 0 a) := rfl
theorem e_slL (ds : List D) (lo hi : Option Int) : slD (.list ds) lo hi = .ok (.list (cutD ds lo hi)) := rfl
theorem e_slT (ds : List D) (lo hi : Option Int) : slD (.tup ds) lo hi = .ok (.tup (cutD ds lo hi)) := rfl
theorem e_slS (z : Str) (lo hi : Option Int) (h : z.length ≤ 16777216) : slD (.str z) lo hi = .ok (.str (cutS z lo hi)) := if_pos (line_small h)
theorem e_asI (i : Int) : asI (.int i) = .ok (some i) := rfl
theorem e_isN1 : isND .non .non = .ok (.bl true) := rfl
theorem e_isN2 (i : Int) : isND (.int i) .non = .ok (.bl false) := rfl
theorem e_notN1 : notND .non .non = .ok (.bl false) := rfl
theorem e_notN2 (i : Int) : notND (.int i) .non = .ok (.bl true) := rfl
theorem e_truB (b : Bool) : truD (.bl b) = .ok b := rfl
theorem e_truI (i : Int) : truD (.int i) = .ok (i != 0) := rfl
theorem e_truL (ds : List D) : truD (.list ds) = .ok (!ds.isEmpty) := rfl
theorem e_lc (items ys : List D) (gi : Rho → R (List D)) (vs : List Nat) (τ : D → Rho → R Rho) (p : Rho → R Bool) (ge : Rho → R D) (ρ : Rho) (h : gi ρ = .ok items) (hz : items.length ≤ 16777216) (e : lcR τ p ge (wipeR ρ vs) items = .ok ys) : gLc gi vs τ p ge ρ = .ok (.list ys) := by
  unfold gLc
  rw [h, ok_bind, if_pos (line_small hz), e]
  rfl
theorem e_mtS (f : D → List D → R D) (go : Rho → R D) (t : Rho → R (List D)) (ρ : Rho) (z : Str) (h : go ρ = .ok (.str z)) : gMt "str" f go t ρ = (t ρ).bind fun ds => f (.str z) ds := by
  unfold gMt
  rw [h]
  rfl
theorem strs_map (ys : List Str) : strsOf (ys.map D.str) = some ys := by
  induction ys with
  | nil => rfl
  | cons y ys ih =>
    show (strsOf (ys.map D.str)).map (y :: ·) = _
    rw [ih]
    rfl
theorem e_join (a : Str) (ys : List Str) (h : joinOk a ys = true) : joinD (.str a) [.list (ys.map D.str)] = .ok (.str (Txt.join a ys)) := by
  show joinSeq a (ys.map D.str) = _
  unfold joinSeq
  rw [strs_map]
  dsimp only
  rw [if_pos h]
/-! ### ifs -/
theorem e_iteAnd (k x : Bool) : (if k = true then R.ok x else R.ok false) = R.ok (k && x) := by cases k <;> rfl
theorem e_iteOr (k x : Bool) : (if k = true then R.ok true else R.ok x) = R.ok (k || x) := by cases k <;> rfl
theorem e_iteAndD (k x : Bool) : (if k = true then R.ok (D.bl x) else R.ok (D.bl false)) = R.ok (D.bl (k && x)) := by cases k <;> rfl
theorem e_iteOrD (k x : Bool) : (if k = true then R.ok (D.bl true) else R.ok (D.bl x)) = R.ok (D.bl (k || x)) := by cases k <;> rfl
section
variable {c : Prop} [Decidable c]
theorem e_then_ite (a b : S) (u : Rho → S) : (if c then a else b).then u = if c then a.then u else b.then u := by split <;> rfl
theorem e_endS_ite (a b : S) : endS (if c then a else b) = if c then endS a else endS b := by split <;> rfl
theorem e_endN_ite (a b : S) : endN (if c then a else b) = if c then endN a else endN b := by split <;> rfl
theorem e_ofR_ite (a b : R D) (ρ : Rho) (k : D → S) : S.ofR (if c then a else b) ρ k = if c then S.ofR a ρ k else S.ofR b ρ k := by split <;> rfl
theorem e_pick_ite (a b : R Bool) (ρ : Rho) (s u : S) : S.pick (if c then a else b) ρ s u = if c then S.pick a ρ s u else S.pick b ρ s u := by split <;> rfl
theorem e_bind_ite {α β : Type} (a b : R α) (f : α → R β) : (if c then a else b).bind f = if c then a.bind f else b.bind f := by split <;> rfl
end
theorem e_powN (i : Int) (j : Int) (h : powOk i j = true) : powD (.int i) (.int j) = .ok (.int (i ^ j.toNat)) := if_pos h
/-- with what a function of data comes to -/
theorem endS_of (r : R D) (ρ : Rho) : endS (S.ofR r ρ fun d => S.rt d) = r := by cases r <;> rfl
theorem e_mul1 (i j : Int) (h : (-18446744073709551616 < i ∧ i < 18446744073709551616) ∨ (-18446744073709551616 < j ∧ j < 18446744073709551616)) : mulD (.int i) (.int j) = .ok (.int (i * j)) :=
  e_mulI i j (h.imp (fun q => s64 (by have := q.1; omega) (by have := q.2; omega)) fun q => s64 (by have := q.1; omega) (by have := q.2; omega))
theorem e_pow10 (j : Int) (h0 : 0 ≤ j) (h1 : j ≤ 1000000) : powD (.int 10) (.int j) = .ok (.int (10 ^ j.toNat)) := e_powI 10 j ⟨h0, h1, by decide⟩
theorem e_pow2 (j : Int) (h0 : 0 ≤ j) (h1 : j ≤ 1000000) : powD (.int 2) (.int j) = .ok (.int (2 ^ j.toNat)) := e_powI 2 j ⟨h0, h1, by decide⟩
theorem e_shl1 (j : Int) (h0 : 0 ≤ j) (h1 : j ≤ 1000000) : shlD (.int 1) (.int j) = .ok (.int (2 ^ j.toNat)) := by
  rw [e_shlI 1 j ⟨h0, h1, by decide⟩, Int.one_mul]
theorem lcR_ex {i : Nat} {ge : Rho → R D} {ρ : Rho} (P : D → Prop) : ∀ (items : List D), (∀ d ∈ items, ∃ y, ge (ρ.set i (some d)) = .ok y ∧ P y) → ∃ ys, lcR (τName i) bYes ge ρ items = .ok ys ∧ ys.length = items.length ∧ ∀ y ∈ ys, P y
  | [], _ => ⟨[], rfl, rfl, fun _ h => nomatch h⟩
  | d :: ds, h => by
    obtain ⟨y, e, p⟩ := h d List.mem_cons_self
    obtain ⟨ys, e2, l, ps⟩ := lcR_ex (i := i) (ge := ge) (ρ := ρ) P ds fun d' hd => h d' (List.mem_cons_of_mem _ hd)
    refine ⟨y :: ys, ?_, by rw [List.length_cons, List.length_cons, l], fun z hz => ?_⟩
    · unfold lcR τName bYes
      unfold τName bYes at e2
      rw [ok_bind, ok_bind, if_pos rfl, e, ok_bind, e2, ok_bind]
    · rcases List.mem_cons.mp hz with rfl | hz
      · exact p
      · exact ps z hz
theorem strs_ex (Q : Str → Prop) : ∀ (ys : List D), (∀ y ∈ ys, ∃ s, y = .str s ∧ Q s) → ∃ zs : List Str, ys = zs.map D.str ∧ ∀ z ∈ zs, Q z
  | [], _ => ⟨[], rfl, fun _ h => nomatch h⟩
  | y :: ys, h => by
    obtain ⟨s, rfl, q⟩ := h y List.mem_cons_self
    obtain ⟨zs, rfl, qs⟩ := strs_ex Q ys fun y' hy => h y' (List.mem_cons_of_mem _ hy)
    refine ⟨s :: zs, rfl, fun z hz => ?_⟩
    rcases List.mem_cons.mp hz with rfl | hz
    · exact q
    · exact qs z hz
theorem mem_rng {lo : Int} {n : Nat} {d : D} (h : d ∈ rngL lo n) : ∃ k : Nat, k < n ∧ d = .int (lo + k) := by
  unfold rngL at h
  obtain ⟨k, hk, rfl⟩ := List.mem_map.mp h
  exact ⟨k, List.mem_range.mp hk, rfl⟩
theorem rng_len (lo : Int) (n : Nat) : (rngL lo n).length = n := by unfold rngL; simp
theorem len_app (a b : Str) : (a ++ b).length = a.length + b.length := by
  rw [TL.len_tl, TL.len_tl, TL.len_tl, TL.tl_append, List.length_append]
theorem joinL_nil : ∀ l : List (List Nat), TL.joinL [] l = l.flatten
  | [] => rfl
  | [p] => by simp [TL.joinL]
  | p :: q :: r => by
    show p ++ ([] ++ TL.joinL [] (q :: r)) = _
    rw [joinL_nil (q :: r)]
    simp
theorem tl_joinE (zs : List Str) : TL.tl (Txt.join "" zs) = (zs.map TL.tl).flatten := by
  rw [TL.join_eq, TL.tl_join]
  exact joinL_nil _
theorem joinE_len (zs : List Str) : (Txt.join "" zs).length = (zs.map (·.length)).sum := by
  rw [TL.len_tl, tl_joinE, List.length_flatten, List.map_map]
  congr 1
theorem sum_one : ∀ (zs : List Str), (∀ z ∈ zs, z.length = 1) → (zs.map (·.length)).sum = zs.length
  | [], _ => rfl
  | z :: zs, h => by
    rw [List.map_cons, List.sum_cons, h z List.mem_cons_self, sum_one zs fun z' hz => h z' (List.mem_cons_of_mem _ hz), List.length_cons]
    omega
/-- a while, turn by turn -/
theorem whileL_rule {p : Rho → R Bool} {b : Rho → S} (Post : S → Prop) (Inv : Rho → Prop) (μ : Rho → Nat) (hs : ∀ ρ, Inv ρ → (p ρ = .ok false ∧ Post (.nx ρ)) ∨ (p ρ = .ok true ∧ match b ρ with
      | .nx ρ2 => Inv ρ2 ∧ μ ρ2 < μ ρ
      | .ct ρ2 => Inv ρ2 ∧ μ ρ2 < μ ρ
      | .bk ρ2 => Post (.nx ρ2)
      | r => Post r)) : ∀ (n : Nat) (ρ : Rho), μ ρ < n → Inv ρ → Post (whileL p b n ρ)
  | 0, ρ, h, _ => absurd h (Nat.not_lt_zero _)
  | n + 1, ρ, h, i => by
    have ih := whileL_rule Post Inv μ hs n
    unfold whileL
    rcases hs ρ i with ⟨e, q⟩ | ⟨e, q⟩
    · rw [e]
      exact q
    · rw [e]
      dsimp only
      rw [if_pos rfl]
      cases e2 : b ρ with
      | nx ρ2 => rw [e2] at q; exact ih ρ2 (by have := q.2; omega) q.1
      | ct ρ2 => rw [e2] at q; exact ih ρ2 (by have := q.2; omega) q.1
      | bk ρ2 => rw [e2] at q; exact q
      | rt d => rw [e2] at q; exact q
      | rn d => rw [e2] at q; exact q
      | ex x ρ2 => rw [e2] at q; exact q
      | st => rw [e2] at q; exact q
/-- scalars that == may be asked of at any depth -/
def okS : D → Bool
  | .non => true | .bl _ => true | .int _ => true
  | .str s => PyData.strOk s
  | _ => false
theorem okS_sh {d : D} (h : okS d = true) : D.flat d = true ∧ d.py.canLay0 = true ∧ d.py.depth = 0 := by
  cases d with
  | non => exact ⟨rfl, rfl, rfl⟩
  | bl b => exact ⟨rfl, rfl, rfl⟩
  | int b => exact ⟨rfl, rfl, rfl⟩
  | str b => exact ⟨rfl, h, rfl⟩
  | _ => cases h
/-- data of scalars, lists and tuples, so deep at most -/
def shN : Nat → D → Bool
  | _, .non => true | _, .bl _ => true | _, .int _ => true
  | _, .str s => PyData.strOk s
  | n + 1, .list ds => ds.all (shN n)
  | n + 1, .tup ds => ds.all (shN n)
  | _, _ => false
theorem shN_all {n : Nat} (ih : ∀ d, shN n d = true → D.flat d = true ∧ d.py.canLay0 = true ∧ d.py.depth ≤ n) : ∀ ds : List D, ds.all (shN n) = true → D.flatAll ds = true ∧ PyData.canLayAll0 (D.pyAll ds) = true ∧ PyData.depthAll (D.pyAll ds) ≤ n
  | [], _ => ⟨rfl, rfl, Nat.zero_le _⟩
  | d :: ds, h => by
    rw [List.all_cons, Bool.and_eq_true] at h
    obtain ⟨a, b, c⟩ := ih d h.1
    obtain ⟨a2, b2, c2⟩ := shN_all ih ds h.2
    refine ⟨?_, ?_, ?_⟩
    · show (D.flat d && D.flatAll ds) = true
      rw [a, a2]; rfl
    · show (d.py.canLay0 && PyData.canLayAll0 (D.pyAll ds)) = true
      rw [b, b2]; rfl
    · show max d.py.depth (PyData.depthAll (D.pyAll ds)) ≤ n
      omega
theorem shN_ok : ∀ (n : Nat) (d : D), shN n d = true → D.flat d = true ∧ d.py.canLay0 = true ∧ d.py.depth ≤ n
  | n, .non, _ => ⟨rfl, rfl, Nat.zero_le _⟩
  | n, .bl _, _ => ⟨rfl, rfl, Nat.zero_le _⟩
  | n, .int _, _ => ⟨rfl, rfl, Nat.zero_le _⟩
  | n, .str s, h => ⟨rfl, by cases n <;> exact h, Nat.zero_le _⟩
  | 0, .list _, h => by cases h
  | 0, .tup _, h => by cases h
  | n + 1, .list ds, h => by
    obtain ⟨a, b, c⟩ := shN_all (shN_ok n) ds h
    exact ⟨a, b, Nat.succ_le_succ c⟩
  | n + 1, .tup ds, h => by
    obtain ⟨a, b, c⟩ := shN_all (shN_ok n) ds h
    exact ⟨a, b, Nat.succ_le_succ c⟩
  | n, .dict _, h => by cases n <;> cases h
  | n, .dictT _, h => by cases n <;> cases h
  | n, .obj _ _, h => by cases n <;> cases h
theorem sh_of (n : Nat) {d : D} (h : shN n d = true) (hn : n ≤ 64 := by decide) : D.sh d = true := by
  obtain ⟨a, b, c⟩ := shN_ok n d h
  unfold D.sh SeqAt.shaped
  rw [a, b, decide_eq_true (by omega)]
  rfl
theorem e_eqSh (d e : D) (h : D.sh d = true) (h' : D.sh e = true) : eqD d e = .ok (.bl (eqvD d e)) := by
  unfold eqD
  by_cases hs : scD d e = true
  · rw [if_pos hs]
  · rw [if_neg hs, h, h']
    rfl
theorem e_neSh (d e : D) (h : D.sh d = true) (h' : D.sh e = true) : neD d e = .ok (.bl (!eqvD d e)) := by
  unfold neD
  by_cases hs : scD d e = true
  · rw [if_pos hs]
  · rw [if_neg hs, h, h']
    rfl
theorem and_bd (x : Int) (y : Nat) : 0 ≤ Builtin.bitAnd x (y : Int) ∧ Builtin.bitAnd x (y : Int) ≤ (y : Int) := by
  unfold Builtin.bitAnd
  have hy : decide (0 ≤ (y : Int)) = true := decide_eq_true (by omega)
  rw [hy]
  by_cases hx : 0 ≤ x
  · rw [decide_eq_true hx]
    have h : x.toNat &&& ((y : Int).toNat) ≤ (y : Int).toNat := Nat.and_le_right
    show 0 ≤ ((x.toNat &&& (y : Int).toNat : Nat) : Int) ∧ ((x.toNat &&& (y : Int).toNat : Nat) : Int) ≤ (y : Int)
    omega
  · rw [decide_eq_false hx]
    have h : (y : Int).toNat &&& (Builtin.bitNot x).toNat ≤ (y : Int).toNat := Nat.and_le_left
    show 0 ≤ (y : Int) - (((y : Int).toNat &&& (Builtin.bitNot x).toNat : Nat) : Int) ∧ (y : Int) - (((y : Int).toNat &&& (Builtin.bitNot x).toNat : Nat) : Int) ≤ (y : Int)
    omega
end Pd

namespace Pd
open PySem PySem.Spec PyProof.Rows L2
def S_in_set : Rho → S :=
  (sRet (g2 eqD (g2 andD (g2 shrD (gVar 0) (gVar 1)) (gC (.int 1))) (gC (.int 1))))
def F_in_set : List D → R D := runS 2 2 S_in_set

def fuel_choices_of_0 : Rho → Nat := fuelInt 0
def S_choices_of : Rho → S :=
  (sSeq (sSet 1 (gA lstD aNil))
  (sSeq (sSet 2 (gC (.int 0)))
  (sSeq (sWhile fuel_choices_of_0 (gB (g2 gtD (gVar 0) (gC (.int 0))))
  (sSeq (sIf (gB (g2 eqD (g2 andD (gVar 0) (gC (.int 1))) (gC (.int 1))))
  (sAppend 1 (gVar 2))
  sNil)
  (sSeq (sSet 0 (g2 shrD (gVar 0) (gC (.int 1))))
  (sAug 2 iaddD (gC (.int 1))))))
  (sRetO 1))))
def F_choices_of : List D → R D := runN 3 1 S_choices_of

def S_size_of : Rho → S :=
  (sRet (gA lenD (aCons (gA F_choices_of (aCons (gVar 0) aNil)) aNil)))
def F_size_of : List D → R D := runS 1 1 S_size_of

def S_least_choice : Rho → S :=
  (sSeq (sFor (iSeq (gA F_choices_of (aCons (gVar 0) aNil))) (τName 1)
  (sRet (gVar 1)))
  (sRet (gC .non)))
def F_least_choice : List D → R D := runS 2 1 S_least_choice

def S__law_cell_at : Rho → S :=
  (sSeq (sIf (gB (g2 ltD (gVar 1) (gA lenD (aCons (gVar 0) aNil))))
  (sRet (g2 ixD (gVar 0) (gVar 1)))
  sNil)
  (sRet (gC (.int 0))))
def F__law_cell_at : List D → R D := runS 2 2 S__law_cell_at

def S__law_mix : Rho → S :=
  (sSeq (sSet 2 (g2 shrD (gVar 0) (g2 addD (g2 mulD (gC (.int 27)) (gVar 1)) (gC (.int 1)))))
  (sSeq (sIf (bAnd (gB (g2 eqD (g2 modD (gVar 0) (gC (.int 2))) (gC (.int 0)))) (gB (g2 notInDD (gVar 2) (gA tupD (aCons (gC (.int 0)) (aCons (g1 negD (gC (.int 1))) aNil))))))
  (sRet (g2 andD (gVar 2) (gC (.int 134217727))))
  sNil)
  (sSeq (sSet 3 (g2 modD (g2 mulD (g2 addD (g2 modD (gVar 0) (gC (.int 1000000007))) (g2 mulD (gC (.int 7919)) (gVar 1))) (gC (.int 48271))) (gC (.int 2147483647))))
  (sSeq (sSet 3 (g2 modD (g2 mulD (gVar 3) (gVar 3)) (gC (.int 2147483629))))
  (sRet (g2 modD (g2 mulD (gVar 3) (g2 addD (gVar 3) (gC (.int 3)))) (gC (.int 2147483587))))))))
def F__law_mix : List D → R D := runS 4 2 S__law_mix

def S__law_chosen : Rho → S :=
  (sSeq (sSet 1 (gA F__law_cell_at (aCons (gVar 0) (aCons (gC (.int 0)) aNil))))
  (sSeq (sSet 2 (g2 modD (gVar 1) (gC (.int 257))))
  (sSeq (sSet 3 (g2 ixD (gA lstD (aCons (gC (.int 2)) (aCons (gC (.int 3)) (aCons (gC (.int 9)) aNil)))) (g2 modD (g2 fdivD (gVar 1) (gC (.int 257))) (gC (.int 3)))))
  (sSeq (sIf (gB (g2 eqD (g2 modD (g2 fdivD (gVar 1) (gC (.int 771))) (gC (.int 5))) (gC (.int 1))))
  (sRet (gA lstD (aCons (g2 modD (gA F__law_cell_at (aCons (gVar 0) (aCons (gC (.int 1)) aNil))) (gC (.int 256))) aNil)))
  sNil)
  (sSeq (sIf (gB (g2 eqD (g2 modD (g2 fdivD (gVar 1) (gC (.int 771))) (gC (.int 5))) (gC (.int 2))))
  (sRet (gA lstD aNil))
  sNil)
  (sRet (gLc (iA rangeD1 (aCons (gVar 2) aNil)) [4] (τName 4) (gB (g2 eqD (g2 modD (gA F__law_mix (aCons (gA F__law_cell_at (aCons (gVar 0) (aCons (g2 addD (gC (.int 1)) (g2 modD (gVar 4) (gC (.int 40)))) aNil))) (aCons (gVar 4) aNil))) (gVar 3)) (gC (.int 0)))) (gVar 4))))))))
def F__law_chosen : List D → R D := runS 5 1 S__law_chosen

def S__law_whole : Rho → S :=
  (sRet (gAnd (g1 (isiD "int") (gVar 0)) (gAnd (gNot (g1 (isiD "bool") (gVar 0))) (g2 eqD (gVar 0) (gVar 1)))))
def F__law_whole : List D → R D := runS 2 2 S__law_whole

def S__law_list : Rho → S :=
  (sSeq (sIf (bOr (bNot (gB (g1 (isiD "list") (gVar 0)))) (gB (g2 neD (gA lenD (aCons (gVar 0) aNil)) (gA lenD (aCons (gVar 1) aNil)))))
  (sRet (gC (.bl false)))
  sNil)
  (sRet (gA allD (aCons (gLc (iA zipD (aCons (gVar 0) (aCons (gVar 1) aNil))) [2, 3] (τTup 2 (τCons (τName 2) (τCons (τName 3) τNil))) bYes (gA F__law_whole (aCons (gVar 2) (aCons (gVar 3) aNil)))) aNil))))
def F__law_list : List D → R D := runS 4 2 S__law_list

def S_law : Rho → S :=
  (sSeq (sSet 1 (gA F__law_chosen (aCons (gVar 0) aNil)))
  (sSeq (sSet 2 (gC (.int 0)))
  (sSeq (sFor (iSeq (gVar 1)) (τName 3)
  (sSet 2 (g2 orD (gVar 2) (g2 shlD (gC (.int 1)) (gVar 3)))))
  (sSeq (sSet 4 (gA F_choices_of (aCons (gVar 2) aNil)))
  (sSeq (sIf (bScal (bOr (bNot (gB (gA F__law_list (aCons (gVar 4) (aCons (gVar 1) aNil))))) (bNot (gB (gA F__law_whole (aCons (gA F_size_of (aCons (gVar 2) aNil)) (aCons (gA lenD (aCons (gVar 1) aNil)) aNil)))))))
  (sRet (gC (.bl false)))
  sNil)
  (sSeq (sAppend 4 (g1 negD (gC (.int 1))))
  (sSeq (sIf (bAnd (gB (g2 eqD (gVar 1) (gA lstD aNil))) (gB (g2 notND (gA F_least_choice (aCons (gVar 2) aNil)) (gC .non))))
  (sRet (gC (.bl false)))
  sNil)
  (sSeq (sIf (bAnd (gB (g2 neD (gVar 1) (gA lstD aNil))) (bNot (gB (gA F__law_whole (aCons (gA F_least_choice (aCons (gVar 2) aNil)) (aCons (g2 ixD (gVar 1) (gC (.int 0))) aNil))))))
  (sRet (gC (.bl false)))
  sNil)
  (sSeq (sFor (iA rangeD1 (aCons (gC (.int 260)) aNil)) (τName 3)
  (sSeq (sSet 5 (gA F_in_set (aCons (gVar 2) (aCons (gVar 3) aNil))))
  (sIf (bOr (bNot (gB (g1 (isiD "bool") (gVar 5)))) (gB (g2 neD (gVar 5) (g2 inDD (gVar 3) (gVar 1)))))
  (sRet (gC (.bl false)))
  sNil)))
  (sRet (gA F__law_list (aCons (gA F_choices_of (aCons (gVar 2) aNil)) (aCons (gVar 1) aNil)))))))))))))
def F_law : List D → R D := runS 6 1 S_law

end Pd

set_option maxHeartbeats 4000000
namespace Pd
open PySem PySem.Spec PyProof.Rows L2
local macro_rules | `(tactic| walk_at "pd") => `(tactic| try simp only [e_seq, e_thn, e_trt, e_trn, e_tex, e_if, e_pick, e_pickx, e_ret, e_retN, e_set, e_drop, e_for, e_ofR, e_ofRx, e_ofI, e_nil, e_asg, endS_rt, endS_rn, endS_nx, endS_ex, endN_rn, endN_ex, gC, g1, g2, g3, gA, aNil, aCons, gAnd, gOr, gNot, gB, gTru, bAnd, bOr, bNot, gIf, iA, iSeq, gSl, pNone, pSome, ok_bind, ex_bind, st_bind, gVar, List.getElem?_cons_zero, List.getElem?_cons_succ, List.set_cons_zero, List.set_cons_succ, if_true, if_false, Bool.not_true, Bool.not_false, Bool.false_eq_true, ↓reduceIte, e_asB, e_lt, e_gt, e_le, e_ge, e_ltS, e_gtS, e_eqI, e_eqS, e_eqB, e_neI, e_neS, e_neB, e_addI, e_iaddI, e_subI, e_negI, e_andI, e_orI, e_xorI, e_lenL, e_lenT, e_ord, e_intB, e_intI, e_inS, e_ninS, e_itL, e_itT, e_itS, e_zip, e_enum, e_slL, e_slT, e_asI, e_isN1, e_isN2, e_notN1, e_notN2, e_truB, e_truI, e_truL, e_isi_int_non, e_isi_int_bl, e_isi_int_int, e_isi_int_str, e_isi_int_list, e_isi_int_tup, e_isi_int_dict, e_isi_int_dictT, e_isi_bool_non, e_isi_bool_bl, e_isi_bool_int, e_isi_bool_str, e_isi_bool_list, e_isi_bool_tup, e_isi_bool_dict, e_isi_bool_dictT, e_isi_str_non, e_isi_str_bl, e_isi_str_int, e_isi_str_str, e_isi_str_list, e_isi_str_tup, e_isi_str_dict, e_isi_str_dictT, e_isi_list_non, e_isi_list_bl, e_isi_list_int, e_isi_list_str, e_isi_list_list, e_isi_list_tup, e_isi_list_dict, e_isi_list_dictT, e_isi_tuple_non, e_isi_tuple_bl, e_isi_tuple_int, e_isi_tuple_str, e_isi_tuple_list, e_isi_tuple_tup, e_isi_tuple_dict, e_isi_tuple_dictT, e_isi_dict_non, e_isi_dict_bl, e_isi_dict_int, e_isi_dict_str, e_isi_dict_list, e_isi_dict_tup, e_isi_dict_dict, e_isi_dict_dictT, e_iteAnd, e_iteOr, e_iteAndD, e_iteOrD, e_then_ite, e_endS_ite, e_endN_ite, e_ofR_ite, e_pick_ite, e_bind_ite, e_modI, e_fdivI, e_mul1, e_pow10, e_pow2, e_shl1, e_shrI, e_addS, e_iaddS, e_addL, e_addT, e_lenS, e_lst, e_tup, e_inT, e_ninT, e_inL, e_ninL, e_slS, Int.reduceLT, Int.reduceLE, Int.reduceMul, Int.reduceAdd, Int.reduceSub, Int.reducePow, Int.reduceNeg, Int.reduceToNat, List.length_cons, List.length_nil, List.length_append, Nat.reduceAdd, Nat.reduceLeDiff, flD, List.all_cons, List.all_nil, Bool.and_true, Bool.true_and, Bool.and_self, decide_true, decide_false, or_true, true_or, and_true, true_and, eq_self])
local macro_rules | `(tactic| walk_at "pdh") => `(tactic| try simp only [e_seq, e_thn, e_trt, e_trn, e_tex, e_if, e_pick, e_pickx, e_ret, e_retN, e_set, e_drop, e_for, e_ofR, e_ofRx, e_ofI, e_nil, e_asg, endS_rt, endS_rn, endS_nx, endS_ex, endN_rn, endN_ex, gC, g1, g2, g3, gA, aNil, aCons, gAnd, gOr, gNot, gB, gTru, bAnd, bOr, bNot, gIf, iA, iSeq, gSl, pNone, pSome, ok_bind, ex_bind, st_bind, gVar, List.getElem?_cons_zero, List.getElem?_cons_succ, List.set_cons_zero, List.set_cons_succ, if_true, if_false, Bool.not_true, Bool.not_false, Bool.false_eq_true, ↓reduceIte, e_asB, e_lt, e_gt, e_le, e_ge, e_ltS, e_gtS, e_eqI, e_eqS, e_eqB, e_neI, e_neS, e_neB, e_addI, e_iaddI, e_subI, e_negI, e_andI, e_orI, e_xorI, e_lenL, e_lenT, e_ord, e_intB, e_intI, e_inS, e_ninS, e_itL, e_itT, e_itS, e_zip, e_enum, e_slL, e_slT, e_asI, e_isN1, e_isN2, e_notN1, e_notN2, e_truB, e_truI, e_truL, e_isi_int_non, e_isi_int_bl, e_isi_int_int, e_isi_int_str, e_isi_int_list, e_isi_int_tup, e_isi_int_dict, e_isi_int_dictT, e_isi_bool_non, e_isi_bool_bl, e_isi_bool_int, e_isi_bool_str, e_isi_bool_list, e_isi_bool_tup, e_isi_bool_dict, e_isi_bool_dictT, e_isi_str_non, e_isi_str_bl, e_isi_str_int, e_isi_str_str, e_isi_str_list, e_isi_str_tup, e_isi_str_dict, e_isi_str_dictT, e_isi_list_non, e_isi_list_bl, e_isi_list_int, e_isi_list_str, e_isi_list_list, e_isi_list_tup, e_isi_list_dict, e_isi_list_dictT, e_isi_tuple_non, e_isi_tuple_bl, e_isi_tuple_int, e_isi_tuple_str, e_isi_tuple_list, e_isi_tuple_tup, e_isi_tuple_dict, e_isi_tuple_dictT, e_isi_dict_non, e_isi_dict_bl, e_isi_dict_int, e_isi_dict_str, e_isi_dict_list, e_isi_dict_tup, e_isi_dict_dict, e_isi_dict_dictT, e_iteAnd, e_iteOr, e_iteAndD, e_iteOrD, e_then_ite, e_endS_ite, e_endN_ite, e_ofR_ite, e_pick_ite, e_bind_ite, e_modI, e_fdivI, e_mul1, e_pow10, e_pow2, e_shl1, e_shrI, e_addS, e_iaddS, e_addL, e_addT, e_lenS, e_lst, e_tup, e_inT, e_ninT, e_inL, e_ninL, e_slS, Int.reduceLT, Int.reduceLE, Int.reduceMul, Int.reduceAdd, Int.reduceSub, Int.reducePow, Int.reduceNeg, Int.reduceToNat, List.length_cons, List.length_nil, List.length_append, Nat.reduceAdd, Nat.reduceLeDiff, flD, List.all_cons, List.all_nil, Bool.and_true, Bool.true_and, Bool.and_self, decide_true, decide_false, or_true, true_or, and_true, true_and, eq_self, *])
/-! ### lists of numbers -/
def intsD (ks : List Nat) : List D := ks.map fun (k : Nat) => D.int (k : Int)
theorem intsD_sh (ks : List Nat) : D.sh (.list (intsD ks)) = true := sh_of 1 (by
  show (intsD ks).all (shN 0) = true
  rw [List.all_eq_true]
  intro d hd
  obtain ⟨k, _, rfl⟩ := List.mem_map.mp hd
  rfl)
theorem sorted_ext : ∀ {as bs : List Nat}, as.Pairwise (· < ·) → bs.Pairwise (· < ·) → (∀ x, x ∈ as ↔ x ∈ bs) → as = bs
  | [], [], _, _, _ => rfl
  | [], b :: bs, _, _, h => absurd ((h b).mpr List.mem_cons_self) (by simp)
  | a :: as, [], _, _, h => absurd ((h a).mp List.mem_cons_self) (by simp)
  | a :: as, b :: bs, ha, hb, h => by
    rw [List.pairwise_cons] at ha hb
    have e : a = b := by
      rcases List.mem_cons.mp ((h a).mp List.mem_cons_self) with e | m
      · exact e
      · rcases List.mem_cons.mp ((h b).mpr List.mem_cons_self) with e | m2
        · exact e.symm
        · have := hb.1 a m
          have := ha.1 b m2
          omega
    subst e
    congr 1
    refine sorted_ext ha.2 hb.2 fun x => ⟨fun hx => ?_, fun hx => ?_⟩
    · rcases List.mem_cons.mp ((h x).mp (List.mem_cons_of_mem _ hx)) with e | m
      · have := ha.1 x hx
        omega
      · exact m
    · rcases List.mem_cons.mp ((h x).mpr (List.mem_cons_of_mem _ hx)) with e | m
      · have := hb.1 x hx
        omega
      · exact m
/-! ### the bits of a set -/
def bitsF : Nat → Nat → Nat → List Nat
  | 0, _, _ => []
  | f + 1, c, n => if c = 0 then [] else (if c % 2 = 1 then [n] else []) ++ bitsF f (c / 2) (n + 1)
theorem bitsF_mem : ∀ (f c n x : Nat), c ≤ f → (x ∈ bitsF f c n ↔ n ≤ x ∧ c.testBit (x - n) = true)
  | 0, c, n, x, h => by
    have hc : c = 0 := by omega
    subst hc
    simp [bitsF]
  | f + 1, c, n, x, h => by
    unfold bitsF
    by_cases hc : c = 0
    · subst hc
      simp
    · rw [if_neg hc, List.mem_append, bitsF_mem f (c / 2) (n + 1) x (by omega)]
      by_cases hx : x = n
      · subst hx
        rw [Nat.sub_self, Nat.testBit_zero]
        by_cases h2 : c % 2 = 1
        · simp [h2]
        · simp [h2]
          omega
      · have h1 : (x ∈ if c % 2 = 1 then [n] else []) ↔ False := by
          split <;> simp [hx]
        rw [h1, false_or]
        constructor
        · rintro ⟨a, b⟩
          refine ⟨by omega, ?_⟩
          rw [show x - n = (x - (n + 1)) + 1 by omega, Nat.testBit_succ]
          exact b
        · rintro ⟨a, b⟩
          refine ⟨by omega, ?_⟩
          rw [show x - n = (x - (n + 1)) + 1 by omega, Nat.testBit_succ] at b
          exact b
theorem bitsF_ge : ∀ (f c n x : Nat), x ∈ bitsF f c n → n ≤ x
  | 0, c, n, x, h => by cases h
  | f + 1, c, n, x, h => by
    unfold bitsF at h
    by_cases hc : c = 0
    · rw [if_pos hc] at h
      cases h
    · rw [if_neg hc, List.mem_append] at h
      rcases h with h | h
      · split at h
        · simp at h; omega
        · cases h
      · have := bitsF_ge f _ _ x h
        omega
theorem bitsF_sorted : ∀ (f c n : Nat), (bitsF f c n).Pairwise (· < ·)
  | 0, c, n => List.Pairwise.nil
  | f + 1, c, n => by
    unfold bitsF
    by_cases hc : c = 0
    · rw [if_pos hc]
      exact List.Pairwise.nil
    · rw [if_neg hc, List.pairwise_append]
      refine ⟨by split <;> simp, bitsF_sorted f _ _, fun a ha b hb => ?_⟩
      have h2 := bitsF_ge f _ _ b hb
      split at ha
      · simp at ha; omega
      · cases ha
theorem bitsF_len (f c n : Nat) : (bitsF f c n).length ≤ f := by
  induction f generalizing c n with
  | zero => exact Nat.le_refl _
  | succ f ih =>
    unfold bitsF
    split
    · exact Nat.zero_le _
    · rw [List.length_append]
      have := ih (c / 2) (n + 1)
      split
      · simp; omega
      · simp; omega
theorem bit_and1 (c : Nat) : Builtin.bitAnd (c : Int) 1 = ((c % 2 : Nat) : Int) := by
  have h := Bits.bitAnd_mask (x := (c : Int)) 1 (by omega)
  rw [show ((2 : Int) ^ 1 - 1) = 1 by decide, show ((2 : Int) ^ 1) = 2 by decide] at h
  rw [h]
  omega
theorem bitsF_lt : ∀ (f c n k x : Nat), c < 2 ^ k → x ∈ bitsF f c n → x < n + k
  | 0, c, n, k, x, _, h => by cases h
  | f + 1, c, n, k, x, hk, h => by
    unfold bitsF at h
    by_cases hc : c = 0
    · rw [if_pos hc] at h
      cases h
    · rw [if_neg hc, List.mem_append] at h
      have k0 : 0 < k := by
        cases k with
        | zero => exact absurd hk (by simp; omega)
        | succ k => exact Nat.succ_pos _
      rcases h with h | h
      · split at h
        · simp at h; omega
        · cases h
      · have := bitsF_lt f (c / 2) (n + 1) (k - 1) x (by
          have : 2 ^ k = 2 * 2 ^ (k - 1) := by rw [← Nat.pow_succ']; congr 1; omega
          omega) h
        omega
theorem len_sorted : ∀ (ks : List Nat) (lo hi : Nat), ks.Pairwise (· < ·) → (∀ x ∈ ks, lo ≤ x ∧ x < hi) → ks.length ≤ hi - lo
  | [], lo, hi, _, _ => Nat.zero_le _
  | k :: ks, lo, hi, h, b => by
    rw [List.pairwise_cons] at h
    have h1 := b k List.mem_cons_self
    have := len_sorted ks (k + 1) hi h.2 fun x hx => ⟨h.1 x hx, (b x (List.mem_cons_of_mem _ hx)).2⟩
    rw [List.length_cons]
    omega
theorem bitsF_len2 (f c k : Nat) (h : c < 2 ^ k) : (bitsF f c 0).length ≤ k := by
  have := len_sorted (bitsF f c 0) 0 k (bitsF_sorted f c 0) fun x hx => ⟨Nat.zero_le _, by have := bitsF_lt f c 0 k x h hx; omega⟩
  omega
/-- the program's while -/
theorem choices_of_at (c k : Nat) (hc : c < 2 ^ k) (hk : k ≤ 1000000) : F_choices_of [.int (c : Int)] = .ok (.list (intsD (bitsF c c 0))) := by
  show endN (S_choices_of [some (.int (c : Int)), none, none]) = _
  unfold S_choices_of
  walk_at "pd"
  have key := whileL_rule (p := gB (g2 gtD (gVar 0) (gC (D.int 0)))) (b := sSeq (sIf (gB (g2 eqD (g2 andD (gVar 0) (gC (D.int 1))) (gC (D.int 1)))) (sAppend 1 (gVar 2)) sNil) (sSeq (sSet 0 (g2 shrD (gVar 0) (gC (D.int 1)))) (sAug 2 iaddD (gC (D.int 1)))))
    (fun r => endN (r.then (sRetO 1)) = .ok (.list (intsD (bitsF c c 0))))
    (fun ρ => ∃ (d f n : Nat) (acc : List Nat), ρ = [some (.int (d : Int)), some (.list (intsD acc)), some (.int (n : Int))] ∧ acc ++ bitsF f d n = bitsF c c 0 ∧ d ≤ f)
    (fun ρ => match ρ[0]? with | some (some (D.int n)) => n.toNat | _ => 0)
    (fun ρ h => by
      obtain ⟨d, f, n, acc, rfl, e, hf⟩ := h
      walk_at "pd"
      by_cases h0 : (0 : Int) < (d : Int)
      · right
        rw [decide_eq_true h0]
        refine ⟨rfl, ?_⟩
        obtain ⟨f, rfl⟩ : ∃ g, f = g + 1 := ⟨f - 1, by omega⟩
        rw [bit_and1 d]
        have e1 : ((((d % 2 : Nat) : Int)) == 1) = decide (d % 2 = 1) := by
          have : ((((d % 2 : Nat) : Int)) == 1) = decide ((((d % 2 : Nat) : Int)) = 1) := rfl
          rw [this, decide_eq_decide]
          omega
        rw [e1]
        have hd0 : ¬ d = 0 := by omega
        have e2 : acc ++ ((if d % 2 = 1 then [n] else []) ++ bitsF f (d / 2) (n + 1)) = bitsF c c 0 := by
          rw [← e]
          conv => rhs; unfold bitsF
          rw [if_neg hd0]
        have la : acc.length < sizeLine := by
          have h1 : (bitsF c c 0).length ≤ k := bitsF_len2 c c k hc
          rw [← e] at h1
          rw [List.length_append] at h1
          rw [sizeLine_eq]
          omega
        have dd : ((d : Int) / 2 ^ (1 : Nat)) = ((d / 2 : Nat) : Int) := by
          rw [show ((2 : Int) ^ (1 : Nat)) = 2 by decide]
          omega
        by_cases hb : d % 2 = 1
        · rw [decide_eq_true hb]
          rw [if_pos hb] at e2
          walk_at "pd"
          rw [e_append (i := 1) (intsD acc) rfl]
          have la' : (intsD acc).length < sizeLine := by unfold intsD; rw [List.length_map]; exact la
          walk_at "pd"
          rw [if_pos la']
          walk_at "pd"
          unfold sAug
          walk_at "pd"
          refine ⟨⟨d / 2, f, n + 1, acc ++ [n], ?_, by rw [List.append_assoc]; exact e2, by omega⟩, ?_⟩
          · have e3 : intsD acc ++ [D.int (n : Int)] = intsD (acc ++ [n]) := by unfold intsD; rw [List.map_append]; rfl
            rw [e3]
            show [some (D.int ((d : Int) / 2 ^ (1 : Nat))), _, some (D.int ((n : Int) + 1))] = _
            rw [dd]
            rfl
          · show ((d : Int) / 2 ^ (1 : Nat)).toNat < (d : Int).toNat
            rw [dd]
            omega
        · rw [decide_eq_false hb]
          rw [if_neg hb] at e2
          walk_at "pd"
          unfold sAug
          walk_at "pd"
          refine ⟨⟨d / 2, f, n + 1, acc, ?_, e2, by omega⟩, ?_⟩
          · show [some (D.int ((d : Int) / 2 ^ (1 : Nat))), _, some (D.int ((n : Int) + 1))] = _
            rw [dd]
            rfl
          · show ((d : Int) / 2 ^ (1 : Nat)).toNat < (d : Int).toNat
            rw [dd]
            omega
      · left
        rw [decide_eq_false h0]
        refine ⟨rfl, ?_⟩
        have hd : d = 0 := by omega
        subst hd
        have e3 : bitsF f 0 n = [] := by cases f <;> rfl
        rw [e3, List.append_nil] at e
        rw [← e]
        rfl)
  exact key _ _ (Nat.lt_succ_self _) ⟨c, c, 0, [], rfl, rfl, Nat.le_refl _⟩
/-! ### the law's draws -/
theorem mix_int (c k : Int) (hk : 0 ≤ k) : ∃ r, F__law_mix [.int c, .int k] = .ok (.int r) ∧ 0 ≤ r := by
  show ∃ r, endS (S__law_mix [some (.int c), some (.int k), none, none]) = .ok (.int r) ∧ 0 ≤ r
  unfold S__law_mix
  have h0 : 0 ≤ 27 * k + 1 := by omega
  walk_at "pdh"
  generalize hx : (c % 1000000007 + 7919 * k) * 48271 % 2147483647 = x
  have hx0 : -18446744073709551616 < x := by have := Int.emod_nonneg ((c % 1000000007 + 7919 * k) * 48271) (show (2147483647 : Int) ≠ 0 by decide); omega
  have hx1 : x < 18446744073709551616 := by have := Int.emod_lt_of_pos ((c % 1000000007 + 7919 * k) * 48271) (show (0 : Int) < 2147483647 by decide); omega
  clear hx
  walk_at "pdh"
  generalize hy : x * x % 2147483629 = y
  have hy0 : -18446744073709551616 < y := by have := Int.emod_nonneg (x * x) (show (2147483629 : Int) ≠ 0 by decide); omega
  have hy1 : y < 18446744073709551616 := by have := Int.emod_lt_of_pos (x * x) (show (0 : Int) < 2147483629 by decide); omega
  clear hy
  walk_at "pdh"
  have m0 : 0 ≤ Builtin.bitAnd (c / 2 ^ (27 * k + 1).toNat) 134217727 := (and_bd _ 134217727).1
  have m1 : 0 ≤ y * (y + 3) % 2147483587 := Int.emod_nonneg _ (by decide)
  repeat' split
  all_goals exact ⟨_, rfl, by assumption⟩
theorem cell_at_in (ns : List Int) (k : Nat) (hn : ns.length ≤ 63) : ∃ z, F__law_cell_at [.list (ns.map D.int), .int (k : Int)] = .ok (.int z) := by
  show ∃ z, endS (S__law_cell_at [some (.list (ns.map D.int)), some (.int (k : Int))]) = .ok (.int z)
  unfold S__law_cell_at
  walk_at "pd"
  rw [List.length_map]
  by_cases h : (k : Int) < (ns.length : Int)
  · rw [decide_eq_true h]
    walk_at "pd"
    have hl : k < (ns.map D.int).length := by rw [List.length_map]; omega
    obtain ⟨d, ed, _, md⟩ := atI_of (xs := ns.map D.int) (i := (k : Int)) (by omega) (by omega)
    rw [e_ixL _ _ _ ed]
    obtain ⟨z, _, rfl⟩ := List.mem_map.mp md
    exact ⟨z, rfl⟩
  · rw [decide_eq_false h]
    exact ⟨0, rfl⟩
/-! ### the law -/
theorem ofN_inj {a b : Nat} : D.int (a : Int) = D.int (b : Int) → a = b := fun h => by
  injection h with h
  omega
theorem chosen_at (ns : List Int) (hn : ns.length ≤ 63) : ∃ ks : List Nat, F__law_chosen [.list (ns.map D.int)] = .ok (.list (intsD ks)) ∧ ks.Pairwise (· < ·) ∧ ∀ k ∈ ks, k < 256 := by
  show ∃ ks : List Nat, endS (S__law_chosen [some (.list (ns.map D.int)), none, none, none, none]) = .ok (.list (intsD ks)) ∧ ks.Pairwise (· < ·) ∧ ∀ k ∈ ks, k < 256
  unfold S__law_chosen
  obtain ⟨c, ec⟩ := cell_at_in ns 0 hn
  obtain ⟨z1, e1⟩ := cell_at_in ns 1 hn
  have ec' : F__law_cell_at [.list (ns.map D.int), .int 0] = .ok (.int c) := ec
  have e1' : F__law_cell_at [.list (ns.map D.int), .int 1] = .ok (.int z1) := e1
  walk_at "pd"
  rw [ec']
  walk_at "pd"
  obtain ⟨d3, e3, _, m3⟩ := atI_of (xs := [D.int 2, D.int 3, D.int 9]) (i := c / 257 % 3) (Int.emod_nonneg _ (by decide)) (Int.emod_lt_of_pos _ (by decide))
  rw [e_ixL _ _ _ e3]
  obtain ⟨r, rfl, r0⟩ : ∃ r : Int, d3 = .int r ∧ 0 < r := by
    simp only [List.mem_cons, List.not_mem_nil, or_false] at m3
    rcases m3 with rfl | rfl | rfl <;> exact ⟨_, rfl, by decide⟩
  walk_at "pd"
  rw [e1']
  walk_at "pd"
  have b0 := Int.emod_nonneg c (show (257 : Int) ≠ 0 by decide)
  have b1 := Int.emod_lt_of_pos c (show (0 : Int) < 257 by decide)
  generalize c % 257 = M at b0 b1
  -- the comprehension
  have P : ∃ P : D → Bool, ∀ d ∈ rngL 0 M.toNat, (gB (g2 eqD (g2 modD (gA F__law_mix (aCons (gA F__law_cell_at (aCons (gVar 0) (aCons (g2 addD (gC (.int 1)) (g2 modD (gVar 4) (gC (.int 40)))) aNil))) (aCons (gVar 4) aNil))) (gVar 3)) (gC (.int 0)))) ([some (.list (ns.map D.int)), some (.int c), some (.int M), some (.int r), none].set 4 (some d)) = .ok (P d) := by
    have h : ∀ d : D, ∃ b : Bool, d ∈ rngL 0 M.toNat → (gB (g2 eqD (g2 modD (gA F__law_mix (aCons (gA F__law_cell_at (aCons (gVar 0) (aCons (g2 addD (gC (.int 1)) (g2 modD (gVar 4) (gC (.int 40)))) aNil))) (aCons (gVar 4) aNil))) (gVar 3)) (gC (.int 0)))) ([some (.list (ns.map D.int)), some (.int c), some (.int M), some (.int r), none].set 4 (some d)) = .ok b := fun d => by
      by_cases hd : d ∈ rngL 0 M.toNat
      · obtain ⟨k, hk, rfl⟩ := mem_rng hd
        obtain ⟨z, ez⟩ := cell_at_in ns (1 + k % 40) hn
        obtain ⟨q, eq, _⟩ := mix_int z (0 + k) (by omega)
        refine ⟨q % r == 0, fun _ => ?_⟩
        have ek : (1 : Int) + (0 + (k : Int)) % 40 = ((1 + k % 40 : Nat) : Int) := by omega
        walk_at "pd"
        rw [ek, ez]
        walk_at "pd"
        rw [eq]
        walk_at "pdh"
      · exact ⟨false, fun z => absurd z hd⟩
    exact ⟨fun d => (h d).choose, fun d hd => (h d).choose_spec hd⟩
  obtain ⟨P, hP⟩ := P
  have elc := e_lc (rngL 0 M.toNat) _ (iA rangeD1 (aCons (gVar 2) aNil)) [4] (τName 4) _ (gVar 4) [some (.list (ns.map D.int)), some (.int c), some (.int M), some (.int r), none] (by walk_at "pd"; rw [e_rng1 M (small_ok (by omega) (by omega))]) (by rw [rng_len]; omega)
    (lcR_filter (i := 4) P id (rngL 0 M.toNat) hP (fun d hd _ => rfl))
  rw [elc]
  walk_at "pd"
  have b2 := Int.emod_nonneg z1 (show (256 : Int) ≠ 0 by decide)
  have b3 := Int.emod_lt_of_pos z1 (show (0 : Int) < 256 by decide)
  repeat' split
  · refine ⟨[(z1 % 256).toNat], ?_, by simp, fun k hk => ?_⟩
    · have : ((z1 % 256).toNat : Int) = z1 % 256 := by omega
      unfold intsD
      rw [List.map_cons, List.map_nil, this]
    · simp at hk
      omega
  · exact ⟨[], rfl, List.Pairwise.nil, fun k hk => nomatch hk⟩
  · refine ⟨(List.range M.toNat).filter fun k => P (.int ((0 : Int) + (k : Int))), ?_, (List.pairwise_lt_range).filter _, fun k hk => ?_⟩
    · congr 2
      unfold intsD rngL
      rw [List.map_id, List.filter_map]
      congr 1
      funext k
      rw [Int.zero_add]
    · have := List.mem_range.mp (List.mem_filter.mp hk).1
      omega
theorem whole_at (a b : Int) : F__law_whole [.int a, .int b] = .ok (.bl (a == b)) := rfl
theorem list_at (ks : List Nat) (hk : ks.length ≤ 16777216) : F__law_list [.list (intsD ks), .list (intsD ks)] = .ok (.bl true) := by
  show endS (S__law_list [some (.list (intsD ks)), some (.list (intsD ks)), none, none]) = _
  unfold S__law_list
  walk_at "pd"
  rw [beq_self_eq_true]
  walk_at "pd"
  have key := lcR_gen (τ := τTup 2 (τCons (τName 2) (τCons (τName 3) τNil))) (p := bYes) (ge := gA F__law_whole (aCons (gVar 2) (aCons (gVar 3) aNil))) (ρ := [some (.list (intsD ks)), some (.list (intsD ks)), none, none]) (fun _ => some (.bl true)) (zipL (intsD ks) (intsD ks)) (fun d hd => by
    obtain ⟨j, hj⟩ := List.getElem?_of_mem hd
    rw [zipL_at] at hj
    cases e : (intsD ks)[j]? with
    | none => rw [e] at hj; cases hj
    | some x =>
      rw [e] at hj
      cases hj
      obtain ⟨k, _, rfl⟩ := List.mem_map.mp (List.mem_of_getElem? e)
      refine ⟨_, rfl, .inl ⟨_, rfl, ?_, rfl⟩⟩
      walk_at "pd"
      show F__law_whole [.int (k : Int), .int (k : Int)] = _
      rw [whole_at, beq_self_eq_true])
  have lz : (zipL (intsD ks) (intsD ks)).length ≤ 16777216 := by
    rw [zipL_len]
    unfold intsD
    rw [List.length_map]
    omega
  rw [e_lc _ _ _ [2, 3] _ _ _ _ rfl lz key]
  walk_at "pd"
  have hb : ∀ l : List D, bools (l.filterMap fun _ => some (.bl true)) = some (l.map fun _ => true) := fun l => by
    induction l with
    | nil => rfl
    | cons d l ih =>
      show (bools (l.filterMap fun _ => some (.bl true))).map (true :: ·) = _
      rw [ih]
      rfl
  show endS (S.ofR (match bools _ with | some bs => R.ok (D.bl (bs.all id)) | none => .st) _ _) = _
  rw [hb]
  have ha : ∀ l : List D, (l.map fun _ => true).all id = true := fun l => by simp
  show endS (S.ofR (R.ok (D.bl ((List.map (fun _ => true) _).all id))) _ _) = _
  rw [ha]
  rfl

def maskN (ks : List Nat) (a : Nat) : Nat := ks.foldl (fun a k => a ||| 2 ^ k) a
theorem maskN_bit : ∀ (ks : List Nat) (a n : Nat), (maskN ks a).testBit n = (a.testBit n || decide (n ∈ ks))
  | [], a, n => by simp [maskN]
  | k :: ks, a, n => by
    show (maskN ks (a ||| 2 ^ k)).testBit n = _
    rw [maskN_bit ks (a ||| 2 ^ k) n, Nat.testBit_or, Nat.testBit_two_pow, Bool.or_assoc]
    congr 1
    by_cases h : k = n
    · subst h
      simp
    · have h' : ¬ n = k := fun z => h z.symm
      simp [h, h']
theorem maskN_lt : ∀ (ks : List Nat) (a m : Nat), a < 2 ^ m → (∀ k ∈ ks, k < m) → maskN ks a < 2 ^ m
  | [], a, m, h, _ => h
  | k :: ks, a, m, h, hk => by
    refine maskN_lt ks (a ||| 2 ^ k) m (Nat.or_lt_two_pow h ?_) fun x hx => hk x (List.mem_cons_of_mem _ hx)
    exact Nat.pow_lt_pow_right (by decide) (hk k List.mem_cons_self)
theorem or_loop (A B C E : Option D) : ∀ (ks : List Nat) (a : Nat) (x : Option D), (∀ k ∈ ks, k < 256) → ∃ x', forL (τName 3) (sSet 2 (g2 orD (gVar 2) (g2 shlD (gC (.int 1)) (gVar 3)))) (intsD ks) [A, B, some (.int (a : Int)), x, C, E] = .nx [A, B, some (.int (maskN ks a : Int)), x', C, E]
  | [], a, x, _ => ⟨x, rfl⟩
  | k :: ks, a, x, h => by
    obtain ⟨x', e⟩ := or_loop A B C E ks (a ||| 2 ^ k) (some (.int (k : Int))) fun z hz => h z (List.mem_cons_of_mem _ hz)
    refine ⟨x', ?_⟩
    have h1 := h k List.mem_cons_self
    show (match sSet 2 (g2 orD (gVar 2) (g2 shlD (gC (.int 1)) (gVar 3))) [A, B, some (.int (a : Int)), some (.int (k : Int)), C, E] with
      | .nx ρ2 => forL (τName 3) (sSet 2 (g2 orD (gVar 2) (g2 shlD (gC (.int 1)) (gVar 3)))) (intsD ks) ρ2
      | .ct ρ2 => forL (τName 3) (sSet 2 (g2 orD (gVar 2) (g2 shlD (gC (.int 1)) (gVar 3)))) (intsD ks) ρ2
      | .bk ρ2 => .nx ρ2
      | r => r) = _
    have hs : shlD (.int 1) (.int (k : Int)) = .ok (.int ((2 ^ k : Nat) : Int)) := by
      rw [e_shl1 _ (by omega) (by omega)]
      rw [show ((k : Int).toNat) = k from Int.toNat_natCast k]
      rw [Int.natCast_pow]
      rfl
    have ho : Builtin.bitOr (a : Int) ((2 ^ k : Nat) : Int) = ((a ||| 2 ^ k : Nat) : Int) := by
      rw [Bits.bitOr_pp (Int.natCast_nonneg _) (Int.natCast_nonneg _), Int.toNat_natCast, Int.toNat_natCast]
    have e1 : sSet 2 (g2 orD (gVar 2) (g2 shlD (gC (.int 1)) (gVar 3))) [A, B, some (.int (a : Int)), some (.int (k : Int)), C, E] = .nx [A, B, some (.int ((a ||| 2 ^ k : Nat) : Int)), some (.int (k : Int)), C, E] := by
      walk_at "pd"
      rw [hs]
      walk_at "pd"
      rw [ho]
    rw [e1]
    exact e
theorem in_set_at (m n : Nat) : F_in_set [.int (m : Int), .int (n : Int)] = .ok (.bl (m.testBit n)) := by
  show endS (S_in_set [some (.int (m : Int)), some (.int (n : Int))]) = _
  unfold S_in_set
  have h0 : (0 : Int) ≤ (n : Int) := by omega
  walk_at "pdh"
  have e1 : ((m : Int) / 2 ^ ((n : Int).toNat)) = ((m / 2 ^ n : Nat) : Int) := by
    rw [Int.toNat_natCast, Int.natCast_ediv, Int.natCast_pow]
    rfl
  rw [e1, bit_and1]
  have e2 : m.testBit n = decide (m / 2 ^ n % 2 = 1) := by
    rw [Nat.testBit_eq_decide_div_mod_eq]
  rw [e2]
  have e3 : ((((m / 2 ^ n % 2 : Nat) : Int)) == 1) = decide ((((m / 2 ^ n % 2 : Nat) : Int)) = 1) := rfl
  rw [e3]
  congr 2
  rw [decide_eq_decide]
  omega
theorem any_in (ks : List Nat) (n : Nat) : ((intsD ks).any fun z => eqvD z (.int (n : Int))) = decide (n ∈ ks) := by
  induction ks with
  | nil => rfl
  | cons k ks ih =>
    show (eqvD (.int (k : Int)) (.int (n : Int)) || (intsD ks).any fun z => eqvD z (.int (n : Int))) = _
    rw [ih]
    have e : eqvD (.int (k : Int)) (.int (n : Int)) = decide (n = k) := by
      show ((k : Int) == (n : Int)) = _
      have : ((k : Int) == (n : Int)) = decide ((k : Int) = (n : Int)) := rfl
      rw [this, decide_eq_decide]
      omega
    rw [e]
    by_cases h1 : n = k
    · simp [h1]
    · simp [h1]
theorem ints_fl (ks : List Nat) : (intsD ks).all flD = true := by
  rw [List.all_eq_true]
  intro d hd
  obtain ⟨k, _, rfl⟩ := List.mem_map.mp hd
  rfl
def firstD : List Nat → D
  | [] => .non
  | k :: _ => .int (k : Int)
theorem law_true (ns : List Int) (hn : ns.length ≤ 63) : F_law [.list (ns.map D.int)] = .ok (.bl true) := by
  show endS (S_law [some (.list (ns.map D.int)), none, none, none, none, none]) = _
  unfold S_law
  obtain ⟨ks, ek, sk, bk⟩ := chosen_at ns hn
  walk_at "pd"
  rw [ek]
  walk_at "pd"
  obtain ⟨x', eo⟩ := or_loop (some (.list (ns.map D.int))) (some (.list (intsD ks))) none none ks 0 none bk
  have eo' : forL (τName 3) (sSet 2 (g2 orD (gVar 2) (g2 shlD (gC (D.int 1)) (gVar 3)))) (intsD ks) [some (D.list (List.map D.int ns)), some (D.list (intsD ks)), some (D.int 0), none, none, none] = _ := eo
  rw [eo']
  walk_at "pd"
  have hm : maskN ks 0 < 2 ^ 256 := maskN_lt ks 0 256 (by decide) bk
  have eb : bitsF (maskN ks 0) (maskN ks 0) 0 = ks := sorted_ext (bitsF_sorted _ _ _) sk fun x => by
    rw [bitsF_mem _ _ _ _ (Nat.le_refl _), Nat.sub_zero, maskN_bit]
    simp
  have hl : ks.length ≤ 16777216 := by
    have := bitsF_len2 (maskN ks 0) (maskN ks 0) 256 hm
    rw [eb] at this
    omega
  have ec : F_choices_of [.int (maskN ks 0 : Int)] = .ok (.list (intsD ks)) := by
    rw [choices_of_at (maskN ks 0) 256 hm (by decide), eb]
  have hbit : ∀ n, (maskN ks 0).testBit n = decide (n ∈ ks) := fun n => by
    rw [maskN_bit]
    simp
  generalize maskN ks 0 = M at ec hm hbit
  have es : F_size_of [.int (M : Int)] = .ok (.int (ks.length : Int)) := by
    show endS (S_size_of [some (.int (M : Int))]) = _
    unfold S_size_of
    walk_at "pd"
    rw [ec]
    walk_at "pd"
    unfold intsD
    rw [List.length_map]
  have el : F_least_choice [.int (M : Int)] = .ok (firstD ks) := by
    show endS (S_least_choice [some (.int (M : Int)), none]) = _
    unfold S_least_choice
    walk_at "pd"
    rw [ec]
    walk_at "pd"
    cases ks <;> rfl
  have ll := list_at ks hl
  rw [ec]
  walk_at "pd"
  -- the law's ifs
  have t1 : bScal (bOr (bNot (gB (gA F__law_list (aCons (gVar 4) (aCons (gVar 1) aNil))))) (bNot (gB (gA F__law_whole (aCons (gA F_size_of (aCons (gVar 2) aNil)) (aCons (gA lenD (aCons (gVar 1) aNil)) aNil))))))
      [some (D.list (List.map D.int ns)), some (D.list (intsD ks)), some (D.int (M : Int)), x', some (D.list (intsD ks)), none] = .ok false := by
    unfold bScal
    walk_at "pd"
    rw [ll, es]
    walk_at "pd"
    rw [whole_at]
    unfold intsD
    rw [List.length_map, beq_self_eq_true]
    rfl
  rw [t1]
  walk_at "pd"
  rw [e_append (i := 4) (intsD ks) rfl]
  have hl2 : (intsD ks).length < sizeLine := by
    have := bitsF_len2 M M 256 hm
    unfold intsD
    rw [List.length_map, sizeLine_eq]
    have h1 : ks.length ≤ 256 := by
      have := len_sorted ks 0 256 sk fun x hx => ⟨Nat.zero_le _, bk x hx⟩
      omega
    omega
  walk_at "pd"
  rw [if_pos hl2]
  walk_at "pd"
  have fin : ∀ v : D, ∃ a b, forL (τName 3) (sSeq (sSet 5 (gA F_in_set (aCons (gVar 2) (aCons (gVar 3) aNil)))) (sIf (bOr (bNot (gB (g1 (isiD "bool") (gVar 5)))) (gB (g2 neD (gVar 5) (g2 inDD (gVar 3) (gVar 1))))) (sRet (gC (D.bl false))) sNil)) (rngL 0 260)
      [some (D.list (List.map D.int ns)), some (D.list (intsD ks)), some (D.int (M : Int)), x', some v, none] = .nx [some (D.list (List.map D.int ns)), some (D.list (intsD ks)), some (D.int (M : Int)), a, some v, b] := fun v => by

    refine forL_rule (fun r => ∃ a b, r = .nx [some (D.list (List.map D.int ns)), some (D.list (intsD ks)), some (D.int (M : Int)), a, some v, b]) (fun _ ρ => ∃ a b, ρ = [some (D.list (List.map D.int ns)), some (D.list (intsD ks)), some (D.int (M : Int)), a, some v, b]) _ 0 _ ⟨_, _, rfl⟩ ?_ ?_
    · rintro j d ρ hd ⟨a, b, rfl⟩
      obtain ⟨n, _, rfl⟩ := mem_rng (List.mem_of_getElem? hd)
      refine ⟨_, rfl, ?_⟩
      have e1 : F_in_set [.int (M : Int), .int ((0 : Int) + (n : Int))] = .ok (.bl (M.testBit n)) := by
        rw [Int.zero_add]
        exact in_set_at M n
      have e2 : inDD (.int ((0 : Int) + (n : Int))) (.list (intsD ks)) = .ok (.bl (decide (n ∈ ks))) := by
        rw [Int.zero_add, e_inL _ _ (by rw [ints_fl]; rfl), any_in]
      walk_at "pd"
      rw [e1]
      walk_at "pd"
      rw [e2]
      walk_at "pd"
      rw [hbit n, beq_self_eq_true]
      walk_at "pd"
      exact ⟨_, _, rfl⟩
    · rintro ρ ⟨a, b, rfl⟩
      exact ⟨a, b, rfl⟩
  obtain ⟨a, b, ef⟩ := fin (.list (intsD ks ++ [D.int (-1)]))
  have r260 : small62 260 = true := rfl
  have sh0 : D.sh (.list []) = true := rfl
  have q1 : (((R.ok (D.bl (eqvD (.list (intsD ks)) (.list [])))).bind asB).bind fun k => if k = true then ((R.ok (firstD ks)).bind fun d => notND d .non).bind asB else R.ok false) = (R.ok false : R Bool) := by
    cases ks <;> rfl
  rw [e_eqSh _ _ (intsD_sh ks) sh0, el, q1]
  walk_at "pd"
  have q2 : (((R.ok (D.bl (!eqvD (.list (intsD ks)) (.list [])))).bind asB).bind fun k => if k = true then ((((R.ok (firstD ks)).bind fun d => ((ixD (.list (intsD ks)) (.int 0)).bind fun d => R.ok [d]).bind fun ds => R.ok (d :: ds)).bind F__law_whole).bind asB).bind fun k => R.ok !k else R.ok false) = (R.ok false : R Bool) := by
    cases ks with
    | nil => rfl
    | cons k r =>
      have e0 : ixD (.list (intsD (k :: r))) (.int 0) = .ok (.int (k : Int)) := e_ixL _ 0 _ (atI_nat (j := 0) rfl)
      have ew : F__law_whole [.int (k : Int), .int (k : Int)] = .ok (.bl true) := by rw [whole_at, beq_self_eq_true]
      rw [e0]
      show (if (!false) = true then ((F__law_whole [.int (k : Int), .int (k : Int)]).bind asB).bind fun q => R.ok !q else R.ok false) = _
      rw [ew]
      rfl
  rw [e_neSh _ _ (intsD_sh ks) sh0, el, q2]
  walk_at "pd"
  rw [e_rng1 260 r260]
  walk_at "pd"
  have ef' := ef
  rw [ef']
  walk_at "pd"
  rw [ec]
  walk_at "pd"
  rw [ll]
  rfl

end Pd

set_option maxHeartbeats 0
namespace Pd
open PySem PySem.Spec PyProof.Rows L2
def top (i : Nat) : Stmt := PySem.Challenge.pw_manyleaf_k02_sets_of_choices.main.body.getD i (.Pass ⟨0, 0, 0, 0⟩)
abbrev s_in_set : Stmt := top 1
abbrev s_choices_of : Stmt := top 2
abbrev s_size_of : Stmt := top 3
abbrev s_least_choice : Stmt := top 4
abbrev s__law_cell_at : Stmt := top 6
abbrev s__law_mix : Stmt := top 7
abbrev s__law_chosen : Stmt := top 8
abbrev s__law_whole : Stmt := top 9
abbrev s__law_list : Stmt := top 10
abbrev s_law : Stmt := top 11
structure Tx (mg : Str → Option Value) : Prop where
  f_all : mg "all" = none
  f_bool : mg "bool" = none
  f_int : mg "int" = none
  f_isinstance : mg "isinstance" = none
  f_len : mg "len" = none
  f_list : mg "list" = none
  f_range : mg "range" = none
  f_zip : mg "zip" = none
section
variable {P : Program} {w : World} {K : PySem.W.Frag} {mg : Str → Option Value} {base : Heap}
theorem sc_in_set : FnScope ["choices", "number"] ["choices", "number"] (defScope s_in_set) := ⟨rfl, rfl, rfl, by decide +kernel, rfl, by decide +kernel, by decide +kernel⟩
theorem c_in_set (T : Tx mg) (Df : DefF K mg "in_set" s_in_set ["choices", "number"]) : CalF P w K mg base 1 "in_set" ["choices", "number"] F_in_set :=
  cal_d (m := []) (m' := []) (s := S_in_set) 2 Df sc_in_set rfl (by decide) fun f cdv A outer sh H E F0 hr =>
    (ss_one (s_ret (d_cmp (op_eq2 hr.units) o_eq (d_op op_and o_and (d_op op_shr o_shr (d_var 0) (d_var 1)) d_int) d_int (nomark _))))
theorem sc_choices_of : FnScope ["choices", "found", "number"] ["choices"] (defScope s_choices_of) := ⟨rfl, rfl, rfl, by decide +kernel, rfl, by decide +kernel, by decide +kernel⟩
theorem c_choices_of (T : Tx mg) (Df : DefF K mg "choices_of" s_choices_of ["choices"]) : CalN P w K mg base 1 "choices_of" ["choices"] F_choices_of :=
  cal_n (m := [false, false, false]) (m' := []) (s := S_choices_of) 3 Df sc_choices_of rfl (by decide) fun f cdv A outer sh H E F0 hr =>
    (ss_cons (m2 := [false, true, false]) (s_setN 1 sc_choices_of.nd (n_list da_nil) (by decide))
    (ss_cons (m2 := [false, true, false]) (s_set 2 sc_choices_of.nd d_int)
    (ss_cons (m2 := [false, true, false]) (s_while fuel_choices_of_0 (passes_of rfl) (t_cmp op_gt2 o_gt (d_var 0) d_int (nomark _))
    (ss_cons (m2 := [false, true, false]) (s_if (t_cmp (op_eq2 hr.units) o_eq (d_op op_and o_and (d_var 0) d_int) d_int (nomark _))
    (ss_one (s_append 1 (d_var 2)))
    ss_nil)
    (ss_cons (m2 := [false, true, false]) (s_set 0 sc_choices_of.nd (d_op op_shr o_shr (d_var 0) d_int))
    (ss_one (s_aug 2 sc_choices_of.nd iop_addD o_iadd d_int)))))
    (ss_one (s_retO 1)))))
theorem sc_size_of : FnScope ["choices"] ["choices"] (defScope s_size_of) := ⟨rfl, rfl, rfl, by decide +kernel, rfl, by decide +kernel, by decide +kernel⟩
theorem c_size_of (T : Tx mg) (h_choices_of : CalN P w K mg base 1 "choices_of" ["choices"] F_choices_of) (Df : DefF K mg "size_of" s_size_of ["choices"]) : CalF P w K mg base 2 "size_of" ["choices"] F_size_of :=
  cal_d (m := []) (m' := []) (s := S_size_of) 1 Df sc_size_of rfl (by decide) fun f cdv A outer sh H E F0 hr =>
    (ss_one (s_ret (d_callB call_len c_len T.f_len (da_cons (d_new (n_c h_choices_of hr (by decide) (takes_of rfl rfl rfl rfl) (da_cons (d_var 0) da_nil))) da_nil))))
theorem sc_least_choice : FnScope ["choices", "number"] ["choices"] (defScope s_least_choice) := ⟨rfl, rfl, rfl, by decide +kernel, rfl, by decide +kernel, by decide +kernel⟩
theorem c_least_choice (T : Tx mg) (h_choices_of : CalN P w K mg base 1 "choices_of" ["choices"] F_choices_of) (Df : DefF K mg "least_choice" s_least_choice ["choices"]) : CalF P w K mg base 2 "least_choice" ["choices"] F_least_choice :=
  cal_d (m := []) (m' := []) (s := S_least_choice) 2 Df sc_least_choice rfl (by decide) fun f cdv A outer sh H E F0 hr =>
    (ss_cons (m2 := []) (s_for (passes_of rfl) rfl (di_seq (d_new (n_c h_choices_of hr (by decide) (takes_of rfl rfl rfl rfl) (da_cons (d_var 0) da_nil)))) (dg_name 1 sc_least_choice.nd)
    (ss_one (s_ret (d_var 1))))
    (ss_one (s_ret d_non)))
theorem sc__law_cell_at : FnScope ["_law_script", "_law_k"] ["_law_script", "_law_k"] (defScope s__law_cell_at) := ⟨rfl, rfl, rfl, by decide +kernel, rfl, by decide +kernel, by decide +kernel⟩
theorem c__law_cell_at (T : Tx mg) (Df : DefF K mg "_law_cell_at" s__law_cell_at ["_law_script", "_law_k"]) : CalF P w K mg base 1 "_law_cell_at" ["_law_script", "_law_k"] F__law_cell_at :=
  cal_d (m := []) (m' := []) (s := S__law_cell_at) 2 Df sc__law_cell_at rfl (by decide) fun f cdv A outer sh H E F0 hr =>
    (ss_cons (m2 := []) (s_if (t_cmp op_lt2 o_lt (d_var 1) (d_callB call_len c_len T.f_len (da_cons (d_var 0) da_nil)) (nomark _))
    (ss_one (s_ret (d_ix (d_var 0) (d_var 1))))
    ss_nil)
    (ss_one (s_ret d_int)))
theorem sc__law_mix : FnScope ["_law_cell", "_law_k", "_law_left", "_law_number"] ["_law_cell", "_law_k"] (defScope s__law_mix) := ⟨rfl, rfl, rfl, by decide +kernel, rfl, by decide +kernel, by decide +kernel⟩
theorem c__law_mix (T : Tx mg) (Df : DefF K mg "_law_mix" s__law_mix ["_law_cell", "_law_k"]) : CalF P w K mg base 1 "_law_mix" ["_law_cell", "_law_k"] F__law_mix :=
  cal_d (m := []) (m' := []) (s := S__law_mix) 4 Df sc__law_mix rfl (by decide) fun f cdv A outer sh H E F0 hr =>
    (ss_cons (m2 := []) (s_set 2 sc__law_mix.nd (d_op op_shr o_shr (d_var 0) (d_op op_addD o_add (d_op op_mul o_mul d_int (d_var 1)) d_int)))
    (ss_cons (m2 := []) (s_if (t_w (w_and (t_cmp (op_eq2 hr.units) o_eq (d_op op_mod o_mod (d_var 0) d_int) d_int (nomark _)) (w_and1 (t_cmp (op_notIn2 (hu65 hr)) o_notIn (d_var 2) (d_tup (da_cons d_int (da_cons (d_un un_neg o_neg d_int) da_nil))) (by rfl)))))
    (ss_one (s_ret (d_op op_and o_and (d_var 2) d_int)))
    ss_nil)
    (ss_cons (m2 := []) (s_set 3 sc__law_mix.nd (d_op op_mod o_mod (d_op op_mul o_mul (d_op op_addD o_add (d_op op_mod o_mod (d_var 0) d_int) (d_op op_mul o_mul d_int (d_var 1))) d_int) d_int))
    (ss_cons (m2 := []) (s_set 3 sc__law_mix.nd (d_op op_mod o_mod (d_op op_mul o_mul (d_var 3) (d_var 3)) d_int))
    (ss_one (s_ret (d_op op_mod o_mod (d_op op_mul o_mul (d_var 3) (d_op op_addD o_add (d_var 3) d_int)) d_int)))))))
theorem sc__law_chosen : FnScope ["_law_script", "_law_cell", "_law_most", "_law_rare", "_law_n"] ["_law_script"] (defScope s__law_chosen) := ⟨rfl, rfl, rfl, by decide +kernel, rfl, by decide +kernel, by decide +kernel⟩
theorem c__law_chosen (T : Tx mg) (h__law_cell_at : CalF P w K mg base 1 "_law_cell_at" ["_law_script", "_law_k"] F__law_cell_at) (h__law_mix : CalF P w K mg base 1 "_law_mix" ["_law_cell", "_law_k"] F__law_mix) (Df : DefF K mg "_law_chosen" s__law_chosen ["_law_script"]) : CalF P w K mg base 2 "_law_chosen" ["_law_script"] F__law_chosen :=
  cal_d (m := []) (m' := []) (s := S__law_chosen) 5 Df sc__law_chosen rfl (by decide) fun f cdv A outer sh H E F0 hr =>
    (ss_cons (m2 := []) (s_set 1 sc__law_chosen.nd (d_c h__law_cell_at hr (by decide) (takes_of rfl rfl rfl rfl) (da_cons (d_var 0) (da_cons d_int da_nil))))
    (ss_cons (m2 := []) (s_set 2 sc__law_chosen.nd (d_op op_mod o_mod (d_var 1) d_int))
    (ss_cons (m2 := []) (s_set 3 sc__law_chosen.nd (d_ix (d_new (n_list (da_cons d_int (da_cons d_int (da_cons d_int da_nil))))) (d_op op_mod o_mod (d_op op_fdiv o_fdiv (d_var 1) d_int) d_int)) rfl (Or.inr rfl))
    (ss_cons (m2 := []) (s_if (t_cmp (op_eq2 hr.units) o_eq (d_op op_mod o_mod (d_op op_fdiv o_fdiv (d_var 1) d_int) d_int) d_int (nomark _))
    (ss_one (s_ret (d_new (n_list (da_cons (d_op op_mod o_mod (d_c h__law_cell_at hr (by decide) (takes_of rfl rfl rfl rfl) (da_cons (d_var 0) (da_cons d_int da_nil))) d_int) da_nil)))))
    ss_nil)
    (ss_cons (m2 := []) (s_if (t_cmp (op_eq2 hr.units) o_eq (d_op op_mod o_mod (d_op op_fdiv o_fdiv (d_var 1) d_int) d_int) d_int (nomark _))
    (ss_one (s_ret (d_new (n_list da_nil))))
    ss_nil)
    (ss_one (s_ret (d_new (n_lc (own := [("_law_n", 4)]) rfl sc__law_chosen.nd (di_range1 T.f_range (da_cons (d_var 2) da_nil)) (by show blkC ["_law_script", "_law_cell", "_law_most", "_law_rare", "_law_n"] (defScope s__law_chosen) _ _ = true; decide +kernel) (fun _ _ _ _ _ => (dg_name 4 sc__law_chosen.nd)) (fun _ _ _ _ _ => (dts_one (t_cmp (op_eq2 hr.units) o_eq (d_op op_mod o_mod (d_c h__law_mix hr (by decide) takes0 (da_cons (d_c h__law_cell_at hr (by decide) takes0 (da_cons (d_var 0) (da_cons (d_op op_addD o_add d_int (d_op op_mod o_mod (d_var 4) d_int)) da_nil))) (da_cons (d_var 4) da_nil))) (d_var 3)) d_int (nomark _)))) (fun _ _ _ _ _ => (d_var 4)) (by decide))))))))))
theorem sc__law_whole : FnScope ["_law_found", "_law_due"] ["_law_found", "_law_due"] (defScope s__law_whole) := ⟨rfl, rfl, rfl, by decide +kernel, rfl, by decide +kernel, by decide +kernel⟩
theorem c__law_whole (T : Tx mg) (Df : DefF K mg "_law_whole" s__law_whole ["_law_found", "_law_due"]) : CalF P w K mg base 1 "_law_whole" ["_law_found", "_law_due"] F__law_whole :=
  cal_d (m := []) (m' := []) (s := S__law_whole) 2 Df sc__law_whole rfl (by decide) fun f cdv A outer sh H E F0 hr =>
    (ss_one (s_ret (d_and (d_isinst T.f_isinstance T.f_int (d_var 0)) (d_and (d_not (d_isinst T.f_isinstance T.f_bool (d_var 0))) (d_one (d_cmp (op_eq2 hr.units) o_eq (d_var 0) (d_var 1) (nomark _)))))))
theorem sc__law_list : FnScope ["_law_found", "_law_due", "_law_one", "_law_other"] ["_law_found", "_law_due"] (defScope s__law_list) := ⟨rfl, rfl, rfl, by decide +kernel, rfl, by decide +kernel, by decide +kernel⟩
theorem c__law_list (T : Tx mg) (h__law_whole : CalF P w K mg base 1 "_law_whole" ["_law_found", "_law_due"] F__law_whole) (Df : DefF K mg "_law_list" s__law_list ["_law_found", "_law_due"]) : CalF P w K mg base 2 "_law_list" ["_law_found", "_law_due"] F__law_list :=
  cal_d (m := []) (m' := []) (s := S__law_list) 4 Df sc__law_list rfl (by decide) fun f cdv A outer sh H E F0 hr =>
    (ss_cons (m2 := []) (s_if (t_w (w_or (t_not (t_val (d_isinst T.f_isinstance T.f_list (d_var 0)))) (w_or1 (t_cmp (op_ne2 hr.units) o_ne (d_callB call_len c_len T.f_len (da_cons (d_var 0) da_nil)) (d_callB call_len c_len T.f_len (da_cons (d_var 1) da_nil)) (nomark _)))))
    (ss_one (s_ret d_bl))
    ss_nil)
    (ss_one (s_ret (d_callB (cr_all rfl) c_all T.f_all (da_cons (d_new (n_lc (own := [("_law_one", 2), ("_law_other", 3)]) rfl sc__law_list.nd (di_zip T.f_zip (da_cons (d_var 0) (da_cons (d_var 1) da_nil))) (by show blkC ["_law_found", "_law_due", "_law_one", "_law_other"] (defScope s__law_list) _ _ = true; decide +kernel) (fun _ _ _ _ _ => (dg_tup rfl (dgs_cons (dg_name 2 sc__law_list.nd) (dgs_cons (dg_name 3 sc__law_list.nd) dgs_nil)))) (fun _ _ _ _ _ => dts_nil) (fun _ _ _ _ _ => (d_c h__law_whole hr (by decide) takes0 (da_cons (d_var 2) (da_cons (d_var 3) da_nil)))) (by decide))) da_nil)))))
theorem sc_law : FnScope ["_law_script", "_law_chosen_here", "_law_choices", "_law_number", "_law_found", "_law_there"] ["_law_script"] (defScope s_law) := ⟨rfl, rfl, rfl, by decide +kernel, rfl, by decide +kernel, by decide +kernel⟩
theorem law_ok {P : Program} {w : World} {K : PySem.W.Frag} {mg : Str → Option Value} {base : Heap} {fa : Addr} {fd : FuncData} (T : Tx mg) (h__law_chosen : CalF P w K mg base 2 "_law_chosen" ["_law_script"] F__law_chosen) (h_choices_of : CalN P w K mg base 1 "choices_of" ["choices"] F_choices_of) (h__law_list : CalF P w K mg base 2 "_law_list" ["_law_found", "_law_due"] F__law_list) (h__law_whole : CalF P w K mg base 1 "_law_whole" ["_law_found", "_law_due"] F__law_whole) (h_size_of : CalF P w K mg base 2 "size_of" ["choices"] F_size_of) (h_least_choice : CalF P w K mg base 2 "least_choice" ["choices"] F_least_choice) (h_in_set : CalF P w K mg base 1 "in_set" ["choices", "number"] F_in_set) (Fn : FunD K "law" "law" (defArgs s_law) (defBody s_law) (defScope s_law) [] [] fa fd) : FnOk P w K mg base (L2.CX P w) 3 fa fd ["_law_script"] (spD K F_law) :=
  fn_d (m := [false, false, false, false, false, false]) (m' := []) (s := S_law) 6 Fn sc_law rfl (by decide) fun cdv A outer sh H E F0 hr =>
    (ss_cons (m2 := [false, false, false, false, false, false]) (s_set 1 sc_law.nd (d_c h__law_chosen hr (by decide) (takes_of rfl rfl rfl rfl) (da_cons (d_var 0) da_nil)))
    (ss_cons (m2 := [false, false, false, false, false, false]) (s_set 2 sc_law.nd d_int)
    (ss_cons (m2 := [false, false, false, false, false, false]) (s_for (passes_of rfl) rfl (di_seq (d_var 1)) (dg_name 3 sc_law.nd)
    (ss_one (s_set 2 sc_law.nd (d_op op_or o_or (d_var 2) (d_op op_shl o_shl d_int (d_var 3))))))
    (ss_cons (m2 := [false, false, false, false, true, false]) (s_setN 4 sc_law.nd (n_c h_choices_of hr (by decide) (takes_of rfl rfl rfl rfl) (da_cons (d_var 2) da_nil)) (by decide))
    (ss_cons (m2 := [false, false, false, false, true, false]) (s_if (t_scal (t_w (w_or (t_not (t_val (d_c h__law_list hr (by decide) takes0 (da_cons (d_var 4) (da_cons (d_var 1) da_nil))))) (w_or1 (t_not (t_val (d_c h__law_whole hr (by decide) takes0 (da_cons (d_c h_size_of hr (by decide) takes0 (da_cons (d_var 2) da_nil)) (da_cons (d_callB call_len c_len T.f_len (da_cons (d_var 1) da_nil)) da_nil)))))))))
    (ss_one (s_ret d_bl))
    ss_nil)
    (ss_cons (m2 := [false, false, false, false, true, false]) (s_append 4 (d_un un_neg o_neg d_int))
    (ss_cons (m2 := [false, false, false, false, true, false]) (s_if (t_w (w_and (t_cmp (op_eq2 hr.units) o_eq (d_var 1) (d_new (n_list da_nil)) (nomark _)) (w_and1 (t_cmp op_notN o_notN (d_c h_least_choice hr (by decide) (takes_of rfl rfl rfl rfl) (da_cons (d_var 2) da_nil)) d_non (nomark _)))))
    (ss_one (s_ret d_bl))
    ss_nil)
    (ss_cons (m2 := [false, false, false, false, true, false]) (s_if (t_w (w_and (t_cmp (op_ne2 hr.units) o_ne (d_var 1) (d_new (n_list da_nil)) (nomark _)) (w_and1 (t_not (t_val (d_c h__law_whole hr (by decide) (takes_of rfl rfl rfl rfl) (da_cons (d_c h_least_choice hr (by decide) (takes_of rfl rfl rfl rfl) (da_cons (d_var 2) da_nil)) (da_cons (d_ix (d_var 1) d_int) da_nil))))))))
    (ss_one (s_ret d_bl))
    ss_nil)
    (ss_cons (m2 := [false, false, false, false, true, false]) (s_for (passes_of rfl) rfl (di_range1 T.f_range (da_cons d_int da_nil)) (dg_name 3 sc_law.nd)
    (ss_cons (m2 := [false, false, false, false, true, false]) (s_set 5 sc_law.nd (d_c h_in_set hr (by decide) (takes_of rfl rfl rfl rfl) (da_cons (d_var 2) (da_cons (d_var 3) da_nil))))
    (ss_one (s_if (t_w (w_or (t_not (t_val (d_isinst T.f_isinstance T.f_bool (d_var 5)))) (w_or1 (t_cmp (op_ne2 hr.units) o_ne (d_var 5) (d_cmp (op_in2 (hu65 hr)) o_in (d_var 3) (d_var 1) (by rfl)) (nomark _)))))
    (ss_one (s_ret d_bl))
    ss_nil))))
    (ss_one (s_ret (d_c h__law_list hr (by decide) (takes_of rfl rfl rfl rfl) (da_cons (d_new (n_c h_choices_of hr (by decide) (takes_of rfl rfl rfl rfl) (da_cons (d_var 2) da_nil))) (da_cons (d_var 1) da_nil))))))))))))))
end
def d_in_set : He.DefD := ⟨("in_set", none), "in_set", "in_set", defArgs s_in_set, defBody s_in_set, defScope s_in_set, [], []⟩
def d_choices_of : He.DefD := ⟨("choices_of", none), "choices_of", "choices_of", defArgs s_choices_of, defBody s_choices_of, defScope s_choices_of, [], []⟩
def d_size_of : He.DefD := ⟨("size_of", none), "size_of", "size_of", defArgs s_size_of, defBody s_size_of, defScope s_size_of, [], []⟩
def d_least_choice : He.DefD := ⟨("least_choice", none), "least_choice", "least_choice", defArgs s_least_choice, defBody s_least_choice, defScope s_least_choice, [], []⟩
def d__law_cell_at : He.DefD := ⟨("_law_cell_at", none), "_law_cell_at", "_law_cell_at", defArgs s__law_cell_at, defBody s__law_cell_at, defScope s__law_cell_at, [], []⟩
def d__law_mix : He.DefD := ⟨("_law_mix", none), "_law_mix", "_law_mix", defArgs s__law_mix, defBody s__law_mix, defScope s__law_mix, [], []⟩
def d__law_chosen : He.DefD := ⟨("_law_chosen", none), "_law_chosen", "_law_chosen", defArgs s__law_chosen, defBody s__law_chosen, defScope s__law_chosen, [], []⟩
def d__law_whole : He.DefD := ⟨("_law_whole", none), "_law_whole", "_law_whole", defArgs s__law_whole, defBody s__law_whole, defScope s__law_whole, [], []⟩
def d__law_list : He.DefD := ⟨("_law_list", none), "_law_list", "_law_list", defArgs s__law_list, defBody s__law_list, defScope s__law_list, [], []⟩
def d_law : He.DefD := ⟨("law", none), "law", "law", defArgs s_law, defBody s_law, defScope s_law, [], []⟩
def fn : List He.DefD := [d_in_set, d_choices_of, d_size_of, d_least_choice, d__law_cell_at, d__law_mix, d__law_chosen, d__law_whole, d__law_list, d_law]
def fa : List He.Fa := [.glo "in_set", .glo "choices_of", .glo "size_of", .glo "least_choice", .glo "_law_cell_at", .glo "_law_mix", .glo "_law_chosen", .glo "_law_whole", .glo "_law_list", .glo "law", .free "all", .free "bool", .free "int", .free "isinstance", .free "len", .free "list", .free "range", .free "zip"]
abbrev R0 : PySem.W.OpenRow := PySem.W.OpenLaw.row PySem.Challenge.rw_manyleaf_k02_sets_of_choices
abbrev hk : PySem.W.Hook := He.hookD 4 fa fn
def ob (s : PySem.W.SharedT) : He.AlD := He.obsDG 4 fa fn (HandSHeadRun.getT s)
theorem ob_eq (s : PySem.W.SharedT) : ob s = hk.obs s.abs := He.obsDG_eq (HandSHeadRun.getT_eq s)
def loose : List Str := ["in_set", "choices_of", "size_of", "least_choice", "_law_cell_at", "_law_mix", "_law_chosen", "_law_whole", "_law_list"]
theorem run (w : World) : HandSHeadRun.RunEq R0 (PySem.W.view R0.prog [11]) hk ob 2000 loose w := by
  intro os
  kernel_rfl
theorem facts {P : Program} {w : World} {K : PySem.W.Frag} {h : Heap} {mg : Str → Option Value} {f : Addr} (X : K.In h) (G : h.Ns mainGlobals mg) (hfa : mg ("law" : Str) = some (.ref f)) (c : He.SaysD fa fn K) :
    ∃ fd : FuncData, (∀ (s : Shared) (v : Value), BindsTo s fd ⟨[v], []⟩ [("_law_script", v)]) ∧ ∀ base : Heap, K.In base → base.Ns mainGlobals mg → FnOk P w K mg base (L2.CX P w) 3 f fd ["_law_script"] (spD K F_law) := by
  obtain ⟨fd_in_set, D_in_set⟩ := c.def_ 0 (d := d_in_set) rfl
  obtain ⟨fd_choices_of, D_choices_of⟩ := c.def_ 1 (d := d_choices_of) rfl
  obtain ⟨fd_size_of, D_size_of⟩ := c.def_ 2 (d := d_size_of) rfl
  obtain ⟨fd_least_choice, D_least_choice⟩ := c.def_ 3 (d := d_least_choice) rfl
  obtain ⟨fd__law_cell_at, D__law_cell_at⟩ := c.def_ 4 (d := d__law_cell_at) rfl
  obtain ⟨fd__law_mix, D__law_mix⟩ := c.def_ 5 (d := d__law_mix) rfl
  obtain ⟨fd__law_chosen, D__law_chosen⟩ := c.def_ 6 (d := d__law_chosen) rfl
  obtain ⟨fd__law_whole, D__law_whole⟩ := c.def_ 7 (d := d__law_whole) rfl
  obtain ⟨fd__law_list, D__law_list⟩ := c.def_ 8 (d := d__law_list) rfl
  obtain ⟨fd_law, D_law⟩ := c.def_ 9 (d := d_law) rfl
  have T : Tx mg := ⟨He.free_ok X G (c.fact 10 (f := .free "all") rfl), He.free_ok X G (c.fact 11 (f := .free "bool") rfl), He.free_ok X G (c.fact 12 (f := .free "int") rfl), He.free_ok X G (c.fact 13 (f := .free "isinstance") rfl), He.free_ok X G (c.fact 14 (f := .free "len") rfl), He.free_ok X G (c.fact 15 (f := .free "list") rfl), He.free_ok X G (c.fact 16 (f := .free "range") rfl), He.free_ok X G (c.fact 17 (f := .free "zip") rfl)⟩
  have g_in_set : DefF K mg "in_set" s_in_set ["choices", "number"] := ⟨_, fd_in_set, D_in_set, He.glo_ok X G (c.fact 0 (f := .glo "in_set") rfl), FunD.bindsN D_in_set fun _ _ _ _ _ _ us hl => match us, hl with | [_, _], _ => rfl⟩
  have g_choices_of : DefF K mg "choices_of" s_choices_of ["choices"] := ⟨_, fd_choices_of, D_choices_of, He.glo_ok X G (c.fact 1 (f := .glo "choices_of") rfl), FunD.bindsN D_choices_of fun _ _ _ _ _ _ us hl => match us, hl with | [_], _ => rfl⟩
  have g_size_of : DefF K mg "size_of" s_size_of ["choices"] := ⟨_, fd_size_of, D_size_of, He.glo_ok X G (c.fact 2 (f := .glo "size_of") rfl), FunD.bindsN D_size_of fun _ _ _ _ _ _ us hl => match us, hl with | [_], _ => rfl⟩
  have g_least_choice : DefF K mg "least_choice" s_least_choice ["choices"] := ⟨_, fd_least_choice, D_least_choice, He.glo_ok X G (c.fact 3 (f := .glo "least_choice") rfl), FunD.bindsN D_least_choice fun _ _ _ _ _ _ us hl => match us, hl with | [_], _ => rfl⟩
  have g__law_cell_at : DefF K mg "_law_cell_at" s__law_cell_at ["_law_script", "_law_k"] := ⟨_, fd__law_cell_at, D__law_cell_at, He.glo_ok X G (c.fact 4 (f := .glo "_law_cell_at") rfl), FunD.bindsN D__law_cell_at fun _ _ _ _ _ _ us hl => match us, hl with | [_, _], _ => rfl⟩
  have g__law_mix : DefF K mg "_law_mix" s__law_mix ["_law_cell", "_law_k"] := ⟨_, fd__law_mix, D__law_mix, He.glo_ok X G (c.fact 5 (f := .glo "_law_mix") rfl), FunD.bindsN D__law_mix fun _ _ _ _ _ _ us hl => match us, hl with | [_, _], _ => rfl⟩
  have g__law_chosen : DefF K mg "_law_chosen" s__law_chosen ["_law_script"] := ⟨_, fd__law_chosen, D__law_chosen, He.glo_ok X G (c.fact 6 (f := .glo "_law_chosen") rfl), FunD.bindsN D__law_chosen fun _ _ _ _ _ _ us hl => match us, hl with | [_], _ => rfl⟩
  have g__law_whole : DefF K mg "_law_whole" s__law_whole ["_law_found", "_law_due"] := ⟨_, fd__law_whole, D__law_whole, He.glo_ok X G (c.fact 7 (f := .glo "_law_whole") rfl), FunD.bindsN D__law_whole fun _ _ _ _ _ _ us hl => match us, hl with | [_, _], _ => rfl⟩
  have g__law_list : DefF K mg "_law_list" s__law_list ["_law_found", "_law_due"] := ⟨_, fd__law_list, D__law_list, He.glo_ok X G (c.fact 8 (f := .glo "_law_list") rfl), FunD.bindsN D__law_list fun _ _ _ _ _ _ us hl => match us, hl with | [_, _], _ => rfl⟩
  have g_law : DefF K mg "law" s_law ["_law_script"] := ⟨_, fd_law, D_law, He.glo_ok X G (c.fact 9 (f := .glo "law") rfl), FunD.bindsN D_law fun _ _ _ _ _ _ us hl => match us, hl with | [_], _ => rfl⟩
  have e := hfa.symm.trans (He.glo_ok X G (c.fact 9 (f := .glo "law") rfl))
  cases e
  have b := FunD.bindsA (ps := ["_law_script"]) D_law fun _ _ _ _ _ _ us hl => match us, hl with | [_], _ => rfl
  refine ⟨fd_law, fun s v => b s [v] rfl, fun base _ _ => ?_⟩
  have h_in_set := c_in_set (P := P) (w := w) (base := base) T g_in_set
  have h_choices_of := c_choices_of (P := P) (w := w) (base := base) T g_choices_of
  have h_size_of := c_size_of (P := P) (w := w) (base := base) T h_choices_of g_size_of
  have h_least_choice := c_least_choice (P := P) (w := w) (base := base) T h_choices_of g_least_choice
  have h__law_cell_at := c__law_cell_at (P := P) (w := w) (base := base) T g__law_cell_at
  have h__law_mix := c__law_mix (P := P) (w := w) (base := base) T g__law_mix
  have h__law_chosen := c__law_chosen (P := P) (w := w) (base := base) T h__law_cell_at h__law_mix g__law_chosen
  have h__law_whole := c__law_whole (P := P) (w := w) (base := base) T g__law_whole
  have h__law_list := c__law_list (P := P) (w := w) (base := base) T h__law_whole g__law_list
  exact law_ok T h__law_chosen h_choices_of h__law_list h__law_whole h_size_of h_least_choice h_in_set D_law
end Pd

open PySem PySem.W PySem.Calls PyProof.Rows
theorem Pd.holds_of (hl : ∀ ns : List Int, ns.length ≤ 63 → Pd.F_law [.list (ns.map Pd.D.int)] = .ok (.bl true)) : PySem.Challenge.rw_manyleaf_k02_sets_of_choices.Holds := by
  w_on; o_law
  refine HandSHeadRun.head_any (r := OpenLaw.row PySem.Challenge.rw_manyleaf_k02_sets_of_choices) (q := view (OpenLaw.row PySem.Challenge.rw_manyleaf_k02_sets_of_choices).prog [11]) (H := Pd.hk) (ob := Pd.ob) (M := 2000) (loose := Pd.loose) (d := HandSHeadRun.topDef (OpenLaw.row PySem.Challenge.rw_manyleaf_k02_sets_of_choices).prog 11) (kwd := []) Pd.ob_eq
    (by kernel_rfl) (fun s => by kernel_rfl) Pd.run (by kernel_rfl) (by kernel_rfl) (by kernel_rfl) (by rfl) (by first | assumption | decide +kernel) (by decide +kernel) ⟨rfl, rfl, rfl, rfl, rfl, by decide +kernel⟩ ?hw ?hc
  case hw => w_witness2
  case hc =>
    refine Pd.walk_d (l := PySem.Challenge.rw_manyleaf_k02_sets_of_choices) (n := 63) (k := 3) (x := "_law_script") rfl (by decide) (by kernel_rfl) ⟨rfl, by decide, by decide⟩ hl ?F
    intro w mg fa h Y G hmg0
    obtain ⟨K, KX, c⟩ := Y
    have hmg : mg ("law" : PySem.Str) = some (.ref fa) := by
      have e : (HandSHeadRun.topDef (OpenLaw.row PySem.Challenge.rw_manyleaf_k02_sets_of_choices).prog 11).name = ("law" : PySem.Str) := by kernel_rfl
      rw [← e]
      exact hmg0
    obtain ⟨fd, hb, hF⟩ := Pd.facts (P := (PySem.Challenge.rw_manyleaf_k02_sets_of_choices).prog) (w := w) KX G hmg c
    exact ⟨K, fd, KX, hb, hF⟩

theorem PySem.Challenge.cw_manyleaf_k02_sets_of_choices_holds : PySem.Challenge.rw_manyleaf_k02_sets_of_choices.Holds := by
  exact Pd.holds_of Pd.law_true
