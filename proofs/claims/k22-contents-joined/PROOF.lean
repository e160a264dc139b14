import PyProof.Rows.All
import Wide.All
import OpenK.AllK
import Wide.FinOn
import HandS.ForMost
import HandS.Exc
import HandS.ExcOwn
import HandS.WordsExc
import HandS.IsInst
import HandS.Defaults
import HandS.HeadHook2
import HandS.HeadHook4
import KE.KStateDown
import Lean
import HandS.Head0
import HandS.Head1
import HandS.Head2
import HandS.HeadEnd
import HandS.TryOnly
import HandS.TupAny
import HandS.Deep
import HandS.Ends
import HandS.New
import HandS.New0
import HandS.TupMul
import HandS.Small
import HandS.Iter
import HandS.ExcIs
import PyProof.EqKinds
import PyProof.NeKinds
import HandS.Style
import HandS.SetFor
import HandS.Codes
import PySem.Challenge.RW_manyleaf_k22_contents_joined
set_option Elab.async false
set_option linter.all false
set_option autoImplicit false
set_option maxRecDepth 100000
set_option maxHeartbeats 4000000
namespace Pd
open PySem PySem.Spec PyProof.Rows L2
/-- a method's statement in its class -/
def mth (s : Stmt) (i : Nat) : Stmt := match s with
  | .ClassDef _ _ _ body _ _ _ _ _ _ _ => body.getD i (.Pass ⟨0, 0, 0, 0⟩)
  | _ => .Pass ⟨0, 0, 0, 0⟩
/-- the def at f does G -/
def newB (K : PySem.W.Frag) (x : Str) : Bool := PySem.W.makesIn K (He.ga K x) && (He.eqO (PySem.W.findIn K (.ref (He.ga K x)) "__init__") (some (some (.builtin "object.__init__"))) && PySem.W.keepIn K (.ref (He.ga K x)))
/-- class c's m is class d's -/
def inhB (K : PySem.W.Frag) (c d m : Str) : Bool := decide (He.ma K (He.ga K c) m = He.ma K (He.ga K d) m)
def cfnB (K : PySem.W.Frag) (x m y : Str) : Bool := He.eqO (PySem.W.specialIn K (.ref (He.ga K x)) "__getattribute__") (some (some (.builtin "type.__getattribute__"))) && (PySem.W.readsIn K (He.ga K x) (.type "type") &&
  (match PySem.W.findCls K (.ref (He.ga K x)) (.type "type") m with
  | some (.val u) => decide (u = .ref (He.fAd K (y, some m)))
  | _ => false))
def excB (K : PySem.W.Frag) (D : Addr) : Bool := He.eqO (PySem.W.findIn K (.ref D) "__getattribute__") (some (some (.builtin "BaseException.__getattribute__"))) && (He.eqO (PySem.W.findIn K (.ref D) "__getattr__") (some none) && (decide (PySem.W.subIn K (.ref D) (.type "BaseException") = some true) && (PySem.W.hasDictIn K D &&
  (He.eqO (PySem.W.findIn K (.ref D) "__class__") (some (some (.builtin "object.__class__"))) && (He.eqO (PySem.W.specialIn K (.builtin "object.__class__") "__get__") (some (some (.builtin "getset_descriptor.__get__"))) && (decide (PySem.W.takesIn K (.builtin "object.__class__") = some true) && decide (PySem.W.mroIn K D (.type "object") = some true)))))))
/-! ### the Hook: with the statics in sight -/
def asM (g : Addr → Option Obj) (n : Nat) : List Addr := He.asD g n ++ [cStatics]
abbrev AlM : Type := He.AlD × Bool
def obsM (n : Nat) (fa : List He.Fa) (fn : List He.DefD) (ex : PySem.W.Frag → Bool) (g : Addr → Option Obj) : AlM := (He.obsD fa fn (He.frG g (asM g n)), ex (He.frG g (asM g n)))
structure SaysM (fa : List He.Fa) (fn : List He.DefD) (ex : PySem.W.Frag → Bool) (K : PySem.W.Frag) : Prop where
  d : He.SaysD fa fn K
  more : ex K = true
def hookM (n : Nat) (fa : List He.Fa) (fn : List He.DefD) (ex : PySem.W.Frag → Bool) : PySem.W.Hook where
  α := AlM
  obs := fun s => obsM n fa fn ex s.heap.get?
  val := fun _ => (He.valD fn, true)
  says := fun _ h => ∃ K : PySem.W.Frag, K.In h ∧ SaysM fa fn ex K
  of := fun _ _ e => ⟨_, He.frG_in, ⟨congrArg (fun z : AlM => z.1) e, congrArg (fun z : AlM => z.2) e⟩⟩
  keeps := fun _ _ _ ⟨K, hK, c⟩ k => ⟨K, PySem.W.Frag.In.keeps hK k, c⟩
theorem obsM_eq {n : Nat} {fa : List He.Fa} {fn : List He.DefD} {ex : PySem.W.Frag → Bool} {g : Addr → Option Obj} {s : Shared} (h : ∀ a, g a = s.heap.get? a) : obsM n fa fn ex g = (hookM n fa fn ex).obs s := by
  have e : g = s.heap.get? := funext h
  rw [e] <;> rfl
end Pd

set_option maxHeartbeats 0
namespace Pd
open PySem PySem.Spec PyProof.Rows L2
def top (i : Nat) : Stmt := PySem.Challenge.pw_manyleaf_k22_contents_joined.main.body.getD i (.Pass ⟨0, 0, 0, 0⟩)
abbrev s_Chapter_word : Stmt := mth (top 7) 0
abbrev s_Para_word : Stmt := mth (top 8) 0
abbrev s_Table_word : Stmt := mth (top 11) 0
abbrev s_kind_of_word : Stmt := top 12
abbrev s__law_stream : Stmt := top 15
abbrev s__law_text : Stmt := top 16
abbrev s__law_table : Stmt := top 17
abbrev s__law_content : Stmt := top 18
abbrev s__law_cells_changed : Stmt := top 19
abbrev s__law_made : Stmt := top 20
abbrev s__law_joined : Stmt := top 21
abbrev s_Kind_clashed : Stmt := mth (top 6) 6
abbrev s_Kind_joined : Stmt := mth (top 6) 5
abbrev s_Table_clashed : Stmt := mth (top 11) 4
abbrev s__law_cell : Stmt := top 14
abbrev s__law_same : Stmt := top 22
abbrev s_is_text : Stmt := top 2
abbrev s_Kind_fits : Stmt := mth (top 6) 2
abbrev s_is_row : Stmt := top 9
abbrev s_is_cells : Stmt := top 10
abbrev s_Table_fits : Stmt := mth (top 11) 1
abbrev s_law : Stmt := top 23
def d_Chapter_word : He.DefD := ⟨("Chapter", some "word"), "word", "Chapter.word", defArgs s_Chapter_word, defBody s_Chapter_word, defScope s_Chapter_word, [], []⟩
def d_Para_word : He.DefD := ⟨("Para", some "word"), "word", "Para.word", defArgs s_Para_word, defBody s_Para_word, defScope s_Para_word, [], []⟩
def d_Table_word : He.DefD := ⟨("Table", some "word"), "word", "Table.word", defArgs s_Table_word, defBody s_Table_word, defScope s_Table_word, [], []⟩
def d_kind_of_word : He.DefD := ⟨("kind_of_word", none), "kind_of_word", "kind_of_word", defArgs s_kind_of_word, defBody s_kind_of_word, defScope s_kind_of_word, [], []⟩
def d__law_stream : He.DefD := ⟨("_law_stream", none), "_law_stream", "_law_stream", defArgs s__law_stream, defBody s__law_stream, defScope s__law_stream, [], []⟩
def d__law_text : He.DefD := ⟨("_law_text", none), "_law_text", "_law_text", defArgs s__law_text, defBody s__law_text, defScope s__law_text, [], []⟩
def d__law_table : He.DefD := ⟨("_law_table", none), "_law_table", "_law_table", defArgs s__law_table, defBody s__law_table, defScope s__law_table, [], []⟩
def d__law_content : He.DefD := ⟨("_law_content", none), "_law_content", "_law_content", defArgs s__law_content, defBody s__law_content, defScope s__law_content, [], []⟩
def d__law_cells_changed : He.DefD := ⟨("_law_cells_changed", none), "_law_cells_changed", "_law_cells_changed", defArgs s__law_cells_changed, defBody s__law_cells_changed, defScope s__law_cells_changed, [], []⟩
def d__law_made : He.DefD := ⟨("_law_made", none), "_law_made", "_law_made", defArgs s__law_made, defBody s__law_made, defScope s__law_made, [], []⟩
def d__law_joined : He.DefD := ⟨("_law_joined", none), "_law_joined", "_law_joined", defArgs s__law_joined, defBody s__law_joined, defScope s__law_joined, [], []⟩
def d_Kind_clashed : He.DefD := ⟨("Kind", some "clashed"), "clashed", "Kind.clashed", defArgs s_Kind_clashed, defBody s_Kind_clashed, defScope s_Kind_clashed, [], []⟩
def d_Kind_joined : He.DefD := ⟨("Kind", some "joined"), "joined", "Kind.joined", defArgs s_Kind_joined, defBody s_Kind_joined, defScope s_Kind_joined, [], []⟩
def d_Table_clashed : He.DefD := ⟨("Table", some "clashed"), "clashed", "Table.clashed", defArgs s_Table_clashed, defBody s_Table_clashed, defScope s_Table_clashed, [], []⟩
def d__law_cell : He.DefD := ⟨("_law_cell", none), "_law_cell", "_law_cell", defArgs s__law_cell, defBody s__law_cell, defScope s__law_cell, [], []⟩
def d__law_same : He.DefD := ⟨("_law_same", none), "_law_same", "_law_same", defArgs s__law_same, defBody s__law_same, defScope s__law_same, [], []⟩
def d_is_text : He.DefD := ⟨("is_text", none), "is_text", "is_text", defArgs s_is_text, defBody s_is_text, defScope s_is_text, [], []⟩
def d_Kind_fits : He.DefD := ⟨("Kind", some "fits"), "fits", "Kind.fits", defArgs s_Kind_fits, defBody s_Kind_fits, defScope s_Kind_fits, [], []⟩
def d_is_row : He.DefD := ⟨("is_row", none), "is_row", "is_row", defArgs s_is_row, defBody s_is_row, defScope s_is_row, [], []⟩
def d_is_cells : He.DefD := ⟨("is_cells", none), "is_cells", "is_cells", defArgs s_is_cells, defBody s_is_cells, defScope s_is_cells, [], []⟩
def d_Table_fits : He.DefD := ⟨("Table", some "fits"), "fits", "Table.fits", defArgs s_Table_fits, defBody s_Table_fits, defScope s_Table_fits, [], []⟩
def d_law : He.DefD := ⟨("law", none), "law", "law", defArgs s_law, defBody s_law, defScope s_law, [], []⟩
def fn : List He.DefD := ([d_Chapter_word, d_Para_word, d_Table_word, d_kind_of_word, d__law_stream, d__law_text, d__law_table, d__law_content, d__law_cells_changed, d__law_made, d__law_joined, d_Kind_clashed, d_Kind_joined, d_Table_clashed, d__law_cell, d__law_same, d_is_text, d_Kind_fits, d_is_row, d_is_cells, d_Table_fits, d_law] : List He.DefD)
def fa : List He.Fa := ([.glo "kind_of_word", .glo "_law_stream", .glo "_law_text", .glo "_law_table", .glo "_law_content", .glo "_law_cells_changed", .glo "_law_made", .glo "_law_joined", .glo "_law_cell", .glo "_law_same", .glo "is_text", .glo "is_row", .glo "is_cells", .glo "law", .free "all", .free "enumerate", .free "int", .free "isinstance", .free "len", .free "list", .free "ord", .free "range", .free "str", .free "tuple", .int "MOST_COLUMNS" 6, .int "MOST_ROWS" 6, .cls "Chapter", .cls "Para", .cls "Table", .meth "Chapter" "clashed"] : List He.Fa) ++ ([.meth "Chapter" "fits", .meth "Chapter" "joined", .meth "Chapter" "word", .meth "Para" "clashed", .meth "Para" "fits", .meth "Para" "joined", .meth "Para" "word", .meth "Table" "clashed", .meth "Table" "fits", .meth "Table" "joined", .meth "Table" "word", .glo "Chapter", .glo "Para", .glo "Table"] : List He.Fa)
def exl (K : PySem.W.Frag) : List Bool := ([inhB K "Chapter" "Kind" "clashed", inhB K "Chapter" "Kind" "fits", inhB K "Chapter" "Kind" "joined", inhB K "Para" "Kind" "clashed", inhB K "Para" "Kind" "fits", inhB K "Para" "Kind" "joined", inhB K "Table" "Kind" "joined", newB K "Chapter", newB K "Para", newB K "Table"] : List Bool)
def exb (K : PySem.W.Frag) : Bool := (exl K).all id
abbrev R0 : PySem.W.OpenRow := PySem.W.OpenLaw.row PySem.Challenge.rw_manyleaf_k22_contents_joined
abbrev hk : PySem.W.Hook := hookM 4 fa fn exb
def ob (s : PySem.W.SharedT) : AlM := obsM 4 fa fn exb (HandSHeadRun.getT s)
theorem ob_eq (s : PySem.W.SharedT) : ob s = hk.obs s.abs := obsM_eq (HandSHeadRun.getT_eq s)
def loose : List Str := (["_wall", "is_text", "MOST_ROWS", "MOST_COLUMNS", "Kind", "Chapter", "Para", "is_row", "is_cells", "Table", "kind_of_word", "_law_cell", "_law_stream", "_law_text", "_law_table", "_law_content", "_law_cells_changed", "_law_made", "_law_joined", "_law_same"] : List Str)
theorem run (w : World) : HandSHeadRun.RunEq R0 (PySem.W.view R0.prog [23]) hk ob 12000 loose w := by
  intro os
  kernel_rfl
end Pd

/-! Pd1: data without a heap, what represents them, the reading of an expression by a function of data -/
namespace Pd
open PySem PySem.Spec PyProof.Rows L2

/-- data -/
inductive D where
  | non | bl (b : Bool) | int (i : Int) | str (s : Str)
  | list (xs : List D) | tup (xs : List D)
  | dict (kvs : List (Key × D)) | dictT (kvs : List (List Key × D))
  | obj (c : Str) (fs : List (Str × D))
  /-- an object that may yet change: its number; where it stands -/
  | loc (k : Nat) | adr (a : Addr)
  deriving Inhabited
/-- an exception -/
structure Ex where
  cls : Str
  fs : List (Str × D)
/-- what a computation comes to; st: not told -/
inductive R (α : Type) where
  | ok (a : α) | ex (x : Ex) | st
def R.bind {α β : Type} (r : R α) (f : α → R β) : R β := match r with
  | .ok a => f a
  | .ex x => .ex x
  | .st => .st
instance : Monad R where
  pure := R.ok
  bind := R.bind
theorem ok_bind {α β : Type} (a : α) (f : α → R β) : (R.ok a).bind f = f a := rfl
theorem ex_bind {α β : Type} (x : Ex) (f : α → R β) : (R.ex x).bind f = R.ex x := rfl
theorem st_bind {α β : Type} (f : α → R β) : (R.st).bind f = R.st := rfl

/-! ### values that represent data -/
inductive Is (K : PySem.W.Frag) (H : Hp) : V → D → Prop
  | non : Is K H .non .non
  | bl (b : Bool) : Is K H (.bl b) (.bl b)
  | int (i : Int) : Is K H (.int i) (.int i)
  | str (s : Str) : Is K H (.str s) (.str s)
  | list {a : Addr} {xs : List V} {ds : List D} (h : SqL K H a xs) (l : xs.length = ds.length) (e : ∀ (i : Nat) x d, xs[i]? = some x → ds[i]? = some d → Is K H x d) : Is K H (.ref a) (.list ds)
  | tup {a : Addr} {xs : List V} {ds : List D} (h : SqT K H a xs) (l : xs.length = ds.length) (e : ∀ (i : Nat) x d, xs[i]? = some x → ds[i]? = some d → Is K H x d) : Is K H (.ref a) (.tup ds)
  | dict {a : Addr} {xs : List (Key × V)} {ds : List (Key × D)} (h : Rd H a (.dK xs)) (l : xs.length = ds.length) (e : ∀ (i : Nat) x d, xs[i]? = some x → ds[i]? = some d → x.1 = d.1)
      (e2 : ∀ (i : Nat) x d, xs[i]? = some x → ds[i]? = some d → Is K H x.2 d.2) : Is K H (.ref a) (.dict ds)
  | dictT {a : Addr} {xs : List (List Key × V)} {ds : List (List Key × D)} (h : H a = some (.dT xs)) (l : xs.length = ds.length) (e : ∀ (i : Nat) x d, xs[i]? = some x → ds[i]? = some d → x.1 = d.1)
      (e2 : ∀ (i : Nat) x d, xs[i]? = some x → ds[i]? = some d → Is K H x.2 d.2) : Is K H (.ref a) (.dictT ds)
  | obj {a : Addr} {c : Str} {dx : Addr} {xs : List (Str × V)} {ds : List (Str × D)} (h : H a = some (.ins (He.ga K c) dx xs)) (l : xs.length = ds.length) (e : ∀ (i : Nat) x d, xs[i]? = some x → ds[i]? = some d → x.1 = d.1)
      (e2 : ∀ (i : Nat) x d, xs[i]? = some x → ds[i]? = some d → Is K H x.2 d.2) : Is K H (.ref a) (.obj c ds)
  | adr (a : Addr) : Is K H (.ref a) (.adr a)
def IsL (K : PySem.W.Frag) (H : Hp) (xs : List V) (ds : List D) : Prop := xs.length = ds.length ∧ ∀ (i : Nat) x d, xs[i]? = some x → ds[i]? = some d → Is K H x d
def IsK {κ : Type} (K : PySem.W.Frag) (H : Hp) (xs : List (κ × V)) (ds : List (κ × D)) : Prop :=
  xs.length = ds.length ∧ (∀ (i : Nat) x d, xs[i]? = some x → ds[i]? = some d → x.1 = d.1) ∧ ∀ (i : Nat) x d, xs[i]? = some x → ds[i]? = some d → Is K H x.2 d.2
/-- what stands at an address, as the content of data -/
def IsC (K : PySem.W.Frag) (H : Hp) : HO → D → Prop
  | .lst xs, .list ds => IsL K H xs ds
  | .dK xs, .dict ds => IsK K H xs ds
  | .dT xs, .dictT ds => IsK K H xs ds
  | .ins C _ xs, .obj c ds => C = He.ga K c ∧ IsK K H xs ds
  | _, _ => False

section
variable {K : PySem.W.Frag} {H H' H1 H2 F F' F1 F2 : Hp} {v : V} {d : D}
theorem sameT {a : Addr} {xs : List V} (e : Same H H') (h : SqT K H a xs) : SqT K H' a xs := by
  rcases h with (h | ⟨o, h⟩) | h
  · exact .inl (.inl (e _ _ h))
  · exact .inl (.inr ⟨o, e _ _ h⟩)
  · exact .inr h
theorem sameR {a : Addr} {u : HO} (e : Same H H') (h : Rd H a u) : Rd H' a u := by
  rcases h with h | ⟨o, h⟩
  · exact .inl (e _ _ h)
  · exact .inr ⟨o, e _ _ h⟩
theorem Is.mono (h : Is K H v d) (s : Same H H') : Is K H' v d := by
  induction h with
  | non => exact .non
  | bl b => exact .bl b
  | int i => exact .int i
  | str x => exact .str x
  | list h l _ ih => exact .list (s.seq h) l ih
  | tup h l _ ih => exact .tup (sameT s h) l ih
  | dict h l e _ ih => exact .dict (sameR s h) l e ih
  | dictT h l e _ ih => exact .dictT (s _ _ h) l e ih
  | obj h l e _ ih => exact .obj (s _ _ h) l e ih
  | adr a => exact .adr a
theorem IsL.mono {xs : List V} {ds : List D} (h : IsL K H xs ds) (s : Same H H') : IsL K H' xs ds := ⟨h.1, fun i x d a b => (h.2 i x d a b).mono s⟩
theorem IsK.mono {κ : Type} {xs : List (κ × V)} {ds : List (κ × D)} (h : IsK K H xs ds) (s : Same H H') : IsK K H' xs ds := ⟨h.1, h.2.1, fun i x d a b => (h.2.2 i x d a b).mono s⟩
theorem IsC.mono {o : HO} (h : IsC K H o d) (s : Same H H') : IsC K H' o d := by
  cases o <;> cases d <;> first
    | exact h.elim
    | exact IsL.mono (show IsL K H _ _ from h) s
    | exact IsK.mono (show IsK K H _ _ from h) s
    | exact ⟨h.1, IsK.mono h.2 s⟩
theorem IsL.nil : IsL K H [] [] := ⟨rfl, fun i x d a _ => by simp at a⟩
theorem IsL.cons {x : V} {xs : List V} {ds : List D} (h : Is K H x d) (t : IsL K H xs ds) : IsL K H (x :: xs) (d :: ds) := by
  refine ⟨by simp [t.1], fun i y e a b => ?_⟩
  cases i with
  | zero => simp at a b; subst a; subst b; exact h
  | succ i => exact t.2 i y e (by simpa using a) (by simpa using b)
theorem IsL.uncons {xs : List V} {ds : List D} (h : IsL K H xs (d :: ds)) : ∃ x xr, xs = x :: xr ∧ Is K H x d ∧ IsL K H xr ds := by
  obtain ⟨l, e⟩ := h
  cases xs with
  | nil => simp at l
  | cons x xr => exact ⟨x, xr, rfl, e 0 x d rfl rfl, by simpa using l, fun i y z a b => e (i + 1) y z (by simpa using a) (by simpa using b)⟩
theorem IsL.unnil {xs : List V} (h : IsL K H xs []) : xs = [] := by
  have l := h.1
  cases xs with
  | nil => rfl
  | cons _ _ => simp at l
theorem IsL.append {xs ys : List V} {ds es : List D} (h : IsL K H xs ds) (t : IsL K H ys es) : IsL K H (xs ++ ys) (ds ++ es) := by
  refine ⟨by simp [h.1, t.1], fun i y e a b => ?_⟩
  by_cases hi : i < xs.length
  · rw [List.getElem?_append_left hi] at a
    rw [List.getElem?_append_left (by have := h.1; omega)] at b
    exact h.2 i y e a b
  · rw [List.getElem?_append_right (by omega)] at a
    rw [List.getElem?_append_right (by have := h.1; omega), ← h.1] at b
    exact t.2 _ y e a b
theorem IsL.snoc {x : V} {xs : List V} {ds : List D} (t : IsL K H xs ds) (h : Is K H x d) : IsL K H (xs ++ [x]) (ds ++ [d]) := t.append (.cons h .nil)
theorem IsL.take {xs : List V} {ds : List D} (n : Nat) (t : IsL K H xs ds) : IsL K H (xs.take n) (ds.take n) := by
  refine ⟨by simp [t.1], fun i y e a b => ?_⟩
  rw [List.getElem?_take] at a b
  split at a
  · rw [if_pos (by assumption)] at b; exact t.2 i y e a b
  · cases a
theorem IsL.drop {xs : List V} {ds : List D} (n : Nat) (t : IsL K H xs ds) : IsL K H (xs.drop n) (ds.drop n) := by
  refine ⟨by simp [t.1], fun i y e a b => ?_⟩
  rw [List.getElem?_drop] at a b
  exact t.2 _ y e a b
theorem IsL.at {xs : List V} {ds : List D} (t : IsL K H xs ds) {i : Nat} (h : ds[i]? = some d) : ∃ x, xs[i]? = some x ∧ Is K H x d := by
  have hi : i < ds.length := (List.getElem?_eq_some_iff.mp h).1
  have hx : i < xs.length := by have := t.1; omega
  exact ⟨xs[i], by simp [hx], t.2 i _ d (by simp [hx]) h⟩
theorem IsL.atV {x : V} {xs : List V} {ds : List D} (t : IsL K H xs ds) {i : Nat} (h : xs[i]? = some x) : ∃ d, ds[i]? = some d ∧ Is K H x d := by
  have hi : i < xs.length := (List.getElem?_eq_some_iff.mp h).1
  have hx : i < ds.length := by have := t.1; omega
  exact ⟨ds[i], by simp [hx], t.2 i x _ h (by simp [hx])⟩
theorem is_list {a : Addr} {xs : List V} {ds : List D} (h : SqL K H a xs) (t : IsL K H xs ds) : Is K H (.ref a) (.list ds) := .list h t.1 t.2
theorem is_tup {a : Addr} {xs : List V} {ds : List D} (h : SqT K H a xs) (t : IsL K H xs ds) : Is K H (.ref a) (.tup ds) := .tup h t.1 t.2
theorem Is.list_inv {ds : List D} (h : Is K H v (.list ds)) : ∃ a xs, v = .ref a ∧ SqL K H a xs ∧ IsL K H xs ds := by
  cases h with
  | list h l e => exact ⟨_, _, rfl, h, l, e⟩
theorem Is.tup_inv {ds : List D} (h : Is K H v (.tup ds)) : ∃ a xs, v = .ref a ∧ SqT K H a xs ∧ IsL K H xs ds := by
  cases h with
  | tup h l e => exact ⟨_, _, rfl, h, l, e⟩
theorem Is.dict_inv {ds : List (Key × D)} (h : Is K H v (.dict ds)) : ∃ a xs, v = .ref a ∧ Rd H a (.dK xs) ∧ IsK K H xs ds := by
  cases h with
  | dict h l e e2 => exact ⟨_, _, rfl, h, l, e, e2⟩
theorem Is.obj_inv {c : Str} {ds : List (Str × D)} (h : Is K H v (.obj c ds)) : ∃ a dx xs, v = .ref a ∧ H a = some (.ins (He.ga K c) dx xs) ∧ IsK K H xs ds := by
  cases h with
  | obj h l e e2 => exact ⟨_, _, _, rfl, h, l, e, e2⟩
theorem is_of_c {a : Addr} {o : HO} (h : H a = some o) (c : IsC K H o d) : Is K H (.ref a) d := by
  cases o <;> cases d <;> first
    | exact c.elim
    | exact is_list (.of h) c
    | exact .dict (.of h) c.1 c.2.1 c.2.2
    | exact .dictT h c.1 c.2.1 c.2.2
    | (obtain ⟨c1, c2⟩ := c; subst c1; exact .obj h c2.1 c2.2.1 c2.2.2)
end

/-! ### the state of a def: slots as data; m: the slots whose object is the frame's own (not yet shared) -/
abbrev Rho := List (Option D)
/-- what was there at the def's entry: the shared part, and what the caller lends -/
structure Bs where
  F : Hp
  bor : List (Nat × Addr × Option (D × HO))
/-- slot i is not lent -/
def Bs.ok (B : Bs) (i : Nat) : Prop := ∀ b ∈ B.bor, b.1 ≠ i
theorem Bs.ok_of {B : Bs} {i : Nat} (h : (B.bor.all fun b => !(b.1 == i)) = true) : B.ok i := fun b hb z => by
  have := List.all_eq_true.mp h b hb
  rw [z] at this
  simp at this
/-- slot i may be changed -/
def Bs.mut (B : Bs) (i : Nat) : Prop := ∀ b ∈ B.bor, b.1 = i → b.2.2 = none
theorem Bs.mut_of {B : Bs} {i : Nat} (h : (B.bor.all fun b => !(b.1 == i) || b.2.2.isNone) = true) : B.mut i := fun b hb z => by
  have := List.all_eq_true.mp h b hb
  rw [z] at this
  simpa using this
/-- F: what is shared (never changes again), H: all that stands. F0, H0: at the def's entry -/
structure Rep (K : PySem.W.Frag) (F0 : Bs) (H0 : Hp) (m : List Bool) (ρ : Rho) (σ : L2.St) (F H : Hp) : Prop where
  len : σ.length = ρ.length
  fh : Same F H
  f0 : Same F0.F F
  h0 : Same H0 H
  new : ∀ p, H0 p ≠ none → F0.F p = none → F p = none
  val : ∀ (i : Nat) d, ρ[i]? = some (some d) → m[i]? ≠ some true → ∃ v, σ[i]? = some (some v) ∧ Is K F v d
  own : ∀ (i : Nat) d, ρ[i]? = some (some d) → m[i]? = some true → ∃ p o, σ[i]? = some (some (.ref p)) ∧ H p = some o ∧ IsC K F o d ∧ F p = none ∧ H0 p = none
  apart : ∀ (i j : Nat) p d e, i ≠ j → m[i]? = some true → m[j]? = some true → ρ[i]? = some (some d) → ρ[j]? = some (some e) → σ[i]? = some (some (.ref p)) → σ[j]? ≠ some (some (.ref p))
  bor : ∀ b ∈ F0.bor, σ[b.1]? = some (some (.ref b.2.1)) ∧ m[b.1]? = some true ∧ (∃ d, ρ[b.1]? = some (some d)) ∧ ∀ d o, b.2.2 = some (d, o) → ρ[b.1]? = some (some d) ∧ H b.2.1 = some o
structure Ext (F H F' H' : Hp) : Prop where
  ff : Same F F'
  hh : Same H H'
  fh : Same F' H'
  nw : ∀ p, H p ≠ none → F p = none → F' p = none
section
variable {K : PySem.W.Frag} {F0 : Bs} {H0 F H F' H' F2 H2 : Hp} {m : List Bool} {ρ : Rho} {σ : L2.St}
theorem Ext.trans (a : Ext F H F' H') (b : Ext F' H' F2 H2) : Ext F H F2 H2 :=
  ⟨a.ff.trans b.ff, a.hh.trans b.hh, b.fh, fun p h f => b.nw p (fun z => by
    cases q : H p with
    | none => exact h q
    | some o => rw [a.hh p o q] at z; cases z) (a.nw p h f)⟩
theorem Ext.refl (h : Same F H) : Ext F H F H := ⟨.refl _, .refl _, h, fun _ _ f => f⟩
theorem same_upd {p : Addr} {o : HO} (h : H p = none) : Same H (upd H p o) := fun b u e => by
  rw [upd_ne (ne_of_none e h)]; exact e
/-- a new object is laid, shared at once -/
theorem Ext.laid {p : Addr} {o : HO} (h : Same F H) (n : H p = none) : Ext F H (upd F p o) (upd H p o) :=
  ⟨same_upd (h.free n), same_upd n, fun b u e => by
    by_cases q : b = p
    · subst q; rw [upd_same] at e ⊢; exact e
    · rw [upd_ne q] at e ⊢; exact h b u e, fun b hb fb => by
    have q : b ≠ p := fun z => hb (z ▸ n)
    rw [upd_ne q]; exact fb⟩
/-- a new object is laid, not shared -/
theorem Ext.laid' {p : Addr} {o : HO} (h : Same F H) (n : H p = none) : Ext F H F (upd H p o) :=
  ⟨.refl _, same_upd n, h.trans (same_upd n), fun _ _ f => f⟩
theorem Rep.ext (r : Rep K F0 H0 m ρ σ F H) (x : Ext F H F' H') : Rep K F0 H0 m ρ σ F' H' where
  len := r.len
  fh := x.fh
  f0 := r.f0.trans x.ff
  h0 := r.h0.trans x.hh
  new := fun p h f => x.nw p (fun z => by
    cases q : H0 p with
    | none => exact h q
    | some o => rw [r.h0 p o q] at z; cases z) (r.new p h f)
  val := fun i d a b => by
    obtain ⟨v, e, h⟩ := r.val i d a b
    exact ⟨v, e, h.mono x.ff⟩
  own := fun i d a b => by
    obtain ⟨p, o, e, h, c, f, h0⟩ := r.own i d a b
    exact ⟨p, o, e, x.hh _ _ h, c.mono x.ff, x.nw p (by rw [h]; simp) f, h0⟩
  apart := r.apart
  bor := fun b hb => by
    obtain ⟨h1, h2, h3, h4⟩ := r.bor b hb
    exact ⟨h1, h2, h3, fun d o e => ⟨(h4 d o e).1, x.hh _ _ (h4 d o e).2⟩⟩
end

/-! ### the reading by data -/
/-- an exception that is represented -/
def IsX (K : PySem.W.Frag) (F : Hp) (x : Ex) (cls : Value) (od : Option Addr) : Prop :=
  cls = .ref (He.ga K x.cls) ∧ (x.fs ≠ [] → ∃ d vs, od = some d ∧ F d = some (.xd vs) ∧ IsK K F vs x.fs) ∧ (x.fs = [] → od = none)
def after (K : PySem.W.Frag) (W : WX) (σ : L2.St) (F H : Hp) (r : R D) (Q : VK) : Prop := match r with
  | .ok d => ∀ v F' H', Ext F H F' H' → Is K F' v d → Q v H'
  | .ex x => ∀ cls od F' H', Ext F H F' H' → IsX K F' x cls od → W cls od σ H'
  | .st => False
def tSem (K : PySem.W.Frag) (F0 : Bs) (H0 : Hp) (m : List Bool) (W : WX) (g : Rho → R D) : TE := fun σ H Q => ∃ ρ F, Rep K F0 H0 m ρ σ F H ∧ after K W σ F H (g ρ) Q
/-- a test -/
def tSemT (K : PySem.W.Frag) (F0 : Bs) (H0 : Hp) (m : List Bool) (W : WX) (g : Rho → R Bool) : TT := fun σ H Q => ∃ ρ F, Rep K F0 H0 m ρ σ F H ∧ match g ρ with
  | .ok b => ∀ F' H', Ext F H F' H' → Q b H'
  | .ex x => ∀ cls od F' H', Ext F H F' H' → IsX K F' x cls od → W cls od σ H'
  | .st => False
/-- arguments -/
def tSemA (K : PySem.W.Frag) (F0 : Bs) (H0 : Hp) (m : List Bool) (W : WX) (g : Rho → R (List D)) : TA := fun σ H Q => ∃ ρ F, Rep K F0 H0 m ρ σ F H ∧ match g ρ with
  | .ok ds => ∀ vs F' H', Ext F H F' H' → IsL K F' vs ds → Q vs H'
  | .ex x => ∀ cls od F' H', Ext F H F' H' → IsX K F' x cls od → W cls od σ H'
  | .st => False
abbrev DE (X : Cx) (F0 : Bs) (H0 : Hp) (m : List Bool) (W : WX) (e : Expr) (g : Rho → R D) : Prop := PE X e (tSem X.K F0 H0 m W g)
abbrev DT (X : Cx) (F0 : Bs) (H0 : Hp) (m : List Bool) (W : WX) (e : Expr) (g : Rho → R Bool) : Prop := PT X e (tSemT X.K F0 H0 m W g)
abbrev DA (X : Cx) (F0 : Bs) (H0 : Hp) (m : List Bool) (W : WX) (es : List Expr) (g : Rho → R (List D)) : Prop := PA X es (tSemA X.K F0 H0 m W g)
theorem pe_imp {X : Cx} {e : Expr} {t t' : TE} (h : PE X e t) (f : ∀ σ H Q, t' σ H Q → t σ H Q) : PE X e t' := ⟨fun pins s σ H Q I q => h.run pins s σ H Q I (f σ H Q q)⟩
theorem pt_imp {X : Cx} {e : Expr} {t t' : TT} (h : PT X e t) (f : ∀ σ H Q, t' σ H Q → t σ H Q) : PT X e t' := ⟨fun pins s σ H Q I q => h.run pins s σ H Q I (f σ H Q q)⟩
theorem pa_imp {X : Cx} {e : List Expr} {t t' : TA} (h : PA X e t) (f : ∀ σ H Q, t' σ H Q → t σ H Q) : PA X e t' := ⟨fun pos pins s σ H Q I q => h.run pos pins s σ H Q I (f σ H Q q)⟩
theorem ps_imp {X : Cx} {e : Stmt} {t t' : TS} (h : PS X e t) (f : ∀ D σ H, t' D σ H → t D σ H) : PS X e t' := ⟨fun pins s σ H Q I q => h.run pins s σ H Q I (f Q σ H q)⟩
theorem pss_imp {X : Cx} {e : List Stmt} {t t' : TS} (h : PSs X e t) (f : ∀ D σ H, t' D σ H → t D σ H) : PSs X e t' := ⟨fun pins s σ H Q I q => h.run pins s σ H Q I (f Q σ H q)⟩
theorem pe_or2 {X : Cx} {e : Expr} {t t' : TE} (h : PE X e t) (h' : PE X e t') : PE X e (fun σ H Q => t σ H Q ∨ t' σ H Q) := ⟨fun pins s σ H Q I q => q.elim (h.run pins s σ H Q I) (h'.run pins s σ H Q I)⟩

section
variable {K : PySem.W.Frag} {F0 : Bs} {H0 F H F' H' : Hp} {m : List Bool} {W : WX} {ρ : Rho} {σ : L2.St} {g : Rho → R D} {Q : VK}
theorem after.ext {r : R D} (h : after K W σ F H r Q) (x : Ext F H F' H') : after K W σ F' H' r Q := by
  cases r with
  | ok d => exact fun v F2 H2 y i => h v F2 H2 (x.trans y) i
  | ex e => exact fun cls od F2 H2 y i => h cls od F2 H2 (x.trans y) i
  | st => exact h
theorem after.now {d : D} {v : V} (h : after K W σ F H (.ok d) Q) (s : Same F H) (i : Is K F v d) : Q v H := h v F H (.refl s) i
/-- one part of an expression is read, then the rest -/
theorem sem_bind {k : D → R D} {Φ : VK} (r : Rep K F0 H0 m ρ σ F H) (h : after K W σ F H ((g ρ).bind k) Q)
    (f : ∀ d v F' H', Ext F H F' H' → Is K F' v d → Rep K F0 H0 m ρ σ F' H' → after K W σ F' H' (k d) Q → Φ v H') : tSem K F0 H0 m W g σ H Φ := by
  refine ⟨ρ, F, r, ?_⟩
  cases e : g ρ with
  | ok d =>
    rw [e] at h
    exact fun v F' H' x i => f d v F' H' x i (r.ext x) (after.ext h x)
  | ex x =>
    rw [e] at h
    exact h
  | st =>
    rw [e] at h
    exact h
theorem semT_bind {gt : Rho → R Bool} {k : Bool → R D} {Φ : Bool → Hp → Prop} (r : Rep K F0 H0 m ρ σ F H) (h : after K W σ F H ((gt ρ).bind k) Q)
    (f : ∀ b F' H', Ext F H F' H' → Rep K F0 H0 m ρ σ F' H' → after K W σ F' H' (k b) Q → Φ b H') : tSemT K F0 H0 m W gt σ H Φ := by
  refine ⟨ρ, F, r, ?_⟩
  cases e : gt ρ with
  | ok d =>
    rw [e] at h
    exact fun F' H' x => f d F' H' x (r.ext x) (after.ext h x)
  | ex x =>
    rw [e] at h
    exact h
  | st =>
    rw [e] at h
    exact h
theorem semA_bind {ga : Rho → R (List D)} {k : List D → R D} {Φ : List V → Hp → Prop} (r : Rep K F0 H0 m ρ σ F H) (h : after K W σ F H ((ga ρ).bind k) Q)
    (f : ∀ ds vs F' H', Ext F H F' H' → IsL K F' vs ds → Rep K F0 H0 m ρ σ F' H' → after K W σ F' H' (k ds) Q → Φ vs H') : tSemA K F0 H0 m W ga σ H Φ := by
  refine ⟨ρ, F, r, ?_⟩
  cases e : ga ρ with
  | ok d =>
    rw [e] at h
    exact fun vs F' H' x i => f d vs F' H' x i (r.ext x) (after.ext h x)
  | ex x =>
    rw [e] at h
    exact h
  | st =>
    rw [e] at h
    exact h
end
end Pd

/-! Pd2: expressions read as functions of data -/
namespace Pd
open PySem PySem.Spec PyProof.Rows L2
section
variable {X : Cx} {F0 : Bs} {H0 : Hp} {m : List Bool} {W : WX} {pos : Pos} {a b c : Expr} {ga gb gc : Rho → R D}

/-! ### names, constants -/
def gVar (i : Nat) : Rho → R D := fun ρ => match ρ[i]? with
  | some (some d) => .ok d
  | _ => .st
theorem d_var (i : Nat) {x : Str} (hN : X.N[i]? = some x := by rfl) (hv : Vis X.env.scope x := by first | exact Or.inl rfl | exact Or.inr (Or.inl rfl) | exact Or.inr (Or.inr rfl)) (hm : (m[i]? == some true) = false := by rfl) (hd : (x == ("__debug__" : Str)) = false := by decide)
    (hcd : (x == ("__classdict__" : Str)) = false := by decide) : DE X F0 H0 m W (.Name x pos) (gVar i) := by
  refine pe_imp (pe_var hN hv hd hcd) fun σ H Q ⟨ρ, F, r, h⟩ => ?_
  unfold gVar at h
  split at h
  · rename_i d e
    obtain ⟨v, e1, i1⟩ := r.val i d e (by intro z; rw [z] at hm; cases hm)
    exact ⟨v, e1, after.now h r.fh i1⟩
  · exact h.elim
def gC (d : D) : Rho → R D := fun _ => .ok d
theorem sem_const {K : PySem.W.Frag} {v : V} {d : D} (i : ∀ H, Is K H v d) : ∀ (σ : L2.St) (H : Hp) (Q : VK), tSem K F0 H0 m W (gC d) σ H Q → tC v σ H Q :=
  fun σ H Q ⟨ρ, F, r, h⟩ => after.now h r.fh (i F)
theorem d_int {i : Int} {j} : DE X F0 H0 m W (.Constant (.int i) j pos) (gC (.int i)) := pe_imp pe_int (sem_const fun _ => .int i)
theorem d_bl {i : Bool} {j} : DE X F0 H0 m W (.Constant (.bool i) j pos) (gC (.bl i)) := pe_imp pe_bl (sem_const fun _ => .bl i)
theorem d_str {i : Str} {j} : DE X F0 H0 m W (.Constant (.str i) j pos) (gC (.str i)) := pe_imp pe_str (sem_const fun _ => .str i)
theorem d_non {j} : DE X F0 H0 m W (.Constant .none j pos) (gC .non) := pe_imp pe_non (sem_const fun _ => .non)
theorem d_glob {x : Str} {v : V} {u : Value} {d : D} (hg : Gl X x) (hm : X.mg x = some u) (r : RelV v u) (i : ∀ H, Is X.K H v d) (hd : (x == ("__debug__" : Str)) = false := by decide) : DE X F0 H0 m W (.Name x pos) (gC d) :=
  pe_imp (pe_glob hg hm r hd) (sem_const i)
theorem d_gint {x : Str} {i : Int} (hg : Gl X x) (hm : ∃ t, X.mg x = some (.int i t)) (hd : (x == ("__debug__" : Str)) = false := by decide) : DE X F0 H0 m W (.Name x pos) (gC (.int i)) := by
  obtain ⟨t, hm⟩ := hm
  exact d_glob (v := .int i) hg hm ⟨t, rfl⟩ (fun _ => .int i) hd
theorem d_gstr {x : Str} {i : Str} (hg : Gl X x) (hm : ∃ t, X.mg x = some (.str i t)) (hd : (x == ("__debug__" : Str)) = false := by decide) : DE X F0 H0 m W (.Name x pos) (gC (.str i)) := by
  obtain ⟨t, hm⟩ := hm
  exact d_glob (v := .str i) hg hm ⟨t, rfl⟩ (fun _ => .str i) hd

/-! ### two operands -/
def g2 (f : D → D → R D) (ga gb : Rho → R D) : Rho → R D := fun ρ => (ga ρ).bind fun d => (gb ρ).bind fun e => f d e
def OpD (K : PySem.W.Frag) (f : D → D → R D) (r : R2) : Prop :=
  ∀ (W : WX) (σ : L2.St) (F H : Hp) (d e : D) (v u : V) (Q : VK), Same F H → Is K F v d → Is K F u e → after K W σ F H (f d e) Q → r v u H Q
theorem sem2 {f : D → D → R D} {r : R2} (o : OpD X.K f r) : ∀ (σ : L2.St) (H : Hp) (Q : VK), tSem X.K F0 H0 m W (g2 f ga gb) σ H Q → tOp r (tSem X.K F0 H0 m W ga) (tSem X.K F0 H0 m W gb) σ H Q :=
  fun σ H Q ⟨ρ, F, r, h⟩ => sem_bind (k := fun d => (gb ρ).bind fun e => f d e) r h fun d v F1 H1 _ i1 r1 h1 =>
    sem_bind (k := fun e => f d e) r1 h1 fun e u F2 H2 x2 i2 r2 h2 => o W σ F2 H2 d e v u Q r2.fh (i1.mono x2.ff) i2 h2
theorem OpD.or {K : PySem.W.Frag} {f g : D → D → R D} {r r' : R2} (h : OpD K f r) (h' : OpD K g r') : OpD K (fun d e => match f d e with | .st => g d e | x => x) (fun x y H Q => r x y H Q ∨ r' x y H Q) := by
  intro W σ F H d e v u Q s i j q
  dsimp only at q
  cases z : f d e with
  | ok _ => rw [z] at q; exact .inl (h W σ F H d e v u Q s i j (by rw [z]; exact q))
  | ex _ => rw [z] at q; exact .inl (h W σ F H d e v u Q s i j (by rw [z]; exact q))
  | st => rw [z] at q; exact .inr (h' W σ F H d e v u Q s i j q)
theorem OpD.imp {K : PySem.W.Frag} {f g : D → D → R D} {r : R2} (h : OpD K f r) (e : ∀ d e, g d e = f d e ∨ g d e = .st) : OpD K g r := by
  intro W σ F H d e' v u Q s i j q
  rcases e d e' with z | z
  · rw [z] at q; exact h W σ F H d e' v u Q s i j q
  · rw [z] at q; exact q.elim
theorem d_op {op : Operator} {f : D → D → R D} {r : R2} (ho : OpR X (binaryOp op) r) (o : OpD X.K f r) (ha : DE X F0 H0 m W a ga) (hb : DE X F0 H0 m W b gb) : DE X F0 H0 m W (.BinOp a op b pos) (g2 f ga gb) :=
  pe_imp (pe_op ho ha hb) (sem2 o)
theorem d_cmp {op : CmpOp} {f : D → D → R D} {r : R2} (ho : OpR X (compareOp op) r) (o : OpD X.K f r) (ha : DE X F0 H0 m W a ga) (hb : DE X F0 H0 m W b gb) (hm : behindInMarks op b = false) : DE X F0 H0 m W (.Compare a [op] [b] pos) (g2 f ga gb) :=
  pe_imp (pe_cmpR ho ha hb hm) (sem2 o)
/-- a value as a truth value -/
def asB : D → R Bool
  | .bl b => .ok b
  | _ => .st
def gB (g : Rho → R D) : Rho → R Bool := fun ρ => (g ρ).bind asB
theorem sem_test {t : TE} {g : Rho → R D} (f : ∀ σ H Q, tSem X.K F0 H0 m W g σ H Q → t σ H Q) (mono : ∀ σ H Q Q', (∀ v H', Q v H' → Q' v H') → t σ H Q → t σ H Q') : ∀ (σ : L2.St) (H : Hp) (Q : Bool → Hp → Prop), tSemT X.K F0 H0 m W (gB g) σ H Q → t σ H fun x H' => ∃ k, x = .bl k ∧ Q k H' := by
  intro σ H Q ⟨ρ, F, r, h⟩
  refine f σ H _ ⟨ρ, F, r, ?_⟩
  unfold gB at h
  cases e : g ρ with
  | ok d =>
    rw [e] at h
    intro v F' H' x i
    cases i with
    | bl b => exact ⟨b, rfl, h F' H' x⟩
    | _ => exact h.elim
  | ex x =>
    rw [e] at h
    exact h
  | st =>
    rw [e] at h
    exact h.elim
theorem t_cmp {op : CmpOp} {f : D → D → R D} {r : R2} (ho : OpR X (compareOp op) r) (o : OpD X.K f r) (ha : DE X F0 H0 m W a ga) (hb : DE X F0 H0 m W b gb) (hm : behindInMarks op b = false) : DT X F0 H0 m W (.Compare a [op] [b] pos) (gB (g2 f ga gb)) := by
  refine pt_imp (pt_cmpR ho ha hb hm) fun σ H Q ⟨ρ, F, r, h⟩ => ?_
  refine sem2 o σ H _ ⟨ρ, F, r, ?_⟩
  unfold gB at h
  cases e : g2 f ga gb ρ with
  | ok d =>
    rw [e] at h
    intro v F' H' x i
    cases i with
    | bl b => exact ⟨b, rfl, h F' H' x⟩
    | _ => exact h.elim
  | ex x =>
    rw [e] at h
    exact h
  | st =>
    rw [e] at h
    exact h.elim
/-- a op b op' c -/
def g3 (f f' : D → D → R D) (ga gb gc : Rho → R D) : Rho → R D := fun ρ => (ga ρ).bind fun d => (gb ρ).bind fun e => (f d e).bind fun z => (asB z).bind fun k => if k = true then (gc ρ).bind fun y => f' e y else .ok (.bl false)
theorem sem3 {f f' : D → D → R D} {r r' : R2} (o : OpD X.K f r) (o' : OpD X.K f' r') (nx : ∀ d e, ∃ k, f d e = .ok (.bl k) ∨ f d e = .st) : ∀ (σ : L2.St) (H : Hp) (Q : VK), tSem X.K F0 H0 m W (g3 f f' ga gb gc) σ H Q →
    tChain r r' (tSem X.K F0 H0 m W ga) (tSem X.K F0 H0 m W gb) (tSem X.K F0 H0 m W gc) σ H Q :=
  fun σ H Q ⟨ρ, F, r, h⟩ => sem_bind (k := fun d => (gb ρ).bind fun e => (f d e).bind fun z => (asB z).bind fun k => if k = true then (gc ρ).bind fun y => f' e y else .ok (.bl false)) r h fun d v F1 H1 _ i1 r1 h1 =>
    sem_bind (k := fun e => (f d e).bind fun z => (asB z).bind fun k => if k = true then (gc ρ).bind fun y => f' e y else .ok (.bl false)) r1 h1 fun e u F2 H2 x2 i2 r2 h2 => by
      refine o W σ F2 H2 d e v u _ r2.fh (i1.mono x2.ff) i2 ?_
      obtain ⟨k, z | z⟩ := nx d e
      · rw [z] at h2 ⊢
        intro v' F3 H3 x3 i3
        cases i3
        refine ⟨k, rfl, ?_⟩
        have h3 := after.ext h2 x3
        cases k with
        | true => exact iteT (sem_bind (k := fun y => f' e y) (r2.ext x3) h3 fun y w' F4 H4 x4 i4 r4 h4 => o' W σ F4 H4 e y u w' Q r4.fh ((i2.mono x3.ff).mono x4.ff) i4 h4)
        | false => exact iteF (after.now h3 x3.fh (.bl false))
      · rw [z] at h2
        exact h2.elim
theorem d_chain {op op' : CmpOp} {f f' : D → D → R D} {r r' : R2} (ho : OpR X (compareOp op) r) (o : OpD X.K f r) (ho' : OpR X (compareOp op') r') (o' : OpD X.K f' r') (nx : ∀ d e, ∃ k, f d e = .ok (.bl k) ∨ f d e = .st)
    (ha : DE X F0 H0 m W a ga) (hb : DE X F0 H0 m W b gb) (hc : DE X F0 H0 m W c gc) (hm : lastMarks [op, op'] [b, c] = false := by with_unfolding_all rfl) : DE X F0 H0 m W (.Compare a [op, op'] [b, c] pos) (g3 f f' ga gb gc) :=
  pe_imp (pe_chain ho ho' ha hb hc hm) (sem3 o o' nx)
theorem semT_of {t : TE} {g : Rho → R D} (f : ∀ σ H Q, tSem X.K F0 H0 m W g σ H Q → t σ H Q) : ∀ (σ : L2.St) (H : Hp) (Q : Bool → Hp → Prop), tSemT X.K F0 H0 m W (gB g) σ H Q → t σ H fun x H' => ∃ k, x = .bl k ∧ Q k H' :=
  fun σ H Q ⟨ρ, F, r, h⟩ => by
  refine f σ H _ ⟨ρ, F, r, ?_⟩
  unfold gB at h
  cases e : g ρ with
  | ok d =>
    rw [e] at h
    intro v F' H' x i
    cases i with
    | bl b => exact ⟨b, rfl, h F' H' x⟩
    | _ => exact h.elim
  | ex x =>
    rw [e] at h
    exact h
  | st =>
    rw [e] at h
    exact h.elim
theorem t_chain {op op' : CmpOp} {f f' : D → D → R D} {r r' : R2} (ho : OpR X (compareOp op) r) (o : OpD X.K f r) (ho' : OpR X (compareOp op') r') (o' : OpD X.K f' r') (nx : ∀ d e, ∃ k, f d e = .ok (.bl k) ∨ f d e = .st)
    (ha : DE X F0 H0 m W a ga) (hb : DE X F0 H0 m W b gb) (hc : DE X F0 H0 m W c gc) (hm : lastMarks [op, op'] [b, c] = false := by with_unfolding_all rfl) : DT X F0 H0 m W (.Compare a [op, op'] [b, c] pos) (gB (g3 f f' ga gb gc)) :=
  pt_imp (pt_chain ho ho' ha hb hc hm) (semT_of (sem3 o o' nx))
/-- a bool as a test -/
theorem t_val {e : Expr} {g : Rho → R D} (h : DE X F0 H0 m W e g) (he : ∀ whole, isTrue e X.env whole = (do let v ← whole; standAt e.pos; holding [v] (truthy v)) := by intro _; rfl) : DT X F0 H0 m W e (gB g) :=
  pt_imp (pt_val h he) (semT_of fun _ _ _ z => z)
/-- truth of data -/
def truD : D → R Bool
  | .non => .ok false
  | .bl b => .ok b
  | .int i => .ok (i != 0)
  | .str s => if s.length ≤ sizeLine then .ok ((s.length : Int) != 0) else .st
  | .list xs => .ok (!xs.isEmpty)
  | .tup xs => .ok (!xs.isEmpty)
  | _ => .st
theorem IsL.empty {K : PySem.W.Frag} {H : Hp} {xs : List V} {ds : List D} (h : IsL K H xs ds) : xs.isEmpty = ds.isEmpty := by
  have l := h.1
  cases xs <;> cases ds <;> first | rfl | (simp at l)
theorem tru_of {K : PySem.W.Frag} {F H : Hp} {v : V} {d : D} {k : Bool} (s : Same F H) (i : Is K F v d) (h : truD d = .ok k) : TruV K v H k := by
  cases i with
  | non => cases h; rfl
  | bl b => cases h; rfl
  | int i => cases h; rfl
  | str x =>
    have h' : (if x.length ≤ sizeLine then R.ok ((x.length : Int) != 0) else .st) = .ok k := h
    by_cases hx : x.length ≤ sizeLine
    · rw [if_pos hx] at h'
      cases h'
      exact ⟨hx, rfl⟩
    · rw [if_neg hx] at h'
      cases h'
  | list hl l e => cases h; exact .inl ⟨_, s.seq hl, by rw [IsL.empty (K := K) (H := F) ⟨l, e⟩]⟩
  | tup hl l e => cases h; exact .inr (.inl ⟨_, sameT s hl, by rw [IsL.empty (K := K) (H := F) ⟨l, e⟩]⟩)
  | dict _ _ _ _ => cases h
  | dictT _ _ _ _ => cases h
  | obj _ _ _ _ => cases h
  | adr _ => cases h
def gTru (g : Rho → R D) : Rho → R Bool := fun ρ => (g ρ).bind truD
theorem truD_nx (d : D) : (∃ k, truD d = .ok k) ∨ truD d = .st := by
  cases d with
  | str x =>
    show (∃ k, (if x.length ≤ sizeLine then R.ok ((x.length : Int) != 0) else .st) = .ok k) ∨ (if x.length ≤ sizeLine then R.ok ((x.length : Int) != 0) else .st) = .st
    by_cases hx : x.length ≤ sizeLine
    · rw [if_pos hx]; exact .inl ⟨_, rfl⟩
    · rw [if_neg hx]; exact .inr rfl
  | dict _ => exact .inr rfl
  | dictT _ => exact .inr rfl
  | obj _ _ => exact .inr rfl
  | loc _ => exact .inr rfl
  | adr _ => exact .inr rfl
  | _ => exact .inl ⟨_, rfl⟩
theorem t_tru {e : Expr} {g : Rho → R D} (h : DE X F0 H0 m W e g) (he : ∀ whole, isTrue e X.env whole = (do let v ← whole; standAt e.pos; holding [v] (truthy v)) := by intro _; rfl) : DT X F0 H0 m W e (gTru g) := by
  refine pt_imp (pt_truth h he) fun σ H Q ⟨ρ, F, r, h⟩ => ⟨ρ, F, r, ?_⟩
  unfold gTru at h
  cases e : g ρ with
  | ok d =>
    rw [e] at h
    intro v F' H' x i
    have h' : match truD d with
      | .ok b => ∀ F' H', Ext F H F' H' → Q b H'
      | .ex x => ∀ cls od F' H', Ext F H F' H' → IsX X.K F' x cls od → W cls od σ H'
      | .st => False := h
    rcases truD_nx d with ⟨k, z⟩ | z
    · rw [z] at h'
      exact ⟨k, tru_of x.fh i z, h' F' H' x⟩
    · rw [z] at h'
      exact h'.elim
  | ex x =>
    rw [e] at h
    exact h
  | st =>
    rw [e] at h
    exact h.elim

/-! ### and, or, not, if else -/
abbrev DW (X : Cx) (F0 : Bs) (H0 : Hp) (m : List Bool) (W : WX) (e : Expr) (g : Rho → R Bool) : Prop := PW X e (tSemT X.K F0 H0 m W g)
theorem pw_imp {e : Expr} {t t' : TT} (h : PW X e t) (f : ∀ σ H Q, t' σ H Q → t σ H Q) : PW X e t' := ⟨fun wh pins s σ H Q I q => h.run wh pins s σ H Q I (f σ H Q q)⟩
def bAnd (p q : Rho → R Bool) : Rho → R Bool := fun ρ => (p ρ).bind fun k => if k = true then q ρ else .ok false
def bOr (p q : Rho → R Bool) : Rho → R Bool := fun ρ => (p ρ).bind fun k => if k = true then .ok true else q ρ
def bNot (p : Rho → R Bool) : Rho → R Bool := fun ρ => (p ρ).bind fun k => .ok (!k)
/-- a test is read, then the rest -/
def afterT (K : PySem.W.Frag) (W : WX) (σ : L2.St) (F H : Hp) (r : R Bool) (Q : Bool → Hp → Prop) : Prop := match r with
  | .ok b => ∀ F' H', Ext F H F' H' → Q b H'
  | .ex x => ∀ cls od F' H', Ext F H F' H' → IsX K F' x cls od → W cls od σ H'
  | .st => False
theorem afterT.ext {K : PySem.W.Frag} {σ : L2.St} {F H F' H' : Hp} {Q : Bool → Hp → Prop} {r : R Bool} (h : afterT K W σ F H r Q) (x : Ext F H F' H') : afterT K W σ F' H' r Q := by
  cases r with
  | ok d => exact fun F2 H2 y => h F2 H2 (x.trans y)
  | ex e => exact fun cls od F2 H2 y i => h cls od F2 H2 (x.trans y) i
  | st => exact h
theorem semTT {K : PySem.W.Frag} {σ : L2.St} {F H : Hp} {ρ : Rho} {p : Rho → R Bool} {k : Bool → R Bool} {Q Φ : Bool → Hp → Prop} (r : Rep K F0 H0 m ρ σ F H) (h : afterT K W σ F H ((p ρ).bind k) Q)
    (f : ∀ b F' H', Ext F H F' H' → Rep K F0 H0 m ρ σ F' H' → afterT K W σ F' H' (k b) Q → Φ b H') : tSemT K F0 H0 m W p σ H Φ := by
  refine ⟨ρ, F, r, ?_⟩
  cases e : p ρ with
  | ok d =>
    rw [e] at h
    exact fun F' H' x => f d F' H' x (r.ext x) (afterT.ext h x)
  | ex x =>
    rw [e] at h
    exact h
  | st =>
    rw [e] at h
    exact h
variable {p q : Rho → R Bool} {rest : List Expr}
theorem w_and1 (ha : DT X F0 H0 m W a p) : DW X F0 H0 m W (.BoolOp .And [a] pos) p := pw_and1 ha
theorem w_or1 (ha : DT X F0 H0 m W a p) : DW X F0 H0 m W (.BoolOp .Or [a] pos) p := pw_or1 ha
theorem w_and (ha : DT X F0 H0 m W a p) (hb : DW X F0 H0 m W (.BoolOp .And (b :: rest) pos) q) : DW X F0 H0 m W (.BoolOp .And (a :: b :: rest) pos) (bAnd p q) := by
  refine pw_imp (pw_and ha hb) fun σ H Q ⟨ρ, F, r, h⟩ => ?_
  refine semTT (k := fun k => if k = true then q ρ else .ok false) r h fun k F1 H1 x1 r1 h1 => ?_
  cases k with
  | true => exact iteT ⟨ρ, F1, r1, h1⟩
  | false => exact iteF (h1 F1 H1 (.refl r1.fh))
theorem w_or (ha : DT X F0 H0 m W a p) (hb : DW X F0 H0 m W (.BoolOp .Or (b :: rest) pos) q) : DW X F0 H0 m W (.BoolOp .Or (a :: b :: rest) pos) (bOr p q) := by
  refine pw_imp (pw_or ha hb) fun σ H Q ⟨ρ, F, r, h⟩ => ?_
  refine semTT (k := fun k => if k = true then .ok true else q ρ) r h fun k F1 H1 x1 r1 h1 => ?_
  cases k with
  | true => exact iteT (h1 F1 H1 (.refl r1.fh))
  | false => exact iteF ⟨ρ, F1, r1, h1⟩
theorem t_w {e : Expr} (h : DW X F0 H0 m W e p) : DT X F0 H0 m W e p := PW.pt h
theorem t_not (ha : DT X F0 H0 m W a p) : DT X F0 H0 m W (.UnaryOp .Not a pos) (bNot p) := by
  refine pt_imp (pt_not ha) fun σ H Q ⟨ρ, F, r, h⟩ => ?_
  exact semTT (k := fun k => .ok (!k)) r h fun k F1 H1 x1 r1 h1 => h1 F1 H1 (.refl r1.fh)
def gAnd (ga gb : Rho → R D) : Rho → R D := fun ρ => (ga ρ).bind fun d => (asB d).bind fun k => if k = true then gb ρ else .ok (.bl false)
def gOr (ga gb : Rho → R D) : Rho → R D := fun ρ => (ga ρ).bind fun d => (asB d).bind fun k => if k = true then .ok (.bl true) else gb ρ
def gNot (ga : Rho → R D) : Rho → R D := fun ρ => (ga ρ).bind fun d => (asB d).bind fun k => .ok (.bl (!k))
theorem asB_of {K : PySem.W.Frag} {F H : Hp} {σ : L2.St} {v : V} {d : D} {k : Bool → R D} {Q : VK} (i : Is K F v d) (h : after K W σ F H ((asB d).bind k) Q) : ∃ b, v = .bl b ∧ d = .bl b ∧ after K W σ F H (k b) Q := by
  cases i with
  | bl b => exact ⟨b, rfl, rfl, h⟩
  | _ => exact h.elim
theorem d_one {op} (ha : DE X F0 H0 m W a ga) : DE X F0 H0 m W (.BoolOp op [a] pos) ga := pe_one ha
theorem d_and (ha : DE X F0 H0 m W a ga) (hb : DE X F0 H0 m W (.BoolOp .And (b :: rest) pos) gb) : DE X F0 H0 m W (.BoolOp .And (a :: b :: rest) pos) (gAnd ga gb) := by
  refine pe_imp (pe_and ha hb) fun σ H Q ⟨ρ, F, r, h⟩ => ?_
  refine sem_bind (k := fun d => (asB d).bind fun k => if k = true then gb ρ else .ok (.bl false)) r h fun d v F1 H1 _ i1 r1 h1 => ?_
  obtain ⟨k, rfl, rfl, h2⟩ := asB_of i1 h1
  refine ⟨k, rfl, ?_⟩
  cases k with
  | true => exact iteT ⟨ρ, F1, r1, h2⟩
  | false => exact iteF (after.now h2 r1.fh (.bl false))
theorem d_or (ha : DE X F0 H0 m W a ga) (hb : DE X F0 H0 m W (.BoolOp .Or (b :: rest) pos) gb) : DE X F0 H0 m W (.BoolOp .Or (a :: b :: rest) pos) (gOr ga gb) := by
  refine pe_imp (pe_or ha hb) fun σ H Q ⟨ρ, F, r, h⟩ => ?_
  refine sem_bind (k := fun d => (asB d).bind fun k => if k = true then .ok (.bl true) else gb ρ) r h fun d v F1 H1 _ i1 r1 h1 => ?_
  obtain ⟨k, rfl, rfl, h2⟩ := asB_of i1 h1
  refine ⟨k, rfl, ?_⟩
  cases k with
  | true => exact iteT (after.now h2 r1.fh (.bl true))
  | false => exact iteF ⟨ρ, F1, r1, h2⟩
theorem d_not (ha : DE X F0 H0 m W a ga) : DE X F0 H0 m W (.UnaryOp .Not a pos) (gNot ga) := by
  refine pe_imp (pe_not ha) fun σ H Q ⟨ρ, F, r, h⟩ => ?_
  refine sem_bind (k := fun d => (asB d).bind fun k => .ok (.bl (!k))) r h fun d v F1 H1 _ i1 r1 h1 => ?_
  obtain ⟨k, rfl, rfl, h2⟩ := asB_of i1 h1
  exact ⟨k, rfl, after.now h2 r1.fh (.bl _)⟩
def gIf (p : Rho → R Bool) (ga gb : Rho → R D) : Rho → R D := fun ρ => (p ρ).bind fun k => if k = true then ga ρ else gb ρ
theorem d_if (hc : DT X F0 H0 m W c p) (ha : DE X F0 H0 m W a ga) (hb : DE X F0 H0 m W b gb) : DE X F0 H0 m W (.IfExp c a b pos) (gIf p ga gb) := by
  refine pe_imp (pe_ifExp hc ha hb) fun σ H Q ⟨ρ, F, r, h⟩ => ?_
  refine semT_bind (k := fun k => if k = true then ga ρ else gb ρ) r h fun k F1 H1 _ r1 h1 => ?_
  cases k with
  | true => exact iteT ⟨ρ, F1, r1, h1⟩
  | false => exact iteF ⟨ρ, F1, r1, h1⟩

/-! ### one operand -/
def g1 (f : D → R D) (ga : Rho → R D) : Rho → R D := fun ρ => (ga ρ).bind f
def UnD (K : PySem.W.Frag) (f : D → R D) (r : V → Hp → VK → Prop) : Prop :=
  ∀ (W : WX) (σ : L2.St) (F H : Hp) (d : D) (v : V) (Q : VK), Same F H → Is K F v d → after K W σ F H (f d) Q → r v H Q
theorem d_un {op : UnaryOp} {f : D → R D} {r : V → Hp → VK → Prop} (ho : UnR X (unaryOp op) r) (o : UnD X.K f r) (ha : DE X F0 H0 m W a ga) : DE X F0 H0 m W (.UnaryOp op a pos) (g1 f ga) :=
  pe_imp (pe_un ho ha) fun σ H Q ⟨ρ, F, r, h⟩ => sem_bind (k := f) r h fun d v F1 H1 _ i1 r1 h1 => o W σ F1 H1 d v Q r1.fh i1 h1
def negD : D → R D
  | .int i => .ok (.int (-i))
  | _ => .st
theorem o_neg {K : PySem.W.Frag} : UnD K negD (rU fun i => .int (-i)) := by
  intro W σ F H d v Q s i q
  cases i with
  | int k => exact ⟨k, rfl, after.now q s (.int _)⟩
  | _ => exact q.elim

/-! ### arguments, displays, calls of built-ins -/
def aNil : Rho → R (List D) := fun _ => .ok []
def aCons (g : Rho → R D) (t : Rho → R (List D)) : Rho → R (List D) := fun ρ => (g ρ).bind fun d => (t ρ).bind fun ds => .ok (d :: ds)
variable {e : Expr} {es : List Expr} {g : Rho → R D} {t : Rho → R (List D)}
theorem da_nil : DA X F0 H0 m W [] aNil := pa_imp pa_nil fun σ H Q ⟨ρ, F, r, h⟩ => h [] F H (.refl r.fh) .nil
def afterA (K : PySem.W.Frag) (W : WX) (σ : L2.St) (F H : Hp) (r : R (List D)) (Q : List V → Hp → Prop) : Prop := match r with
  | .ok ds => ∀ vs F' H', Ext F H F' H' → IsL K F' vs ds → Q vs H'
  | .ex x => ∀ cls od F' H', Ext F H F' H' → IsX K F' x cls od → W cls od σ H'
  | .st => False
theorem afterA.ext {K : PySem.W.Frag} {σ : L2.St} {F H F' H' : Hp} {Q : List V → Hp → Prop} {r : R (List D)} (h : afterA K W σ F H r Q) (x : Ext F H F' H') : afterA K W σ F' H' r Q := by
  cases r with
  | ok d => exact fun vs F2 H2 y i => h vs F2 H2 (x.trans y) i
  | ex e => exact fun cls od F2 H2 y i => h cls od F2 H2 (x.trans y) i
  | st => exact h
theorem da_cons (ha : DE X F0 H0 m W e g) (hr : DA X F0 H0 m W es t) (hs : starEach (e :: es) X.env = (false, eval e X.env) :: starEach es X.env := by rfl) : DA X F0 H0 m W (e :: es) (aCons g t) := by
  refine pa_imp (pa_cons ha hr hs) fun σ H Q ⟨ρ, F, r, h⟩ => ?_
  refine ⟨ρ, F, r, ?_⟩
  have h' : afterA X.K W σ F H ((g ρ).bind fun d => (t ρ).bind fun ds => .ok (d :: ds)) Q := h
  cases eg : g ρ with
  | ok d =>
    rw [eg] at h'
    intro v F1 H1 x1 i1
    refine ⟨ρ, F1, r.ext x1, ?_⟩
    have h2 : afterA X.K W σ F1 H1 ((t ρ).bind fun ds => .ok (d :: ds)) Q := afterA.ext h' x1
    show afterA X.K W σ F1 H1 (t ρ) _
    cases et : t ρ with
    | ok ds =>
      rw [et] at h2
      exact fun vs F2 H2 x2 i2 => h2 (v :: vs) F2 H2 x2 (.cons (i1.mono x2.ff) i2)
    | ex x =>
      rw [et] at h2
      exact h2
    | st =>
      rw [et] at h2
      exact h2.elim
  | ex x =>
    rw [eg] at h'
    exact h'
  | st =>
    rw [eg] at h'
    exact h'.elim
def gA (f : List D → R D) (t : Rho → R (List D)) : Rho → R D := fun ρ => (t ρ).bind f
def CallD (K : PySem.W.Frag) (f : List D → R D) (r : List V → Hp → VK → Prop) : Prop :=
  ∀ (W : WX) (σ : L2.St) (F H : Hp) (ds : List D) (vs : List V) (Q : VK), Same F H → IsL K F vs ds → after K W σ F H (f ds) Q → r vs H Q
theorem semA {f : List D → R D} {r : List V → Hp → VK → Prop} (o : CallD X.K f r) : ∀ (σ : L2.St) (H : Hp) (Q : VK), tSem X.K F0 H0 m W (gA f t) σ H Q → tSemA X.K F0 H0 m W t σ H fun vs H1 => r vs H1 Q :=
  fun σ H Q ⟨ρ, F, r, h⟩ => semA_bind (k := f) r h fun ds vs F1 H1 _ i1 r1 h1 => o W σ F1 H1 ds vs Q r1.fh i1 h1
theorem d_callB {x : Str} {p : Pos} {id : String} {f : List D → R D} {r : List V → Hp → VK → Prop} (hc : CallR X (.builtin id) r) (o : CallD X.K f r) (hm : X.mg x = none) (ha : DA X F0 H0 m W (e :: es) t) (hg : Gl X x := by rfl) (hv : bootBuiltins x = some (.builtin id) := by decide +kernel) (hn : x ≠ "__name__" := by decide) (hdb : (x == ("__debug__" : Str)) = false := by decide)
    (he : starEach (e :: es) X.env = (false, eval e X.env) :: starEach es X.env := by rfl) (hpl : (backTo pos (starEach es X.env)).any (·.1) = false := by rfl) : DE X F0 H0 m W (.Call (.Name x p) (e :: es) [] pos) (gA f t) :=
  pe_imp (pe_callB hc hg hm hv ha hn hdb he hpl) (semA o)
theorem d_callTy {x : Str} {p : Pos} {T : String} {f : List D → R D} {r : List V → Hp → VK → Prop} (hc : CallR X (.type T) r) (o : CallD X.K f r) (hm : X.mg x = none) (ha : DA X F0 H0 m W (e :: es) t) (hg : Gl X x := by rfl) (hv : bootBuiltins x = some (.type T) := by decide +kernel) (hn : x ≠ "__name__" := by decide) (hdb : (x == ("__debug__" : Str)) = false := by decide)
    (he : starEach (e :: es) X.env = (false, eval e X.env) :: starEach es X.env := by rfl) (hpl : (backTo pos (starEach es X.env)).any (·.1) = false := by rfl) : DE X F0 H0 m W (.Call (.Name x p) (e :: es) [] pos) (gA f t) :=
  pe_imp (pe_callTy hc hg hm hv ha hn hdb he hpl) (semA o)
def lstD : List D → R D := fun ds => if ds.length ≤ sizeLine then .ok (.list ds) else .st
def tupD : List D → R D := fun ds => if ds.length ≤ sizeLine then .ok (.tup ds) else .st
theorem d_list (ha : DA X F0 H0 m W es t) : DE X F0 H0 m W (.List es pos) (gA lstD t) := by
  refine pe_imp (pe_lst ha) fun σ H Q ⟨ρ, F, r, h⟩ => semA_bind (k := lstD) r h fun ds vs F1 H1 _ i1 r1 h1 => ?_
  unfold lstD at h1
  split at h1
  · rename_i hl
    refine ⟨by rw [i1.1]; exact hl, fun p hp => ?_⟩
    have x := Ext.laid (o := .lst vs) r1.fh hp
    exact h1 (.ref p) _ _ x (is_list (.of upd_same) (i1.mono x.ff))
  · exact h1.elim
theorem d_tup {k} (ha : DA X F0 H0 m W es t) : DE X F0 H0 m W (.Tuple es k pos) (gA tupD t) := by
  refine pe_imp (pe_tup ha) fun σ H Q ⟨ρ, F, r, h⟩ => semA_bind (k := tupD) r h fun ds vs F1 H1 _ i1 r1 h1 => ?_
  unfold tupD at h1
  split at h1
  · rename_i hl
    refine ⟨by rw [i1.1]; exact hl, fun p hp => ?_⟩
    have x := Ext.laid (o := .tup vs) r1.fh hp
    exact h1 (.ref p) _ _ x (is_tup (.of upd_same) (i1.mono x.ff))
  · exact h1.elim
end
end Pd

/-! Pd3: operators, built-ins, subscripts, methods, calls -/
namespace Pd
open PySem PySem.Spec PyProof.Rows L2
section
variable {K : PySem.W.Frag}
/-! ### operators of ints -/
def iD (g : Int → Int → D) : D → D → R D
  | .int i, .int j => .ok (g i j)
  | _, _ => .st
def icD (C : Int → Int → Bool) (g : Int → Int → D) : D → D → R D
  | .int i, .int j => if C i j = true then .ok (g i j) else .st
  | _, _ => .st
theorem o_i {g : Int → Int → D} {g' : Int → Int → V} (h : ∀ i j H, Is K H (g' i j) (g i j)) : OpD K (iD g) (rI0 g') := by
  intro W σ F H d e v u Q s i j q
  cases i with
  | int k =>
    cases j with
    | int l => exact ⟨k, l, rfl, rfl, after.now q s (h k l F)⟩
    | _ => exact q.elim
  | _ => exact q.elim
theorem o_ic {C : Int → Int → Prop} {C' : Int → Int → Bool} {g : Int → Int → D} {g' : Int → Int → V} (hC : ∀ i j, C' i j = true → C i j) (h : ∀ i j H, Is K H (g' i j) (g i j)) : OpD K (icD C' g) (rI C g') := by
  intro W σ F H d e v u Q s i j q
  cases i with
  | int k =>
    cases j with
    | int l =>
      have q' : after K W σ F H (if C' k l = true then .ok (g k l) else .st) Q := q
      by_cases hc : C' k l = true
      · rw [if_pos hc] at q'
        exact ⟨k, l, rfl, rfl, hC k l hc, after.now q' s (h k l F)⟩
      · rw [if_neg hc] at q'
        exact q'.elim
    | _ => exact q.elim
  | _ => exact q.elim
def subD : D → D → R D := iD fun i j => .int (i - j)
theorem o_sub : OpD K subD (rI0 fun i j => .int (i - j)) := o_i fun _ _ _ => .int _
def small64b (i : Int) : Bool := decide (-(2 ^ 64) < i) && decide (i < 2 ^ 64)
def mulD : D → D → R D := icD (fun i j => small64b i || small64b j) fun i j => .int (i * j)
theorem o_mul : OpD K mulD (rI CMul fun i j => .int (i * j)) := o_ic (fun i j h => by
  simp only [small64b, Bool.or_eq_true, Bool.and_eq_true, decide_eq_true_eq] at h
  exact h) fun _ _ _ => .int _
def fdivD : D → D → R D := icD (fun _ j => decide (0 < j) && decide (j < 1073741824)) fun i j => .int (i / j)
theorem o_fdiv : OpD K fdivD (rI CDiv fun i j => .int (i / j)) := o_ic (fun i j h => by
  simp only [Bool.and_eq_true, decide_eq_true_eq] at h
  exact h) fun _ _ _ => .int _
def modD : D → D → R D := icD (fun _ j => decide (0 < j)) fun i j => .int (i % j)
theorem o_mod : OpD K modD (rI (fun _ j => 0 < j) fun i j => .int (i % j)) := o_ic (fun i j h => of_decide_eq_true h) fun _ _ _ => .int _
def powOk (i j : Int) : Bool := decide (0 ≤ j) && (decide (j ≤ 1000000) && decide (i.natAbs < 2 ^ 64))
theorem powOk_ok {i j : Int} (h : powOk i j = true) : CPow i j := by
  simp only [powOk, Bool.and_eq_true, decide_eq_true_eq] at h
  exact h
def powD : D → D → R D := icD powOk fun i j => .int (i ^ j.toNat)
theorem o_pow : OpD K powD (rI CPow fun i j => .int (i ^ j.toNat)) := o_ic (fun _ _ h => powOk_ok h) fun _ _ _ => .int _
def shlD : D → D → R D := icD powOk fun i j => .int (i * 2 ^ j.toNat)
theorem o_shl : OpD K shlD (rI CPow fun i j => .int (i * 2 ^ j.toNat)) := o_ic (fun _ _ h => powOk_ok h) fun _ _ _ => .int _
def shrD : D → D → R D := icD (fun _ j => decide (0 ≤ j)) fun i j => .int (i / 2 ^ j.toNat)
theorem o_shr : OpD K shrD (rI (fun _ j => 0 ≤ j) fun i j => .int (i / 2 ^ j.toNat)) := o_ic (fun i j h => of_decide_eq_true h) fun _ _ _ => .int _
def andD : D → D → R D := iD fun i j => .int (Builtin.bitAnd i j)
theorem o_and : OpD K andD (rI0 fun i j => .int (Builtin.bitAnd i j)) := o_i fun _ _ _ => .int _
def orD : D → D → R D := iD fun i j => .int (Builtin.bitOr i j)
theorem o_or : OpD K orD (rI0 fun i j => .int (Builtin.bitOr i j)) := o_i fun _ _ _ => .int _
def xorD : D → D → R D := iD fun i j => .int (Builtin.bitXor i j)
theorem o_xor : OpD K xorD (rI0 fun i j => .int (Builtin.bitXor i j)) := o_i fun _ _ _ => .int _

/-! ### + -/
def rCatL (K : PySem.W.Frag) : R2 := fun x y H Q => ∃ l b xs zs, x = .ref l ∧ y = .ref b ∧ SqL K H l xs ∧ SqL K H b zs ∧ xs.length + zs.length ≤ sizeLine ∧ ∀ p, H p = none → Q (.ref p) (upd H p (.lst (xs ++ zs)))
theorem op_catL {X : Cx} : OpR X (binaryOp .Add) (rCatL X.K) := by
  intro pins s σ H x y v u Q I rx ry h
  obtain ⟨l, b, xs, zs, rfl, rfl, hH, hB, hz, q⟩ := h
  cases rx
  cases ry
  obtain ⟨its, r, pl, z⟩ := I.list hH
  obtain ⟨its2, r2, pl2, z2⟩ := I.list hB
  obtain ⟨⟨cls, dd, data, sl⟩, n, ho, hc, h0, hd⟩ := id pl
  obtain ⟨⟨cls2, dd2, data2, sl2⟩, n2, ho2, hc2, h02, hd2⟩ := id pl2
  simp only at hc hd hc2 hd2
  subst hc hd hc2 hd2
  have ea : its.toArray ++ its2.toArray = (its ++ its2).toArray := by simp
  refine concat_meets ⟨_, ho, rfl⟩ ⟨_, ho2, rfl⟩ noFill_list_add seq_list_add PySem.F.slot_list_add PySem.F.entry_list_add (PySem.F.args_list_add_2 _ _) (list_addW l b its.toArray its2.toArray n n2 dd dd2 sl sl2 (by rw [List.size_toArray, List.size_toArray, ← r.length, ← r2.length]; exact hz)) ⟨ho, ho2, ?_⟩
  rw [ea]
  exact ⟨.ref _, _, I.lnew (t' := s.toks) (r.append r2) (by rw [List.length_append]; omega), rfl, q _ I.fresh⟩
def addD : D → D → R D
  | .int i, .int j => .ok (.int (i + j))
  | .str a, .str b => if a.length + b.length ≤ sizeLine then .ok (.str (a ++ b)) else .st
  | .list a, .list b => if a.length + b.length ≤ sizeLine then .ok (.list (a ++ b)) else .st
  | .tup a, .tup b => if a.length + b.length ≤ sizeLine then .ok (.tup (a ++ b)) else .st
  | _, _ => .st
def rAddD (K : PySem.W.Frag) : R2 := fun x y H Q => rI0 (fun i j => .int (i + j)) x y H Q ∨ ((∃ i j, x = .str i ∧ y = .str j ∧ i.length + j.length ≤ sizeLine ∧ Q (.str (i ++ j)) H) ∨ (rCatL K x y H Q ∨ rCatA K x y H Q))
theorem op_addD {X : Cx} : OpR X (binaryOp .Add) (rAddD X.K) := op_add.or (op_add_str.or (op_catL.or op_catA))
theorem o_add : OpD K addD (rAddD K) := by
  intro W σ F H d e v u Q s i j q
  cases i with
  | int k =>
    cases j with
    | int l => exact .inl ⟨k, l, rfl, rfl, after.now q s (.int _)⟩
    | _ => exact q.elim
  | str x =>
    cases j with
    | str y =>
      have q' : after K W σ F H (if x.length + y.length ≤ sizeLine then .ok (.str (x ++ y)) else .st) Q := q
      by_cases hc : x.length + y.length ≤ sizeLine
      · rw [if_pos hc] at q'
        exact .inr (.inl ⟨x, y, rfl, rfl, hc, after.now q' s (.str _)⟩)
      · rw [if_neg hc] at q'
        exact q'.elim
    | _ => exact q.elim
  | @list a xs ds h l e =>
    cases j with
    | @list b ys es h' l' e' =>
      have q' : after K W σ F H (if ds.length + es.length ≤ sizeLine then .ok (.list (ds ++ es)) else .st) Q := q
      by_cases hc : ds.length + es.length ≤ sizeLine
      · rw [if_pos hc] at q'
        refine .inr (.inr (.inl ⟨a, b, xs, ys, rfl, rfl, s.seq h, s.seq h', by omega, fun p hp => ?_⟩))
        have x := Ext.laid (o := .lst (xs ++ ys)) s hp
        exact q' _ _ _ x (is_list (.of upd_same) ((IsL.append ⟨l, e⟩ ⟨l', e'⟩).mono x.ff))
      · rw [if_neg hc] at q'
        exact q'.elim
    | _ => exact q.elim
  | @tup a xs ds h l e =>
    cases j with
    | @tup b ys es h' l' e' =>
      have q' : after K W σ F H (if ds.length + es.length ≤ sizeLine then .ok (.tup (ds ++ es)) else .st) Q := q
      by_cases hc : ds.length + es.length ≤ sizeLine
      · rw [if_pos hc] at q'
        have ap := IsL.append (K := K) (H := F) ⟨l, e⟩ ⟨l', e'⟩
        refine .inr (.inr (.inr ⟨a, b, xs, ys, rfl, rfl, sameT s h, sameT s h', by omega, fun hx => ?_, fun hx hy => ?_, fun hx hy p hp => ?_⟩))
        · subst hx
          refine after.now q' s (is_tup h' ?_)
          have hd : ds = [] := by
            cases ds with
            | nil => rfl
            | cons _ _ => simp at l
          subst hd
          exact ⟨l', e'⟩
        · subst hy
          refine after.now q' s (is_tup h ?_)
          have hd : es = [] := by
            cases es with
            | nil => rfl
            | cons _ _ => simp at l'
          subst hd
          rw [List.append_nil]
          exact ⟨l, e⟩
        · have x := Ext.laid (o := .tup (xs ++ ys)) s hp
          exact q' _ _ _ x (is_tup (.of upd_same) (ap.mono x.ff))
      · rw [if_neg hc] at q'
        exact q'.elim
    | _ => exact q.elim
  | _ => exact q.elim

/-! ### comparisons -/
mutual
def D.py : D → PyData
  | .non => .none
  | .bl b => .bool b
  | .int i => .int i
  | .str s => .str s
  | .list xs => .list (D.pyAll xs)
  | .tup xs => .tuple (D.pyAll xs)
  | .dict _ => .dict []
  | .dictT _ => .dict []
  | .obj _ _ => .dict []
  | .loc _ => .dict []
  | .adr _ => .dict []
def D.pyAll : List D → List PyData
  | [] => []
  | d :: ds => D.py d :: D.pyAll ds
end
mutual
/-- no dicts, no objects in it -/
def D.flat : D → Bool
  | .non => true
  | .bl _ => true
  | .int _ => true
  | .str _ => true
  | .list xs => D.flatAll xs
  | .tup xs => D.flatAll xs
  | .dict _ => false
  | .dictT _ => false
  | .obj _ _ => false
  | .loc _ => false
  | .adr _ => false
def D.flatAll : List D → Bool
  | [] => true
  | d :: ds => D.flat d && D.flatAll ds
end
mutual
theorem dp_of {F : Hp} : ∀ (d : D) (v : V), D.flat d = true → Is K F v d → Dp K F v (D.py d)
  | .non, _, _, i => by cases i; exact .non
  | .bl b, _, _, i => by cases i; exact .bl b
  | .int k, _, _, i => by cases i; exact .int k
  | .str s, _, _, i => by cases i; exact .str s
  | .list ds, _, f, i => by
    obtain ⟨a, xs, rfl, h, l⟩ := i.list_inv
    exact .lst h (dp_ofAll ds xs f l)
  | .tup ds, _, f, i => by
    obtain ⟨a, xs, rfl, h, l⟩ := i.tup_inv
    exact .tup h (dp_ofAll ds xs f l)
  | .dict _, _, f, _ => by cases f
  | .dictT _, _, f, _ => by cases f
  | .obj _ _, _, f, _ => by cases f
  | .loc _, _, f, _ => by cases f
  | .adr _, _, f, _ => by cases f
theorem dp_ofAll {F : Hp} : ∀ (ds : List D) (vs : List V), D.flatAll ds = true → IsL K F vs ds → DpAll K F vs (D.pyAll ds)
  | [], vs, _, l => by rw [l.unnil]; exact .nil
  | d :: ds, vs, f, l => by
    obtain ⟨x, xr, rfl, h, t⟩ := l.uncons
    have f' : (D.flat d && D.flatAll ds) = true := f
    rw [Bool.and_eq_true] at f'
    exact .cons (dp_of d x f'.1 h) (dp_ofAll ds xr f'.2 t)
end
end
end Pd

/-! Pd4: comparisons, built-ins, subscripts, slices, methods, calls -/
namespace Pd
open PySem PySem.Spec PyProof.Rows L2
section
variable {K : PySem.W.Frag}
/-! ### == -/
def eqvD (d e : D) : Bool := PyData.eqv d.py e.py
def D.sh (d : D) : Bool := D.flat d && SeqAt.shaped d.py
/-- scalars of which == is told at once -/
def scD : D → D → Bool
  | .non, .non => true | .non, .int _ => true | .int _, .non => true | .non, .bl _ => true | .bl _, .non => true | .non, .str _ => true | .str _, .non => true
  | .int _, .int _ => true | .bl _, .bl _ => true | .str _, .str _ => true
  | .int _, .str _ => true | .str _, .int _ => true | .bl _, .str _ => true | .str _, .bl _ => true
  | _, _ => false
def eqD (d e : D) : R D := if scD d e = true then .ok (.bl (eqvD d e)) else if (D.sh d && D.sh e) = true then .ok (.bl (eqvD d e)) else .st
def neD (d e : D) : R D := if scD d e = true then .ok (.bl (!eqvD d e)) else if (D.sh d && D.sh e) = true then .ok (.bl (!eqvD d e)) else .st
theorem sc_eq {F : Hp} {v u : V} {d e : D} (i : Is K F v d) (j : Is K F u e) (h : scD d e = true) : scal v u = true ∧ decide (v = u) = eqvD d e := by
  cases i <;> cases j <;> first
    | exact ⟨rfl, rfl⟩
    | exact ⟨rfl, dec_int⟩
    | exact ⟨rfl, dec_bl⟩
    | exact ⟨rfl, dec_str⟩
    | exact absurd h (by intro z; cases z)
def rEq2 (K : PySem.W.Frag) : R2 := fun x y H Q => rEq x y H Q ∨ rEqD K x y H Q
def rNe2 (K : PySem.W.Frag) : R2 := fun x y H Q => rNe x y H Q ∨ rNeD K x y H Q
theorem op_eq2 {X : Cx} (hu : X.A.units + 64 < cLine) : OpR X (compareOp .Eq) (rEq2 X.K) := op_eq.or (op_eqD hu)
theorem op_ne2 {X : Cx} (hu : X.A.units + 64 < cLine) : OpR X (compareOp .NotEq) (rNe2 X.K) := op_ne.or (op_neD hu)
theorem dp_mono {F H : Hp} {v : V} {d : D} (s : Same F H) (i : Is K F v d) (h : D.sh d = true) : Dp K H v d.py ∧ SeqAt.shaped d.py = true := by
  have h' : (D.flat d && SeqAt.shaped d.py) = true := h
  rw [Bool.and_eq_true] at h'
  exact ⟨dp_of d v h'.1 (i.mono s), h'.2⟩
theorem o_eq : OpD K eqD (rEq2 K) := by
  intro W σ F H d e v u Q s i j q
  unfold eqD at q
  by_cases h1 : scD d e = true
  · rw [if_pos h1] at q
    obtain ⟨a, b⟩ := sc_eq i j h1
    exact .inl ⟨a, by rw [b]; exact after.now q s (.bl _)⟩
  · rw [if_neg h1] at q
    by_cases h2 : (D.sh d && D.sh e) = true
    · rw [if_pos h2] at q
      rw [Bool.and_eq_true] at h2
      obtain ⟨a1, a2⟩ := dp_mono s i h2.1
      obtain ⟨b1, b2⟩ := dp_mono s j h2.2
      exact .inr ⟨_, _, a1, b1, a2, b2, after.now q s (.bl _)⟩
    · rw [if_neg h2] at q
      exact q.elim
theorem o_ne : OpD K neD (rNe2 K) := by
  intro W σ F H d e v u Q s i j q
  unfold neD at q
  by_cases h1 : scD d e = true
  · rw [if_pos h1] at q
    obtain ⟨a, b⟩ := sc_eq i j h1
    exact .inl ⟨a, by rw [b]; exact after.now q s (.bl _)⟩
  · rw [if_neg h1] at q
    by_cases h2 : (D.sh d && D.sh e) = true
    · rw [if_pos h2] at q
      rw [Bool.and_eq_true] at h2
      obtain ⟨a1, a2⟩ := dp_mono s i h2.1
      obtain ⟨b1, b2⟩ := dp_mono s j h2.2
      exact .inr ⟨_, _, a1, b1, a2, b2, after.now q s (.bl _)⟩
    · rw [if_neg h2] at q
      exact q.elim
/-! ### order -/
def ltS (a b : Str) : Bool := decide (a.cps.toList < b.cps.toList)
def ltD : D → D → R D
  | .int i, .int j => .ok (.bl (decide (i < j)))
  | .str a, .str b => .ok (.bl (ltS a b))
  | _, _ => .st
def gtD : D → D → R D
  | .int i, .int j => .ok (.bl (decide (j < i)))
  | .str a, .str b => .ok (.bl (ltS b a))
  | _, _ => .st
def leD : D → D → R D := iD fun i j => .bl (decide (i ≤ j))
def geD : D → D → R D := iD fun i j => .bl (decide (j ≤ i))
def rLt2 : R2 := fun x y H Q => rI0 (fun i j => .bl (decide (i < j))) x y H Q ∨ ∃ i j, x = .str i ∧ y = .str j ∧ Q (.bl (decide (i.cps.toList < j.cps.toList))) H
def rGt2 : R2 := fun x y H Q => rI0 (fun i j => .bl (decide (j < i))) x y H Q ∨ ∃ i j, x = .str i ∧ y = .str j ∧ Q (.bl (decide (j.cps.toList < i.cps.toList))) H
theorem op_lt2 {X : Cx} : OpR X (compareOp .Lt) rLt2 := op_lt.or op_lt_str
theorem op_gt2 {X : Cx} : OpR X (compareOp .Gt) rGt2 := op_gt.or op_gt_str
theorem o_lt : OpD K ltD rLt2 := by
  intro W σ F H d e v u Q s i j q
  cases i <;> cases j <;> first
    | exact .inl ⟨_, _, rfl, rfl, after.now q s (.bl _)⟩
    | exact .inr ⟨_, _, rfl, rfl, after.now q s (.bl _)⟩
    | exact q.elim
theorem o_gt : OpD K gtD rGt2 := by
  intro W σ F H d e v u Q s i j q
  cases i <;> cases j <;> first
    | exact .inl ⟨_, _, rfl, rfl, after.now q s (.bl _)⟩
    | exact .inr ⟨_, _, rfl, rfl, after.now q s (.bl _)⟩
    | exact q.elim
theorem o_le : OpD K leD (rI0 fun i j => .bl (decide (i ≤ j))) := o_i fun _ _ _ => .bl _
theorem o_ge : OpD K geD (rI0 fun i j => .bl (decide (j ≤ i))) := o_i fun _ _ _ => .bl _
theorem nx_lt (d e : D) : ∃ k, ltD d e = .ok (.bl k) ∨ ltD d e = .st := by
  cases d <;> cases e <;> first | exact ⟨_, .inl rfl⟩ | exact ⟨true, .inr rfl⟩
theorem nx_le (d e : D) : ∃ k, leD d e = .ok (.bl k) ∨ leD d e = .st := by
  cases d <;> cases e <;> first | exact ⟨_, .inl rfl⟩ | exact ⟨true, .inr rfl⟩
theorem nx_gt (d e : D) : ∃ k, gtD d e = .ok (.bl k) ∨ gtD d e = .st := by
  cases d <;> cases e <;> first | exact ⟨_, .inl rfl⟩ | exact ⟨true, .inr rfl⟩
theorem nx_ge (d e : D) : ∃ k, geD d e = .ok (.bl k) ∨ geD d e = .st := by
  cases d <;> cases e <;> first | exact ⟨_, .inl rfl⟩ | exact ⟨true, .inr rfl⟩
/-! ### is None -/
def isND : D → D → R D
  | .non, .non => .ok (.bl true)
  | _, .non => .ok (.bl false)
  | _, _ => .st
def notND : D → D → R D
  | .non, .non => .ok (.bl false)
  | _, .non => .ok (.bl true)
  | _, _ => .st
theorem o_isN : OpD K isND (fun x y H Q => y = .non ∧ Q (.bl (decide (x = .non))) H) := by
  intro W σ F H d e v u Q s i j q
  cases j <;> cases i <;> first
    | exact ⟨rfl, after.now q s (.bl _)⟩
    | exact q.elim
theorem o_notN : OpD K notND (fun x y H Q => y = .non ∧ Q (.bl (!decide (x = .non))) H) := by
  intro W σ F H d e v u Q s i j q
  cases j <;> cases i <;> first
    | exact ⟨rfl, after.now q s (.bl _)⟩
    | exact q.elim
/-! ### in -/
def hasSub (j i : Str) : Bool := !(Builtin.Str.occurrences j i 0 j.length 1).isEmpty
theorem hasSub_one (j : Str) (c : Nat) : hasSub j ⟨#[c]⟩ = decide (c ∈ j.cps.toList) := PySem.StrLaws.found_one j c
def flD : D → Bool
  | .non => true
  | .bl _ => true
  | .int _ => true
  | .str _ => true
  | _ => false
def inD : D → D → R Bool
  | .str a, .str b => .ok (hasSub b a)
  | d, .list ds => if (flD d && ds.all flD) = true then .ok (ds.any fun z => eqvD z d) else if (D.sh d && D.sh (.list ds)) = true then .ok (ds.any fun z => eqvD z d) else .st
  | d, .tup ds => if (flD d && ds.all flD) = true then .ok (ds.any fun z => eqvD z d) else .st
  | _, _ => .st
def inDD (d e : D) : R D := (inD d e).bind fun b => .ok (.bl b)
def notInDD (d e : D) : R D := (inD d e).bind fun b => .ok (.bl (!b))
theorem fl_of {F : Hp} {v : V} {d : D} (i : Is K F v d) (h : flD d = true) : flatV v = true := by
  cases i <;> first | rfl | exact absurd h (by intro z; cases z)
theorem fl_all {F : Hp} {xs : List V} {ds : List D} (i : IsL K F xs ds) (h : ds.all flD = true) : xs.all flatV = true := by
  rw [List.all_eq_true] at h ⊢
  intro x hx
  obtain ⟨k, hk⟩ := List.getElem?_of_mem hx
  obtain ⟨d, e, z⟩ := i.atV hk
  exact fl_of z (h d (List.mem_of_getElem? e))
theorem eqV_of {F : Hp} {v u : V} {d e : D} (i : Is K F v d) (j : Is K F u e) (h : flD d = true) (h' : flD e = true) : eqV v u = eqvD d e := by
  cases i <;> cases j <;> first
    | rfl
    | exact absurd h (by intro z; cases z)
    | exact absurd h' (by intro z; cases z)
theorem inV_of {F : Hp} {v : V} {d : D} (i : Is K F v d) (hd : flD d = true) : ∀ {xs : List V} {ds : List D}, IsL K F xs ds → ds.all flD = true → inV v xs = ds.any fun z => eqvD z d
  | xs, [], l, _ => by rw [l.unnil]; rfl
  | xs, e :: ds, l, f => by
    obtain ⟨x, xr, rfl, h, t⟩ := l.uncons
    rw [List.all_cons, Bool.and_eq_true] at f
    have ih := inV_of i hd t f.2
    show (eqV x v || inV v xr) = (eqvD e d || ds.any fun z => eqvD z d)
    rw [ih, eqV_of h i f.1 hd]
theorem any_py : ∀ (ds : List D) (d : D), ((D.pyAll ds).any fun z => PyData.eqv z d.py) = ds.any fun z => eqvD z d
  | [], _ => rfl
  | e :: ds, d => by
    show (PyData.eqv e.py d.py || _) = (eqvD e d || _)
    rw [any_py ds d]
    rfl
def rIn2 (K : PySem.W.Frag) : R2 := fun x y H Q => (∃ i j, x = .str i ∧ y = .str j ∧ Q (.bl (!(Builtin.Str.occurrences j i 0 j.length 1).isEmpty)) H) ∨ (rIn K false x y H Q ∨ rInD K x y H Q)
def rNotIn2 (K : PySem.W.Frag) : R2 := fun x y H Q => (∃ i j, x = .str i ∧ y = .str j ∧ Q (.bl (!(!(Builtin.Str.occurrences j i 0 j.length 1).isEmpty))) H) ∨ (rIn K true x y H Q ∨ rNotInD K x y H Q)
theorem op_in2 {X : Cx} (hu : X.A.units + 65 < cLine) : OpR X (compareOp .In) (rIn2 X.K) := op_in_str.or (op_in_seq.or (op_inD hu))
theorem op_notIn2 {X : Cx} (hu : X.A.units + 65 < cLine) : OpR X (compareOp .NotIn) (rNotIn2 X.K) := op_notIn_str.or (op_notIn_seq.or (op_notInD hu))
theorem in_cases {F H : Hp} {v u : V} {d e : D} {b : Bool} (s : Same F H) (i : Is K F v d) (j : Is K F u e) (h : inD d e = .ok b) :
    (∃ x y, v = .str x ∧ u = .str y ∧ (!(Builtin.Str.occurrences y x 0 y.length 1).isEmpty) = b) ∨ (∃ p xs, u = .ref p ∧ (SqL K H p xs ∨ SqT K H p xs) ∧ flatV v = true ∧ xs.all flatV = true ∧ inV v xs = b) ∨
      ∃ a c, Dp K H v a ∧ Dp K H u (.list c) ∧ SeqAt.shaped a = true ∧ SeqAt.shaped (.list c) = true ∧ (c.any fun z => PyData.eqv z a) = b := by
  cases e with
  | str y =>
    cases d with
    | str x =>
      cases i
      cases j
      injection h with h
      exact .inl ⟨x, y, rfl, rfl, h⟩
    | _ => cases h
  | list ds =>
    obtain ⟨p, xs, rfl, hp, l⟩ := j.list_inv
    have h' : (if (flD d && ds.all flD) = true then R.ok (ds.any fun z => eqvD z d) else if (D.sh d && D.sh (.list ds)) = true then .ok (ds.any fun z => eqvD z d) else .st) = .ok b := by
      rw [← h]
      cases d <;> rfl
    by_cases h1 : (flD d && ds.all flD) = true
    · rw [if_pos h1] at h'
      rw [Bool.and_eq_true] at h1
      injection h' with h'
      exact .inr (.inl ⟨p, xs, rfl, .inl (s.seq hp), fl_of i h1.1, fl_all l h1.2, (inV_of i h1.1 l h1.2).trans h'⟩)
    · rw [if_neg h1] at h'
      by_cases h2 : (D.sh d && D.sh (.list ds)) = true
      · rw [if_pos h2] at h'
        rw [Bool.and_eq_true] at h2
        injection h' with h'
        obtain ⟨a1, a2⟩ := dp_mono s i h2.1
        obtain ⟨b1, b2⟩ := dp_mono s (is_list hp l) h2.2
        exact .inr (.inr ⟨d.py, D.pyAll ds, a1, b1, a2, b2, (any_py ds d).trans h'⟩)
      · rw [if_neg h2] at h'
        cases h'
  | tup ds =>
    obtain ⟨p, xs, rfl, hp, l⟩ := j.tup_inv
    have h' : (if (flD d && ds.all flD) = true then R.ok (ds.any fun z => eqvD z d) else .st) = .ok b := by
      rw [← h]
      cases d <;> rfl
    by_cases h1 : (flD d && ds.all flD) = true
    · rw [if_pos h1] at h'
      rw [Bool.and_eq_true] at h1
      injection h' with h'
      exact .inr (.inl ⟨p, xs, rfl, .inr (sameT s hp), fl_of i h1.1, fl_all l h1.2, (inV_of i h1.1 l h1.2).trans h'⟩)
    · rw [if_neg h1] at h'
      cases h'
  | _ => cases d <;> cases h
theorem inD_nx (d e : D) : (∃ b, inD d e = .ok b) ∨ inD d e = .st := by
  cases h : inD d e with
  | ok b => exact .inl ⟨b, rfl⟩
  | st => exact .inr rfl
  | ex x =>
    exfalso
    unfold inD at h
    repeat' (first | split at h | cases h)
theorem o_in : OpD K inDD (rIn2 K) := by
  intro W σ F H d e v u Q s i j q
  unfold inDD at q
  rcases inD_nx d e with ⟨b, z⟩ | z
  · rw [z] at q
    have q' := after.now q s (.bl b)
    rcases in_cases s i j z with ⟨x, y, rfl, rfl, h⟩ | ⟨p, xs, rfl, h1, h2, h3, h4⟩ | ⟨a, c, h1, h2, h3, h4, h5⟩
    · exact .inl ⟨x, y, rfl, rfl, by rw [h]; exact q'⟩
    · exact .inr (.inl ⟨p, xs, rfl, h1, h2, h3, by rw [h4]; exact q'⟩)
    · exact .inr (.inr ⟨a, c, h1, h2, h3, h4, by rw [h5]; exact q'⟩)
  · rw [z] at q
    exact q.elim
theorem o_notIn : OpD K notInDD (rNotIn2 K) := by
  intro W σ F H d e v u Q s i j q
  unfold notInDD at q
  rcases inD_nx d e with ⟨b, z⟩ | z
  · rw [z] at q
    have q' := after.now q s (.bl (!b))
    rcases in_cases s i j z with ⟨x, y, rfl, rfl, h⟩ | ⟨p, xs, rfl, h1, h2, h3, h4⟩ | ⟨a, c, h1, h2, h3, h4, h5⟩
    · exact .inl ⟨x, y, rfl, rfl, by rw [h]; exact q'⟩
    · exact .inr (.inl ⟨p, xs, rfl, h1, h2, h3, by rw [h4]; exact q'⟩)
    · exact .inr (.inr ⟨a, c, h1, h2, h3, h4, by rw [h5]; exact q'⟩)
  · rw [z] at q
    exact q.elim

/-! ### built-ins -/
def lenD : List D → R D
  | [.str s] => if s.length ≤ sizeLine then .ok (.int s.length) else .st
  | [.list ds] => .ok (.int ds.length)
  | [.tup ds] => .ok (.int ds.length)
  | _ => .st
theorem one_of {F : Hp} {vs : List V} {d : D} (l : IsL K F vs [d]) : ∃ v, vs = [v] ∧ Is K F v d := by
  obtain ⟨v, vr, rfl, h, t⟩ := l.uncons
  rw [t.unnil]
  exact ⟨v, rfl, h⟩
theorem two_of {F : Hp} {vs : List V} {d e : D} (l : IsL K F vs [d, e]) : ∃ v u, vs = [v, u] ∧ Is K F v d ∧ Is K F u e := by
  obtain ⟨v, vr, rfl, h, t⟩ := l.uncons
  obtain ⟨u, rfl, h'⟩ := one_of t
  exact ⟨v, u, rfl, h, h'⟩
theorem c_len : CallD K lenD (fun xs H Q => ∃ x n, xs = [x] ∧ LenV K x H n ∧ Q (.int n) H) := by
  intro W σ F H ds vs Q s l q
  match ds, l, q with
  | [.str z], l, q =>
    obtain ⟨v, rfl, i⟩ := one_of l
    cases i
    have q' : after K W σ F H (if z.length ≤ sizeLine then .ok (.int z.length) else .st) Q := q
    by_cases h : z.length ≤ sizeLine
    · rw [if_pos h] at q'
      exact ⟨_, _, rfl, ⟨h, rfl⟩, after.now q' s (.int _)⟩
    · rw [if_neg h] at q'
      exact q'.elim
  | [.list es], l, q =>
    obtain ⟨v, rfl, i⟩ := one_of l
    obtain ⟨a, xs, rfl, h, t⟩ := i.list_inv
    exact ⟨_, _, rfl, .inl ⟨xs, s.seq h, t.1.symm⟩, after.now q s (.int _)⟩
  | [.tup es], l, q =>
    obtain ⟨v, rfl, i⟩ := one_of l
    obtain ⟨a, xs, rfl, h, t⟩ := i.tup_inv
    exact ⟨_, _, rfl, .inr ⟨xs, sameT s h, t.1.symm⟩, after.now q s (.int _)⟩
def ordD : List D → R D
  | [.str s] => if s.length = 1 then .ok (.int (s.cps.getD 0 0 : Nat)) else .st
  | _ => .st
theorem c_ord : CallD K ordD (fun xs H Q => ∃ x, xs = [.str x] ∧ x.length = 1 ∧ Q (.int (x.cps.getD 0 0 : Nat)) H) := by
  intro W σ F H ds vs Q s l q
  match ds, l, q with
  | [.str z], l, q =>
    obtain ⟨v, rfl, i⟩ := one_of l
    cases i
    have q' : after K W σ F H (if z.length = 1 then .ok (.int (z.cps.getD 0 0 : Nat)) else .st) Q := q
    by_cases h : z.length = 1
    · rw [if_pos h] at q'
      exact ⟨_, rfl, h, after.now q' s (.int _)⟩
    · rw [if_neg h] at q'
      exact q'.elim
def intD : List D → R D
  | [.int i] => .ok (.int i)
  | [.bl b] => .ok (.int (if b then 1 else 0))
  | _ => .st
theorem c_int : CallD K intD (fun xs H Q => (∃ i, xs = [.int i] ∧ Q (.int i) H) ∨ ∃ k, xs = [.bl k] ∧ Q (.int (if k then 1 else 0)) H) := by
  intro W σ F H ds vs Q s l q
  match ds, l, q with
  | [.int z], l, q =>
    obtain ⟨v, rfl, i⟩ := one_of l
    cases i
    exact .inl ⟨_, rfl, after.now q s (.int _)⟩
  | [.bl z], l, q =>
    obtain ⟨v, rfl, i⟩ := one_of l
    cases i
    exact .inr ⟨_, rfl, after.now q s (.int _)⟩
def strD : List D → R D
  | [.int i] => if i.natAbs.log2 < 1920 then .ok (.str (toString i)) else .st
  | _ => .st
theorem c_str : CallD K strD (fun xs H Q => ∃ i, xs = [.int i] ∧ i.natAbs.log2 < 1920 ∧ Q (.str (toString i)) H) := by
  intro W σ F H ds vs Q s l q
  match ds, l, q with
  | [.int z], l, q =>
    obtain ⟨v, rfl, i⟩ := one_of l
    cases i
    have q' : after K W σ F H (if z.natAbs.log2 < 1920 then .ok (.str (toString z)) else .st) Q := q
    by_cases h : z.natAbs.log2 < 1920
    · rw [if_pos h] at q'
      exact ⟨_, rfl, h, after.now q' s (.str _)⟩
    · rw [if_neg h] at q'
      exact q'.elim
/-- isinstance(x, T), T a built-in type -/
def tyD : D → String
  | .non => "NoneType"
  | .bl _ => "bool"
  | .int _ => "int"
  | .str _ => "str"
  | .list _ => "list"
  | .tup _ => "tuple"
  | .dict _ => "dict"
  | .dictT _ => "dict"
  | .obj _ _ => ""
  | .loc _ => ""
  | .adr _ => ""
def subTy : String → String → Option Bool
  | "bool", "int" => some true
  | "NoneType", "int" => some false | "int", "int" => some true | "str", "int" => some false | "list", "int" => some false | "tuple", "int" => some false | "dict", "int" => some false
  | "NoneType", "bool" => some false | "bool", "bool" => some true | "int", "bool" => some false | "str", "bool" => some false | "list", "bool" => some false | "tuple", "bool" => some false | "dict", "bool" => some false
  | "NoneType", "str" => some false | "bool", "str" => some false | "int", "str" => some false | "str", "str" => some true | "list", "str" => some false | "tuple", "str" => some false | "dict", "str" => some false
  | "NoneType", "list" => some false | "bool", "list" => some false | "int", "list" => some false | "str", "list" => some false | "list", "list" => some true | "tuple", "list" => some false | "dict", "list" => some false
  | "NoneType", "tuple" => some false | "bool", "tuple" => some false | "int", "tuple" => some false | "str", "tuple" => some false | "list", "tuple" => some false | "tuple", "tuple" => some true | "dict", "tuple" => some false
  | "NoneType", "dict" => some false | "bool", "dict" => some false | "int", "dict" => some false | "str", "dict" => some false | "list", "dict" => some false | "tuple", "dict" => some false | "dict", "dict" => some true
  | _, _ => none
theorem subTy_kit {a b : String} {r : Bool} (h : subTy a b = some r) : kitB a b = some r := by
  unfold subTy at h
  split at h <;> first
    | (injection h with h; subst h; decide +kernel)
    | cases h
theorem tyx_of {F H : Hp} {v : V} {d : D} (s : Same F H) (i : Is K F v d) (h : ∀ c fs, d ≠ .obj c fs) (h2 : ∀ k, d ≠ .adr k) : TyX K H v (.type (tyD d)) := by
  cases i with
  | non => exact .base .non
  | bl b => exact .base (.bl b)
  | int b => exact .base (.int b)
  | str b => exact .base (.str b)
  | list hl _ _ =>
    rcases hl with (hl | ⟨o, hl⟩) | ⟨o, its, n, hk, hc, _⟩
    · exact .base (.lst (s _ _ hl))
    · exact .base (.frz (s _ _ hl))
    · exact .kList hk hc
  | tup hl _ _ =>
    rcases hl with (hl | ⟨o, hl⟩) | ⟨o, its, n, hk, hc, _⟩
    · exact .base (.tup (s _ _ hl))
    · exact .fTuple (s _ _ hl)
    · exact .kTuple hk hc
  | dict hl _ _ _ =>
    rcases hl with hl | ⟨o, hl⟩
    · exact .base (.dK (s _ _ hl))
    · exact .fDict (s _ _ hl)
  | dictT hl _ _ _ => exact .base (.dT (s _ _ hl))
  | obj _ _ _ _ => exact absurd rfl (h _ _)
  | adr _ => exact absurd rfl (h2 _)
def isiD (n : String) (d : D) : R D := match subTy (tyD d) n with
  | some b => .ok (.bl b)
  | none => .st
end
section
variable {X : Cx} {F0 : Bs} {H0 : Hp} {m : List Bool} {W : WX} {pos : Pos} {a b e : Expr} {es : List Expr} {ga gb g : Rho → R D} {t : Rho → R (List D)}
theorem d_isinst {y : Str} {p p2 : Pos} {n : String} (hm : X.mg "isinstance" = none) (hy : X.mg y = none) (ha : DE X F0 H0 m W e g) (hg : Gl X "isinstance" := by rfl) (hg2 : Gl X y := by rfl) (hv : bootBuiltins y = some (.type n) := by decide +kernel)
    (hn : y ≠ "__name__" := by decide) (hd : (y == ("__debug__" : Str)) = false := by decide)
    (hs : starEach [e, .Name y p2] X.env = (false, eval e X.env) :: starEach [.Name y p2] X.env := by rfl) (hs2 : starEach [.Name y p2] X.env = (false, eval (.Name y p2) X.env) :: starEach [] X.env := by rfl)
    (hpl : (backTo pos (starEach [.Name y p2] X.env)).any (·.1) = false := by rfl) : DE X F0 H0 m W (.Call (.Name "isinstance" p) [e, .Name y p2] [] pos) (g1 (isiD n) g) := by
  refine pe_imp (pe_callB call_isi hg hm (by decide +kernel) (pa_cons ha (pa_cons (pe_bltn (v := .ty n) hg2 hy hv rfl hn hd) pa_nil hs2) hs) (by decide) (by decide) hs hpl) fun σ H Q ⟨ρ, F, r, h⟩ => ?_
  refine sem_bind (k := isiD n) r h fun d v F1 H1 _ i1 r1 h1 => ?_
  unfold isiD at h1
  cases z : subTy (tyD d) n with
  | none => rw [z] at h1; exact h1.elim
  | some b =>
    rw [z] at h1
    refine ⟨v, .ty n, .type (tyD d), .type n, b, rfl, .ty n, tyx_of r1.fh i1 (fun c fs q => ?_) (fun c q => ?_), kit_ty (subTy_kit z), after.now h1 r1.fh (.bl b)⟩
    all_goals
      subst q
      have z' : subTy "" n = some b := z
      unfold subTy at z'
      split at z' <;> first | (simp_all; done) | cases z'

/-! ### subscripts -/
def ixD : D → D → R D
  | .list ds, .int i => match atI ds i with
    | some d => .ok d
    | none => .st
  | .tup ds, .int i => match atI ds i with
    | some d => .ok d
    | none => .st
  | .str s, .int i => if s.length ≤ sizeLine then (match atI s.cps.toList i with
    | some c => .ok (.str ⟨#[c]⟩)
    | none => .st) else .st
  | _, _ => .st
theorem atI_is {K : PySem.W.Frag} {F : Hp} {xs : List V} {ds : List D} (l : IsL K F xs ds) {i : Int} {d : D} (h : atI ds i = some d) : ∃ v, atI xs i = some v ∧ Is K F v d := by
  unfold atI at h ⊢
  rw [l.1]
  cases z : ixN ds.length i with
  | none => rw [z] at h; cases h
  | some j =>
    rw [z] at h
    exact l.at h
theorem o_ix {K : PySem.W.Frag} : OpD K ixD (rIx K) := by
  intro W σ F H d e v u Q s i j q
  cases d with
  | list ds =>
    obtain ⟨p, xs, rfl, hp, l⟩ := i.list_inv
    cases j with
    | int k =>
      have q' : after K W σ F H (match atI ds k with | some d => .ok d | none => .st) Q := q
      cases z : atI ds k with
      | none => rw [z] at q'; exact q'.elim
      | some d =>
        rw [z] at q'
        obtain ⟨w', e1, i1⟩ := atI_is l z
        exact .inl ⟨p, xs, k, w', rfl, rfl, s.seq hp, e1, after.now q' s i1⟩
    | _ => exact q.elim
  | tup ds =>
    obtain ⟨p, xs, rfl, hp, l⟩ := i.tup_inv
    cases j with
    | int k =>
      have q' : after K W σ F H (match atI ds k with | some d => .ok d | none => .st) Q := q
      cases z : atI ds k with
      | none => rw [z] at q'; exact q'.elim
      | some d =>
        rw [z] at q'
        obtain ⟨w', e1, i1⟩ := atI_is l z
        exact .inr (.inl ⟨p, xs, k, w', rfl, rfl, sameT s hp, e1, after.now q' s i1⟩)
    | _ => exact q.elim
  | str x =>
    cases i
    cases j with
    | int k =>
      have q' : after K W σ F H (if x.length ≤ sizeLine then (match atI x.cps.toList k with | some c => .ok (.str ⟨#[c]⟩) | none => .st) else .st) Q := q
      by_cases hx : x.length ≤ sizeLine
      · rw [if_pos hx] at q'
        cases z : atI x.cps.toList k with
        | none => rw [z] at q'; exact q'.elim
        | some c =>
          rw [z] at q'
          exact .inr (.inr ⟨x, k, c, rfl, rfl, hx, z, after.now q' s (.str _)⟩)
      · rw [if_neg hx] at q'
        exact q'.elim
    | _ => exact q.elim
  | _ => exact q.elim
theorem d_ix (ha : DE X F0 H0 m W a ga) (hb : DE X F0 H0 m W b gb) (hs : PlainIx b := by exact fun _ _ => rfl) : DE X F0 H0 m W (.Subscript a b pos) (g2 ixD ga gb) := pe_imp (pe_ix ix_seq ha hb hs) (sem2 o_ix)

/-! ### slices -/
abbrev DO (X : Cx) (F0 : Bs) (H0 : Hp) (m : List Bool) (W : WX) (e : Option Expr) (g : Rho → R (Option Int)) : Prop := PO X e (fun σ H Q => ∃ ρ F, Rep X.K F0 H0 m ρ σ F H ∧ match g ρ with
  | .ok i => ∀ F' H', Ext F H F' H' → Q i H'
  | .ex x => ∀ cls od F' H', Ext F H F' H' → IsX X.K F' x cls od → W cls od σ H'
  | .st => False)
theorem po_imp {e : Option Expr} {t t' : TO} (h : PO X e t) (f : ∀ σ H Q, t' σ H Q → t σ H Q) : PO X e t' := ⟨fun pins s σ H Q I q => h.run pins s σ H Q I (f σ H Q q)⟩
def pNone : Rho → R (Option Int) := fun _ => .ok none
def asI : D → R (Option Int)
  | .int i => .ok (some i)
  | _ => .st
def pSome (g : Rho → R D) : Rho → R (Option Int) := fun ρ => (g ρ).bind asI
theorem do_none : DO X F0 H0 m W none pNone := po_imp po_none fun σ H Q ⟨ρ, F, r, h⟩ => h F H (.refl r.fh)
theorem do_some (ha : DE X F0 H0 m W e g) : DO X F0 H0 m W (some e) (pSome g) := by
  refine po_imp (po_some ha) fun σ H Q ⟨ρ, F, r, h⟩ => ?_
  refine ⟨ρ, F, r, ?_⟩
  unfold pSome at h
  cases z : g ρ with
  | ok d =>
    rw [z] at h
    intro v F' H' x i
    cases i with
    | int k => exact ⟨k, rfl, h F' H' x⟩
    | _ => exact h.elim
  | ex x =>
    rw [z] at h
    exact h
  | st =>
    rw [z] at h
    exact h.elim
def cutD {α : Type} (xs : List α) (lo hi : Option Int) : List α := (xs.drop (HT.sIx xs.length 0 lo)).take (HT.sIx xs.length xs.length hi - HT.sIx xs.length 0 lo)
def slD : D → Option Int → Option Int → R D
  | .list ds, lo, hi => .ok (.list (cutD ds lo hi))
  | .tup ds, lo, hi => .ok (.tup (cutD ds lo hi))
  | .str s, lo, hi => if s.length ≤ sizeLine then .ok (.str (cutS s lo hi)) else .st
  | _, _, _ => .st
def gSl (g : Rho → R D) (pl ph : Rho → R (Option Int)) : Rho → R D := fun ρ => (g ρ).bind fun d => (pl ρ).bind fun lo => (ph ρ).bind fun hi => slD d lo hi
theorem cut_is {K : PySem.W.Frag} {F : Hp} {xs : List V} {ds : List D} (l : IsL K F xs ds) (lo hi : Option Int) : IsL K F (cutV xs lo hi) (cutD ds lo hi) := by
  unfold cutV cutD
  rw [l.1]
  exact (l.drop _).take _
def rSl2 (K : PySem.W.Frag) : V → Option Int → Option Int → Hp → VK → Prop := fun x lo hi H Q => rSlL K x lo hi H Q ∨ (rSlA K x lo hi H Q ∨ rSlS x lo hi H Q)
theorem sl2 : SlR X (rSl2 X.K) := sl_list.or (sl_tupA.or sl_str)
theorem cut_all {α : Type} (xs : List α) (lo hi : Option Int) (h : HT.sIx xs.length 0 lo = 0 ∧ HT.sIx xs.length xs.length hi = xs.length) : cutD xs lo hi = xs := by
  unfold cutD
  rw [h.1, h.2]
  simp
theorem sl_run {K : PySem.W.Frag} {σ : L2.St} {F H : Hp} {d : D} {v : V} {lo hi : Option Int} {Q : VK} (s : Same F H) (i : Is K F v d) (q : after K W σ F H (slD d lo hi) Q) : rSl2 K v lo hi H Q := by
  cases d with
  | list ds =>
    obtain ⟨p, xs, rfl, hp, l⟩ := i.list_inv
    refine .inl ⟨p, xs, rfl, s.seq hp, fun r hr => ?_⟩
    have x := Ext.laid (o := .lst (cutV xs lo hi)) s hr
    exact q _ _ _ x (is_list (.of upd_same) ((cut_is l lo hi).mono x.ff))
  | tup ds =>
    obtain ⟨p, xs, rfl, hp, l⟩ := i.tup_inv
    refine .inr (.inl ⟨p, xs, rfl, sameT s hp, fun hw => ?_, fun hw r hr => ?_⟩)
    · have q' : after K W σ F H (.ok (.tup (cutD ds lo hi))) Q := q
      rw [l.1] at hw
      rw [cut_all ds lo hi hw] at q'
      exact after.now q' s i
    · have x := Ext.laid (o := .tup (cutV xs lo hi)) s hr
      exact q _ _ _ x (is_tup (.of upd_same) ((cut_is l lo hi).mono x.ff))
  | str z =>
    cases i
    have q' : after K W σ F H (if z.length ≤ sizeLine then .ok (.str (cutS z lo hi)) else .st) Q := q
    by_cases hz : z.length ≤ sizeLine
    · rw [if_pos hz] at q'
      exact .inr (.inr ⟨z, rfl, hz, after.now q' s (.str _)⟩)
    · rw [if_neg hz] at q'
      exact q'.elim
  | _ => exact q.elim
theorem d_slice {lo hi : Option Expr} {pl ph : Rho → R (Option Int)} {p2 : Pos} (ha : DE X F0 H0 m W e g) (hl : DO X F0 H0 m W lo pl) (hh : DO X F0 H0 m W hi ph) : DE X F0 H0 m W (.Subscript e (.Slice lo hi none p2) pos) (gSl g pl ph) := by
  refine pe_imp (pe_slice sl2 ha hl hh) fun σ H Q ⟨ρ, F, r, h⟩ => ?_
  refine sem_bind (k := fun d => (pl ρ).bind fun lo => (ph ρ).bind fun hi => slD d lo hi) r h fun d v F1 H1 _ i1 r1 h1 => ?_
  refine ⟨ρ, F1, r1, ?_⟩
  cases z1 : pl ρ with
  | ok l =>
    rw [z1] at h1
    intro F2 H2 x2
    refine ⟨ρ, F2, r1.ext x2, ?_⟩
    have h2 : after X.K W σ F2 H2 ((ph ρ).bind fun hi => slD d l hi) Q := after.ext h1 x2
    cases z2 : ph ρ with
    | ok u =>
      rw [z2] at h2
      intro F3 H3 x3
      exact sl_run x3.fh ((i1.mono x2.ff).mono x3.ff) (after.ext h2 x3)
    | ex x =>
      rw [z2] at h2
      exact h2
    | st =>
      rw [z2] at h2
      exact h2.elim
  | ex x =>
    rw [z1] at h1
    exact h1
  | st =>
    rw [z1] at h1
    exact h1.elim
end
end Pd

/-! Pd5: new objects, targets, what is walked, comprehensions, methods, calls -/
namespace Pd
open PySem PySem.Spec PyProof.Rows L2
/-! ### an expression that makes a new object, not yet shared -/
def afterN (K : PySem.W.Frag) (W : WX) (σ : L2.St) (F H : Hp) (r : R D) (Q : VK) : Prop := match r with
  | .ok d => ∀ p o F' H', Ext F H F' H' → H' p = some o → IsC K F' o d → F' p = none → H p = none → Q (.ref p) H'
  | .ex x => ∀ cls od F' H', Ext F H F' H' → IsX K F' x cls od → W cls od σ H'
  | .st => False
def tSemN (K : PySem.W.Frag) (F0 : Bs) (H0 : Hp) (m : List Bool) (W : WX) (g : Rho → R D) : TE := fun σ H Q => ∃ ρ F, Rep K F0 H0 m ρ σ F H ∧ afterN K W σ F H (g ρ) Q
abbrev DN (X : Cx) (F0 : Bs) (H0 : Hp) (m : List Bool) (W : WX) (e : Expr) (g : Rho → R D) : Prop := PE X e (tSemN X.K F0 H0 m W g)
/-- shared from now on -/
theorem Ext.share {F H F' H' : Hp} {p : Addr} {o : HO} (x : Ext F H F' H') (h : H' p = some o) (f : F' p = none) (n : H p = none) : Ext F H (upd F' p o) H' :=
  ⟨x.ff.trans (same_upd f), x.hh, fun b u e => by
    by_cases q : b = p
    · subst q; rw [upd_same] at e; rw [h]; exact e
    · rw [upd_ne q] at e; exact x.fh b u e, fun b hb fb => by
    have q : b ≠ p := fun z => hb (z ▸ n)
    rw [upd_ne q]; exact x.nw b hb fb⟩
theorem afterN_of {K : PySem.W.Frag} {W : WX} {σ : L2.St} {F H : Hp} {r : R D} {Q : VK} (h : after K W σ F H r Q) : afterN K W σ F H r Q := by
  cases r with
  | ok d =>
    intro p o F' H' x e c f n
    exact h (.ref p) (upd F' p o) H' (x.share e f n) (is_of_c upd_same (c.mono (same_upd f)))
  | ex x => exact h
  | st => exact h
theorem d_new {X : Cx} {F0 : Bs} {H0 : Hp} {m : List Bool} {W : WX} {e : Expr} {g : Rho → R D} (h : DN X F0 H0 m W e g) : DE X F0 H0 m W e g :=
  pe_imp h fun σ H Q ⟨ρ, F, r, q⟩ => ⟨ρ, F, r, afterN_of q⟩
section
variable {K : PySem.W.Frag} {F0 : Bs} {H0 F H F' H' : Hp} {m : List Bool} {W : WX} {ρ : Rho} {σ : L2.St} {g : Rho → R D} {Q : VK}
theorem afterN.ext {r : R D} (h : afterN K W σ F H r Q) (x : Ext F H F' H') : afterN K W σ F' H' r Q := by
  cases r with
  | ok d =>
    intro p o F2 H2 y e c f n
    refine h p o F2 H2 (x.trans y) e c f ?_
    cases q : H p with
    | none => rfl
    | some u => rw [x.hh p u q] at n; cases n
  | ex e => exact fun cls od F2 H2 y i => h cls od F2 H2 (x.trans y) i
  | st => exact h
theorem afterN.now {d : D} {p : Addr} {o : HO} (h : afterN K W σ F H (.ok d) Q) (s : Same F H) (n : H p = none) (c : IsC K F o d) : Q (.ref p) (upd H p o) :=
  h p o F (upd H p o) (.laid' s n) upd_same c (s.free n) n
theorem sem_bindN {k : D → R D} {Φ : VK} (r : Rep K F0 H0 m ρ σ F H) (h : afterN K W σ F H ((g ρ).bind k) Q)
    (f : ∀ d v F' H', Ext F H F' H' → Is K F' v d → Rep K F0 H0 m ρ σ F' H' → afterN K W σ F' H' (k d) Q → Φ v H') : tSem K F0 H0 m W g σ H Φ := by
  refine ⟨ρ, F, r, ?_⟩
  cases e : g ρ with
  | ok d =>
    rw [e] at h
    exact fun v F' H' x i => f d v F' H' x i (r.ext x) (afterN.ext h x)
  | ex x =>
    rw [e] at h
    exact h
  | st =>
    rw [e] at h
    exact h
theorem semA_bindN {ga : Rho → R (List D)} {k : List D → R D} {Φ : List V → Hp → Prop} (r : Rep K F0 H0 m ρ σ F H) (h : afterN K W σ F H ((ga ρ).bind k) Q)
    (f : ∀ ds vs F' H', Ext F H F' H' → IsL K F' vs ds → Rep K F0 H0 m ρ σ F' H' → afterN K W σ F' H' (k ds) Q → Φ vs H') : tSemA K F0 H0 m W ga σ H Φ := by
  refine ⟨ρ, F, r, ?_⟩
  cases e : ga ρ with
  | ok d =>
    rw [e] at h
    exact fun vs F' H' x i => f d vs F' H' x i (r.ext x) (afterN.ext h x)
  | ex x =>
    rw [e] at h
    exact h
  | st =>
    rw [e] at h
    exact h
end
section
variable {X : Cx} {F0 : Bs} {H0 : Hp} {m : List Bool} {W : WX} {pos : Pos} {a b e : Expr} {es : List Expr} {ga gb g : Rho → R D} {t : Rho → R (List D)}
theorem n_list (ha : DA X F0 H0 m W es t) : DN X F0 H0 m W (.List es pos) (gA lstD t) := by
  refine pe_imp (pe_lst ha) fun σ H Q ⟨ρ, F, r, h⟩ => semA_bindN (k := lstD) r h fun ds vs F1 H1 _ i1 r1 h1 => ?_
  unfold lstD at h1
  split at h1
  · rename_i hl
    exact ⟨by rw [i1.1]; exact hl, fun p hp => afterN.now h1 r1.fh hp (show IsC _ _ (.lst vs) (.list ds) from i1)⟩
  · exact h1.elim
/-- list(x), tuple(x) -/
def listD : List D → R D
  | [.list ds] => .ok (.list ds)
  | [.tup ds] => .ok (.list ds)
  | _ => .st
def tupleD : List D → R D
  | [.list ds] => .ok (.tup ds)
  | [.tup ds] => .ok (.tup ds)
  | _ => .st
theorem c_tuple {K : PySem.W.Frag} : CallD K tupleD (fun xs H Q => ∃ p ys, xs = [.ref p] ∧ ((SqL K H p ys ∧ ∀ l, H l = none → Q (.ref l) (upd H l (.tup ys))) ∨ (SqT K H p ys ∧ Q (.ref p) H))) := by
  intro W σ F H ds vs Q s l q
  match ds, l, q with
  | [.list es], l, q =>
    obtain ⟨v, rfl, i⟩ := one_of l
    obtain ⟨a, xs, rfl, h, t⟩ := i.list_inv
    refine ⟨a, xs, rfl, .inl ⟨s.seq h, fun p hp => ?_⟩⟩
    have x := Ext.laid (o := .tup xs) s hp
    exact q _ _ _ x (is_tup (.of upd_same) (t.mono x.ff))
  | [.tup es], l, q =>
    obtain ⟨v, rfl, i⟩ := one_of l
    obtain ⟨a, xs, rfl, h, t⟩ := i.tup_inv
    exact ⟨a, xs, rfl, .inr ⟨sameT s h, after.now q s i⟩⟩
def CallDN (K : PySem.W.Frag) (f : List D → R D) (r : List V → Hp → VK → Prop) : Prop :=
  ∀ (W : WX) (σ : L2.St) (F H : Hp) (ds : List D) (vs : List V) (Q : VK), Same F H → IsL K F vs ds → afterN K W σ F H (f ds) Q → r vs H Q
theorem c_list {K : PySem.W.Frag} : CallDN K listD (fun xs H Q => ∃ p ys, xs = [.ref p] ∧ (SqL K H p ys ∨ SqT K H p ys) ∧ ∀ l, H l = none → Q (.ref l) (upd H l (.lst ys))) := by
  intro W σ F H ds vs Q s l q
  match ds, l, q with
  | [.list es], l, q =>
    obtain ⟨v, rfl, i⟩ := one_of l
    obtain ⟨a, xs, rfl, h, t⟩ := i.list_inv
    exact ⟨a, xs, rfl, .inl (s.seq h), fun p hp => afterN.now q s hp (show IsC _ _ (.lst xs) (.list es) from t)⟩
  | [.tup es], l, q =>
    obtain ⟨v, rfl, i⟩ := one_of l
    obtain ⟨a, xs, rfl, h, t⟩ := i.tup_inv
    exact ⟨a, xs, rfl, .inr (sameT s h), fun p hp => afterN.now q s hp (show IsC _ _ (.lst xs) (.list es) from t)⟩
theorem n_callTy {x : Str} {p : Pos} {T : String} {f : List D → R D} {r : List V → Hp → VK → Prop} (hc : CallR X (.type T) r) (o : CallDN X.K f r) (hm : X.mg x = none) (ha : DA X F0 H0 m W (e :: es) t) (hg : Gl X x := by rfl) (hv : bootBuiltins x = some (.type T) := by decide +kernel) (hn : x ≠ "__name__" := by decide) (hdb : (x == ("__debug__" : Str)) = false := by decide)
    (he : starEach (e :: es) X.env = (false, eval e X.env) :: starEach es X.env := by rfl) (hpl : (backTo pos (starEach es X.env)).any (·.1) = false := by rfl) : DN X F0 H0 m W (.Call (.Name x p) (e :: es) [] pos) (gA f t) :=
  pe_imp (pe_callTy hc hg hm hv ha hn hdb he hpl) fun σ H Q ⟨ρ, F, r, h⟩ => semA_bindN (k := f) r h fun ds vs F1 H1 _ i1 r1 h1 => o W σ F1 H1 ds vs Q r1.fh i1 h1

/-! ### targets -/
/-- is: the slots that it stores -/
def tSemG (K : PySem.W.Frag) (F0 : Bs) (H0 : Hp) (m m' : List Bool) (is : List Nat) (τ : D → Rho → R Rho) : TG := fun v σ H Q => ∃ ρ F d, Rep K F0 H0 m ρ σ F H ∧ Is K F v d ∧ match τ d ρ with
  | .ok ρ' => ∀ σ', Rep K F0 H0 m' ρ' σ' F H → σ'.length = σ.length → (∀ j, j ∉ is → σ'[j]? = σ[j]?) → Q σ' H
  | _ => False
abbrev DG (X : Cx) (F0 : Bs) (H0 : Hp) (m m' : List Bool) (is : List Nat) (tg : Expr) (τ : D → Rho → R Rho) : Prop := PG X tg (tSemG X.K F0 H0 m m' is τ)
theorem pg_imp {tg : Expr} {t t' : TG} (h : PG X tg t) (f : ∀ v σ H Q, t' v σ H Q → t v σ H Q) : PG X tg t' := ⟨fun pins s σ H v u Q I r q => h.run pins s σ H v u Q I r (f v σ H Q q)⟩
def τName (i : Nat) : D → Rho → R Rho := fun d ρ => .ok (ρ.set i (some d))
theorem getElem?_set_cases {α : Type} {l : List α} {i j : Nat} {x y : α} (h : (l.set i x)[j]? = some y) : (j = i ∧ y = x ∧ i < l.length) ∨ (j ≠ i ∧ l[j]? = some y) := by
  by_cases hj : j = i
  · subst hj
    by_cases hl : j < l.length
    · rw [List.getElem?_set_self hl] at h
      exact .inl ⟨rfl, (Option.some.inj h).symm, hl⟩
    · rw [List.getElem?_eq_none (by simpa using hl)] at h
      cases h
  · rw [List.getElem?_set_ne (Ne.symm hj)] at h
    exact .inr ⟨hj, h⟩
theorem mset {m : List Bool} {i j : Nat} (h : (m.set i false)[j]? = some true) : j ≠ i ∧ m[j]? = some true := by
  rcases getElem?_set_cases h with ⟨_, z, _⟩ | z
  · cases z
  · exact z
theorem mset' {m : List Bool} {i j : Nat} (hj : j ≠ i) (b : Bool) : (m.set i b)[j]? = m[j]? := List.getElem?_set_ne (Ne.symm hj)
/-- a slot gets shared data -/
theorem Rep.set {K : PySem.W.Frag} {ρ : Rho} {σ : L2.St} {F H : Hp} {v : V} {d : D} (r : Rep K F0 H0 m ρ σ F H) (i : Nat) (hi : F0.ok i) (h : Is K F v d) : Rep K F0 H0 (m.set i false) (ρ.set i (some d)) (σ.set i (some v)) F H where
  len := by rw [List.length_set, List.length_set, r.len]
  fh := r.fh
  f0 := r.f0
  h0 := r.h0
  new := r.new
  val := fun j e a b => by
    rcases getElem?_set_cases a with ⟨rfl, z, hl⟩ | ⟨hj, z⟩
    · cases z
      exact ⟨v, by rw [List.getElem?_set_self (by rw [r.len]; exact hl)], h⟩
    · rw [List.getElem?_set_ne (Ne.symm hj)]
      exact r.val j e z (by rw [mset' hj] at b; exact b)
  own := fun j e a b => by
    obtain ⟨hj, b⟩ := mset b
    rw [List.getElem?_set_ne (Ne.symm hj)] at a ⊢
    exact r.own j e a b
  apart := fun j k p d1 e1 hjk a b c c' q => by
    obtain ⟨hj, a⟩ := mset a
    obtain ⟨hk, b⟩ := mset b
    rw [List.getElem?_set_ne (Ne.symm hj)] at c q
    rw [List.getElem?_set_ne (Ne.symm hk)] at c' ⊢
    exact r.apart j k p d1 e1 hjk a b c c' q
  bor := fun b hb => by
    obtain ⟨h1, h2, h3, h4⟩ := r.bor b hb
    have ne := hi b hb
    rw [mset' ne, List.getElem?_set_ne (Ne.symm ne), List.getElem?_set_ne (Ne.symm ne)]
    exact ⟨h1, h2, h3, h4⟩
theorem dg_name (i : Nat) {x : Str} (hN : X.N.Nodup) (hi : X.N[i]? = some x := by rfl) (hx : Loc X.env.scope x := by exact Or.inl rfl) (hb : F0.ok i := by exact Bs.ok_of rfl) (hf : X.fn x = true ∨ X.env.scope.names.lookup x = some .local := by first | exact .inl rfl | exact .inr rfl | assumption) :
    DG X F0 H0 m (m.set i false) [i] (.Name x pos) (τName i) := by
  refine pg_imp (pg_name hN hi hx hf) fun v σ H Q ⟨ρ, F, d, r, h, q⟩ => ?_
  exact q _ (r.set i hb h) (List.length_set ..) fun j hj => List.getElem?_set_ne (fun z => hj (by simp [z]))
/-- several -/
def tSemGs (K : PySem.W.Frag) (F0 : Bs) (H0 : Hp) (m m' : List Bool) (is : List Nat) (τ : List D → Rho → R Rho) : TGs := fun vs σ H Q => ∃ ρ F ds, Rep K F0 H0 m ρ σ F H ∧ IsL K F vs ds ∧ match τ ds ρ with
  | .ok ρ' => ∀ σ', Rep K F0 H0 m' ρ' σ' F H → σ'.length = σ.length → (∀ j, j ∉ is → σ'[j]? = σ[j]?) → Q σ' H
  | _ => False
abbrev DGs (X : Cx) (F0 : Bs) (H0 : Hp) (m m' : List Bool) (is : List Nat) (tg : List Expr) (τ : List D → Rho → R Rho) : Prop := PGs X tg (tSemGs X.K F0 H0 m m' is τ)
theorem pgs_imp {tg : List Expr} {t t' : TGs} (h : PGs X tg t) (f : ∀ v σ H Q, t' v σ H Q → t v σ H Q) : PGs X tg t' := ⟨fun pins s σ H v u Q I r q => h.run pins s σ H v u Q I r (f v σ H Q q)⟩
def τNil : List D → Rho → R Rho := fun ds ρ => match ds with
  | [] => .ok ρ
  | _ => .st
def τCons (τ : D → Rho → R Rho) (τs : List D → Rho → R Rho) : List D → Rho → R Rho := fun ds ρ => match ds with
  | d :: r => (τ d ρ).bind fun ρ1 => τs r ρ1
  | [] => .st
theorem dgs_nil : DGs X F0 H0 m m [] [] τNil := by
  refine pgs_imp pgs_nil fun vs σ H Q ⟨ρ, F, ds, r, l, q⟩ => ?_
  cases ds with
  | nil => exact ⟨l.unnil, q σ r rfl fun _ _ => rfl⟩
  | cons d ds => exact q.elim
theorem dgs_cons {m1 m2 : List Bool} {is is2 : List Nat} {τ : D → Rho → R Rho} {τs : List D → Rho → R Rho} (h1 : DG X F0 H0 m m1 is e τ) (h2 : DGs X F0 H0 m1 m2 is2 es τs)
    (hs : (assignEach (e :: es) X.env).map (·.2) = assign e X.env :: (assignEach es X.env).map (·.2) := by rfl) : DGs X F0 H0 m m2 (is ++ is2) (e :: es) (τCons τ τs) := by
  refine pgs_imp (pgs_cons h1 h2 hs) fun vs σ H Q ⟨ρ, F, ds, r, l, q⟩ => ?_
  cases ds with
  | nil => exact q.elim
  | cons d ds =>
    obtain ⟨v, vr, rfl, i, t⟩ := l.uncons
    refine ⟨v, vr, rfl, ρ, F, d, r, i, ?_⟩
    have q' : match (τ d ρ).bind fun ρ1 => τs ds ρ1 with
      | .ok ρ' => ∀ σ', Rep X.K F0 H0 m2 ρ' σ' F H → σ'.length = σ.length → (∀ j, j ∉ is ++ is2 → σ'[j]? = σ[j]?) → Q σ' H
      | _ => False := q
    cases z : τ d ρ with
    | ok ρ1 =>
      rw [z] at q'
      intro σ1 r1 l1 k1
      refine ⟨ρ1, F, ds, r1, t, ?_⟩
      have q2 : match τs ds ρ1 with
        | .ok ρ' => ∀ σ', Rep X.K F0 H0 m2 ρ' σ' F H → σ'.length = σ.length → (∀ j, j ∉ is ++ is2 → σ'[j]? = σ[j]?) → Q σ' H
        | _ => False := q'
      cases z2 : τs ds ρ1 with
      | ok ρ2 =>
        rw [z2] at q2
        intro σ2 r2 l2 k2
        exact q2 σ2 r2 (l2.trans l1) fun j hj => (k2 j fun w => hj (List.mem_append_right _ w)).trans (k1 j fun w => hj (List.mem_append_left _ w))
      | ex x => rw [z2] at q2; exact q2.elim
      | st => rw [z2] at q2; exact q2.elim
    | ex x => rw [z] at q'; exact q'.elim
    | st => rw [z] at q'; exact q'.elim
def τTup (n : Nat) (τs : List D → Rho → R Rho) : D → Rho → R Rho := fun d ρ => match d with
  | .tup ds => if ds.length = n then τs ds ρ else .st
  | _ => .st
theorem dg_tup {m' : List Bool} {is : List Nat} {τs : List D → Rho → R Rho} {k : Nat} {n : Nat} (hc : X.calm = true) (h : DGs X F0 H0 m m' is es τs)
    (hn : (assignEach es X.env).length = n := by rfl) (hst : (assignEach es X.env).findIdx? (·.1) = none := by rfl) : DG X F0 H0 m m' is (.Tuple es k pos) (τTup n τs) := by
  refine pg_imp (pg_tup hc h hn hst) fun v σ H Q ⟨ρ, F, d, r, i, q⟩ => ?_
  cases d with
  | tup ds =>
    obtain ⟨a, xs, rfl, hp, l⟩ := i.tup_inv
    have q' : match (if ds.length = n then τs ds ρ else .st) with
      | .ok ρ' => ∀ σ', Rep X.K F0 H0 m' ρ' σ' F H → σ'.length = σ.length → (∀ j, j ∉ is → σ'[j]? = σ[j]?) → Q σ' H
      | _ => False := q
    by_cases hd : ds.length = n
    · rw [if_pos hd] at q'
      exact ⟨a, xs, rfl, sameT r.fh hp, l.1.trans hd, ρ, F, ds, r, l, q'⟩
    · rw [if_neg hd] at q'
      exact q'.elim
  | _ => exact q.elim

/-! ### what is walked -/
/-- the iterator J yields these -/
def Yl (K : PySem.W.Frag) (J : It) (items : List D) (F : Hp) : Prop := ∀ (i : Nat) (F1 H1 : Hp), Same F F1 → Same F1 H1 →
  (i < items.length → J.go i H1 ∧ ∀ x H2, J.yld i H1 x H2 → ∃ F2 d, items[i]? = some d ∧ Ext F1 H1 F2 H2 ∧ Is K F2 x d) ∧ (items.length ≤ i → J.stop i H1)
def tSemI (K : PySem.W.Frag) (F0 : Bs) (H0 : Hp) (m : List Bool) (W : WX) (g : Rho → R (List D)) : TI := fun σ H Q => ∃ ρ F, Rep K F0 H0 m ρ σ F H ∧ match g ρ with
  | .ok items => ∀ J F' H', Ext F H F' H' → Yl K J items F' → Q J H'
  | .ex x => ∀ cls od F' H', Ext F H F' H' → IsX K F' x cls od → W cls od σ H'
  | .st => False
abbrev DI (X : Cx) (F0 : Bs) (H0 : Hp) (m : List Bool) (W : WX) (tg e : Expr) (g : Rho → R (List D)) : Prop := PI X tg e (tSemI X.K F0 H0 m W g)
theorem pi_imp {tg e : Expr} {t t' : TI} (h : PI X tg e t) (f : ∀ σ H Q, t' σ H Q → t σ H Q) : PI X tg e t' := ⟨fun pins s σ H Q I q => h.run pins s σ H Q I (f σ H Q q)⟩
theorem pi_or2 {tg e : Expr} {t t' : TI} (h : PI X tg e t) (h' : PI X tg e t') : PI X tg e (fun σ H Q => t σ H Q ∨ t' σ H Q) := ⟨fun pins s σ H Q I q => q.elim (h.run pins s σ H Q I) (h'.run pins s σ H Q I)⟩
theorem yl_list {K : PySem.W.Frag} {a : Addr} {xs : List V} {ds : List D} {F : Hp} (h : SqL K F a xs) (l : IsL K F xs ds) : Yl K (Itl K a) ds F := by
  intro i F1 H1 s1 s2
  have h1 : SqL K H1 a xs := (s1.trans s2).seq h
  refine ⟨fun hi => ?_, fun hi => ⟨xs, h1, by rw [l.1]; exact hi⟩⟩
  obtain ⟨x, hx, ix⟩ := l.at (i := i) (d := ds[i]) (by simp [hi])
  refine ⟨⟨xs, x, h1, hx⟩, fun y H2 ⟨e, k⟩ => ?_⟩
  subst e
  have e1 := k xs h1
  rw [hx] at e1
  cases e1
  exact ⟨F1, ds[i], by simp [hi], .refl s2, ix.mono s1⟩
theorem yl_tup {K : PySem.W.Frag} {a : Addr} {xs : List V} {ds : List D} {F : Hp} (h : SqT K F a xs) (l : IsL K F xs ds) : Yl K (Itt K a) ds F := by
  intro i F1 H1 s1 s2
  have h1 : SqT K H1 a xs := sameT (s1.trans s2) h
  refine ⟨fun hi => ?_, fun hi => ⟨xs, h1, by rw [l.1]; exact hi⟩⟩
  obtain ⟨x, hx, ix⟩ := l.at (i := i) (d := ds[i]) (by simp [hi])
  refine ⟨⟨xs, x, h1, hx⟩, fun y H2 ⟨e, k⟩ => ?_⟩
  subst e
  have e1 := k xs h1
  rw [hx] at e1
  cases e1
  exact ⟨F1, ds[i], by simp [hi], .refl s2, ix.mono s1⟩
def signs (s : Str) : List D := s.cps.toList.map fun c => .str ⟨#[c]⟩
theorem yl_str {K : PySem.W.Frag} {s : Str} {F : Hp} : Yl K (Its s) (signs s) F := by
  intro i F1 H1 s1 s2
  have hl : (signs s).length = s.cps.size := by unfold signs; rw [List.length_map, Array.length_toList]
  refine ⟨fun hi => ?_, fun hi => by rw [hl] at hi; exact hi⟩
  rw [hl] at hi
  refine ⟨hi, fun y H2 ⟨e, c, hc, k⟩ => ?_⟩
  subst e k
  exact ⟨F1, .str ⟨#[c]⟩, by unfold signs; rw [List.getElem?_map, Array.getElem?_toList, hc]; rfl, .refl s2, .str _⟩
def itemsD : D → R (List D)
  | .list ds => .ok ds
  | .tup ds => .ok ds
  | .str s => .ok (signs s)
  | _ => .st
def iSeq (g : Rho → R D) : Rho → R (List D) := fun ρ => (g ρ).bind itemsD
theorem di_seq {tg : Expr} (h : DE X F0 H0 m W e g) : DI X F0 H0 m W tg e (iSeq g) := by
  refine pi_imp (pi_or2 (pi_list h) (pi_or2 (pi_tup h) (pi_str h))) fun σ H Q ⟨ρ, F, r, q⟩ => ?_
  unfold iSeq at q
  cases z : g ρ with
  | ok d =>
    rw [z] at q
    cases d with
    | list ds =>
      refine .inl ⟨ρ, F, r, ?_⟩
      rw [z]
      intro v F' H' x i
      obtain ⟨a, xs, rfl, hp, l⟩ := i.list_inv
      exact ⟨a, rfl, ⟨xs, x.fh.seq hp⟩, q (Itl X.K a) F' H' x (yl_list hp l)⟩
    | tup ds =>
      refine .inr (.inl ⟨ρ, F, r, ?_⟩)
      rw [z]
      intro v F' H' x i
      obtain ⟨a, xs, rfl, hp, l⟩ := i.tup_inv
      exact ⟨a, rfl, ⟨xs, sameT x.fh hp⟩, q (Itt X.K a) F' H' x (yl_tup hp l)⟩
    | str s =>
      refine .inr (.inr ⟨ρ, F, r, ?_⟩)
      rw [z]
      intro v F' H' x i
      cases i
      exact ⟨s, rfl, q (Its s) F' H' x yl_str⟩
    | _ => exact q.elim
  | ex x =>
    rw [z] at q
    refine .inl ⟨ρ, F, r, ?_⟩
    rw [z]
    exact q
  | st =>
    rw [z] at q
    exact q.elim
def rngL (lo : Int) (n : Nat) : List D := (List.range n).map fun (k : Nat) => .int (lo + k)
theorem yl_range {K : PySem.W.Frag} {lo : Int} {n : Nat} {F : Hp} : Yl K (Itr lo n) (rngL lo n) F := by
  intro i F1 H1 s1 s2
  have hl : (rngL lo n).length = n := by unfold rngL; simp
  refine ⟨fun hi => ?_, fun hi => by rw [hl] at hi; exact hi⟩
  rw [hl] at hi
  refine ⟨hi, fun y H2 ⟨e, k⟩ => ?_⟩
  subst e k
  refine ⟨F1, .int (lo + i), ?_, .refl s2, .int _⟩
  unfold rngL
  rw [List.getElem?_map, List.getElem?_range hi]
  rfl
def small62 (i : Int) : Bool := decide (-(2 ^ 62) ≤ i) && decide (i < 2 ^ 62)
def afterI (K : PySem.W.Frag) (W : WX) (σ : L2.St) (F H : Hp) (r : R (List D)) (Q : It → Hp → Prop) : Prop := match r with
  | .ok items => ∀ J F' H', Ext F H F' H' → Yl K J items F' → Q J H'
  | .ex x => ∀ cls od F' H', Ext F H F' H' → IsX K F' x cls od → W cls od σ H'
  | .st => False
theorem afterI.ext {K : PySem.W.Frag} {σ : L2.St} {F H F' H' : Hp} {Q : It → Hp → Prop} {r : R (List D)} (h : afterI K W σ F H r Q) (x : Ext F H F' H') : afterI K W σ F' H' r Q := by
  cases r with
  | ok d => exact fun J F2 H2 y i => h J F2 H2 (x.trans y) i
  | ex e => exact fun cls od F2 H2 y i => h cls od F2 H2 (x.trans y) i
  | st => exact h
/-- arguments, then what is walked -/
theorem semA_I {K : PySem.W.Frag} {σ : L2.St} {F H : Hp} {ρ : Rho} {f : List D → R (List D)} {Q : It → Hp → Prop} {Φ : List V → Hp → Prop} (r : Rep K F0 H0 m ρ σ F H) (h : afterI K W σ F H ((t ρ).bind f) Q)
    (k : ∀ ds vs F' H', Ext F H F' H' → IsL K F' vs ds → Rep K F0 H0 m ρ σ F' H' → afterI K W σ F' H' (f ds) Q → Φ vs H') : tSemA K F0 H0 m W t σ H Φ := by
  refine ⟨ρ, F, r, ?_⟩
  cases e : t ρ with
  | ok d =>
    rw [e] at h
    exact fun vs F' H' x i => k d vs F' H' x i (r.ext x) (afterI.ext h x)
  | ex x =>
    rw [e] at h
    exact h
  | st =>
    rw [e] at h
    exact h
def iA (f : List D → R (List D)) (t : Rho → R (List D)) : Rho → R (List D) := fun ρ => (t ρ).bind f
def rangeD1 : List D → R (List D)
  | [.int j] => if small62 j = true then .ok (rngL 0 j.toNat) else .st
  | _ => .st
def rangeD2 : List D → R (List D)
  | [.int i, .int j] => if (small62 i && small62 j) = true then .ok (rngL i (j - i).toNat) else .st
  | _ => .st
theorem di_range1 {tg : Expr} {p : Pos} (hm : X.mg "range" = none) (ha : DA X F0 H0 m W [a] t) (hg : Gl X "range" := by rfl) (hs : starEach [a] X.env = [(false, eval a X.env)] := by rfl) : DI X F0 H0 m W tg (.Call (.Name "range" p) [a] [] pos) (iA rangeD1 t) := by
  refine pi_imp (pi_range1 hg hm ha hs) fun σ H Q ⟨ρ, F, r, q⟩ => semA_I (f := rangeD1) r q fun ds vs F1 H1 _ l r1 q1 => ?_
  match ds, l, q1 with
  | [.int j], l, q1 =>
    obtain ⟨v, rfl, i⟩ := one_of l
    cases i
    have q' : afterI X.K W σ F1 H1 (if small62 j = true then .ok (rngL 0 j.toNat) else .st) Q := q1
    by_cases hj : small62 j = true
    · rw [if_pos hj] at q'
      simp only [small62, Bool.and_eq_true, decide_eq_true_eq] at hj
      exact ⟨j, rfl, hj.1, hj.2, q' _ F1 H1 (.refl r1.fh) yl_range⟩
    · rw [if_neg hj] at q'
      exact q'.elim
theorem di_range2 {tg : Expr} {p : Pos} (hm : X.mg "range" = none) (ha : DA X F0 H0 m W [a, b] t) (hg : Gl X "range" := by rfl) (hs : starEach [a, b] X.env = [(false, eval a X.env), (false, eval b X.env)] := by rfl) (hs2 : starEach [b] X.env = [(false, eval b X.env)] := by rfl) :
    DI X F0 H0 m W tg (.Call (.Name "range" p) [a, b] [] pos) (iA rangeD2 t) := by
  refine pi_imp (pi_range2 hg hm ha hs hs2) fun σ H Q ⟨ρ, F, r, q⟩ => semA_I (f := rangeD2) r q fun ds vs F1 H1 _ l r1 q1 => ?_
  match ds, l, q1 with
  | [.int i, .int j], l, q1 =>
    obtain ⟨v, u, rfl, z1, z2⟩ := two_of l
    cases z1
    cases z2
    have q' : afterI X.K W σ F1 H1 (if (small62 i && small62 j) = true then .ok (rngL i (j - i).toNat) else .st) Q := q1
    by_cases hj : (small62 i && small62 j) = true
    · rw [if_pos hj] at q'
      simp only [small62, Bool.and_eq_true, decide_eq_true_eq] at hj
      exact ⟨i, j, rfl, ⟨hj.1.1, hj.1.2, hj.2.1, hj.2.2⟩, q' _ F1 H1 (.refl r1.fh) yl_range⟩
    · rw [if_neg hj] at q'
      exact q'.elim
/-- zip of two lists -/
def zipL : List D → List D → List D
  | a :: as, b :: bs => .tup [a, b] :: zipL as bs
  | _, _ => []
theorem zipL_at : ∀ (as bs : List D) (i : Nat), (zipL as bs)[i]? = (match as[i]?, bs[i]? with | some a, some b => some (.tup [a, b]) | _, _ => none)
  | [], bs, i => by cases bs <;> simp [zipL]
  | a :: as, [], i => by simp [zipL]
  | a :: as, b :: bs, 0 => rfl
  | a :: as, b :: bs, i + 1 => by
    show (zipL as bs)[i]? = _
    rw [zipL_at as bs i]
    rfl
theorem zipL_len : ∀ (as bs : List D), (zipL as bs).length = min as.length bs.length
  | [], bs => by cases bs <;> simp [zipL]
  | a :: as, [] => by simp [zipL]
  | a :: as, b :: bs => by
    show (zipL as bs).length + 1 = _
    rw [zipL_len as bs]
    simp only [List.length_cons]
    omega
def zipD : List D → R (List D)
  | [.list as, .list bs] => .ok (zipL as bs)
  | _ => .st
theorem sizeLine_2 : (2 : Nat) ≤ sizeLine := by rw [sizeLine_eq]; decide
theorem yl_zip {K : PySem.W.Frag} {a b : Addr} {xs ys : List V} {as bs : List D} {F : Hp} (h : SqL K F a xs) (l : IsL K F xs as) (h' : SqL K F b ys) (l' : IsL K F ys bs) : Yl K (Itz K a b) (zipL as bs) F := by
  intro i F1 H1 s1 s2
  have h1 : SqL K H1 a xs := (s1.trans s2).seq h
  have h2 : SqL K H1 b ys := (s1.trans s2).seq h'
  rw [zipL_len]
  refine ⟨fun hi => ?_, fun hi => ⟨xs, ys, h1, h2, by have := l.1; have := l'.1; omega⟩⟩
  obtain ⟨x, hx, ix⟩ := l.at (i := i) (d := as[i]'(by omega)) (List.getElem?_eq_getElem _)
  obtain ⟨y, hy, iy⟩ := l'.at (i := i) (d := bs[i]'(by omega)) (List.getElem?_eq_getElem _)
  refine ⟨⟨xs, ys, x, y, h1, h2, hx, hy⟩, fun v H2 ⟨T, x', y', e, hT, e2, k1, k2⟩ => ?_⟩
  subst e e2
  have e3 := k1 xs h1
  rw [hx] at e3
  cases e3
  have e4 := k2 ys h2
  rw [hy] at e4
  cases e4
  have xe := Ext.laid (o := .tup [x, y]) s2 hT
  refine ⟨_, .tup [as[i]'(by omega), bs[i]'(by omega)], ?_, xe, is_tup (.of upd_same) (IsL.cons ((ix.mono s1).mono xe.ff) (IsL.cons ((iy.mono s1).mono xe.ff) .nil))⟩
  rw [zipL_at, List.getElem?_eq_getElem (by omega), List.getElem?_eq_getElem (by omega)]
theorem di_zip {p tpos : Pos} {elts : List Expr} {kk : Nat} (hm : X.mg "zip" = none) (ha : DA X F0 H0 m W [a, b] t) (hg : Gl X "zip" := by rfl)
    (hs : starEach [a, b] X.env = (false, eval a X.env) :: starEach [b] X.env := by rfl) (hpl : (backTo pos (starEach [b] X.env)).any (·.1) = false := by rfl) : DI X F0 H0 m W (.Tuple elts kk tpos) (.Call (.Name "zip" p) [a, b] [] pos) (iA zipD t) := by
  refine pi_imp (pi_zip hg hm ha hs hpl) fun σ H Q ⟨ρ, F, r, q⟩ => semA_I (f := zipD) r q fun ds vs F1 H1 _ l r1 q1 => ?_
  match ds, l, q1 with
  | [.list as, .list bs], l, q1 =>
    obtain ⟨v, u, rfl, z1, z2⟩ := two_of l
    obtain ⟨a1, xs, rfl, h1, l1⟩ := z1.list_inv
    obtain ⟨b1, ys, rfl, h2, l2⟩ := z2.list_inv
    exact ⟨a1, b1, xs, ys, rfl, r1.fh.seq h1, r1.fh.seq h2, q1 _ F1 H1 (.refl r1.fh) (yl_zip h1 l1 h2 l2)⟩
/-- enumerate of a list -/
def enumL : Nat → List D → List D
  | _, [] => []
  | k, d :: ds => .tup [.int k, d] :: enumL (k + 1) ds
theorem enumL_at : ∀ (ds : List D) (k i : Nat), (enumL k ds)[i]? = (ds[i]?).map fun d => .tup [.int ((k + i : Nat) : Int), d]
  | [], k, i => by simp [enumL]
  | d :: ds, k, 0 => rfl
  | d :: ds, k, i + 1 => by
    show (enumL (k + 1) ds)[i]? = _
    rw [enumL_at ds (k + 1) i, show k + 1 + i = k + (i + 1) by omega]
    rfl
theorem enumL_len : ∀ (ds : List D) (k : Nat), (enumL k ds).length = ds.length
  | [], k => rfl
  | d :: ds, k => by
    show (enumL (k + 1) ds).length + 1 = _
    rw [enumL_len ds (k + 1)]
    rfl
def enumD : List D → R (List D)
  | [.list ds] => .ok (enumL 0 ds)
  | _ => .st
theorem yl_enum {K : PySem.W.Frag} {a : Addr} {xs : List V} {ds : List D} {F : Hp} (h : SqL K F a xs) (l : IsL K F xs ds) : Yl K (Ite K a) (enumL 0 ds) F := by
  intro i F1 H1 s1 s2
  have h1 : SqL K H1 a xs := (s1.trans s2).seq h
  rw [enumL_len]
  refine ⟨fun hi => ?_, fun hi => ⟨xs, h1, by have := l.1; omega⟩⟩
  obtain ⟨x, hx, ix⟩ := l.at (i := i) (d := ds[i]'(by omega)) (List.getElem?_eq_getElem _)
  refine ⟨⟨xs, x, h1, hx⟩, fun v H2 y => ?_⟩
  obtain ⟨T, x', e, hT, e2, k1⟩ := y
  subst e e2
  have e3 := k1 xs h1
  rw [hx] at e3
  cases e3
  have xe := Ext.laid (o := .tup [.int (i : Nat), x]) s2 hT
  refine ⟨_, .tup [.int (i : Nat), ds[i]'(by omega)], ?_, xe, is_tup (.of upd_same) (IsL.cons (.int _) (IsL.cons ((ix.mono s1).mono xe.ff) .nil))⟩
  rw [enumL_at, List.getElem?_eq_getElem (by omega)]
  simp
theorem di_enum {p tpos : Pos} {elts : List Expr} {kk : Nat} (hm : X.mg "enumerate" = none) (ha : DA X F0 H0 m W [a] t) (hg : Gl X "enumerate" := by rfl)
    (hs : starEach [a] X.env = [(false, eval a X.env)] := by rfl) : DI X F0 H0 m W (.Tuple elts kk tpos) (.Call (.Name "enumerate" p) [a] [] pos) (iA enumD t) := by
  refine pi_imp (pi_enum hg hm ha hs) fun σ H Q ⟨ρ, F, r, q⟩ => semA_I (f := enumD) r q fun ds vs F1 H1 _ l r1 q1 => ?_
  match ds, l, q1 with
  | [.list as], l, q1 =>
    obtain ⟨v, rfl, z1⟩ := one_of l
    obtain ⟨a1, xs, rfl, h1, l1⟩ := z1.list_inv
    exact ⟨a1, xs, rfl, r1.fh.seq h1, q1 _ F1 H1 (.refl r1.fh) (yl_enum h1 l1)⟩
end
end Pd

/-! Pd6: comprehensions, methods of built-ins, calls -/
namespace Pd
open PySem PySem.Spec PyProof.Rows L2
def noX {α : Type} : R α → R α
  | .ok a => .ok a
  | _ => .st
def wipeR (ρ : Rho) : List Nat → Rho
  | [] => ρ
  | v :: vs => (wipeR ρ vs).set v none
/-- one after another: target, test, element -/
def lcR (τ : D → Rho → R Rho) (p : Rho → R Bool) (ge : Rho → R D) (ρ : Rho) : List D → R (List D)
  | [] => .ok []
  | d :: ds => (τ d ρ).bind fun ρ1 => (p ρ1).bind fun k => if k = true then (ge ρ1).bind fun y => (lcR τ p ge ρ ds).bind fun ys => .ok (y :: ys) else lcR τ p ge ρ ds
def gLc (gi : Rho → R (List D)) (vs : List Nat) (τ : D → Rho → R Rho) (p : Rho → R Bool) (ge : Rho → R D) : Rho → R D := fun ρ => (gi ρ).bind fun items =>
  if items.length ≤ sizeLine then (noX (lcR τ p ge (wipeR ρ vs) items)).bind fun ys => .ok (.list ys) else .st
def W0 : WX := fun _ _ _ _ => False
def bYes : Rho → R Bool := fun _ => .ok true
theorem Rep.wipe1 {K : PySem.W.Frag} {F0 : Bs} {H0 F H : Hp} {m : List Bool} {ρ : Rho} {σ : L2.St} (r : Rep K F0 H0 m ρ σ F H) (i : Nat) (hi : F0.ok i) : Rep K F0 H0 m (ρ.set i none) (σ.set i none) F H where
  len := by rw [List.length_set, List.length_set, r.len]
  fh := r.fh
  f0 := r.f0
  h0 := r.h0
  new := r.new
  val := fun j e a b => by
    rcases getElem?_set_cases a with ⟨_, z, _⟩ | ⟨hj, z⟩
    · cases z
    · rw [List.getElem?_set_ne (Ne.symm hj)]
      exact r.val j e z b
  own := fun j e a b => by
    rcases getElem?_set_cases a with ⟨_, z, _⟩ | ⟨hj, z⟩
    · cases z
    · rw [List.getElem?_set_ne (Ne.symm hj)]
      exact r.own j e z b
  apart := fun j k p d1 e1 hjk a b c c' q => by
    rcases getElem?_set_cases c with ⟨_, z, _⟩ | ⟨hj, z⟩
    · cases z
    · rcases getElem?_set_cases c' with ⟨_, z', _⟩ | ⟨hk, z'⟩
      · cases z'
      · rw [List.getElem?_set_ne (Ne.symm hj)] at q
        rw [List.getElem?_set_ne (Ne.symm hk)]
        exact r.apart j k p d1 e1 hjk a b z z' q
  bor := fun b hb => by
    obtain ⟨h1, h2, h3, h4⟩ := r.bor b hb
    have ne := hi b hb
    rw [List.getElem?_set_ne (Ne.symm ne), List.getElem?_set_ne (Ne.symm ne)]
    exact ⟨h1, h2, h3, h4⟩
theorem ok_all {B : Bs} {vs : List Nat} (h : (vs.all fun i => B.bor.all fun b => !(b.1 == i)) = true) : ∀ v ∈ vs, B.ok v := fun v hv => Bs.ok_of (List.all_eq_true.mp h v hv)
theorem Rep.wipe {K : PySem.W.Frag} {F0 : Bs} {H0 F H : Hp} {m : List Bool} {ρ : Rho} {σ : L2.St} (r : Rep K F0 H0 m ρ σ F H) : ∀ vs : List Nat, (∀ v ∈ vs, F0.ok v) → Rep K F0 H0 m (wipeR ρ vs) (L2.wipe σ vs) F H
  | [], _ => r
  | v :: vs, h => (r.wipe vs fun u hu => h u (by simp [hu])).wipe1 v (h v (by simp))
theorem wipe_same {σ σ2 : L2.St} (l : σ2.length = σ.length) : ∀ {vs : List Nat}, (∀ j, j ∉ vs → σ2[j]? = (L2.wipe σ vs)[j]?) → L2.wipe σ2 vs = L2.wipe σ vs := by
  intro vs h
  apply List.ext_getElem?
  intro j
  have key : ∀ (us : List Nat) (s : L2.St), j ∈ us → (L2.wipe s us)[j]? = if j < s.length then some none else none := by
    intro us s
    induction us with
    | nil => intro hj; cases hj
    | cons u us ih =>
      intro hj
      unfold L2.wipe
      by_cases e : j = u
      · subst e
        by_cases hl : j < s.length
        · rw [if_pos hl, List.getElem?_set_self (by rw [wipe_length]; exact hl)]
        · rw [if_neg hl, List.getElem?_eq_none (by rw [List.length_set, wipe_length]; omega)]
      · rw [List.getElem?_set_ne (Ne.symm e)]
        exact ih ((List.mem_cons.mp hj).resolve_left e)
  have key2 : ∀ (us : List Nat) (s : L2.St), j ∉ us → (L2.wipe s us)[j]? = s[j]? := by
    intro us s
    induction us with
    | nil => intro _; rfl
    | cons u us ih =>
      intro hj
      unfold L2.wipe
      rw [List.getElem?_set_ne (fun e => hj (by simp [e]))]
      exact ih fun z => hj (List.mem_cons_of_mem _ z)
  by_cases hj : j ∈ vs
  · rw [key vs σ2 hj, key vs σ hj, l]
  · rw [key2 vs σ2 hj, h j hj]
section
variable {X : Cx} {F0 : Bs} {H0 : Hp} {m m' : List Bool} {W : WX} {pos : Pos} {elt tg iter : Expr} {ifs : List Expr} {gi : Rho → R (List D)} {τ : D → Rho → R Rho} {p : Rho → R Bool} {ge : Rho → R D}
abbrev DTs (X : Cx) (F0 : Bs) (H0 : Hp) (m : List Bool) (W : WX) (es : List Expr) (g : Rho → R Bool) : Prop := PTs X es (tSemT X.K F0 H0 m W g)
theorem pts_imp {es : List Expr} {t t' : TT} (h : PTs X es t) (f : ∀ σ H Q, t' σ H Q → t σ H Q) : PTs X es t' := ⟨fun pins s σ H Q I q => h.run pins s σ H Q I (f σ H Q q)⟩
theorem dts_nil : DTs X F0 H0 m W [] bYes := pts_imp pts_nil fun σ H Q ⟨ρ, F, r, h⟩ => h F H (.refl r.fh)
theorem dts_one {c : Expr} (h : DT X F0 H0 m W c p) : DTs X F0 H0 m W [c] p := pts_one h
theorem lc_sem {K : PySem.W.Frag} {is vs : List Nat} (hw : ∀ v ∈ vs, F0.ok v) (hv : ∀ i ∈ is, i ∈ vs) (σ : L2.St) (H : Hp) (Q : VK) (h : tSemN K F0 H0 m W (gLc gi vs τ p ge) σ H Q) :
    tLc (tSemI K F0 H0 m W gi) (tSemG K F0 H0 m m' is τ) (tSemT K F0 H0 m' W0 p) (tSem K F0 H0 m' W0 ge) vs σ H Q := by
  obtain ⟨ρ, F, r, h⟩ := h
  unfold gLc at h
  refine ⟨ρ, F, r, ?_⟩
  cases z : gi ρ with
  | ex x =>
    rw [z] at h
    exact h
  | st =>
    rw [z] at h
    exact h.elim
  | ok items =>
    rw [z] at h
    intro J F1 H1 x1 y1 Dn hD
    have h1 : afterN K W σ F H (if items.length ≤ sizeLine then (noX (lcR τ p ge (wipeR ρ vs) items)).bind fun ys => .ok (.list ys) else .st) Q := h
    by_cases hz : items.length ≤ sizeLine
    · rw [if_pos hz] at h1
      cases e : lcR τ p ge (wipeR ρ vs) items with
      | ex x => rw [e] at h1; exact h1.elim
      | st => rw [e] at h1; exact h1.elim
      | ok ys =>
        rw [e] at h1
        have r1 := r.ext x1
        -- the invariant
        refine ⟨fun i mm Hc => ∃ Fc acc done rest, Ext F1 H1 Fc Hc ∧ Fc Dn = none ∧ Hc Dn = some (.lst acc) ∧ IsL K Fc acc done ∧ done.length ≤ i ∧ lcR τ p ge (wipeR ρ vs) (items.drop i) = .ok rest ∧ done ++ rest = ys ∧ i ≤ items.length ∧ mm = items.length - i,
          ⟨items.length, F1, [], [], ys, .laid' x1.fh hD, x1.fh.free hD, upd_same, .nil, Nat.le_refl _, e, rfl, Nat.zero_le _, rfl⟩, ?_⟩
        rintro i mm Hc ⟨Fc, acc, done, rest, xc, fD, hDc, ic, dl, ec, ey, hi, rfl⟩
        have x2 := x1.trans xc
        have yc := y1 i Fc Hc xc.ff xc.fh
        by_cases hlt : i < items.length
        · obtain ⟨go, yld⟩ := yc.1 hlt
          refine .inr ⟨go, fun Hn => ∃ Fc acc done rest, Ext F1 H1 Fc Hn ∧ Fc Dn = none ∧ Hn Dn = some (.lst acc) ∧ IsL K Fc acc done ∧ done.length ≤ i + 1 ∧ lcR τ p ge (wipeR ρ vs) (items.drop (i + 1)) = .ok rest ∧ done ++ rest = ys, fun Hn ⟨Fc, acc, done, rest, q1, q2, q3, q4, q5, q6, q7⟩ =>
            ⟨items.length - (i + 1), by omega, Fc, acc, done, rest, q1, q2, q3, q4, q5, q6, q7, hlt, rfl⟩, fun x Hy y => ?_⟩
          obtain ⟨F2, d, hd, xe, ix⟩ := yld x Hy y
          have ed : items.drop i = d :: items.drop (i + 1) := by
            rw [List.drop_eq_getElem_cons hlt]
            rw [List.getElem?_eq_getElem hlt] at hd
            rw [Option.some.inj hd]
          rw [ed] at ec
          have fD2 : F2 Dn = none := xe.nw Dn (by rw [hDc]; simp) fD
          have hD2 : Hy Dn = some (.lst acc) := xe.hh _ _ hDc
          have r2 := ((r1.ext xc).ext xe).wipe vs hw
          refine ⟨wipeR ρ vs, F2, d, r2, ix, ?_⟩
          have ec' : ((τ d (wipeR ρ vs)).bind fun ρ1 => (p ρ1).bind fun k => if k = true then (ge ρ1).bind fun y => (lcR τ p ge (wipeR ρ vs) (items.drop (i + 1))).bind fun ys => .ok (y :: ys) else lcR τ p ge (wipeR ρ vs) (items.drop (i + 1))) = .ok rest := ec
          cases e1 : τ d (wipeR ρ vs) with
          | ex x => rw [e1] at ec'; cases ec'
          | st => rw [e1] at ec'; cases ec'
          | ok ρ1 =>
            rw [e1] at ec'
            intro σ1 r3 l3 k3
            refine ⟨wipe_same (by rw [l3, wipe_length]) fun j hj => k3 j fun z => hj (hv j z), ρ1, F2, r3, ?_⟩
            have ec2 : ((p ρ1).bind fun k => if k = true then (ge ρ1).bind fun y => (lcR τ p ge (wipeR ρ vs) (items.drop (i + 1))).bind fun ys => .ok (y :: ys) else lcR τ p ge (wipeR ρ vs) (items.drop (i + 1))) = .ok rest := ec'
            cases e2 : p ρ1 with
            | ex x => rw [e2] at ec2; cases ec2
            | st => rw [e2] at ec2; cases ec2
            | ok k =>
              rw [e2] at ec2
              intro F3 H3 x3
              have x4 := (xc.trans xe).trans x3
              have fD3 : F3 Dn = none := x3.nw Dn (by rw [hD2]; simp) fD2
              have hD3 : H3 Dn = some (.lst acc) := x3.hh _ _ hD2
              cases k with
              | false =>
                refine iteF ⟨F3, acc, done, rest, x4, fD3, hD3, (ic.mono xe.ff).mono x3.ff, by omega, ec2, ey⟩
              | true =>
                refine iteT ⟨ρ1, F3, r3.ext x3, ?_⟩
                have ec3 : ((ge ρ1).bind fun y => (lcR τ p ge (wipeR ρ vs) (items.drop (i + 1))).bind fun ys => .ok (y :: ys)) = .ok rest := ec2
                cases e3 : ge ρ1 with
                | ex x => rw [e3] at ec3; cases ec3
                | st => rw [e3] at ec3; cases ec3
                | ok y =>
                  rw [e3] at ec3
                  intro v F4 H4 x5 iv
                  have fD4 : F4 Dn = none := x5.nw Dn (by rw [hD3]; simp) fD3
                  have hD4 : H4 Dn = some (.lst acc) := x5.hh _ _ hD3
                  have i4 := ((ic.mono xe.ff).mono x3.ff).mono x5.ff
                  have ec4 : ((lcR τ p ge (wipeR ρ vs) (items.drop (i + 1))).bind fun ys => R.ok (y :: ys)) = .ok rest := ec3
                  cases e4 : lcR τ p ge (wipeR ρ vs) (items.drop (i + 1)) with
                  | ex x => rw [e4] at ec4; cases ec4
                  | st => rw [e4] at ec4; cases ec4
                  | ok ys2 =>
                    rw [e4] at ec4
                    injection ec4 with ec4
                    refine ⟨acc, hD4, by have := ic.1; omega, F4, acc ++ [v], done ++ [y], ys2, ?_, fD4, upd_same, i4.snoc iv, by simp; omega, rfl, ?_⟩
                    · have x6 := x4.trans x5
                      refine ⟨x6.ff, fun b u eb => ?_, fun b u eb => ?_, x6.nw⟩
                      · rw [upd_ne (ne_of_none eb hD)]
                        exact x6.hh b u eb
                      · rw [upd_ne (ne_of_none eb fD4)]
                        exact x6.fh b u eb
                    · rw [List.append_assoc, List.singleton_append, ec4]
                      exact ey
        · have ei : i = items.length := by omega
          subst ei
          rw [List.drop_length] at ec
          have er : rest = [] := by
            have : (R.ok [] : R (List D)) = .ok rest := ec
            injection this with this
            exact this.symm
          subst er
          rw [List.append_nil] at ey
          subst ey
          refine .inl ⟨yc.2 (Nat.le_refl _), h1 Dn (.lst acc) Fc Hc x2 hDc ic fD ?_⟩
          exact x1.hh.free hD
    · rw [if_neg hz] at h1
      exact h1.elim
theorem n_lc {scope : Scope} {own : List (Str × Nat)} {is : List Nat} (hc : X.calm = true) (hN : X.N.Nodup) (hi : DI X F0 H0 m W tg iter gi) (ok : blkC X.N X.env.scope scope own = true)
    (hg : ∀ (s : Shared) (H : Hp) (C : Addr) (cl : List (Str × Addr)) (fp : List Addr), DG (X.blk s H scope (compEnvC scope cl C X.env) fp) F0 H0 m m' is tg τ)
    (ht : ∀ (s : Shared) (H : Hp) (C : Addr) (cl : List (Str × Addr)) (fp : List Addr), DTs (X.blk s H scope (compEnvC scope cl C X.env) fp) F0 H0 m' W0 ifs p)
    (he : ∀ (s : Shared) (H : Hp) (C : Addr) (cl : List (Str × Addr)) (fp : List Addr), DE (X.blk s H scope (compEnvC scope cl C X.env) fp) F0 H0 m' W0 elt ge) (hv : ∀ i ∈ is, i ∈ own.map (·.2)) (hw : ((own.map (·.2)).all fun i => F0.bor.all fun b => !(b.1 == i)) = true := by rfl) (hs : ∀ x, foldedSetIterable iter X.env x = pure x := by intro _; rfl) :
    DN X F0 H0 m W (.ListComp elt [⟨tg, iter, ifs, 0⟩] scope pos) (gLc gi (own.map (·.2)) τ p ge) :=
  pe_imp (pe_lc hc hN hi (blkOk_by ok) hg ht he hs) fun σ H Q h => lc_sem (ok_all hw) hv σ H Q h
end

/-! ### methods of built-ins -/
section
variable {X : Cx} {F0 : Bs} {H0 : Hp} {m : List Bool} {W : WX} {pos : Pos} {o e : Expr} {es : List Expr} {go g : Rho → R D} {t : Rho → R (List D)}
def tyOk (T : String) : D → Bool
  | .str _ => decide (T = "str")
  | .list _ => decide (T = "list")
  | _ => false
theorem tyOk_V {K : PySem.W.Frag} {F H : Hp} {T : String} {v : V} {d : D} (s : Same F H) (i : Is K F v d) (h : tyOk T d = true) : tyV K T v H := by
  cases i with
  | str x => exact (show T = "str" from of_decide_eq_true h)
  | list hl l e => exact .inl ⟨of_decide_eq_true h, _, s.seq hl⟩
  | _ => cases h
def MetD (K : PySem.W.Frag) (f : D → List D → R D) (r : V → List V → Hp → VK → Prop) : Prop :=
  ∀ (W : WX) (σ : L2.St) (F H : Hp) (d : D) (v : V) (ds : List D) (vs : List V) (Q : VK), Same F H → Is K F v d → IsL K F vs ds → after K W σ F H (f d ds) Q → r v vs H Q
def gMt (T : String) (f : D → List D → R D) (go : Rho → R D) (t : Rho → R (List D)) : Rho → R D := fun ρ => (go ρ).bind fun d => if tyOk T d = true then (t ρ).bind fun ds => f d ds else .st
theorem d_met {T : String} {id : String} {name : Str} {apos cpos : Pos} {f : D → List D → R D} {r : V → List V → Hp → VK → Prop} (pa : PlainAttrs T) (slot : Slot T name id) (hty : typeOf (.builtin id) = pure (.type "method_descriptor")) (hm : MtR X id r) (od : MetD X.K f r) (ho : DE X F0 H0 m W o go) (ha : DA X F0 H0 m W (e :: es) t)
    (hbase : attributeBase o name X.env (eval o X.env) = eval o X.env := by rfl)
    (hfew : ((backTo cpos (starEach (e :: es) X.env)).all (fun x => !x.1) && (backToKw cpos (keywordEach [] X.env)).all (fun x => x.1.isSome)
      && decide ((e :: es).length + ([] : List Keyword).length + (if ([] : List Keyword).isEmpty then 0 else 1) < 30)) = true := by rfl)
    (hline : (apos.endLine == cpos.line) = true := by rfl) (hs : starEach (e :: es) X.env = (false, eval e X.env) :: starEach es X.env := by rfl) (hplain : (backTo cpos (starEach es X.env)).any (·.1) = false := by rfl) :
    DE X F0 H0 m W (.Call (.Attribute o name apos) (e :: es) [] cpos) (gMt T f go t) := by
  refine pe_imp (pe_bm pa slot hty hm ho ha hbase hfew hline hs hplain) fun σ H Q ⟨ρ, F, r, h⟩ => ?_
  refine sem_bind (k := fun d => if tyOk T d = true then (t ρ).bind fun ds => f d ds else .st) r h fun d v F1 H1 _ i1 r1 h1 => ?_
  by_cases ht : tyOk T d = true
  · rw [if_pos ht] at h1
    refine ⟨tyOk_V r1.fh i1 ht, semA_bind (k := fun ds => f d ds) r1 h1 fun ds vs F2 H2 x2 i2 r2 h2 => od W σ F2 H2 d v ds vs Q r2.fh (i1.mono x2.ff) i2 h2⟩
  · rw [if_neg ht] at h1
    exact h1.elim
def strsOf : List D → Option (List Str)
  | [] => some []
  | .str s :: r => (strsOf r).map (s :: ·)
  | _ :: _ => none
theorem strs_is {K : PySem.W.Frag} {F : Hp} : ∀ {ds : List D} {vs : List V} {ys : List Str}, IsL K F vs ds → strsOf ds = some ys → vs = ys.map V.str
  | [], vs, ys, l, h => by cases h; exact l.unnil
  | d :: ds, vs, ys, l, h => by
    obtain ⟨x, xr, rfl, i, t⟩ := l.uncons
    cases d with
    | str s =>
      cases i
      have h' : (strsOf ds).map (s :: ·) = some ys := h
      cases e : strsOf ds with
      | none => rw [e] at h'; cases h'
      | some zs =>
        rw [e] at h'
        cases h'
        rw [strs_is t e]
        rfl
    | _ => cases h
def joinOk (a : Str) (ys : List Str) : Bool := decide ((ys.map (·.length)).sum + ys.length * a.length ≤ 16777216)
def joinSeq (a : Str) (ds : List D) : R D := match strsOf ds with
  | some ys => if joinOk a ys = true then .ok (.str (Txt.join a ys)) else .st
  | none => .st
def joinD : D → List D → R D
  | .str a, [.list ds] => joinSeq a ds
  | .str a, [.tup ds] => joinSeq a ds
  | _, _ => .st
theorem o_join {K : PySem.W.Frag} : MetD K joinD (fun x xs H Q => ∃ a p, ∃ ys : List Str, x = .str a ∧ xs = [.ref p] ∧ (SqL K H p (ys.map V.str) ∨ SqT K H p (ys.map V.str)) ∧ (ys.map (·.length)).sum + ys.length * a.length ≤ 16777216 ∧ Q (.str (Txt.join a ys)) H) := by
  intro W σ F H d v ds vs Q s i l q
  cases d with
  | str a =>
    cases i
    match ds, l, q with
    | [.list es], l, q =>
      obtain ⟨v, rfl, i⟩ := one_of l
      obtain ⟨p, xs, rfl, h, t⟩ := i.list_inv
      have q' : after K W σ F H (match strsOf es with | some ys => if joinOk a ys = true then .ok (.str (Txt.join a ys)) else .st | none => .st) Q := q
      cases e : strsOf es with
      | none => rw [e] at q'; exact q'.elim
      | some ys =>
        rw [e] at q'
        have q2 : after K W σ F H (if joinOk a ys = true then .ok (.str (Txt.join a ys)) else .st) Q := q'
        by_cases hz : joinOk a ys = true
        · rw [if_pos hz] at q2
          have e2 := strs_is t e
          subst e2
          exact ⟨a, p, ys, rfl, rfl, .inl (s.seq h), of_decide_eq_true hz, after.now q2 s (.str _)⟩
        · rw [if_neg hz] at q2
          exact q2.elim
    | [.tup es], l, q =>
      obtain ⟨v, rfl, i⟩ := one_of l
      obtain ⟨p, xs, rfl, h, t⟩ := i.tup_inv
      have q' : after K W σ F H (match strsOf es with | some ys => if joinOk a ys = true then .ok (.str (Txt.join a ys)) else .st | none => .st) Q := q
      cases e : strsOf es with
      | none => rw [e] at q'; exact q'.elim
      | some ys =>
        rw [e] at q'
        have q2 : after K W σ F H (if joinOk a ys = true then .ok (.str (Txt.join a ys)) else .st) Q := q'
        by_cases hz : joinOk a ys = true
        · rw [if_pos hz] at q2
          have e2 := strs_is t e
          subst e2
          exact ⟨a, p, ys, rfl, rfl, .inr (sameT s h), of_decide_eq_true hz, after.now q2 s (.str _)⟩
        · rw [if_neg hz] at q2
          exact q2.elim
  | _ => exact q.elim

/-! ### a def called -/
def spD (K : PySem.W.Frag) (G : List D → R D) : Sp := fun vs H Q E => ∃ ds F, IsL K F vs ds ∧ Same F H ∧ match G ds with
  | .ok d => ∀ v F' H', Ext F H F' H' → Is K F' v d → Q v H'
  | .ex x => ∀ cls od F' H', Ext F H F' H' → IsX K F' x cls od → E cls od H'
  | .st => False
/-- .. that hands back a new object of its own -/
def spN (K : PySem.W.Frag) (G : List D → R D) : Sp := fun vs H Q E => ∃ ds F, IsL K F vs ds ∧ Same F H ∧ match G ds with
  | .ok d => ∀ p o F' H', Ext F H F' H' → H' p = some o → IsC K F' o d → F' p = none → H p = none → Q (.ref p) H'
  | .ex x => ∀ cls od F' H', Ext F H F' H' → IsX K F' x cls od → E cls od H'
  | .st => False
theorem spN_of {K : PySem.W.Frag} {G : List D → R D} {vs : List V} {H : Hp} {Q : VK} {E : XK} (h : spD K G vs H Q E) : spN K G vs H Q E := by
  obtain ⟨ds, F, l, s, h⟩ := h
  refine ⟨ds, F, l, s, ?_⟩
  cases z : G ds with
  | ok d =>
    rw [z] at h
    exact fun p o F' H' x e c f n => h (.ref p) (upd F' p o) H' (x.share e f n) (is_of_c upd_same (c.mono (same_upd f)))
  | ex x =>
    rw [z] at h
    exact h
  | st =>
    rw [z] at h
    exact h
variable {f : Addr} {fd : FuncData} {ps : List Str} {k : Nat} {x : Str} {p : Pos} {G : List D → R D}
theorem d_call (C : FnOk X.prog X.w X.K X.mg X.base (L2.CX X.prog X.w) k f fd ps (spD X.K G)) (hr : Room k X.A) (hm : X.mg x = some (.ref f)) (hk : PySem.W.keepIn X.K (.ref f) = true) (hb : Binds X.K fd ps []) (tk : Takes X W) (ha : DA X F0 H0 m W (e :: es) t) (hg : Gl X x := by rfl)
    (hdb : (x == ("__debug__" : Str)) = false := by decide) (he : starEach (e :: es) X.env = (false, eval e X.env) :: starEach es X.env := by rfl) (hpl : (backTo pos (starEach es X.env)).any (·.1) = false := by rfl) : DE X F0 H0 m W (.Call (.Name x p) (e :: es) [] pos) (gA G t) := by
  refine pe_imp (pe_callS C hr hg hm hk hb (fun σ => passAt tk σ) ha hdb he hpl) fun σ H Q ⟨ρ, F, r, h⟩ => ?_
  refine semA_bind (k := G) r h fun ds vs F1 H1 _ i1 r1 h1 => ⟨ds, F1, i1, r1.fh, ?_⟩
  cases z : G ds with
  | ok d => rw [z] at h1; exact h1
  | ex x => rw [z] at h1; exact h1
  | st => rw [z] at h1; exact h1
theorem n_call (C : FnOk X.prog X.w X.K X.mg X.base (L2.CX X.prog X.w) k f fd ps (spN X.K G)) (hr : Room k X.A) (hm : X.mg x = some (.ref f)) (hk : PySem.W.keepIn X.K (.ref f) = true) (hb : Binds X.K fd ps []) (tk : Takes X W) (ha : DA X F0 H0 m W (e :: es) t) (hg : Gl X x := by rfl)
    (hdb : (x == ("__debug__" : Str)) = false := by decide) (he : starEach (e :: es) X.env = (false, eval e X.env) :: starEach es X.env := by rfl) (hpl : (backTo pos (starEach es X.env)).any (·.1) = false := by rfl) : DN X F0 H0 m W (.Call (.Name x p) (e :: es) [] pos) (gA G t) := by
  refine pe_imp (pe_callS C hr hg hm hk hb (fun σ => passAt tk σ) ha hdb he hpl) fun σ H Q ⟨ρ, F, r, h⟩ => ?_
  refine semA_bindN (k := G) r h fun ds vs F1 H1 _ i1 r1 h1 => ⟨ds, F1, i1, r1.fh, ?_⟩
  cases z : G ds with
  | ok d => rw [z] at h1; exact h1
  | ex x => rw [z] at h1; exact h1
  | st => rw [z] at h1; exact h1
end
end Pd

/-! Pd7: statements, defs -/
namespace Pd
open PySem PySem.Spec PyProof.Rows L2
/-- what a statement comes to; rn: a new object of the frame's own is handed back -/
inductive S where
  | nx (ρ : Rho) | rt (d : D) | rn (d : D) | rm (d : D) (ρ : Rho) | bk (ρ : Rho) | ct (ρ : Rho) | ex (x : Ex) (ρ : Rho) | st
/-- the slots that are lent -/
def bmask (B : Bs) (n : Nat) : List Bool := match B.bor with
  | [] => []
  | _ => (List.range n).map fun i => B.bor.any fun b => b.1 == i
theorem bm_of {B : Bs} {n i : Nat} (h : (bmask B n)[i]? = some true) : ∃ b ∈ B.bor, b.1 = i := by
  unfold bmask at h
  split at h
  · simp at h
  · rw [List.getElem?_map] at h
    cases e : (List.range n)[i]? with
    | none => rw [e] at h; cases h
    | some k =>
      rw [e] at h
      obtain ⟨hk, e2⟩ := List.getElem?_eq_some_iff.mp e
      have ek : i = k := by simpa using e2
      subst ek
      have h2 : (B.bor.any fun b => b.1 == i) = true := Option.some.inj h
      obtain ⟨b, hb, e3⟩ := List.any_eq_true.mp h2
      exact ⟨b, hb, by simpa using e3⟩
theorem bm_to {B : Bs} {n : Nat} {b : Nat × Addr × Option (D × HO)} (hb : b ∈ B.bor) (hn : b.1 < n) : (bmask B n)[b.1]? = some true := by
  unfold bmask
  split
  · rename_i e
    rw [e] at hb
    cases hb
  · rw [List.getElem?_map, List.getElem?_range hn]
    show some (B.bor.any fun c => c.1 == b.1) = some true
    rw [List.any_eq_true.mpr ⟨b, hb, by simp⟩]
/-- all that the frame owns, but what is lent, is shared from now on -/
theorem Rep.freeze {K : PySem.W.Frag} {F0 : Bs} {H0 F H : Hp} {m : List Bool} {ρ : Rho} {σ : L2.St} (r : Rep K F0 H0 m ρ σ F H) : ∃ F', Rep K F0 H0 (bmask F0 ρ.length) ρ σ F' H ∧ Same F F' := by
  classical
  let O : Addr → Prop := fun p => ∃ (i : Nat) (d : D), ρ[i]? = some (some d) ∧ m[i]? = some true ∧ σ[i]? = some (some (.ref p)) ∧ (bmask F0 ρ.length)[i]? ≠ some true
  let F' : Hp := fun p => if O p then H p else F p
  have sF : Same F F' := fun b u e => by
    show (if O b then H b else F b) = some u
    by_cases h : O b
    · rw [if_pos h]; exact r.fh b u e
    · rw [if_neg h]; exact e
  have bm : ∀ i, (bmask F0 ρ.length)[i]? = some true → m[i]? = some true := fun i h => by
    obtain ⟨b, hb, e⟩ := bm_of h
    rw [← e]
    exact (r.bor b hb).2.1
  refine ⟨F', ⟨r.len, fun b u e => ?_, r.f0.trans sF, r.h0, fun p h f => ?_, fun i d a nb => ?_, fun i d a b => ?_, fun i j p d e hij a b c c' => r.apart i j p d e hij (bm i a) (bm j b) c c', fun b hb => ?_⟩, sF⟩
  · have e' : (if O b then H b else F b) = some u := e
    by_cases h : O b
    · rw [if_pos h] at e'; exact e'
    · rw [if_neg h] at e'; exact r.fh b u e'
  · show (if O p then H p else F p) = none
    by_cases ho : O p
    · obtain ⟨i, d, a, b, c, _⟩ := ho
      obtain ⟨q, o, e1, e2, e3, e4, e5⟩ := r.own i d a b
      rw [c] at e1
      cases e1
      exact absurd e5 h
    · rw [if_neg ho]; exact r.new p h f
  · by_cases b : m[i]? = some true
    · obtain ⟨p, o, e1, e2, e3, e4, e5⟩ := r.own i d a b
      refine ⟨.ref p, e1, is_of_c (o := o) ?_ (e3.mono sF)⟩
      show (if O p then H p else F p) = some o
      rw [if_pos ⟨i, d, a, b, e1, nb⟩]; exact e2
    · obtain ⟨v, e1, e2⟩ := r.val i d a b
      exact ⟨v, e1, e2.mono sF⟩
  · obtain ⟨p, o, e1, e2, e3, e4, e5⟩ := r.own i d a (bm i b)
    refine ⟨p, o, e1, e2, e3.mono sF, ?_, e5⟩
    show (if O p then H p else F p) = none
    have nO : ¬ O p := fun ⟨j, d', a', b', c', nb'⟩ => by
      by_cases hij : i = j
      · subst hij; exact nb' b
      · exact r.apart i j p d d' hij (bm i b) b' a a' e1 c'
    rw [if_neg nO]
    exact e4
  · obtain ⟨h1, h2, ⟨d, h3⟩, h4⟩ := r.bor b hb
    exact ⟨h1, bm_to hb (List.getElem?_eq_some_iff.mp h3).1, ⟨d, h3⟩, h4⟩
/-- all is shared, as if a def of its own began here -/
theorem Rep.all {K : PySem.W.Frag} {F0 : Bs} {H0 F H : Hp} {m : List Bool} {ρ : Rho} {σ : L2.St} (r : Rep K F0 H0 m ρ σ F H) : ∃ F', Rep K ⟨F', []⟩ H [] ρ σ F' H ∧ Same F F' := by
  classical
  let O : Addr → Prop := fun p => ∃ (i : Nat) (d : D), ρ[i]? = some (some d) ∧ m[i]? = some true ∧ σ[i]? = some (some (.ref p))
  let F' : Hp := fun p => if O p then H p else F p
  have sF : Same F F' := fun b u e => by
    show (if O b then H b else F b) = some u
    by_cases h : O b
    · rw [if_pos h]; exact r.fh b u e
    · rw [if_neg h]; exact e
  refine ⟨F', ⟨r.len, fun b u e => ?_, .refl _, .refl _, fun p h f => f, fun i d a _ => ?_, fun i d _ b => by simp at b, fun i j p d e _ a => by simp at a, fun b hb => nomatch hb⟩, sF⟩
  · have e' : (if O b then H b else F b) = some u := e
    by_cases h : O b
    · rw [if_pos h] at e'; exact e'
    · rw [if_neg h] at e'; exact r.fh b u e'
  · by_cases b : m[i]? = some true
    · obtain ⟨p, o, e1, e2, e3, e4, e5⟩ := r.own i d a b
      refine ⟨.ref p, e1, is_of_c (o := o) ?_ (e3.mono sF)⟩
      show (if O p then H p else F p) = some o
      rw [if_pos ⟨i, d, a, b, e1⟩]; exact e2
    · obtain ⟨v, e1, e2⟩ := r.val i d a b
      exact ⟨v, e1, e2.mono sF⟩
theorem Is.monoX {K : PySem.W.Frag} {F F' : Hp} {x : Ex} {cls : Value} {od : Option Addr} (h : IsX K F x cls od) (s : Same F F') : IsX K F' x cls od :=
  ⟨h.1, fun n => let ⟨d, vs, e, a, b⟩ := h.2.1 n; ⟨d, vs, e, s _ _ a, b.mono s⟩, h.2.2⟩
/-- what is lent for reading stands as it stood -/
def BorC (B : Bs) (F H : Hp) : Prop := ∀ b ∈ B.bor, ∀ d o, b.2.2 = some (d, o) → H b.2.1 = some o ∧ F b.2.1 = none
theorem Rep.borC {K : PySem.W.Frag} {F0 : Bs} {H0 F H : Hp} {m : List Bool} {ρ : Rho} {σ : L2.St} (r : Rep K F0 H0 m ρ σ F H) : BorC F0 F H := fun b hb d o e => by
  obtain ⟨h1, h2, h3, h4⟩ := r.bor b hb
  obtain ⟨e1, e2⟩ := h4 d o e
  obtain ⟨p, o', z1, z2, z3, z4, z5⟩ := r.own b.1 d e1 h2
  rw [h1] at z1
  cases z1
  exact ⟨e2, z4⟩
def afterS (K : PySem.W.Frag) (F0 : Bs) (H0 : Hp) (m' mL : List Bool) (W : WX) (Fb : Hp) (r : S) (E : Ends) : Prop := match r with
  | .nx ρ => ∀ σ F H, Rep K F0 H0 m' ρ σ F H → Same Fb F → E.nx σ H
  | .rt d => ∀ v F H, Ext F0.F H0 F H → BorC F0 F H → Is K F v d → E.rt v H
  | .rn d => ∀ p o F H, Ext F0.F H0 F H → BorC F0 F H → H p = some o → IsC K F o d → F p = none → H0 p = none → (∀ b ∈ F0.bor, b.2.1 ≠ p) → E.rt (.ref p) H
  | .rm d ρ => ∀ v σ F H, Rep K F0 H0 (bmask F0 ρ.length) ρ σ F H → Is K F v d → E.rt v H
  | .bk ρ => ∀ σ F H, Rep K F0 H0 mL ρ σ F H → Same Fb F → E.bk σ H
  | .ct ρ => ∀ σ F H, Rep K F0 H0 mL ρ σ F H → Same Fb F → E.ct σ H
  | .ex x ρ => ∀ cls od σ F H, Rep K F0 H0 (bmask F0 ρ.length) ρ σ F H → Same Fb F → IsX K F x cls od → W cls od σ H
  | .st => False
def tSemS (K : PySem.W.Frag) (F0 : Bs) (H0 : Hp) (m m' mL : List Bool) (W : WX) (s : Rho → S) : TS := fun E σ H => ∃ ρ F, Rep K F0 H0 m ρ σ F H ∧ afterS K F0 H0 m' mL W F (s ρ) E
theorem afterS.mono {K : PySem.W.Frag} {F0 : Bs} {H0 F F2 : Hp} {m' mL : List Bool} {W : WX} {r : S} {E : Ends} (h : afterS K F0 H0 m' mL W F r E) (s : Same F F2) : afterS K F0 H0 m' mL W F2 r E := by
  cases r with
  | nx ρ => exact fun σ F' H' r x => h σ F' H' r (s.trans x)
  | bk ρ => exact fun σ F' H' r x => h σ F' H' r (s.trans x)
  | ct ρ => exact fun σ F' H' r x => h σ F' H' r (s.trans x)
  | ex x ρ => exact fun cls od σ F' H' r x => h cls od σ F' H' r (s.trans x)
  | _ => exact h
abbrev DS (X : Cx) (F0 : Bs) (H0 : Hp) (m m' mL : List Bool) (W : WX) (st : Stmt) (s : Rho → S) : Prop := PS X st (tSemS X.K F0 H0 m m' mL W s)
abbrev DSs (X : Cx) (F0 : Bs) (H0 : Hp) (m m' mL : List Bool) (W : WX) (st : List Stmt) (s : Rho → S) : Prop := PSs X st (tSemS X.K F0 H0 m m' mL W s)
/-- what is new is not what is lent -/
theorem Rep.bor_ne {K : PySem.W.Frag} {F0 : Bs} {H0 F H : Hp} {m : List Bool} {ρ : Rho} {σ : L2.St} {p : Addr} (r : Rep K F0 H0 m ρ σ F H) (n : H p = none) : ∀ b ∈ F0.bor, b.2.1 ≠ p := fun b hb z => by
  obtain ⟨h1, h2, ⟨d, h3⟩, _⟩ := r.bor b hb
  obtain ⟨q, o', z1, z2, _⟩ := r.own b.1 d h3 h2
  rw [h1] at z1
  cases z1
  rw [z, n] at z2
  cases z2
theorem Rep.ext0 {K : PySem.W.Frag} {F0 : Bs} {H0 F H : Hp} {m : List Bool} {ρ : Rho} {σ : L2.St} (r : Rep K F0 H0 m ρ σ F H) : Ext F0.F H0 F H := ⟨r.f0, r.h0, r.fh, r.new⟩
section
variable {X : Cx} {F0 : Bs} {H0 : Hp} {m m' m2 mL : List Bool} {W : WX} {pos : Pos} {e : Expr} {st : Stmt} {sts : List Stmt} {g : Rho → R D} {s u : Rho → S}
/-! ### blocks -/
def sNil : Rho → S := fun ρ => .nx ρ
def sSeq (s u : Rho → S) : Rho → S := fun ρ => match s ρ with
  | .nx ρ1 => u ρ1
  | r => r
theorem ss_nil : DSs X F0 H0 m m mL W [] sNil := pss_imp pss_nil fun E σ H ⟨ρ, F, r, h⟩ => h σ F H r (.refl F)
theorem ss_one (h : DS X F0 H0 m m' mL W st s) : DSs X F0 H0 m m' mL W [st] s := pss_one h
theorem ss_cons (h1 : DS X F0 H0 m m2 mL W st s) (h2 : DSs X F0 H0 m2 m' mL W sts u) : DSs X F0 H0 m m' mL W (st :: sts) (sSeq s u) := by
  refine pss_imp (pss_cons h1 h2) fun E σ H ⟨ρ, F, r, h⟩ => ⟨ρ, F, r, ?_⟩
  unfold sSeq at h
  cases z : s ρ with
  | nx ρ1 =>
    rw [z] at h
    exact fun σ1 F1 H1 r1 x1 => ⟨ρ1, F1, r1, h.mono x1⟩
  | _ => rw [z] at h; exact h
/-- an expression is read, then the rest -/
theorem semS {K : PySem.W.Frag} {σ : L2.St} {F H : Hp} {ρ : Rho} {k : D → S} {E : Ends} {Φ : VK} (r : Rep K F0 H0 m ρ σ F H)
    (h : afterS K F0 H0 m' mL W F (match g ρ with | .ok d => k d | .ex x => .ex x ρ | .st => .st) E)
    (f : ∀ d v F' H', Is K F' v d → Rep K F0 H0 m ρ σ F' H' → Same F F' → afterS K F0 H0 m' mL W F' (k d) E → Φ v H') : tSem K F0 H0 m W g σ H Φ := by
  refine ⟨ρ, F, r, ?_⟩
  cases z : g ρ with
  | ok d =>
    rw [z] at h
    exact fun v F' H' x i => f d v F' H' i (r.ext x) x.ff (h.mono x.ff)
  | ex x =>
    rw [z] at h
    intro cls od F' H' xe i
    obtain ⟨F2, r2, s2⟩ := (r.ext xe).freeze
    exact h cls od σ F2 H' r2 (xe.ff.trans s2) (Is.monoX i s2)
  | st =>
    rw [z] at h
    exact h.elim
theorem semST {K : PySem.W.Frag} {σ : L2.St} {F H : Hp} {ρ : Rho} {p : Rho → R Bool} {k : Bool → S} {E : Ends} {Φ : Bool → Hp → Prop} (r : Rep K F0 H0 m ρ σ F H)
    (h : afterS K F0 H0 m' mL W F (match p ρ with | .ok d => k d | .ex x => .ex x ρ | .st => .st) E)
    (f : ∀ d F' H', Rep K F0 H0 m ρ σ F' H' → Same F F' → afterS K F0 H0 m' mL W F' (k d) E → Φ d H') : tSemT K F0 H0 m W p σ H Φ := by
  refine ⟨ρ, F, r, ?_⟩
  cases z : p ρ with
  | ok d =>
    rw [z] at h
    exact fun F' H' x => f d F' H' (r.ext x) x.ff (h.mono x.ff)
  | ex x =>
    rw [z] at h
    intro cls od F' H' xe i
    obtain ⟨F2, r2, s2⟩ := (r.ext xe).freeze
    exact h cls od σ F2 H' r2 (xe.ff.trans s2) (Is.monoX i s2)
  | st =>
    rw [z] at h
    exact h.elim
/-- .. that makes a new object -/
theorem semSN {K : PySem.W.Frag} {σ : L2.St} {F H : Hp} {ρ : Rho} {k : D → S} {E : Ends} {Φ : VK} (r : Rep K F0 H0 m ρ σ F H)
    (h : afterS K F0 H0 m' mL W F (match g ρ with | .ok d => k d | .ex x => .ex x ρ | .st => .st) E)
    (f : ∀ d p o F' H', H' p = some o → IsC K F' o d → F' p = none → H p = none → Same H H' → Rep K F0 H0 m ρ σ F' H' → Same F F' → afterS K F0 H0 m' mL W F' (k d) E → Φ (.ref p) H') : tSemN K F0 H0 m W g σ H Φ := by
  refine ⟨ρ, F, r, ?_⟩
  cases z : g ρ with
  | ok d =>
    rw [z] at h
    exact fun p o F' H' x e c fn n => f d p o F' H' e c fn n x.hh (r.ext x) x.ff (h.mono x.ff)
  | ex x =>
    rw [z] at h
    intro cls od F' H' xe i
    obtain ⟨F2, r2, s2⟩ := (r.ext xe).freeze
    exact h cls od σ F2 H' r2 (xe.ff.trans s2) (Is.monoX i s2)
  | st =>
    rw [z] at h
    exact h.elim
/-! ### small statements -/
def sE (g : Rho → R D) (k : Rho → D → S) : Rho → S := fun ρ => match g ρ with
  | .ok d => k ρ d
  | .ex x => .ex x ρ
  | .st => .st
def sDrop (g : Rho → R D) : Rho → S := sE g fun ρ _ => .nx ρ
theorem s_expr (he : DE X F0 H0 m W e g) (hs : swapsWith e none pos.line X.env = pure false := by rfl) : DS X F0 H0 m m mL W (.Expr e pos) (sDrop g) :=
  ps_imp (ps_expr he hs) fun E σ H ⟨ρ, F, r, h⟩ => semS (k := fun _ => .nx ρ) r h fun d v F1 H1 i1 r1 _ h1 => h1 σ F1 H1 r1 (.refl F1)
def sRet (g : Rho → R D) : Rho → S := sE g fun _ d => .rt d
theorem s_ret (he : DE X F0 H0 m W e g) : DS X F0 H0 m m' mL W (.Return (some e) pos) (sRet g) :=
  ps_imp (ps_ret he) fun E σ H ⟨ρ, F, r, h⟩ => semS (k := fun d => .rt d) r h fun d v F1 H1 i1 r1 _ h1 => h1 v F1 H1 r1.ext0 r1.borC i1
def sRetN (g : Rho → R D) : Rho → S := sE g fun _ d => .rn d
theorem s_retN (he : DN X F0 H0 m W e g) : DS X F0 H0 m m' mL W (.Return (some e) pos) (sRetN g) :=
  ps_imp (ps_ret he) fun E σ H ⟨ρ, F, r, h⟩ => semSN (k := fun d => .rn d) r h fun d p o F1 H1 e c f n s r1 _ h1 => h1 p o F1 H1 r1.ext0 r1.borC e c f (r.h0.free n) (r.bor_ne n)
/-- return x, x the frame's own -/
def sRetO (i : Nat) : Rho → S := fun ρ => match ρ[i]? with
  | some (some d) => .rn d
  | _ => .st
theorem s_retO (i : Nat) {x : Str} {p2 : Pos} (hb : F0.ok i := by exact Bs.ok_of rfl) (hN : X.N[i]? = some x := by rfl) (hv : Vis X.env.scope x := by first | exact Or.inl rfl | exact Or.inr (Or.inl rfl) | exact Or.inr (Or.inr rfl)) (hm : m[i]? = some true := by rfl) (hd : (x == ("__debug__" : Str)) = false := by decide)
    (hcd : (x == ("__classdict__" : Str)) = false := by decide) : DS X F0 H0 m m' mL W (.Return (some (.Name x p2)) pos) (sRetO i) := by
  refine ps_imp (ps_ret (pe_var hN hv hd hcd)) fun E σ H ⟨ρ, F, r, h⟩ => ?_
  unfold sRetO at h
  split at h
  · rename_i d e
    obtain ⟨p, o, e1, e2, e3, e4, e5⟩ := r.own i d e hm
    exact ⟨.ref p, e1, h p o F H r.ext0 r.borC e2 e3 e4 e5 fun b hb' z => by
      obtain ⟨h1, h2, ⟨d', h3⟩, _⟩ := r.bor b hb'
      exact r.apart b.1 i p d' d (hb b hb') h2 hm h3 e (z ▸ h1) e1⟩
  · exact h.elim
theorem s_retNone : DS X F0 H0 m m' mL W (.Return none pos) (sRet (gC .non)) :=
  ps_imp ps_retN fun E σ H ⟨ρ, F, r, h⟩ => h .non F H r.ext0 r.borC .non
theorem s_pass : DS X F0 H0 m m mL W (.Pass pos) sNil := ps_imp ps_pass fun E σ H ⟨ρ, F, r, h⟩ => h σ F H r (.refl F)
def sBrk : Rho → S := fun ρ => .bk ρ
def sCnt : Rho → S := fun ρ => .ct ρ
theorem s_break : DS X F0 H0 m m' m W (.Break pos) sBrk := ps_imp ps_break fun E σ H ⟨ρ, F, r, h⟩ => h σ F H r (.refl F)
theorem s_continue : DS X F0 H0 m m' m W (.Continue pos) sCnt := ps_imp ps_continue fun E σ H ⟨ρ, F, r, h⟩ => h σ F H r (.refl F)
/-- x = e -/
def sSet (i : Nat) (g : Rho → R D) : Rho → S := sE g fun ρ d => .nx (ρ.set i (some d))
theorem s_set (i : Nat) {x : Str} {p2 : Pos} (hN : X.N.Nodup) (he : DE X F0 H0 m W e g) (hi : X.N[i]? = some x := by rfl) (hx : Loc X.env.scope x := by exact Or.inl rfl) (hb : F0.ok i := by exact Bs.ok_of rfl) (hs : swapsWith e (some (.Name x p2)) pos.line X.env = pure false := by rfl) (hf : X.fn x = true ∨ X.env.scope.names.lookup x = some .local := by first | exact .inl rfl | exact .inr rfl | assumption) :
    DS X F0 H0 m (m.set i false) mL W (.Assign [.Name x p2] e pos) (sSet i g) :=
  ps_imp (ps_set hN hi hx he hs hf) fun E σ H ⟨ρ, F, r, h⟩ => semS (k := fun d => .nx (ρ.set i (some d))) r h fun d v F1 H1 i1 r1 _ h1 => h1 _ F1 H1 (r1.set i hb i1) (.refl F1)
/-- a slot gets an object of the frame's own -/
theorem Rep.setN {K : PySem.W.Frag} {ρ : Rho} {σ : L2.St} {F H : Hp} {p : Addr} {o : HO} {d : D} (r : Rep K F0 H0 m ρ σ F H) (i : Nat) (hi : F0.ok i) (hm : i < m.length) (h : H p = some o) (c : IsC K F o d) (f : F p = none) (n : H0 p = none)
    (ne : ∀ (j : Nat) q e, m[j]? = some true → ρ[j]? = some (some e) → σ[j]? = some (some (.ref q)) → q ≠ p) : Rep K F0 H0 (m.set i true) (ρ.set i (some d)) (σ.set i (some (.ref p))) F H where
  len := by rw [List.length_set, List.length_set, r.len]
  fh := r.fh
  f0 := r.f0
  h0 := r.h0
  new := r.new
  val := fun j e a b => by
    rcases getElem?_set_cases a with ⟨rfl, z, hl⟩ | ⟨hj, z⟩
    · cases z
      rw [List.getElem?_set_self hm] at b
      exact absurd rfl b
    · rw [List.getElem?_set_ne (Ne.symm hj)]
      exact r.val j e z (by rw [mset' hj] at b; exact b)
  own := fun j e a b => by
    rcases getElem?_set_cases a with ⟨rfl, z, hl⟩ | ⟨hj, z⟩
    · cases z
      exact ⟨p, o, by rw [List.getElem?_set_self (by rw [r.len]; exact hl)], h, c, f, n⟩
    · rw [List.getElem?_set_ne (Ne.symm hj)]
      exact r.own j e z (by rw [mset' hj] at b; exact b)
  apart := fun j k q d1 e1 hjk a b c1 c2 e => by
    rcases getElem?_set_cases c1 with ⟨rfl, z, hl⟩ | ⟨hj, z⟩
    · rcases getElem?_set_cases c2 with ⟨rfl, z', hl'⟩ | ⟨hk, z'⟩
      · exact absurd rfl hjk
      · rw [List.getElem?_set_ne (Ne.symm hk)]
        rw [List.getElem?_set_self (by rw [r.len]; exact hl)] at e
        cases e
        intro w
        exact ne k _ e1 (by rw [mset' hk] at b; exact b) z' w rfl
    · rcases getElem?_set_cases c2 with ⟨rfl, z', hl'⟩ | ⟨hk, z'⟩
      · rw [List.getElem?_set_ne (Ne.symm hj)] at e
        rw [List.getElem?_set_self (by rw [r.len]; exact hl')]
        intro w
        cases w
        exact ne j _ d1 (by rw [mset' hj] at a; exact a) z e rfl
      · rw [List.getElem?_set_ne (Ne.symm hj)] at e
        rw [List.getElem?_set_ne (Ne.symm hk)]
        exact r.apart j k q d1 e1 hjk (by rw [mset' hj] at a; exact a) (by rw [mset' hk] at b; exact b) z z' e
  bor := fun b hb => by
    obtain ⟨h1, h2, h3, h4⟩ := r.bor b hb
    have hj := hi b hb
    rw [List.getElem?_set_ne (Ne.symm hj), List.getElem?_set_ne (Ne.symm hj), List.getElem?_set_ne (Ne.symm hj)]
    exact ⟨h1, h2, h3, h4⟩
theorem s_setN (i : Nat) {x : Str} {p2 : Pos} (hN : X.N.Nodup) (he : DN X F0 H0 m W e g) (hm : i < m.length := by decide) (hi : X.N[i]? = some x := by rfl) (hx : Loc X.env.scope x := by exact Or.inl rfl) (hb : F0.ok i := by exact Bs.ok_of rfl) (hs : swapsWith e (some (.Name x p2)) pos.line X.env = pure false := by rfl) (hf : X.fn x = true ∨ X.env.scope.names.lookup x = some .local := by first | exact .inl rfl | exact .inr rfl | assumption) :
    DS X F0 H0 m (m.set i true) mL W (.Assign [.Name x p2] e pos) (sSet i g) :=
  ps_imp (ps_set hN hi hx he hs hf) fun E σ H ⟨ρ, F, r, h⟩ => semSN (k := fun d => .nx (ρ.set i (some d))) r h fun d p o F1 H1 e c f n s r1 _ h1 => h1 _ F1 H1 (r1.setN i hb hm e c f (r.h0.free n) fun j q e' a b c' w => by
    obtain ⟨q', o', e1, e2, _⟩ := r.own j e' b a
    rw [c'] at e1
    cases e1
    rw [w, n] at e2
    cases e2) (.refl F1)
/-- one slot's object is shared from now on -/
theorem Rep.share {K : PySem.W.Frag} {ρ : Rho} {σ : L2.St} {F H : Hp} (r : Rep K F0 H0 m ρ σ F H) (i : Nat) (hi : F0.ok i) : ∃ F', Rep K F0 H0 (m.set i false) ρ σ F' H ∧ Same F F' := by
  have hbor : ∀ b ∈ F0.bor, σ[b.1]? = some (some (.ref b.2.1)) ∧ (m.set i false)[b.1]? = some true ∧ (∃ d, ρ[b.1]? = some (some d)) ∧ ∀ d o, b.2.2 = some (d, o) → ρ[b.1]? = some (some d) ∧ H b.2.1 = some o := fun b hb => by
    obtain ⟨h1, h2, h3, h4⟩ := r.bor b hb
    rw [mset' (hi b hb)]
    exact ⟨h1, h2, h3, h4⟩
  by_cases hm : m[i]? = some true
  · by_cases hd : ∃ d, ρ[i]? = some (some d)
    · obtain ⟨d, hd⟩ := hd
      obtain ⟨p, o, e1, e2, e3, e4, e5⟩ := r.own i d hd hm
      have sF : Same F (upd F p o) := same_upd e4
      refine ⟨upd F p o, ⟨r.len, fun b u e => ?_, r.f0.trans sF, r.h0, fun b h f => ?_, fun j d' a b => ?_, fun j d' a b => ?_, fun j k q d1 e1' hjk a b c c' q' => ?_, hbor⟩, sF⟩
      · by_cases q : b = p
        · subst q; rw [upd_same] at e; rw [e2]; exact e
        · rw [upd_ne q] at e; exact r.fh b u e
      · have q : b ≠ p := fun z => h (z ▸ e5)
        rw [upd_ne q]; exact r.new b h f
      · by_cases hj : j = i
        · subst hj
          rw [hd] at a
          cases a
          exact ⟨.ref p, e1, is_of_c upd_same (e3.mono sF)⟩
        · obtain ⟨v, z1, z2⟩ := r.val j d' a (by rw [mset' hj] at b; exact b)
          exact ⟨v, z1, z2.mono sF⟩
      · obtain ⟨hj, b⟩ := mset b
        obtain ⟨p', o', z1, z2, z3, z4, z5⟩ := r.own j d' a b
        have q : p' ≠ p := fun w => r.apart j i p d' d hj b hm a hd (w ▸ z1) e1
        exact ⟨p', o', z1, z2, z3.mono sF, by rw [upd_ne q]; exact z4, z5⟩
      · obtain ⟨hj, a⟩ := mset a
        obtain ⟨hk, b⟩ := mset b
        exact r.apart j k q d1 e1' hjk a b c c' q'
    · refine ⟨F, ⟨r.len, r.fh, r.f0, r.h0, r.new, fun j d' a b => ?_, fun j d' a b => ?_, fun j k q d1 e1' hjk a b c c' q' => ?_, hbor⟩, .refl F⟩
      · have hj : j ≠ i := fun z => hd ⟨d', z ▸ a⟩
        exact r.val j d' a (by rw [mset' hj] at b; exact b)
      · obtain ⟨hj, b⟩ := mset b
        exact r.own j d' a b
      · obtain ⟨hj, a⟩ := mset a
        obtain ⟨hk, b⟩ := mset b
        exact r.apart j k q d1 e1' hjk a b c c' q'
  · refine ⟨F, ⟨r.len, r.fh, r.f0, r.h0, r.new, fun j d' a b => ?_, fun j d' a b => ?_, fun j k q d1 e1' hjk a b c c' q' => ?_, hbor⟩, .refl F⟩
    · refine r.val j d' a fun z => ?_
      by_cases hj : j = i
      · subst hj; exact hm z
      · rw [mset' hj] at b; exact b z
    · obtain ⟨hj, b⟩ := mset b
      exact r.own j d' a b
    · obtain ⟨hj, a⟩ := mset a
      obtain ⟨hk, b⟩ := mset b
      exact r.apart j k q d1 e1' hjk a b c c' q'
theorem ss_share (i : Nat) (hb : F0.ok i) (h : DSs X F0 H0 (m.set i false) m' mL W sts s) : DSs X F0 H0 m m' mL W sts s := pss_imp h fun E σ H ⟨ρ, F, r, q⟩ => by
  obtain ⟨F', r', x⟩ := r.share i hb
  exact ⟨ρ, F', r', q.mono x⟩
/-! ### if, for, while -/
def sIf (p : Rho → R Bool) (s u : Rho → S) : Rho → S := fun ρ => match p ρ with
  | .ok b => if b = true then s ρ else u ρ
  | .ex x => .ex x ρ
  | .st => .st
theorem s_if {c : Expr} {a b : List Stmt} {p : Rho → R Bool} (hc : DT X F0 H0 m W c p) (ha : DSs X F0 H0 m m' mL W a s) (hb : DSs X F0 H0 m m' mL W b u) : DS X F0 H0 m m' mL W (.If c a b pos) (sIf p s u) := by
  refine ps_imp (ps_if hc ha hb) fun E σ H ⟨ρ, F, r, h⟩ => semST (k := fun b => if b = true then s ρ else u ρ) r h fun b F1 H1 r1 _ h1 => ?_
  cases b with
  | true => exact iteT ⟨ρ, F1, r1, h1⟩
  | false => exact iteF ⟨ρ, F1, r1, h1⟩
def forL (τ : D → Rho → R Rho) (b : Rho → S) : List D → Rho → S
  | [], ρ => .nx ρ
  | d :: ds, ρ => match τ d ρ with
    | .ok ρ1 => match b ρ1 with
      | .nx ρ2 => forL τ b ds ρ2
      | .ct ρ2 => forL τ b ds ρ2
      | .bk ρ2 => .nx ρ2
      | r => r
    | _ => .st
def sFor (gi : Rho → R (List D)) (τ : D → Rho → R Rho) (b : Rho → S) : Rho → S := fun ρ => match gi ρ with
  | .ok items => forL τ b items ρ
  | .ex x => .ex x ρ
  | .st => .st
theorem s_for {tg iter : Expr} {body : List Stmt} {gi : Rho → R (List D)} {τ : D → Rho → R Rho} {b : Rho → S} {m1 : List Bool} {is : List Nat} (hp : PassesOwn (model X.prog X.w) X.A X.env X.xe) (hc : X.calm = true) (hi : DI X F0 H0 m W tg iter gi) (hg : DG X F0 H0 m m1 is tg τ) (hb : DSs X F0 H0 m1 m m W body b)
    (hs : ∀ x, foldedSetIterable iter X.env x = pure x := by intro _; rfl) : DS X F0 H0 m m mL W (.For tg iter body [] pos) (sFor gi τ b) := by
  refine ps_imp (ps_for hp hc hi hg hb hs) fun E σ H ⟨ρ, F, r, h⟩ => ⟨ρ, F, r, ?_⟩
  unfold sFor at h
  cases z : gi ρ with
  | ex x =>
    rw [z] at h
    intro cls od F' H' xe i
    obtain ⟨F2, r2, s2⟩ := (r.ext xe).freeze
    exact h cls od σ F2 H' r2 (xe.ff.trans s2) (Is.monoX i s2)
  | st => rw [z] at h; exact h.elim
  | ok items =>
    rw [z] at h
    intro J F1 H1 x1 y1
    refine ⟨fun i mm σ H => ∃ ρ F, Rep X.K F0 H0 m ρ σ F H ∧ Same F1 F ∧ i ≤ items.length ∧ mm = items.length - i ∧ afterS X.K F0 H0 m mL W F (forL τ b (items.drop i) ρ) E, ⟨items.length, ρ, F1, r.ext x1, .refl _, Nat.zero_le _, rfl, h.mono x1.ff⟩, ?_⟩
    rintro i mm σ2 H2 ⟨ρ2, F2, r2, x2, hi, rfl, h2⟩
    have yc := y1 i F2 H2 x2 r2.fh
    by_cases hlt : i < items.length
    · obtain ⟨go, yld⟩ := yc.1 hlt
      refine .inr ⟨go, fun σ3 H3 => ∃ ρ3 F3, Rep X.K F0 H0 m ρ3 σ3 F3 H3 ∧ Same F1 F3 ∧ afterS X.K F0 H0 m mL W F3 (forL τ b (items.drop (i + 1)) ρ3) E, fun σ3 H3 ⟨ρ3, F3, q1, q2, q3⟩ => ⟨items.length - (i + 1), by omega, ρ3, F3, q1, q2, hlt, rfl, q3⟩, fun x Hy y => ?_⟩
      obtain ⟨F3, d, hd, xe, ix⟩ := yld x Hy y
      have ed : items.drop i = d :: items.drop (i + 1) := by
        rw [List.drop_eq_getElem_cons hlt]
        rw [List.getElem?_eq_getElem hlt] at hd
        rw [Option.some.inj hd]
      rw [ed] at h2
      refine ⟨ρ2, F3, d, r2.ext xe, ix, ?_⟩
      have h3 : afterS X.K F0 H0 m mL W F3 (match τ d ρ2 with
        | .ok ρ1 => match b ρ1 with
          | .nx ρ2 => forL τ b (items.drop (i + 1)) ρ2
          | .ct ρ2 => forL τ b (items.drop (i + 1)) ρ2
          | .bk ρ2 => .nx ρ2
          | r => r
        | _ => .st) E := h2.mono xe.ff
      cases z1 : τ d ρ2 with
      | ex x => rw [z1] at h3; exact h3.elim
      | st => rw [z1] at h3; exact h3.elim
      | ok ρ4 =>
        rw [z1] at h3
        intro σ4 r4 _ _
        refine ⟨ρ4, F3, r4, ?_⟩
        have h4 : afterS X.K F0 H0 m mL W F3 (match b ρ4 with
          | .nx ρ2 => forL τ b (items.drop (i + 1)) ρ2
          | .ct ρ2 => forL τ b (items.drop (i + 1)) ρ2
          | .bk ρ2 => .nx ρ2
          | r => r) E := h3
        cases z2 : b ρ4 with
        | nx ρ5 =>
          rw [z2] at h4
          exact fun σ5 F5 H5 r5 x5 => ⟨ρ5, F5, r5, (x2.trans xe.ff).trans x5, h4.mono x5⟩
        | ct ρ5 =>
          rw [z2] at h4
          exact fun σ5 F5 H5 r5 x5 => ⟨ρ5, F5, r5, (x2.trans xe.ff).trans x5, h4.mono x5⟩
        | bk ρ5 =>
          rw [z2] at h4
          exact h4
        | rt d => rw [z2] at h4; exact h4
        | rn d => rw [z2] at h4; exact h4
        | rm d ρ5 => rw [z2] at h4; exact h4
        | ex x ρ5 => rw [z2] at h4; exact h4
        | st => rw [z2] at h4; exact h4
    · have ei : i = items.length := by omega
      subst ei
      rw [List.drop_length] at h2
      exact .inl ⟨yc.2 (Nat.le_refl _), h2 σ2 F2 H2 r2 (.refl F2)⟩
def whileL (p : Rho → R Bool) (b : Rho → S) : Nat → Rho → S
  | 0, _ => .st
  | n + 1, ρ => match p ρ with
    | .ok k => if k = true then (match b ρ with
      | .nx ρ2 => whileL p b n ρ2
      | .ct ρ2 => whileL p b n ρ2
      | .bk ρ2 => .nx ρ2
      | r => r) else .nx ρ
    | .ex x => .ex x ρ
    | .st => .st
/-- fuel: how many turns at most (one more) -/
def sWhile (fuel : Rho → Nat) (p : Rho → R Bool) (b : Rho → S) : Rho → S := fun ρ => whileL p b (fuel ρ) ρ
theorem s_while {c : Expr} {body : List Stmt} {p : Rho → R Bool} {b : Rho → S} (fuel : Rho → Nat) (hp : PassesOwn (model X.prog X.w) X.A X.env X.xe) (hc : DT X F0 H0 m W c p) (hb : DSs X F0 H0 m m m W body b) : DS X F0 H0 m m mL W (.While c body [] pos) (sWhile fuel p b) := by
  refine ps_imp (ps_while hp hc hb) fun E σ H ⟨ρ, F, r, h⟩ => ?_
  refine ⟨fun n σ H => ∃ ρ F, Rep X.K F0 H0 m ρ σ F H ∧ afterS X.K F0 H0 m mL W F (whileL p b n ρ) E, ⟨fuel ρ, ρ, F, r, h⟩, ?_⟩
  rintro n σ1 H1 ⟨ρ1, F1, r1, h1⟩
  cases n with
  | zero => exact h1.elim
  | succ n =>
    refine semST (k := fun k => if k = true then (match b ρ1 with | .nx ρ2 => whileL p b n ρ2 | .ct ρ2 => whileL p b n ρ2 | .bk ρ2 => .nx ρ2 | r => r) else .nx ρ1) r1 h1 fun k F2 H2 r2 _ h2 => ?_
    cases k with
    | false => exact iteF (h2 σ1 F2 H2 r2 (.refl F2))
    | true =>
      refine iteT ⟨fun σ3 H3 => ∃ ρ F, Rep X.K F0 H0 m ρ σ3 F H3 ∧ afterS X.K F0 H0 m mL W F (whileL p b n ρ) E, fun σ3 H3 q => ⟨n, Nat.lt_succ_self _, q⟩, ρ1, F2, r2, ?_⟩
      have h4 : afterS X.K F0 H0 m mL W F2 (match b ρ1 with | .nx ρ2 => whileL p b n ρ2 | .ct ρ2 => whileL p b n ρ2 | .bk ρ2 => .nx ρ2 | r => r) E := h2
      cases z2 : b ρ1 with
      | nx ρ5 =>
        rw [z2] at h4
        exact fun σ5 F5 H5 r5 x5 => ⟨ρ5, F5, r5, h4.mono x5⟩
      | ct ρ5 =>
        rw [z2] at h4
        exact fun σ5 F5 H5 r5 x5 => ⟨ρ5, F5, r5, h4.mono x5⟩
      | bk ρ5 => rw [z2] at h4; exact h4
      | rt d => rw [z2] at h4; exact h4
      | rn d => rw [z2] at h4; exact h4
      | rm d ρ5 => rw [z2] at h4; exact h4
      | ex x ρ5 => rw [z2] at h4; exact h4
      | st => rw [z2] at h4; exact h4
/-! ### targets of any form; += -/
def sAsg (g : Rho → R D) (τ : D → Rho → R Rho) : Rho → S := sE g fun ρ d => match τ d ρ with
  | .ok ρ' => .nx ρ'
  | _ => .st
theorem s_asg {tg : Expr} {τ : D → Rho → R Rho} {is : List Nat} (he : DE X F0 H0 m W e g) (hg : DG X F0 H0 m m' is tg τ) (hs : swapsWithSole [tg] e pos.line X.env = pure false := by rfl) (hw : swappedStores [tg] e X.env = pure none := by rfl)
    (h1 : (assignEach [tg] X.env).map (·.2) = [assign tg X.env] := by rfl) : DS X F0 H0 m m' mL W (.Assign [tg] e pos) (sAsg g τ) := by
  refine ps_imp (ps_asg he hg hs hw h1) fun E σ H ⟨ρ, F, r, h⟩ => semS (k := fun d => match τ d ρ with | .ok ρ' => .nx ρ' | _ => .st) r h fun d v F1 H1 i1 r1 _ h1 => ⟨ρ, F1, d, r1, i1, ?_⟩
  cases z : τ d ρ with
  | ok ρ' =>
    rw [z] at h1
    exact fun σ' r' _ _ => h1 σ' F1 H1 r' (.refl F1)
  | ex x => rw [z] at h1; exact h1
  | st => rw [z] at h1; exact h1
def sAug (i : Nat) (f : D → D → R D) (g : Rho → R D) : Rho → S := fun ρ => match ρ[i]? with
  | some (some d) => sE g (fun ρ e => match f d e with
    | .ok z => .nx (ρ.set i (some z))
    | .ex x => .ex x ρ
    | .st => .st) ρ
  | _ => .st
theorem s_aug (i : Nat) {x : Str} {p2 : Pos} {op : Operator} {f : D → D → R D} {r2 : R2} (hN : X.N.Nodup) (ho : OpR X (inplaceOp op) r2) (o : OpD X.K f r2) (he : DE X F0 H0 m W e g) (hm : (m[i]? == some true) = false := by rfl) (hi : X.N[i]? = some x := by rfl) (hx : Loc X.env.scope x := by exact Or.inl rfl) (hb : F0.ok i := by exact Bs.ok_of rfl) (hf : X.fn x = true ∨ X.env.scope.names.lookup x = some .local := by first | exact .inl rfl | exact .inr rfl | assumption) :
    DS X F0 H0 m (m.set i false) mL W (.AugAssign (.Name x p2) op e pos) (sAug i f g) := by
  refine ps_imp (ps_aug hN hi hx he (ti := r2) (fun pins s σ H x y v u Q I r1 r2 h => ho pins s σ H x y v u Q I r1 r2 h) hf) fun E σ H ⟨ρ, F, r, h⟩ => ?_
  unfold sAug at h
  split at h
  · rename_i d e1
    obtain ⟨v, ev, iv⟩ := r.val i d e1 (by intro z; rw [z] at hm; cases hm)
    refine ⟨v, ev, ?_⟩
    refine semS (k := fun e => match f d e with | .ok z => .nx (ρ.set i (some z)) | .ex x => .ex x ρ | .st => .st) r h fun d2 v2 F1 H1 i1 r1 x1 h1 => ?_
    refine o W σ F1 H1 d d2 v v2 _ r1.fh (iv.mono x1) i1 ?_
    cases z : f d d2 with
    | ok d3 =>
      rw [z] at h1
      exact fun v3 F3 H3 x3 i3 => (h1.mono x3.ff) _ F3 H3 ((r1.ext x3).set i hb i3) (.refl F3)
    | ex x =>
      rw [z] at h1
      intro cls od F' H' xe ie
      obtain ⟨F2, r2, s2⟩ := (r1.ext xe).freeze
      exact h1 cls od σ F2 H' r2 (xe.ff.trans s2) (Is.monoX ie s2)
    | st => rw [z] at h1; exact h1
  · exact h.elim
/-! ### an own object changes -/
theorem Rep.mut {K : PySem.W.Frag} {ρ : Rho} {σ : L2.St} {F H : Hp} {i : Nat} {p : Addr} {d d' : D} {o' : HO} (r : Rep K F0 H0 m ρ σ F H) (hi : F0.mut i) (hm : m[i]? = some true) (hd : ρ[i]? = some (some d)) (hp : σ[i]? = some (some (.ref p))) (f : F p = none) (n : H0 p = none) (c : IsC K F o' d') :
    Rep K F0 H0 m (ρ.set i (some d')) σ F (upd H p o') where
  len := by rw [List.length_set, r.len]
  fh := fun b u e => by rw [upd_ne (ne_of_none e f)]; exact r.fh b u e
  f0 := r.f0
  h0 := fun b u e => by rw [upd_ne (ne_of_none e n)]; exact r.h0 b u e
  new := r.new
  val := fun j e a b => by
    rcases getElem?_set_cases a with ⟨rfl, z, hl⟩ | ⟨hj, z⟩
    · exact absurd hm b
    · exact r.val j e z b
  own := fun j e a b => by
    rcases getElem?_set_cases a with ⟨rfl, z, hl⟩ | ⟨hj, z⟩
    · cases z
      exact ⟨p, o', hp, upd_same, c, f, n⟩
    · obtain ⟨q, o, z1, z2, z3, z4, z5⟩ := r.own j e z b
      have ne : q ≠ p := fun w => r.apart j i p e d hj b hm z hd (w ▸ z1) hp
      exact ⟨q, o, z1, by rw [upd_ne ne]; exact z2, z3, z4, z5⟩
  apart := fun j k q d1 e1 hjk a b c1 c2 e => by
    have k1 : ∃ d2, ρ[j]? = some (some d2) := by
      rcases getElem?_set_cases c1 with ⟨rfl, _, _⟩ | ⟨_, z⟩
      · exact ⟨d, hd⟩
      · exact ⟨d1, z⟩
    have k2 : ∃ d2, ρ[k]? = some (some d2) := by
      rcases getElem?_set_cases c2 with ⟨rfl, _, _⟩ | ⟨_, z⟩
      · exact ⟨d, hd⟩
      · exact ⟨e1, z⟩
    obtain ⟨d3, z3⟩ := k1
    obtain ⟨d4, z4⟩ := k2
    exact r.apart j k q d3 d4 hjk a b z3 z4 e
  bor := fun b hb => by
    obtain ⟨h1, h2, ⟨e, h3⟩, h4⟩ := r.bor b hb
    by_cases hj : b.1 = i
    · refine ⟨h1, h2, ⟨d', ?_⟩, fun x o z => ?_⟩
      · rw [hj, List.getElem?_set_self (List.getElem?_eq_some_iff.mp hd).1]
      · rw [hi b hb hj] at z
        cases z
    · refine ⟨h1, h2, ⟨e, by rw [List.getElem?_set_ne (Ne.symm hj)]; exact h3⟩, fun x o z => ?_⟩
      obtain ⟨z1, z2⟩ := h4 x o z
      have ne : b.2.1 ≠ p := fun w => r.apart b.1 i p e d hj h2 hm h3 hd (w ▸ h1) hp
      exact ⟨by rw [List.getElem?_set_ne (Ne.symm hj)]; exact z1, by rw [upd_ne ne]; exact z2⟩
def sAppend (i : Nat) (g : Rho → R D) : Rho → S := fun ρ => match ρ[i]? with
  | some (some (.list ds)) => sE g (fun ρ d => if ds.length < sizeLine then .nx (ρ.set i (some (.list (ds ++ [d])))) else .st) ρ
  | _ => .st
theorem s_append (i : Nat) {x : Str} {p2 apos cpos : Pos} (he : DE X F0 H0 m W e g) (hb : F0.mut i := by exact Bs.mut_of rfl) (hm : m[i]? = some true := by rfl) (hN : X.N[i]? = some x := by rfl) (hv : Vis X.env.scope x := by first | exact Or.inl rfl | exact Or.inr (Or.inl rfl) | exact Or.inr (Or.inr rfl)) (hd : (x == ("__debug__" : Str)) = false := by decide)
    (hcd : (x == ("__classdict__" : Str)) = false := by decide) (hsw : swapsWith (.Call (.Attribute (.Name x p2) "append" apos) [e] [] cpos) none pos.line X.env = pure false := by rfl)
    (hbase : attributeBase (.Name x p2) "append" X.env (eval (.Name x p2) X.env) = eval (.Name x p2) X.env := by rfl)
    (hfew : ((backTo cpos (starEach [e] X.env)).all (fun x => !x.1) && (backToKw cpos (keywordEach [] X.env)).all (fun x => x.1.isSome)
      && decide ([e].length + ([] : List Keyword).length + (if ([] : List Keyword).isEmpty then 0 else 1) < 30)) = true := by rfl)
    (hline : (apos.endLine == cpos.line) = true := by rfl) (hs : starEach [e] X.env = (false, eval e X.env) :: starEach [] X.env := by rfl) (hplain : (backTo cpos (starEach [] X.env)).any (·.1) = false := by rfl) :
    DS X F0 H0 m m mL W (.Expr (.Call (.Attribute (.Name x p2) "append" apos) [e] [] cpos) pos) (sAppend i g) := by
  refine ps_imp (ps_expr (pe_bm PySem.F.plainAttrs_list PySem.F.slot_list_append PySem.F.type_list_append mt_append (pe_var hN hv hd hcd) (pa_cons he pa_nil hs) hbase hfew hline hs hplain) hsw) fun E σ H ⟨ρ, F, r, h⟩ => ?_
  unfold sAppend at h
  split at h
  · rename_i ds e1
    obtain ⟨p, o, z1, z2, z3, z4, z5⟩ := r.own i _ e1 hm
    cases o with
    | lst xs =>
      have l : IsL X.K F xs ds := z3
      refine ⟨.ref p, z1, .inl ⟨rfl, xs, .of z2⟩, ?_⟩
      refine semS (k := fun d => if ds.length < sizeLine then .nx (ρ.set i (some (.list (ds ++ [d])))) else .st) r h fun d v F1 H1 i1 r1 x1 h1 => ?_
      by_cases hz : ds.length < sizeLine
      · rw [if_pos hz] at h1
        obtain ⟨p', o', y1, y2, y3, y4, y5⟩ := r1.own i _ e1 hm
        rw [z1] at y1
        cases y1
        cases o' with
        | lst xs' =>
          have l' : IsL X.K F1 xs' ds := y3
          exact ⟨p, xs', v, rfl, rfl, y2, by rw [l'.1]; exact hz, h1 σ F1 _ (r1.mut hb hm e1 z1 y4 y5 (show IsC _ _ (.lst (xs' ++ [v])) (.list (ds ++ [d])) from l'.snoc i1)) (.refl F1)⟩
        | _ => exact y3.elim
      · rw [if_neg hz] at h1
        exact h1.elim
    | _ => exact z3.elim
  · exact h.elim
/-! ### a value of the frame's own objects that is no object: read as if they were shared -/
def scalD : D → R D
  | .non => .ok .non
  | .bl b => .ok (.bl b)
  | .int i => .ok (.int i)
  | .str s => .ok (.str s)
  | _ => .st
theorem scal_is {K : PySem.W.Frag} {F F' : Hp} {v : V} {d e : D} (h : scalD d = .ok e) (i : Is K F v d) : Is K F' v e := by
  cases i <;> cases h
  · exact .non
  · exact .bl _
  · exact .int _
  · exact .str _
theorem back_ext {K : PySem.W.Frag} {σ : L2.St} {ρ : Rho} {F F1 H F2 H2 : Hp} (r : Rep K F0 H0 m ρ σ F H) (x : Ext F1 H F2 H2) : Ext F H F H2 := ⟨.refl _, x.hh, r.fh.trans x.hh, fun _ _ f => f⟩
def gScal (g : Rho → R D) : Rho → R D := fun ρ => noX ((g ρ).bind scalD)
def bScal (p : Rho → R Bool) : Rho → R Bool := fun ρ => noX (p ρ)
theorem pe_some {e : Expr} {t : Hp → Hp → TE} (h : ∀ a b, PE X e (t a b)) : PE X e (fun σ H Q => ∃ a b, t a b σ H Q) := ⟨fun pins s σ H Q I ⟨a, b, q⟩ => (h a b).run pins s σ H Q I q⟩
theorem pt_some {e : Expr} {t : Hp → Hp → TT} (h : ∀ a b, PT X e (t a b)) : PT X e (fun σ H Q => ∃ a b, t a b σ H Q) := ⟨fun pins s σ H Q I ⟨a, b, q⟩ => (h a b).run pins s σ H Q I q⟩
theorem d_scal (h : ∀ Fb Hb : Hp, DE X ⟨Fb, []⟩ Hb [] W0 e g) : DE X F0 H0 m W e (gScal g) := by
  refine pe_imp (pe_some h) fun σ H Q ⟨ρ, F, r, q⟩ => ?_
  obtain ⟨F1, r1, s1⟩ := r.all
  refine ⟨F1, H, ρ, F1, r1, ?_⟩
  unfold gScal at q
  cases z : g ρ with
  | ex x => rw [z] at q; exact q.elim
  | st => rw [z] at q; exact q.elim
  | ok d =>
    rw [z] at q
    have q' : after X.K W σ F H (noX (scalD d)) Q := q
    cases z2 : scalD d with
    | ex x => rw [z2] at q'; exact q'.elim
    | st => rw [z2] at q'; exact q'.elim
    | ok d2 =>
      rw [z2] at q'
      intro v F2 H2 x2 i2
      exact q' v F H2 (back_ext r x2) (scal_is z2 i2)
theorem t_scal {p : Rho → R Bool} (h : ∀ Fb Hb : Hp, DT X ⟨Fb, []⟩ Hb [] W0 e p) : DT X F0 H0 m W e (bScal p) := by
  refine pt_imp (pt_some h) fun σ H Q ⟨ρ, F, r, q⟩ => ?_
  obtain ⟨F1, r1, s1⟩ := r.all
  refine ⟨F1, H, ρ, F1, r1, ?_⟩
  unfold bScal at q
  cases z : p ρ with
  | ex x => rw [z] at q; exact q.elim
  | st => rw [z] at q; exact q.elim
  | ok d =>
    rw [z] at q
    exact fun F2 H2 x2 => q F H2 (back_ext r x2)
end
/-! ### defs -/
def startR (n : Nat) (ds : List D) : Rho := ds.map some ++ List.replicate (n - ds.length) none
def endS : S → R D
  | .rt d => .ok d
  | .rn d => .ok d
  | .nx _ => .ok .non
  | .ex x _ => .ex x
  | _ => .st
def endN : S → R D
  | .rn d => .ok d
  | .ex x _ => .ex x
  | _ => .st
/-- the def with n names, np of them parameters -/
def runS (n np : Nat) (s : Rho → S) (ds : List D) : R D := if ds.length = np then endS (s (startR n ds)) else .st
def runN (n np : Nat) (s : Rho → S) (ds : List D) : R D := if ds.length = np then endN (s (startR n ds)) else .st
theorem rep_start {K : PySem.W.Frag} {F H : Hp} {N : List Str} {ds : List D} {vs : List V} {m : List Bool} (l : IsL K F vs ds) (s : Same F H) (hm : m.all (!·) = true) : Rep K ⟨F, []⟩ H m (startR N.length ds) (L2.start N vs) F H := by
  have nm : ∀ i : Nat, m[i]? ≠ some true := fun i z => by
    have := List.all_eq_true.mp hm true (List.mem_of_getElem? z)
    cases this
  refine ⟨?_, s, .refl _, .refl _, fun p h f => f, fun i d a _ => ?_, fun i d _ b => absurd b (nm i), fun i j p d e _ a => absurd a (nm i), fun b hb => nomatch hb⟩
  · unfold startR L2.start
    rw [List.length_append, List.length_append, List.length_map, List.length_map, List.length_replicate, List.length_replicate, l.1]
  · unfold startR at a
    by_cases hi : i < ds.length
    · rw [List.getElem?_append_left (by simpa using hi), List.getElem?_map] at a
      cases e : ds[i]? with
      | none => rw [e] at a; cases a
      | some d' =>
        rw [e] at a
        cases a
        obtain ⟨v, e2, i2⟩ := l.at e
        refine ⟨v, ?_, i2⟩
        unfold L2.start
        rw [List.getElem?_append_left (by rw [List.length_map, l.1]; exact hi), List.getElem?_map, e2]
        rfl
    · rw [List.getElem?_append_right (by simpa using hi), List.getElem?_replicate] at a
      split at a <;> cases a
section
variable {P : Program} {w : World} {K : PySem.W.Frag} {mg : Str → Option Value} {base : Heap} {x qual : Str} {params : Arguments} {body : List Stmt} {scope : Scope} {dvs : List V} {kws : List (Str × V)} {f : Addr} {fd : FuncData}
theorem fn_d {N ps : List Str} {k : Nat} {m m' : List Bool} {s : Rho → S} (n : Nat) (Fn : FunD K x qual params body scope dvs kws f fd) (Sc : FnScope N ps scope) (hn : N.length = n) (hm : m.all (!·) = true)
    (hb : ∀ (cdv : Value) (A : Around) (outer : List Env) (st : Shared) (H : Hp) (E : XK) (Fb : Hp), Room k (A.deeper (envOfC qual scope st.heap.objs.size f cdv)) →
      DSs (cxOf (L2.CX P w) P w K mg base N qual scope f cdv A outer st H E) ⟨Fb, []⟩ H m m' [] (fun cls d _ H => E cls d H) body s) : FnOk P w K mg base (L2.CX P w) (k + 1) f fd ps (spD K (runS n ps.length s)) := by
  subst hn
  refine Fn.ok Sc (fun vs H Q E h => ?_) fun cdv A outer st H vs Q E hr h => ?_
  · obtain ⟨ds, F, l, _, h⟩ := h
    unfold runS at h
    by_cases hd : ds.length = ps.length
    · rw [l.1]; exact hd
    · rw [if_neg hd] at h
      exact h.elim
  · obtain ⟨ds, F, l, sm, h⟩ := h
    refine ⟨_, hb cdv A outer st H E F hr, startR N.length ds, F, rep_start l sm hm, ?_⟩
    unfold runS at h
    by_cases hd : ds.length = ps.length
    · rw [if_pos hd] at h
      cases z : s (startR N.length ds) with
      | nx ρ => rw [z] at h; exact fun σ' F' H' r' _ => h .non F' H' r'.ext0 .non
      | rt d => rw [z] at h; exact fun v F' H' x _ i => h v F' H' x i
      | rm d ρ => rw [z] at h; exact h.elim
      | rn d => rw [z] at h; exact fun p o F' H' x _ e c fn n _ => h (.ref p) (upd F' p o) H' (x.share e fn n) (is_of_c upd_same (c.mono (same_upd fn)))
      | bk ρ => rw [z] at h; exact h.elim
      | ct ρ => rw [z] at h; exact h.elim
      | ex x ρ => rw [z] at h; exact fun cls od σ' F' H' r' _ i => h cls od F' H' r'.ext0 i
      | st => rw [z] at h; exact h.elim
    · rw [if_neg hd] at h
      exact h.elim
theorem fn_n {N ps : List Str} {k : Nat} {m m' : List Bool} {s : Rho → S} (n : Nat) (Fn : FunD K x qual params body scope dvs kws f fd) (Sc : FnScope N ps scope) (hn : N.length = n) (hm : m.all (!·) = true)
    (hb : ∀ (cdv : Value) (A : Around) (outer : List Env) (st : Shared) (H : Hp) (E : XK) (Fb : Hp), Room k (A.deeper (envOfC qual scope st.heap.objs.size f cdv)) →
      DSs (cxOf (L2.CX P w) P w K mg base N qual scope f cdv A outer st H E) ⟨Fb, []⟩ H m m' [] (fun cls d _ H => E cls d H) body s) : FnOk P w K mg base (L2.CX P w) (k + 1) f fd ps (spN K (runN n ps.length s)) := by
  subst hn
  refine Fn.ok Sc (fun vs H Q E h => ?_) fun cdv A outer st H vs Q E hr h => ?_
  · obtain ⟨ds, F, l, _, h⟩ := h
    unfold runN at h
    by_cases hd : ds.length = ps.length
    · rw [l.1]; exact hd
    · rw [if_neg hd] at h
      exact h.elim
  · obtain ⟨ds, F, l, sm, h⟩ := h
    refine ⟨_, hb cdv A outer st H E F hr, startR N.length ds, F, rep_start l sm hm, ?_⟩
    unfold runN at h
    by_cases hd : ds.length = ps.length
    · rw [if_pos hd] at h
      cases z : s (startR N.length ds) with
      | nx ρ => rw [z] at h; exact h.elim
      | rt d => rw [z] at h; exact h.elim
      | rm d ρ => rw [z] at h; exact h.elim
      | rn d => rw [z] at h; exact fun p o F' H' x _ e c fn n _ => h p o F' H' x e c fn n
      | bk ρ => rw [z] at h; exact h.elim
      | ct ρ => rw [z] at h; exact h.elim
      | ex x ρ => rw [z] at h; exact fun cls od σ' F' H' r' _ i => h cls od F' H' r'.ext0 i
      | st => rw [z] at h; exact h.elim
    · rw [if_neg hd] at h
      exact h.elim
/-- a def that hands back its own may be taken as one that hands back what is shared -/
theorem FnOk.ofN {k : Nat} {ps : List Str} {G : List D → R D} (h : FnOk P w K mg base (L2.CX P w) k f fd ps (spN K G)) : FnOk P w K mg base (L2.CX P w) k f fd ps (spD K G) := h.imp fun vs H Q E => spN_of
end
/-- the law's own promise -/
theorem law_sp {K : PySem.W.Frag} {G : List D → R D} {H : Hp} {a : Addr} {ns : List Int} (h : SqL K H a (ns.map V.int)) (hG : G [.list (ns.map D.int)] = .ok (.bl true)) : spD K G [.ref a] H (fun v _ => v = .bl true) fun _ _ _ => False := by
  refine ⟨[.list (ns.map D.int)], H, .cons (is_list h ⟨by rw [List.length_map, List.length_map], fun i x d a b => ?_⟩) .nil, .refl H, ?_⟩
  · rw [List.getElem?_map] at a b
    cases e : ns[i]? with
    | none => rw [e] at a; cases a
    | some z =>
      rw [e] at a b
      cases a
      cases b
      exact .int z
  · rw [hG]
    intro v F' H' x i
    cases i
    rfl
end Pd

/-! Pd8: defs as callers see them; y = [..]; all, any -/
namespace Pd
open PySem PySem.Spec PyProof.Rows L2
/-- the module's def x does G (shared results); CalN: hands back an object of its own -/
structure CalF (P : Program) (w : World) (K : PySem.W.Frag) (mg : Str → Option Value) (base : Heap) (k : Nat) (x : Str) (ps : List Str) (G : List D → R D) : Prop where
  ex : ∃ f fd, FnOk P w K mg base (L2.CX P w) k f fd ps (spD K G) ∧ mg x = some (.ref f) ∧ PySem.W.keepIn K (.ref f) = true ∧ Binds K fd ps []
structure CalN (P : Program) (w : World) (K : PySem.W.Frag) (mg : Str → Option Value) (base : Heap) (k : Nat) (x : Str) (ps : List Str) (G : List D → R D) : Prop where
  ex : ∃ f fd, FnOk P w K mg base (L2.CX P w) k f fd ps (spN K G) ∧ mg x = some (.ref f) ∧ PySem.W.keepIn K (.ref f) = true ∧ Binds K fd ps []
/-- a def as the top left it -/
structure DefF (K : PySem.W.Frag) (mg : Str → Option Value) (x : Str) (st : Stmt) (ps : List Str) : Prop where
  ex : ∃ f fd, FunD K x x (defArgs st) (defBody st) (defScope st) [] [] f fd ∧ mg x = some (.ref f) ∧ Binds K fd ps []
section
variable {P : Program} {w : World} {K : PySem.W.Frag} {mg : Str → Option Value} {base : Heap} {k j : Nat} {x : Str} {ps : List Str} {G : List D → R D} {st : Stmt}
theorem CalN.cal (h : CalN P w K mg base k x ps G) : CalF P w K mg base k x ps G := by
  obtain ⟨f, fd, a, b, c, d⟩ := h.ex
  exact ⟨f, fd, FnOk.ofN a, b, c, d⟩
theorem cal_d {N : List Str} {m m' : List Bool} {s : Rho → S} (n : Nat) (Df : DefF K mg x st ps) (Sc : FnScope N ps (defScope st)) (hn : N.length = n) (hm : m.all (!·) = true)
    (hb : ∀ (f : Addr) (cdv : Value) (A : Around) (outer : List Env) (sh : Shared) (H : Hp) (E : XK) (Fb : Hp), Room k (A.deeper (envOfC x (defScope st) sh.heap.objs.size f cdv)) →
      DSs (cxOf (L2.CX P w) P w K mg base N x (defScope st) f cdv A outer sh H E) ⟨Fb, []⟩ H m m' [] (fun cls d _ H => E cls d H) (defBody st) s) : CalF P w K mg base (k + 1) x ps (runS n ps.length s) := by
  obtain ⟨f, fd, F, gm, b⟩ := Df.ex
  exact ⟨f, fd, fn_d n F Sc hn hm (hb f), gm, F.kp, b⟩
theorem cal_n {N : List Str} {m m' : List Bool} {s : Rho → S} (n : Nat) (Df : DefF K mg x st ps) (Sc : FnScope N ps (defScope st)) (hn : N.length = n) (hm : m.all (!·) = true)
    (hb : ∀ (f : Addr) (cdv : Value) (A : Around) (outer : List Env) (sh : Shared) (H : Hp) (E : XK) (Fb : Hp), Room k (A.deeper (envOfC x (defScope st) sh.heap.objs.size f cdv)) →
      DSs (cxOf (L2.CX P w) P w K mg base N x (defScope st) f cdv A outer sh H E) ⟨Fb, []⟩ H m m' [] (fun cls d _ H => E cls d H) (defBody st) s) : CalN P w K mg base (k + 1) x ps (runN n ps.length s) := by
  obtain ⟨f, fd, F, gm, b⟩ := Df.ex
  exact ⟨f, fd, fn_n n F Sc hn hm (hb f), gm, F.kp, b⟩
end
section
variable {X : Cx} {F0 : Bs} {H0 : Hp} {m m' mL : List Bool} {W : WX} {pos : Pos} {e : Expr} {es : List Expr} {g : Rho → R D} {t : Rho → R (List D)} {k j : Nat} {x : Str} {ps : List Str} {G : List D → R D} {p : Pos}
theorem d_c (C : CalF X.prog X.w X.K X.mg X.base k x ps G) (hr : Room j X.A) (hj : k ≤ j) (tk : Takes X W) (ha : DA X F0 H0 m W (e :: es) t) (hg : Gl X x := by rfl)
    (hdb : (x == ("__debug__" : Str)) = false := by decide) (he : starEach (e :: es) X.env = (false, eval e X.env) :: starEach es X.env := by rfl) (hpl : (backTo pos (starEach es X.env)).any (·.1) = false := by rfl) : DE X F0 H0 m W (.Call (.Name x p) (e :: es) [] pos) (gA G t) := by
  obtain ⟨f, fd, a, b, c, d⟩ := C.ex
  exact d_call a (hr.mono hj) b c d tk ha hg hdb he hpl
theorem n_c (C : CalN X.prog X.w X.K X.mg X.base k x ps G) (hr : Room j X.A) (hj : k ≤ j) (tk : Takes X W) (ha : DA X F0 H0 m W (e :: es) t) (hg : Gl X x := by rfl)
    (hdb : (x == ("__debug__" : Str)) = false := by decide) (he : starEach (e :: es) X.env = (false, eval e X.env) :: starEach es X.env := by rfl) (hpl : (backTo pos (starEach es X.env)).any (·.1) = false := by rfl) : DN X F0 H0 m W (.Call (.Name x p) (e :: es) [] pos) (gA G t) := by
  obtain ⟨f, fd, a, b, c, d⟩ := C.ex
  exact n_call a (hr.mono hj) b c d tk ha hg hdb he hpl
/-- f() -/
def gC0 (G : List D → R D) : Rho → R D := fun _ => noX (G [])
theorem d_c0 (C : CalF X.prog X.w X.K X.mg X.base k x ps G) (hr : Room j X.A) (hj : k ≤ j) (hg : Gl X x := by rfl) (hdb : (x == ("__debug__" : Str)) = false := by decide) : DE X F0 H0 m W (.Call (.Name x p) [] [] pos) (gC0 G) := by
  obtain ⟨f, fd, a, b, c, d⟩ := C.ex
  refine pe_imp (pe_call0 a (hr.mono hj) hg b c d .nil passL hdb) fun σ H Q ⟨ρ, F, r, h⟩ => ⟨[], F, .nil, r.fh, ?_⟩
  unfold gC0 at h
  cases z : G [] with
  | ok d => rw [z] at h; exact h
  | ex x => rw [z] at h; exact h.elim
  | st => rw [z] at h; exact h.elim
/-! ### y = [..] on one line -/
theorem tN_of {K : PySem.W.Frag} {σ : L2.St} {H : Hp} {Q : VK} (h : tSem K F0 H0 m W g σ H Q) : tSemN K F0 H0 m W g σ H Q := by
  obtain ⟨ρ, F, r, h⟩ := h
  exact ⟨ρ, F, r, afterN_of h⟩
section
variable {elt tg iter : Expr} {ifs : List Expr} {gi : Rho → R (List D)} {τ : D → Rho → R Rho} {q : Rho → R Bool} {ge : Rho → R D} {m2 : List Bool}
theorem s_setLcN (i : Nat) {y : Str} {py : Pos} {scope : Scope} {own : List (Str × Nat)} {is : List Nat} {spos : Pos} (hc : X.calm = true) (hN : X.N.Nodup) (hi : DI X F0 H0 m W tg iter gi) (ok : blkC X.N X.env.scope scope own = true)
    (hg : ∀ (s : Shared) (H : Hp) (C : Addr) (cl : List (Str × Addr)) (fp : List Addr), DG (X.blk s H scope (compEnvC scope cl C X.env) fp) F0 H0 m m2 is tg τ)
    (ht : ∀ (s : Shared) (H : Hp) (C : Addr) (cl : List (Str × Addr)) (fp : List Addr), DTs (X.blk s H scope (compEnvC scope cl C X.env) fp) F0 H0 m2 W0 ifs q)
    (he : ∀ (s : Shared) (H : Hp) (C : Addr) (cl : List (Str × Addr)) (fp : List Addr), DE (X.blk s H scope (compEnvC scope cl C X.env) fp) F0 H0 m2 W0 elt ge) (hv : ∀ i ∈ is, i ∈ own.map (·.2)) (hm : i < m.length := by decide) (hb : F0.ok i := by exact Bs.ok_of rfl) (hw : ((own.map (·.2)).all fun i => F0.bor.all fun b => !(b.1 == i)) = true := by rfl) (hy : X.N[i]? = some y := by rfl) (hyl : X.env.scope.names.lookup y = some .local := by rfl)
    (hsw : swapsWith (.ListComp elt [⟨tg, iter, ifs, 0⟩] scope pos) (some (.Name y py)) spos.line X.env = pure true := by exact sw_true rfl rfl rfl (by decide +kernel)) (hs : ∀ x, foldedSetIterable iter X.env x = pure x := by intro _; rfl) :
    DS X F0 H0 m (m.set i true) mL W (.Assign [.Name y py] (.ListComp elt [⟨tg, iter, ifs, 0⟩] scope pos) spos) (sSet i (gLc gi (own.map (·.2)) τ q ge)) :=
  ps_imp (ps_setLc hc hN hy hyl hsw hi (blkOk_by ok) hg ht he hs) fun E σ H ⟨ρ, F, r, h⟩ => lc_sem (ok_all hw) hv σ H _ (semSN (k := fun d => .nx (ρ.set i (some d))) r h fun d p o F1 H1 e c f n s r1 _ h1 => h1 _ F1 H1 (r1.setN i hb hm e c f (r.h0.free n) fun j q e' a b c' w => by
    obtain ⟨q', o', e1, e2, _⟩ := r.own j e' b a
    rw [c'] at e1
    cases e1
    rw [w, n] at e2
    cases e2) (.refl F1))
theorem s_setLc (i : Nat) {y : Str} {py : Pos} {scope : Scope} {own : List (Str × Nat)} {is : List Nat} {spos : Pos} (hc : X.calm = true) (hN : X.N.Nodup) (hi : DI X F0 H0 m W tg iter gi) (ok : blkC X.N X.env.scope scope own = true)
    (hg : ∀ (s : Shared) (H : Hp) (C : Addr) (cl : List (Str × Addr)) (fp : List Addr), DG (X.blk s H scope (compEnvC scope cl C X.env) fp) F0 H0 m m2 is tg τ)
    (ht : ∀ (s : Shared) (H : Hp) (C : Addr) (cl : List (Str × Addr)) (fp : List Addr), DTs (X.blk s H scope (compEnvC scope cl C X.env) fp) F0 H0 m2 W0 ifs q)
    (he : ∀ (s : Shared) (H : Hp) (C : Addr) (cl : List (Str × Addr)) (fp : List Addr), DE (X.blk s H scope (compEnvC scope cl C X.env) fp) F0 H0 m2 W0 elt ge) (hv : ∀ i ∈ is, i ∈ own.map (·.2)) (hb : F0.ok i := by exact Bs.ok_of rfl) (hw : ((own.map (·.2)).all fun i => F0.bor.all fun b => !(b.1 == i)) = true := by rfl) (hy : X.N[i]? = some y := by rfl) (hyl : X.env.scope.names.lookup y = some .local := by rfl)
    (hsw : swapsWith (.ListComp elt [⟨tg, iter, ifs, 0⟩] scope pos) (some (.Name y py)) spos.line X.env = pure true := by exact sw_true rfl rfl rfl (by decide +kernel)) (hs : ∀ x, foldedSetIterable iter X.env x = pure x := by intro _; rfl) :
    DS X F0 H0 m (m.set i false) mL W (.Assign [.Name y py] (.ListComp elt [⟨tg, iter, ifs, 0⟩] scope pos) spos) (sSet i (gLc gi (own.map (·.2)) τ q ge)) :=
  ps_imp (ps_setLc hc hN hy hyl hsw hi (blkOk_by ok) hg ht he hs) fun E σ H ⟨ρ, F, r, h⟩ => lc_sem (ok_all hw) hv σ H _ (tN_of (semS (k := fun d => .nx (ρ.set i (some d))) r h fun d v F1 H1 i1 r1 _ h1 => h1 _ F1 H1 (r1.set i hb i1) (.refl F1)))
end
/-! ### all, any -/
def bools : List D → Option (List Bool)
  | [] => some []
  | .bl b :: r => (bools r).map (b :: ·)
  | _ :: _ => none
theorem bools_is {K : PySem.W.Frag} {F : Hp} : ∀ {ds : List D} {vs : List V} {ys : List Bool}, IsL K F vs ds → bools ds = some ys → vs = ys.map V.bl
  | [], vs, ys, l, h => by cases h; exact l.unnil
  | d :: ds, vs, ys, l, h => by
    obtain ⟨x, xr, rfl, i, t⟩ := l.uncons
    cases d with
    | bl s =>
      cases i
      have h' : (bools ds).map (s :: ·) = some ys := h
      cases e : bools ds with
      | none => rw [e] at h'; cases h'
      | some zs =>
        rw [e] at h'
        cases h'
        rw [bools_is t e]
        rfl
    | _ => cases h
def allD : List D → R D
  | [.list ds] => match bools ds with
    | some bs => .ok (.bl (bs.all id))
    | none => .st
  | _ => .st
def anyD : List D → R D
  | [.list ds] => match bools ds with
    | some bs => .ok (.bl (bs.any id))
    | none => .st
  | _ => .st
theorem c_all {K : PySem.W.Frag} : CallD K allD (rAll K) := by
  intro W σ F H ds vs Q s l q
  match ds, l, q with
  | [.list es], l, q =>
    obtain ⟨v, rfl, i⟩ := one_of l
    obtain ⟨a, xs, rfl, h, t⟩ := i.list_inv
    have q' : after K W σ F H (match bools es with | some bs => .ok (.bl (bs.all id)) | none => .st) Q := q
    cases e : bools es with
    | none => rw [e] at q'; exact q'.elim
    | some bs =>
      rw [e] at q'
      have e2 := bools_is t e
      subst e2
      exact ⟨a, bs, rfl, s.seq h, after.now q' s (.bl _)⟩
theorem c_any {K : PySem.W.Frag} : CallD K anyD (rAny K) := by
  intro W σ F H ds vs Q s l q
  match ds, l, q with
  | [.list es], l, q =>
    obtain ⟨v, rfl, i⟩ := one_of l
    obtain ⟨a, xs, rfl, h, t⟩ := i.list_inv
    have q' : after K W σ F H (match bools es with | some bs => .ok (.bl (bs.any id)) | none => .st) Q := q
    cases e : bools es with
    | none => rw [e] at q'; exact q'.elim
    | some bs =>
      rw [e] at q'
      have e2 := bools_is t e
      subst e2
      exact ⟨a, bs, rfl, s.seq h, after.now q' s (.bl _)⟩
end
/-! ### op= -/
def iaddD : D → D → R D
  | .int i, .int j => .ok (.int (i + j))
  | .str a, .str b => if a.length + b.length ≤ sizeLine then .ok (.str (a ++ b)) else .st
  | _, _ => .st
def rIadd : R2 := fun x y H Q => rI0 (fun i j => .int (i + j)) x y H Q ∨ ∃ i j, x = .str i ∧ y = .str j ∧ i.length + j.length ≤ sizeLine ∧ Q (.str (i ++ j)) H
theorem iop_addD {X : Cx} : OpR X (inplaceOp .Add) rIadd := iop_add.or iop_add_str
theorem o_iadd {K : PySem.W.Frag} : OpD K iaddD rIadd := by
  intro W σ F H d e v u Q s i j q
  cases i with
  | int k =>
    cases j with
    | int l => exact .inl ⟨k, l, rfl, rfl, after.now q s (.int _)⟩
    | _ => exact q.elim
  | str x =>
    cases j with
    | str y =>
      have q' : after K W σ F H (if x.length + y.length ≤ sizeLine then .ok (.str (x ++ y)) else .st) Q := q
      by_cases hc : x.length + y.length ≤ sizeLine
      · rw [if_pos hc] at q'
        exact .inr ⟨x, y, rfl, rfl, hc, after.now q' s (.str _)⟩
      · rw [if_neg hc] at q'
        exact q'.elim
    | _ => exact q.elim
  | _ => exact q.elim
theorem hu65 {A : Around} {k : Nat} (hr : Room k A) : A.units + 65 < cLine := by
  have := hr.un
  omega
/-! ### the law's end -/
theorem walk_d {l : PySem.W.OpenLaw} {n k : Nat} {q : Program} {loose : List Str} {XP : (Str → Option Value) → Heap → Prop} {YP : World → Heap → Prop} {d : DefRec} {x : Str} {G : List D → R D}
    (hn : l.most = some n) (hz : n ≤ sizeLine) (hdf : d.params.defaults = []) (hr : Room k callerA) (hG : ∀ ns : List Int, ns.length ≤ n → G [.list (ns.map D.int)] = .ok (.bl true))
    (hF : ∀ (w : World) (mg : Str → Option Value) (fa : Addr) (h : Heap), YP w h → h.Ns mainGlobals mg → mg d.name = some (.ref fa) →
      ∃ (K : PySem.W.Frag) (fd : FuncData), K.In h ∧ (∀ (s : Shared) (u : Value), BindsTo s fd ⟨[u], []⟩ [(x, u)]) ∧ ∀ base : Heap, K.In base → base.Ns mainGlobals mg → FnOk l.prog w K mg base (L2.CX l.prog w) k fa fd [x] (spD K G)) :
    PySem.W.WalkO q loose XP YP l.row.toRowW d [] (fun f vs => PySem.call f vs) := by
  refine Att.attach_call hn hdf ?_
  intro w s₀ s₁ mg mb fa o pm cd doc a vs ns Gr Y h1 h2 h3 hm ho hi hl hg
  obtain ⟨K, fd, KX, hb, ok⟩ := hF w mg fa _ Y Gr.T.g hm
  refine law_call (CX := L2.CX l.prog w) KX Gr.T.g Gr.T.b Gr.T.builtins Gr.T.nolimit hg ho hi (Nat.le_trans hl hz) hr ok hb (fun H _ hS => law_sp hS (hG ns hl)) fun H e s' z => ?_
  obtain ⟨_, _, _, _, _, _, _, _, _, _, _, _, z⟩ := z
  exact z.elim
/-- turns enough for a while that lowers the int in slot i -/
def fuelInt (i : Nat) : Rho → Nat := fun ρ => match gVar i ρ with
  | .ok (.int n) => n.toNat + 1
  | _ => 0
end Pd

/-! Pd9: objects that are read: fields, methods, objects of classes without __init__; raise, try -/
namespace Pd
open PySem PySem.Spec PyProof.Rows L2
section
variable {X : Cx} {F0 : Bs} {H0 : Hp} {m m' mL : List Bool} {W : WX} {pos : Pos} {e o : Expr} {es : List Expr} {g go : Rho → R D} {t : Rho → R (List D)} {k j : Nat} {x : Str} {ps : List Str} {G : List D → R D} {p : Pos}
/-! ### fields -/
def fldD (cs : List Str) (f : Str) : D → R D
  | .obj c fs => if cs.contains c = true then (match fs.lookup f with
    | some d => .ok d
    | none => .st) else .st
  | _ => .st
def gFld (cs : List Str) (f : Str) (g : Rho → R D) : Rho → R D := fun ρ => (g ρ).bind (fldD cs f)
theorem isK_lookup {K : PySem.W.Frag} {F : Hp} {f : Str} : ∀ {xs : List (Str × V)} {ds : List (Str × D)}, IsK K F xs ds → (∀ d, ds.lookup f = some d → ∃ v, xs.lookup f = some v ∧ Is K F v d) ∧ (ds.lookup f = none → xs.lookup f = none)
  | [], [], _ => ⟨fun d h => by simp at h, fun _ => rfl⟩
  | [], _ :: _, h => by have := h.1; simp at this
  | _ :: _, [], h => by have := h.1; simp at this
  | (a, v) :: xs, (b, d) :: ds, h => by
    obtain ⟨l, e1, e2⟩ := h
    have hk : a = b := e1 0 (a, v) (b, d) rfl rfl
    have hv : Is K F v d := e2 0 (a, v) (b, d) rfl rfl
    have tl : IsK K F xs ds := ⟨by simpa using l, fun i y z q w => e1 (i + 1) y z (by simpa using q) (by simpa using w), fun i y z q w => e2 (i + 1) y z (by simpa using q) (by simpa using w)⟩
    subst hk
    obtain ⟨i1, i2⟩ := isK_lookup (f := f) tl
    by_cases hf : f = a
    · subst hf
      refine ⟨fun z hz => ?_, fun hz => ?_⟩
      · rw [List.lookup_cons_self] at hz ⊢
        cases hz
        exact ⟨v, rfl, hv⟩
      · rw [List.lookup_cons_self] at hz
        cases hz
    · have hb : (f == a) = false := beq_eq_false_iff_ne.mpr hf
      refine ⟨fun z hz => ?_, fun hz => ?_⟩
      · simp only [List.lookup, hb] at hz ⊢
        exact i1 z hz
      · simp only [List.lookup, hb] at hz ⊢
        exact i2 hz
theorem d_fld {f : Str} (cs : List Str) (hc : ∀ c ∈ cs, Cls X.K (He.ga X.K c) ∧ NoAttr X.K (He.ga X.K c) f) (he : DE X F0 H0 m W e g) (hb : attributeBase e f X.env (eval e X.env) = eval e X.env := by rfl) : DE X F0 H0 m W (.Attribute e f pos) (gFld cs f g) := by
  refine pe_imp (pe_fld he hb) fun σ H Q ⟨ρ, F, r, h⟩ => ?_
  refine sem_bind (k := fldD cs f) r h fun d v F1 H1 _ i1 r1 h1 => ?_
  cases d with
  | obj c fs =>
    have h2 : after X.K W σ F1 H1 (if cs.contains c = true then (match fs.lookup f with
      | some d => .ok d
      | none => .st) else .st) Q := h1
    by_cases hz : cs.contains c = true
    · rw [if_pos hz] at h2
      obtain ⟨a, dx, xs, rfl, ha, ik⟩ := i1.obj_inv
      obtain ⟨cl, na⟩ := hc c (by simpa using hz)
      cases q : fs.lookup f with
      | none => rw [q] at h2; exact h2.elim
      | some d =>
        rw [q] at h2
        obtain ⟨v, e1, e2⟩ := (isK_lookup ik).1 d q
        exact ⟨a, _, dx, xs, v, rfl, r1.fh a _ ha, cl, na, e1, after.now h2 r1.fh e2⟩
    · rw [if_neg hz] at h2
      exact h2.elim
  | _ => exact h1.elim
/-! ### methods -/
/-- class c's method does G; dv: the defaults that fill up -/
structure CalM (P : Program) (w : World) (K : PySem.W.Frag) (mg : Str → Option Value) (base : Heap) (k : Nat) (c m : Str) (G : List D → R D) : Prop where
  ex : ∃ f fd ps ds dvs dv, FnOk P w K mg base (L2.CX P w) k f fd ps (spD K dv) ∧ Cls K (He.ga K c) ∧ Meth K (He.ga K c) m f ∧ Binds K fd ps ds ∧ Vals dvs ds ∧ ∃ ed : List D, (∀ H, IsL K H dvs ed) ∧ ∀ as, G as = dv (as ++ ed)
structure CalMN (P : Program) (w : World) (K : PySem.W.Frag) (mg : Str → Option Value) (base : Heap) (k : Nat) (c m : Str) (G : List D → R D) : Prop where
  ex : ∃ f fd ps ds dvs dv, FnOk P w K mg base (L2.CX P w) k f fd ps (spN K dv) ∧ Cls K (He.ga K c) ∧ Meth K (He.ga K c) m f ∧ Binds K fd ps ds ∧ Vals dvs ds ∧ ∃ ed : List D, (∀ H, IsL K H dvs ed) ∧ ∀ as, G as = dv (as ++ ed)
theorem CalMN.cal {P : Program} {w : World} {K : PySem.W.Frag} {mg : Str → Option Value} {base : Heap} {c m : Str} (h : CalMN P w K mg base k c m G) : CalM P w K mg base k c m G := by
  obtain ⟨f, fd, ps, ds, dvs, dv, a, b⟩ := h.ex
  exact ⟨f, fd, ps, ds, dvs, dv, FnOk.ofN a, b⟩
theorem run_fnW {CX : CXT} {f : Addr} {fd : FuncData} {sp : Sp} {ds : List Value} {dvs : List V} {E : L2.St → XK} {pins : List (Addr × Obj)} {σ : L2.St} {H : Hp} {s : Shared} {Q : VK} {us : List Value} {vs : List V} (F : FnOk X.prog X.w X.K X.mg X.base CX k f fd ps sp) (hr : Room k X.A) (hb : Binds X.K fd ps ds) (hd : Vals dvs ds) (hx : PassesAt CX X σ (E σ))
    (I : Inv X pins σ H s) (r : Vals vs us) (h : sp (vs ++ dvs) H Q (E σ)) : wpAny (model X.prog X.w) X.A (call (.ref f) us) (EP X pins σ Q) X.xe s := by
  have r2 : Vals (vs ++ dvs) (us ++ ds) := r.append hd
  have hl : (us ++ ds).length = ps.length := by rw [← r2.length]; exact F.len _ _ _ _ h
  refine wpAny_call (codeAny_mono (F.run X.A X.stack s H ⟨us, []⟩ (us ++ ds) (vs ++ dvs) Q (E σ) hr I.env0 (hb s us I.kIn hl) r2 h) fun r s' hq => ?_)
  cases r with
  | error e => exact hx pins H s e s' I hq
  | ok fl =>
    cases fl with
    | ret u => exact I.after hq
    | next => exact False.elim hq
    | brk => exact False.elim hq
    | cont => exact False.elim hq
/-- o.m(..) of an instance of the class at C, what it lets out told at the slots -/
def tMethW (C : Addr) (m : Str) (sp : Sp) (dvs : List V) (E : L2.St → XK) (ta : TE) (t : TA) : TE := fun σ H Q => ta σ H fun x H1 => ∃ a dx fs, x = .ref a ∧ H1 a = some (.ins C dx fs) ∧ fs.lookup m = none ∧
  t σ H1 fun vs H2 => sp (x :: (vs ++ dvs)) H2 Q (E σ)
section
variable {CX : CXT} {C f : Addr} {fd : FuncData} {sp : Sp} {dvs : List V} {ds : List Value} {E : L2.St → XK} {mn : Str} {ta : TE} {tt : TA} {apos : Pos}
theorem pe_methW {pl : Sem Bool} (he : PE X o ta) (c : Cls X.K C) (hm : Meth X.K C mn f) (F : FnOk X.prog X.w X.K X.mg X.base CX k f fd ps sp) (hr : Room k X.A) (hb : Binds X.K fd ps ds) (hd : Vals dvs ds) (hx : ∀ σ, PassesAt CX X σ (E σ)) (ha : PA X (e :: es) tt)
    (hst : starEach (e :: es) X.env = (false, eval e X.env) :: starEach es X.env) (hpl : (backTo pos (starEach es X.env)).any (·.1) = false)
    (ht : eval (.Call (.Attribute o mn apos) (e :: es) [] pos) X.env = (do
      let ov ← eval o X.env
      standAt apos.atName
      let (f, first) ← holding [ov] (getMethod ov mn pl)
      callWith pos f first (backTo pos (starEach (e :: es) X.env)) (backToKw pos (keywordEach [] X.env)))) :
    PE X (.Call (.Attribute o mn apos) (e :: es) [] pos) (tMethW C mn sp dvs E ta tt) := by
  refine ⟨fun pins s σ H Q I h => ?_⟩
  refine PySem.W.methodCall_KW (pl := pl) (thn (he.run pins s σ H _ I h) fun u s1 ⟨x, H1, I1, rx, a, dx, fs, ex, ea, l, q⟩ => ?_) ht
  subst ex
  obtain rfl : u = Value.ref a := rx
  refine getmeth_ok I1 ea c hm l ?_
  refine PySem.W.callWith_K (first := [.ref a]) (h₀ := X.base) I.ok.mod.kin hm.kp (thn (ha.run pos pins s1 σ H1 _ I1 q) fun us s2 ⟨vs, H2, I2, r, q2⟩ => ⟨I2.kIn, ?_⟩) hst hpl
  exact run_fnW (us := .ref a :: us) (vs := .ref a :: vs) F hr hb hd (hx σ) I2 (.cons rfl r) q2
theorem pe_methW0 {pl : Sem Bool} (he : PE X o ta) (c : Cls X.K C) (hm : Meth X.K C mn f) (F : FnOk X.prog X.w X.K X.mg X.base CX k f fd ps sp) (hr : Room k X.A) (hb : Binds X.K fd ps ds) (hd : Vals dvs ds) (hx : ∀ σ, PassesAt CX X σ (E σ))
    (ht : eval (.Call (.Attribute o mn apos) [] [] pos) X.env = (do
      let ov ← eval o X.env
      standAt apos.atName
      let (f, first) ← holding [ov] (getMethod ov mn pl)
      callWith pos f first (backTo pos (starEach [] X.env)) (backToKw pos (keywordEach [] X.env)))) :
    PE X (.Call (.Attribute o mn apos) [] [] pos) (tMethW C mn sp dvs E ta tNil) := by
  refine ⟨fun pins s σ H Q I h => ?_⟩
  refine PySem.W.methodCall_KW (pl := pl) (thn (he.run pins s σ H _ I h) fun u s1 ⟨x, H1, I1, rx, a, dx, fs, ex, ea, l, q⟩ => ?_) ht
  subst ex
  obtain rfl : u = Value.ref a := rx
  refine getmeth_ok I1 ea c hm l ?_
  exact PySem.W.callWith_K0 (first := [.ref a]) I1.kIn hm.kp (run_fnW (us := [.ref a]) (vs := [.ref a]) F hr hb hd (hx σ) I1 (.cons rfl .nil) q)
end
/-- which def an object's method is -/
def metD (tb : List (Str × (List D → R D))) (mn : Str) (d : D) (k : (List D → R D) → R D) : R D := match d with
  | .obj c fs => (match fs.lookup mn with
    | some _ => .st
    | none => match tb.lookup c with
      | some G => k fun as => G (d :: as)
      | none => .st)
  | _ => .st
def gMeth (tb : List (Str × (List D → R D))) (mn : Str) (go : Rho → R D) (t : Rho → R (List D)) : Rho → R D := fun ρ => (go ρ).bind fun d => metD tb mn d fun G => (t ρ).bind G
theorem lookup_mem {α : Type} {c : Str} {G : α} : ∀ {l : List (Str × α)}, l.lookup c = some G → (c, G) ∈ l
  | (a, b) :: r, h => by
    by_cases hc : c = a
    · subst hc
      rw [List.lookup_cons_self] at h
      cases h
      simp
    · have hb : (c == a) = false := beq_eq_false_iff_ne.mpr hc
      simp only [List.lookup, hb] at h
      exact List.mem_cons_of_mem _ (lookup_mem h)
theorem gMeth_row {tb : List (Str × (List D → R D))} {mn : Str} {ρ : Rho} (hne : tb ≠ []) (hs : gMeth tb mn go t ρ ≠ .st) : ∃ q ∈ tb, gMeth [q] mn go t ρ = gMeth tb mn go t ρ := by
  unfold gMeth at hs ⊢
  cases z : go ρ with
  | st => rw [z] at hs; exact absurd rfl hs
  | ex x =>
    obtain ⟨q, hq⟩ := List.exists_mem_of_ne_nil _ hne
    exact ⟨q, hq, rfl⟩
  | ok d =>
    rw [z] at hs
    cases d with
    | obj c fs =>
      have hs2 : (match fs.lookup mn with
        | some _ => R.st
        | none => match tb.lookup c with
          | some G => (t ρ).bind fun as => G (.obj c fs :: as)
          | none => R.st) ≠ .st := hs
      cases z2 : fs.lookup mn with
      | some _ => rw [z2] at hs2; exact absurd rfl hs2
      | none =>
        rw [z2] at hs2
        cases z3 : tb.lookup c with
        | none => rw [z3] at hs2; exact absurd rfl hs2
        | some G =>
          refine ⟨(c, G), lookup_mem z3, ?_⟩
          show (match fs.lookup mn with
            | some _ => R.st
            | none => match List.lookup c [(c, G)] with
              | some G => (t ρ).bind fun as => G (.obj c fs :: as)
              | none => R.st) = (match fs.lookup mn with
            | some _ => R.st
            | none => match tb.lookup c with
              | some G => (t ρ).bind fun as => G (.obj c fs :: as)
              | none => R.st)
          rw [z2, z3, List.lookup_cons_self]
    | _ => exact absurd rfl hs
theorem pe_mem {α : Type} {l : List α} {tt : α → TE} (h : ∀ q ∈ l, PE X e (tt q)) : PE X e (fun σ H Q => ∃ q, q ∈ l ∧ tt q σ H Q) := ⟨fun pins s σ H Q I ⟨q, hq, z⟩ => (h q hq).run pins s σ H Q I z⟩
theorem d_meth {tb : List (Str × (List D → R D))} {mn : Str} (h : ∀ q ∈ tb, DE X F0 H0 m W e (gMeth [q] mn go t)) (hne : tb ≠ [] := by simp) : DE X F0 H0 m W e (gMeth tb mn go t) :=
  pe_imp (pe_mem h) fun σ H Q ⟨ρ, F, r, q⟩ => by
    by_cases hs : gMeth tb mn go t ρ = .st
    · rw [hs] at q
      exact q.elim
    · obtain ⟨z, hz, ez⟩ := gMeth_row hne hs
      exact ⟨z, hz, ρ, F, r, by rw [ez]; exact q⟩
theorem n_meth {tb : List (Str × (List D → R D))} {mn : Str} (h : ∀ q ∈ tb, DN X F0 H0 m W e (gMeth [q] mn go t)) (hne : tb ≠ [] := by simp) : DN X F0 H0 m W e (gMeth tb mn go t) :=
  pe_imp (pe_mem h) fun σ H Q ⟨ρ, F, r, q⟩ => by
    by_cases hs : gMeth tb mn go t ρ = .st
    · rw [hs] at q
      exact q.elim
    · obtain ⟨z, hz, ez⟩ := gMeth_row hne hs
      exact ⟨z, hz, ρ, F, r, by rw [ez]; exact q⟩
theorem meth_sem {new : Bool} {mn c : Str} {dv : List D → R D} {dvs : List V} {ed : List D} (he : ∀ H, IsL X.K H dvs ed) (hG : ∀ as, G as = dv (as ++ ed)) (σ : L2.St) (H : Hp) (Q : VK)
    (h : if new = true then tSemN X.K F0 H0 m W (gMeth [(c, G)] mn go t) σ H Q else tSem X.K F0 H0 m W (gMeth [(c, G)] mn go t) σ H Q) :
    tMethW (He.ga X.K c) mn (if new = true then spN X.K dv else spD X.K dv) dvs (WE W) (tSem X.K F0 H0 m W go) (tSemA X.K F0 H0 m W t) σ H Q := by
  cases new with
  | true =>
    obtain ⟨ρ, F, r, h⟩ := (show tSemN X.K F0 H0 m W (gMeth [(c, G)] mn go t) σ H Q from h)
    refine sem_bindN (k := fun d => metD [(c, G)] mn d fun G => (t ρ).bind G) r h fun d v F1 H1 _ i1 r1 h1 => ?_
    cases d with
    | obj c' fs =>
      obtain ⟨a, dx, xs, rfl, ha, ik⟩ := i1.obj_inv
      have h2 : afterN X.K W σ F1 H1 (match fs.lookup mn with
        | some _ => .st
        | none => match List.lookup c' [(c, G)] with
          | some G => (t ρ).bind fun as => G (.obj c' fs :: as)
          | none => .st) Q := h1
      cases z : fs.lookup mn with
      | some _ => rw [z] at h2; exact h2.elim
      | none =>
        rw [z] at h2
        by_cases hc : c' = c
        · subst hc
          rw [List.lookup_cons_self] at h2
          refine ⟨a, dx, xs, rfl, r1.fh a _ ha, (isK_lookup ik).2 z, ?_⟩
          refine semA_bindN (k := fun as => G (.obj c' fs :: as)) r1 h2 fun ds vs F2 H2 x2 i2 r2 h3 => ?_
          refine ⟨(.obj c' fs :: ds) ++ ed, F2, ?_, r2.fh, ?_⟩
          · exact IsL.append (.cons (.mono (.obj ha ik.1 ik.2.1 ik.2.2) x2.ff) i2) (he F2)
          · have h4 : afterN X.K W σ F2 H2 (G (.obj c' fs :: ds)) Q := h3
            rw [hG] at h4
            cases z4 : dv ((.obj c' fs :: ds) ++ ed) with
            | ok d => rw [z4] at h4; exact h4
            | ex x => rw [z4] at h4; exact h4
            | st => rw [z4] at h4; exact h4
        · have hb : (c' == c) = false := beq_eq_false_iff_ne.mpr hc
          simp only [List.lookup, hb] at h2
          exact h2.elim
    | _ => exact h1.elim
  | false =>
    obtain ⟨ρ, F, r, h⟩ := (show tSem X.K F0 H0 m W (gMeth [(c, G)] mn go t) σ H Q from h)
    refine sem_bind (k := fun d => metD [(c, G)] mn d fun G => (t ρ).bind G) r h fun d v F1 H1 _ i1 r1 h1 => ?_
    cases d with
    | obj c' fs =>
      obtain ⟨a, dx, xs, rfl, ha, ik⟩ := i1.obj_inv
      have h2 : after X.K W σ F1 H1 (match fs.lookup mn with
        | some _ => .st
        | none => match List.lookup c' [(c, G)] with
          | some G => (t ρ).bind fun as => G (.obj c' fs :: as)
          | none => .st) Q := h1
      cases z : fs.lookup mn with
      | some _ => rw [z] at h2; exact h2.elim
      | none =>
        rw [z] at h2
        by_cases hc : c' = c
        · subst hc
          rw [List.lookup_cons_self] at h2
          refine ⟨a, dx, xs, rfl, r1.fh a _ ha, (isK_lookup ik).2 z, ?_⟩
          refine semA_bind (k := fun as => G (.obj c' fs :: as)) r1 h2 fun ds vs F2 H2 x2 i2 r2 h3 => ?_
          refine ⟨(.obj c' fs :: ds) ++ ed, F2, ?_, r2.fh, ?_⟩
          · exact IsL.append (.cons (.mono (.obj ha ik.1 ik.2.1 ik.2.2) x2.ff) i2) (he F2)
          · have h4 : after X.K W σ F2 H2 (G (.obj c' fs :: ds)) Q := h3
            rw [hG] at h4
            cases z4 : dv ((.obj c' fs :: ds) ++ ed) with
            | ok d => rw [z4] at h4; exact h4
            | ex x => rw [z4] at h4; exact h4
            | st => rw [z4] at h4; exact h4
        · have hb : (c' == c) = false := beq_eq_false_iff_ne.mpr hc
          simp only [List.lookup, hb] at h2
          exact h2.elim
    | _ => exact h1.elim
section
variable {mn c : Str} {apos : Pos} {pl : Sem Bool}
theorem d_meth1 (C : CalM X.prog X.w X.K X.mg X.base k c mn G) (hr : Room j X.A) (hj : k ≤ j) (tk : Takes X W) (ho : DE X F0 H0 m W o go) (ha : DA X F0 H0 m W (e :: es) t)
    (hst : starEach (e :: es) X.env = (false, eval e X.env) :: starEach es X.env) (hpl : (backTo pos (starEach es X.env)).any (·.1) = false)
    (ht : eval (.Call (.Attribute o mn apos) (e :: es) [] pos) X.env = (do
      let ov ← eval o X.env
      standAt apos.atName
      let (f, first) ← holding [ov] (getMethod ov mn pl)
      callWith pos f first (backTo pos (starEach (e :: es) X.env)) (backToKw pos (keywordEach [] X.env)))) : DE X F0 H0 m W (.Call (.Attribute o mn apos) (e :: es) [] pos) (gMeth [(c, G)] mn go t) := by
  obtain ⟨f, fd, ps, ds, dvs, dv, F, cl, hm, hb, hd, ed, he, hG⟩ := C.ex
  exact pe_imp (pe_methW ho cl hm F (hr.mono hj) hb hd (fun σ => passAt tk σ) ha hst hpl ht) fun σ H Q h => meth_sem (new := false) he hG σ H Q h
theorem n_meth1 (C : CalMN X.prog X.w X.K X.mg X.base k c mn G) (hr : Room j X.A) (hj : k ≤ j) (tk : Takes X W) (ho : DE X F0 H0 m W o go) (ha : DA X F0 H0 m W (e :: es) t)
    (hst : starEach (e :: es) X.env = (false, eval e X.env) :: starEach es X.env) (hpl : (backTo pos (starEach es X.env)).any (·.1) = false)
    (ht : eval (.Call (.Attribute o mn apos) (e :: es) [] pos) X.env = (do
      let ov ← eval o X.env
      standAt apos.atName
      let (f, first) ← holding [ov] (getMethod ov mn pl)
      callWith pos f first (backTo pos (starEach (e :: es) X.env)) (backToKw pos (keywordEach [] X.env)))) : DN X F0 H0 m W (.Call (.Attribute o mn apos) (e :: es) [] pos) (gMeth [(c, G)] mn go t) := by
  obtain ⟨f, fd, ps, ds, dvs, dv, F, cl, hm, hb, hd, ed, he, hG⟩ := C.ex
  exact pe_imp (pe_methW ho cl hm F (hr.mono hj) hb hd (fun σ => passAt tk σ) ha hst hpl ht) fun σ H Q h => meth_sem (new := true) he hG σ H Q h
theorem da_nil0 (σ : L2.St) (H : Hp) (Q : List V → Hp → Prop) (h : tSemA X.K F0 H0 m W aNil σ H Q) : tNil σ H Q := by
  obtain ⟨ρ, F, r, h⟩ := h
  exact h [] F H (.refl r.fh) .nil
theorem tMethW_imp {C : Addr} {sp : Sp} {dvs : List V} {E : L2.St → XK} {ta : TE} {t1 t2 : TA} (h : ∀ σ H Q, t1 σ H Q → t2 σ H Q) (mono : ∀ σ H (Q Q' : VK), (∀ v H', Q v H' → Q' v H') → ta σ H Q → ta σ H Q') (σ : L2.St) (H : Hp) (Q : VK) : tMethW C mn sp dvs E ta t1 σ H Q → tMethW C mn sp dvs E ta t2 σ H Q :=
  mono σ H _ _ fun v H' ⟨a, dx, fs, z1, z2, z3, z4⟩ => ⟨a, dx, fs, z1, z2, z3, h _ _ _ z4⟩
theorem tSem_mono (σ : L2.St) (H : Hp) (Q Q' : VK) (h : ∀ v H', Q v H' → Q' v H') : tSem X.K F0 H0 m W go σ H Q → tSem X.K F0 H0 m W go σ H Q' := fun ⟨ρ, F, r, q⟩ => by
  refine ⟨ρ, F, r, ?_⟩
  cases z : go ρ with
  | ok d => rw [z] at q; exact fun v F' H' x i => h _ _ (q v F' H' x i)
  | ex x => rw [z] at q; exact q
  | st => rw [z] at q; exact q
theorem d_meth0 (C : CalM X.prog X.w X.K X.mg X.base k c mn G) (hr : Room j X.A) (hj : k ≤ j) (tk : Takes X W) (ho : DE X F0 H0 m W o go)
    (ht : eval (.Call (.Attribute o mn apos) [] [] pos) X.env = (do
      let ov ← eval o X.env
      standAt apos.atName
      let (f, first) ← holding [ov] (getMethod ov mn pl)
      callWith pos f first (backTo pos (starEach [] X.env)) (backToKw pos (keywordEach [] X.env)))) : DE X F0 H0 m W (.Call (.Attribute o mn apos) [] [] pos) (gMeth [(c, G)] mn go aNil) := by
  obtain ⟨f, fd, ps, ds, dvs, dv, F, cl, hm, hb, hd, ed, he, hG⟩ := C.ex
  exact pe_imp (pe_methW0 ho cl hm F (hr.mono hj) hb hd (fun σ => passAt tk σ) ht) fun σ H Q h => tMethW_imp (fun σ H Q => da_nil0 σ H Q) (fun σ H Q Q' => tSem_mono σ H Q Q') σ H Q (meth_sem (new := false) he hG σ H Q h)
theorem n_meth0 (C : CalMN X.prog X.w X.K X.mg X.base k c mn G) (hr : Room j X.A) (hj : k ≤ j) (tk : Takes X W) (ho : DE X F0 H0 m W o go)
    (ht : eval (.Call (.Attribute o mn apos) [] [] pos) X.env = (do
      let ov ← eval o X.env
      standAt apos.atName
      let (f, first) ← holding [ov] (getMethod ov mn pl)
      callWith pos f first (backTo pos (starEach [] X.env)) (backToKw pos (keywordEach [] X.env)))) : DN X F0 H0 m W (.Call (.Attribute o mn apos) [] [] pos) (gMeth [(c, G)] mn go aNil) := by
  obtain ⟨f, fd, ps, ds, dvs, dv, F, cl, hm, hb, hd, ed, he, hG⟩ := C.ex
  exact pe_imp (pe_methW0 ho cl hm F (hr.mono hj) hb hd (fun σ => passAt tk σ) ht) fun σ H Q h => tMethW_imp (fun σ H Q => da_nil0 σ H Q) (fun σ H Q Q' => tSem_mono σ H Q Q') σ H Q (meth_sem (new := true) he hG σ H Q h)
end
theorem fm {α : Type} {p : α → Prop} {a : α} {l : List α} (h : p a) (t : ∀ x ∈ l, p x) : ∀ x ∈ a :: l, p x := List.forall_mem_cons.mpr ⟨h, t⟩
theorem fn0 {α : Type} {p : α → Prop} : ∀ x ∈ ([] : List α), p x := fun _ h => (nomatch h)
/-! ### raise C('..') -/
/-- what a class of exceptions without an __init__ of its own must have -/
structure ExcK (K : PySem.W.Frag) (mg : Str → Option Value) (x : Str) : Prop where
  q : PySem.W.excIn K (He.ga K x) He.veBase "ValueError.__new__" = true
  kC : PySem.W.keepIn K (.ref (He.ga K x)) = true
  sb : PySem.W.subIn K (.ref (He.ga K x)) (.type "BaseException") = some true
  ty : PySem.W.typeIn K (.ref (He.ga K x)) = some (.type "type")
  gC : mg x = some (.ref (He.ga K x))
abbrev ExcF (X : Cx) (x : Str) : Prop := ExcK X.K X.mg x
def sRaise (x : Str) : Rho → S := fun ρ => .ex ⟨x, []⟩ ρ
theorem s_raise {msg : Str} {i : Nat} {p2 pos' : Pos} (Fx : ExcF X x) (hc : X.calm = true) (tk : Takes X W) (hg : Gl X x := by rfl) (hdb : (x == ("__debug__" : Str)) = false := by decide) :
    DS X F0 H0 m m' mL W (.Raise (some (.Call (.Name x p) [.Constant (.str msg) i p2] [] pos')) none pos) (sRaise x) :=
  ps_imp (ps_raise hc tk (pmk_own F.excBase_ValueError Fx.q Fx.gC Fx.kC (raises_own Fx.sb Fx.ty) hg hdb)) fun E σ H ⟨ρ, F, r, h⟩ => by
    obtain ⟨F', r', s1⟩ := r.freeze
    exact h _ none σ F' H r' s1 ⟨rfl, fun z => absurd rfl z, fun _ => rfl⟩
/-! ### try: .. except C: .. -/
theorem Rep.nomask {K : PySem.W.Frag} {ρ : Rho} {σ : L2.St} {F H : Hp} (r : Rep K F0 H0 m ρ σ F H) (h1 : m.all (!·) = true) (h2 : m'.all (!·) = true) : Rep K F0 H0 m' ρ σ F H := by
  have nm : ∀ {m : List Bool}, m.all (!·) = true → ∀ i : Nat, m[i]? ≠ some true := fun h i z => by
    have := List.all_eq_true.mp h true (List.mem_of_getElem? z)
    cases this
  exact ⟨r.len, r.fh, r.f0, r.h0, r.new, fun i d a _ => r.val i d a (nm h1 i), fun i d _ b => absurd b (nm h2 i), fun i j p d e _ a => absurd a (nm h2 i), fun b hb => absurd (r.bor b hb).2.1 (nm h1 _)⟩
def noXS : S → S
  | .ex _ _ => .st
  | r => r
/-- which exceptions a clause catches -/
def sTry (tb : List (Str × Bool)) (s u : Rho → S) : Rho → S := fun ρ => match s ρ with
  | .ex x ρ1 => (match tb.lookup x.cls with
    | some true => noXS (u ρ1)
    | some false => .ex x ρ1
    | none => .st)
  | r => r
theorem afterS.noX {K : PySem.W.Frag} {Fb : Hp} {r : S} {E : Ends} (h : afterS K F0 H0 m' mL W Fb (noXS r) E) : afterS K F0 H0 m' mL W0 Fb r E := by
  cases r with
  | ex x ρ => exact h.elim
  | _ => exact h
/-- the class that a clause names, and what it catches -/
structure CatF (X : Cx) (x : Str) (c : Value) (tb : List (Str × Bool)) : Prop where
  nm : Names X x c
  ex : ∀ q ∈ tb, PySem.W.exmOne X.K (.ref (He.ga X.K q.1)) c = some q.2
theorem s_try_only {body suite : List Stmt} {b₀ : Stmt} {np pos' : Pos} {c : Value} {mh : List Bool} {tb : List (Str × Bool)} {s u : Rho → S} (hs : X.stack = X.env :: X.outer) (hf : X.env.frame = some X.env.locals) (Ct : CatF X x c tb) (tk : Takes X W) (h0 : F0.bor = [])
    (hb : ∀ (W : WX) (pn : List (Addr × Obj)) (xe : Value → Shared → Prop), Takes (X.tr pn xe) W → DSs (X.tr pn xe) F0 H0 m m' mL W body s) (hmh : mh.all (!·) = true)
    (hsu : ∀ (a : Addr) (pn : List (Addr × Obj)), DSs (X.suite a pn) F0 H0 mh m' mL W0 (b₀ :: suite) u) :
    DS X F0 H0 m m' mL W (.Try body [.ExceptHandler (some (.Name x np)) none (b₀ :: suite) pos'] [] [] pos) (sTry tb s u) := by
  refine ps_imp (ps_try_only (tb := fun W => tSemS X.K F0 H0 m m' mL W s) (ts := fun _ _ _ => tSemS X.K F0 H0 mh m' mL W0 u) hs hf Ct.nm tk (fun W pn xe t _ => hb W pn xe t) fun a oe cls d pn _ _ => hsu a _) fun E σ H ⟨ρ, F, r, h⟩ => ?_
  refine ⟨ρ, F, r, ?_⟩
  unfold sTry at h
  cases z : s ρ with
  | ex x1 ρ1 =>
    rw [z] at h
    intro cls od σ1 F1 H1 r1 s1 i1
    have h2 : afterS X.K F0 H0 m' mL W F (match tb.lookup x1.cls with
      | some true => noXS (u ρ1)
      | some false => .ex x1 ρ1
      | none => .st) E := h
    cases q : tb.lookup x1.cls with
    | none => rw [q] at h2; exact h2.elim
    | some b =>
      rw [q] at h2
      refine ⟨b, ?_, fun e a na => ?_, fun e => ?_⟩
      · rw [i1.1]
        exact Ct.ex _ (lookup_mem q)
      · subst e
        refine ⟨ρ1, F1, r1.nomask ?_ hmh, (afterS.noX h2).mono s1⟩
        unfold bmask
        rw [h0]
        rfl
      · subst e
        exact h2 cls od σ1 F1 H1 r1 s1 i1
  | nx _ => rw [z] at h; exact h
  | rt _ => rw [z] at h; exact h
  | rn _ => rw [z] at h; exact h
  | rm _ _ => rw [z] at h; exact h
  | bk _ => rw [z] at h; exact h
  | ct _ => rw [z] at h; exact h
  | st => rw [z] at h; exact h.elim
/-! ### C() of a class without __init__ -/
structure NewK (K : PySem.W.Frag) (mg : Str → Option Value) (x : Str) : Prop where
  mks : PySem.W.makesIn K (He.ga K x) = true
  ini : PySem.W.findIn K (.ref (He.ga K x)) "__init__" = some (some (.builtin "object.__init__"))
  kp : PySem.W.keepIn K (.ref (He.ga K x)) = true
  gC : mg x = some (.ref (He.ga K x))
abbrev NewF (X : Cx) (x : Str) : Prop := NewK X.K X.mg x
theorem run_make0 {C : Addr} {pins : List (Addr × Obj)} {σ : L2.St} {H : Hp} {s : Shared} {Q : VK} (hm : PySem.W.makesIn X.K C = true) (hi : PySem.W.findIn X.K (.ref C) "__init__" = some (some (.builtin "object.__init__"))) (I : Inv X pins σ H s)
    (h : ∀ x dx, H x = none → H dx = none → dx ≠ x → Q (.ref x) (upd (upd H dx (.own x)) x (.ins C dx []))) :
    wpAny (model X.prog X.w) X.A (call (.ref C) []) (EP X pins σ Q) X.xe s := by
  have hq := h (s.heap.objs.size + 1) s.heap.objs.size (I.hok.fresh (Nat.le_succ _)) (I.hok.fresh (Nat.le_refl _)) (Nat.ne_of_lt (Nat.lt_succ_self _))
  have I2 := Inv.made (C := C) I
  have Y := PySem.W.makes_of (M := model X.prog X.w) I.kIn hm
  have t1 : PySem.W.Looks (model X.prog X.w) ((s.heap.push PySem.W.emptyDict).push (PySem.W.instObj C s.heap.objs.size)) (typeOf (.ref (s.heap.objs.size + 1))) (.ref C) :=
    (PySem.W.Looks.ld (show ((s.heap.push PySem.W.emptyDict).push (PySem.W.instObj C s.heap.objs.size)).get? (s.heap.objs.size + 1) = some (PySem.W.instObj C s.heap.objs.size) from by
      have := Heap.get?_push_size (s.heap.push PySem.W.emptyDict) (o := PySem.W.instObj C s.heap.objs.size) rfl
      rwa [Heap.size_push] at this)).andThen .now
  have t2 : PySem.W.Looks (model X.prog X.w) ((s.heap.push PySem.W.emptyDict).push (PySem.W.instObj C s.heap.objs.size)) (isInstance (.ref (s.heap.objs.size + 1)) (.type "object")) true :=
    t1.andThen (Y.top.keeps fun b o e => Heap.get?_push_of_some _ (Heap.get?_push_of_some _ e))
  refine wpAny_call (make_map0 I.kIn hm hi (fun self => PySem.W.Looks.of_pure (PySem.W.oi_bind self)) ?_)
  refine codeAny_call_builtin PySem.W.oi_plain PySem.W.entry_oi (@PySem.W.check_slot (model X.prog X.w) _ _ _ "object.__init__" "object" "__init__" (.ref (s.heap.objs.size + 1)) [] [] _ PySem.W.oi_kind PySem.W.oi_split t2 (PySem.W.oi_args (.ref (s.heap.objs.size + 1))) ?_)
  rw [PySem.W.oi_run]
  exact wpAny_pure (And.intro rfl (show EP X pins σ Q (Value.ref (s.heap.objs.size + 1)) _ from ⟨V.ref (s.heap.objs.size + 1), _, I2, rfl, hq⟩))
def tMake0 (C : Addr) : TE := fun σ H Q => ∀ x dx, H x = none → H dx = none → dx ≠ x → Q (.ref x) (upd (upd H dx (.own x)) x (.ins C dx []))
theorem pe_new0' (Nf : NewF X x) (hg : Gl X x) (hdb : (x == ("__debug__" : Str)) = false := by decide) : PE X (.Call (.Name x p) [] [] pos) (tMake0 (He.ga X.K x)) := by
  refine ⟨fun pins s σ H Q I h => ?_⟩
  refine wpAny_Call_Name_kw (ld_glob I hg Nf.gC ?_ hdb)
  exact PySem.W.callWith_K0 I.kIn Nf.kp (run_make0 Nf.mks Nf.ini I h)
theorem n_new0 (Nf : NewF X x) (hg : Gl X x := by rfl) (hdb : (x == ("__debug__" : Str)) = false := by decide) : DN X F0 H0 m W (.Call (.Name x p) [] [] pos) (gC (.obj x [])) := by
  refine pe_imp (pe_new0' Nf hg hdb) fun σ H Q ⟨ρ, F, r, h⟩ => ?_
  intro y dx hy hdx ne
  have hy1 : upd H dx (.own y) y = none := by rw [upd_ne (Ne.symm ne)]; exact hy
  exact h y _ F _ ((Ext.laid' r.fh hdx).trans (Ext.laid' (r.fh.trans (same_upd hdx)) hy1)) upd_same ⟨rfl, rfl, fun i z d a _ => by simp at a, fun i z d a _ => by simp at a⟩ (r.fh.free hy) hy
end
end Pd

/-! Pd10: more of the built-ins: repetition, max, min, range by steps, {}, a place of a list stored -/
namespace Pd
open PySem PySem.Spec PyProof.Rows L2
section
variable {X : Cx} {K : PySem.W.Frag} {F0 : Bs} {H0 : Hp} {m m' mL : List Bool} {W : WX} {pos : Pos} {a b c e o : Expr} {es : List Expr} {g gi : Rho → R D} {t : Rho → R (List D)}
/-! ### text * int, tuple * int -/
def repS (s : Str) (k : Int) : Str := ⟨(List.replicate k.toNat s.cps).foldl (· ++ ·) #[]⟩
def rSmul : R2 := fun x y H Q => ∃ (s : Str) (k : Int), x = .str s ∧ y = .int k ∧ 2 ≤ k ∧ k ≤ 1000 ∧ 1 ≤ s.length ∧ s.length ≤ 1000 ∧ (repS s k).cps.size ≤ sizeLine ∧ Q (.str (repS s k)) H
theorem op_smul : OpR X (binaryOp .Mult) rSmul := by
  intro pins s σ H x y v u Q I rx ry h
  obtain ⟨z, k, rfl, rfl, h1, h2, h3, h4, h5, q⟩ := h
  obtain ⟨tx, rfl⟩ := rx
  obtain ⟨ty, rfl⟩ := ry
  have n1 : ¬ k < 1 := by omega
  have n2 : (k == 1 || z.length == 0) = false := by
    rw [Bool.or_eq_false_iff]
    exact ⟨beq_eq_false_iff_ne.mpr (by omega), beq_eq_false_iff_ne.mpr (by omega)⟩
  have hb : z.length * k.toNat ≤ 1000000 := by
    have : k.toNat ≤ 1000 := by omega
    calc z.length * k.toNat ≤ 1000 * 1000 := Nat.mul_le_mul h4 this
      _ = 1000000 := by decide
  refine PySem.P.mul_str ?_ (fun _ _ => ?_) (fun _ _ => ?_) ?_
  · rw [decide_eq_false (by omega), decide_eq_false (by omega)]
    rfl
  · have : (z.length : Int) * k ≤ 9223372036854775807 := by
      have e : (z.length : Int) * k = ((z.length * k.toNat : Nat) : Int) := by
        rw [Int.natCast_mul, Int.toNat_of_nonneg (by omega)]
      omega
    intro hc
    have h5 := (Int.le_ediv_iff_mul_le (show (0 : Int) < k by omega)).mpr (show (z.length : Int) * k ≤ 2 ^ 63 - 1 by omega)
    omega
  · refine decide_eq_false ?_
    rw [sizeLine_eq]
    omega
  · rw [if_neg n1, if_neg (by rw [n2]; exact Bool.false_ne_true)]
    exact ⟨h5, ⟨.str (repS z k), H, I.tok _, ⟨_, rfl⟩, q⟩⟩
def rMulX (K : PySem.W.Frag) : R2 := fun x y H Q => rI CMul (fun i j => .int (i * j)) x y H Q ∨ rSmul x y H Q ∨ rRepT K x y H Q
theorem op_mulXX : OpR X (binaryOp .Mult) (rMulX X.K) := op_mul.or (op_smul.or op_repT)
def repOk (k : Int) : Bool := decide (2 ≤ k) && decide (k ≤ 1000)
def mulXD : D → D → R D
  | .int i, .int j => mulD (.int i) (.int j)
  | .str s, .int k => if (repOk k && (decide (1 ≤ s.length) && (decide (s.length ≤ 1000) && decide ((repS s k).cps.size ≤ sizeLine)))) = true then .ok (.str (repS s k)) else .st
  | .tup ds, .int k => if (repOk k && (!ds.isEmpty && decide (ds.length ≤ 1000))) = true then .ok (.tup (List.replicate k.toNat ds).flatten) else .st
  | _, _ => .st
theorem isL_flat {F : Hp} {xs : List V} {ds : List D} (l : IsL K F xs ds) : ∀ n : Nat, IsL K F (List.replicate n xs).flatten (List.replicate n ds).flatten
  | 0 => .nil
  | n + 1 => by
    rw [List.replicate_succ, List.replicate_succ, List.flatten_cons, List.flatten_cons]
    exact l.append (isL_flat l n)
theorem o_mulX : OpD K mulXD (rMulX K) := by
  intro W σ F H d e v u Q s i j q
  cases d with
  | int x =>
    cases e with
    | int y => exact .inl (o_mul W σ F H (.int x) (.int y) v u Q s i j q)
    | _ => exact q.elim
  | str x =>
    cases e with
    | int y =>
      cases i
      cases j
      have q' : after K W σ F H (if (repOk y && (decide (1 ≤ x.length) && (decide (x.length ≤ 1000) && decide ((repS x y).cps.size ≤ sizeLine)))) = true then .ok (.str (repS x y)) else .st) Q := q
      by_cases hc : (repOk y && (decide (1 ≤ x.length) && (decide (x.length ≤ 1000) && decide ((repS x y).cps.size ≤ sizeLine)))) = true
      · rw [if_pos hc] at q'
        simp only [repOk, Bool.and_eq_true, decide_eq_true_eq] at hc
        exact .inr (.inl ⟨x, y, rfl, rfl, hc.1.1, hc.1.2, hc.2.1, hc.2.2.1, hc.2.2.2, after.now q' s (.str _)⟩)
      · rw [if_neg hc] at q'
        exact q'.elim
    | _ => exact q.elim
  | tup ds =>
    cases e with
    | int y =>
      obtain ⟨a, xs, rfl, h, l⟩ := i.tup_inv
      cases j
      have q' : after K W σ F H (if (repOk y && (!ds.isEmpty && decide (ds.length ≤ 1000))) = true then .ok (.tup (List.replicate y.toNat ds).flatten) else .st) Q := q
      by_cases hc : (repOk y && (!ds.isEmpty && decide (ds.length ≤ 1000))) = true
      · rw [if_pos hc] at q'
        simp only [repOk, Bool.and_eq_true, decide_eq_true_eq, Bool.not_eq_true', List.isEmpty_eq_false_iff] at hc
        refine .inr (.inr ⟨a, y, xs, rfl, rfl, sameT s h, fun z => ?_, hc.1.1, hc.1.2, by rw [l.1]; exact hc.2.2, fun p hp => ?_⟩)
        · have := l.1
          rw [z] at this
          exact hc.2.1 (List.length_eq_zero_iff.mp this.symm)
        · have x := Ext.laid (o := .tup (List.replicate y.toNat xs).flatten) s hp
          exact q' _ _ _ x (is_tup (.of upd_same) ((isL_flat l _).mono x.ff))
      · rw [if_neg hc] at q'
        exact q'.elim
    | _ => exact q.elim
  | _ => exact q.elim
/-! ### max, min of two ints -/
def maxD : List D → R D
  | [.int i, .int j] => .ok (.int (if j > i then j else i))
  | _ => .st
def minD : List D → R D
  | [.int i, .int j] => .ok (.int (if j < i then j else i))
  | _ => .st
theorem c_max : CallD K maxD (fun xs H Q => ∃ i j, xs = [.int i, .int j] ∧ Q (.int (if j > i then j else i)) H) := by
  intro W σ F H ds vs Q s l q
  match ds, l, q with
  | [.int i, .int j], l, q =>
    obtain ⟨v, u, rfl, z1, z2⟩ := two_of l
    cases z1
    cases z2
    exact ⟨i, j, rfl, after.now q s (.int _)⟩
theorem c_min : CallD K minD (fun xs H Q => ∃ i j, xs = [.int i, .int j] ∧ Q (.int (if j < i then j else i)) H) := by
  intro W σ F H ds vs Q s l q
  match ds, l, q with
  | [.int i, .int j], l, q =>
    obtain ⟨v, u, rfl, z1, z2⟩ := two_of l
    cases z1
    cases z2
    exact ⟨i, j, rfl, after.now q s (.int _)⟩
/-! ### range by steps -/
def rngC (lo c : Int) (n : Nat) : List D := (List.range n).map fun (k : Nat) => .int (lo + k * c)
theorem yl_rangeC {lo c : Int} {n : Nat} {F : Hp} : Yl K (Itc lo c n) (rngC lo c n) F := by
  intro i F1 H1 s1 s2
  have hl : (rngC lo c n).length = n := by unfold rngC; simp
  refine ⟨fun hi => ?_, fun hi => by rw [hl] at hi; exact hi⟩
  rw [hl] at hi
  refine ⟨hi, fun y H2 ⟨e, k⟩ => ?_⟩
  subst e k
  refine ⟨F1, .int (lo + i * c), ?_, .refl s2, .int _⟩
  unfold rngC
  rw [List.getElem?_map, List.getElem?_range hi]
  rfl
def rangeD3 : List D → R (List D)
  | [.int i, .int j, .int c] => if (decide (c ≠ 0) && (decide (c.natAbs < 1073741824) && (Builtin.Range.small i j c && decide (0 ≤ Builtin.Range.rangeSize i j c)))) = true then .ok (rngC i c (Builtin.Range.rangeSize i j c).toNat) else .st
  | _ => .st
theorem di_range3 {tg : Expr} {p : Pos} (hm : X.mg "range" = none) (ha : DA X F0 H0 m W [a, b, c] t) (hg : Gl X "range" := by rfl) (hs : starEach [a, b, c] X.env = (false, eval a X.env) :: starEach [b, c] X.env := by rfl) (hpl : (backTo pos (starEach [b, c] X.env)).any (·.1) = false := by rfl) : DI X F0 H0 m W tg (.Call (.Name "range" p) [a, b, c] [] pos) (iA rangeD3 t) := by
  refine pi_imp (pi_range3 hg hm ha hs hpl) fun σ H Q ⟨ρ, F, r, q⟩ => semA_I (f := rangeD3) r q fun ds vs F1 H1 _ l r1 q1 => ?_
  match ds, l, q1 with
  | [.int i, .int j, .int c], l, q1 =>
    obtain ⟨v, vr, rfl, z1, l2⟩ := l.uncons
    obtain ⟨u, w', rfl, z2, z3⟩ := two_of l2
    cases z1
    cases z2
    cases z3
    have q' : afterI X.K W σ F1 H1 (if (decide (c ≠ 0) && (decide (c.natAbs < 1073741824) && (Builtin.Range.small i j c && decide (0 ≤ Builtin.Range.rangeSize i j c)))) = true then .ok (rngC i c (Builtin.Range.rangeSize i j c).toNat) else .st) Q := q1
    by_cases hj : (decide (c ≠ 0) && (decide (c.natAbs < 1073741824) && (Builtin.Range.small i j c && decide (0 ≤ Builtin.Range.rangeSize i j c)))) = true
    · rw [if_pos hj] at q'
      simp only [Bool.and_eq_true, decide_eq_true_eq] at hj
      exact ⟨i, j, c, _, rfl, ⟨hj.1, hj.2.1, hj.2.2.1, (Int.toNat_of_nonneg hj.2.2.2).symm⟩, q' _ F1 H1 (.refl r1.fh) yl_rangeC⟩
    · rw [if_neg hj] at q'
      exact q'.elim
/-! ### {} -/
theorem n_dict0 : DN X F0 H0 m W (.Dict [] [] pos) (gC (.dict [])) :=
  pe_imp pe_dnewK fun σ H Q ⟨ρ, F, r, h⟩ => fun p hp => afterN.now h r.fh hp (show IsC _ _ (.dK []) (.dict []) from ⟨rfl, fun i x d a _ => by simp at a, fun i x d a _ => by simp at a⟩)
/-! ### x[i] = e, x the frame's own list -/
def sSetIx (i : Nat) (gi g : Rho → R D) : Rho → S := sE g fun ρ d => match ρ[i]? with
  | some (some (.list _)) => sE gi (fun ρ k => match ρ[i]?, k with
    | some (some (.list ds)), .int k => (match ixN ds.length k with
      | some j => .nx (ρ.set i (some (.list (ds.set j d))))
      | none => .st)
    | _, _ => .st) ρ
  | _ => .st
theorem IsL.set {F : Hp} {xs : List V} {ds : List D} {v : V} {d : D} (l : IsL K F xs ds) (h : Is K F v d) (j : Nat) : IsL K F (xs.set j v) (ds.set j d) := by
  refine ⟨by rw [List.length_set, List.length_set]; exact l.1, fun i x e a b => ?_⟩
  rcases getElem?_set_cases a with ⟨rfl, z, hl⟩ | ⟨hj, z⟩
  · rw [List.getElem?_set_self (by rw [← l.1]; exact hl)] at b
    cases b
    subst z
    exact h
  · rw [List.getElem?_set_ne (Ne.symm hj)] at b
    exact l.2 i x e z b
theorem s_setIx (i : Nat) {x : Str} {ix value : Expr} {p2 pos' : Pos} (hv : DE X F0 H0 m W value g) (hx : DE X F0 H0 m W ix gi) (hb : F0.mut i := by exact Bs.mut_of rfl) (hm : m[i]? = some true := by rfl) (hN : X.N[i]? = some x := by rfl) (hvis : Vis X.env.scope x := by first | exact Or.inl rfl | exact Or.inr (Or.inl rfl) | exact Or.inr (Or.inr rfl)) (hd : (x == ("__debug__" : Str)) = false := by decide)
    (hcd : (x == ("__classdict__" : Str)) = false := by decide) (hs : swapsWithSole [.Subscript (.Name x p2) ix pos'] value pos.line X.env = pure false := by rfl) (hw : swappedStores [.Subscript (.Name x p2) ix pos'] value X.env = pure none := by rfl)
    (h1 : (assignEach [.Subscript (.Name x p2) ix pos'] X.env).map (·.2) = [assign (.Subscript (.Name x p2) ix pos') X.env] := by rfl)
    (ha : ∀ v, assign (.Subscript (.Name x p2) ix pos') X.env v = (do
      let ov ← holding [v] (eval (.Name x p2) X.env)
      let iv ← holding [v, ov] (eval ix X.env)
      standAt pos'
      holding [v, ov, iv] (setItem ov iv v)
      release [v, ov, iv] []) := by intro _; rfl) : DS X F0 H0 m m mL W (.Assign [.Subscript (.Name x p2) ix pos'] value pos) (sSetIx i gi g) := by
  refine ps_imp (ps_asg hv (pg_sub (pe_var hN hvis hd hcd) hx set_list ha) hs hw h1) fun E σ H ⟨ρ, F, r, h⟩ => ?_
  refine semS (k := fun d => match ρ[i]? with
    | some (some (.list _)) => sE gi (fun ρ k => match ρ[i]?, k with
      | some (some (.list ds)), .int k => (match ixN ds.length k with
        | some j => .nx (ρ.set i (some (.list (ds.set j d))))
        | none => .st)
      | _, _ => .st) ρ
    | _ => .st) r h fun d v F1 H1 i1 r1 _ h1 => ?_
  split at h1
  · rename_i ds0 e1
    obtain ⟨p, o, z1, z2, z3, z4, z5⟩ := r1.own i _ e1 hm
    refine ⟨.ref p, z1, ?_⟩
    refine semS (k := fun k => match ρ[i]?, k with
      | some (some (.list ds)), .int k => (match ixN ds.length k with
        | some j => .nx (ρ.set i (some (.list (ds.set j d))))
        | none => .st)
      | _, _ => .st) r1 h1 fun k u F2 H2 i2 r2 x2 h2 => ?_
    split at h2
    · rename_i ds k' e2
      split at h2
      · rename_i j ej
        obtain ⟨p', o', y1, y2, y3, y4, y5⟩ := r2.own i _ e2 hm
        rw [z1] at y1
        cases y1
        cases i2
        cases o' with
        | lst xs' =>
          have l' : IsL X.K F2 xs' ds := y3
          exact ⟨p, xs', k', j, rfl, rfl, y2, by rw [l'.1]; exact ej, h2 σ F2 _ (r2.mut hb hm e2 z1 y4 y5 (show IsC _ _ (.lst (xs'.set j v)) (.list (ds.set j d)) from l'.set (i1.mono x2) j)) (.refl F2)⟩
        | _ => exact y3.elim
      · exact h2.elim
    · exact h2.elim
  · exact h1.elim
/-! ### list + list, a new one -/
def catD : D → D → R D
  | .list a, .list b => if a.length + b.length ≤ sizeLine then .ok (.list (a ++ b)) else .st
  | _, _ => .st
theorem n_cat {ga gb : Rho → R D} (ha : DE X F0 H0 m W a ga) (hb : DE X F0 H0 m W b gb) : DN X F0 H0 m W (.BinOp a .Add b pos) (g2 catD ga gb) := by
  refine pe_imp (pe_op op_catL ha hb) fun σ H Q ⟨ρ, F, r, h⟩ => ?_
  refine sem_bindN (k := fun x => (gb ρ).bind fun y => catD x y) r h fun d v F1 H1 x1 i1 r1 h1 => ?_
  refine sem_bindN (k := fun y => catD d y) r1 h1 fun d2 v2 F2 H2 x2 i2 r2 h2 => ?_
  cases d with
  | list ds =>
    cases d2 with
    | list es =>
      obtain ⟨p1, xs, rfl, q1, l1⟩ := (i1.mono x2.ff).list_inv
      obtain ⟨p2, ys, rfl, q2, l2⟩ := i2.list_inv
      have h3 : afterN X.K W σ F2 H2 (if ds.length + es.length ≤ sizeLine then .ok (.list (ds ++ es)) else .st) Q := h2
      by_cases hc : ds.length + es.length ≤ sizeLine
      · rw [if_pos hc] at h3
        exact ⟨p1, p2, xs, ys, rfl, rfl, r2.fh.seq q1, r2.fh.seq q2, by have := l1.1; have := l2.1; omega, fun p hp => afterN.now h3 r2.fh hp (show IsC _ _ (.lst (xs ++ ys)) (.list (ds ++ es)) from l1.append l2)⟩
      · rw [if_neg hc] at h3
        exact h3.elim
    | _ => exact h2.elim
  | _ => exact h2.elim
end
end Pd

/-! Pd11: try: .. except C as e: .., isinstance of the exception -/
namespace Pd
open PySem PySem.Spec PyProof.Rows L2
def dropS (i : Nat) : S → S
  | .nx ρ => .nx (ρ.set i none)
  | .bk ρ => .bk (ρ.set i none)
  | .ct ρ => .ct (ρ.set i none)
  | .rm _ _ => .st
  | .ex _ _ => .st
  | r => r
noncomputable def pick (f : Addr → S) : S := open Classical in if ∀ a, f a = f 0 then f 0 else .st
theorem pick_eq {f : Addr → S} {r : S} (h : ∀ a, f a = r) : pick f = r := by
  unfold pick
  rw [if_pos (fun a => (h a).trans (h 0).symm)]
  exact h 0
/-- the clause's suite by the exception; slot i is its name -/
noncomputable def sTryAs (tb : List (Str × Bool)) (i : Nat) (s : Rho → S) (u : Ex → Addr → Rho → S) : Rho → S := fun ρ => match s ρ with
  | .ex x ρ1 => (match tb.lookup x.cls with
    | some true => pick fun a => dropS i (u x a (ρ1.set i (some (.adr a))))
    | some false => .ex x ρ1
    | none => .st)
  | r => r
section
variable {X : Cx} {F0 : Bs} {H0 : Hp} {m m' mL : List Bool} {W : WX} {pos : Pos} {x : Str}
theorem s_try_as {body suite : List Stmt} {b₀ : Stmt} {np pos' : Pos} {n : Str} {c : Value} {mh : List Bool} {tb : List (Str × Bool)} {s : Rho → S} {u : Ex → Addr → Rho → S} (i : Nat) (hs : X.stack = X.env :: X.outer) (hf : X.env.frame = some X.env.locals) (hN : X.N.Nodup) (hi : X.N[i]? = some n) (hln : X.env.kindOf n = some .local) (Ct : CatF X x c tb) (tk : Takes X W) (h0 : F0.bor = [])
    (hb : ∀ (W : WX) (pn : List (Addr × Obj)) (xe : Value → Shared → Prop), Takes (X.tr pn xe) W → DSs (X.tr pn xe) F0 H0 m m' mL W body s) (hmh : mh.all (!·) = true)
    (hsu : ∀ (a : Addr) (oe : Obj) (x1 : Ex) (d : Option Addr) (pn : List (Addr × Obj)), Zc (.ref (He.ga X.K x1.cls)) d oe → (∃ vs, oe.data = .fields vs) → (x1.fs = [] → d = none) → tb.lookup x1.cls = some true → DSs (X.suite a ((a, oe) :: pn)) F0 H0 mh m' mL W0 (b₀ :: suite) (u x1 a)) :
    DS X F0 H0 m m' mL W (.Try body [.ExceptHandler (some (.Name x np)) (some n) (b₀ :: suite) pos'] [] [] pos) (sTryAs tb i s u) := by
  have ok : F0.ok i := fun b hb => by rw [h0] at hb; cases hb
  refine ps_imp (ps_try_as (tb := fun W => tSemS X.K F0 H0 m m' mL W s) (ts := fun a cls d => fun E σ H => ∃ x1 : Ex, cls = .ref (He.ga X.K x1.cls) ∧ (x1.fs = [] → d = none) ∧ tb.lookup x1.cls = some true ∧ tSemS X.K F0 H0 mh m' mL W0 (u x1 a) E σ H) hs hf hN hi hln Ct.nm tk (fun W pn xe t _ => hb W pn xe t)
    fun a oe cls d pn hz hd => ⟨fun pins s σ H E I ⟨x1, e1, e2, e3, h⟩ => (hsu a oe x1 d pn (e1 ▸ hz) hd e2 e3).run pins s σ H E I h⟩) fun E σ H ⟨ρ, F, r, h⟩ => ?_
  refine ⟨ρ, F, r, ?_⟩
  unfold sTryAs at h
  cases z : s ρ with
  | ex x1 ρ1 =>
    rw [z] at h
    intro cls od σ1 F1 H1 r1 s1 i1
    have h2 : afterS X.K F0 H0 m' mL W F (match tb.lookup x1.cls with
      | some true => pick fun a => dropS i (u x1 a (ρ1.set i (some (.adr a))))
      | some false => .ex x1 ρ1
      | none => .st) E := h
    cases q : tb.lookup x1.cls with
    | none => rw [q] at h2; exact h2.elim
    | some b =>
      rw [q] at h2
      refine ⟨b, ?_, fun e a na => ?_, fun e => ?_⟩
      · rw [i1.1]
        exact Ct.ex _ (lookup_mem q)
      · subst e
        refine ⟨x1, i1.1, i1.2.2, q, ρ1.set i (some (.adr a)), F1, ?_, ?_⟩
        · have r2 : Rep X.K F0 H0 [] ρ1 σ1 F1 H1 := r1.nomask (by unfold bmask; rw [h0]; rfl) rfl
          have r3 := (r2.set i ok (Is.adr (K := X.K) (H := F1) a))
          exact r3.nomask (by rfl) hmh
        · have h3 : afterS X.K F0 H0 m' mL W F (pick fun a => dropS i (u x1 a (ρ1.set i (some (.adr a))))) E := h2
          unfold pick at h3
          by_cases hall : ∀ a, (fun a => dropS i (u x1 a (ρ1.set i (some (.adr a))))) a = (fun a => dropS i (u x1 a (ρ1.set i (some (.adr a))))) 0
          · rw [if_pos hall, ← hall a] at h3
            have h4 := h3.mono s1
            cases z2 : u x1 a (ρ1.set i (some (.adr a))) with
            | nx ρ2 => simp only [z2, dropS] at h4; exact fun σ2 F2 H2 r2 x2 => h4 _ F2 H2 (r2.wipe1 i ok) x2
            | bk ρ2 => simp only [z2, dropS] at h4; exact fun σ2 F2 H2 r2 x2 => h4 _ F2 H2 (r2.wipe1 i ok) x2
            | ct ρ2 => simp only [z2, dropS] at h4; exact fun σ2 F2 H2 r2 x2 => h4 _ F2 H2 (r2.wipe1 i ok) x2
            | rt d => simp only [z2, dropS] at h4; exact h4
            | rn d => simp only [z2, dropS] at h4; exact h4
            | rm d ρ2 => simp only [z2, dropS] at h4; exact h4.elim
            | ex x2 ρ2 => simp only [z2, dropS] at h4; exact h4.elim
            | st => simp only [z2, dropS] at h4; exact h4.elim
          · rw [if_neg hall] at h3
            exact h3.elim
      · subst e
        exact h2 cls od σ1 F1 H1 r1 s1 i1
  | nx _ => rw [z] at h; exact h
  | rt _ => rw [z] at h; exact h
  | rn _ => rw [z] at h; exact h
  | rm _ _ => rw [z] at h; exact h
  | bk _ => rw [z] at h; exact h
  | ct _ => rw [z] at h; exact h
  | st => rw [z] at h; exact h.elim
/-! ### isinstance(e, C), isinstance(e, (C, D)) -/
/-- is the exception one of that class -/
def bIsE (i : Nat) (tb : List (Str × Bool)) (x : Ex) (a : Addr) : Rho → R Bool := fun ρ => match ρ[i]?, tb.lookup x.cls, x.fs with
  | some (some (.adr a')), some b, [] => if a' = a then .ok b else .st
  | _, _, _ => .st
theorem bIsE_cases (i : Nat) (tb : List (Str × Bool)) (x : Ex) (a : Addr) (ρ : Rho) : bIsE i tb x a ρ = .st ∨ ∃ b, bIsE i tb x a ρ = .ok b ∧ ρ[i]? = some (some (.adr a)) ∧ tb.lookup x.cls = some b ∧ x.fs = [] := by
  unfold bIsE
  split
  · rename_i a' b e1 e2 e3
    by_cases h : a' = a
    · subst h
      rw [if_pos rfl]
      exact .inr ⟨b, rfl, e1, e2, e3⟩
    · rw [if_neg h]
      exact .inl rfl
  · exact .inl rfl
/-- a class as the text names it: an own one, or a built-in type -/
inductive CN where
  | own (c : Str) | ty (n : String)
def CN.u (K : PySem.W.Frag) : CN → Value
  | .own c => .ref (He.ga K c)
  | .ty n => .type n
def CN.v (K : PySem.W.Frag) : CN → V
  | .own c => .ref (He.ga K c)
  | .ty n => .ty n
theorem CN.rel {K : PySem.W.Frag} (c : CN) {u : Value} (r : RelV (c.v K) u) : u = c.u K := by
  cases c with
  | own c => exact r
  | ty n => exact r
end
section
variable {X : Cx} {F0 : Bs} {H0 : Hp} {m : List Bool} {pos : Pos} {a : Addr} {oe : Obj} {pn : List (Addr × Obj)} {x1 : Ex} {d : Option Addr} {i : Nat} {c : Expr} {n : Str} {p p2 : Pos}
theorem t_isE (cn : CN) {tb : List (Str × Bool)} (C : ∀ q ∈ tb, ExcC X.K (He.ga X.K q.1) ∧ PySem.W.kitOne X.K (.ref (He.ga X.K q.1)) (cn.u X.K) = some q.2) (hz : Zc (.ref (He.ga X.K x1.cls)) d oe) (hd : ∃ vs, oe.data = .fields vs) (hn : x1.fs = [] → d = none)
    (hm : X.mg "isinstance" = none) (hc : PE (X.suite a ((a, oe) :: pn)) c (tC (cn.v X.K))) (hg : Gl X "isinstance" := by rfl) (hN : X.N[i]? = some n := by rfl) (hvis : Vis X.env.scope n := by first | exact Or.inl rfl | exact Or.inr (Or.inl rfl) | exact Or.inr (Or.inr rfl)) (hdb : (n == ("__debug__" : Str)) = false := by decide) (hcd : (n == ("__classdict__" : Str)) = false := by decide)
    (hs : starEach [.Name n p2, c] (X.suite a ((a, oe) :: pn)).env = (false, eval (.Name n p2) (X.suite a ((a, oe) :: pn)).env) :: starEach [c] (X.suite a ((a, oe) :: pn)).env := by rfl) (hs2 : starEach [c] (X.suite a ((a, oe) :: pn)).env = (false, eval c (X.suite a ((a, oe) :: pn)).env) :: starEach [] (X.suite a ((a, oe) :: pn)).env := by rfl)
    (hpl : (backTo pos (starEach [c] (X.suite a ((a, oe) :: pn)).env)).any (·.1) = false := by rfl) (ht : ∀ whole, isTrue (.Call (.Name "isinstance" p) [.Name n p2, c] [] pos) (X.suite a ((a, oe) :: pn)).env whole = (do let v ← whole; standAt (Expr.Call (.Name "isinstance" p) [.Name n p2, c] [] pos).pos; holding [v] (truthy v)) := by intro _; rfl) :
    DT (X.suite a ((a, oe) :: pn)) F0 H0 m W0 (.Call (.Name "isinstance" p) [.Name n p2, c] [] pos) (bIsE i tb x1 a) := by
  by_cases hfs : x1.fs = []
  case neg =>
    refine pt_imp (t := fun _ _ _ => False) ⟨fun _ _ _ _ _ _ h => h.elim⟩ fun σ H Q ⟨ρ, F, r, h⟩ => ?_
    rcases bIsE_cases i tb x1 a ρ with e | ⟨b, _, _, _, e⟩
    · rw [e] at h
      exact h
    · exact hfs e
  have hd0 := hn hfs
  subst hd0
  cases hb : tb.lookup x1.cls with
  | none =>
    refine pt_imp (t := fun _ _ _ => False) ⟨fun _ _ _ _ _ _ h => h.elim⟩ fun σ H Q ⟨ρ, F, r, h⟩ => ?_
    rcases bIsE_cases i tb x1 a ρ with e | ⟨b, _, _, e, _⟩
    · rw [e] at h
      exact h
    · rw [hb] at e
      cases e
  | some b =>
    obtain ⟨C1, C2⟩ := C _ (lookup_mem hb)
    refine pt_imp (pt_val (pe_callB (X := X.suite a ((a, oe) :: pn)) (call_isE (D := He.ga X.K x1.cls) C1 hz hd) hg hm (by decide +kernel) (pa_cons (pe_var hN hvis hdb hcd) (pa_cons hc pa_nil hs2) hs) (by decide) (by decide) hs hpl) ht) fun σ H Q ⟨ρ, F, r, h⟩ => ?_
    rcases bIsE_cases i tb x1 a ρ with e | ⟨b', e, e1, e2, _⟩
    · rw [e] at h
      exact h.elim
    · rw [hb] at e2
      cases e2
      rw [e] at h
      have nm : ∃ v, σ[i]? = some (some v) ∧ v = .ref a := by
        by_cases hmm : m[i]? = some true
        · obtain ⟨q, o, z1, z2, z3, z4, z5⟩ := r.own i _ e1 hmm
          cases o <;> exact z3.elim
        · obtain ⟨v, z1, z2⟩ := r.val i _ e1 hmm
          cases z2
          exact ⟨_, z1, rfl⟩
      obtain ⟨v, z1, rfl⟩ := nm
      exact ⟨.ref a, z1, cn.v X.K, cn.u X.K, b, rfl, fun u ru => cn.rel ru, C2, b, rfl, h F H (.refl r.fh)⟩
end
def rIsET (K : PySem.W.Frag) (D a : Addr) : List V → Hp → VK → Prop := fun xs H Q => ∃ (tp : Addr) (cs : List V) (us : List Value) (b : Bool), xs = [.ref a, .ref tp] ∧ H tp = some (.tup cs) ∧ Paired ClsV cs us ∧ PySem.W.kitAny K (.ref D) us = some b ∧ Q (.bl b) H
theorem call_isET {X : Cx} {a D : Addr} {oe : Obj} {pn : List (Addr × Obj)} (C : ExcC X.K D) (hz : Zc (.ref D) none oe) (hf : ∃ vs, oe.data = .fields vs) : CallR (X.suite a ((a, oe) :: pn)) (.builtin "isinstance") (rIsET X.K D a) := by
  intro pins s σ H xs us Q I r h
  obtain ⟨tp, cs, ws, b, rfl, hT, k, e, q⟩ := h
  obtain ⟨u1, u2, rfl, r1, r2⟩ := vals2 r
  cases (show u1 = Value.ref a from r1)
  cases (show u2 = Value.ref tp from r2)
  obtain ⟨hget, _⟩ := I.pin (a, oe) (List.mem_append.mpr (.inl List.mem_cons_self))
  obtain ⟨vs, hv⟩ := hf
  have J : PySem.W.InstAt s.heap a oe D none := by
    obtain ⟨oc, od, oda, osl⟩ := oe
    obtain ⟨h1, h2⟩ := hz
    dsimp only at h1 h2 hv
    subst h1 h2 hv
    exact ⟨hget, rfl, rfl, trivial⟩
  obtain ⟨_, its, rv, o, h1, h2, n, h3⟩ := (show ObjOk X.prog X.w H s.heap tp (.tup cs) from I.hok tp _ hT)
  have e3 := ClsV.all k rv
  subst e3
  obtain ⟨oc, od, dt, sl⟩ := o
  simp only at h2 h3
  subst h2 h3
  exact PySem.W.kia_tup (PySem.W.handS_kitx_exc C.hg C.hk C.hs C.hd C.ha C.hn C.ht C.hm) I.kIn J h1 e (fun z => nomatch z) fun tk => ⟨.bl b, H, I.kept (t' := tk) fun _ _ z => z, rfl, q⟩
section
variable {X : Cx} {F0 : Bs} {H0 : Hp} {m : List Bool} {pos : Pos} {a : Addr} {oe : Obj} {pn : List (Addr × Obj)} {x1 : Ex} {d : Option Addr} {i : Nat} {c1 c2 : Expr} {n : Str} {p p2 p3 : Pos} {kk : Nat}
theorem t_isE2 (cn1 cn2 : CN) {tb : List (Str × Bool)} (C : ∀ q ∈ tb, ExcC X.K (He.ga X.K q.1) ∧ PySem.W.kitAny X.K (.ref (He.ga X.K q.1)) [cn1.u X.K, cn2.u X.K] = some q.2) (hz : Zc (.ref (He.ga X.K x1.cls)) d oe) (hd : ∃ vs, oe.data = .fields vs) (hn : x1.fs = [] → d = none)
    (hm : X.mg "isinstance" = none) (hc1 : PE (X.suite a ((a, oe) :: pn)) c1 (tC (cn1.v X.K))) (hc2 : PE (X.suite a ((a, oe) :: pn)) c2 (tC (cn2.v X.K))) (hg : Gl X "isinstance" := by rfl) (hN : X.N[i]? = some n := by rfl) (hvis : Vis X.env.scope n := by first | exact Or.inl rfl | exact Or.inr (Or.inl rfl) | exact Or.inr (Or.inr rfl)) (hdb : (n == ("__debug__" : Str)) = false := by decide) (hcd : (n == ("__classdict__" : Str)) = false := by decide)
    (hs : starEach [.Name n p2, .Tuple [c1, c2] kk p3] (X.suite a ((a, oe) :: pn)).env = (false, eval (.Name n p2) (X.suite a ((a, oe) :: pn)).env) :: starEach [.Tuple [c1, c2] kk p3] (X.suite a ((a, oe) :: pn)).env := by rfl) (hs2 : starEach [.Tuple [c1, c2] kk p3] (X.suite a ((a, oe) :: pn)).env = (false, eval (.Tuple [c1, c2] kk p3) (X.suite a ((a, oe) :: pn)).env) :: starEach [] (X.suite a ((a, oe) :: pn)).env := by rfl)
    (hs3 : starEach [c1, c2] (X.suite a ((a, oe) :: pn)).env = (false, eval c1 (X.suite a ((a, oe) :: pn)).env) :: starEach [c2] (X.suite a ((a, oe) :: pn)).env := by rfl) (hs4 : starEach [c2] (X.suite a ((a, oe) :: pn)).env = (false, eval c2 (X.suite a ((a, oe) :: pn)).env) :: starEach [] (X.suite a ((a, oe) :: pn)).env := by rfl)
    (hpl : (backTo pos (starEach [.Tuple [c1, c2] kk p3] (X.suite a ((a, oe) :: pn)).env)).any (·.1) = false := by rfl) (ht : ∀ whole, isTrue (.Call (.Name "isinstance" p) [.Name n p2, .Tuple [c1, c2] kk p3] [] pos) (X.suite a ((a, oe) :: pn)).env whole = (do let v ← whole; standAt (Expr.Call (.Name "isinstance" p) [.Name n p2, .Tuple [c1, c2] kk p3] [] pos).pos; holding [v] (truthy v)) := by intro _; rfl) :
    DT (X.suite a ((a, oe) :: pn)) F0 H0 m W0 (.Call (.Name "isinstance" p) [.Name n p2, .Tuple [c1, c2] kk p3] [] pos) (bIsE i tb x1 a) := by
  by_cases hfs : x1.fs = []
  case neg =>
    refine pt_imp (t := fun _ _ _ => False) ⟨fun _ _ _ _ _ _ h => h.elim⟩ fun σ H Q ⟨ρ, F, r, h⟩ => ?_
    rcases bIsE_cases i tb x1 a ρ with e | ⟨b, _, _, _, e⟩
    · rw [e] at h
      exact h
    · exact hfs e
  have hd0 := hn hfs
  subst hd0
  have cv : ∀ cn : CN, ClsV (cn.v X.K) (cn.u X.K) := fun cn => by
    cases cn with
    | own c => constructor
    | ty n => constructor
  cases hb : tb.lookup x1.cls with
  | none =>
    refine pt_imp (t := fun _ _ _ => False) ⟨fun _ _ _ _ _ _ h => h.elim⟩ fun σ H Q ⟨ρ, F, r, h⟩ => ?_
    rcases bIsE_cases i tb x1 a ρ with e | ⟨b, _, _, e, _⟩
    · rw [e] at h
      exact h
    · rw [hb] at e
      cases e
  | some b =>
    obtain ⟨C1, C2⟩ := C _ (lookup_mem hb)
    refine pt_imp (pt_val (pe_callB (X := X.suite a ((a, oe) :: pn)) (call_isET (D := He.ga X.K x1.cls) C1 hz hd) hg hm (by decide +kernel) (pa_cons (pe_var hN hvis hdb hcd) (pa_cons (pe_tup (pa_cons hc1 (pa_cons hc2 pa_nil hs4) hs3)) pa_nil hs2) hs) (by decide) (by decide) hs hpl) ht) fun σ H Q ⟨ρ, F, r, h⟩ => ?_
    rcases bIsE_cases i tb x1 a ρ with e | ⟨b', e, e1, e2, _⟩
    · rw [e] at h
      exact h.elim
    · rw [hb] at e2
      cases e2
      rw [e] at h
      have nm : ∃ v, σ[i]? = some (some v) ∧ v = .ref a := by
        by_cases hmm : m[i]? = some true
        · obtain ⟨q, o, z1, z2, z3, z4, z5⟩ := r.own i _ e1 hmm
          cases o <;> exact z3.elim
        · obtain ⟨v, z1, z2⟩ := r.val i _ e1 hmm
          cases z2
          exact ⟨_, z1, rfl⟩
      obtain ⟨v, z1, rfl⟩ := nm
      refine ⟨.ref a, z1, by show ([cn1.v X.K, cn2.v X.K] : List V).length ≤ sizeLine; rw [sizeLine_eq]; simp, fun tp hp => ⟨tp, _, _, b, rfl, upd_same, .cons (cv cn1) (.cons (cv cn2) .nil), C2, b, rfl, ?_⟩⟩
      exact h F _ (Ext.laid' r.fh hp)
end
theorem excB_ok {K : PySem.W.Frag} {D : Addr} (h : excB K D = true) : ExcC K D := by
  obtain ⟨a, h⟩ := He.ba h
  obtain ⟨b, h⟩ := He.ba h
  obtain ⟨c, h⟩ := He.ba h
  obtain ⟨d, h⟩ := He.ba h
  obtain ⟨e, h⟩ := He.ba h
  obtain ⟨f, h⟩ := He.ba h
  obtain ⟨g, i⟩ := He.ba h
  exact ⟨He.eqO_ok a, He.eqO_ok b, of_decide_eq_true c, d, He.eqO_ok e, He.eqO_ok f, of_decide_eq_true g, of_decide_eq_true i⟩
end Pd

/-! Pd12: a dict is no text -/
namespace PySem.SeqAt
open PySem PySem.F
theorem dict_eq_declines_str (l : Addr) (es : Array DictEntry) (n : Nat) (dd : Option Addr) (sl : Array (Option Value)) (b : Str) (u : Tok) :
    Meets (Builtin.«dict.__eq__» ⟨[.ref l, .str b u], []⟩) (fun _ R s => s.heap.get? l = some { cls := .type "dict", dict := dd, data := .dict es n, slots := sl } ∧ R (.ok (.ret .notImplemented)) s) :=
  .of_wp fun prog w A R s h => by obtain ⟨hp, g, d, tk, os⟩ := s; obtain ⟨hl, h⟩ := h; have f1 := F.sub_str_dict; wp_walk using wpAny_loadPart' hl, wpAny_load hl; exact ⟨_, rfl, h⟩
theorem str_eq_declines_dict (b : Str) (u : Tok) (l : Addr) (c : Value) (es : Array DictEntry) (n : Nat) (dd : Option Addr) (sl : Array (Option Value)) :
    Meets (Builtin.«str.__eq__» ⟨[.str b u, .ref l], []⟩) (fun _ R s => s.heap.get? l = some { cls := c, dict := dd, data := .dict es n, slots := sl } ∧ R (.ok (.ret .notImplemented)) s) :=
  .of_wp fun prog w A R s h => by obtain ⟨hp, g, d, tk, os⟩ := s; obtain ⟨hl, h⟩ := h; wp_walk using wpAny_loadPart' hl, wpAny_load hl; exact ⟨_, rfl, h⟩
theorem dict_ne_declines_str (l : Addr) (es : Array DictEntry) (n : Nat) (dd : Option Addr) (sl : Array (Option Value)) (b : Str) (u : Tok) :
    Meets (Builtin.«dict.__ne__» ⟨[.ref l, .str b u], []⟩) (fun _ R s => s.heap.get? l = some { cls := .type "dict", dict := dd, data := .dict es n, slots := sl } ∧ R (.ok (.ret .notImplemented)) s) :=
  .of_wp fun prog w A R s h => by obtain ⟨hp, g, d, tk, os⟩ := s; obtain ⟨hl, h⟩ := h; have f1 := F.sub_str_dict; wp_walk using wpAny_loadPart' hl, wpAny_load hl; exact ⟨_, rfl, h⟩
theorem str_ne_declines_dict (b : Str) (u : Tok) (l : Addr) (c : Value) (es : Array DictEntry) (n : Nat) (dd : Option Addr) (sl : Array (Option Value)) :
    Meets (Builtin.«str.__ne__» ⟨[.str b u, .ref l], []⟩) (fun _ R s => s.heap.get? l = some { cls := c, dict := dd, data := .dict es n, slots := sl } ∧ R (.ok (.ret .notImplemented)) s) :=
  .of_wp fun prog w A R s h => by obtain ⟨hp, g, d, tk, os⟩ := s; obtain ⟨hl, h⟩ := h; wp_walk using wpAny_loadPart' hl, wpAny_load hl; exact ⟨_, rfl, h⟩
section
variable {A : Around} {s : Shared}
theorem RcAt.dict_str {l : Addr} {es : Array DictEntry} {n : Nat} {dd : Option Addr} {sl : Array (Option Value)} (b : Str) (u : Tok) (ho : s.heap.get? l = some { cls := .type "dict", dict := dd, data := .dict es n, slots := sl }) (hu : A.units < cLine) : RcAt A s (.ref l) (.str b u) false := fun prog w E Q h =>
  rc_eq_decline_or (k := false) ⟨_, ho, rfl⟩ (typeIs_str s b u) (by decide) F.sub_str_dict F.slot_dict_eq F.slot_str_eq_refl
    (fun _ hq => call_meets F.slot_dict_eq ⟨_, ho, rfl⟩ F.entry_dict_eq (F.args_dict_eq_2 _ _) (dict_eq_declines_str l es n dd sl b u) ⟨ho, hq⟩)
    (fun _ hq => call_meets F.slot_str_eq_refl (typeIs_str s b u) F.entry_str_eq (F.args_str_eq_2 _ _) (str_eq_declines_dict b u l (.type "dict") es n dd sl) ⟨ho, hq⟩)
    (fun _ hq => wpAny_of_eq (rfl : isSame (.ref l) (.str b u) = pure false) hq) (.inr hu) h
theorem RcAt.str_dict {l : Addr} {es : Array DictEntry} {n : Nat} {dd : Option Addr} {sl : Array (Option Value)} (b : Str) (u : Tok) (ho : s.heap.get? l = some { cls := .type "dict", dict := dd, data := .dict es n, slots := sl }) (hu : A.units < cLine) : RcAt A s (.str b u) (.ref l) false := fun prog w E Q h =>
  rc_eq_decline_or (k := false) (typeIs_str s b u) ⟨_, ho, rfl⟩ (by decide) F.sub_dict_str F.slot_str_eq F.slot_dict_eq_refl
    (fun _ hq => call_meets F.slot_str_eq (typeIs_str s b u) F.entry_str_eq (F.args_str_eq_2 _ _) (str_eq_declines_dict b u l (.type "dict") es n dd sl) ⟨ho, hq⟩)
    (fun _ hq => call_meets F.slot_dict_eq_refl ⟨_, ho, rfl⟩ F.entry_dict_eq (F.args_dict_eq_2 _ _) (dict_eq_declines_str l es n dd sl b u) ⟨ho, hq⟩)
    (fun _ hq => wpAny_of_eq (rfl : isSame (.str b u) (.ref l) = pure false) hq) (.inr hu) h
theorem RcNeAt.dict_str {l : Addr} {es : Array DictEntry} {n : Nat} {dd : Option Addr} {sl : Array (Option Value)} (b : Str) (u : Tok) (ho : s.heap.get? l = some { cls := .type "dict", dict := dd, data := .dict es n, slots := sl }) (hu : A.units < cLine) : RcNeAt A s (.ref l) (.str b u) true := fun prog w E Q h =>
  rc_ne_decline_or (k := false) ⟨_, ho, rfl⟩ (typeIs_str s b u) (by decide) F.sub_str_dict F.slot_dict_ne F.slot_str_ne_refl
    (fun _ hq => call_meets F.slot_dict_ne ⟨_, ho, rfl⟩ F.entry_dict_ne (F.args_dict_ne_2 _ _) (dict_ne_declines_str l es n dd sl b u) ⟨ho, hq⟩)
    (fun _ hq => call_meets F.slot_str_ne_refl (typeIs_str s b u) F.entry_str_ne (F.args_str_ne_2 _ _) (str_ne_declines_dict b u l (.type "dict") es n dd sl) ⟨ho, hq⟩)
    (fun _ hq => wpAny_of_eq (rfl : isSame (.ref l) (.str b u) = pure false) hq) (.inr hu) h
end
end PySem.SeqAt
namespace Pd
open PySem PySem.Spec PyProof.Rows L2
section
variable {X : Cx} {K : PySem.W.Frag}
def rEqDS : R2 := fun x y H Q => ∃ (a : Addr) (kvs : List (Key × V)) (s : Str), Rd H a (.dK kvs) ∧ ((x = .ref a ∧ y = .str s) ∨ (x = .str s ∧ y = .ref a)) ∧ Q (.bl false) H
def rNeDS : R2 := fun x y H Q => ∃ (a : Addr) (kvs : List (Key × V)) (s : Str), Rd H a (.dK kvs) ∧ (x = .ref a ∧ y = .str s) ∧ Q (.bl true) H
theorem dict_at {pins : List (Addr × Obj)} {σ : L2.St} {H : Hp} {s : Shared} {a : Addr} {kvs : List (Key × V)} (I : Inv X pins σ H s) (ha : Rd H a (.dK kvs)) : ∃ (es : Array DictEntry) (n : Nat) (dd : Option Addr) (sl : Array (Option Value)), s.heap.get? a = some { cls := .type "dict", dict := dd, data := .dict es n, slots := sl } := by
  rcases ha with ha | ⟨ob, ha⟩
  · obtain ⟨_, _, vs, _, o, es, ep, h1, h2, h3, _⟩ := (show ObjOk X.prog X.w H s.heap a (.dK kvs) from I.hok a _ ha)
    obtain ⟨oc, od, dt, sl⟩ := o
    obtain ⟨h4, h5⟩ := h2
    simp only at h3 h4 h5
    subst h3 h4
    exact ⟨es, ep, od, sl, h1⟩
  · obtain ⟨_, _, _, vs, _, o, es, ep, h1, h2, h3, _⟩ := (show ObjOk X.prog X.w H s.heap a (.frz ob (.dK kvs)) from I.hok a _ ha)
    obtain ⟨oc, od, dt, sl⟩ := o
    obtain ⟨h4, h5⟩ := h2
    simp only at h3 h4 h5
    subst h3 h4
    exact ⟨es, ep, od, sl, h1⟩
theorem op_eqDS (hu : X.A.units < cLine) : OpR X (compareOp .Eq) rEqDS := by
  intro pins s σ H x y v u Q I rx ry h
  obtain ⟨a, kvs, z, ha, hxy, q⟩ := h
  obtain ⟨es, ep, od, sl, h1⟩ := dict_at I ha
  rcases hxy with ⟨rfl, rfl⟩ | ⟨rfl, rfl⟩
  · cases (show v = Value.ref a from rx)
    obtain ⟨t, rfl⟩ := ry
    exact SeqAt.RcAt.dict_str z t h1 hu X.prog X.w _ _ ⟨.bl false, H, I, rfl, q⟩
  · cases (show u = Value.ref a from ry)
    obtain ⟨t, rfl⟩ := rx
    exact SeqAt.RcAt.str_dict z t h1 hu X.prog X.w _ _ ⟨.bl false, H, I, rfl, q⟩
theorem op_neDS (hu : X.A.units < cLine) : OpR X (compareOp .NotEq) rNeDS := by
  intro pins s σ H x y v u Q I rx ry h
  obtain ⟨a, kvs, z, ha, ⟨rfl, rfl⟩, q⟩ := h
  obtain ⟨es, ep, od, sl, h1⟩ := dict_at I ha
  cases (show v = Value.ref a from rx)
  obtain ⟨t, rfl⟩ := ry
  exact SeqAt.RcNeAt.dict_str z t h1 hu X.prog X.w _ _ ⟨.bl true, H, I, rfl, q⟩
/-! ### a tuple against the empty one -/
def rEqT0 (K : PySem.W.Frag) : R2 := fun x y H Q => ∃ (a b : Addr) (xs : List V), x = .ref a ∧ y = .ref b ∧ SqT K H a xs ∧ SqT K H b [] ∧ Q (.bl xs.isEmpty) H
def rNeT0 (K : PySem.W.Frag) : R2 := fun x y H Q => ∃ (a b : Addr) (xs : List V), x = .ref a ∧ y = .ref b ∧ SqT K H a xs ∧ SqT K H b [] ∧ Q (.bl (!xs.isEmpty)) H
theorem vals_nil {us : List Value} (r : Vals [] us) : us = [] := by cases r; rfl
theorem vals_empty {xs : List V} {us : List Value} (r : Vals xs us) : ((List.range (min us.toArray.size (#[] : Array Value).size)).all (fun _ => true) && us.toArray.size == (#[] : Array Value).size) = xs.isEmpty := by
  have l := r.length
  cases r with
  | nil => rfl
  | cons a b => simp
theorem op_eqT0 (hu : X.A.units < cLine) : OpR X (compareOp .Eq) (rEqT0 X.K) := by
  intro pins s σ H x y v u Q I rx ry h
  obtain ⟨a, b, xs, rfl, rfl, ha, hb, q⟩ := h
  cases (show v = Value.ref a from rx)
  cases (show u = Value.ref b from ry)
  obtain ⟨us, r1, p1, _⟩ := I.tuple ha
  obtain ⟨ws, r2, p2, _⟩ := I.tuple hb
  have e2 := vals_nil r2
  subst e2
  refine SeqAt.RcAt.tuples (e := fun _ => true) p1 p2 hu (fun j h1 h2 => absurd h2 (Nat.not_lt_zero j)) X.prog X.w _ _ ?_
  rw [vals_empty r1]
  exact ⟨.bl xs.isEmpty, H, I, rfl, q⟩
theorem op_neT0 (hu : X.A.units < cLine) : OpR X (compareOp .NotEq) (rNeT0 X.K) := by
  intro pins s σ H x y v u Q I rx ry h
  obtain ⟨a, b, xs, rfl, rfl, ha, hb, q⟩ := h
  cases (show v = Value.ref a from rx)
  cases (show u = Value.ref b from ry)
  obtain ⟨us, r1, p1, _⟩ := I.tuple ha
  obtain ⟨ws, r2, p2, _⟩ := I.tuple hb
  have e2 := vals_nil r2
  subst e2
  refine SeqAt.RcNeAt.tuples (e := fun _ => true) p1 p2 hu (fun j h1 h2 => absurd h2 (Nat.not_lt_zero j)) X.prog X.w _ _ ?_
  rw [vals_empty r1]
  exact ⟨.bl (!xs.isEmpty), H, I, rfl, q⟩
/-! ### ==, != with a dict against a text -/
def rEqX (K : PySem.W.Frag) : R2 := fun x y H Q => rEq2 K x y H Q ∨ (rEqDS x y H Q ∨ rEqT0 K x y H Q)
def rNeX (K : PySem.W.Frag) : R2 := fun x y H Q => rNe2 K x y H Q ∨ (rNeDS x y H Q ∨ rNeT0 K x y H Q)
theorem hu_le {A : Around} (h : A.units + 64 < cLine) : A.units < cLine := by omega
theorem op_eqX (hu : X.A.units + 64 < cLine) : OpR X (compareOp .Eq) (rEqX X.K) := (op_eq2 hu).or ((op_eqDS (hu_le hu)).or (op_eqT0 (hu_le hu)))
theorem op_neX (hu : X.A.units + 64 < cLine) : OpR X (compareOp .NotEq) (rNeX X.K) := (op_ne2 hu).or ((op_neDS (hu_le hu)).or (op_neT0 (hu_le hu)))
def isDS : D → D → Bool
  | .dict _, .str _ => true
  | .str _, .dict _ => true
  | _, _ => false
def isDS' : D → D → Bool
  | .dict _, .str _ => true
  | _, _ => false
def isT0 : D → D → Option Bool
  | .tup ds, .tup [] => some ds.isEmpty
  | _, _ => none
def eqXD (d e : D) : R D := match isT0 d e with
  | some b => .ok (.bl b)
  | none => if isDS d e = true then .ok (.bl false) else eqD d e
theorem isT0_ok {d e : D} {b : Bool} (h : isT0 d e = some b) : ∃ ds, d = .tup ds ∧ e = .tup [] ∧ b = ds.isEmpty := by
  unfold isT0 at h
  split at h
  · cases h; exact ⟨_, rfl, rfl, rfl⟩
  · cases h
theorem isL_emp {F : Hp} {xs : List V} {ds : List D} (l : IsL K F xs ds) : xs.isEmpty = ds.isEmpty := l.empty
def neXD (d e : D) : R D := match isT0 d e with
  | some b => .ok (.bl (!b))
  | none => if isDS' d e = true then .ok (.bl true) else neD d e
theorem rd_mono {F H : Hp} {a : Addr} {u : HO} (s : Same F H) (h : Rd F a u) : Rd H a u := sameR s h
theorem o_eqX : OpD K eqXD (rEqX K) := by
  intro W σ F H d e v u Q s i j q
  unfold eqXD at q
  cases zt : isT0 d e with
  | some b =>
    obtain ⟨ds, rfl, rfl, rfl⟩ := isT0_ok zt
    obtain ⟨a, xs, rfl, h1, l1⟩ := i.tup_inv
    obtain ⟨b, ys, rfl, h2, l2⟩ := j.tup_inv
    have e2 := l2.unnil
    subst e2
    rw [zt] at q
    refine .inr (.inr ⟨a, b, xs, rfl, rfl, sameT s h1, sameT s h2, ?_⟩)
    rw [isL_emp l1]
    exact after.now q s (.bl _)
  | none =>
  rw [zt] at q
  by_cases hz : isDS d e = true
  · rw [if_pos hz] at q
    cases d with
    | dict kvs =>
      cases e with
      | str y =>
        obtain ⟨a, xs, rfl, h, _⟩ := i.dict_inv
        cases j
        exact .inr (.inl ⟨a, xs, y, sameR s h, .inl ⟨rfl, rfl⟩, after.now q s (.bl _)⟩)
      | _ => cases hz
    | str y =>
      cases e with
      | dict kvs =>
        obtain ⟨a, xs, rfl, h, _⟩ := j.dict_inv
        cases i
        exact .inr (.inl ⟨a, xs, y, sameR s h, .inr ⟨rfl, rfl⟩, after.now q s (.bl _)⟩)
      | _ => cases hz
    | _ => cases hz
  · simp only [if_neg hz] at q
    exact .inl (o_eq W σ F H d e v u Q s i j q)
theorem o_neX : OpD K neXD (rNeX K) := by
  intro W σ F H d e v u Q s i j q
  unfold neXD at q
  cases zt : isT0 d e with
  | some b =>
    obtain ⟨ds, rfl, rfl, rfl⟩ := isT0_ok zt
    obtain ⟨a, xs, rfl, h1, l1⟩ := i.tup_inv
    obtain ⟨b, ys, rfl, h2, l2⟩ := j.tup_inv
    have e2 := l2.unnil
    subst e2
    rw [zt] at q
    refine .inr (.inr ⟨a, b, xs, rfl, rfl, sameT s h1, sameT s h2, ?_⟩)
    rw [isL_emp l1]
    exact after.now q s (.bl _)
  | none =>
  rw [zt] at q
  by_cases hz : isDS' d e = true
  · rw [if_pos hz] at q
    cases d with
    | dict kvs =>
      cases e with
      | str y =>
        obtain ⟨a, xs, rfl, h, _⟩ := i.dict_inv
        cases j
        exact .inr (.inl ⟨a, xs, y, sameR s h, ⟨rfl, rfl⟩, after.now q s (.bl _)⟩)
      | _ => cases hz
    | _ => cases hz
  · simp only [if_neg hz] at q
    exact .inl (o_ne W σ F H d e v u Q s i j q)
end
end Pd

/-! Pq1: data with numbers of objects that may yet change (flag true), a memory of what they hold; the state; expressions -/
namespace Pd
open PySem PySem.Spec PyProof.Rows L2
/-! ### addresses for numbers -/
mutual
def D.sub (A : List Addr) : D → D
  | .non => .non
  | .bl b => .bl b
  | .int i => .int i
  | .str s => .str s
  | .list xs => .list (D.subAll A xs)
  | .tup xs => .tup (D.subAll A xs)
  | .dict kvs => .dict (D.subK A kvs)
  | .dictT kvs => .dictT (D.subT A kvs)
  | .obj c fs => .obj c (D.subF A fs)
  | .loc k => match A[k]? with
    | some a => .adr a
    | none => .loc k
  | .adr a => .adr a
def D.subAll (A : List Addr) : List D → List D
  | [] => []
  | d :: ds => D.sub A d :: D.subAll A ds
def D.subK (A : List Addr) : List (Key × D) → List (Key × D)
  | [] => []
  | (k, d) :: ds => (k, D.sub A d) :: D.subK A ds
def D.subT (A : List Addr) : List (List Key × D) → List (List Key × D)
  | [] => []
  | (k, d) :: ds => (k, D.sub A d) :: D.subT A ds
def D.subF (A : List Addr) : List (Str × D) → List (Str × D)
  | [] => []
  | (k, d) :: ds => (k, D.sub A d) :: D.subF A ds
end
theorem subAll_map (A : List Addr) : ∀ ds : List D, D.subAll A ds = ds.map (D.sub A)
  | [] => rfl
  | d :: ds => congrArg (D.sub A d :: ·) (subAll_map A ds)
theorem subK_map (A : List Addr) : ∀ ds : List (Key × D), D.subK A ds = ds.map fun q => (q.1, q.2.sub A)
  | [] => rfl
  | d :: ds => congrArg ((d.1, D.sub A d.2) :: ·) (subK_map A ds)
theorem subT_map (A : List Addr) : ∀ ds : List (List Key × D), D.subT A ds = ds.map fun q => (q.1, q.2.sub A)
  | [] => rfl
  | d :: ds => congrArg ((d.1, D.sub A d.2) :: ·) (subT_map A ds)
theorem subF_map (A : List Addr) : ∀ ds : List (Str × D), D.subF A ds = ds.map fun q => (q.1, q.2.sub A)
  | [] => rfl
  | d :: ds => congrArg ((d.1, D.sub A d.2) :: ·) (subF_map A ds)
section
variable {K : PySem.W.Frag} {F F' : Hp} {κ : Type}
theorem IsK.nil : IsK (κ := κ) K F [] [] := ⟨rfl, fun i x d a _ => by simp at a, fun i x d a _ => by simp at a⟩
theorem IsK.cons {k : κ} {x : V} {d : D} {xs : List (κ × V)} {ds : List (κ × D)} (h : Is K F x d) (t : IsK K F xs ds) : IsK K F ((k, x) :: xs) ((k, d) :: ds) := by
  refine ⟨by simp [t.1], fun i y e a b => ?_, fun i y e a b => ?_⟩
  · cases i with
    | zero => simp at a b; subst a; subst b; rfl
    | succ i => exact t.2.1 i y e (by simpa using a) (by simpa using b)
  · cases i with
    | zero => simp at a b; subst a; subst b; exact h
    | succ i => exact t.2.2 i y e (by simpa using a) (by simpa using b)
theorem IsK.uncons {k : κ} {d : D} {xs : List (κ × V)} {ds : List (κ × D)} (h : IsK K F xs ((k, d) :: ds)) : ∃ x xr, xs = (k, x) :: xr ∧ Is K F x d ∧ IsK K F xr ds := by
  obtain ⟨l, e1, e2⟩ := h
  cases xs with
  | nil => simp at l
  | cons y xr =>
    obtain ⟨k', x⟩ := y
    obtain rfl : k' = k := e1 0 (k', x) (k, d) rfl rfl
    exact ⟨x, xr, rfl, e2 0 _ (k', d) rfl rfl, by simpa using l, fun i y z a b => e1 (i + 1) y z (by simpa using a) (by simpa using b), fun i y z a b => e2 (i + 1) y z (by simpa using a) (by simpa using b)⟩
theorem IsK.unnil {xs : List (κ × V)} (h : IsK (κ := κ) K F xs []) : xs = [] := by
  have l := h.1
  cases xs with
  | nil => rfl
  | cons _ _ => simp at l
end
mutual
theorem is_sub {K : PySem.W.Frag} {F : Hp} {A t : List Addr} : ∀ (d : D) (v : V), Is K F v (d.sub A) → Is K F v (d.sub (A ++ t))
  | .non, _, h => h
  | .bl _, _, h => h
  | .int _, _, h => h
  | .str _, _, h => h
  | .adr _, _, h => h
  | .list xs, v, h => by
    obtain ⟨a, ys, rfl, hs, l⟩ := (show Is K F v (.list (D.subAll A xs)) from h).list_inv
    exact is_list hs (isL_sub xs ys l)
  | .tup xs, v, h => by
    obtain ⟨a, ys, rfl, hs, l⟩ := (show Is K F v (.tup (D.subAll A xs)) from h).tup_inv
    exact is_tup hs (isL_sub xs ys l)
  | .dict xs, v, h => by
    obtain ⟨a, ys, rfl, hs, l⟩ := (show Is K F v (.dict (D.subK A xs)) from h).dict_inv
    have l2 := isK_sub (t := t) xs ys l
    exact .dict hs l2.1 l2.2.1 l2.2.2
  | .dictT xs, v, h => by
    cases (show Is K F v (.dictT (D.subT A xs)) from h) with
    | dictT hs l1 l2 l3 =>
      have l2 := isT_sub (t := t) xs _ ⟨l1, l2, l3⟩
      exact .dictT hs l2.1 l2.2.1 l2.2.2
  | .obj c xs, v, h => by
    obtain ⟨a, dx, ys, rfl, hs, l⟩ := (show Is K F v (.obj c (D.subF A xs)) from h).obj_inv
    have l2 := isF_sub (t := t) xs ys l
    exact .obj hs l2.1 l2.2.1 l2.2.2
  | .loc k, v, h => by
    have h' : Is K F v (match A[k]? with | some a => .adr a | none => .loc k) := h
    show Is K F v (match (A ++ t)[k]? with | some a => .adr a | none => .loc k)
    cases e : A[k]? with
    | none => rw [e] at h'; cases h'
    | some a =>
      rw [e] at h'
      rw [List.getElem?_append_left (List.getElem?_eq_some_iff.mp e).1, e]
      exact h'
theorem isL_sub {K : PySem.W.Frag} {F : Hp} {A t : List Addr} : ∀ (ds : List D) (vs : List V), IsL K F vs (D.subAll A ds) → IsL K F vs (D.subAll (A ++ t) ds)
  | [], vs, h => h
  | d :: ds, vs, h => by
    obtain ⟨x, xr, rfl, i, l⟩ := (show IsL K F vs (D.sub A d :: D.subAll A ds) from h).uncons
    exact .cons (is_sub d x i) (isL_sub ds xr l)
theorem isK_sub {K : PySem.W.Frag} {F : Hp} {A t : List Addr} : ∀ (ds : List (Key × D)) (vs : List (Key × V)), IsK K F vs (D.subK A ds) → IsK K F vs (D.subK (A ++ t) ds)
  | [], vs, h => h
  | (k, d) :: ds, vs, h => by
    obtain ⟨x, xr, rfl, i, l⟩ := (show IsK K F vs ((k, D.sub A d) :: D.subK A ds) from h).uncons
    exact .cons (is_sub d x i) (isK_sub ds xr l)
theorem isT_sub {K : PySem.W.Frag} {F : Hp} {A t : List Addr} : ∀ (ds : List (List Key × D)) (vs : List (List Key × V)), IsK K F vs (D.subT A ds) → IsK K F vs (D.subT (A ++ t) ds)
  | [], vs, h => h
  | (k, d) :: ds, vs, h => by
    obtain ⟨x, xr, rfl, i, l⟩ := (show IsK K F vs ((k, D.sub A d) :: D.subT A ds) from h).uncons
    exact .cons (is_sub d x i) (isT_sub ds xr l)
theorem isF_sub {K : PySem.W.Frag} {F : Hp} {A t : List Addr} : ∀ (ds : List (Str × D)) (vs : List (Str × V)), IsK K F vs (D.subF A ds) → IsK K F vs (D.subF (A ++ t) ds)
  | [], vs, h => h
  | (k, d) :: ds, vs, h => by
    obtain ⟨x, xr, rfl, i, l⟩ := (show IsK K F vs ((k, D.sub A d) :: D.subF A ds) from h).uncons
    exact .cons (is_sub d x i) (isF_sub ds xr l)
end
/-! ### data with a flag -/
/-- true: there may be numbers in it -/
abbrev P := Bool × D
def P.at (A : List Addr) (p : P) : D := match p.1 with
  | true => p.2.sub A
  | false => p.2
abbrev RhoQ := List (Option P)
abbrev Mem := List P
theorem P.mono {K : PySem.W.Frag} {F F' : Hp} {A t : List Addr} {v : V} {p : P} (h : Is K F v (p.at A)) (s : Same F F') : Is K F' v (p.at (A ++ t)) := by
  obtain ⟨b, d⟩ := p
  cases b with
  | false => exact Is.mono (show Is K F v d from h) s
  | true => exact (is_sub d v h).mono s
theorem isC_sub {K : PySem.W.Frag} {F : Hp} {A t : List Addr} {o : HO} : ∀ (d : D), IsC K F o (d.sub A) → IsC K F o (d.sub (A ++ t))
  | .list xs, h => by cases o <;> first | exact isL_sub xs _ h | exact h.elim
  | .dict xs, h => by cases o <;> first | exact isK_sub xs _ h | exact h.elim
  | .dictT xs, h => by cases o <;> first | exact isT_sub xs _ h | exact h.elim
  | .obj c xs, h => by cases o <;> first | exact ⟨h.1, isF_sub xs _ h.2⟩ | exact h.elim
  | .non, h => by cases o <;> exact h.elim
  | .bl _, h => by cases o <;> exact h.elim
  | .int _, h => by cases o <;> exact h.elim
  | .str _, h => by cases o <;> exact h.elim
  | .tup _, h => by cases o <;> exact h.elim
  | .adr _, h => by cases o <;> exact h.elim
  | .loc k, h => by
    have h' : IsC K F o (match A[k]? with | some a => .adr a | none => .loc k) := h
    split at h' <;> cases o <;> exact h'.elim
theorem P.monoC {K : PySem.W.Frag} {F F' : Hp} {A t : List Addr} {o : HO} {p : P} (h : IsC K F o (p.at A)) (s : Same F F') : IsC K F' o (p.at (A ++ t)) := by
  obtain ⟨b, d⟩ := p
  cases b with
  | false => exact IsC.mono (show IsC K F o d from h) s
  | true => exact (isC_sub d h).mono s
/-- what stands at the numbers -/
structure Cells (K : PySem.W.Frag) (F H : Hp) (A : List Addr) (M : Mem) : Prop where
  fh : Same F H
  len : A.length = M.length
  nd : A.Nodup
  dj : ∀ a ∈ A, F a = none
  at_ : ∀ (k : Nat) p, M[k]? = some p → ∃ a o, A[k]? = some a ∧ H a = some o ∧ IsC K F o (p.at A)
/-- from an earlier state to a later one -/
structure ExtQ (F H : Hp) (A : List Addr) (F' H' : Hp) (A' : List Addr) : Prop where
  ff : Same F F'
  pre : ∃ t, A' = A ++ t
  hh : ∀ a o, H a = some o → a ∉ A → H' a = some o
  nw : ∀ p, H p ≠ none → F p = none → p ∉ A → F' p = none ∧ p ∉ A'
section
variable {K : PySem.W.Frag} {F H F1 H1 F2 H2 : Hp} {A A1 A2 : List Addr} {M M1 : Mem}
theorem ExtQ.refl : ExtQ F H A F H A := ⟨.refl _, ⟨[], by simp⟩, fun _ _ h _ => h, fun p _ f n => ⟨f, n⟩⟩
theorem ExtQ.trans (a : ExtQ F H A F1 H1 A1) (c : Cells K F1 H1 A1 M1) (b : ExtQ F1 H1 A1 F2 H2 A2) : ExtQ F H A F2 H2 A2 := by
  obtain ⟨t, e⟩ := a.pre
  obtain ⟨u, e2⟩ := b.pre
  have out : ∀ p o, H p = some o → p ∉ A → p ∉ A1 := fun p o h n => by
    cases z : F p with
    | none => exact (a.nw p (by rw [h]; simp) z n).2
    | some o' =>
      intro m
      have := c.dj p m
      rw [a.ff p o' z] at this
      cases this
  refine ⟨a.ff.trans b.ff, ⟨t ++ u, by rw [e2, e, List.append_assoc]⟩, fun p o h n => b.hh p o (a.hh p o h n) (out p o h n), fun p h f n => ?_⟩
  obtain ⟨f1, n1⟩ := a.nw p h f n
  refine b.nw p (fun z => ?_) f1 n1
  cases q : H p with
  | none => exact h q
  | some o => rw [a.hh p o q n] at z; cases z
/-- a pure step -/
theorem ExtQ.pure (c : Cells K F H A M) (x : Ext F H F1 H1) : ExtQ F H A F1 H1 A ∧ Cells K F1 H1 A M := by
  have inH : ∀ a ∈ A, H a ≠ none := fun a m z => by
    obtain ⟨k, hk⟩ := List.mem_iff_getElem?.mp m
    obtain ⟨p, hp⟩ : ∃ p, M[k]? = some p := by
      have : k < M.length := by rw [← c.len]; exact (List.getElem?_eq_some_iff.mp hk).1
      exact ⟨M[k], by simp [this]⟩
    obtain ⟨a', o, e1, e2, _⟩ := c.at_ k p hp
    rw [hk] at e1
    cases e1
    rw [z] at e2
    cases e2
  refine ⟨⟨x.ff, ⟨[], by simp⟩, fun a o h _ => x.hh a o h, fun p h f n => ⟨x.nw p h f, n⟩⟩, x.fh, c.len, c.nd, fun a m => x.nw a (inH a m) (c.dj a m), fun k p hp => ?_⟩
  obtain ⟨a, o, e1, e2, e3⟩ := c.at_ k p hp
  refine ⟨a, o, e1, x.hh a o e2, ?_⟩
  have := P.monoC (t := []) e3 x.ff
  rwa [List.append_nil] at this
/-- a new object, that may change -/
theorem ExtQ.alloc {p : Addr} {o : HO} {q : P} (c : Cells K F H A M) (h : H p = some o) (f : F p = none) (n : p ∉ A) (i : IsC K F o (q.at A)) : Cells K F H (A ++ [p]) (M ++ [q]) := by
  refine ⟨c.fh, by simp [c.len], ?_, fun a m => ?_, fun k z hz => ?_⟩
  · rw [List.nodup_append]
    exact ⟨c.nd, by simp, fun a ha b hb => by simp at hb; subst hb; exact fun e => n (e ▸ ha)⟩
  · rcases List.mem_append.mp m with m | m
    · exact c.dj a m
    · simp at m; subst m; exact f
  · by_cases hk : k < M.length
    · rw [List.getElem?_append_left hk] at hz
      obtain ⟨a, o', e1, e2, e3⟩ := c.at_ k z hz
      exact ⟨a, o', by rw [List.getElem?_append_left (by rw [c.len]; exact hk)]; exact e1, e2, P.monoC e3 (.refl F)⟩
    · rw [List.getElem?_append_right (by omega)] at hz
      have hk2 : k - M.length = 0 := by
        have := (List.getElem?_eq_some_iff.mp hz).1
        simp at this
        omega
      rw [hk2] at hz
      cases hz
      refine ⟨p, o, ?_, h, P.monoC i (.refl F)⟩
      rw [List.getElem?_append_right (by rw [c.len]; omega), c.len, hk2]
      rfl
/-- an object changes -/
theorem ExtQ.put {k : Nat} {a : Addr} {o : HO} {q : P} (c : Cells K F H A M) (ha : A[k]? = some a) (i : IsC K F o (q.at A)) : ExtQ F H A F (upd H a o) A ∧ Cells K F (upd H a o) A (M.set k q) := by
  have mA : a ∈ A := List.mem_iff_getElem?.mpr ⟨k, ha⟩
  have nzA : ∀ b : Addr, b ∉ A → b ≠ a := fun b nb z => nb (by rw [z]; exact mA)
  refine ⟨⟨.refl _, ⟨[], by simp⟩, fun b u e nb => by rw [upd_ne (nzA b nb)]; exact e, fun p _ f n => ⟨f, n⟩⟩, fun b u e => ?_, by simp [c.len], c.nd, c.dj, fun j z hz => ?_⟩
  · have nz : b ≠ a := fun z => by
      rw [z, c.dj a mA] at e
      cases e
    rw [upd_ne nz]
    exact c.fh b u e
  · rcases getElem?_set_cases hz with ⟨rfl, e, hl⟩ | ⟨hj, e⟩
    · cases e
      exact ⟨a, o, ha, upd_same, i⟩
    · obtain ⟨b, u, e1, e2, e3⟩ := c.at_ j z e
      refine ⟨b, u, e1, ?_, e3⟩
      have nz : b ≠ a := fun w => hj (by
        subst w
        have l1 := (List.getElem?_eq_some_iff.mp e1)
        have l2 := (List.getElem?_eq_some_iff.mp ha)
        exact (List.getElem_inj c.nd).mp (l1.2.trans l2.2.symm))
      rw [upd_ne nz]
      exact e2
end
/-! ### the state -/
structure QB where
  F : Hp
  H : Hp
  A : List Addr
structure RepQ (K : PySem.W.Frag) (B : QB) (ρ : RhoQ) (M : Mem) (σ : L2.St) (F H : Hp) (A : List Addr) : Prop where
  len : σ.length = ρ.length
  cl : Cells K F H A M
  ext : ExtQ B.F B.H B.A F H A
  val : ∀ (i : Nat) p, ρ[i]? = some (some p) → ∃ v, σ[i]? = some (some v) ∧ Is K F v (p.at A)
theorem RepQ.to {K : PySem.W.Frag} {B : QB} {ρ : RhoQ} {M M' : Mem} {σ : L2.St} {F H F' H' : Hp} {A A' : List Addr} (r : RepQ K B ρ M σ F H A) (x : ExtQ F H A F' H' A') (c : Cells K F' H' A' M') : RepQ K B ρ M' σ F' H' A' := by
  refine ⟨r.len, c, r.ext.trans r.cl x, fun i p h => ?_⟩
  obtain ⟨v, e, h⟩ := r.val i p h
  obtain ⟨t, rfl⟩ := x.pre
  exact ⟨v, e, P.mono h x.ff⟩
/-- what of the slots is without numbers -/
def clR (ρ : RhoQ) : Rho := ρ.map fun
  | some (false, d) => some d
  | _ => none
theorem RepQ.clean {K : PySem.W.Frag} {B : QB} {ρ : RhoQ} {M : Mem} {σ : L2.St} {F H : Hp} {A : List Addr} (r : RepQ K B ρ M σ F H A) : Rep K ⟨F, []⟩ H [] (clR ρ) σ F H := by
  refine ⟨by unfold clR; rw [List.length_map]; exact r.len, r.cl.fh, .refl _, .refl _, fun p h f => f, fun i d a _ => ?_, fun i d _ b => by simp at b, fun i j p d e _ a => by simp at a, fun b hb => nomatch hb⟩
  unfold clR at a
  rw [List.getElem?_map] at a
  cases e : ρ[i]? with
  | none => rw [e] at a; cases a
  | some q =>
    rw [e] at a
    cases q with
    | none => cases a
    | some p =>
      obtain ⟨b, d'⟩ := p
      cases b with
      | true => cases a
      | false =>
        cases a
        exact r.val i (false, d) e
/-! ### expressions -/
inductive RQ (α : Type) where
  | ok (a : α) (M : Mem) | ex (x : Ex) (M : Mem) | st
def RQ.bind {α β : Type} (r : RQ α) (f : α → Mem → RQ β) : RQ β := match r with
  | .ok a M => f a M
  | .ex x M => .ex x M
  | .st => .st
def R.up {α β : Type} (r : R α) (M : Mem) (f : α → β) : RQ β := match r with
  | .ok a => .ok (f a) M
  | .ex x => .ex x M
  | .st => .st
abbrev GQ := RhoQ → Mem → RQ P
abbrev GQA := RhoQ → Mem → RQ (List P)
def IsLP (K : PySem.W.Frag) (F : Hp) (A : List Addr) (vs : List V) (ps : List P) : Prop := IsL K F vs (ps.map (P.at A))
def ExK (K : PySem.W.Frag) (W : WX) (σ : L2.St) (F H : Hp) (A : List Addr) (x : Ex) (M : Mem) : Prop := ∀ cls od F' H' A', ExtQ F H A F' H' A' → Cells K F' H' A' M → IsX K F' x cls od → W cls od σ H'
def afterQ (K : PySem.W.Frag) (W : WX) (σ : L2.St) (F H : Hp) (A : List Addr) (r : RQ P) (Q : VK) : Prop := match r with
  | .ok p M => ∀ v F' H' A', ExtQ F H A F' H' A' → Cells K F' H' A' M → Is K F' v (p.at A') → Q v H'
  | .ex x M => ExK K W σ F H A x M
  | .st => False
def tSemQ (K : PySem.W.Frag) (B : QB) (W : WX) (g : GQ) : TE := fun σ H Q => ∃ ρ M F A, RepQ K B ρ M σ F H A ∧ afterQ K W σ F H A (g ρ M) Q
abbrev DQ (X : Cx) (B : QB) (W : WX) (e : Expr) (g : GQ) : Prop := PE X e (tSemQ X.K B W g)
def tSemQA (K : PySem.W.Frag) (B : QB) (W : WX) (g : GQA) : TA := fun σ H Q => ∃ ρ M F A, RepQ K B ρ M σ F H A ∧ match g ρ M with
  | .ok ps M => ∀ vs F' H' A', ExtQ F H A F' H' A' → Cells K F' H' A' M → IsLP K F' A' vs ps → Q vs H'
  | .ex x M => ExK K W σ F H A x M
  | .st => False
abbrev DQA (X : Cx) (B : QB) (W : WX) (es : List Expr) (g : GQA) : Prop := PA X es (tSemQA X.K B W g)
section
variable {K : PySem.W.Frag} {B : QB} {W : WX} {F H F1 H1 : Hp} {A A1 : List Addr} {M M1 : Mem} {ρ : RhoQ} {σ : L2.St} {Q : VK}
theorem ExK.ext {x : Ex} {M2 : Mem} (h : ExK K W σ F H A x M2) (e : ExtQ F H A F1 H1 A1) (c : Cells K F1 H1 A1 M1) : ExK K W σ F1 H1 A1 x M2 := fun cls od F' H' A' y cy i => h cls od F' H' A' (e.trans c y) cy i
theorem afterQ.ext {r : RQ P} (h : afterQ K W σ F H A r Q) (e : ExtQ F H A F1 H1 A1) (c : Cells K F1 H1 A1 M1) : afterQ K W σ F1 H1 A1 r Q := by
  cases r with
  | ok p M2 => exact fun v F' H' A' y cy i => h v F' H' A' (e.trans c y) cy i
  | ex x M2 => exact ExK.ext (M1 := M1) h e c
  | st => exact h
/-- one part is read, then the rest -/
theorem semQ_bind {g : GQ} {k : P → Mem → RQ P} {Φ : VK} (r : RepQ K B ρ M σ F H A) (h : afterQ K W σ F H A ((g ρ M).bind k) Q)
    (f : ∀ p M1 v F1 H1 A1, ExtQ F H A F1 H1 A1 → Is K F1 v (p.at A1) → RepQ K B ρ M1 σ F1 H1 A1 → afterQ K W σ F1 H1 A1 (k p M1) Q → Φ v H1) : tSemQ K B W g σ H Φ := by
  refine ⟨ρ, M, F, A, r, ?_⟩
  cases e : g ρ M with
  | ok p M1 =>
    rw [e] at h
    exact fun v F' H' A' x c i => f p M1 v F' H' A' x i (r.to x c) (afterQ.ext (M1 := M1) h x c)
  | ex x M1 =>
    rw [e] at h
    exact h
  | st =>
    rw [e] at h
    exact h
theorem semQA_bind {g : GQA} {k : List P → Mem → RQ P} {Φ : List V → Hp → Prop} (r : RepQ K B ρ M σ F H A) (h : afterQ K W σ F H A ((g ρ M).bind k) Q)
    (f : ∀ ps M1 vs F1 H1 A1, ExtQ F H A F1 H1 A1 → IsLP K F1 A1 vs ps → RepQ K B ρ M1 σ F1 H1 A1 → afterQ K W σ F1 H1 A1 (k ps M1) Q → Φ vs H1) : tSemQA K B W g σ H Φ := by
  refine ⟨ρ, M, F, A, r, ?_⟩
  cases e : g ρ M with
  | ok p M1 =>
    rw [e] at h
    exact fun v F' H' A' x c i => f p M1 v F' H' A' x i (r.to x c) (afterQ.ext (M1 := M1) h x c)
  | ex x M1 =>
    rw [e] at h
    exact h
  | st =>
    rw [e] at h
    exact h
theorem afterQ.now {p : P} (h : afterQ K W σ F H A (.ok p M) Q) (c : Cells K F H A M) {v : V} (i : Is K F v (p.at A)) : Q v H := h v F H A .refl c i
end
/-- without numbers -/
def qP (g : Rho → R D) : GQ := fun ρ M => (g (clR ρ)).up M fun d => (false, d)
def qPA (g : Rho → R (List D)) : GQA := fun ρ M => (g (clR ρ)).up M fun ds => ds.map fun d => (false, d)
/-- a new object -/
def qNew (g : Rho → R D) : GQ := fun ρ M => match g (clR ρ) with
  | .ok d => .ok (true, .loc M.length) (M ++ [(false, d)])
  | .ex x => .ex x M
  | .st => .st
def qVar (i : Nat) : GQ := fun ρ M => match ρ[i]? with
  | some (some p) => .ok p M
  | _ => .st
section
variable {X : Cx} {B : QB} {W : WX} {pos : Pos} {e : Expr} {es : List Expr} {g : Rho → R D}
theorem q_pure (h : ∀ Fb Hb : Hp, DE X ⟨Fb, []⟩ Hb [] W e g) : DQ X B W e (qP g) := by
  refine pe_imp (pe_some h) fun σ H Q ⟨ρ, M, F, A, r, q⟩ => ⟨F, H, clR ρ, F, r.clean, ?_⟩
  unfold qP at q
  cases z : g (clR ρ) with
  | ok d =>
    rw [z] at q
    exact fun v F' H' x i => let ⟨a, b⟩ := ExtQ.pure r.cl x; q v F' H' A a b i
  | ex x =>
    rw [z] at q
    exact fun cls od F' H' y i => let ⟨a, b⟩ := ExtQ.pure r.cl y; q cls od F' H' A a b i
  | st =>
    rw [z] at q
    exact q
theorem q_new (h : ∀ Fb Hb : Hp, DN X ⟨Fb, []⟩ Hb [] W e g) : DQ X B W e (qNew g) := by
  refine pe_imp (pe_some h) fun σ H Q ⟨ρ, M, F, A, r, q⟩ => ⟨F, H, clR ρ, F, r.clean, ?_⟩
  unfold qNew at q
  cases z : g (clR ρ) with
  | ok d =>
    rw [z] at q
    intro p o F' H' x e1 c f n
    obtain ⟨a, b⟩ := ExtQ.pure r.cl x
    have nA : p ∉ A := fun m => by
      obtain ⟨k, hk⟩ := List.mem_iff_getElem?.mp m
      obtain ⟨y, hy⟩ : ∃ p, M[k]? = some p := by
        have : k < M.length := by rw [← r.cl.len]; exact (List.getElem?_eq_some_iff.mp hk).1
        exact ⟨M[k], by simp [this]⟩
      obtain ⟨a', o, e1, e2, _⟩ := r.cl.at_ k y hy
      rw [hk] at e1
      cases e1
      rw [n] at e2
      cases e2
    have c2 := ExtQ.alloc (q := (false, d)) b e1 f nA c
    refine q (.ref p) F' H' (A ++ [p]) ⟨a.ff, ⟨[p], rfl⟩, a.hh, fun u hu fu nu => ?_⟩ c2 ?_
    · obtain ⟨z1, z2⟩ := a.nw u hu fu nu
      exact ⟨z1, fun m => by
        rcases List.mem_append.mp m with m | m
        · exact z2 m
        · simp at m; subst m; exact hu n⟩
    · show Is X.K F' (.ref p) (match (A ++ [p])[M.length]? with | some a => .adr a | none => .loc M.length)
      rw [← r.cl.len, List.getElem?_append_right (Nat.le_refl _), Nat.sub_self]
      exact .adr p
  | ex x =>
    rw [z] at q
    exact fun cls od F' H' y i => let ⟨a, b⟩ := ExtQ.pure r.cl y; q cls od F' H' A a b i
  | st =>
    rw [z] at q
    exact q
theorem qa_pure {t : Rho → R (List D)} (h : ∀ Fb Hb : Hp, DA X ⟨Fb, []⟩ Hb [] W es t) : DQA X B W es (qPA t) := by
  have : PA X es (fun σ H Q => ∃ a b, tSemA X.K ⟨a, []⟩ b [] W t σ H Q) := ⟨fun pos pins s σ H Q I ⟨a, b, q⟩ => (h a b).run pos pins s σ H Q I q⟩
  refine pa_imp this fun σ H Q ⟨ρ, M, F, A, r, q⟩ => ⟨F, H, clR ρ, F, r.clean, ?_⟩
  unfold qPA at q
  cases z : t (clR ρ) with
  | ok d =>
    rw [z] at q
    refine fun v F' H' x i => let ⟨a, b⟩ := ExtQ.pure r.cl x; q v F' H' A a b ?_
    show IsL X.K F' v ((d.map fun d => (false, d)).map (P.at A))
    rw [List.map_map]
    have e : (P.at A ∘ fun d => (false, d)) = (id : D → D) := rfl
    rw [e, List.map_id]
    exact i
  | ex x =>
    rw [z] at q
    exact fun cls od F' H' y i => let ⟨a, b⟩ := ExtQ.pure r.cl y; q cls od F' H' A a b i
  | st =>
    rw [z] at q
    exact q
theorem q_var (i : Nat) {x : Str} (hN : X.N[i]? = some x := by rfl) (hv : Vis X.env.scope x := by first | exact Or.inl rfl | exact Or.inr (Or.inl rfl) | exact Or.inr (Or.inr rfl)) (hd : (x == ("__debug__" : Str)) = false := by decide)
    (hcd : (x == ("__classdict__" : Str)) = false := by decide) : DQ X B W (.Name x pos) (qVar i) := by
  refine pe_imp (pe_var hN hv hd hcd) fun σ H Q ⟨ρ, M, F, A, r, q⟩ => ?_
  unfold qVar at q
  split at q
  · rename_i p e
    obtain ⟨v, e1, e2⟩ := r.val i p e
    exact ⟨v, e1, afterQ.now q r.cl e2⟩
  · exact q.elim
end
end Pd

/-! Pq2: statements over slots and a memory -/
namespace Pd
open PySem PySem.Spec PyProof.Rows L2
inductive SQ where
  | nx (ρ : RhoQ) (M : Mem) | rt (p : P) (M : Mem) | bk (ρ : RhoQ) (M : Mem) | ct (ρ : RhoQ) (M : Mem) | ex (x : Ex) (ρ : RhoQ) (M : Mem) | st
abbrev SQF := RhoQ → Mem → SQ
/-- more is there -/
def Grow (F : Hp) (A : List Addr) (F' : Hp) (A' : List Addr) : Prop := Same F F' ∧ ∃ t, A' = A ++ t
theorem Grow.refl {F : Hp} {A : List Addr} : Grow F A F A := ⟨.refl _, [], by simp⟩
theorem Grow.trans {F F1 F2 : Hp} {A A1 A2 : List Addr} (a : Grow F A F1 A1) (b : Grow F1 A1 F2 A2) : Grow F A F2 A2 := by
  obtain ⟨s, t, e⟩ := a
  obtain ⟨s2, t2, e2⟩ := b
  exact ⟨s.trans s2, t ++ t2, by rw [e2, e, List.append_assoc]⟩
theorem ExtQ.grow {F H F' H' : Hp} {A A' : List Addr} (x : ExtQ F H A F' H' A') : Grow F A F' A' := ⟨x.ff, x.pre⟩
theorem Grow.is {K : PySem.W.Frag} {F F' : Hp} {A A' : List Addr} {v : V} {p : P} (g : Grow F A F' A') (h : Is K F v (p.at A)) : Is K F' v (p.at A') := by
  obtain ⟨s, t, rfl⟩ := g
  exact P.mono h s
def afterQS (K : PySem.W.Frag) (B : QB) (W : WX) (Fb : Hp) (Ab : List Addr) (r : SQ) (E : Ends) : Prop := match r with
  | .nx ρ M => ∀ σ F H A, RepQ K B ρ M σ F H A → Grow Fb Ab F A → E.nx σ H
  | .rt p M => ∀ v F H A, ExtQ B.F B.H B.A F H A → Cells K F H A M → Is K F v (p.at A) → E.rt v H
  | .bk ρ M => ∀ σ F H A, RepQ K B ρ M σ F H A → Grow Fb Ab F A → E.bk σ H
  | .ct ρ M => ∀ σ F H A, RepQ K B ρ M σ F H A → Grow Fb Ab F A → E.ct σ H
  | .ex x ρ M => ∀ cls od σ F H A, RepQ K B ρ M σ F H A → Grow Fb Ab F A → IsX K F x cls od → W cls od σ H
  | .st => False
def tSemQS (K : PySem.W.Frag) (B : QB) (W : WX) (s : SQF) : TS := fun E σ H => ∃ ρ M F A, RepQ K B ρ M σ F H A ∧ afterQS K B W F A (s ρ M) E
theorem afterQS.mono {K : PySem.W.Frag} {B : QB} {W : WX} {F F2 : Hp} {A A2 : List Addr} {r : SQ} {E : Ends} (h : afterQS K B W F A r E) (s : Grow F A F2 A2) : afterQS K B W F2 A2 r E := by
  cases r with
  | nx ρ M => exact fun σ F' H' A' r x => h σ F' H' A' r (s.trans x)
  | bk ρ M => exact fun σ F' H' A' r x => h σ F' H' A' r (s.trans x)
  | ct ρ M => exact fun σ F' H' A' r x => h σ F' H' A' r (s.trans x)
  | ex x ρ M => exact fun cls od σ F' H' A' r x => h cls od σ F' H' A' r (s.trans x)
  | _ => exact h
abbrev DQS (X : Cx) (B : QB) (W : WX) (st : Stmt) (s : SQF) : Prop := PS X st (tSemQS X.K B W s)
abbrev DQSs (X : Cx) (B : QB) (W : WX) (st : List Stmt) (s : SQF) : Prop := PSs X st (tSemQS X.K B W s)
def tSemQT (K : PySem.W.Frag) (B : QB) (W : WX) (g : RhoQ → Mem → RQ Bool) : TT := fun σ H Q => ∃ ρ M F A, RepQ K B ρ M σ F H A ∧ match g ρ M with
  | .ok b M => ∀ F' H' A', ExtQ F H A F' H' A' → Cells K F' H' A' M → Q b H'
  | .ex x M => ExK K W σ F H A x M
  | .st => False
abbrev DQT (X : Cx) (B : QB) (W : WX) (e : Expr) (g : RhoQ → Mem → RQ Bool) : Prop := PT X e (tSemQT X.K B W g)
def qT (g : Rho → R Bool) : RhoQ → Mem → RQ Bool := fun ρ M => (g (clR ρ)).up M id
section
variable {X : Cx} {B : QB} {W : WX} {pos : Pos} {e : Expr} {st : Stmt} {sts : List Stmt} {g : GQ} {s u : SQF}
theorem qt_pure {p : Rho → R Bool} (h : ∀ Fb Hb : Hp, DT X ⟨Fb, []⟩ Hb [] W e p) : DQT X B W e (qT p) := by
  refine pt_imp (pt_some h) fun σ H Q ⟨ρ, M, F, A, r, q⟩ => ⟨F, H, clR ρ, F, r.clean, ?_⟩
  unfold qT at q
  cases z : p (clR ρ) with
  | ok d =>
    rw [z] at q
    exact fun F' H' x => let ⟨a, b⟩ := ExtQ.pure r.cl x; q F' H' A a b
  | ex x =>
    rw [z] at q
    exact fun cls od F' H' y i => let ⟨a, b⟩ := ExtQ.pure r.cl y; q cls od F' H' A a b i
  | st =>
    rw [z] at q
    exact q
/-! ### blocks -/
def sqNil : SQF := fun ρ M => .nx ρ M
def sqSeq (s u : SQF) : SQF := fun ρ M => match s ρ M with
  | .nx ρ1 M1 => u ρ1 M1
  | r => r
theorem qss_nil : DQSs X B W [] sqNil := pss_imp pss_nil fun E σ H ⟨ρ, M, F, A, r, h⟩ => h σ F H A r .refl
theorem qss_one (h : DQS X B W st s) : DQSs X B W [st] s := pss_one h
theorem qss_cons (h1 : DQS X B W st s) (h2 : DQSs X B W sts u) : DQSs X B W (st :: sts) (sqSeq s u) := by
  refine pss_imp (pss_cons h1 h2) fun E σ H ⟨ρ, M, F, A, r, h⟩ => ⟨ρ, M, F, A, r, ?_⟩
  unfold sqSeq at h
  cases z : s ρ M with
  | nx ρ1 M1 =>
    rw [z] at h
    exact fun σ1 F1 H1 A1 r1 x1 => ⟨ρ1, M1, F1, A1, r1, h.mono x1⟩
  | _ => rw [z] at h; exact h
/-- an expression is read, then the rest -/
theorem semQS {K : PySem.W.Frag} {σ : L2.St} {F H : Hp} {A : List Addr} {ρ : RhoQ} {M : Mem} {k : P → Mem → SQ} {E : Ends} {Φ : VK} (r : RepQ K B ρ M σ F H A)
    (h : afterQS K B W F A (match g ρ M with | .ok p M1 => k p M1 | .ex x M1 => .ex x ρ M1 | .st => .st) E)
    (f : ∀ p M1 v F1 H1 A1, Is K F1 v (p.at A1) → RepQ K B ρ M1 σ F1 H1 A1 → Grow F A F1 A1 → afterQS K B W F1 A1 (k p M1) E → Φ v H1) : tSemQ K B W g σ H Φ := by
  refine ⟨ρ, M, F, A, r, ?_⟩
  cases z : g ρ M with
  | ok p M1 =>
    rw [z] at h
    exact fun v F' H' A' x c i => f p M1 v F' H' A' i (r.to x c) x.grow (h.mono x.grow)
  | ex x M1 =>
    rw [z] at h
    exact fun cls od F' H' A' x c i => h cls od σ F' H' A' (r.to x c) x.grow i
  | st =>
    rw [z] at h
    exact h.elim
theorem semQST {K : PySem.W.Frag} {σ : L2.St} {F H : Hp} {A : List Addr} {ρ : RhoQ} {M : Mem} {g : RhoQ → Mem → RQ Bool} {k : Bool → Mem → SQ} {E : Ends} {Φ : Bool → Hp → Prop} (r : RepQ K B ρ M σ F H A)
    (h : afterQS K B W F A (match g ρ M with | .ok p M1 => k p M1 | .ex x M1 => .ex x ρ M1 | .st => .st) E)
    (f : ∀ p M1 F1 H1 A1, RepQ K B ρ M1 σ F1 H1 A1 → Grow F A F1 A1 → afterQS K B W F1 A1 (k p M1) E → Φ p H1) : tSemQT K B W g σ H Φ := by
  refine ⟨ρ, M, F, A, r, ?_⟩
  cases z : g ρ M with
  | ok p M1 =>
    rw [z] at h
    exact fun F' H' A' x c => f p M1 F' H' A' (r.to x c) x.grow (h.mono x.grow)
  | ex x M1 =>
    rw [z] at h
    exact fun cls od F' H' A' x c i => h cls od σ F' H' A' (r.to x c) x.grow i
  | st =>
    rw [z] at h
    exact h.elim
def sqE (g : GQ) (k : RhoQ → P → Mem → SQ) : SQF := fun ρ M => match g ρ M with
  | .ok p M1 => k ρ p M1
  | .ex x M1 => .ex x ρ M1
  | .st => .st
def sqExpr (g : GQ) : SQF := sqE g fun ρ _ M => .nx ρ M
theorem qs_expr (he : DQ X B W e g) (hs : swapsWith e none pos.line X.env = pure false := by rfl) : DQS X B W (.Expr e pos) (sqExpr g) :=
  ps_imp (ps_expr he hs) fun E σ H ⟨ρ, M, F, A, r, h⟩ => semQS (k := fun _ M1 => .nx ρ M1) r h fun p M1 v F1 H1 A1 i1 r1 _ h1 => h1 σ F1 H1 A1 r1 .refl
def sqRet (g : GQ) : SQF := sqE g fun _ p M => .rt p M
theorem qs_ret (he : DQ X B W e g) : DQS X B W (.Return (some e) pos) (sqRet g) :=
  ps_imp (ps_ret he) fun E σ H ⟨ρ, M, F, A, r, h⟩ => semQS (k := fun p M1 => .rt p M1) r h fun p M1 v F1 H1 A1 i1 r1 _ h1 => h1 v F1 H1 A1 r1.ext r1.cl i1
def sqRetNone : SQF := fun _ M => .rt (false, .non) M
theorem qs_retNone : DQS X B W (.Return none pos) sqRetNone :=
  ps_imp ps_retN fun E σ H ⟨ρ, M, F, A, r, h⟩ => h .non F H A r.ext r.cl .non
theorem qs_pass : DQS X B W (.Pass pos) sqNil := ps_imp ps_pass fun E σ H ⟨ρ, M, F, A, r, h⟩ => h σ F H A r .refl
def sqBrk : SQF := fun ρ M => .bk ρ M
def sqCnt : SQF := fun ρ M => .ct ρ M
theorem qs_break : DQS X B W (.Break pos) sqBrk := ps_imp ps_break fun E σ H ⟨ρ, M, F, A, r, h⟩ => h σ F H A r .refl
theorem qs_continue : DQS X B W (.Continue pos) sqCnt := ps_imp ps_continue fun E σ H ⟨ρ, M, F, A, r, h⟩ => h σ F H A r .refl
theorem RepQ.set {K : PySem.W.Frag} {ρ : RhoQ} {M : Mem} {σ : L2.St} {F H : Hp} {A : List Addr} {v : V} {p : P} (r : RepQ K B ρ M σ F H A) (i : Nat) (h : Is K F v (p.at A)) : RepQ K B (ρ.set i (some p)) M (σ.set i (some v)) F H A := by
  refine ⟨by rw [List.length_set, List.length_set, r.len], r.cl, r.ext, fun j q a => ?_⟩
  rcases getElem?_set_cases a with ⟨rfl, z, hl⟩ | ⟨hj, z⟩
  · cases z
    exact ⟨v, by rw [List.getElem?_set_self (by rw [r.len]; exact hl)], h⟩
  · rw [List.getElem?_set_ne (Ne.symm hj)]
    exact r.val j q z
def sqSet (i : Nat) (g : GQ) : SQF := sqE g fun ρ p M => .nx (ρ.set i (some p)) M
theorem qs_set (i : Nat) {x : Str} {p2 : Pos} (hN : X.N.Nodup) (he : DQ X B W e g) (hi : X.N[i]? = some x := by rfl) (hx : Loc X.env.scope x := by exact Or.inl rfl) (hs : swapsWith e (some (.Name x p2)) pos.line X.env = pure false := by rfl) (hf : X.fn x = true ∨ X.env.scope.names.lookup x = some .local := by first | exact .inl rfl | exact .inr rfl | assumption) :
    DQS X B W (.Assign [.Name x p2] e pos) (sqSet i g) :=
  ps_imp (ps_set hN hi hx he hs hf) fun E σ H ⟨ρ, M, F, A, r, h⟩ => semQS (k := fun p M1 => .nx (ρ.set i (some p)) M1) r h fun p M1 v F1 H1 A1 i1 r1 _ h1 => h1 _ F1 H1 A1 (r1.set i i1) .refl
/-! ### targets -/
abbrev TQ := P → RhoQ → Option RhoQ
def tSemGQ (K : PySem.W.Frag) (B : QB) (τ : TQ) : TG := fun v σ H Q => ∃ ρ M F A p, RepQ K B ρ M σ F H A ∧ Is K F v (p.at A) ∧ match τ p ρ with
  | some ρ' => ∀ σ', RepQ K B ρ' M σ' F H A → Q σ' H
  | none => False
abbrev DQG (X : Cx) (B : QB) (tg : Expr) (τ : TQ) : Prop := PG X tg (tSemGQ X.K B τ)
def tqName (i : Nat) : TQ := fun p ρ => some (ρ.set i (some p))
theorem qg_name (i : Nat) {x : Str} (hN : X.N.Nodup) (hi : X.N[i]? = some x := by rfl) (hx : Loc X.env.scope x := by exact Or.inl rfl) (hf : X.fn x = true ∨ X.env.scope.names.lookup x = some .local := by first | exact .inl rfl | exact .inr rfl | assumption) :
    DQG X B (.Name x pos) (tqName i) :=
  pg_imp (pg_name hN hi hx hf) fun v σ H Q ⟨ρ, M, F, A, p, r, h, q⟩ => q _ (r.set i h)
abbrev TQs := List P → RhoQ → Option RhoQ
def tSemGQs (K : PySem.W.Frag) (B : QB) (τ : TQs) : TGs := fun vs σ H Q => ∃ ρ M F A ps, RepQ K B ρ M σ F H A ∧ IsLP K F A vs ps ∧ match τ ps ρ with
  | some ρ' => ∀ σ', RepQ K B ρ' M σ' F H A → Q σ' H
  | none => False
abbrev DQGs (X : Cx) (B : QB) (tg : List Expr) (τ : TQs) : Prop := PGs X tg (tSemGQs X.K B τ)
def tqNil : TQs := fun ps ρ => match ps with
  | [] => some ρ
  | _ => none
def tqCons (τ : TQ) (τs : TQs) : TQs := fun ps ρ => match ps with
  | p :: r => (τ p ρ).bind fun ρ1 => τs r ρ1
  | [] => none
theorem qgs_nil : DQGs X B [] tqNil := by
  refine pgs_imp pgs_nil fun vs σ H Q ⟨ρ, M, F, A, ps, r, l, q⟩ => ?_
  cases ps with
  | nil => exact ⟨l.unnil, q σ r⟩
  | cons d ds => exact q.elim
theorem qgs_cons {es : List Expr} {τ : TQ} {τs : TQs} (h1 : DQG X B e τ) (h2 : DQGs X B es τs)
    (hs : (assignEach (e :: es) X.env).map (·.2) = assign e X.env :: (assignEach es X.env).map (·.2) := by rfl) : DQGs X B (e :: es) (tqCons τ τs) := by
  refine pgs_imp (pgs_cons h1 h2 hs) fun vs σ H Q ⟨ρ, M, F, A, ps, r, l, q⟩ => ?_
  cases ps with
  | nil => exact q.elim
  | cons d ds =>
    obtain ⟨v, vr, rfl, i, t⟩ := (show IsL X.K F vs (d.at A :: ds.map (P.at A)) from l).uncons
    refine ⟨v, vr, rfl, ρ, M, F, A, d, r, i, ?_⟩
    have q' : match (τ d ρ).bind fun ρ1 => τs ds ρ1 with
      | some ρ' => ∀ σ', RepQ X.K B ρ' M σ' F H A → Q σ' H
      | none => False := q
    cases z : τ d ρ with
    | none => rw [z] at q'; exact q'.elim
    | some ρ1 =>
      rw [z] at q'
      exact fun σ1 r1 => ⟨ρ1, M, F, A, ds, r1, t, q'⟩
def tqTup (n : Nat) (τs : TQs) : TQ := fun p ρ => match p with
  | (b, .tup ds) => if ds.length = n then τs (ds.map fun d => (b, d)) ρ else none
  | _ => none
theorem at_tup {K : PySem.W.Frag} {F : Hp} {A : List Addr} {v : V} {b : Bool} {ds : List D} (h : Is K F v (P.at A (b, .tup ds))) : ∃ a xs, v = .ref a ∧ SqT K F a xs ∧ IsLP K F A xs (ds.map fun d => (b, d)) := by
  cases b with
  | false =>
    obtain ⟨a, xs, e, hp, l⟩ := (show Is K F v (.tup ds) from h).tup_inv
    refine ⟨a, xs, e, hp, ?_⟩
    show IsL K F xs ((ds.map fun d => (false, d)).map (P.at A))
    rw [List.map_map, show (P.at A ∘ fun d => (false, d)) = (id : D → D) from rfl, List.map_id]
    exact l
  | true =>
    obtain ⟨a, xs, e, hp, l⟩ := (show Is K F v (.tup (D.subAll A ds)) from h).tup_inv
    refine ⟨a, xs, e, hp, ?_⟩
    show IsL K F xs ((ds.map fun d => (true, d)).map (P.at A))
    rw [List.map_map, show (P.at A ∘ fun d => (true, d)) = D.sub A from rfl, ← subAll_map]
    exact l
theorem qg_tup {es : List Expr} {τs : TQs} {k : Nat} {n : Nat} (hc : X.calm = true) (h : DQGs X B es τs)
    (hn : (assignEach es X.env).length = n := by rfl) (hst : (assignEach es X.env).findIdx? (·.1) = none := by rfl) : DQG X B (.Tuple es k pos) (tqTup n τs) := by
  refine pg_imp (pg_tup hc h hn hst) fun v σ H Q ⟨ρ, M, F, A, p, r, i, q⟩ => ?_
  obtain ⟨b, d⟩ := p
  cases d with
  | tup ds =>
    obtain ⟨a, xs, rfl, hp, l⟩ := at_tup i
    have q' : match (if ds.length = n then τs (ds.map fun d => (b, d)) ρ else none) with
      | some ρ' => ∀ σ', RepQ X.K B ρ' M σ' F H A → Q σ' H
      | none => False := q
    by_cases hd : ds.length = n
    · rw [if_pos hd] at q'
      exact ⟨a, xs, rfl, sameT r.cl.fh hp, by rw [l.1]; simpa using hd, ρ, M, F, A, _, r, l, q'⟩
    · rw [if_neg hd] at q'
      exact q'.elim
  | _ => exact q.elim
def sqAsg (τ : TQ) (g : GQ) : SQF := sqE g fun ρ p M => match τ p ρ with
  | some ρ' => .nx ρ' M
  | none => .st
theorem qs_asg {tg : Expr} {τ : TQ} (he : DQ X B W e g) (hg : DQG X B tg τ) (hs : swapsWithSole [tg] e pos.line X.env = pure false := by rfl) (hw : swappedStores [tg] e X.env = pure none := by rfl)
    (h1 : (assignEach [tg] X.env).map (·.2) = [assign tg X.env] := by rfl) : DQS X B W (.Assign [tg] e pos) (sqAsg τ g) := by
  refine ps_imp (ps_asg he hg hs hw h1) fun E σ H ⟨ρ, M, F, A, r, h⟩ => semQS (k := fun p M1 => match τ p ρ with | some ρ' => .nx ρ' M1 | none => .st) r h fun p M1 v F1 H1 A1 i1 r1 _ h1 => ?_
  refine ⟨ρ, M1, F1, A1, p, r1, i1, ?_⟩
  have h2 : afterQS X.K B W F1 A1 (match τ p ρ with | some ρ' => .nx ρ' M1 | none => .st) E := h1
  cases z : τ p ρ with
  | none => rw [z] at h2; exact h2.elim
  | some ρ' => rw [z] at h2; exact fun σ' r' => h2 σ' F1 H1 A1 r' .refl
/-! ### if, for, while -/
def sqIf (p : RhoQ → Mem → RQ Bool) (s u : SQF) : SQF := fun ρ M => match p ρ M with
  | .ok b M1 => if b = true then s ρ M1 else u ρ M1
  | .ex x M1 => .ex x ρ M1
  | .st => .st
theorem qs_if {c : Expr} {a b : List Stmt} {p : RhoQ → Mem → RQ Bool} (hc : DQT X B W c p) (ha : DQSs X B W a s) (hb : DQSs X B W b u) : DQS X B W (.If c a b pos) (sqIf p s u) := by
  refine ps_imp (ps_if hc ha hb) fun E σ H ⟨ρ, M, F, A, r, h⟩ => semQST (k := fun b M1 => if b = true then s ρ M1 else u ρ M1) r h fun b M1 F1 H1 A1 r1 _ h1 => ?_
  cases b with
  | true => exact iteT ⟨ρ, M1, F1, A1, r1, h1⟩
  | false => exact iteF ⟨ρ, M1, F1, A1, r1, h1⟩
def forLQ (τ : TQ) (b : SQF) : List P → SQF
  | [], ρ, M => .nx ρ M
  | d :: ds, ρ, M => match τ d ρ with
    | some ρ1 => match b ρ1 M with
      | .nx ρ2 M2 => forLQ τ b ds ρ2 M2
      | .ct ρ2 M2 => forLQ τ b ds ρ2 M2
      | .bk ρ2 M2 => .nx ρ2 M2
      | r => r
    | none => .st
/-- over what has no numbers -/
def sqFor (gi : Rho → R (List D)) (τ : TQ) (b : SQF) : SQF := fun ρ M => match gi (clR ρ) with
  | .ok items => forLQ τ b (items.map fun d => (false, d)) ρ M
  | .ex x => .ex x ρ M
  | .st => .st
theorem pi_some {tg e : Expr} {t : Hp → Hp → TI} (h : ∀ a b, PI X tg e (t a b)) : PI X tg e (fun σ H Q => ∃ a b, t a b σ H Q) := ⟨fun pins s σ H Q I ⟨a, b, q⟩ => (h a b).run pins s σ H Q I q⟩
theorem qs_for {tg iter : Expr} {body : List Stmt} {gi : Rho → R (List D)} {τ : TQ} {b : SQF} (hp : PassesOwn (model X.prog X.w) X.A X.env X.xe) (hc : X.calm = true) (hi : ∀ Fb Hb : Hp, DI X ⟨Fb, []⟩ Hb [] W tg iter gi) (hg : DQG X B tg τ) (hb : DQSs X B W body b)
    (hs : ∀ x, foldedSetIterable iter X.env x = pure x := by intro _; rfl) : DQS X B W (.For tg iter body [] pos) (sqFor gi τ b) := by
  refine ps_imp (ps_for hp hc (pi_some hi) hg hb hs) fun E σ H ⟨ρ, M, F, A, r, h⟩ => ⟨F, H, clR ρ, F, r.clean, ?_⟩
  unfold sqFor at h
  cases z : gi (clR ρ) with
  | ex x =>
    rw [z] at h
    exact fun cls od F' H' y i => let ⟨a, c⟩ := ExtQ.pure r.cl y; h cls od σ F' H' A (r.to a c) a.grow i
  | st => rw [z] at h; exact h.elim
  | ok items =>
    rw [z] at h
    intro J F1 H1 x1 y1
    obtain ⟨e1, c1⟩ := ExtQ.pure r.cl x1
    refine ⟨fun i mm σ H => ∃ ρ M F A, RepQ X.K B ρ M σ F H A ∧ Same F1 F ∧ i ≤ items.length ∧ mm = items.length - i ∧ afterQS X.K B W F A (forLQ τ b ((items.drop i).map fun d => (false, d)) ρ M) E, ⟨items.length, ρ, M, F1, A, r.to e1 c1, .refl _, Nat.zero_le _, rfl, h.mono e1.grow⟩, ?_⟩
    rintro i mm σ2 H2 ⟨ρ2, M2, F2, A2, r2, x2, hi, rfl, h2⟩
    have yc := y1 i F2 H2 x2 r2.cl.fh
    by_cases hlt : i < items.length
    · obtain ⟨go, yld⟩ := yc.1 hlt
      refine .inr ⟨go, fun σ3 H3 => ∃ ρ3 M3 F3 A3, RepQ X.K B ρ3 M3 σ3 F3 H3 A3 ∧ Same F1 F3 ∧ afterQS X.K B W F3 A3 (forLQ τ b ((items.drop (i + 1)).map fun d => (false, d)) ρ3 M3) E, fun σ3 H3 ⟨ρ3, M3, F3, A3, q1, q2, q3⟩ => ⟨items.length - (i + 1), by omega, ρ3, M3, F3, A3, q1, q2, hlt, rfl, q3⟩, fun x Hy y => ?_⟩
      obtain ⟨F3, d, hd, xe, ix⟩ := yld x Hy y
      obtain ⟨e3, c3⟩ := ExtQ.pure r2.cl xe
      have ed : items.drop i = d :: items.drop (i + 1) := by
        rw [List.drop_eq_getElem_cons hlt]
        rw [List.getElem?_eq_getElem hlt] at hd
        rw [Option.some.inj hd]
      rw [ed] at h2
      refine ⟨ρ2, M2, F3, A2, (false, d), r2.to e3 c3, ix, ?_⟩
      have h3 : afterQS X.K B W F3 A2 (match τ (false, d) ρ2 with
        | some ρ1 => match b ρ1 M2 with
          | .nx ρ2 M2 => forLQ τ b ((items.drop (i + 1)).map fun d => (false, d)) ρ2 M2
          | .ct ρ2 M2 => forLQ τ b ((items.drop (i + 1)).map fun d => (false, d)) ρ2 M2
          | .bk ρ2 M2 => .nx ρ2 M2
          | r => r
        | none => .st) E := h2.mono e3.grow
      cases z1 : τ (false, d) ρ2 with
      | none => rw [z1] at h3; exact h3.elim
      | some ρ4 =>
        rw [z1] at h3
        intro σ4 r4
        refine ⟨ρ4, M2, F3, A2, r4, ?_⟩
        have h4 : afterQS X.K B W F3 A2 (match b ρ4 M2 with
          | .nx ρ2 M2 => forLQ τ b ((items.drop (i + 1)).map fun d => (false, d)) ρ2 M2
          | .ct ρ2 M2 => forLQ τ b ((items.drop (i + 1)).map fun d => (false, d)) ρ2 M2
          | .bk ρ2 M2 => .nx ρ2 M2
          | r => r) E := h3
        cases z2 : b ρ4 M2 with
        | nx ρ5 M5 =>
          rw [z2] at h4
          exact fun σ5 F5 H5 A5 r5 x5 => ⟨ρ5, M5, F5, A5, r5, (x2.trans xe.ff).trans x5.1, h4.mono x5⟩
        | ct ρ5 M5 =>
          rw [z2] at h4
          exact fun σ5 F5 H5 A5 r5 x5 => ⟨ρ5, M5, F5, A5, r5, (x2.trans xe.ff).trans x5.1, h4.mono x5⟩
        | bk ρ5 M5 => rw [z2] at h4; exact h4
        | rt d => rw [z2] at h4; exact h4
        | ex x ρ5 => rw [z2] at h4; exact h4
        | st => rw [z2] at h4; exact h4
    · have ei : i = items.length := by omega
      subst ei
      rw [List.drop_length] at h2
      exact .inl ⟨yc.2 (Nat.le_refl _), h2 σ2 F2 H2 A2 r2 .refl⟩
/-! ### raise, try -/
def sqRaise (x : Str) : SQF := fun ρ M => .ex ⟨x, []⟩ ρ M
theorem qs_raise {x msg : Str} {i : Nat} {p p2 pos' : Pos} (Fx : ExcF X x) (hc : X.calm = true) (tk : Takes X W) (hg : Gl X x := by rfl) (hdb : (x == ("__debug__" : Str)) = false := by decide) :
    DQS X B W (.Raise (some (.Call (.Name x p) [.Constant (.str msg) i p2] [] pos')) none pos) (sqRaise x) :=
  ps_imp (ps_raise hc tk (pmk_own F.excBase_ValueError Fx.q Fx.gC Fx.kC (raises_own Fx.sb Fx.ty) hg hdb)) fun E σ H ⟨ρ, M, F, A, r, h⟩ =>
    h _ none σ F H A r .refl ⟨rfl, fun z => absurd rfl z, fun _ => rfl⟩
def noXQ : SQ → SQ
  | .ex _ _ _ => .st
  | r => r
def sqTry (tb : List (Str × Bool)) (s u : SQF) : SQF := fun ρ M => match s ρ M with
  | .ex x ρ1 M1 => (match tb.lookup x.cls with
    | some true => noXQ (u ρ1 M1)
    | some false => .ex x ρ1 M1
    | none => .st)
  | r => r
theorem afterQS.noX {K : PySem.W.Frag} {Fb : Hp} {Ab : List Addr} {r : SQ} {E : Ends} (h : afterQS K B W Fb Ab (noXQ r) E) : afterQS K B W0 Fb Ab r E := by
  cases r with
  | ex x ρ => exact h.elim
  | _ => exact h
theorem qs_try_only {x : Str} {body suite : List Stmt} {b₀ : Stmt} {np pos' : Pos} {c : Value} {tb : List (Str × Bool)} {s u : SQF} (hs : X.stack = X.env :: X.outer) (hf : X.env.frame = some X.env.locals) (Ct : CatF X x c tb) (tk : Takes X W)
    (hb : ∀ (W : WX) (pn : List (Addr × Obj)) (xe : Value → Shared → Prop), Takes (X.tr pn xe) W → DQSs (X.tr pn xe) B W body s)
    (hsu : ∀ (a : Addr) (pn : List (Addr × Obj)), DQSs (X.suite a pn) B W0 (b₀ :: suite) u) :
    DQS X B W (.Try body [.ExceptHandler (some (.Name x np)) none (b₀ :: suite) pos'] [] [] pos) (sqTry tb s u) := by
  refine ps_imp (ps_try_only (tb := fun W => tSemQS X.K B W s) (ts := fun _ _ _ => tSemQS X.K B W0 u) hs hf Ct.nm tk (fun W pn xe t _ => hb W pn xe t) fun a oe cls d pn _ _ => hsu a _) fun E σ H ⟨ρ, M, F, A, r, h⟩ => ?_
  refine ⟨ρ, M, F, A, r, ?_⟩
  unfold sqTry at h
  cases z : s ρ M with
  | ex x1 ρ1 M1 =>
    rw [z] at h
    intro cls od σ1 F1 H1 A1 r1 s1 i1
    have h2 : afterQS X.K B W F A (match tb.lookup x1.cls with
      | some true => noXQ (u ρ1 M1)
      | some false => .ex x1 ρ1 M1
      | none => .st) E := h
    cases q : tb.lookup x1.cls with
    | none => rw [q] at h2; exact h2.elim
    | some b =>
      rw [q] at h2
      refine ⟨b, ?_, fun e a na => ?_, fun e => ?_⟩
      · rw [i1.1]
        exact Ct.ex _ (lookup_mem q)
      · subst e
        exact ⟨ρ1, M1, F1, A1, r1, (afterQS.noX h2).mono s1⟩
      · subst e
        exact h2 cls od σ1 F1 H1 A1 r1 s1 i1
  | nx _ _ => rw [z] at h; exact h
  | rt _ _ => rw [z] at h; exact h
  | bk _ _ => rw [z] at h; exact h
  | ct _ _ => rw [z] at h; exact h
  | st => rw [z] at h; exact h.elim
end
end Pd

/-! Pq3: defs over a memory, called; objects made, their fields read and stored; from there to data -/
namespace Pd
open PySem PySem.Spec PyProof.Rows L2
/-! ### data that is represented has no numbers -/
mutual
theorem is_clean {K : PySem.W.Frag} {F : Hp} {A : List Addr} : ∀ (d : D) (v : V), Is K F v d → d.sub A = d
  | .non, _, _ => rfl
  | .bl _, _, _ => rfl
  | .int _, _, _ => rfl
  | .str _, _, _ => rfl
  | .adr _, _, _ => rfl
  | .list xs, v, h => by
    obtain ⟨a, ys, rfl, hs, l⟩ := h.list_inv
    exact congrArg D.list (isL_clean xs ys l)
  | .tup xs, v, h => by
    obtain ⟨a, ys, rfl, hs, l⟩ := h.tup_inv
    exact congrArg D.tup (isL_clean xs ys l)
  | .dict xs, v, h => by
    obtain ⟨a, ys, rfl, hs, l⟩ := h.dict_inv
    exact congrArg D.dict (isK_clean xs ys l)
  | .dictT xs, v, h => by
    cases h with
    | dictT hs l1 l2 l3 => exact congrArg D.dictT (isT_clean xs _ ⟨l1, l2, l3⟩)
  | .obj c xs, v, h => by
    obtain ⟨a, dx, ys, rfl, hs, l⟩ := h.obj_inv
    exact congrArg (D.obj c) (isF_clean xs ys l)
  | .loc k, v, h => by cases h
theorem isL_clean {K : PySem.W.Frag} {F : Hp} {A : List Addr} : ∀ (ds : List D) (vs : List V), IsL K F vs ds → D.subAll A ds = ds
  | [], vs, h => rfl
  | d :: ds, vs, h => by
    obtain ⟨x, xr, rfl, i, l⟩ := h.uncons
    show D.sub A d :: D.subAll A ds = d :: ds
    rw [is_clean d x i, isL_clean ds xr l]
theorem isK_clean {K : PySem.W.Frag} {F : Hp} {A : List Addr} : ∀ (ds : List (Key × D)) (vs : List (Key × V)), IsK K F vs ds → D.subK A ds = ds
  | [], vs, h => rfl
  | (k, d) :: ds, vs, h => by
    obtain ⟨x, xr, rfl, i, l⟩ := h.uncons
    show (k, D.sub A d) :: D.subK A ds = (k, d) :: ds
    rw [is_clean d x i, isK_clean ds xr l]
theorem isT_clean {K : PySem.W.Frag} {F : Hp} {A : List Addr} : ∀ (ds : List (List Key × D)) (vs : List (List Key × V)), IsK K F vs ds → D.subT A ds = ds
  | [], vs, h => rfl
  | (k, d) :: ds, vs, h => by
    obtain ⟨x, xr, rfl, i, l⟩ := h.uncons
    show (k, D.sub A d) :: D.subT A ds = (k, d) :: ds
    rw [is_clean d x i, isT_clean ds xr l]
theorem isF_clean {K : PySem.W.Frag} {F : Hp} {A : List Addr} : ∀ (ds : List (Str × D)) (vs : List (Str × V)), IsK K F vs ds → D.subF A ds = ds
  | [], vs, h => rfl
  | (k, d) :: ds, vs, h => by
    obtain ⟨x, xr, rfl, i, l⟩ := h.uncons
    show (k, D.sub A d) :: D.subF A ds = (k, d) :: ds
    rw [is_clean d x i, isF_clean ds xr l]
end
theorem at_up {K : PySem.W.Frag} {F : Hp} {A : List Addr} {v : V} {p : P} (h : Is K F v (p.at A)) (b : Bool) : Is K F v (P.at A (p.1 || b, p.2)) := by
  obtain ⟨c, d⟩ := p
  cases c with
  | true => exact h
  | false =>
    cases b with
    | false => exact h
    | true =>
      show Is K F v (d.sub A)
      rw [is_clean d v h]
      exact h
/-! ### numbers replaced by what they hold -/
mutual
def D.put (f : Nat → Option D) : D → Option D
  | .non => some .non
  | .bl b => some (.bl b)
  | .int i => some (.int i)
  | .str s => some (.str s)
  | .list xs => (D.putAll f xs).map .list
  | .tup xs => (D.putAll f xs).map .tup
  | .dict xs => (D.putK f xs).map .dict
  | .dictT xs => (D.putT f xs).map .dictT
  | .obj c xs => (D.putFl f xs).map (.obj c)
  | .loc k => f k
  | .adr _ => none
def D.putAll (f : Nat → Option D) : List D → Option (List D)
  | [] => some []
  | d :: ds => (D.put f d).bind fun e => (D.putAll f ds).map (e :: ·)
def D.putK (f : Nat → Option D) : List (Key × D) → Option (List (Key × D))
  | [] => some []
  | (k, d) :: ds => (D.put f d).bind fun e => (D.putK f ds).map ((k, e) :: ·)
def D.putT (f : Nat → Option D) : List (List Key × D) → Option (List (List Key × D))
  | [] => some []
  | (k, d) :: ds => (D.put f d).bind fun e => (D.putT f ds).map ((k, e) :: ·)
def D.putFl (f : Nat → Option D) : List (Str × D) → Option (List (Str × D))
  | [] => some []
  | (k, d) :: ds => (D.put f d).bind fun e => (D.putFl f ds).map ((k, e) :: ·)
end
section
variable {K : PySem.W.Frag} {F F' : Hp} {A : List Addr} {f : Nat → Option D}
mutual
theorem is_put (hf : ∀ k a e, A[k]? = some a → f k = some e → Is K F' (.ref a) e) (s : Same F F') : ∀ (d : D) (v : V) (e : D), Is K F v (d.sub A) → d.put f = some e → Is K F' v e
  | .non, v, e, h, q => by cases q; exact h.mono s
  | .bl _, v, e, h, q => by cases q; exact h.mono s
  | .int _, v, e, h, q => by cases q; exact h.mono s
  | .str _, v, e, h, q => by cases q; exact h.mono s
  | .adr _, v, e, h, q => by cases q
  | .list xs, v, e, h, q => by
    obtain ⟨a, ys, rfl, hs, l⟩ := (show Is K F v (.list (D.subAll A xs)) from h).list_inv
    obtain ⟨es, q1, rfl⟩ := Option.map_eq_some_iff.mp (show (D.putAll f xs).map D.list = some e from q)
    exact is_list (s.seq hs) (isL_put hf s xs ys es l q1)
  | .tup xs, v, e, h, q => by
    obtain ⟨a, ys, rfl, hs, l⟩ := (show Is K F v (.tup (D.subAll A xs)) from h).tup_inv
    obtain ⟨es, q1, rfl⟩ := Option.map_eq_some_iff.mp (show (D.putAll f xs).map D.tup = some e from q)
    exact is_tup (sameT s hs) (isL_put hf s xs ys es l q1)
  | .dict xs, v, e, h, q => by
    obtain ⟨a, ys, rfl, hs, l⟩ := (show Is K F v (.dict (D.subK A xs)) from h).dict_inv
    obtain ⟨es, q1, rfl⟩ := Option.map_eq_some_iff.mp (show (D.putK f xs).map D.dict = some e from q)
    have l2 := isK_put hf s xs ys es l q1
    exact .dict (sameR s hs) l2.1 l2.2.1 l2.2.2
  | .dictT xs, v, e, h, q => by
    cases (show Is K F v (.dictT (D.subT A xs)) from h) with
    | dictT hs l1 l2 l3 =>
      obtain ⟨es, q1, rfl⟩ := Option.map_eq_some_iff.mp (show (D.putT f xs).map D.dictT = some e from q)
      have l2 := isT_put hf s xs _ es ⟨l1, l2, l3⟩ q1
      exact .dictT (s _ _ hs) l2.1 l2.2.1 l2.2.2
  | .obj c xs, v, e, h, q => by
    obtain ⟨a, dx, ys, rfl, hs, l⟩ := (show Is K F v (.obj c (D.subF A xs)) from h).obj_inv
    obtain ⟨es, q1, rfl⟩ := Option.map_eq_some_iff.mp (show (D.putFl f xs).map (D.obj c) = some e from q)
    have l2 := isF_put hf s xs ys es l q1
    exact .obj (s _ _ hs) l2.1 l2.2.1 l2.2.2
  | .loc k, v, e, h, q => by
    have h' : Is K F v (match A[k]? with | some a => .adr a | none => .loc k) := h
    cases z : A[k]? with
    | none => rw [z] at h'; cases h'
    | some a =>
      rw [z] at h'
      cases h'
      exact hf k a e z q
theorem isL_put (hf : ∀ k a e, A[k]? = some a → f k = some e → Is K F' (.ref a) e) (s : Same F F') : ∀ (ds : List D) (vs : List V) (es : List D), IsL K F vs (D.subAll A ds) → D.putAll f ds = some es → IsL K F' vs es
  | [], vs, es, h, q => by cases q; exact h.mono s
  | d :: ds, vs, es, h, q => by
    obtain ⟨x, xr, rfl, i, l⟩ := (show IsL K F vs (D.sub A d :: D.subAll A ds) from h).uncons
    obtain ⟨e, q1, q2⟩ := Option.bind_eq_some_iff.mp (show (D.put f d).bind (fun e => (D.putAll f ds).map (e :: ·)) = some es from q)
    obtain ⟨er, q3, rfl⟩ := Option.map_eq_some_iff.mp q2
    exact .cons (is_put hf s d x e i q1) (isL_put hf s ds xr er l q3)
theorem isK_put (hf : ∀ k a e, A[k]? = some a → f k = some e → Is K F' (.ref a) e) (s : Same F F') : ∀ (ds : List (Key × D)) (vs : List (Key × V)) (es : List (Key × D)), IsK K F vs (D.subK A ds) → D.putK f ds = some es → IsK K F' vs es
  | [], vs, es, h, q => by cases q; exact h.mono s
  | (k, d) :: ds, vs, es, h, q => by
    obtain ⟨x, xr, rfl, i, l⟩ := (show IsK K F vs ((k, D.sub A d) :: D.subK A ds) from h).uncons
    obtain ⟨e, q1, q2⟩ := Option.bind_eq_some_iff.mp (show (D.put f d).bind (fun e => (D.putK f ds).map ((k, e) :: ·)) = some es from q)
    obtain ⟨er, q3, rfl⟩ := Option.map_eq_some_iff.mp q2
    exact .cons (is_put hf s d x e i q1) (isK_put hf s ds xr er l q3)
theorem isT_put (hf : ∀ k a e, A[k]? = some a → f k = some e → Is K F' (.ref a) e) (s : Same F F') : ∀ (ds : List (List Key × D)) (vs : List (List Key × V)) (es : List (List Key × D)), IsK K F vs (D.subT A ds) → D.putT f ds = some es → IsK K F' vs es
  | [], vs, es, h, q => by cases q; exact h.mono s
  | (k, d) :: ds, vs, es, h, q => by
    obtain ⟨x, xr, rfl, i, l⟩ := (show IsK K F vs ((k, D.sub A d) :: D.subT A ds) from h).uncons
    obtain ⟨e, q1, q2⟩ := Option.bind_eq_some_iff.mp (show (D.put f d).bind (fun e => (D.putT f ds).map ((k, e) :: ·)) = some es from q)
    obtain ⟨er, q3, rfl⟩ := Option.map_eq_some_iff.mp q2
    exact .cons (is_put hf s d x e i q1) (isT_put hf s ds xr er l q3)
theorem isF_put (hf : ∀ k a e, A[k]? = some a → f k = some e → Is K F' (.ref a) e) (s : Same F F') : ∀ (ds : List (Str × D)) (vs : List (Str × V)) (es : List (Str × D)), IsK K F vs (D.subF A ds) → D.putFl f ds = some es → IsK K F' vs es
  | [], vs, es, h, q => by cases q; exact h.mono s
  | (k, d) :: ds, vs, es, h, q => by
    obtain ⟨x, xr, rfl, i, l⟩ := (show IsK K F vs ((k, D.sub A d) :: D.subF A ds) from h).uncons
    obtain ⟨e, q1, q2⟩ := Option.bind_eq_some_iff.mp (show (D.put f d).bind (fun e => (D.putFl f ds).map ((k, e) :: ·)) = some es from q)
    obtain ⟨er, q3, rfl⟩ := Option.map_eq_some_iff.mp q2
    exact .cons (is_put hf s d x e i q1) (isF_put hf s ds xr er l q3)
end
theorem isC_put (hf : ∀ k a e, A[k]? = some a → f k = some e → Is K F' (.ref a) e) (s : Same F F') {o : HO} : ∀ (d e : D), IsC K F o (d.sub A) → d.put f = some e → IsC K F' o e
  | .list xs, e, h, q => by
    obtain ⟨es, q1, rfl⟩ := Option.map_eq_some_iff.mp (show (D.putAll f xs).map D.list = some e from q)
    cases o <;> first | exact isL_put hf s xs _ es h q1 | exact h.elim
  | .dict xs, e, h, q => by
    obtain ⟨es, q1, rfl⟩ := Option.map_eq_some_iff.mp (show (D.putK f xs).map D.dict = some e from q)
    cases o <;> first | exact isK_put hf s xs _ es h q1 | exact h.elim
  | .dictT xs, e, h, q => by
    obtain ⟨es, q1, rfl⟩ := Option.map_eq_some_iff.mp (show (D.putT f xs).map D.dictT = some e from q)
    cases o <;> first | exact isT_put hf s xs _ es h q1 | exact h.elim
  | .obj c xs, e, h, q => by
    obtain ⟨es, q1, rfl⟩ := Option.map_eq_some_iff.mp (show (D.putFl f xs).map (D.obj c) = some e from q)
    cases o <;> first | exact ⟨h.1, isF_put hf s xs _ es h.2 q1⟩ | exact h.elim
  | .non, e, h, q => by cases o <;> exact h.elim
  | .bl _, e, h, q => by cases o <;> exact h.elim
  | .int _, e, h, q => by cases o <;> exact h.elim
  | .str _, e, h, q => by cases o <;> exact h.elim
  | .tup _, e, h, q => by cases o <;> exact h.elim
  | .adr _, e, h, q => by cases o <;> exact h.elim
  | .loc k, e, h, q => by
    have h' : IsC K F o (match A[k]? with | some a => .adr a | none => .loc k) := h
    split at h' <;> cases o <;> exact h'.elim
end
/-- what the numbers hold, n deep -/
def memD (M : Mem) : Nat → Nat → Option D
  | 0, _ => none
  | n + 1, k => match M[k]? with
    | some (false, d) => some d
    | some (true, d) => d.put (memD M n)
    | none => none
def P.full (M : Mem) (p : P) : Option D := match p with
  | (false, d) => some d
  | (true, d) => d.put (memD M M.length)
/-- all is shared -/
def frzF (F H : Hp) (A : List Addr) : Hp := open Classical in fun a => if a ∈ A then H a else F a
section
variable {K : PySem.W.Frag} {F H : Hp} {A : List Addr} {M : Mem}
theorem frz_same (c : Cells K F H A M) : Same F (frzF F H A) ∧ Same (frzF F H A) H := by
  refine ⟨fun b u e => ?_, fun b u e => ?_⟩
  · unfold frzF
    rw [if_neg (fun m => by rw [c.dj b m] at e; cases e)]
    exact e
  · unfold frzF at e
    by_cases m : b ∈ A
    · rw [if_pos m] at e; exact e
    · rw [if_neg m] at e; exact c.fh b u e
theorem memD_is (c : Cells K F H A M) : ∀ (n k : Nat) (a : Addr) (e : D), A[k]? = some a → memD M n k = some e → Is K (frzF F H A) (.ref a) e
  | 0, k, a, e, ha, q => by cases q
  | n + 1, k, a, e, ha, q => by
    have q' : (match M[k]? with
      | some (false, d) => some d
      | some (true, d) => d.put (memD M n)
      | none => none) = some e := q
    cases z : M[k]? with
    | none => rw [z] at q'; cases q'
    | some p =>
      obtain ⟨b, d⟩ := p
      rw [z] at q'
      obtain ⟨a', o, e1, e2, e3⟩ := c.at_ k _ z
      rw [ha] at e1
      cases e1
      have hF : frzF F H A a = some o := by
        unfold frzF
        rw [if_pos (List.mem_iff_getElem?.mpr ⟨k, ha⟩)]
        exact e2
      cases b with
      | false =>
        rw [← Option.some.inj q']
        exact is_of_c hF (IsC.mono (show IsC K F o d from e3) (frz_same c).1)
      | true => exact is_of_c hF (isC_put (fun j b e' hb qe => memD_is c n j b e' hb qe) (frz_same c).1 d e e3 q')
theorem full_is (c : Cells K F H A M) {v : V} {p : P} {e : D} (h : Is K F v (p.at A)) (q : p.full M = some e) : Is K (frzF F H A) v e := by
  obtain ⟨b, d⟩ := p
  cases b with
  | false =>
    rw [← Option.some.inj (show some d = some e from q)]
    exact Is.mono (show Is K F v d from h) (frz_same c).1
  | true => exact is_put (fun j b e' hb qe => memD_is c _ j b e' hb qe) (frz_same c).1 d v e h q
end
/-! ### what a def promises -/
abbrev GF := List P → Mem → RQ P
def spQ (K : PySem.W.Frag) (G : GF) : Sp := fun vs H Q E => ∃ ps M F A, IsLP K F A vs ps ∧ Cells K F H A M ∧ match G ps M with
  | .ok p M' => ∀ v F' H' A', ExtQ F H A F' H' A' → Cells K F' H' A' M' → Is K F' v (p.at A') → Q v H'
  | .ex x M' => ∀ cls od F' H' A', ExtQ F H A F' H' A' → Cells K F' H' A' M' → IsX K F' x cls od → E cls od H'
  | .st => False
def RQ.down (r : RQ P) : R D := match r with
  | .ok p M => (match p.full M with
    | some d => .ok d
    | none => .st)
  | .ex x _ => .ex x
  | .st => .st
/-- called with what has no numbers -/
def GF.down (G : GF) : List D → R D := fun ds => (G (ds.map fun d => (false, d)) []).down
theorem islp_clean {K : PySem.W.Frag} {F : Hp} {A : List Addr} {vs : List V} {ds : List D} (l : IsL K F vs ds) : IsLP K F A vs (ds.map fun d => (false, d)) := by
  show IsL K F vs ((ds.map fun d => (false, d)).map (P.at A))
  rw [List.map_map, show (P.at A ∘ fun d => (false, d)) = (id : D → D) from rfl, List.map_id]
  exact l
theorem spQ_of {K : PySem.W.Frag} {G : GF} {vs : List V} {H : Hp} {Q : VK} {E : XK} (h : spD K G.down vs H Q E) : spQ K G vs H Q E := by
  obtain ⟨ds, F, l, s, h⟩ := h
  have c0 : Cells K F H [] [] := ⟨s, rfl, .nil, fun a m => (nomatch m), fun k p hp => by simp at hp⟩
  refine ⟨_, [], F, [], islp_clean l, c0, ?_⟩
  unfold GF.down at h
  cases z : G (ds.map fun d => (false, d)) [] with
  | ok p M =>
    rw [z] at h
    intro v F' H' A' x c i
    have h' : match (match p.full M with | some d => R.ok d | none => R.st) with
      | .ok d => ∀ v F' H', Ext F H F' H' → Is K F' v d → Q v H'
      | .ex x => ∀ cls od F' H', Ext F H F' H' → IsX K F' x cls od → E cls od H'
      | .st => False := h
    cases z2 : p.full M with
    | none => rw [z2] at h'; exact h'.elim
    | some d =>
      rw [z2] at h'
      obtain ⟨s1, s2⟩ := frz_same c
      refine h' v (frzF F' H' A') H' ⟨x.ff.trans s1, fun a o e => x.hh a o e (by simp), s2, fun p hp fp => ?_⟩ (full_is c i z2)
      obtain ⟨y1, y2⟩ := x.nw p hp fp (by simp)
      unfold frzF
      rw [if_neg y2]
      exact y1
  | ex x M =>
    rw [z] at h
    intro cls od F' H' A' x2 c i
    exact h cls od F' H' ⟨x2.ff, fun a o e => x2.hh a o e (by simp), c.fh, fun p hp fp => (x2.nw p hp fp (by simp)).1⟩ i
  | st => rw [z] at h; exact h
theorem FnOk.down {P : Program} {w : World} {K : PySem.W.Frag} {mg : Str → Option Value} {base : Heap} {CX : CXT} {k : Nat} {f : Addr} {fd : FuncData} {ps : List Str} {G : GF} (F : FnOk P w K mg base CX k f fd ps (spQ K G)) : FnOk P w K mg base CX k f fd ps (spD K G.down) :=
  F.imp fun vs H Q E h => spQ_of h
/-! ### a def's body -/
def startQ (n : Nat) (ps : List P) : RhoQ := ps.map some ++ List.replicate (n - ps.length) none
def endQ : SQ → RQ P
  | .rt p M => .ok p M
  | .nx _ M => .ok (false, .non) M
  | .ex x _ M => .ex x M
  | _ => .st
def runQ (n np : Nat) (s : SQF) : GF := fun ps M => if ps.length = np then endQ (s (startQ n ps) M) else .st
theorem repQ_start {K : PySem.W.Frag} {F H : Hp} {A : List Addr} {M : Mem} {N : List Str} {ps : List P} {vs : List V} (l : IsLP K F A vs ps) (c : Cells K F H A M) : RepQ K ⟨F, H, A⟩ (startQ N.length ps) M (L2.start N vs) F H A := by
  have ll : vs.length = ps.length := by rw [l.1, List.length_map]
  refine ⟨?_, c, .refl, fun i p a => ?_⟩
  · unfold startQ L2.start
    rw [List.length_append, List.length_append, List.length_map, List.length_map, List.length_replicate, List.length_replicate, ll]
  · unfold startQ at a
    by_cases hi : i < ps.length
    · rw [List.getElem?_append_left (by simpa using hi), List.getElem?_map] at a
      cases e : ps[i]? with
      | none => rw [e] at a; cases a
      | some p' =>
        rw [e] at a
        cases a
        obtain ⟨v, e2, i2⟩ := IsL.at (K := K) (H := F) l (i := i) (d := p.at A) (by rw [List.getElem?_map, e]; rfl)
        refine ⟨v, ?_, i2⟩
        unfold L2.start
        rw [List.getElem?_append_left (by rw [List.length_map, ll]; exact hi), List.getElem?_map, e2]
        rfl
    · rw [List.getElem?_append_right (by simpa using hi), List.getElem?_replicate] at a
      split at a <;> cases a
section
variable {P' : Program} {w : World} {K : PySem.W.Frag} {mg : Str → Option Value} {base : Heap} {x qual : Str} {params : Arguments} {body : List Stmt} {scope : Scope} {dvs : List V} {kws : List (Str × V)} {f : Addr} {fd : FuncData}
theorem fn_q {N ps : List Str} {k : Nat} {s : SQF} (n : Nat) (Fn : FunD K x qual params body scope dvs kws f fd) (Sc : FnScope N ps scope) (hn : N.length = n)
    (hb : ∀ (cdv : Value) (A : Around) (outer : List Env) (st : Shared) (H : Hp) (E : XK) (B : QB), Room k (A.deeper (envOfC qual scope st.heap.objs.size f cdv)) →
      DQSs (cxOf (L2.CX P' w) P' w K mg base N qual scope f cdv A outer st H E) B (fun cls d _ H => E cls d H) body s) : FnOk P' w K mg base (L2.CX P' w) (k + 1) f fd ps (spQ K (runQ n ps.length s)) := by
  subst hn
  refine Fn.ok Sc (fun vs H Q E h => ?_) fun cdv A outer st H vs Q E hr h => ?_
  · obtain ⟨ds, M, F, A, l, _, h⟩ := h
    unfold runQ at h
    by_cases hd : ds.length = ps.length
    · rw [l.1, List.length_map]; exact hd
    · rw [if_neg hd] at h
      exact h.elim
  · obtain ⟨ds, M, F, A', l, c, h⟩ := h
    refine ⟨_, hb cdv A outer st H E ⟨F, H, A'⟩ hr, startQ N.length ds, M, F, A', repQ_start l c, ?_⟩
    unfold runQ at h
    by_cases hd : ds.length = ps.length
    · rw [if_pos hd] at h
      cases z : s (startQ N.length ds) M with
      | nx ρ M1 => rw [z] at h; exact fun σ' F' H' A2 r' _ => h .non F' H' A2 r'.ext r'.cl .non
      | rt p M1 => rw [z] at h; exact fun v F' H' A2 x c i => h v F' H' A2 x c i
      | bk ρ => rw [z] at h; exact h.elim
      | ct ρ => rw [z] at h; exact h.elim
      | ex x ρ M1 => rw [z] at h; exact fun cls od σ' F' H' A2 r' _ i => h cls od F' H' A2 r'.ext r'.cl i
      | st => rw [z] at h; exact h.elim
    · rw [if_neg hd] at h
      exact h.elim
end
/-! ### calls -/
structure CalQ (P' : Program) (w : World) (K : PySem.W.Frag) (mg : Str → Option Value) (base : Heap) (k : Nat) (x : Str) (G : GF) : Prop where
  ex : ∃ f fd ps ds dvs dv, FnOk P' w K mg base (L2.CX P' w) k f fd ps (spQ K dv) ∧ mg x = some (.ref f) ∧ PySem.W.keepIn K (.ref f) = true ∧ Binds K fd ps ds ∧ Vals dvs ds ∧ ∃ ed : List D, (∀ H, IsL K H dvs ed) ∧ ∀ as M, G as M = dv (as ++ ed.map fun d => (false, d)) M
structure MetQ (P' : Program) (w : World) (K : PySem.W.Frag) (mg : Str → Option Value) (base : Heap) (k : Nat) (c m : Str) (G : GF) : Prop where
  ex : ∃ f fd ps ds dvs dv, FnOk P' w K mg base (L2.CX P' w) k f fd ps (spQ K dv) ∧ Cls K (He.ga K c) ∧ Meth K (He.ga K c) m f ∧ Binds K fd ps ds ∧ Vals dvs ds ∧ ∃ ed : List D, (∀ H, IsL K H dvs ed) ∧ ∀ as M, G as M = dv (as ++ ed.map fun d => (false, d)) M
/-- class x, made by its __init__ -/
structure MkQ (P' : Program) (w : World) (K : PySem.W.Frag) (mg : Str → Option Value) (base : Heap) (k : Nat) (x : Str) (G : GF) : Prop where
  ex : ∃ f fd ps ds dvs dv, FnOk P' w K mg base (L2.CX P' w) k f fd ps (spQ K dv) ∧ mg x = some (.ref (He.ga K x)) ∧ Mk K (He.ga K x) f ∧ Binds K fd ps ds ∧ Vals dvs ds ∧ ∃ ed : List D, (∀ H, IsL K H dvs ed) ∧ ∀ as M, G as M = dv (as ++ ed.map fun d => (false, d)) M
def aqNil : GQA := fun _ M => .ok [] M
def aqCons (g : GQ) (t : GQA) : GQA := fun ρ M => (g ρ M).bind fun p M1 => (t ρ M1).bind fun ps M2 => .ok (p :: ps) M2
def qCall (G : GF) (t : GQA) : GQ := fun ρ M => (t ρ M).bind G
section
variable {X : Cx} {B : QB} {W : WX} {pos : Pos} {e o : Expr} {es : List Expr} {g go : GQ} {t : GQA} {k j : Nat} {x : Str} {p : Pos} {G : GF}
theorem qa_nil : DQA X B W [] aqNil := pa_imp pa_nil fun σ H Q ⟨ρ, M, F, A, r, h⟩ => h [] F H A .refl r.cl .nil
theorem qa_cons (h1 : DQ X B W e g) (h2 : DQA X B W es t) (hs : starEach (e :: es) X.env = (false, eval e X.env) :: starEach es X.env := by rfl) : DQA X B W (e :: es) (aqCons g t) := by
  refine pa_imp (pa_cons h1 h2 hs) fun σ H Q ⟨ρ, M, F, A, r, h⟩ => ⟨ρ, M, F, A, r, ?_⟩
  unfold aqCons at h
  cases z : g ρ M with
  | st => rw [z] at h; exact h.elim
  | ex x M1 => rw [z] at h; exact h
  | ok p M1 =>
    rw [z] at h
    intro v F1 H1 A1 x1 c1 i1
    refine ⟨ρ, M1, F1, A1, r.to x1 c1, ?_⟩
    have h' : match (t ρ M1).bind fun ps M2 => RQ.ok (p :: ps) M2 with
      | .ok ps M => ∀ vs F' H' A', ExtQ F H A F' H' A' → Cells X.K F' H' A' M → IsLP X.K F' A' vs ps → Q vs H'
      | .ex x M => ExK X.K W σ F H A x M
      | .st => False := h
    cases z2 : t ρ M1 with
    | st => rw [z2] at h'; exact h'.elim
    | ex x M2 => rw [z2] at h'; exact ExK.ext (M1 := M1) h' x1 c1
    | ok ps M2 =>
      rw [z2] at h'
      intro vs F2 H2 A2 x2 c2 i2
      refine h' (v :: vs) F2 H2 A2 (x1.trans c1 x2) c2 ?_
      exact IsL.cons (K := X.K) (H := F2) (x2.grow.is i1) i2
theorem islp_app {K : PySem.W.Frag} {F : Hp} {A : List Addr} {vs dvs : List V} {ps : List P} {ed : List D} (l : IsLP K F A vs ps) (he : ∀ H, IsL K H dvs ed) : IsLP K F A (vs ++ dvs) (ps ++ ed.map fun d => (false, d)) := by
  have : IsL K F (vs ++ dvs) (ps.map (P.at A) ++ (ed.map fun d => (false, d)).map (P.at A)) := IsL.append l (islp_clean (he F))
  rw [← List.map_append] at this
  exact this
/-- a def called, defaults filling up, what it lets out told at the slots -/
theorem pe_callW {CX : CXT} {f : Addr} {fd : FuncData} {ps : List Str} {sp : Sp} {dvs : List V} {ds : List Value} {E : L2.St → XK} {tt : TA} (F : FnOk X.prog X.w X.K X.mg X.base CX k f fd ps sp) (hr : Room k X.A) (hg : Gl X x) (hm : X.mg x = some (.ref f)) (hk : PySem.W.keepIn X.K (.ref f) = true) (hb : Binds X.K fd ps ds) (hd : Vals dvs ds) (hx : ∀ σ, PassesAt CX X σ (E σ))
    (ha : PA X (e :: es) tt) (hdb : (x == ("__debug__" : Str)) = false) (he : starEach (e :: es) X.env = (false, eval e X.env) :: starEach es X.env) (hpl : (backTo pos (starEach es X.env)).any (·.1) = false) :
    PE X (.Call (.Name x p) (e :: es) [] pos) (fun σ H Q => tt σ H fun vs H1 => sp (vs ++ dvs) H1 Q (E σ)) := by
  refine ⟨fun pins s σ H Q I h => ?_⟩
  refine wpAny_Call_Name_kw (ld_glob I hg hm ?_ hdb)
  refine PySem.W.callWith_K (h₀ := X.base) I.ok.mod.kin hk (thn (ha.run pos pins s σ H _ I h) fun us s1 ⟨vs, H1, I1, r, q⟩ => ⟨I1.kIn, ?_⟩) he hpl
  exact run_fnW F hr hb hd (hx σ) I1 r q
theorem q_c (C : CalQ X.prog X.w X.K X.mg X.base k x G) (hr : Room j X.A) (hj : k ≤ j) (tk : Takes X W) (ha : DQA X B W (e :: es) t) (hg : Gl X x := by rfl)
    (hdb : (x == ("__debug__" : Str)) = false := by decide) (he : starEach (e :: es) X.env = (false, eval e X.env) :: starEach es X.env := by rfl) (hpl : (backTo pos (starEach es X.env)).any (·.1) = false := by rfl) : DQ X B W (.Call (.Name x p) (e :: es) [] pos) (qCall G t) := by
  obtain ⟨f, fd, ps, ds, dvs, dv, Fn, hm, hk, hb, hd, ed, hE, hG⟩ := C.ex
  refine pe_imp (pe_callW Fn (hr.mono hj) hg hm hk hb hd (fun σ => passAt tk σ) ha hdb he hpl) fun σ H Q ⟨ρ, M, F, A, r, h⟩ => ?_
  refine semQA_bind (k := G) r h fun ps M1 vs F1 H1 A1 _ i1 r1 h1 => ⟨_, M1, F1, A1, islp_app i1 hE, r1.cl, ?_⟩
  rw [hG] at h1
  cases z : dv (ps ++ ed.map fun d => (false, d)) M1 with
  | ok p M2 => rw [z] at h1; exact h1
  | ex x M2 => rw [z] at h1; exact h1
  | st => rw [z] at h1; exact h1
/-! ### an object, as a number or as data -/
def objP (M : Mem) : P → Option (Bool × Str × List (Str × D))
  | (b, .obj c fs) => some (b, c, fs)
  | (true, .loc k) => match M[k]? with
    | some (b, .obj c fs) => some (b, c, fs)
    | _ => none
  | _ => none
theorem isF_at {K : PySem.W.Frag} {F : Hp} {A : List Addr} {b : Bool} {fs : List (Str × D)} {xs : List (Str × V)} {c : Str} {a : Addr} {o : HO} (h : IsC K F o (P.at A (b, .obj c fs))) : ∃ dx xs, o = .ins (He.ga K c) dx xs ∧ IsK K F xs (fs.map fun q => (q.1, P.at A (b, q.2))) := by
  cases b with
  | false =>
    cases o <;> first | exact (show False from h).elim | skip
    rename_i C dx xs
    obtain ⟨e, l⟩ := (show C = He.ga K c ∧ IsK K F xs fs from h)
    subst e
    refine ⟨dx, xs, rfl, ?_⟩
    have : (fs.map fun q => (q.1, P.at A (false, q.2))) = fs := by
      have : (fun q : Str × D => (q.1, P.at A (false, q.2))) = id := rfl
      rw [this, List.map_id]
    rw [this]
    exact l
  | true =>
    cases o <;> first | exact (show False from h).elim | skip
    rename_i C dx xs
    obtain ⟨e, l⟩ := (show C = He.ga K c ∧ IsK K F xs (D.subF A fs) from h)
    subst e
    refine ⟨dx, xs, rfl, ?_⟩
    rw [subF_map] at l
    exact l
theorem objP_is {K : PySem.W.Frag} {F H : Hp} {A : List Addr} {M : Mem} {v : V} {p : P} {b : Bool} {c : Str} {fs : List (Str × D)} (cl : Cells K F H A M) (i : Is K F v (p.at A)) (h : objP M p = some (b, c, fs)) :
    ∃ a dx xs, v = .ref a ∧ H a = some (.ins (He.ga K c) dx xs) ∧ IsK K F xs (fs.map fun q => (q.1, P.at A (b, q.2))) := by
  unfold objP at h
  split at h
  · rename_i b' c' fs'
    cases h
    cases b with
    | false =>
      obtain ⟨a, dx, xs, e, ha, l⟩ := (show Is K F v (.obj c fs) from i).obj_inv
      refine ⟨a, dx, xs, e, cl.fh _ _ ha, ?_⟩
      have : (fs.map fun q => (q.1, P.at A (false, q.2))) = fs := by
        have : (fun q : Str × D => (q.1, P.at A (false, q.2))) = id := rfl
        rw [this, List.map_id]
      rw [this]
      exact l
    | true =>
      obtain ⟨a, dx, xs, e, ha, l⟩ := (show Is K F v (.obj c (D.subF A fs)) from i).obj_inv
      refine ⟨a, dx, xs, e, cl.fh _ _ ha, ?_⟩
      rw [subF_map] at l
      exact l
  · rename_i k
    split at h
    · rename_i b' c' fs' e
      cases h
      have i' : Is K F v (match A[k]? with | some a => .adr a | none => .loc k) := i
      obtain ⟨a, o, e1, e2, e3⟩ := cl.at_ k _ e
      rw [e1] at i'
      cases i'
      obtain ⟨dx, xs, rfl, l⟩ := isF_at (xs := []) (a := a) e3
      exact ⟨a, dx, xs, rfl, e2, l⟩
    · cases h
  · cases h
theorem lookup_map {f : Str} {gg : D → D} : ∀ {fs : List (Str × D)}, (fs.map fun q => (q.1, gg q.2)).lookup f = (fs.lookup f).map gg
  | [] => rfl
  | (a, d) :: r => by
    by_cases hf : f = a
    · subst hf
      rw [List.map_cons, List.lookup_cons_self, List.lookup_cons_self]
      rfl
    · have hb : (f == a) = false := beq_eq_false_iff_ne.mpr hf
      rw [List.map_cons]
      simp only [List.lookup, hb]
      exact lookup_map
def qFld (cs : List Str) (f : Str) (g : GQ) : GQ := fun ρ M => (g ρ M).bind fun p M1 => match objP M1 p with
  | some (b, c, fs) => if cs.contains c = true then (match fs.lookup f with
    | some d => .ok (b, d) M1
    | none => .st) else .st
  | none => .st
theorem q_fld {f : Str} (cs : List Str) (hc : ∀ c ∈ cs, Cls X.K (He.ga X.K c) ∧ NoAttr X.K (He.ga X.K c) f) (he : DQ X B W e g) (hb : attributeBase e f X.env (eval e X.env) = eval e X.env := by rfl) : DQ X B W (.Attribute e f pos) (qFld cs f g) := by
  refine pe_imp (pe_fld he hb) fun σ H Q ⟨ρ, M, F, A, r, h⟩ => ?_
  refine semQ_bind (k := fun p M1 => match objP M1 p with
    | some (b, c, fs) => if cs.contains c = true then (match fs.lookup f with
      | some d => .ok (b, d) M1
      | none => .st) else .st
    | none => .st) r h fun p M1 v F1 H1 A1 _ i1 r1 h1 => ?_
  cases z : objP M1 p with
  | none => rw [z] at h1; exact h1.elim
  | some q =>
    obtain ⟨b, c, fs⟩ := q
    rw [z] at h1
    have h2 : afterQ X.K W σ F1 H1 A1 (if cs.contains c = true then (match fs.lookup f with
      | some d => .ok (b, d) M1
      | none => .st) else .st) Q := h1
    by_cases hz : cs.contains c = true
    · rw [if_pos hz] at h2
      obtain ⟨a, dx, xs, rfl, ha, ik⟩ := objP_is r1.cl i1 z
      obtain ⟨cl, na⟩ := hc c (by simpa using hz)
      cases q : fs.lookup f with
      | none => rw [q] at h2; exact h2.elim
      | some d =>
        rw [q] at h2
        obtain ⟨v, e1, e2⟩ := (isK_lookup ik).1 (P.at A1 (b, d)) (by rw [lookup_map (gg := fun d => P.at A1 (b, d)), q]; rfl)
        exact ⟨a, _, dx, xs, v, rfl, ha, cl, na, e1, afterQ.now h2 r1.cl e2⟩
    · rw [if_neg hz] at h2
      exact h2.elim
end
end Pd

/-! Pq4: methods, objects made, fields and lists changed; a look at all (snapshot) -/
namespace Pd
open PySem PySem.Spec PyProof.Rows L2
/-! ### methods -/
def metQ (tb : List (Str × GF)) (mn : Str) (p : P) (M : Mem) (k : GF → RQ P) : RQ P := match objP M p with
  | some (_, c, fs) => (match fs.lookup mn with
    | some _ => .st
    | none => match tb.lookup c with
      | some G => k G
      | none => .st)
  | none => .st
def qMeth (tb : List (Str × GF)) (mn : Str) (go : GQ) (t : GQA) : GQ := fun ρ M => (go ρ M).bind fun p M1 => metQ tb mn p M1 fun G => (t ρ M1).bind fun ps M2 => G (p :: ps) M2
section
variable {X : Cx} {B : QB} {W : WX} {pos apos : Pos} {e o : Expr} {es : List Expr} {g go : GQ} {t : GQA} {k j : Nat} {x mn c : Str} {p : Pos} {G : GF} {pl : Sem Bool}
theorem qMeth_row {tb : List (Str × GF)} {ρ : RhoQ} {M : Mem} (hne : tb ≠ []) (hs : qMeth tb mn go t ρ M ≠ .st) : ∃ q ∈ tb, qMeth [q] mn go t ρ M = qMeth tb mn go t ρ M := by
  unfold qMeth at hs ⊢
  cases z : go ρ M with
  | st => rw [z] at hs; exact absurd rfl hs
  | ex x M1 =>
    obtain ⟨q, hq⟩ := List.exists_mem_of_ne_nil _ hne
    exact ⟨q, hq, rfl⟩
  | ok p M1 =>
    rw [z] at hs
    have hs2 : metQ tb mn p M1 (fun G => (t ρ M1).bind fun ps M2 => G (p :: ps) M2) ≠ .st := hs
    unfold metQ at hs2
    show ∃ q ∈ tb, metQ [q] mn p M1 (fun G => (t ρ M1).bind fun ps M2 => G (p :: ps) M2) = metQ tb mn p M1 (fun G => (t ρ M1).bind fun ps M2 => G (p :: ps) M2)
    unfold metQ
    cases z1 : objP M1 p with
    | none => rw [z1] at hs2; exact absurd rfl hs2
    | some q =>
      obtain ⟨b, c, fs⟩ := q
      rw [z1] at hs2
      have hs3 : (match fs.lookup mn with
        | some _ => RQ.st
        | none => match tb.lookup c with
          | some G => (t ρ M1).bind fun ps M2 => G (p :: ps) M2
          | none => RQ.st) ≠ .st := hs2
      cases z2 : fs.lookup mn with
      | some _ => rw [z2] at hs3; exact absurd rfl hs3
      | none =>
        rw [z2] at hs3
        cases z3 : tb.lookup c with
        | none => rw [z3] at hs3; exact absurd rfl hs3
        | some G =>
          refine ⟨(c, G), lookup_mem z3, ?_⟩
          show (match fs.lookup mn with
            | some _ => RQ.st
            | none => match List.lookup c [(c, G)] with
              | some G => (t ρ M1).bind fun ps M2 => G (p :: ps) M2
              | none => RQ.st) = (match fs.lookup mn with
            | some _ => RQ.st
            | none => match tb.lookup c with
              | some G => (t ρ M1).bind fun ps M2 => G (p :: ps) M2
              | none => RQ.st)
          rw [z2, z3, List.lookup_cons_self]
theorem q_meth {tb : List (Str × GF)} (h : ∀ q ∈ tb, DQ X B W e (qMeth [q] mn go t)) (hne : tb ≠ [] := by simp) : DQ X B W e (qMeth tb mn go t) :=
  pe_imp (pe_mem h) fun σ H Q ⟨ρ, M, F, A, r, q⟩ => by
    by_cases hs : qMeth tb mn go t ρ M = .st
    · rw [hs] at q
      exact q.elim
    · obtain ⟨z, hz, ez⟩ := qMeth_row hne hs
      exact ⟨z, hz, ρ, M, F, A, r, by rw [ez]; exact q⟩
theorem methQ_sem {dv : GF} {dvs : List V} {ed : List D} (he : ∀ H, IsL X.K H dvs ed) (hG : ∀ as M, G as M = dv (as ++ ed.map fun d => (false, d)) M) (σ : L2.St) (H : Hp) (Q : VK) (h : tSemQ X.K B W (qMeth [(c, G)] mn go t) σ H Q) :
    tMethW (He.ga X.K c) mn (spQ X.K dv) dvs (WE W) (tSemQ X.K B W go) (tSemQA X.K B W t) σ H Q := by
  obtain ⟨ρ, M, F, A, r, h⟩ := h
  refine semQ_bind (k := fun p M1 => metQ [(c, G)] mn p M1 fun G => (t ρ M1).bind fun ps M2 => G (p :: ps) M2) r h fun p M1 v F1 H1 A1 _ i1 r1 h1 => ?_
  unfold metQ at h1
  cases z1 : objP M1 p with
  | none => rw [z1] at h1; exact h1.elim
  | some q =>
    obtain ⟨b, c', fs⟩ := q
    rw [z1] at h1
    have h2 : afterQ X.K W σ F1 H1 A1 (match fs.lookup mn with
      | some _ => .st
      | none => match List.lookup c' [(c, G)] with
        | some G => (t ρ M1).bind fun ps M2 => G (p :: ps) M2
        | none => .st) Q := h1
    obtain ⟨a, dx, xs, rfl, ha, ik⟩ := objP_is r1.cl i1 z1
    cases z : fs.lookup mn with
    | some _ => rw [z] at h2; exact h2.elim
    | none =>
      rw [z] at h2
      by_cases hc : c' = c
      · subst hc
        rw [List.lookup_cons_self] at h2
        refine ⟨a, dx, xs, rfl, ha, (isK_lookup ik).2 (by rw [lookup_map (gg := fun d => P.at A1 (b, d)), z]; rfl), ?_⟩
        refine semQA_bind (k := fun ps M2 => G (p :: ps) M2) r1 h2 fun ps M2 vs F2 H2 A2 x2 i2 r2 h3 => ?_
        refine ⟨_, M2, F2, A2, islp_app (ps := p :: ps) (IsL.cons (K := X.K) (H := F2) (x2.grow.is i1) i2) he, r2.cl, ?_⟩
        have h4 : afterQ X.K W σ F2 H2 A2 (G (p :: ps) M2) Q := h3
        rw [hG] at h4
        cases z4 : dv ((p :: ps) ++ ed.map fun d => (false, d)) M2 with
        | ok d M3 => rw [z4] at h4; exact h4
        | ex x M3 => rw [z4] at h4; exact h4
        | st => rw [z4] at h4; exact h4
      · have hb : (c' == c) = false := beq_eq_false_iff_ne.mpr hc
        simp only [List.lookup, hb] at h2
        exact h2.elim
theorem q_meth1 (C : MetQ X.prog X.w X.K X.mg X.base k c mn G) (hr : Room j X.A) (hj : k ≤ j) (tk : Takes X W) (ho : DQ X B W o go) (ha : DQA X B W (e :: es) t)
    (hst : starEach (e :: es) X.env = (false, eval e X.env) :: starEach es X.env) (hpl : (backTo pos (starEach es X.env)).any (·.1) = false)
    (ht : eval (.Call (.Attribute o mn apos) (e :: es) [] pos) X.env = (do
      let ov ← eval o X.env
      standAt apos.atName
      let (f, first) ← holding [ov] (getMethod ov mn pl)
      callWith pos f first (backTo pos (starEach (e :: es) X.env)) (backToKw pos (keywordEach [] X.env)))) : DQ X B W (.Call (.Attribute o mn apos) (e :: es) [] pos) (qMeth [(c, G)] mn go t) := by
  obtain ⟨f, fd, ps, ds, dvs, dv, F, cl, hm, hb, hd, ed, he, hG⟩ := C.ex
  exact pe_imp (pe_methW ho cl hm F (hr.mono hj) hb hd (fun σ => passAt tk σ) ha hst hpl ht) fun σ H Q h => methQ_sem he hG σ H Q h
theorem tSemQ_mono (σ : L2.St) (H : Hp) (Q Q' : VK) (h : ∀ v H', Q v H' → Q' v H') : tSemQ X.K B W go σ H Q → tSemQ X.K B W go σ H Q' := fun ⟨ρ, M, F, A, r, q⟩ => by
  refine ⟨ρ, M, F, A, r, ?_⟩
  cases z : go ρ M with
  | ok d M1 => rw [z] at q; exact fun v F' H' A' x c i => h _ _ (q v F' H' A' x c i)
  | ex x M1 => rw [z] at q; exact q
  | st => rw [z] at q; exact q
theorem q_meth0 (C : MetQ X.prog X.w X.K X.mg X.base k c mn G) (hr : Room j X.A) (hj : k ≤ j) (tk : Takes X W) (ho : DQ X B W o go)
    (ht : eval (.Call (.Attribute o mn apos) [] [] pos) X.env = (do
      let ov ← eval o X.env
      standAt apos.atName
      let (f, first) ← holding [ov] (getMethod ov mn pl)
      callWith pos f first (backTo pos (starEach [] X.env)) (backToKw pos (keywordEach [] X.env)))) : DQ X B W (.Call (.Attribute o mn apos) [] [] pos) (qMeth [(c, G)] mn go aqNil) := by
  obtain ⟨f, fd, ps, ds, dvs, dv, F, cl, hm, hb, hd, ed, he, hG⟩ := C.ex
  exact pe_imp (pe_methW0 ho cl hm F (hr.mono hj) hb hd (fun σ => passAt tk σ) ht) fun σ H Q h => tMethW_imp (fun σ H Q (h : tSemQA X.K B W aqNil σ H Q) => by
    obtain ⟨ρ, M, F, A, r, h⟩ := h
    exact h [] F H A .refl r.cl .nil) (fun σ H Q Q' => tSemQ_mono σ H Q Q') σ H Q (methQ_sem he hG σ H Q h)
end
/-! ### C(..) -/
section
variable {X : Cx} {CX : CXT} {W : WX} {C f : Addr} {fd : FuncData} {ps : List Str} {sp : Sp} {dvs : List V} {ds : List Value} {E : L2.St → XK} {k : Nat} {x : Str} {p pos : Pos} {e : Expr} {es : List Expr} {tt : TA}
theorem run_makeW {pins : List (Addr × Obj)} {σ : L2.St} {H : Hp} {s : Shared} {Q : VK} {us : List Value} {vs : List V} (M : Mk X.K C f) (F : FnOk X.prog X.w X.K X.mg X.base CX k f fd ps sp) (hr : Room (k + 1) X.A) (hb : Binds X.K fd ps ds) (hd : Vals dvs ds)
    (hx : PassesAt CX X σ (E σ)) (I : Inv X pins σ H s) (r : Vals vs us)
    (h : ∀ x dx, H x = none → H dx = none → dx ≠ x → sp (.ref x :: (vs ++ dvs)) (upd (upd H dx (.own x)) x (.ins C dx [])) (fun v H2 => v = .non ∧ Q (.ref x) H2) (E σ)) :
    wpAny (model X.prog X.w) X.A (call (.ref C) us) (EP X pins σ Q) X.xe s := by
  have hq := h (s.heap.objs.size + 1) s.heap.objs.size (I.hok.fresh (Nat.le_succ _)) (I.hok.fresh (Nat.le_refl _)) (Nat.ne_of_lt (Nat.lt_succ_self _))
  have I2 := Inv.made (C := C) I
  have r2 : Vals (V.ref (s.heap.objs.size + 1) :: (vs ++ dvs)) (Value.ref (s.heap.objs.size + 1) :: (us ++ ds)) := .cons rfl (r.append hd)
  have hl : (Value.ref (s.heap.objs.size + 1) :: us ++ ds).length = ps.length := by
    have e := r2.length
    rw [F.len _ _ _ _ hq] at e
    exact e.symm
  refine wpAny_call (make_map (f := f) I.kIn M.makes M.init (beq_iff_eq.mp M.fn) (codeAny_mono (F.run _ X.stack _ _ ⟨Value.ref (s.heap.objs.size + 1) :: us, []⟩ (Value.ref (s.heap.objs.size + 1) :: (us ++ ds)) _ _ (E σ) (hr.make C us [])
    (I2.env0.make C us []) (hb _ (Value.ref (s.heap.objs.size + 1) :: us) I2.kIn hl) r2 hq) fun r s' hq' => ?_))
  cases r with
  | error e => exact hx pins _ _ e s' I2 hq'
  | ok fl =>
    cases fl with
    | ret u =>
      obtain ⟨v, H', I3, rv, ev, q3⟩ := I2.after hq'
      subst ev
      exact ⟨rv, ⟨V.ref (s.heap.objs.size + 1), H', I3, rfl, q3⟩⟩
    | next => exact False.elim hq'
    | brk => exact False.elim hq'
    | cont => exact False.elim hq'
def tMakeW (C : Addr) (sp : Sp) (dvs : List V) (E : L2.St → XK) (t : TA) : TE := fun σ H Q => t σ H fun vs H1 => ∀ x dx, H1 x = none → H1 dx = none → dx ≠ x →
  sp (.ref x :: (vs ++ dvs)) (upd (upd H1 dx (.own x)) x (.ins C dx [])) (fun v H2 => v = .non ∧ Q (.ref x) H2) (E σ)
theorem pe_makeW (M : Mk X.K C f) (F : FnOk X.prog X.w X.K X.mg X.base CX k f fd ps sp) (hr : Room (k + 1) X.A) (hg : Gl X x) (hm : X.mg x = some (.ref C)) (hb : Binds X.K fd ps ds) (hd : Vals dvs ds) (hx : ∀ σ, PassesAt CX X σ (E σ))
    (ha : PA X (e :: es) tt) (hdb : (x == ("__debug__" : Str)) = false) (he : starEach (e :: es) X.env = (false, eval e X.env) :: starEach es X.env) (hpl : (backTo pos (starEach es X.env)).any (·.1) = false) :
    PE X (.Call (.Name x p) (e :: es) [] pos) (tMakeW C sp dvs E tt) := by
  refine ⟨fun pins s σ H Q I h => ?_⟩
  refine wpAny_Call_Name_kw (ld_glob I hg hm ?_ hdb)
  refine PySem.W.callWith_K (h₀ := X.base) I.ok.mod.kin M.kp (thn (ha.run pos pins s σ H _ I h) fun us s1 ⟨vs, H1, I1, r, q⟩ => ⟨I1.kIn, ?_⟩) he hpl
  exact run_makeW M F hr hb hd (hx σ) I1 r q
theorem pe_makeW0 (M : Mk X.K C f) (F : FnOk X.prog X.w X.K X.mg X.base CX k f fd ps sp) (hr : Room (k + 1) X.A) (hg : Gl X x) (hm : X.mg x = some (.ref C)) (hb : Binds X.K fd ps ds) (hd : Vals dvs ds) (hx : ∀ σ, PassesAt CX X σ (E σ))
    (hdb : (x == ("__debug__" : Str)) = false) :
    PE X (.Call (.Name x p) [] [] pos) (tMakeW C sp dvs E tNil) := by
  refine ⟨fun pins s σ H Q I h => ?_⟩
  refine wpAny_Call_Name_kw (ld_glob I hg hm ?_ hdb)
  exact PySem.W.callWith_K0 I.kIn M.kp (run_makeW (us := []) M F hr hb hd (hx σ) I .nil h)
end
/-- a new object of class c, then its __init__ -/
def mkQ (c : Str) (G : GF) : GF := fun ps M => match G ((true, .loc M.length) :: ps) (M ++ [(false, .obj c [])]) with
  | .ok (_, .non) M1 => .ok (true, .loc M.length) M1
  | .ok _ _ => .st
  | .ex x M1 => .ex x M1
  | .st => .st
section
variable {K : PySem.W.Frag} {F H : Hp} {A : List Addr} {M : Mem} {c : Str}
theorem Cells.fresh (cl : Cells K F H A M) {a : Addr} (n : H a = none) : a ∉ A := fun m => by
  obtain ⟨k, hk⟩ := List.mem_iff_getElem?.mp m
  obtain ⟨p, hp⟩ : ∃ p, M[k]? = some p := by
    have : k < M.length := by rw [← cl.len]; exact (List.getElem?_eq_some_iff.mp hk).1
    exact ⟨M[k], by simp [this]⟩
  obtain ⟨a', o, e1, e2, _⟩ := cl.at_ k p hp
  rw [hk] at e1
  cases e1
  rw [n] at e2
  cases e2
theorem made_cells {y dx : Addr} (cl : Cells K F H A M) (hy : H y = none) (hd : H dx = none) (ne : dx ≠ y) :
    ExtQ F H A F (upd (upd H dx (.own y)) y (.ins (He.ga K c) dx [])) (A ++ [y]) ∧ Cells K F (upd (upd H dx (.own y)) y (.ins (He.ga K c) dx [])) (A ++ [y]) (M ++ [(false, .obj c [])]) := by
  have hy1 : upd H dx (.own y) y = none := by rw [upd_ne (Ne.symm ne)]; exact hy
  have x : Ext F H F (upd (upd H dx (.own y)) y (.ins (He.ga K c) dx [])) := (Ext.laid' cl.fh hd).trans (Ext.laid' (cl.fh.trans (same_upd hd)) hy1)
  obtain ⟨e1, c1⟩ := ExtQ.pure cl x
  have c2 := ExtQ.alloc (p := y) (o := .ins (He.ga K c) dx []) (q := (false, .obj c [])) c1 upd_same (cl.fh.free hy) (cl.fresh hy) ⟨rfl, .nil⟩
  refine ⟨⟨e1.ff, ⟨[y], rfl⟩, e1.hh, fun u hu fu nu => ?_⟩, c2⟩
  obtain ⟨z1, z2⟩ := e1.nw u hu fu nu
  refine ⟨z1, fun m => ?_⟩
  rcases List.mem_append.mp m with m | m
  · exact z2 m
  · simp at m
    subst m
    exact hu hy
theorem loc_at {n : Nat} {y : Addr} {v : V} (h : A[n]? = some y) : (P.at A (true, .loc n)) = .adr y := by
  show (match A[n]? with | some a => D.adr a | none => .loc n) = .adr y
  rw [h]
/-- the promise of an __init__, as the maker's -/
theorem mk_sem {dv G : GF} {dvs vs : List V} {ed : List D} {ps : List P} {W : WX} {σ : L2.St} {Q : VK} {y dx : Addr} (he : ∀ H, IsL K H dvs ed) (hG : ∀ as M, G as M = dv (as ++ ed.map fun d => (false, d)) M)
    (cl : Cells K F H A M) (l : IsLP K F A vs ps) (h : afterQ K W σ F H A (mkQ c G ps M) Q) (hy : H y = none) (hd : H dx = none) (ne : dx ≠ y) :
    spQ K dv (.ref y :: (vs ++ dvs)) (upd (upd H dx (.own y)) y (.ins (He.ga K c) dx [])) (fun v H2 => v = .non ∧ Q (.ref y) H2) (WE W σ) := by
  obtain ⟨x, c2⟩ := made_cells (c := c) cl hy hd ne
  have hAy : (A ++ [y])[M.length]? = some y := by
    rw [← cl.len, List.getElem?_append_right (Nat.le_refl _), Nat.sub_self]
    rfl
  have l2 : IsLP K F (A ++ [y]) (.ref y :: vs) ((true, .loc M.length) :: ps) := by
    refine IsL.cons (K := K) (H := F) ?_ ?_
    · show Is K F (.ref y) (P.at (A ++ [y]) (true, .loc M.length))
      rw [loc_at (v := .non) hAy]
      exact .adr y
    · refine ⟨by rw [l.1]; simp, fun i v d e1 e2 => ?_⟩
      rw [List.getElem?_map] at e2
      cases z : ps[i]? with
      | none => rw [z] at e2; cases e2
      | some p =>
        rw [z] at e2
        cases e2
        exact P.mono (l.2 i v (p.at A) e1 (by rw [List.getElem?_map, z]; rfl)) (.refl F)
  refine ⟨_, M ++ [(false, .obj c [])], F, A ++ [y], islp_app l2 he, c2, ?_⟩
  unfold mkQ at h
  rw [hG] at h
  cases z : dv (((true, .loc M.length) :: ps) ++ ed.map fun d => (false, d)) (M ++ [(false, .obj c [])]) with
  | st => rw [z] at h; exact h
  | ex x1 M1 =>
    rw [z] at h
    exact fun cls od F' H' A' x3 c3 i => h cls od F' H' A' (x.trans c2 x3) c3 i
  | ok q M1 =>
    rw [z] at h
    obtain ⟨b, d⟩ := q
    cases d with
    | non =>
      intro v F' H' A' x3 c3 i
      have hv : v = .non := by
        cases b with
        | false => cases (show Is K F' v .non from i); rfl
        | true => cases (show Is K F' v .non from i); rfl
      refine ⟨hv, h (.ref y) F' H' A' (x.trans c2 x3) c3 ?_⟩
      obtain ⟨t, et⟩ := x3.pre
      have : A'[M.length]? = some y := by
        rw [et, List.getElem?_append_left (by simp [cl.len])]
        exact hAy
      rw [loc_at (v := .non) this]
      exact .adr y
    | _ => exact h.elim
end
section
variable {X : Cx} {B : QB} {W : WX} {pos : Pos} {e : Expr} {es : List Expr} {t : GQA} {k j : Nat} {x : Str} {p : Pos} {G : GF}
theorem q_make (C : MkQ X.prog X.w X.K X.mg X.base k x G) (hr : Room j X.A) (hj : k + 1 ≤ j) (tk : Takes X W) (ha : DQA X B W (e :: es) t) (hg : Gl X x := by rfl)
    (hdb : (x == ("__debug__" : Str)) = false := by decide) (he : starEach (e :: es) X.env = (false, eval e X.env) :: starEach es X.env := by rfl) (hpl : (backTo pos (starEach es X.env)).any (·.1) = false := by rfl) : DQ X B W (.Call (.Name x p) (e :: es) [] pos) (qCall (mkQ x G) t) := by
  obtain ⟨f, fd, ps, ds, dvs, dv, Fn, hm, hk, hb, hd, ed, hE, hG⟩ := C.ex
  refine pe_imp (pe_makeW hk Fn (hr.mono hj) hg hm hb hd (fun σ => passAt tk σ) ha hdb he hpl) fun σ H Q ⟨ρ, M, F, A, r, h⟩ => ?_
  refine semQA_bind (k := mkQ x G) r h fun ps M1 vs F1 H1 A1 _ i1 r1 h1 => fun y dx hy hdx ne => mk_sem hE hG r1.cl i1 h1 hy hdx ne
theorem q_make0 (C : MkQ X.prog X.w X.K X.mg X.base k x G) (hr : Room j X.A) (hj : k + 1 ≤ j) (tk : Takes X W) (hg : Gl X x := by rfl)
    (hdb : (x == ("__debug__" : Str)) = false := by decide) : DQ X B W (.Call (.Name x p) [] [] pos) (qCall (mkQ x G) aqNil) := by
  obtain ⟨f, fd, ps, ds, dvs, dv, Fn, hm, hk, hb, hd, ed, hE, hG⟩ := C.ex
  exact pe_imp (pe_makeW0 hk Fn (hr.mono hj) hg hm hb hd (fun σ => passAt tk σ) hdb) fun σ H Q ⟨ρ, M, F, A, r, h⟩ => fun y dx hy hdx ne => mk_sem (vs := []) (ps := []) hE hG r.cl IsL.nil h hy hdx ne
/-- .. with what has no numbers, in plain reading -/
def mkD (x : Str) (G : GF) : List D → R D := (mkQ x G).down
theorem d_make {F0 : Bs} {H0 : Hp} {m : List Bool} {t : Rho → R (List D)} (C : MkQ X.prog X.w X.K X.mg X.base k x G) (hr : Room j X.A) (hj : k + 1 ≤ j) (tk : Takes X W) (ha : DA X F0 H0 m W (e :: es) t) (hg : Gl X x := by rfl)
    (hdb : (x == ("__debug__" : Str)) = false := by decide) (he : starEach (e :: es) X.env = (false, eval e X.env) :: starEach es X.env := by rfl) (hpl : (backTo pos (starEach es X.env)).any (·.1) = false := by rfl) : DE X F0 H0 m W (.Call (.Name x p) (e :: es) [] pos) (gA (mkD x G) t) := by
  obtain ⟨f, fd, ps, ds, dvs, dv, Fn, hm, hk, hb, hd, ed, hE, hG⟩ := C.ex
  refine pe_imp (pe_makeW hk Fn (hr.mono hj) hg hm hb hd (fun σ => passAt tk σ) ha hdb he hpl) fun σ H Q ⟨ρ, F, r, h⟩ => ?_
  refine semA_bind (k := mkD x G) r h fun ds vs F1 H1 _ i1 r1 h1 => fun y dx hy hdx ne => ?_
  have c0 : Cells X.K F1 H1 [] [] := ⟨r1.fh, rfl, .nil, fun a m => (nomatch m), fun k p hp => by simp at hp⟩
  refine mk_sem hE hG c0 (islp_clean i1) ?_ hy hdx ne
  have h2 : after X.K W σ F1 H1 ((mkQ x G (ds.map fun d => (false, d)) []).down) Q := h1
  cases z : mkQ x G (ds.map fun d => (false, d)) [] with
  | st => rw [z] at h2; exact h2
  | ex x1 M1 =>
    rw [z] at h2
    intro cls od F' H' A' x2 c i
    exact h2 cls od F' H' ⟨x2.ff, fun a o e => x2.hh a o e (by simp), c.fh, fun p hp fp => (x2.nw p hp fp (by simp)).1⟩ i
  | ok q M1 =>
    rw [z] at h2
    intro v F' H' A' x c i
    have h' : after X.K W σ F1 H1 (match q.full M1 with | some d => R.ok d | none => R.st) Q := h2
    cases z2 : q.full M1 with
    | none => rw [z2] at h'; exact h'.elim
    | some d =>
      rw [z2] at h'
      obtain ⟨s1, s2⟩ := frz_same c
      refine h' v (frzF F' H' A') H' ⟨x.ff.trans s1, fun a o e => x.hh a o e (by simp), s2, fun p hp fp => ?_⟩ (full_is c i z2)
      obtain ⟨y1, y2⟩ := x.nw p hp fp (by simp)
      unfold frzF
      rw [if_neg y2]
      exact y1
end
/-! ### o.f = e -/
def putD (f : Str) (d : D) : List (Str × D) → List (Str × D)
  | [] => [(f, d)]
  | (g, x) :: r => if g = f then (g, d) :: r else (g, x) :: putD f d r
theorem isK_putF {K : PySem.W.Frag} {F : Hp} {f : Str} {v : V} {d : D} (i : Is K F v d) : ∀ {xs : List (Str × V)} {ds : List (Str × D)}, IsK K F xs ds → IsK K F (putF f v xs) (putD f d ds)
  | [], [], _ => .cons i .nil
  | [], _ :: _, h => by have := h.1; simp at this
  | _ :: _, [], h => by have := h.1; simp at this
  | (a, x) :: xs, (b, y) :: ds, h => by
    obtain ⟨x', xr, e, ix, t⟩ := h.uncons
    cases e
    show IsK K F (if a = f then (a, v) :: xs else (a, x) :: putF f v xs) (if a = f then (a, d) :: ds else (a, y) :: putD f d ds)
    by_cases hf : a = f
    · rw [if_pos hf, if_pos hf]
      exact .cons i t
    · rw [if_neg hf, if_neg hf]
      exact .cons ix (isK_putF i t)
theorem putD_map {f : Str} {d : D} {gg : D → D} : ∀ {fs : List (Str × D)}, (putD f d fs).map (fun q => (q.1, gg q.2)) = putD f (gg d) (fs.map fun q => (q.1, gg q.2))
  | [] => rfl
  | (a, x) :: r => by
    show List.map (fun q => (q.1, gg q.2)) (if a = f then (a, d) :: r else (a, x) :: putD f d r) = (if a = f then (a, gg d) :: (r.map fun q => (q.1, gg q.2)) else (a, gg x) :: putD f (gg d) (r.map fun q => (q.1, gg q.2)))
    by_cases hf : a = f
    · rw [if_pos hf, if_pos hf]
      rfl
    · rw [if_neg hf, if_neg hf, List.map_cons, putD_map]
theorem lvl_up {K : PySem.W.Frag} {F : Hp} {A : List Addr} {b : Bool} {c : Bool} : ∀ {xs : List (Str × V)} {fs : List (Str × D)}, IsK K F xs (fs.map fun q => (q.1, P.at A (b, q.2))) → IsK K F xs (fs.map fun q => (q.1, P.at A (b || c, q.2)))
  | xs, [], h => h
  | xs, (k, d) :: fs, h => by
    obtain ⟨x, xr, rfl, ix, t⟩ := (show IsK K F xs ((k, P.at A (b, d)) :: fs.map fun q => (q.1, P.at A (b, q.2))) from h).uncons
    exact .cons (at_up (p := (b, d)) ix c) (lvl_up t)
theorem isC_obj {K : PySem.W.Frag} {F : Hp} {A : List Addr} {b : Bool} {c : Str} {dx : Addr} {xs : List (Str × V)} {fs : List (Str × D)} (h : IsK K F xs (fs.map fun q => (q.1, P.at A (b, q.2)))) : IsC K F (.ins (He.ga K c) dx xs) (P.at A (b, .obj c fs)) := by
  cases b with
  | false =>
    have e : (fs.map fun q => (q.1, P.at A (false, q.2))) = fs := by
      have : (fun q : Str × D => (q.1, P.at A (false, q.2))) = id := rfl
      rw [this, List.map_id]
    rw [e] at h
    exact ⟨rfl, h⟩
  | true =>
    refine ⟨rfl, ?_⟩
    rw [subF_map]
    exact h
/-- the number's object gets a field -/
def sqFld (cs : List Str) (f : Str) (go g : GQ) : SQF := sqE g fun ρ p M => sqE go (fun ρ q M1 => match q with
  | (true, .loc k) => (match M1[k]? with
    | some (b, .obj c fs) => if (cs.contains c && decide (fs.length < 1000)) = true then .nx ρ (M1.set k (b || p.1, .obj c (putD f p.2 fs))) else .st
    | _ => .st)
  | _ => .st) ρ M
section
variable {X : Cx} {B : QB} {W : WX} {pos : Pos} {e o value : Expr} {es : List Expr} {g go : GQ} {t : GQA} {k j : Nat} {x : Str} {p : Pos} {G : GF}
theorem qs_fld {f : Str} {pos' : Pos} (cs : List Str) (hc : ∀ c ∈ cs, Cls X.K (He.ga X.K c) ∧ NoAttr X.K (He.ga X.K c) f) (ho : DQ X B W o go) (hv : DQ X B W value g) (hs : swapsWith value (some (.Attribute o f pos')) pos.line X.env = pure false := by rfl) :
    DQS X B W (.Assign [.Attribute o f pos'] value pos) (sqFld cs f go g) := by
  refine ps_imp (ps_fld ho hv hs) fun E σ H ⟨ρ, M, F, A, r, h⟩ => ?_
  refine semQS (k := fun p M1 => sqE go (fun ρ q M1 => match q with
    | (true, .loc k) => (match M1[k]? with
      | some (b, .obj c fs) => if (cs.contains c && decide (fs.length < 1000)) = true then .nx ρ (M1.set k (b || p.1, .obj c (putD f p.2 fs))) else .st
      | _ => .st)
    | _ => .st) ρ M1) r h fun p M1 v F1 H1 A1 i1 r1 _ h1 => ?_
  refine semQS (k := fun q M1 => match q with
    | (true, .loc k) => (match M1[k]? with
      | some (b, .obj c fs) => if (cs.contains c && decide (fs.length < 1000)) = true then .nx ρ (M1.set k (b || p.1, .obj c (putD f p.2 fs))) else .st
      | _ => .st)
    | _ => .st) r1 h1 fun q M2 v2 F2 H2 A2 i2 r2 gr h2 => ?_
  split at h2
  · rename_i k
    split at h2
    · rename_i b c fs e2
      by_cases hz : (cs.contains c && decide (fs.length < 1000)) = true
      · rw [if_pos hz] at h2
        rw [Bool.and_eq_true, decide_eq_true_eq] at hz
        obtain ⟨a, o', y1, y2, y3⟩ := r2.cl.at_ k _ e2
        rw [loc_at (v := .non) y1] at i2
        cases i2
        obtain ⟨dx, xs, rfl, ik⟩ := isF_at (xs := []) (a := a) y3
        obtain ⟨cl, na⟩ := hc c (by simpa using hz.1)
        have hl : xs.length < 1000 := by
          have := ik.1
          rw [List.length_map] at this
          omega
        have iv := gr.is i1
        have pu : IsK X.K F2 (putF f v xs) (((putD f p.2 fs)).map fun q => (q.1, P.at A2 (b || p.1, q.2))) := by
          rw [putD_map (gg := fun d => P.at A2 (b || p.1, d))]
          refine isK_putF ?_ (lvl_up ik)
          have := at_up iv b
          rw [Bool.or_comm] at this
          exact this
        obtain ⟨e3, c3⟩ := ExtQ.put (q := (b || p.1, .obj c (putD f p.2 fs))) r2.cl y1 (isC_obj (dx := dx) pu)
        exact ⟨a, _, dx, xs, rfl, y2, cl, na, hl, h2 σ F2 _ A2 (r2.to e3 c3) .refl⟩
      · rw [if_neg hz] at h2
        exact h2.elim
    · exact h2.elim
  · exact h2.elim
/-! ### o.append(e), o a number -/
def isL_at {K : PySem.W.Frag} {F : Hp} {A : List Addr} {b : Bool} {ds : List D} {o : HO} (h : IsC K F o (P.at A (b, .list ds))) : ∃ xs, o = .lst xs ∧ IsLP K F A xs (ds.map fun d => (b, d)) := by
  cases b with
  | false =>
    cases o <;> first | exact (show False from h).elim | skip
    rename_i xs
    exact ⟨xs, rfl, islp_clean (show IsL K F xs ds from h)⟩
  | true =>
    cases o <;> first | exact (show False from h).elim | skip
    rename_i xs
    refine ⟨xs, rfl, ?_⟩
    show IsL K F xs ((ds.map fun d => (true, d)).map (P.at A))
    rw [List.map_map, show (P.at A ∘ fun d => (true, d)) = D.sub A from rfl, ← subAll_map]
    exact h
theorem isC_list {K : PySem.W.Frag} {F : Hp} {A : List Addr} {b : Bool} {ds : List D} {xs : List V} (h : IsLP K F A xs (ds.map fun d => (b, d))) : IsC K F (.lst xs) (P.at A (b, .list ds)) := by
  have h' : IsL K F xs ((ds.map fun d => (b, d)).map (P.at A)) := h
  rw [List.map_map] at h'
  cases b with
  | false =>
    rw [show (P.at A ∘ fun d => (false, d)) = (id : D → D) from rfl, List.map_id] at h'
    exact h'
  | true =>
    rw [show (P.at A ∘ fun d => (true, d)) = D.sub A from rfl, ← subAll_map] at h'
    exact h'
theorem islp_up {K : PySem.W.Frag} {F : Hp} {A : List Addr} {b c : Bool} : ∀ {ds : List D} {xs : List V}, IsLP K F A xs (ds.map fun d => (b, d)) → IsLP K F A xs (ds.map fun d => (b || c, d))
  | [], xs, h => h
  | d :: ds, xs, h => by
    obtain ⟨x, xr, rfl, ix, t⟩ := (show IsL K F xs (P.at A (b, d) :: (ds.map fun d => (b, d)).map (P.at A)) from h).uncons
    exact IsL.cons (K := K) (H := F) (at_up (p := (b, d)) ix c) (islp_up (ds := ds) t)
def sqAppend (go g : GQ) : SQF := sqE go fun ρ q M => match q with
  | (true, .loc k) => (match M[k]? with
    | some (_, .list _) => sqE g (fun ρ p M1 => match M1[k]? with
      | some (b, .list ds) => if ds.length < sizeLine then .nx ρ (M1.set k (b || p.1, .list (ds ++ [p.2]))) else .st
      | _ => .st) ρ M
    | _ => .st)
  | _ => .st
end
end Pd

/-! Pq5: lists that change; a look at all -/
namespace Pd
open PySem PySem.Spec PyProof.Rows L2
section
variable {X : Cx} {B : QB} {W : WX} {pos apos cpos : Pos} {e o value : Expr} {es : List Expr} {g go : GQ} {t : GQA} {k j : Nat} {x : Str} {p : Pos} {G : GF}
theorem qs_append (ho : DQ X B W o go) (he : DQ X B W e g) (hsw : swapsWith (.Call (.Attribute o "append" apos) [e] [] cpos) none pos.line X.env = pure false := by rfl)
    (hbase : attributeBase o "append" X.env (eval o X.env) = eval o X.env := by rfl)
    (hfew : ((backTo cpos (starEach [e] X.env)).all (fun x => !x.1) && (backToKw cpos (keywordEach [] X.env)).all (fun x => x.1.isSome)
      && decide ([e].length + ([] : List Keyword).length + (if ([] : List Keyword).isEmpty then 0 else 1) < 30)) = true := by rfl)
    (hline : (apos.endLine == cpos.line) = true := by rfl) (hs : starEach [e] X.env = (false, eval e X.env) :: starEach [] X.env := by rfl) (hplain : (backTo cpos (starEach [] X.env)).any (·.1) = false := by rfl) :
    DQS X B W (.Expr (.Call (.Attribute o "append" apos) [e] [] cpos) pos) (sqAppend go g) := by
  refine ps_imp (ps_expr (pe_bm PySem.F.plainAttrs_list PySem.F.slot_list_append PySem.F.type_list_append mt_append ho (pa_cons he pa_nil hs) hbase hfew hline hs hplain) hsw) fun E σ H ⟨ρ, M, F, A, r, h⟩ => ?_
  refine semQS (k := fun q M => match q with
    | (true, .loc k) => (match M[k]? with
      | some (_, .list _) => sqE g (fun ρ p M1 => match M1[k]? with
        | some (b, .list ds) => if ds.length < sizeLine then .nx ρ (M1.set k (b || p.1, .list (ds ++ [p.2]))) else .st
        | _ => .st) ρ M
      | _ => .st)
    | _ => .st) r h fun q M1 v F1 H1 A1 i1 r1 _ h1 => ?_
  split at h1
  · rename_i k
    have isLoc : ∀ {v : V} {F : Hp} {A : List Addr}, Is X.K F v (P.at A (true, .loc k)) → ∃ a, v = .ref a ∧ A[k]? = some a := fun {v F A} i => by
      have i' : Is X.K F v (match A[k]? with | some a => .adr a | none => .loc k) := i
      cases z : A[k]? with
      | none => rw [z] at i'; cases i'
      | some a =>
        rw [z] at i'
        cases i'
        exact ⟨a, rfl, rfl⟩
    obtain ⟨a, rfl, ha⟩ := isLoc i1
    split at h1
    · rename_i b ds hk
      obtain ⟨a', o1, y1, y2, y3⟩ := r1.cl.at_ k _ hk
      rw [ha] at y1
      cases y1
      obtain ⟨xs, rfl, _⟩ := isL_at y3
      refine ⟨.inl ⟨rfl, xs, .of y2⟩, ?_⟩
      refine semQS (k := fun p M1 => match M1[k]? with
        | some (b, .list ds) => if ds.length < sizeLine then .nx ρ (M1.set k (b || p.1, .list (ds ++ [p.2]))) else .st
        | _ => .st) r1 h1 fun p M2 v2 F2 H2 A2 i2 r2 gr h2 => ?_
      split at h2
      · rename_i b2 ds2 e2
        by_cases hz : ds2.length < sizeLine
        · rw [if_pos hz] at h2
          obtain ⟨a', o1, w1, w2, w3⟩ := r2.cl.at_ k _ e2
          have ha2 : A2[k]? = some a := by
            obtain ⟨_, t, rfl⟩ := gr
            rw [List.getElem?_append_left (List.getElem?_eq_some_iff.mp ha).1]
            exact ha
          rw [ha2] at w1
          cases w1
          obtain ⟨xs2, rfl, l2⟩ := isL_at w3
          have pu : IsLP X.K F2 A2 (xs2 ++ [v2]) ((ds2 ++ [p.2]).map fun d => (b2 || p.1, d)) := by
            rw [List.map_append]
            show IsL X.K F2 (xs2 ++ [v2]) ((ds2.map (fun d => (b2 || p.1, d)) ++ [(b2 || p.1, p.2)]).map (P.at A2))
            rw [List.map_append]
            refine IsL.append (islp_up l2) (IsL.cons ?_ .nil)
            have := at_up i2 b2
            rw [Bool.or_comm] at this
            exact this
          obtain ⟨e3, c3⟩ := ExtQ.put (q := (b2 || p.1, .list (ds2 ++ [p.2]))) r2.cl ha2 (isC_list pu)
          exact ⟨a, xs2, v2, rfl, rfl, w2, by rw [l2.1]; simpa using hz, h2 σ F2 _ A2 (r2.to e3 c3) .refl⟩
        · rw [if_neg hz] at h2
          exact h2.elim
      · exact h2.elim
    · exact h1.elim
  · exact h1.elim
end
/-! ### a look at all, as if it were shared -/
/-- which kinds of objects have numbers -/
structure Tg where
  l : Bool
  k : Bool
  t : Bool
  o : Bool
def isLst : D → Bool
  | .list _ => true
  | _ => false
def isDct : D → Bool
  | .dict _ => true
  | _ => false
def isDcT : D → Bool
  | .dictT _ => true
  | _ => false
def isObj : D → Bool
  | .obj _ _ => true
  | _ => false
def tagsM (M : Mem) : Tg := ⟨M.any fun p => isLst p.2, M.any fun p => isDct p.2, M.any fun p => isDcT p.2, M.any fun p => isObj p.2⟩
mutual
/-- nothing of these kinds is in it -/
def D.off (g : Tg) : D → Bool
  | .non => true
  | .bl _ => true
  | .int _ => true
  | .str _ => true
  | .list xs => !g.l && D.offAll g xs
  | .tup xs => D.offAll g xs
  | .dict xs => !g.k && D.offK g xs
  | .dictT xs => !g.t && D.offT g xs
  | .obj _ xs => !g.o && D.offF g xs
  | .loc _ => false
  | .adr _ => false
def D.offAll (g : Tg) : List D → Bool
  | [] => true
  | d :: ds => D.off g d && D.offAll g ds
def D.offK (g : Tg) : List (Key × D) → Bool
  | [] => true
  | (_, d) :: ds => D.off g d && D.offK g ds
def D.offT (g : Tg) : List (List Key × D) → Bool
  | [] => true
  | (_, d) :: ds => D.off g d && D.offT g ds
def D.offF (g : Tg) : List (Str × D) → Bool
  | [] => true
  | (_, d) :: ds => D.off g d && D.offF g ds
end
def unA (F : Hp) (A : List Addr) : Hp := open Classical in fun a => if a ∈ A then none else F a
theorem unA_at {F : Hp} {A : List Addr} {a : Addr} {o : HO} (h : F a = some o) (n : a ∉ A) : unA F A a = some o := by
  unfold unA
  rw [if_neg n]
  exact h
/-- what stands at the numbers is of these kinds -/
def OffA (g : Tg) (A : List Addr) (H : Hp) : Prop := ∀ a ∈ A, ∃ o, H a = some o ∧ ((∃ xs, o = .lst xs ∧ g.l = true) ∨ (∃ xs, o = .dK xs ∧ g.k = true) ∨ (∃ xs, o = .dT xs ∧ g.t = true) ∨ ∃ C dx xs, o = .ins C dx xs ∧ g.o = true)
section
variable {K : PySem.W.Frag} {F H : Hp} {A : List Addr} {g : Tg}
theorem OffA.not (h : OffA g A H) (s : Same F H) {a : Addr} {o : HO} (e : F a = some o) (l : ∀ xs, o = .lst xs → g.l = false) (k : ∀ xs, o = .dK xs → g.k = false) (t : ∀ xs, o = .dT xs → g.t = false) (i : ∀ C dx xs, o = .ins C dx xs → g.o = false) : a ∉ A := fun m => by
  obtain ⟨o', e', q⟩ := h a m
  rw [s a o e] at e'
  cases e'
  rcases q with ⟨xs, z, w⟩ | ⟨xs, z, w⟩ | ⟨xs, z, w⟩ | ⟨C, dx, xs, z, w⟩
  · rw [l xs z] at w; cases w
  · rw [k xs z] at w; cases w
  · rw [t xs z] at w; cases w
  · rw [i C dx xs z] at w; cases w
mutual
theorem is_off (h : OffA g A H) (s : Same F H) : ∀ (d : D) (v : V), Is K F v d → d.off g = true → Is K (unA F A) v d
  | .non, v, i, q => by cases i; exact .non
  | .bl _, v, i, q => by cases i; exact .bl _
  | .int _, v, i, q => by cases i; exact .int _
  | .str _, v, i, q => by cases i; exact .str _
  | .adr _, v, i, q => by cases q
  | .loc _, v, i, q => by cases q
  | .list xs, v, i, q => by
    obtain ⟨a, ys, rfl, hs, l⟩ := i.list_inv
    have q' : (!g.l && D.offAll g xs) = true := q
    rw [Bool.and_eq_true, Bool.not_eq_true'] at q'
    refine is_list ?_ (isL_off h s xs ys l q'.2)
    rcases hs with (e | ⟨o, e⟩) | e
    · exact .inl (.inl (unA_at e (h.not s e (fun _ _ => q'.1) (fun _ z => by cases z) (fun _ z => by cases z) (fun _ _ _ z => by cases z))))
    · exact .inl (.inr ⟨o, unA_at e (h.not s e (fun _ z => by cases z) (fun _ z => by cases z) (fun _ z => by cases z) (fun _ _ _ z => by cases z))⟩)
    · exact .inr e
  | .tup xs, v, i, q => by
    obtain ⟨a, ys, rfl, hs, l⟩ := i.tup_inv
    refine is_tup ?_ (isL_off h s xs ys l q)
    rcases hs with (e | ⟨o, e⟩) | e
    · exact .inl (.inl (unA_at e (h.not s e (fun _ z => by cases z) (fun _ z => by cases z) (fun _ z => by cases z) (fun _ _ _ z => by cases z))))
    · exact .inl (.inr ⟨o, unA_at e (h.not s e (fun _ z => by cases z) (fun _ z => by cases z) (fun _ z => by cases z) (fun _ _ _ z => by cases z))⟩)
    · exact .inr e
  | .dict xs, v, i, q => by
    obtain ⟨a, ys, rfl, hs, l⟩ := i.dict_inv
    have q' : (!g.k && D.offK g xs) = true := q
    rw [Bool.and_eq_true, Bool.not_eq_true'] at q'
    have l2 := isK_off h s xs ys l q'.2
    refine .dict ?_ l2.1 l2.2.1 l2.2.2
    rcases hs with e | ⟨o, e⟩
    · exact .inl (unA_at e (h.not s e (fun _ z => by cases z) (fun _ _ => q'.1) (fun _ z => by cases z) (fun _ _ _ z => by cases z)))
    · exact .inr ⟨o, unA_at e (h.not s e (fun _ z => by cases z) (fun _ z => by cases z) (fun _ z => by cases z) (fun _ _ _ z => by cases z))⟩
  | .dictT xs, v, i, q => by
    have q' : (!g.t && D.offT g xs) = true := q
    rw [Bool.and_eq_true, Bool.not_eq_true'] at q'
    cases i with
    | dictT hs l1 l2 l3 =>
      have l2 := isT_off h s xs _ ⟨l1, l2, l3⟩ q'.2
      exact .dictT (unA_at hs (h.not s hs (fun _ z => by cases z) (fun _ z => by cases z) (fun _ _ => q'.1) (fun _ _ _ z => by cases z))) l2.1 l2.2.1 l2.2.2
  | .obj c xs, v, i, q => by
    obtain ⟨a, dx, ys, rfl, hs, l⟩ := i.obj_inv
    have q' : (!g.o && D.offF g xs) = true := q
    rw [Bool.and_eq_true, Bool.not_eq_true'] at q'
    have l2 := isF_off h s xs ys l q'.2
    exact .obj (unA_at hs (h.not s hs (fun _ z => by cases z) (fun _ z => by cases z) (fun _ z => by cases z) (fun _ _ _ _ => q'.1))) l2.1 l2.2.1 l2.2.2
theorem isL_off (h : OffA g A H) (s : Same F H) : ∀ (ds : List D) (vs : List V), IsL K F vs ds → D.offAll g ds = true → IsL K (unA F A) vs ds
  | [], vs, l, q => by rw [l.unnil]; exact .nil
  | d :: ds, vs, l, q => by
    obtain ⟨x, xr, rfl, i, t⟩ := l.uncons
    have q' : (D.off g d && D.offAll g ds) = true := q
    rw [Bool.and_eq_true] at q'
    exact .cons (is_off h s d x i q'.1) (isL_off h s ds xr t q'.2)
theorem isK_off (h : OffA g A H) (s : Same F H) : ∀ (ds : List (Key × D)) (vs : List (Key × V)), IsK K F vs ds → D.offK g ds = true → IsK K (unA F A) vs ds
  | [], vs, l, q => by rw [l.unnil]; exact .nil
  | (k, d) :: ds, vs, l, q => by
    obtain ⟨x, xr, rfl, i, t⟩ := l.uncons
    have q' : (D.off g d && D.offK g ds) = true := q
    rw [Bool.and_eq_true] at q'
    exact .cons (is_off h s d x i q'.1) (isK_off h s ds xr t q'.2)
theorem isT_off (h : OffA g A H) (s : Same F H) : ∀ (ds : List (List Key × D)) (vs : List (List Key × V)), IsK K F vs ds → D.offT g ds = true → IsK K (unA F A) vs ds
  | [], vs, l, q => by rw [l.unnil]; exact .nil
  | (k, d) :: ds, vs, l, q => by
    obtain ⟨x, xr, rfl, i, t⟩ := l.uncons
    have q' : (D.off g d && D.offT g ds) = true := q
    rw [Bool.and_eq_true] at q'
    exact .cons (is_off h s d x i q'.1) (isT_off h s ds xr t q'.2)
theorem isF_off (h : OffA g A H) (s : Same F H) : ∀ (ds : List (Str × D)) (vs : List (Str × V)), IsK K F vs ds → D.offF g ds = true → IsK K (unA F A) vs ds
  | [], vs, l, q => by rw [l.unnil]; exact .nil
  | (k, d) :: ds, vs, l, q => by
    obtain ⟨x, xr, rfl, i, t⟩ := l.uncons
    have q' : (D.off g d && D.offF g ds) = true := q
    rw [Bool.and_eq_true] at q'
    exact .cons (is_off h s d x i q'.1) (isF_off h s ds xr t q'.2)
end
theorem offA_of {M : Mem} (c : Cells K F H A M) : OffA (tagsM M) A H := fun a m => by
  obtain ⟨k, hk⟩ := List.mem_iff_getElem?.mp m
  obtain ⟨p, hp⟩ : ∃ p, M[k]? = some p := by
    have : k < M.length := by rw [← c.len]; exact (List.getElem?_eq_some_iff.mp hk).1
    exact ⟨M[k], by simp [this]⟩
  obtain ⟨a', o, e1, e2, e3⟩ := c.at_ k p hp
  rw [hk] at e1
  cases e1
  refine ⟨o, e2, ?_⟩
  have mp := List.mem_of_getElem? hp
  obtain ⟨b, d⟩ := p
  have shape : ∀ d' : D, IsC K F o d' → (isLst d' = true → isLst d = true) → (isDct d' = true → isDct d = true) → (isDcT d' = true → isDcT d = true) → (isObj d' = true → isObj d = true) →
      ((∃ xs, o = .lst xs ∧ (tagsM M).l = true) ∨ (∃ xs, o = .dK xs ∧ (tagsM M).k = true) ∨ (∃ xs, o = .dT xs ∧ (tagsM M).t = true) ∨ ∃ C dx xs, o = .ins C dx xs ∧ (tagsM M).o = true) := fun d' i s1 s2 s3 s4 => by
    cases o <;> cases d' <;> first
      | exact i.elim
      | exact .inl ⟨_, rfl, List.any_eq_true.mpr ⟨_, mp, s1 rfl⟩⟩
      | exact .inr (.inl ⟨_, rfl, List.any_eq_true.mpr ⟨_, mp, s2 rfl⟩⟩)
      | exact .inr (.inr (.inl ⟨_, rfl, List.any_eq_true.mpr ⟨_, mp, s3 rfl⟩⟩))
      | exact .inr (.inr (.inr ⟨_, _, _, rfl, List.any_eq_true.mpr ⟨_, mp, s4 rfl⟩⟩))
  cases b with
  | false => exact shape d e3 id id id id
  | true =>
    cases d with
    | list xs => exact shape _ (show IsC K F o (.list (D.subAll A xs)) from e3) id id id id
    | dict xs => exact shape _ (show IsC K F o (.dict (D.subK A xs)) from e3) id id id id
    | dictT xs => exact shape _ (show IsC K F o (.dictT (D.subT A xs)) from e3) id id id id
    | obj c xs => exact shape _ (show IsC K F o (.obj c (D.subF A xs)) from e3) id id id id
    | loc k2 =>
      have e4 : IsC K F o (match A[k2]? with | some a => .adr a | none => .loc k2) := e3
      split at e4 <;> cases o <;> exact e4.elim
    | _ => cases o <;> exact (show False from e3).elim
/-- back from a look -/
theorem snap_back {M : Mem} {F' H' : Hp} (c : Cells K F H A M) (x : Ext (frzF F H A) H F' H') : ExtQ F H A (unA F' A) H' A ∧ Cells K (unA F' A) H' A M ∧
    (∀ v d, Is K F' v d → d.off (tagsM M) = true → Is K (unA F' A) v d) ∧ ∀ {x : Ex} {cls : Value} {od : Option Addr}, IsX K F' x cls od → D.offF (tagsM M) x.fs = true → IsX K (unA F' A) x cls od := by
  obtain ⟨s1, s2⟩ := frz_same c
  have nA : ∀ {b u}, F b = some u → b ∉ A := fun {b u} e m => by rw [c.dj b m] at e; cases e
  have sF : Same F (unA F' A) := fun b u e => unA_at (x.ff b u (s1 b u e)) (nA e)
  have sH : Same (unA F' A) H' := fun b u e => by
    unfold unA at e
    by_cases m : b ∈ A
    · rw [if_pos m] at e; cases e
    · rw [if_neg m] at e; exact x.fh b u e
  have oA : OffA (tagsM M) A H' := fun a m => by
    obtain ⟨o, e, q⟩ := offA_of c a m
    exact ⟨o, x.hh a o e, q⟩
  refine ⟨⟨sF, ⟨[], by simp⟩, fun a o h _ => x.hh a o h, fun p hp fp np => ⟨?_, np⟩⟩, ⟨sH, c.len, c.nd, fun a m => by unfold unA; rw [if_pos m], fun k p hp => ?_⟩, fun v d i q => is_off oA x.fh d v i q, fun {x1 cls od} i q => ⟨i.1, fun n => ?_, i.2.2⟩⟩
  · unfold unA
    rw [if_neg np]
    refine x.nw p hp ?_
    unfold frzF
    rw [if_neg np]
    exact fp
  · obtain ⟨a, o, e1, e2, e3⟩ := c.at_ k p hp
    refine ⟨a, o, e1, x.hh a o e2, ?_⟩
    have := P.monoC (t := []) e3 sF
    rwa [List.append_nil] at this
  · obtain ⟨d, vs, e, h1, h2⟩ := i.2.1 n
    exact ⟨d, vs, e, unA_at h1 (oA.not x.fh h1 (fun _ z => by cases z) (fun _ z => by cases z) (fun _ z => by cases z) (fun _ _ _ z => by cases z)), isF_off oA x.fh _ _ h2 q⟩
end
def snR (M : Mem) (ρ : RhoQ) : Rho := ρ.map fun
  | some p => p.full M
  | none => none
theorem RepQ.snap {K : PySem.W.Frag} {B : QB} {ρ : RhoQ} {M : Mem} {σ : L2.St} {F H : Hp} {A : List Addr} (r : RepQ K B ρ M σ F H A) : Rep K ⟨frzF F H A, []⟩ H [] (snR M ρ) σ (frzF F H A) H := by
  refine ⟨by unfold snR; rw [List.length_map]; exact r.len, (frz_same r.cl).2, .refl _, .refl _, fun p h f => f, fun i d a _ => ?_, fun i d _ b => by simp at b, fun i j p d e _ a => by simp at a, fun b hb => (nomatch hb)⟩
  unfold snR at a
  rw [List.getElem?_map] at a
  cases e : ρ[i]? with
  | none => rw [e] at a; cases a
  | some q =>
    rw [e] at a
    cases q with
    | none => cases a
    | some p =>
      obtain ⟨v, e1, i1⟩ := r.val i p e
      exact ⟨v, e1, full_is r.cl i1 (Option.some.inj a)⟩
def upS (M : Mem) (r : R D) : RQ P := match r with
  | .ok d => if d.off (tagsM M) = true then .ok (false, d) M else .st
  | .ex x => if D.offF (tagsM M) x.fs = true then .ex x M else .st
  | .st => .st
def qSn (g : Rho → R D) : GQ := fun ρ M => upS M (g (snR M ρ))
section
variable {X : Cx} {B : QB} {W : WX} {pos : Pos} {e : Expr} {g : Rho → R D}
theorem q_snap (h : ∀ Fb Hb : Hp, DE X ⟨Fb, []⟩ Hb [] W e g) : DQ X B W e (qSn g) := by
  refine pe_imp (pe_some h) fun σ H Q ⟨ρ, M, F, A, r, q⟩ => ⟨frzF F H A, H, snR M ρ, frzF F H A, r.snap, ?_⟩
  unfold qSn upS at q
  cases z : g (snR M ρ) with
  | ok d =>
    rw [z] at q
    have q' : afterQ X.K W σ F H A (if d.off (tagsM M) = true then .ok (false, d) M else .st) Q := q
    by_cases hz : d.off (tagsM M) = true
    · rw [if_pos hz] at q'
      intro v F' H' x i
      obtain ⟨a, b, c, _⟩ := snap_back r.cl x
      exact q' v _ H' A a b (c v d i hz)
    · rw [if_neg hz] at q'
      exact q'.elim
  | ex x =>
    rw [z] at q
    have q' : afterQ X.K W σ F H A (if D.offF (tagsM M) x.fs = true then .ex x M else .st) Q := q
    by_cases hz : D.offF (tagsM M) x.fs = true
    · rw [if_pos hz] at q'
      intro cls od F' H' y i
      obtain ⟨a, b, _, c⟩ := snap_back r.cl y
      exact q' cls od _ H' A a b (c i hz)
    · rw [if_neg hz] at q'
      exact q'.elim
  | st =>
    rw [z] at q
    exact q
def qSnT (g : Rho → R Bool) : RhoQ → Mem → RQ Bool := fun ρ M => match g (snR M ρ) with
  | .ok b => .ok b M
  | .ex x => if D.offF (tagsM M) x.fs = true then .ex x M else .st
  | .st => .st
theorem qt_snap {p : Rho → R Bool} (h : ∀ Fb Hb : Hp, DT X ⟨Fb, []⟩ Hb [] W e p) : DQT X B W e (qSnT p) := by
  refine pt_imp (pt_some h) fun σ H Q ⟨ρ, M, F, A, r, q⟩ => ⟨frzF F H A, H, snR M ρ, frzF F H A, r.snap, ?_⟩
  unfold qSnT at q
  cases z : p (snR M ρ) with
  | ok d =>
    rw [z] at q
    intro F' H' x
    obtain ⟨a, b, _, _⟩ := snap_back r.cl x
    exact q _ H' A a b
  | ex x =>
    rw [z] at q
    by_cases hz : D.offF (tagsM M) x.fs = true
    · simp only [hz, if_true] at q
      intro cls od F' H' y i
      obtain ⟨a, b, _, c⟩ := snap_back r.cl y
      exact q cls od _ H' A a b (c i hz)
    · simp only [hz] at q
      exact q.elim
  | st =>
    rw [z] at q
    exact q
end
/-! ### a def that only looks -/
def fullL (M : Mem) : List P → Option (List D)
  | [] => some []
  | p :: ps => (p.full M).bind fun d => (fullL M ps).map (d :: ·)
def snG (G : List D → R D) : GF := fun ps M => match fullL M ps with
  | some ds => upS M (G ds)
  | none => .st
theorem fullL_is {K : PySem.W.Frag} {F H : Hp} {A : List Addr} {M : Mem} (c : Cells K F H A M) : ∀ {ps : List P} {vs : List V} {ds : List D}, IsLP K F A vs ps → fullL M ps = some ds → IsL K (frzF F H A) vs ds
  | [], vs, ds, l, q => by
    cases q
    rw [IsL.unnil (K := K) (H := F) l]
    exact .nil
  | p :: ps, vs, ds, l, q => by
    obtain ⟨x, xr, rfl, i, t⟩ := (show IsL K F vs (p.at A :: ps.map (P.at A)) from l).uncons
    obtain ⟨e, q1, q2⟩ := Option.bind_eq_some_iff.mp (show (p.full M).bind (fun d => (fullL M ps).map (d :: ·)) = some ds from q)
    obtain ⟨er, q3, rfl⟩ := Option.map_eq_some_iff.mp q2
    exact .cons (full_is c i q1) (fullL_is c t q3)
theorem spD_snap {K : PySem.W.Frag} {G : List D → R D} {vs : List V} {H : Hp} {Q : VK} {E : XK} (h : spQ K (snG G) vs H Q E) : spD K G vs H Q E := by
  obtain ⟨ps, M, F, A, l, c, h⟩ := h
  unfold snG at h
  cases z : fullL M ps with
  | none => rw [z] at h; exact h.elim
  | some ds =>
    rw [z] at h
    refine ⟨ds, frzF F H A, fullL_is c l z, (frz_same c).2, ?_⟩
    have h' : match upS M (G ds) with
      | .ok p M' => ∀ v F' H' A', ExtQ F H A F' H' A' → Cells K F' H' A' M' → Is K F' v (p.at A') → Q v H'
      | .ex x M' => ∀ cls od F' H' A', ExtQ F H A F' H' A' → Cells K F' H' A' M' → IsX K F' x cls od → E cls od H'
      | .st => False := h
    unfold upS at h'
    cases z2 : G ds with
    | ok d =>
      rw [z2] at h'
      by_cases hz : d.off (tagsM M) = true
      · simp only [hz, if_true] at h'
        intro v F' H' x i
        obtain ⟨a, b, c, _⟩ := snap_back c x
        exact h' v _ H' A a b (c v d i hz)
      · simp only [hz] at h'
        exact h'.elim
    | ex x =>
      rw [z2] at h'
      by_cases hz : D.offF (tagsM M) x.fs = true
      · simp only [hz, if_true] at h'
        intro cls od F' H' y i
        obtain ⟨a, b, _, c⟩ := snap_back c y
        exact h' cls od _ H' A a b (c i hz)
      · simp only [hz] at h'
        exact h'.elim
    | st =>
      rw [z2] at h'
      exact h'
theorem FnOk.snap {P' : Program} {w : World} {K : PySem.W.Frag} {mg : Str → Option Value} {base : Heap} {CX : CXT} {k : Nat} {f : Addr} {fd : FuncData} {ps : List Str} {G : List D → R D} (F : FnOk P' w K mg base CX k f fd ps (spD K G)) : FnOk P' w K mg base CX k f fd ps (spQ K (snG G)) :=
  F.imp fun vs H Q E h => spD_snap h
end Pd

/-! Pq6: defs and methods as the generator names them; C.m(self, ..); is of truths -/
namespace Pd
open PySem PySem.Spec PyProof.Rows L2
structure UnF (P' : Program) (w : World) (K : PySem.W.Frag) (mg : Str → Option Value) (base : Heap) (k : Nat) (f : Addr) (ps : List Str) (G : List D → R D) : Prop where
  ex : ∃ fd, FnOk P' w K mg base (L2.CX P' w) k f fd ps (spD K G) ∧ Binds K fd ps [] ∧ PySem.W.keepIn K (.ref f) = true
structure UnN (P' : Program) (w : World) (K : PySem.W.Frag) (mg : Str → Option Value) (base : Heap) (k : Nat) (f : Addr) (ps : List Str) (G : List D → R D) : Prop where
  ex : ∃ fd, FnOk P' w K mg base (L2.CX P' w) k f fd ps (spN K G) ∧ Binds K fd ps [] ∧ PySem.W.keepIn K (.ref f) = true
structure UnQ (P' : Program) (w : World) (K : PySem.W.Frag) (mg : Str → Option Value) (base : Heap) (k : Nat) (f : Addr) (ps : List Str) (G : GF) : Prop where
  ex : ∃ fd, FnOk P' w K mg base (L2.CX P' w) k f fd ps (spQ K G) ∧ Binds K fd ps [] ∧ PySem.W.keepIn K (.ref f) = true
/-- a def as the top left it -/
structure DefU (K : PySem.W.Frag) (x qual : Str) (st : Stmt) (f : Addr) (ps : List Str) : Prop where
  ex : ∃ fd, FunD K x qual (defArgs st) (defBody st) (defScope st) [] [] f fd ∧ Binds K fd ps []
section
variable {P' : Program} {w : World} {K : PySem.W.Frag} {mg : Str → Option Value} {base : Heap} {k j : Nat} {x qual c m : Str} {ps : List Str} {G : List D → R D} {GQ' : GF} {st : Stmt} {f : Addr}
theorem UnN.un (h : UnN P' w K mg base k f ps G) : UnF P' w K mg base k f ps G := by
  obtain ⟨fd, a, b⟩ := h.ex
  exact ⟨fd, FnOk.ofN a, b⟩
theorem UnQ.down (h : UnQ P' w K mg base k f ps GQ') : UnF P' w K mg base k f ps GQ'.down := by
  obtain ⟨fd, a, b⟩ := h.ex
  exact ⟨fd, FnOk.down a, b⟩
theorem UnF.snap (h : UnF P' w K mg base k f ps G) : UnQ P' w K mg base k f ps (snG G) := by
  obtain ⟨fd, a, b⟩ := h.ex
  exact ⟨fd, FnOk.snap a, b⟩
theorem un_d {N : List Str} {mm m' : List Bool} {s : Rho → S} (n : Nat) (Df : DefU K x qual st f ps) (Sc : FnScope N ps (defScope st)) (hn : N.length = n) (hm : mm.all (!·) = true)
    (hb : ∀ (cdv : Value) (A : Around) (outer : List Env) (sh : Shared) (H : Hp) (E : XK) (Fb : Hp), Room k (A.deeper (envOfC qual (defScope st) sh.heap.objs.size f cdv)) →
      DSs (cxOf (L2.CX P' w) P' w K mg base N qual (defScope st) f cdv A outer sh H E) ⟨Fb, []⟩ H mm m' [] (fun cls d _ H => E cls d H) (defBody st) s) : UnF P' w K mg base (k + 1) f ps (runS n ps.length s) := by
  obtain ⟨fd, F, b⟩ := Df.ex
  exact ⟨fd, fn_d n F Sc hn hm hb, b, F.kp⟩
theorem un_n {N : List Str} {mm m' : List Bool} {s : Rho → S} (n : Nat) (Df : DefU K x qual st f ps) (Sc : FnScope N ps (defScope st)) (hn : N.length = n) (hm : mm.all (!·) = true)
    (hb : ∀ (cdv : Value) (A : Around) (outer : List Env) (sh : Shared) (H : Hp) (E : XK) (Fb : Hp), Room k (A.deeper (envOfC qual (defScope st) sh.heap.objs.size f cdv)) →
      DSs (cxOf (L2.CX P' w) P' w K mg base N qual (defScope st) f cdv A outer sh H E) ⟨Fb, []⟩ H mm m' [] (fun cls d _ H => E cls d H) (defBody st) s) : UnN P' w K mg base (k + 1) f ps (runN n ps.length s) := by
  obtain ⟨fd, F, b⟩ := Df.ex
  exact ⟨fd, fn_n n F Sc hn hm hb, b, F.kp⟩
theorem un_q {N : List Str} {s : SQF} (n : Nat) (Df : DefU K x qual st f ps) (Sc : FnScope N ps (defScope st)) (hn : N.length = n)
    (hb : ∀ (cdv : Value) (A : Around) (outer : List Env) (sh : Shared) (H : Hp) (E : XK) (B : QB), Room k (A.deeper (envOfC qual (defScope st) sh.heap.objs.size f cdv)) →
      DQSs (cxOf (L2.CX P' w) P' w K mg base N qual (defScope st) f cdv A outer sh H E) B (fun cls d _ H => E cls d H) (defBody st) s) : UnQ P' w K mg base (k + 1) f ps (runQ n ps.length s) := by
  obtain ⟨fd, F, b⟩ := Df.ex
  exact ⟨fd, fn_q n F Sc hn hb, b, F.kp⟩
/-- as callers name it -/
theorem calF_of (U : UnF P' w K mg base k f ps G) (hm : mg x = some (.ref f)) : CalF P' w K mg base k x ps G := by
  obtain ⟨fd, a, b, c⟩ := U.ex
  exact ⟨f, fd, a, hm, c, b⟩
theorem calN_of (U : UnN P' w K mg base k f ps G) (hm : mg x = some (.ref f)) : CalN P' w K mg base k x ps G := by
  obtain ⟨fd, a, b, c⟩ := U.ex
  exact ⟨f, fd, a, hm, c, b⟩
theorem nomore (as : List D) : as = as ++ [] := (List.append_nil as).symm
theorem calM_of (U : UnF P' w K mg base k f ps G) (cl : Cls K (He.ga K c)) (hm : Meth K (He.ga K c) m f) : CalM P' w K mg base k c m G := by
  obtain ⟨fd, a, b, _⟩ := U.ex
  exact ⟨f, fd, ps, [], [], G, a, cl, hm, b, .nil, [], fun _ => .nil, fun as => congrArg G (nomore as)⟩
theorem calMN_of (U : UnN P' w K mg base k f ps G) (cl : Cls K (He.ga K c)) (hm : Meth K (He.ga K c) m f) : CalMN P' w K mg base k c m G := by
  obtain ⟨fd, a, b, _⟩ := U.ex
  exact ⟨f, fd, ps, [], [], G, a, cl, hm, b, .nil, [], fun _ => .nil, fun as => congrArg G (nomore as)⟩
theorem nomoreQ (as : List P) : as = as ++ ([] : List D).map (fun d => ((false, d) : P)) := (List.append_nil as).symm
theorem calQ_of (U : UnQ P' w K mg base k f ps GQ') (hm : mg x = some (.ref f)) : CalQ P' w K mg base k x GQ' := by
  obtain ⟨fd, a, b, c⟩ := U.ex
  exact ⟨f, fd, ps, [], [], GQ', a, hm, c, b, .nil, [], fun _ => .nil, fun as M => congrArg (GQ' · M) (nomoreQ as)⟩
theorem metQ_of (U : UnQ P' w K mg base k f ps GQ') (cl : Cls K (He.ga K c)) (hm : Meth K (He.ga K c) m f) : MetQ P' w K mg base k c m GQ' := by
  obtain ⟨fd, a, b, _⟩ := U.ex
  exact ⟨f, fd, ps, [], [], GQ', a, cl, hm, b, .nil, [], fun _ => .nil, fun as M => congrArg (GQ' · M) (nomoreQ as)⟩
theorem mkQ_of (U : UnQ P' w K mg base k f ps GQ') (hm : mg x = some (.ref (He.ga K x)) ∧ Mk K (He.ga K x) f) : MkQ P' w K mg base k x GQ' := by
  obtain ⟨fd, a, b, _⟩ := U.ex
  exact ⟨f, fd, ps, [], [], GQ', a, hm.1, hm.2, b, .nil, [], fun _ => .nil, fun as M => congrArg (GQ' · M) (nomoreQ as)⟩
end
/-! ### C.m(self, ..) -/
structure CFn (K : PySem.W.Frag) (mg : Str → Option Value) (x m : Str) (f : Addr) : Prop where
  gC : mg x = some (.ref (He.ga K x))
  sp : PySem.W.specialIn K (.ref (He.ga K x)) "__getattribute__" = some (some (.builtin "type.__getattribute__"))
  rd : PySem.W.readsIn K (He.ga K x) (.type "type") = true
  at_ : PySem.W.findCls K (.ref (He.ga K x)) (.type "type") m = some (.val (.ref f))
section
variable {X : Cx} {B : QB} {W : WX} {pos apos p : Pos} {e : Expr} {es : List Expr} {t : GQA} {k j : Nat} {x m : Str} {f : Addr} {ps : List Str} {GQ' : GF} {pl : Sem Bool}
theorem pe_cfn {CX : CXT} {fd : FuncData} {sp : Sp} {E : L2.St → XK} {tt : TA} (r : CFn X.K X.mg x m f) (F : FnOk X.prog X.w X.K X.mg X.base CX k f fd ps sp) (hr : Room k X.A) (hb : Binds X.K fd ps []) (hk : PySem.W.keepIn X.K (.ref f) = true) (hx : ∀ σ, PassesAt CX X σ (E σ)) (ha : PA X (e :: es) tt) (hg : Gl X x)
    (hdb : (x == ("__debug__" : Str)) = false) (hst : starEach (e :: es) X.env = (false, eval e X.env) :: starEach es X.env) (hpl : (backTo pos (starEach es X.env)).any (·.1) = false)
    (ht : eval (.Call (.Attribute (.Name x p) m apos) (e :: es) [] pos) X.env = (do
      let ov ← eval (.Name x p) X.env
      standAt apos.atName
      let (f, first) ← holding [ov] (getMethod ov m pl)
      callWith pos f first (backTo pos (starEach (e :: es) X.env)) (backToKw pos (keywordEach [] X.env)))) :
    PE X (.Call (.Attribute (.Name x p) m apos) (e :: es) [] pos) (fun σ H Q => tt σ H fun vs H1 => sp vs H1 Q (E σ)) := by
  refine ⟨fun pins s σ H Q I h => ?_⟩
  refine PySem.W.methodCall_KW (pl := pl) (ld_glob I hg r.gC ?_ hdb) ht
  refine PySem.W.method_cls I.kIn r.sp (PySem.W.cls_value I.kIn r.rd r.at_ rfl ?_)
  refine PySem.W.callWith_K (first := []) (h₀ := X.base) I.ok.mod.kin hk (thn (ha.run pos pins _ σ H _ (I.tok _) h) fun us s1 ⟨vs, H1, I1, r1, q⟩ => ⟨I1.kIn, ?_⟩) hst hpl
  exact run_fnW (dvs := []) F hr hb .nil (hx σ) I1 r1 (by rw [List.append_nil]; exact q)
theorem q_cfn (r : CFn X.K X.mg x m f) (U : UnQ X.prog X.w X.K X.mg X.base k f ps GQ') (hr : Room j X.A) (hj : k ≤ j) (tk : Takes X W) (ha : DQA X B W (e :: es) t) (hg : Gl X x)
    (hdb : (x == ("__debug__" : Str)) = false) (hst : starEach (e :: es) X.env = (false, eval e X.env) :: starEach es X.env) (hpl : (backTo pos (starEach es X.env)).any (·.1) = false)
    (ht : eval (.Call (.Attribute (.Name x p) m apos) (e :: es) [] pos) X.env = (do
      let ov ← eval (.Name x p) X.env
      standAt apos.atName
      let (f, first) ← holding [ov] (getMethod ov m pl)
      callWith pos f first (backTo pos (starEach (e :: es) X.env)) (backToKw pos (keywordEach [] X.env)))) : DQ X B W (.Call (.Attribute (.Name x p) m apos) (e :: es) [] pos) (qCall GQ' t) := by
  obtain ⟨fd, F, hb, hk⟩ := U.ex
  refine pe_imp (pe_cfn r F (hr.mono hj) hb hk (fun σ => passAt tk σ) ha hg hdb hst hpl ht) fun σ H Q ⟨ρ, M, F, A, r, h⟩ => ?_
  refine semQA_bind (k := GQ') r h fun ps M1 vs F1 H1 A1 _ i1 r1 h1 => ⟨ps, M1, F1, A1, i1, r1.cl, ?_⟩
  cases z : GQ' ps M1 with
  | ok p M2 => rw [z] at h1; exact h1
  | ex x M2 => rw [z] at h1; exact h1
  | st => rw [z] at h1; exact h1
end
/-! ### facts of one's own over K -/
theorem ex_at {bs : List Bool} (h : bs.all id = true) (i : Nat) {b : Bool} (e : bs[i]? = some b := by rfl) : b = true := List.all_eq_true.mp h b (List.mem_of_getElem? e)
theorem newB_ok {K : PySem.W.Frag} {mg : Str → Option Value} {x : Str} (h : newB K x = true) (g : mg x = some (.ref (He.ga K x))) : NewK K mg x := by
  obtain ⟨a, h⟩ := He.ba h
  obtain ⟨b, c⟩ := He.ba h
  exact ⟨a, He.eqO_ok b, c, g⟩
theorem inh_ok {K : PySem.W.Frag} {c d m : Str} (h : inhB K c d m = true) (i : Meth K (He.ga K c) m (He.ma K (He.ga K c) m)) : Meth K (He.ga K c) m (He.fAd K (d, some m)) := by
  have e : He.ma K (He.ga K c) m = He.ma K (He.ga K d) m := of_decide_eq_true h
  show Meth K (He.ga K c) m (He.ma K (He.ga K d) m)
  rw [← e]
  exact i
theorem inh_mk {K : PySem.W.Frag} {c d : Str} (h : inhB K c d "__init__" = true) (i : Mk K (He.ga K c) (He.ma K (He.ga K c) "__init__")) : Mk K (He.ga K c) (He.fAd K (d, some "__init__")) := by
  have e : He.ma K (He.ga K c) "__init__" = He.ma K (He.ga K d) "__init__" := of_decide_eq_true h
  show Mk K (He.ga K c) (He.ma K (He.ga K d) "__init__")
  rw [← e]
  exact i
theorem cfnB_ok {K : PySem.W.Frag} {mg : Str → Option Value} {x m y : Str} (h : cfnB K x m y = true) (g : mg x = some (.ref (He.ga K x))) : CFn K mg x m (He.fAd K (y, some m)) := by
  obtain ⟨a, h⟩ := He.ba h
  obtain ⟨b, c⟩ := He.ba h
  refine ⟨g, He.eqO_ok a, b, ?_⟩
  split at c
  · rename_i u e
    rw [e, of_decide_eq_true c]
  · cases c
/-! ### is True, is not False -/
def isBD : D → D → R D
  | .bl a, .bl b => .ok (.bl (decide (a = b)))
  | .non, .bl _ => .ok (.bl false)
  | _, _ => .st
end Pd

/-! Pd13: list.count of data, is True, defs of which nothing is known yet (the ground of a recursion) -/
namespace Pd
open PySem PySem.Spec PyProof.Rows L2
section
variable {X : Cx}
def rCountD (K : PySem.W.Frag) : V → List V → Hp → VK → Prop := fun x xs H Q => ∃ (a : Addr) (y : V) (d : PyData) (ds : List PyData), x = V.ref a ∧ xs = [y] ∧ Dp K H (V.ref a) (.list ds) ∧ Dp K H y d ∧
  SeqAt.shaped (.list ds) = true ∧ SeqAt.shaped d = true ∧ Q (.int ((ds.countP fun z => PyData.eqv z d : Nat) : Int)) H
theorem mt_countD (hu : X.A.units + 65 < cLine) : MtR X "list.count" (rCountD X.K) := by
  intro pins s σ H x xs v us Q I rx rxs h
  obtain ⟨a, y, d, ds, rfl, rfl, hl, hy, sl, sd, q⟩ := h
  cases rx
  cases rxs with
  | cons ry rt =>
    rename_i uy ut
    cases rt
    obtain ⟨bs, r1⟩ := Dp.reads I d y uy hy ry
    have hxs : PyData.canLayAll0 ds = true := SeqAt.canLay_of_shaped sl
    have hroom : X.A.units + 1 + min (PyData.depthAll ds) d.depth < cLine := room_in_shaped sd hu
    cases hl with
    | lst hs ha =>
      obtain ⟨its, rv, ⟨⟨cls, dd, data, sls⟩, n, ho, hc, hdn, hdt⟩, hlen⟩ := I.list hs
      simp only at hc hdt
      subst hc hdt
      obtain ⟨as, h4⟩ := Dp.readsAll I ds _ its ha rv
      have hmap : its.map (SeqAt.readOf s.heap) = ds := SeqAt.readsAll_map ds its as hxs h4
      refine call_meets PySem.F.slot_list_count ⟨_, ho, rfl⟩ PySem.F.entry_list_count (PySem.F.args_list_count_2 _ _)
        (SeqAt.list_countAt a its.toArray n dd sls uy (fun u => PyData.eqv (SeqAt.readOf s.heap u) d)) ⟨ho, SeqAt.items_eqAt (vs := its.toArray) (show ReadsAll s.heap its.toArray.toList ds as from h4) r1 hxs (SeqAt.canLay_of_shaped sd) hroom, ?_⟩
      refine ⟨.int ((ds.countP fun z => PyData.eqv z d : Nat) : Int), H, I.tok _, ⟨s.toks, ?_⟩, q⟩
      have e : its.toArray.toList.countP (fun u => PyData.eqv (SeqAt.readOf s.heap u) d) = ds.countP fun z => PyData.eqv z d := by
        rw [← hmap, List.countP_map]
        rfl
      show Value.int ((its.toArray.toList.countP (fun u => PyData.eqv (SeqAt.readOf s.heap u) d) : Nat) : Int) s.toks = Value.int ((ds.countP fun z => PyData.eqv z d : Nat) : Int) s.toks
      rw [e]
end
def countD : D → List D → R D
  | .list ds, [d] => if (D.sh d && D.sh (.list ds)) = true then .ok (.int ((ds.countP fun z => eqvD z d : Nat) : Int)) else .st
  | _, _ => .st
theorem cnt_py : ∀ (ds : List D) (d : D), (D.pyAll ds).countP (fun z => PyData.eqv z d.py) = ds.countP fun z => eqvD z d
  | [], _ => rfl
  | e :: ds, d => by
    have ih := cnt_py ds d
    show (e.py :: D.pyAll ds).countP (fun z => PyData.eqv z d.py) = _
    rw [List.countP_cons, List.countP_cons, ih]
    rfl
theorem o_count {K : PySem.W.Frag} : MetD K countD (rCountD K) := by
  intro W σ F H d v ds vs Q s i l q
  match d, ds, l, q with
  | .list es, [e], l, q =>
    obtain ⟨u, rfl, j⟩ := one_of l
    obtain ⟨p, xs, rfl, hp, t⟩ := i.list_inv
    have q' : after K W σ F H (if (D.sh e && D.sh (.list es)) = true then .ok (.int ((es.countP fun z => eqvD z e : Nat) : Int)) else .st) Q := q
    by_cases h2 : (D.sh e && D.sh (.list es)) = true
    · rw [if_pos h2] at q'
      rw [Bool.and_eq_true] at h2
      obtain ⟨a1, a2⟩ := dp_mono s j h2.1
      obtain ⟨b1, b2⟩ := dp_mono s (is_list hp t) h2.2
      refine ⟨p, u, e.py, D.pyAll es, rfl, rfl, b1, a1, b2, a2, ?_⟩
      rw [cnt_py]
      exact after.now q' s (.int _)
    · rw [if_neg h2] at q'
      exact q'.elim
  | .list es, [], l, q => exact q.elim
  | .list es, _ :: _ :: _, l, q => exact q.elim
  | .non, _, _, q => exact q.elim
  | .bl _, _, _, q => exact q.elim
  | .int _, _, _, q => exact q.elim
  | .str _, _, _, q => exact q.elim
  | .tup _, _, _, q => exact q.elim
  | .dict _, _, _, q => exact q.elim
  | .dictT _, _, _, q => exact q.elim
  | .obj _ _, _, _, q => exact q.elim
  | .loc _, _, _, q => exact q.elim
  | .adr _, _, _, q => exact q.elim
/-! ### is True, is not True -/
def isTD : D → D → R D
  | .bl a, .bl b => .ok (.bl (decide (a = b)))
  | _, _ => .st
def notTD : D → D → R D
  | .bl a, .bl b => .ok (.bl (!decide (a = b)))
  | _, _ => .st
theorem o_isT {K : PySem.W.Frag} : OpD K isTD rIsB := by
  intro W σ F H d e v u Q s i j q
  cases i <;> cases j <;> first
    | exact ⟨_, _, rfl, rfl, after.now q s (.bl _)⟩
    | exact q.elim
theorem o_notT {K : PySem.W.Frag} : OpD K notTD rNotB := by
  intro W σ F H d e v u Q s i j q
  cases i <;> cases j <;> first
    | exact ⟨_, _, rfl, rfl, after.now q s (.bl _)⟩
    | exact q.elim
/-! ### nothing known -/
def sSt : Rho → S := fun _ => .st
theorem dss_st {X : Cx} {F0 : Bs} {H0 : Hp} {m m' mL : List Bool} {W : WX} {st : List Stmt} : DSs X F0 H0 m m' mL W st sSt := ⟨fun pins s σ H E I ⟨ρ, F, r, h⟩ => h.elim⟩
def sqSt : SQF := fun _ _ => .st
theorem qss_st {X : Cx} {B : QB} {W : WX} {st : List Stmt} : DQSs X B W st sqSt := ⟨fun pins s σ H E I ⟨ρ, M, F, A, r, h⟩ => h.elim⟩
end Pd

/-! Pq7: over a memory: tuples, what stands in them -/
namespace Pd
open PySem PySem.Spec PyProof.Rows L2
section
variable {K : PySem.W.Frag} {F H : Hp} {A : List Addr} {M : Mem}
theorem islp_any {b : Bool} : ∀ {ps : List P} {vs : List V}, IsLP K F A vs ps → (∀ p ∈ ps, p.1 = true → b = true) → IsLP K F A vs ((ps.map (·.2)).map fun d => (b, d))
  | [], vs, h, _ => h
  | p :: ps, vs, h, hb => by
    obtain ⟨x, xr, rfl, ix, t⟩ := (show IsL K F vs (P.at A p :: ps.map (P.at A)) from h).uncons
    have e : (p.1 || b) = b := by
      cases q : p.1 with
      | false => rfl
      | true => rw [hb p List.mem_cons_self q]; rfl
    have ix' := at_up ix b
    rw [e] at ix'
    exact IsL.cons (K := K) (H := F) ix' (islp_any (ps := ps) t fun q hq => hb q (List.mem_cons_of_mem _ hq))
theorem is_tupP {a : Addr} {vs : List V} {b : Bool} {ds : List D} (hp : SqT K F a vs) (h : IsLP K F A vs (ds.map fun d => (b, d))) : Is K F (.ref a) (P.at A (b, .tup ds)) := by
  have h' : IsL K F vs ((ds.map fun d => (b, d)).map (P.at A)) := h
  rw [List.map_map] at h'
  cases b with
  | false =>
    rw [show (P.at A ∘ fun d => (false, d)) = (id : D → D) from rfl, List.map_id] at h'
    exact is_tup hp h'
  | true =>
    rw [show (P.at A ∘ fun d => (true, d)) = D.sub A from rfl, ← subAll_map] at h'
    exact is_tup hp h'
/-- a row of things: a tuple, a shared list, a list at a number -/
def seqP (M : Mem) : P → Option (Bool × List D)
  | (b, .tup ds) => some (b, ds)
  | (b, .list ds) => some (b, ds)
  | (true, .loc k) => match M[k]? with
    | some (b, .list ds) => some (b, ds)
    | _ => none
  | _ => none
theorem at_list {v : V} {b : Bool} {ds : List D} (h : Is K F v (P.at A (b, .list ds))) : ∃ a xs, v = .ref a ∧ SqL K F a xs ∧ IsLP K F A xs (ds.map fun d => (b, d)) := by
  cases b with
  | false =>
    obtain ⟨a, xs, e, hp, l⟩ := (show Is K F v (.list ds) from h).list_inv
    exact ⟨a, xs, e, hp, islp_clean l⟩
  | true =>
    obtain ⟨a, xs, e, hp, l⟩ := (show Is K F v (.list (D.subAll A ds)) from h).list_inv
    refine ⟨a, xs, e, hp, ?_⟩
    show IsL K F xs ((ds.map fun d => (true, d)).map (P.at A))
    rw [List.map_map, show (P.at A ∘ fun d => (true, d)) = D.sub A from rfl, ← subAll_map]
    exact l
theorem seqP_is {v : V} {p : P} {b : Bool} {ds : List D} (cl : Cells K F H A M) (i : Is K F v (p.at A)) (h : seqP M p = some (b, ds)) :
    ∃ a xs, v = .ref a ∧ (SqT K H a xs ∨ SqL K H a xs) ∧ IsLP K F A xs (ds.map fun d => (b, d)) := by
  unfold seqP at h
  split at h
  · cases h
    obtain ⟨a, xs, e, hp, l⟩ := at_tup i
    exact ⟨a, xs, e, .inl (sameT cl.fh hp), l⟩
  · cases h
    obtain ⟨a, xs, e, hp, l⟩ := at_list i
    exact ⟨a, xs, e, .inr (cl.fh.seq hp), l⟩
  · rename_i k
    split at h
    · rename_i b' ds' e
      cases h
      have i' : Is K F v (match A[k]? with | some a => .adr a | none => .loc k) := i
      obtain ⟨a, o, e1, e2, e3⟩ := cl.at_ k _ e
      rw [e1] at i'
      cases i'
      obtain ⟨xs, rfl, l⟩ := isL_at e3
      exact ⟨a, xs, rfl, .inr (.of e2), l⟩
    · cases h
  · cases h
end
section
variable {X : Cx} {B : QB} {W : WX} {pos : Pos} {e a b : Expr} {es : List Expr} {g go gk : GQ} {t : GQA}
def tupP (ps : List P) (M : Mem) : RQ P := if ps.length ≤ sizeLine then .ok (ps.any fun p => p.1, .tup (ps.map fun p => p.2)) M else .st
def qTup (t : GQA) : GQ := fun ρ M => (t ρ M).bind tupP
theorem q_tup {k} (ha : DQA X B W es t) : DQ X B W (.Tuple es k pos) (qTup t) := by
  refine pe_imp (pe_tup ha) fun σ H Q ⟨ρ, M, F, A, r, h⟩ => semQA_bind (k := tupP) r h fun ps M1 vs F1 H1 A1 x1 i1 r1 h1 => ?_
  unfold tupP at h1
  by_cases hl : ps.length ≤ sizeLine
  · rw [if_pos hl] at h1
    have il : IsL X.K F1 vs (ps.map (P.at A1)) := i1
    refine ⟨by rw [il.1, List.length_map]; exact hl, fun p hp => ?_⟩
    obtain ⟨e, c⟩ := ExtQ.pure r1.cl (Ext.laid (o := .tup vs) r1.cl.fh hp)
    refine h1 (.ref p) _ _ _ e c (is_tupP (.of upd_same) ?_)
    refine islp_any (b := ps.any (·.1)) (show IsL X.K _ vs (ps.map (P.at A1)) from il.mono e.ff) fun q hq hb => ?_
    exact List.any_eq_true.mpr ⟨q, hq, hb⟩
  · rw [if_neg hl] at h1
    exact h1.elim
/-- p[i] -/
def ixP (M : Mem) (p q : P) : RQ P := match q with
  | (_, .int i) => (match seqP M p with
    | some (b, ds) => match atI ds i with
      | some d => .ok (b, d) M
      | none => .st
    | none => .st)
  | _ => .st
def qIx (go gk : GQ) : GQ := fun ρ M => (go ρ M).bind fun p M1 => (gk ρ M1).bind fun q M2 => ixP M2 p q
theorem atP {K : PySem.W.Frag} {F : Hp} {A : List Addr} {xs : List V} {b : Bool} {ds : List D} (l : IsLP K F A xs (ds.map fun d => (b, d))) {i : Int} {d : D} (h : atI ds i = some d) : ∃ v, atI xs i = some v ∧ Is K F v (P.at A (b, d)) := by
  have l' : IsL K F xs ((ds.map fun d => (b, d)).map (P.at A)) := l
  rw [List.map_map] at l'
  refine atI_is l' ?_
  unfold atI at h ⊢
  rw [List.length_map]
  cases z : ixN ds.length i with
  | none => rw [z] at h; cases h
  | some j =>
    rw [z] at h
    have h2 : ds[j]? = some d := h
    show (ds.map (P.at A ∘ fun d => (b, d)))[j]? = some _
    rw [List.getElem?_map, h2]
    rfl
theorem q_ix (ha : DQ X B W a go) (hb : DQ X B W b gk) (hs : PlainIx b := by exact fun _ _ => rfl) : DQ X B W (.Subscript a b pos) (qIx go gk) := by
  refine pe_imp (pe_ix ix_seq ha hb hs) fun σ H Q ⟨ρ, M, F, A, r, h⟩ => ?_
  refine semQ_bind (k := fun p M1 => (gk ρ M1).bind fun q M2 => ixP M2 p q) r h fun p M1 v F1 H1 A1 x1 i1 r1 h1 => ?_
  refine semQ_bind (k := fun q M2 => ixP M2 p q) r1 h1 fun q M2 u F2 H2 A2 x2 i2 r2 h2 => ?_
  have i1' := x2.grow.is i1
  obtain ⟨c, d⟩ := q
  cases d with
  | int i =>
    have iu : Is X.K F2 u (.int i) := by cases c <;> exact i2
    cases iu
    have h3 : afterQ X.K W σ F2 H2 A2 (match seqP M2 p with
      | some (b, ds) => match atI ds i with
        | some d => .ok (b, d) M2
        | none => .st
      | none => .st) Q := h2
    cases z : seqP M2 p with
    | none => rw [z] at h3; exact h3.elim
    | some z2 =>
      obtain ⟨b, ds⟩ := z2
      rw [z] at h3
      obtain ⟨a, xs, rfl, hp, l⟩ := seqP_is r2.cl i1' z
      have h4 : afterQ X.K W σ F2 H2 A2 (match atI ds i with
        | some d => .ok (b, d) M2
        | none => .st) Q := h3
      cases y : atI ds i with
      | none => rw [y] at h4; exact h4.elim
      | some d =>
        rw [y] at h4
        obtain ⟨w, e1, e2⟩ := atP l y
        rcases hp with hp | hp
        · exact .inr (.inl ⟨a, xs, i, w, rfl, rfl, hp, e1, afterQ.now h4 r2.cl e2⟩)
        · exact .inl ⟨a, xs, i, w, rfl, rfl, hp, e1, afterQ.now h4 r2.cl e2⟩
  | _ => exact h2.elim
end
end Pd

namespace Pd
open PySem PySem.Spec PyProof.Rows L2
noncomputable section
def S_Chapter_word : Rho → S :=
  (sRet (gC (.str "chapter")))
def F_Chapter_word : List D → R D := runS 1 1 S_Chapter_word

def S_Para_word : Rho → S :=
  (sRet (gC (.str "para")))
def F_Para_word : List D → R D := runS 1 1 S_Para_word

def S_Table_word : Rho → S :=
  (sRet (gC (.str "table")))
def F_Table_word : List D → R D := runS 1 1 S_Table_word

def B_kind_of_word_0 : Rho → S :=
  (sIf (gB (g2 eqD (gMeth [("Chapter", F_Chapter_word), ("Para", F_Para_word), ("Table", F_Table_word)] "word" (gVar 1) aNil) (gVar 0)))
  (sRet (gVar 1))
  sNil)
def S_kind_of_word : Rho → S :=
  (sSeq (sFor (iSeq (gA lstD (aCons (gC (.obj "Chapter" [])) (aCons (gC (.obj "Para" [])) (aCons (gC (.obj "Table" [])) aNil))))) (τName 1) B_kind_of_word_0)
  (sRet (gC .non)))
def F_kind_of_word : List D → R D := runS 2 1 S_kind_of_word

def B__law_stream_0 : Rho → S :=
  (sSeq (sSet 4 (g2 modD (g2 addD (g2 addD (g2 mulD (gVar 4) (gC (.int 48271))) (g2 mulD (gC (.int 7919)) (gVar 5))) (gC (.int 1))) (gC (.int 2147483647))))
  (sIf (bAnd (gB (g2 eqD (g2 modD (gVar 0) (gC (.int 2))) (gC (.int 1)))) (bAnd (gB (g2 neD (gVar 3) (gC (.int 0)))) (gB (g2 neD (gVar 3) (g1 negD (gC (.int 1)))))))
  (sSeq (sAppend 2 (g2 modD (gVar 3) (gC (.int 268435456))))
  (sSet 3 (g2 fdivD (gVar 3) (gC (.int 268435456)))))
  (sAppend 2 (g2 fdivD (g2 modD (g2 addD (g2 mulD (g2 modD (g2 mulD (gVar 4) (gVar 4)) (gC (.int 2147483629))) (gC (.int 16807))) (gVar 5)) (gC (.int 2147483587))) (gC (.int 8))))))
def S__law_stream : Rho → S :=
  (sSeq (sSet 2 (gA lstD aNil))
  (sSeq (sSet 3 (g2 fdivD (gVar 0) (gC (.int 2))))
  (sSeq (sSet 4 (g2 addD (g2 modD (gVar 0) (gC (.int 2147483629))) (gC (.int 17))))
  (sSeq (sFor (iA rangeD1 (aCons (gVar 1) aNil)) (τName 5) B__law_stream_0)
  (sRetO 2)))))
def F__law_stream : List D → R D := runS 6 2 S__law_stream

def B__law_text_0 : Rho → S :=
  (sIf (gB (g2 eqD (g2 modD (g2 ixD (gVar 2) (gC (.int 2))) (gC (.int 2))) (gC (.int 0))))
  (sSet 4 (g2 addD (gVar 4) (g2 ixD (gC (.str "|/\\a ")) (g2 modD (gVar 5) (gC (.int 5))))))
  (sSet 4 (g2 addD (gVar 4) (g2 ixD (gVar 1) (g2 modD (gVar 5) (gC (.int 94)))))))
def S__law_text : Rho → S :=
  (sSeq (sSet 1 (g2 addD (gC (.str " !#$&'()*+,-./0123456789:;<=>?@ABCDEFGHIJKLMNOPQRSTUVWXYZ[\\]^_`abcdefghijklmnopqrstuvwxyz{|}~")) (gC (.str "\""))))
  (sSeq (sSet 2 (gA F__law_stream (aCons (gVar 0) (aCons (gC (.int 4)) aNil))))
  (sSeq (sSet 3 (g2 ixD (gA lstD (aCons (gC (.int 0)) (aCons (g2 modD (g2 ixD (gVar 2) (gC (.int 1))) (gC (.int 4))) (aCons (g2 modD (g2 ixD (gVar 2) (gC (.int 1))) (gC (.int 12))) (aCons (g2 modD (g2 ixD (gVar 2) (gC (.int 1))) (gC (.int 61))) aNil))))) (g2 modD (g2 ixD (gVar 2) (gC (.int 0))) (gC (.int 4)))))
  (sSeq (sSet 4 (gC (.str "")))
  (sSeq (sFor (iSeq (gA F__law_stream (aCons (g2 addD (gVar 0) (gC (.int 1))) (aCons (gVar 3) aNil)))) (τName 5) B__law_text_0)
  (sRet (gVar 4)))))))
def F__law_text : List D → R D := runS 6 1 S__law_text

def B__law_table_0 : Rho → S :=
  (sAppend 4 (gA tupleD (aCons (gLc (iA rangeD1 (aCons (gVar 3) aNil)) [6] (τName 6) bYes (gA F__law_text (aCons (g2 addD (g2 addD (g2 addD (gVar 0) (g2 mulD (gC (.int 101)) (gVar 5))) (g2 mulD (gC (.int 1009)) (gVar 6))) (gC (.int 7))) aNil))) aNil)))
def S__law_table : Rho → S :=
  (sSeq (sSet 1 (gA F__law_stream (aCons (gVar 0) (aCons (gC (.int 3)) aNil))))
  (sSeq (sSet 2 (g2 ixD (gA lstD (aCons (g2 addD (gC (.int 1)) (g2 modD (g2 fdivD (g2 ixD (gVar 1) (gC (.int 0))) (gC (.int 3))) (gC (.int 3)))) (aCons (g2 addD (gC (.int 1)) (g2 modD (g2 fdivD (g2 ixD (gVar 1) (gC (.int 0))) (gC (.int 3))) (gC (.int 6)))) (aCons (gC (.int 6)) aNil)))) (g2 modD (g2 ixD (gVar 1) (gC (.int 0))) (gC (.int 3)))))
  (sSeq (sSet 3 (g2 ixD (gA lstD (aCons (g2 addD (gC (.int 1)) (g2 modD (g2 fdivD (g2 ixD (gVar 1) (gC (.int 1))) (gC (.int 3))) (gC (.int 3)))) (aCons (g2 addD (gC (.int 1)) (g2 modD (g2 fdivD (g2 ixD (gVar 1) (gC (.int 1))) (gC (.int 3))) (gC (.int 6)))) (aCons (gC (.int 6)) aNil)))) (g2 modD (g2 ixD (gVar 1) (gC (.int 1))) (gC (.int 3)))))
  (sSeq (sSet 4 (gA lstD aNil))
  (sSeq (sFor (iA rangeD1 (aCons (gVar 2) aNil)) (τName 5) B__law_table_0)
  (sRet (gA tupleD (aCons (gVar 4) aNil))))))))
def F__law_table : List D → R D := runS 7 1 S__law_table

def S__law_content : Rho → S :=
  (sSeq (sIf (gB (g2 eqD (gVar 0) (gC (.str "table"))))
  (sRet (gA F__law_table (aCons (gVar 1) aNil)))
  sNil)
  (sRet (gA F__law_text (aCons (gVar 1) aNil))))
def F__law_content : List D → R D := runS 2 2 S__law_content

def B__law_cells_changed_0 : Rho → S :=
  (sSeq (sSet 7 (g2 ixD (gVar 2) (g2 addD (g2 addD (gC (.int 2)) (g2 mulD (gC (.int 6)) (gVar 4))) (gVar 6))))
  (sAppend 5 (g2 ixD (gA lstD (aCons (g2 ixD (g2 ixD (gVar 0) (gVar 4)) (gVar 6)) (aCons (g2 ixD (g2 ixD (gVar 0) (gVar 4)) (gVar 6)) (aCons (g2 addD (gC (.str "x")) (gA strD (aCons (g2 modD (g2 fdivD (gVar 7) (gC (.int 4))) (gC (.int 2))) aNil))) (aCons (g2 addD (gSl (g2 ixD (g2 ixD (gVar 0) (gVar 4)) (gVar 6)) pNone (pSome (gC (.int 59)))) (gC (.str "y"))) aNil))))) (g2 modD (gVar 7) (gC (.int 4))))))
def B__law_cells_changed_1 : Rho → S :=
  (sSeq (sSet 5 (gA lstD aNil))
  (sSeq (sFor (iA rangeD1 (aCons (gA lenD (aCons (g2 ixD (gVar 0) (gC (.int 0))) aNil)) aNil)) (τName 6) B__law_cells_changed_0)
  (sAppend 3 (gA tupleD (aCons (gVar 5) aNil)))))
def S__law_cells_changed : Rho → S :=
  (sSeq (sSet 2 (gA F__law_stream (aCons (gVar 1) (aCons (gC (.int 38)) aNil))))
  (sSeq (sSet 3 (gA lstD aNil))
  (sSeq (sFor (iA rangeD1 (aCons (gA lenD (aCons (gVar 0) aNil)) aNil)) (τName 4) B__law_cells_changed_1)
  (sRet (gA tupleD (aCons (gVar 3) aNil))))))
def F__law_cells_changed : List D → R D := runS 8 2 S__law_cells_changed

def S__law_made : Rho → S :=
  (sSeq (sSet 3 (g2 modD (gVar 2) (gC (.int 6))))
  (sSeq (sIf (gB (g2 eqD (gVar 3) (gC (.int 0))))
  (sRet (gVar 1))
  sNil)
  (sSeq (sIf (bOr (gB (g2 eqD (gVar 3) (gC (.int 1)))) (bAnd (gB (g2 neD (gVar 0) (gC (.str "table")))) (gB (g2 gtD (gVar 3) (gC (.int 2))))))
  (sRet (gA F__law_content (aCons (gVar 0) (aCons (g2 fdivD (gVar 2) (gC (.int 6))) aNil))))
  sNil)
  (sSeq (sIf (gB (g2 neD (gVar 0) (gC (.str "table"))))
  (sRet (g2 addD (gSl (gVar 1) pNone (pSome (gC (.int 59)))) (g2 ixD (gA lstD (aCons (gC (.str "x")) (aCons (gC (.str "y")) aNil))) (g2 modD (g2 fdivD (gVar 2) (gC (.int 6))) (gC (.int 2))))))
  sNil)
  (sSeq (sIf (bAnd (gB (g2 eqD (gVar 3) (gC (.int 2)))) (gB (g2 gtD (gA lenD (aCons (gVar 1) aNil)) (gC (.int 1)))))
  (sRet (gSl (gVar 1) (pSome (gC (.int 1))) pNone))
  sNil)
  (sSeq (sIf (bAnd (gB (g2 eqD (gVar 3) (gC (.int 3)))) (gB (g2 ltD (gA lenD (aCons (gVar 1) aNil)) (gC (.int 6)))))
  (sRet (g2 addD (gVar 1) (gA tupD (aCons (g2 ixD (gVar 1) (gC (.int 0))) aNil))))
  sNil)
  (sRet (gA F__law_cells_changed (aCons (gVar 1) (aCons (g2 fdivD (gVar 2) (gC (.int 6))) aNil))))))))))
def F__law_made : List D → R D := runS 4 3 S__law_made

def S__law_joined_st : Rho → S :=
  sSt
def F__law_joined_st : List D → R D := runS 12 4 S__law_joined_st

def B__law_joined_1_0 : Rho → S :=
  (sSeq (sAsg (gA F__law_joined_st (aCons (gC (.str "cell")) (aCons (g2 ixD (g2 ixD (gVar 1) (gVar 7)) (gVar 9)) (aCons (g2 ixD (g2 ixD (gVar 2) (gVar 7)) (gVar 9)) (aCons (g2 ixD (g2 ixD (gVar 3) (gVar 7)) (gVar 9)) aNil))))) (τTup 2 (τCons (τName 10) (τCons (τName 11) τNil))))
  (sSeq (sAppend 8 (gVar 10))
  (sIf (gB (g2 neD (gVar 11) (gA lstD aNil)))
  (sAppend 6 (g2 addD (g2 addD (g2 addD (gC (.str "cell ")) (gA strD (aCons (gVar 7) aNil))) (gC (.str " "))) (gA strD (aCons (gVar 9) aNil))))
  sNil)))
def B__law_joined_1_1 : Rho → S :=
  (sSeq (sSet 8 (gA lstD aNil))
  (sSeq (sFor (iA rangeD1 (aCons (gA lenD (aCons (g2 ixD (gVar 1) (gC (.int 0))) aNil)) aNil)) (τName 9) B__law_joined_1_0)
  (sAppend 5 (gA tupleD (aCons (gVar 8) aNil)))))
def S__law_joined_1 : Rho → S :=
  (sSeq (sIf (gB (g2 eqD (gVar 2) (gVar 3)))
  (sRet (gA tupD (aCons (gVar 2) (aCons (gA lstD aNil) aNil))))
  sNil)
  (sSeq (sIf (bOr (gB (g2 eqD (gVar 2) (gVar 1))) (gB (g2 eqD (gVar 3) (gVar 1))))
  (sRet (gA tupD (aCons (g2 ixD (gA lstD (aCons (gVar 2) (aCons (gVar 3) aNil))) (gA intD (aCons (g2 eqD (gVar 2) (gVar 1)) aNil))) (aCons (gA lstD aNil) aNil))))
  sNil)
  (sSeq (sSet 4 (gLc (iSeq (gA lstD (aCons (gVar 1) (aCons (gVar 2) (aCons (gVar 3) aNil))))) [5] (τName 5) (gB (g2 eqD (gVar 0) (gC (.str "table")))) (gA tupD (aCons (gA lenD (aCons (gVar 5) aNil)) (aCons (gA lenD (aCons (g2 ixD (gVar 5) (gC (.int 0))) aNil)) aNil)))))
  (sSeq (sIf (bOr (gB (g2 eqD (gVar 4) (gA lstD aNil))) (gB (g2 ltD (gMt "list" countD (gVar 4) (aCons (g2 ixD (gVar 4) (gC (.int 0))) aNil)) (gC (.int 3)))))
  (sRet (gA tupD (aCons (gVar 1) (aCons (gA lstD (aCons (gC (.str "content")) aNil)) aNil))))
  sNil)
  (sSeq (sSet 5 (gA lstD aNil))
  (sSeq (sSet 6 (gA lstD aNil))
  (sSeq (sFor (iA rangeD1 (aCons (gA lenD (aCons (gVar 1) aNil)) aNil)) (τName 7) B__law_joined_1_1)
  (sRet (gA tupD (aCons (gA tupleD (aCons (gVar 5) aNil)) (aCons (gVar 6) aNil)))))))))))
def F__law_joined_1 : List D → R D := runS 12 4 S__law_joined_1

def B__law_joined_0 : Rho → S :=
  (sSeq (sAsg (gA F__law_joined_1 (aCons (gC (.str "cell")) (aCons (g2 ixD (g2 ixD (gVar 1) (gVar 7)) (gVar 9)) (aCons (g2 ixD (g2 ixD (gVar 2) (gVar 7)) (gVar 9)) (aCons (g2 ixD (g2 ixD (gVar 3) (gVar 7)) (gVar 9)) aNil))))) (τTup 2 (τCons (τName 10) (τCons (τName 11) τNil))))
  (sSeq (sAppend 8 (gVar 10))
  (sIf (gB (g2 neD (gVar 11) (gA lstD aNil)))
  (sAppend 6 (g2 addD (g2 addD (g2 addD (gC (.str "cell ")) (gA strD (aCons (gVar 7) aNil))) (gC (.str " "))) (gA strD (aCons (gVar 9) aNil))))
  sNil)))
def B__law_joined_1 : Rho → S :=
  (sSeq (sSet 8 (gA lstD aNil))
  (sSeq (sFor (iA rangeD1 (aCons (gA lenD (aCons (g2 ixD (gVar 1) (gC (.int 0))) aNil)) aNil)) (τName 9) B__law_joined_0)
  (sAppend 5 (gA tupleD (aCons (gVar 8) aNil)))))
def S__law_joined : Rho → S :=
  (sSeq (sIf (gB (g2 eqD (gVar 2) (gVar 3)))
  (sRet (gA tupD (aCons (gVar 2) (aCons (gA lstD aNil) aNil))))
  sNil)
  (sSeq (sIf (bOr (gB (g2 eqD (gVar 2) (gVar 1))) (gB (g2 eqD (gVar 3) (gVar 1))))
  (sRet (gA tupD (aCons (g2 ixD (gA lstD (aCons (gVar 2) (aCons (gVar 3) aNil))) (gA intD (aCons (g2 eqD (gVar 2) (gVar 1)) aNil))) (aCons (gA lstD aNil) aNil))))
  sNil)
  (sSeq (sSet 4 (gLc (iSeq (gA lstD (aCons (gVar 1) (aCons (gVar 2) (aCons (gVar 3) aNil))))) [5] (τName 5) (gB (g2 eqD (gVar 0) (gC (.str "table")))) (gA tupD (aCons (gA lenD (aCons (gVar 5) aNil)) (aCons (gA lenD (aCons (g2 ixD (gVar 5) (gC (.int 0))) aNil)) aNil)))))
  (sSeq (sIf (bOr (gB (g2 eqD (gVar 4) (gA lstD aNil))) (gB (g2 ltD (gMt "list" countD (gVar 4) (aCons (g2 ixD (gVar 4) (gC (.int 0))) aNil)) (gC (.int 3)))))
  (sRet (gA tupD (aCons (gVar 1) (aCons (gA lstD (aCons (gC (.str "content")) aNil)) aNil))))
  sNil)
  (sSeq (sSet 5 (gA lstD aNil))
  (sSeq (sSet 6 (gA lstD aNil))
  (sSeq (sFor (iA rangeD1 (aCons (gA lenD (aCons (gVar 1) aNil)) aNil)) (τName 7) B__law_joined_1)
  (sRet (gA tupD (aCons (gA tupleD (aCons (gVar 5) aNil)) (aCons (gVar 6) aNil)))))))))))
def F__law_joined : List D → R D := runS 12 4 S__law_joined

def SQ_Kind_clashed : SQF :=
  (sqRet (qTup (aqCons (qP (gVar 1)) (aqCons (qNew (gA lstD (aCons (gC (.str "content")) aNil))) aqNil))))
def FQ_Kind_clashed : GF := runQ 4 4 SQ_Kind_clashed

def SQ_Kind_joined_1 : SQF :=
  (sqSeq (sqIf (qT (bOr (gB (g2 eqD (gVar 2) (gVar 3))) (gB (g2 eqD (gVar 3) (gVar 1)))))
  (sqRet (qTup (aqCons (qP (gVar 2)) (aqCons (qNew (gA lstD aNil)) aqNil))))
  sqNil)
  (sqSeq (sqIf (qT (gB (g2 eqD (gVar 2) (gVar 1))))
  (sqRet (qTup (aqCons (qP (gVar 3)) (aqCons (qNew (gA lstD aNil)) aqNil))))
  sqNil)
  (sqRet (qMeth [("Chapter", FQ_Kind_clashed), ("Para", FQ_Kind_clashed)] "clashed" (qP (gVar 0)) (qPA (aCons (gVar 1) (aCons (gVar 2) (aCons (gVar 3) aNil))))))))
def FQ_Kind_joined_1 : GF := runQ 4 4 SQ_Kind_joined_1

def B_Table_clashed_0 : SQF :=
  (sqSeq (sqAsg (tqTup 2 (tqCons (tqName 9) (tqCons (tqName 10) tqNil))) (qMeth [("Chapter", FQ_Kind_joined_1), ("Para", FQ_Kind_joined_1), ("Table", FQ_Kind_joined_1)] "joined" (qP (gC (.obj "Para" []))) (qPA (aCons (g2 ixD (g2 ixD (gVar 1) (gVar 6)) (gVar 8)) (aCons (g2 ixD (g2 ixD (gVar 2) (gVar 6)) (gVar 8)) (aCons (g2 ixD (g2 ixD (gVar 3) (gVar 6)) (gVar 8)) aNil))))))
  (sqSeq (sqAppend (qVar 7) (qVar 9))
  (sqIf (qSnT (gB (g2 neD (gVar 10) (gA lstD aNil))))
  (sqAppend (qVar 5) (qP (g2 addD (g2 addD (g2 addD (gC (.str "cell ")) (gA strD (aCons (gVar 6) aNil))) (gC (.str " "))) (gA strD (aCons (gVar 8) aNil)))))
  sqNil)))
def B_Table_clashed_1 : SQF :=
  (sqSeq (sqSet 7 (qNew (gA lstD aNil)))
  (sqSeq (sqFor (iA rangeD1 (aCons (gA lenD (aCons (g2 ixD (gVar 1) (gC (.int 0))) aNil)) aNil)) (tqName 8) B_Table_clashed_0)
  (sqAppend (qVar 4) (qSn (gA tupleD (aCons (gVar 7) aNil))))))
def SQ_Table_clashed : SQF :=
  (sqSeq (sqIf (qT (bOr (gB (g2 neD (gA lenD (aCons (gVar 2) aNil)) (gA lenD (aCons (gVar 1) aNil)))) (gB (g2 neD (gA lenD (aCons (gVar 3) aNil)) (gA lenD (aCons (gVar 1) aNil))))))
  (sqRet (qTup (aqCons (qP (gVar 1)) (aqCons (qNew (gA lstD (aCons (gC (.str "content")) aNil))) aqNil))))
  sqNil)
  (sqSeq (sqIf (qT (bOr (gB (g2 neD (gA lenD (aCons (g2 ixD (gVar 2) (gC (.int 0))) aNil)) (gA lenD (aCons (g2 ixD (gVar 1) (gC (.int 0))) aNil)))) (gB (g2 neD (gA lenD (aCons (g2 ixD (gVar 3) (gC (.int 0))) aNil)) (gA lenD (aCons (g2 ixD (gVar 1) (gC (.int 0))) aNil))))))
  (sqRet (qTup (aqCons (qP (gVar 1)) (aqCons (qNew (gA lstD (aCons (gC (.str "content")) aNil))) aqNil))))
  sqNil)
  (sqSeq (sqSet 4 (qNew (gA lstD aNil)))
  (sqSeq (sqSet 5 (qNew (gA lstD aNil)))
  (sqSeq (sqFor (iA rangeD1 (aCons (gA lenD (aCons (gVar 1) aNil)) aNil)) (tqName 6) B_Table_clashed_1)
  (sqRet (qTup (aqCons (qSn (gA tupleD (aCons (gVar 4) aNil))) (aqCons (qVar 5) aqNil)))))))))
def FQ_Table_clashed : GF := runQ 11 4 SQ_Table_clashed

def SQ_Kind_joined : SQF :=
  (sqSeq (sqIf (qT (bOr (gB (g2 eqD (gVar 2) (gVar 3))) (gB (g2 eqD (gVar 3) (gVar 1)))))
  (sqRet (qTup (aqCons (qP (gVar 2)) (aqCons (qNew (gA lstD aNil)) aqNil))))
  sqNil)
  (sqSeq (sqIf (qT (gB (g2 eqD (gVar 2) (gVar 1))))
  (sqRet (qTup (aqCons (qP (gVar 3)) (aqCons (qNew (gA lstD aNil)) aqNil))))
  sqNil)
  (sqRet (qMeth [("Chapter", FQ_Kind_clashed), ("Para", FQ_Kind_clashed), ("Table", FQ_Table_clashed)] "clashed" (qP (gVar 0)) (qPA (aCons (gVar 1) (aCons (gVar 2) (aCons (gVar 3) aNil))))))))
def FQ_Kind_joined : GF := runQ 4 4 SQ_Kind_joined

def S__law_cell : Rho → S :=
  (sSeq (sIf (gB (g2 ltD (gVar 1) (gA lenD (aCons (gVar 0) aNil))))
  (sRet (g2 ixD (gVar 0) (gVar 1)))
  sNil)
  (sRet (g2 mulD (g2 addD (gVar 1) (gC (.int 3))) (gC (.int 7919)))))
def F__law_cell : List D → R D := runS 2 2 S__law_cell

def S__law_same : Rho → S :=
  (sSeq (sIf (bOr (bNot (gB (g1 (isiD "tuple") (gVar 0)))) (bOr (gB (g2 neD (gA lenD (aCons (gVar 0) aNil)) (gC (.int 2)))) (bNot (gB (g1 (isiD "list") (g2 ixD (gVar 0) (gC (.int 1))))))))
  (sRet (gC (.bl false)))
  sNil)
  (sRet (gAnd (g2 eqD (g2 ixD (gVar 0) (gC (.int 0))) (g2 ixD (gVar 1) (gC (.int 0)))) (g2 eqD (g2 ixD (gVar 0) (gC (.int 1))) (g2 ixD (gVar 1) (gC (.int 1)))))))
def F__law_same : List D → R D := runS 2 2 S__law_same

def B_is_text_0 : Rho → S :=
  (sIf (bOr (gB (g2 ltD (gVar 1) (gC (.str " ")))) (bOr (gB (g2 gtD (gVar 1) (gC (.str "~")))) (gB (g2 eqD (gA ordD (aCons (gVar 1) aNil)) (gC (.int 37))))))
  (sRet (gC (.bl false)))
  sNil)
def S_is_text : Rho → S :=
  (sSeq (sIf (bOr (bNot (gB (g1 (isiD "str") (gVar 0)))) (gB (g2 gtD (gA lenD (aCons (gVar 0) aNil)) (gC (.int 60)))))
  (sRet (gC (.bl false)))
  sNil)
  (sSeq (sFor (iSeq (gVar 0)) (τName 1) B_is_text_0)
  (sRet (gC (.bl true)))))
def F_is_text : List D → R D := runS 2 1 S_is_text

def S_Kind_fits : Rho → S :=
  (sRet (gA F_is_text (aCons (gVar 1) aNil)))
def F_Kind_fits : List D → R D := runS 2 2 S_Kind_fits

def S_is_row : Rho → S :=
  (sSeq (sIf (bOr (bNot (gB (g1 (isiD "tuple") (gVar 0)))) (gB (g2 neD (gA lenD (aCons (gVar 0) aNil)) (gVar 1))))
  (sRet (gC (.bl false)))
  sNil)
  (sRet (gA allD (aCons (gLc (iSeq (gVar 0)) [2] (τName 2) bYes (gA F_is_text (aCons (gVar 2) aNil))) aNil))))
def F_is_row : List D → R D := runS 3 2 S_is_row

def S_is_cells : Rho → S :=
  (sRet (gAnd (g1 (isiD "tuple") (gVar 0)) (gAnd (g3 leD leD (gC (.int 1)) (gA lenD (aCons (gVar 0) aNil)) (gC (.int 6))) (gA F_is_row (aCons (gVar 0) (aCons (gA lenD (aCons (gVar 0) aNil)) aNil))))))
def F_is_cells : List D → R D := runS 1 1 S_is_cells

def S_Table_fits : Rho → S :=
  (sSeq (sIf (bOr (bNot (gB (g1 (isiD "tuple") (gVar 1)))) (bNot (gB (g3 leD leD (gC (.int 1)) (gA lenD (aCons (gVar 1) aNil)) (gC (.int 6))))))
  (sRet (gC (.bl false)))
  sNil)
  (sSeq (sIf (bNot (gB (gA F_is_cells (aCons (g2 ixD (gVar 1) (gC (.int 0))) aNil))))
  (sRet (gC (.bl false)))
  sNil)
  (sRet (gA allD (aCons (gLc (iSeq (gVar 1)) [2] (τName 2) bYes (gA F_is_row (aCons (gVar 2) (aCons (gA lenD (aCons (g2 ixD (gVar 1) (gC (.int 0))) aNil)) aNil)))) aNil)))))
def F_Table_fits : List D → R D := runS 3 2 S_Table_fits

def B_law_0 : SQF :=
  (sqSeq (sqSet 3 (qP (gA F_kind_of_word (aCons (gVar 2) aNil))))
  (sqSeq (sqSet 4 (qP (gA F__law_content (aCons (gVar 2) (aCons (gA F__law_cell (aCons (gVar 0) (aCons (g2 mulD (gC (.int 3)) (gVar 1)) aNil))) aNil)))))
  (sqSeq (sqSet 5 (qP (gA F__law_made (aCons (gVar 2) (aCons (gVar 4) (aCons (gA F__law_cell (aCons (gVar 0) (aCons (g2 addD (g2 mulD (gC (.int 3)) (gVar 1)) (gC (.int 1))) aNil))) aNil))))))
  (sqSeq (sqSet 6 (qP (gA F__law_made (aCons (gVar 2) (aCons (gVar 4) (aCons (gA F__law_cell (aCons (gVar 0) (aCons (g2 addD (g2 mulD (gC (.int 3)) (gVar 1)) (gC (.int 2))) aNil))) aNil))))))
  (sqSeq (sqSet 7 (qP (gA F__law_joined (aCons (gVar 2) (aCons (gVar 4) (aCons (gVar 5) (aCons (gVar 6) aNil)))))))
  (sqSeq (sqSet 8 (qMeth [("Chapter", FQ_Kind_joined), ("Para", FQ_Kind_joined), ("Table", FQ_Kind_joined)] "joined" (qP (gVar 3)) (qPA (aCons (gVar 4) (aCons (gVar 5) (aCons (gVar 6) aNil))))))
  (sqSeq (sqIf (qSnT (bOr (bNot (gB (gA F__law_same (aCons (gVar 8) (aCons (gVar 7) aNil))))) (gB (g2 notTD (gMeth [("Chapter", F_Kind_fits), ("Para", F_Kind_fits), ("Table", F_Table_fits)] "fits" (gVar 3) (aCons (g2 ixD (gVar 8) (gC (.int 0))) aNil)) (gC (.bl true))))))
  (sqRet (qP (gC (.bl false))))
  sqNil)
  (sqSeq (sqAppend (qIx (qVar 8) (qP (gC (.int 1)))) (qP (gC (.str "more"))))
  (sqSeq (sqIf (qT (bOr (bNot (gB (gA F__law_same (aCons (gMeth [("Chapter", FQ_Kind_joined.down), ("Para", FQ_Kind_joined.down), ("Table", FQ_Kind_joined.down)] "joined" (gVar 3) (aCons (gVar 4) (aCons (gVar 6) (aCons (gVar 5) aNil)))) (aCons (gVar 7) aNil))))) (bNot (gB (gA F__law_same (aCons (gMeth [("Chapter", FQ_Kind_joined.down), ("Para", FQ_Kind_joined.down), ("Table", FQ_Kind_joined.down)] "joined" (gVar 3) (aCons (gVar 4) (aCons (gVar 5) (aCons (gVar 6) aNil)))) (aCons (gVar 7) aNil)))))))
  (sqRet (qP (gC (.bl false))))
  sqNil)
  (sqIf (qT (bNot (gB (gA F__law_same (aCons (gMeth [("Chapter", FQ_Kind_joined.down), ("Para", FQ_Kind_joined.down), ("Table", FQ_Kind_joined.down)] "joined" (gVar 3) (aCons (gVar 4) (aCons (gVar 4) (aCons (gVar 5) aNil)))) (aCons (gA tupD (aCons (gVar 5) (aCons (gA lstD aNil) aNil))) aNil))))))
  (sqRet (qP (gC (.bl false))))
  sqNil))))))))))
def SQ_law : SQF :=
  (sqSeq (sqFor (iA enumD (aCons (gA lstD (aCons (gC (.str "chapter")) (aCons (gC (.str "para")) (aCons (gC (.str "table")) (aCons (gC (.str "table")) aNil))))) aNil)) (tqTup 2 (tqCons (tqName 1) (tqCons (tqName 2) tqNil))) B_law_0)
  (sqRet (qP (gC (.bl true)))))
def FQ_law : GF := runQ 9 1 SQ_law

end
end Pd

set_option maxHeartbeats 0
namespace Pd
open PySem PySem.Spec PyProof.Rows L2
structure Tx (K : PySem.W.Frag) (mg : Str → Option Value) : Prop where
  g_kind_of_word : mg "kind_of_word" = some (.ref (He.ga K "kind_of_word"))
  g__law_stream : mg "_law_stream" = some (.ref (He.ga K "_law_stream"))
  g__law_text : mg "_law_text" = some (.ref (He.ga K "_law_text"))
  g__law_table : mg "_law_table" = some (.ref (He.ga K "_law_table"))
  g__law_content : mg "_law_content" = some (.ref (He.ga K "_law_content"))
  g__law_cells_changed : mg "_law_cells_changed" = some (.ref (He.ga K "_law_cells_changed"))
  g__law_made : mg "_law_made" = some (.ref (He.ga K "_law_made"))
  g__law_joined : mg "_law_joined" = some (.ref (He.ga K "_law_joined"))
  g__law_cell : mg "_law_cell" = some (.ref (He.ga K "_law_cell"))
  g__law_same : mg "_law_same" = some (.ref (He.ga K "_law_same"))
  g_is_text : mg "is_text" = some (.ref (He.ga K "is_text"))
  g_is_row : mg "is_row" = some (.ref (He.ga K "is_row"))
  g_is_cells : mg "is_cells" = some (.ref (He.ga K "is_cells"))
  g_law : mg "law" = some (.ref (He.ga K "law"))
  f_all : mg "all" = none
  f_enumerate : mg "enumerate" = none
  f_int : mg "int" = none
  f_isinstance : mg "isinstance" = none
  f_len : mg "len" = none
  f_list : mg "list" = none
  f_ord : mg "ord" = none
  f_range : mg "range" = none
  f_str : mg "str" = none
  f_tuple : mg "tuple" = none
  k_MOST_COLUMNS : ∃ t, mg "MOST_COLUMNS" = some (.int 6 t)
  k_MOST_ROWS : ∃ t, mg "MOST_ROWS" = some (.int 6 t)
  cls_Chapter : Cls K (He.ga K "Chapter")
  cls_Para : Cls K (He.ga K "Para")
  cls_Table : Cls K (He.ga K "Table")
  met_Chapter_clashed : Meth K (He.ga K "Chapter") "clashed" (He.fAd K ("Kind", some "clashed"))
  met_Chapter_fits : Meth K (He.ga K "Chapter") "fits" (He.fAd K ("Kind", some "fits"))
  met_Chapter_joined : Meth K (He.ga K "Chapter") "joined" (He.fAd K ("Kind", some "joined"))
  met_Chapter_word : Meth K (He.ga K "Chapter") "word" (He.fAd K ("Chapter", some "word"))
  met_Para_clashed : Meth K (He.ga K "Para") "clashed" (He.fAd K ("Kind", some "clashed"))
  met_Para_fits : Meth K (He.ga K "Para") "fits" (He.fAd K ("Kind", some "fits"))
  met_Para_joined : Meth K (He.ga K "Para") "joined" (He.fAd K ("Kind", some "joined"))
  met_Para_word : Meth K (He.ga K "Para") "word" (He.fAd K ("Para", some "word"))
  met_Table_clashed : Meth K (He.ga K "Table") "clashed" (He.fAd K ("Table", some "clashed"))
  met_Table_fits : Meth K (He.ga K "Table") "fits" (He.fAd K ("Table", some "fits"))
  met_Table_joined : Meth K (He.ga K "Table") "joined" (He.fAd K ("Kind", some "joined"))
  met_Table_word : Meth K (He.ga K "Table") "word" (He.fAd K ("Table", some "word"))
  new_Chapter : NewK K mg "Chapter"
  new_Para : NewK K mg "Para"
  new_Table : NewK K mg "Table"
section
variable {P' : Program} {w : World} {K : PySem.W.Frag} {mg : Str → Option Value} {base : Heap}
theorem sc_Chapter_word : FnScope ["self"] ["self"] (defScope s_Chapter_word) := ⟨rfl, rfl, rfl, by decide +kernel, rfl, by decide +kernel, by decide +kernel⟩
theorem c_Chapter_word (T : Tx K mg) (Df : DefU K "word" "Chapter.word" s_Chapter_word (He.fAd K ("Chapter", some "word")) ["self"]) : UnF P' w K mg base 1 (He.fAd K ("Chapter", some "word")) ["self"] F_Chapter_word :=
  un_d (mm := []) (m' := []) (s := S_Chapter_word) 1 Df sc_Chapter_word rfl (by decide) fun cdv A outer sh H E F0 hr =>
    (ss_one (s_ret d_str))
theorem sc_Para_word : FnScope ["self"] ["self"] (defScope s_Para_word) := ⟨rfl, rfl, rfl, by decide +kernel, rfl, by decide +kernel, by decide +kernel⟩
theorem c_Para_word (T : Tx K mg) (Df : DefU K "word" "Para.word" s_Para_word (He.fAd K ("Para", some "word")) ["self"]) : UnF P' w K mg base 1 (He.fAd K ("Para", some "word")) ["self"] F_Para_word :=
  un_d (mm := []) (m' := []) (s := S_Para_word) 1 Df sc_Para_word rfl (by decide) fun cdv A outer sh H E F0 hr =>
    (ss_one (s_ret d_str))
theorem sc_Table_word : FnScope ["self"] ["self"] (defScope s_Table_word) := ⟨rfl, rfl, rfl, by decide +kernel, rfl, by decide +kernel, by decide +kernel⟩
theorem c_Table_word (T : Tx K mg) (Df : DefU K "word" "Table.word" s_Table_word (He.fAd K ("Table", some "word")) ["self"]) : UnF P' w K mg base 1 (He.fAd K ("Table", some "word")) ["self"] F_Table_word :=
  un_d (mm := []) (m' := []) (s := S_Table_word) 1 Df sc_Table_word rfl (by decide) fun cdv A outer sh H E F0 hr =>
    (ss_one (s_ret d_str))
theorem sc_kind_of_word : FnScope ["word", "kind"] ["word"] (defScope s_kind_of_word) := ⟨rfl, rfl, rfl, by decide +kernel, rfl, by decide +kernel, by decide +kernel⟩
theorem c_kind_of_word (T : Tx K mg) (h_Table_word : UnF P' w K mg base 1 (He.fAd K ("Table", some "word")) ["self"] F_Table_word) (h_Para_word : UnF P' w K mg base 1 (He.fAd K ("Para", some "word")) ["self"] F_Para_word) (h_Chapter_word : UnF P' w K mg base 1 (He.fAd K ("Chapter", some "word")) ["self"] F_Chapter_word) (Df : DefU K "kind_of_word" "kind_of_word" s_kind_of_word (He.ga K "kind_of_word") ["word"]) : UnF P' w K mg base 2 (He.ga K "kind_of_word") ["word"] F_kind_of_word :=
  un_d (mm := []) (m' := []) (s := S_kind_of_word) 2 Df sc_kind_of_word rfl (by decide) fun cdv A outer sh H E F0 hr =>
    (ss_cons (m2 := []) (s_for (passes_of rfl) rfl (di_seq (d_new (n_list (da_cons (d_new (n_new0 T.new_Chapter)) (da_cons (d_new (n_new0 T.new_Para)) (da_cons (d_new (n_new0 T.new_Table)) da_nil)))))) (dg_name 1 sc_kind_of_word.nd)
    (ss_one (s_if (t_cmp (op_eq2 hr.units) o_eq (d_meth (fm (d_meth0 (calM_of h_Chapter_word T.cls_Chapter T.met_Chapter_word) hr (by decide) (takes_of rfl rfl rfl rfl) (d_var 1) rfl) (fm (d_meth0 (calM_of h_Para_word T.cls_Para T.met_Para_word) hr (by decide) (takes_of rfl rfl rfl rfl) (d_var 1) rfl) (fm (d_meth0 (calM_of h_Table_word T.cls_Table T.met_Table_word) hr (by decide) (takes_of rfl rfl rfl rfl) (d_var 1) rfl) fn0)))) (d_var 0) (nomark _))
    (ss_one (s_ret (d_var 1)))
    ss_nil)))
    (ss_one (s_ret d_non)))
theorem sc__law_stream : FnScope ["_law_cell_here", "_law_many", "_law_found", "_law_left", "_law_number", "_law_k"] ["_law_cell_here", "_law_many"] (defScope s__law_stream) := ⟨rfl, rfl, rfl, by decide +kernel, rfl, by decide +kernel, by decide +kernel⟩
theorem c__law_stream (T : Tx K mg) (Df : DefU K "_law_stream" "_law_stream" s__law_stream (He.ga K "_law_stream") ["_law_cell_here", "_law_many"]) : UnF P' w K mg base 1 (He.ga K "_law_stream") ["_law_cell_here", "_law_many"] F__law_stream :=
  un_d (mm := [false, false, false, false, false, false]) (m' := []) (s := S__law_stream) 6 Df sc__law_stream rfl (by decide) fun cdv A outer sh H E F0 hr =>
    (ss_cons (m2 := [false, false, true, false, false, false]) (s_setN 2 sc__law_stream.nd (n_list da_nil) (by decide))
    (ss_cons (m2 := [false, false, true, false, false, false]) (s_set 3 sc__law_stream.nd (d_op op_fdiv o_fdiv (d_var 0) d_int))
    (ss_cons (m2 := [false, false, true, false, false, false]) (s_set 4 sc__law_stream.nd (d_op op_addD o_add (d_op op_mod o_mod (d_var 0) d_int) d_int))
    (ss_cons (m2 := [false, false, true, false, false, false]) (s_for (passes_of rfl) rfl (di_range1 T.f_range (da_cons (d_var 1) da_nil)) (dg_name 5 sc__law_stream.nd)
    (ss_cons (m2 := [false, false, true, false, false, false]) (s_set 4 sc__law_stream.nd (d_op op_mod o_mod (d_op op_addD o_add (d_op op_addD o_add (d_op op_mul o_mul (d_var 4) d_int) (d_op op_mul o_mul d_int (d_var 5))) d_int) d_int))
    (ss_one (s_if (t_w (w_and (t_cmp (op_eq2 hr.units) o_eq (d_op op_mod o_mod (d_var 0) d_int) d_int (nomark _)) (w_and (t_cmp (op_ne2 hr.units) o_ne (d_var 3) d_int (nomark _)) (w_and1 (t_cmp (op_ne2 hr.units) o_ne (d_var 3) (d_un un_neg o_neg d_int) (nomark _))))))
    (ss_cons (m2 := [false, false, true, false, false, false]) (s_append 2 (d_op op_mod o_mod (d_var 3) d_int))
    (ss_one (s_set 3 sc__law_stream.nd (d_op op_fdiv o_fdiv (d_var 3) d_int))))
    (ss_one (s_append 2 (d_op op_fdiv o_fdiv (d_op op_mod o_mod (d_op op_addD o_add (d_op op_mul o_mul (d_op op_mod o_mod (d_op op_mul o_mul (d_var 4) (d_var 4)) d_int) d_int) (d_var 5)) d_int) d_int)))))))
    (ss_one (s_retO 2))))))
theorem sc__law_text : FnScope ["_law_cell_here", "_law_signs", "_law_xs", "_law_size", "_law_text_here", "_law_x"] ["_law_cell_here"] (defScope s__law_text) := ⟨rfl, rfl, rfl, by decide +kernel, rfl, by decide +kernel, by decide +kernel⟩
theorem c__law_text (T : Tx K mg) (h__law_stream : UnF P' w K mg base 1 (He.ga K "_law_stream") ["_law_cell_here", "_law_many"] F__law_stream) (Df : DefU K "_law_text" "_law_text" s__law_text (He.ga K "_law_text") ["_law_cell_here"]) : UnF P' w K mg base 2 (He.ga K "_law_text") ["_law_cell_here"] F__law_text :=
  un_d (mm := []) (m' := []) (s := S__law_text) 6 Df sc__law_text rfl (by decide) fun cdv A outer sh H E F0 hr =>
    (ss_cons (m2 := []) (s_set 1 sc__law_text.nd (d_op op_addD o_add d_str d_str))
    (ss_cons (m2 := []) (s_set 2 sc__law_text.nd (d_c (calF_of h__law_stream T.g__law_stream) hr (by decide) (takes_of rfl rfl rfl rfl) (da_cons (d_var 0) (da_cons d_int da_nil))))
    (ss_cons (m2 := []) (s_set 3 sc__law_text.nd (d_ix (d_new (n_list (da_cons d_int (da_cons (d_op op_mod o_mod (d_ix (d_var 2) d_int) d_int) (da_cons (d_op op_mod o_mod (d_ix (d_var 2) d_int) d_int) (da_cons (d_op op_mod o_mod (d_ix (d_var 2) d_int) d_int) da_nil)))))) (d_op op_mod o_mod (d_ix (d_var 2) d_int) d_int)))
    (ss_cons (m2 := []) (s_set 4 sc__law_text.nd d_str)
    (ss_cons (m2 := []) (s_for (passes_of rfl) rfl (di_seq (d_c (calF_of h__law_stream T.g__law_stream) hr (by decide) (takes_of rfl rfl rfl rfl) (da_cons (d_op op_addD o_add (d_var 0) d_int) (da_cons (d_var 3) da_nil)))) (dg_name 5 sc__law_text.nd)
    (ss_one (s_if (t_cmp (op_eq2 hr.units) o_eq (d_op op_mod o_mod (d_ix (d_var 2) d_int) d_int) d_int (nomark _))
    (ss_one (s_set 4 sc__law_text.nd (d_op op_addD o_add (d_var 4) (d_ix d_str (d_op op_mod o_mod (d_var 5) d_int)))))
    (ss_one (s_set 4 sc__law_text.nd (d_op op_addD o_add (d_var 4) (d_ix (d_var 1) (d_op op_mod o_mod (d_var 5) d_int))))))))
    (ss_one (s_ret (d_var 4))))))))
theorem sc__law_table : FnScope ["_law_cell_here", "_law_xs", "_law_many", "_law_wide", "_law_rows", "_law_j", "_law_k"] ["_law_cell_here"] (defScope s__law_table) := ⟨rfl, rfl, rfl, by decide +kernel, rfl, by decide +kernel, by decide +kernel⟩
theorem c__law_table (T : Tx K mg) (h__law_stream : UnF P' w K mg base 1 (He.ga K "_law_stream") ["_law_cell_here", "_law_many"] F__law_stream) (h__law_text : UnF P' w K mg base 2 (He.ga K "_law_text") ["_law_cell_here"] F__law_text) (Df : DefU K "_law_table" "_law_table" s__law_table (He.ga K "_law_table") ["_law_cell_here"]) : UnF P' w K mg base 3 (He.ga K "_law_table") ["_law_cell_here"] F__law_table :=
  un_d (mm := [false, false, false, false, false, false, false]) (m' := []) (s := S__law_table) 7 Df sc__law_table rfl (by decide) fun cdv A outer sh H E F0 hr =>
    (ss_cons (m2 := [false, false, false, false, false, false, false]) (s_set 1 sc__law_table.nd (d_c (calF_of h__law_stream T.g__law_stream) hr (by decide) (takes_of rfl rfl rfl rfl) (da_cons (d_var 0) (da_cons d_int da_nil))))
    (ss_cons (m2 := [false, false, false, false, false, false, false]) (s_set 2 sc__law_table.nd (d_ix (d_new (n_list (da_cons (d_op op_addD o_add d_int (d_op op_mod o_mod (d_op op_fdiv o_fdiv (d_ix (d_var 1) d_int) d_int) d_int)) (da_cons (d_op op_addD o_add d_int (d_op op_mod o_mod (d_op op_fdiv o_fdiv (d_ix (d_var 1) d_int) d_int) d_int)) (da_cons d_int da_nil))))) (d_op op_mod o_mod (d_ix (d_var 1) d_int) d_int)))
    (ss_cons (m2 := [false, false, false, false, false, false, false]) (s_set 3 sc__law_table.nd (d_ix (d_new (n_list (da_cons (d_op op_addD o_add d_int (d_op op_mod o_mod (d_op op_fdiv o_fdiv (d_ix (d_var 1) d_int) d_int) d_int)) (da_cons (d_op op_addD o_add d_int (d_op op_mod o_mod (d_op op_fdiv o_fdiv (d_ix (d_var 1) d_int) d_int) d_int)) (da_cons d_int da_nil))))) (d_op op_mod o_mod (d_ix (d_var 1) d_int) d_int)))
    (ss_cons (m2 := [false, false, false, false, true, false, false]) (s_setN 4 sc__law_table.nd (n_list da_nil) (by decide))
    (ss_cons (m2 := [false, false, false, false, true, false, false]) (s_for (passes_of rfl) rfl (di_range1 T.f_range (da_cons (d_var 2) da_nil)) (dg_name 5 sc__law_table.nd rfl (Or.inr rfl))
    (ss_one (s_append 4 (d_callTy call_tuple_of c_tuple T.f_tuple (da_cons (d_new (n_lc (own := [("_law_k", 6)]) rfl sc__law_table.nd (di_range1 T.f_range (da_cons (d_var 3) da_nil)) (by show blkC ["_law_cell_here", "_law_xs", "_law_many", "_law_wide", "_law_rows", "_law_j", "_law_k"] (defScope s__law_table) _ _ = true; decide +kernel) (fun _ _ _ _ _ => (dg_name 6 sc__law_table.nd)) (fun _ _ _ _ _ => dts_nil) (fun _ _ _ _ _ => (d_c (calF_of h__law_text T.g__law_text) hr (by decide) takes0 (da_cons (d_op op_addD o_add (d_op op_addD o_add (d_op op_addD o_add (d_var 0) (d_op op_mul o_mul d_int (d_var 5))) (d_op op_mul o_mul d_int (d_var 6))) d_int) da_nil))) (by decide))) da_nil)))))
    (ss_share 4 (Bs.ok_of rfl) (ss_one (s_ret (d_callTy call_tuple_of c_tuple T.f_tuple (da_cons (d_var 4) da_nil))))))))))
theorem sc__law_content : FnScope ["_law_kind", "_law_cell_here"] ["_law_kind", "_law_cell_here"] (defScope s__law_content) := ⟨rfl, rfl, rfl, by decide +kernel, rfl, by decide +kernel, by decide +kernel⟩
theorem c__law_content (T : Tx K mg) (h__law_table : UnF P' w K mg base 3 (He.ga K "_law_table") ["_law_cell_here"] F__law_table) (h__law_text : UnF P' w K mg base 2 (He.ga K "_law_text") ["_law_cell_here"] F__law_text) (Df : DefU K "_law_content" "_law_content" s__law_content (He.ga K "_law_content") ["_law_kind", "_law_cell_here"]) : UnF P' w K mg base 4 (He.ga K "_law_content") ["_law_kind", "_law_cell_here"] F__law_content :=
  un_d (mm := []) (m' := []) (s := S__law_content) 2 Df sc__law_content rfl (by decide) fun cdv A outer sh H E F0 hr =>
    (ss_cons (m2 := []) (s_if (t_cmp (op_eq2 hr.units) o_eq (d_var 0) d_str (nomark _))
    (ss_one (s_ret (d_c (calF_of h__law_table T.g__law_table) hr (by decide) (takes_of rfl rfl rfl rfl) (da_cons (d_var 1) da_nil))))
    ss_nil)
    (ss_one (s_ret (d_c (calF_of h__law_text T.g__law_text) hr (by decide) (takes_of rfl rfl rfl rfl) (da_cons (d_var 1) da_nil)))))
theorem sc__law_cells_changed : FnScope ["_law_base", "_law_cell_here", "_law_xs", "_law_rows", "_law_j", "_law_row", "_law_k", "_law_x"] ["_law_base", "_law_cell_here"] (defScope s__law_cells_changed) := ⟨rfl, rfl, rfl, by decide +kernel, rfl, by decide +kernel, by decide +kernel⟩
theorem c__law_cells_changed (T : Tx K mg) (h__law_stream : UnF P' w K mg base 1 (He.ga K "_law_stream") ["_law_cell_here", "_law_many"] F__law_stream) (Df : DefU K "_law_cells_changed" "_law_cells_changed" s__law_cells_changed (He.ga K "_law_cells_changed") ["_law_base", "_law_cell_here"]) : UnF P' w K mg base 2 (He.ga K "_law_cells_changed") ["_law_base", "_law_cell_here"] F__law_cells_changed :=
  un_d (mm := [false, false, false, false, false, false, false, false]) (m' := []) (s := S__law_cells_changed) 8 Df sc__law_cells_changed rfl (by decide) fun cdv A outer sh H E F0 hr =>
    (ss_cons (m2 := [false, false, false, false, false, false, false, false]) (s_set 2 sc__law_cells_changed.nd (d_c (calF_of h__law_stream T.g__law_stream) hr (by decide) (takes_of rfl rfl rfl rfl) (da_cons (d_var 1) (da_cons d_int da_nil))))
    (ss_cons (m2 := [false, false, false, true, false, false, false, false]) (s_setN 3 sc__law_cells_changed.nd (n_list da_nil) (by decide))
    (ss_cons (m2 := [false, false, false, true, false, false, false, false]) (s_for (passes_of rfl) rfl (di_range1 T.f_range (da_cons (d_callB call_len c_len T.f_len (da_cons (d_var 0) da_nil)) da_nil)) (dg_name 4 sc__law_cells_changed.nd)
    (ss_cons (m2 := [false, false, false, true, false, true, false, false]) (s_setN 5 sc__law_cells_changed.nd (n_list da_nil) (by decide))
    (ss_cons (m2 := [false, false, false, true, false, true, false, false]) (s_for (passes_of rfl) rfl (di_range1 T.f_range (da_cons (d_callB call_len c_len T.f_len (da_cons (d_ix (d_var 0) d_int) da_nil)) da_nil)) (dg_name 6 sc__law_cells_changed.nd)
    (ss_cons (m2 := [false, false, false, true, false, true, false, false]) (s_set 7 sc__law_cells_changed.nd (d_ix (d_var 2) (d_op op_addD o_add (d_op op_addD o_add d_int (d_op op_mul o_mul d_int (d_var 4))) (d_var 6))))
    (ss_one (s_append 5 (d_ix (d_new (n_list (da_cons (d_ix (d_ix (d_var 0) (d_var 4)) (d_var 6)) (da_cons (d_ix (d_ix (d_var 0) (d_var 4)) (d_var 6)) (da_cons (d_op op_addD o_add d_str (d_callTy call_str_int c_str T.f_str (da_cons (d_op op_mod o_mod (d_op op_fdiv o_fdiv (d_var 7) d_int) d_int) da_nil))) (da_cons (d_op op_addD o_add (d_slice (d_ix (d_ix (d_var 0) (d_var 4)) (d_var 6)) do_none (do_some d_int)) d_str) da_nil)))))) (d_op op_mod o_mod (d_var 7) d_int))))))
    (ss_share 5 (Bs.ok_of rfl) (ss_one (s_append 3 (d_callTy call_tuple_of c_tuple T.f_tuple (da_cons (d_var 5) da_nil))))))))
    (ss_share 3 (Bs.ok_of rfl) (ss_one (s_ret (d_callTy call_tuple_of c_tuple T.f_tuple (da_cons (d_var 3) da_nil))))))))
theorem sc__law_made : FnScope ["_law_kind", "_law_base", "_law_cell_here", "_law_way"] ["_law_kind", "_law_base", "_law_cell_here"] (defScope s__law_made) := ⟨rfl, rfl, rfl, by decide +kernel, rfl, by decide +kernel, by decide +kernel⟩
theorem c__law_made (T : Tx K mg) (h__law_content : UnF P' w K mg base 4 (He.ga K "_law_content") ["_law_kind", "_law_cell_here"] F__law_content) (h__law_cells_changed : UnF P' w K mg base 2 (He.ga K "_law_cells_changed") ["_law_base", "_law_cell_here"] F__law_cells_changed) (Df : DefU K "_law_made" "_law_made" s__law_made (He.ga K "_law_made") ["_law_kind", "_law_base", "_law_cell_here"]) : UnF P' w K mg base 5 (He.ga K "_law_made") ["_law_kind", "_law_base", "_law_cell_here"] F__law_made :=
  un_d (mm := []) (m' := []) (s := S__law_made) 4 Df sc__law_made rfl (by decide) fun cdv A outer sh H E F0 hr =>
    (ss_cons (m2 := []) (s_set 3 sc__law_made.nd (d_op op_mod o_mod (d_var 2) d_int))
    (ss_cons (m2 := []) (s_if (t_cmp (op_eq2 hr.units) o_eq (d_var 3) d_int (nomark _))
    (ss_one (s_ret (d_var 1)))
    ss_nil)
    (ss_cons (m2 := []) (s_if (t_w (w_or (t_cmp (op_eq2 hr.units) o_eq (d_var 3) d_int (nomark _)) (w_or1 (t_w (w_and (t_cmp (op_ne2 hr.units) o_ne (d_var 0) d_str (nomark _)) (w_and1 (t_cmp op_gt2 o_gt (d_var 3) d_int (nomark _))))))))
    (ss_one (s_ret (d_c (calF_of h__law_content T.g__law_content) hr (by decide) (takes_of rfl rfl rfl rfl) (da_cons (d_var 0) (da_cons (d_op op_fdiv o_fdiv (d_var 2) d_int) da_nil)))))
    ss_nil)
    (ss_cons (m2 := []) (s_if (t_cmp (op_ne2 hr.units) o_ne (d_var 0) d_str (nomark _))
    (ss_one (s_ret (d_op op_addD o_add (d_slice (d_var 1) do_none (do_some d_int)) (d_ix (d_new (n_list (da_cons d_str (da_cons d_str da_nil)))) (d_op op_mod o_mod (d_op op_fdiv o_fdiv (d_var 2) d_int) d_int)))))
    ss_nil)
    (ss_cons (m2 := []) (s_if (t_w (w_and (t_cmp (op_eq2 hr.units) o_eq (d_var 3) d_int (nomark _)) (w_and1 (t_cmp op_gt2 o_gt (d_callB call_len c_len T.f_len (da_cons (d_var 1) da_nil)) d_int (nomark _)))))
    (ss_one (s_ret (d_slice (d_var 1) (do_some d_int) do_none)))
    ss_nil)
    (ss_cons (m2 := []) (s_if (t_w (w_and (t_cmp (op_eq2 hr.units) o_eq (d_var 3) d_int (nomark _)) (w_and1 (t_cmp op_lt2 o_lt (d_callB call_len c_len T.f_len (da_cons (d_var 1) da_nil)) d_int (nomark _)))))
    (ss_one (s_ret (d_op op_addD o_add (d_var 1) (d_tup (da_cons (d_ix (d_var 1) d_int) da_nil)))))
    ss_nil)
    (ss_one (s_ret (d_c (calF_of h__law_cells_changed T.g__law_cells_changed) hr (by decide) (takes_of rfl rfl rfl rfl) (da_cons (d_var 1) (da_cons (d_op op_fdiv o_fdiv (d_var 2) d_int) da_nil)))))))))))
theorem sc__law_joined_st : FnScope ["_law_kind", "_law_base", "_law_one", "_law_other", "_law_sizes", "_law_rows", "_law_words", "_law_j", "_law_cells", "_law_k", "_law_cell_here", "_law_wrong"] ["_law_kind", "_law_base", "_law_one", "_law_other"] (defScope s__law_joined) := ⟨rfl, rfl, rfl, by decide +kernel, rfl, by decide +kernel, by decide +kernel⟩
theorem c__law_joined_st (T : Tx K mg) (Df : DefU K "_law_joined" "_law_joined" s__law_joined (He.ga K "_law_joined") ["_law_kind", "_law_base", "_law_one", "_law_other"]) : UnF P' w K mg base 1 (He.ga K "_law_joined") ["_law_kind", "_law_base", "_law_one", "_law_other"] F__law_joined_st :=
  un_d (mm := []) (m' := []) (s := S__law_joined_st) 12 Df sc__law_joined_st rfl (by decide) fun cdv A outer sh H E F0 hr =>
    dss_st
theorem sc__law_joined_1 : FnScope ["_law_kind", "_law_base", "_law_one", "_law_other", "_law_sizes", "_law_rows", "_law_words", "_law_j", "_law_cells", "_law_k", "_law_cell_here", "_law_wrong"] ["_law_kind", "_law_base", "_law_one", "_law_other"] (defScope s__law_joined) := ⟨rfl, rfl, rfl, by decide +kernel, rfl, by decide +kernel, by decide +kernel⟩
theorem c__law_joined_1 (T : Tx K mg) (h__law_joined_st : UnF P' w K mg base 1 (He.ga K "_law_joined") ["_law_kind", "_law_base", "_law_one", "_law_other"] F__law_joined_st) (Df : DefU K "_law_joined" "_law_joined" s__law_joined (He.ga K "_law_joined") ["_law_kind", "_law_base", "_law_one", "_law_other"]) : UnF P' w K mg base 2 (He.ga K "_law_joined") ["_law_kind", "_law_base", "_law_one", "_law_other"] F__law_joined_1 :=
  un_d (mm := [false, false, false, false, false, false, false, false, false, false, false, false]) (m' := []) (s := S__law_joined_1) 12 Df sc__law_joined_1 rfl (by decide) fun cdv A outer sh H E F0 hr =>
    (ss_cons (m2 := [false, false, false, false, false, false, false, false, false, false, false, false]) (s_if (t_cmp (op_eq2 hr.units) o_eq (d_var 2) (d_var 3) (nomark _))
    (ss_one (s_ret (d_tup (da_cons (d_var 2) (da_cons (d_new (n_list da_nil)) da_nil)))))
    ss_nil)
    (ss_cons (m2 := [false, false, false, false, false, false, false, false, false, false, false, false]) (s_if (t_w (w_or (t_cmp (op_eq2 hr.units) o_eq (d_var 2) (d_var 1) (nomark _)) (w_or1 (t_cmp (op_eq2 hr.units) o_eq (d_var 3) (d_var 1) (nomark _)))))
    (ss_one (s_ret (d_tup (da_cons (d_ix (d_new (n_list (da_cons (d_var 2) (da_cons (d_var 3) da_nil)))) (d_callTy call_int1 c_int T.f_int (da_cons (d_cmp (op_eq2 hr.units) o_eq (d_var 2) (d_var 1) (nomark _)) da_nil))) (da_cons (d_new (n_list da_nil)) da_nil)))))
    ss_nil)
    (ss_cons (m2 := [false, false, false, false, false, false, false, false, false, false, false, false]) (s_setLc 4 (own := [("_law_rows", 5)]) rfl sc__law_joined_1.nd (di_seq (d_new (n_list (da_cons (d_var 1) (da_cons (d_var 2) (da_cons (d_var 3) da_nil)))))) (by show blkC ["_law_kind", "_law_base", "_law_one", "_law_other", "_law_sizes", "_law_rows", "_law_words", "_law_j", "_law_cells", "_law_k", "_law_cell_here", "_law_wrong"] (defScope s__law_joined) _ _ = true; decide +kernel) (fun _ _ _ _ _ => (dg_name 5 sc__law_joined_1.nd)) (fun _ _ _ _ _ => (dts_one (t_cmp (op_eq2 hr.units) o_eq (d_var 0) d_str (nomark _)))) (fun _ _ _ _ _ => (d_tup (da_cons (d_callB call_len c_len T.f_len (da_cons (d_var 5) da_nil)) (da_cons (d_callB call_len c_len T.f_len (da_cons (d_ix (d_var 5) d_int) da_nil)) da_nil)))) (by decide))
    (ss_cons (m2 := [false, false, false, false, false, false, false, false, false, false, false, false]) (s_if (t_w (w_or (t_cmp (op_eq2 hr.units) o_eq (d_var 4) (d_new (n_list da_nil)) (nomark _)) (w_or1 (t_cmp op_lt2 o_lt (d_met PySem.F.plainAttrs_list PySem.F.slot_list_count PySem.F.type_list_count (mt_countD (hu65 hr)) o_count (d_var 4) (da_cons (d_ix (d_var 4) d_int) da_nil)) d_int (nomark _)))))
    (ss_one (s_ret (d_tup (da_cons (d_var 1) (da_cons (d_new (n_list (da_cons d_str da_nil))) da_nil)))))
    ss_nil)
    (ss_cons (m2 := [false, false, false, false, false, true, false, false, false, false, false, false]) (s_setN 5 sc__law_joined_1.nd (n_list da_nil) (by decide))
    (ss_cons (m2 := [false, false, false, false, false, true, true, false, false, false, false, false]) (s_setN 6 sc__law_joined_1.nd (n_list da_nil) (by decide))
    (ss_cons (m2 := [false, false, false, false, false, true, true, false, false, false, false, false]) (s_for (passes_of rfl) rfl (di_range1 T.f_range (da_cons (d_callB call_len c_len T.f_len (da_cons (d_var 1) da_nil)) da_nil)) (dg_name 7 sc__law_joined_1.nd)
    (ss_cons (m2 := [false, false, false, false, false, true, true, false, true, false, false, false]) (s_setN 8 sc__law_joined_1.nd (n_list da_nil) (by decide))
    (ss_cons (m2 := [false, false, false, false, false, true, true, false, true, false, false, false]) (s_for (passes_of rfl) rfl (di_range1 T.f_range (da_cons (d_callB call_len c_len T.f_len (da_cons (d_ix (d_var 1) d_int) da_nil)) da_nil)) (dg_name 9 sc__law_joined_1.nd)
    (ss_cons (m2 := [false, false, false, false, false, true, true, false, true, false, false, false]) (s_asg (d_c (calF_of h__law_joined_st T.g__law_joined) hr (by decide) (takes_of rfl rfl rfl rfl) (da_cons d_str (da_cons (d_ix (d_ix (d_var 1) (d_var 7)) (d_var 9)) (da_cons (d_ix (d_ix (d_var 2) (d_var 7)) (d_var 9)) (da_cons (d_ix (d_ix (d_var 3) (d_var 7)) (d_var 9)) da_nil))))) (dg_tup rfl (dgs_cons (dg_name 10 sc__law_joined_1.nd) (dgs_cons (dg_name 11 sc__law_joined_1.nd) dgs_nil))))
    (ss_cons (m2 := [false, false, false, false, false, true, true, false, true, false, false, false]) (s_append 8 (d_var 10))
    (ss_one (s_if (t_cmp (op_ne2 hr.units) o_ne (d_var 11) (d_new (n_list da_nil)) (nomark _))
    (ss_one (s_append 6 (d_op op_addD o_add (d_op op_addD o_add (d_op op_addD o_add d_str (d_callTy call_str_int c_str T.f_str (da_cons (d_var 7) da_nil))) d_str) (d_callTy call_str_int c_str T.f_str (da_cons (d_var 9) da_nil)))))
    ss_nil)))))
    (ss_share 8 (Bs.ok_of rfl) (ss_one (s_append 5 (d_callTy call_tuple_of c_tuple T.f_tuple (da_cons (d_var 8) da_nil))))))))
    (ss_share 6 (Bs.ok_of rfl) (ss_share 5 (Bs.ok_of rfl) (ss_one (s_ret (d_tup (da_cons (d_callTy call_tuple_of c_tuple T.f_tuple (da_cons (d_var 5) da_nil)) (da_cons (d_var 6) da_nil))))))))))))))
theorem sc__law_joined : FnScope ["_law_kind", "_law_base", "_law_one", "_law_other", "_law_sizes", "_law_rows", "_law_words", "_law_j", "_law_cells", "_law_k", "_law_cell_here", "_law_wrong"] ["_law_kind", "_law_base", "_law_one", "_law_other"] (defScope s__law_joined) := ⟨rfl, rfl, rfl, by decide +kernel, rfl, by decide +kernel, by decide +kernel⟩
theorem c__law_joined (T : Tx K mg) (h__law_joined_1 : UnF P' w K mg base 2 (He.ga K "_law_joined") ["_law_kind", "_law_base", "_law_one", "_law_other"] F__law_joined_1) (Df : DefU K "_law_joined" "_law_joined" s__law_joined (He.ga K "_law_joined") ["_law_kind", "_law_base", "_law_one", "_law_other"]) : UnF P' w K mg base 3 (He.ga K "_law_joined") ["_law_kind", "_law_base", "_law_one", "_law_other"] F__law_joined :=
  un_d (mm := [false, false, false, false, false, false, false, false, false, false, false, false]) (m' := []) (s := S__law_joined) 12 Df sc__law_joined rfl (by decide) fun cdv A outer sh H E F0 hr =>
    (ss_cons (m2 := [false, false, false, false, false, false, false, false, false, false, false, false]) (s_if (t_cmp (op_eq2 hr.units) o_eq (d_var 2) (d_var 3) (nomark _))
    (ss_one (s_ret (d_tup (da_cons (d_var 2) (da_cons (d_new (n_list da_nil)) da_nil)))))
    ss_nil)
    (ss_cons (m2 := [false, false, false, false, false, false, false, false, false, false, false, false]) (s_if (t_w (w_or (t_cmp (op_eq2 hr.units) o_eq (d_var 2) (d_var 1) (nomark _)) (w_or1 (t_cmp (op_eq2 hr.units) o_eq (d_var 3) (d_var 1) (nomark _)))))
    (ss_one (s_ret (d_tup (da_cons (d_ix (d_new (n_list (da_cons (d_var 2) (da_cons (d_var 3) da_nil)))) (d_callTy call_int1 c_int T.f_int (da_cons (d_cmp (op_eq2 hr.units) o_eq (d_var 2) (d_var 1) (nomark _)) da_nil))) (da_cons (d_new (n_list da_nil)) da_nil)))))
    ss_nil)
    (ss_cons (m2 := [false, false, false, false, false, false, false, false, false, false, false, false]) (s_setLc 4 (own := [("_law_rows", 5)]) rfl sc__law_joined.nd (di_seq (d_new (n_list (da_cons (d_var 1) (da_cons (d_var 2) (da_cons (d_var 3) da_nil)))))) (by show blkC ["_law_kind", "_law_base", "_law_one", "_law_other", "_law_sizes", "_law_rows", "_law_words", "_law_j", "_law_cells", "_law_k", "_law_cell_here", "_law_wrong"] (defScope s__law_joined) _ _ = true; decide +kernel) (fun _ _ _ _ _ => (dg_name 5 sc__law_joined.nd)) (fun _ _ _ _ _ => (dts_one (t_cmp (op_eq2 hr.units) o_eq (d_var 0) d_str (nomark _)))) (fun _ _ _ _ _ => (d_tup (da_cons (d_callB call_len c_len T.f_len (da_cons (d_var 5) da_nil)) (da_cons (d_callB call_len c_len T.f_len (da_cons (d_ix (d_var 5) d_int) da_nil)) da_nil)))) (by decide))
    (ss_cons (m2 := [false, false, false, false, false, false, false, false, false, false, false, false]) (s_if (t_w (w_or (t_cmp (op_eq2 hr.units) o_eq (d_var 4) (d_new (n_list da_nil)) (nomark _)) (w_or1 (t_cmp op_lt2 o_lt (d_met PySem.F.plainAttrs_list PySem.F.slot_list_count PySem.F.type_list_count (mt_countD (hu65 hr)) o_count (d_var 4) (da_cons (d_ix (d_var 4) d_int) da_nil)) d_int (nomark _)))))
    (ss_one (s_ret (d_tup (da_cons (d_var 1) (da_cons (d_new (n_list (da_cons d_str da_nil))) da_nil)))))
    ss_nil)
    (ss_cons (m2 := [false, false, false, false, false, true, false, false, false, false, false, false]) (s_setN 5 sc__law_joined.nd (n_list da_nil) (by decide))
    (ss_cons (m2 := [false, false, false, false, false, true, true, false, false, false, false, false]) (s_setN 6 sc__law_joined.nd (n_list da_nil) (by decide))
    (ss_cons (m2 := [false, false, false, false, false, true, true, false, false, false, false, false]) (s_for (passes_of rfl) rfl (di_range1 T.f_range (da_cons (d_callB call_len c_len T.f_len (da_cons (d_var 1) da_nil)) da_nil)) (dg_name 7 sc__law_joined.nd)
    (ss_cons (m2 := [false, false, false, false, false, true, true, false, true, false, false, false]) (s_setN 8 sc__law_joined.nd (n_list da_nil) (by decide))
    (ss_cons (m2 := [false, false, false, false, false, true, true, false, true, false, false, false]) (s_for (passes_of rfl) rfl (di_range1 T.f_range (da_cons (d_callB call_len c_len T.f_len (da_cons (d_ix (d_var 1) d_int) da_nil)) da_nil)) (dg_name 9 sc__law_joined.nd)
    (ss_cons (m2 := [false, false, false, false, false, true, true, false, true, false, false, false]) (s_asg (d_c (calF_of h__law_joined_1 T.g__law_joined) hr (by decide) (takes_of rfl rfl rfl rfl) (da_cons d_str (da_cons (d_ix (d_ix (d_var 1) (d_var 7)) (d_var 9)) (da_cons (d_ix (d_ix (d_var 2) (d_var 7)) (d_var 9)) (da_cons (d_ix (d_ix (d_var 3) (d_var 7)) (d_var 9)) da_nil))))) (dg_tup rfl (dgs_cons (dg_name 10 sc__law_joined.nd) (dgs_cons (dg_name 11 sc__law_joined.nd) dgs_nil))))
    (ss_cons (m2 := [false, false, false, false, false, true, true, false, true, false, false, false]) (s_append 8 (d_var 10))
    (ss_one (s_if (t_cmp (op_ne2 hr.units) o_ne (d_var 11) (d_new (n_list da_nil)) (nomark _))
    (ss_one (s_append 6 (d_op op_addD o_add (d_op op_addD o_add (d_op op_addD o_add d_str (d_callTy call_str_int c_str T.f_str (da_cons (d_var 7) da_nil))) d_str) (d_callTy call_str_int c_str T.f_str (da_cons (d_var 9) da_nil)))))
    ss_nil)))))
    (ss_share 8 (Bs.ok_of rfl) (ss_one (s_append 5 (d_callTy call_tuple_of c_tuple T.f_tuple (da_cons (d_var 8) da_nil))))))))
    (ss_share 6 (Bs.ok_of rfl) (ss_share 5 (Bs.ok_of rfl) (ss_one (s_ret (d_tup (da_cons (d_callTy call_tuple_of c_tuple T.f_tuple (da_cons (d_var 5) da_nil)) (da_cons (d_var 6) da_nil))))))))))))))
theorem sc_Kind_clashed : FnScope ["self", "base", "one", "other"] ["self", "base", "one", "other"] (defScope s_Kind_clashed) := ⟨rfl, rfl, rfl, by decide +kernel, rfl, by decide +kernel, by decide +kernel⟩
theorem c_Kind_clashed (T : Tx K mg) (Df : DefU K "clashed" "Kind.clashed" s_Kind_clashed (He.fAd K ("Kind", some "clashed")) ["self", "base", "one", "other"]) : UnQ P' w K mg base 1 (He.fAd K ("Kind", some "clashed")) ["self", "base", "one", "other"] FQ_Kind_clashed :=
  un_q (s := SQ_Kind_clashed) 4 Df sc_Kind_clashed rfl fun cdv A outer sh H E B hr =>
    (qss_one (qs_ret (q_tup (qa_cons (q_pure fun _ _ => (d_var 1)) (qa_cons (q_new fun _ _ => (n_list (da_cons d_str da_nil))) qa_nil)))))
theorem sc_Kind_joined_1 : FnScope ["self", "base", "one", "other"] ["self", "base", "one", "other"] (defScope s_Kind_joined) := ⟨rfl, rfl, rfl, by decide +kernel, rfl, by decide +kernel, by decide +kernel⟩
theorem c_Kind_joined_1 (T : Tx K mg) (h_Kind_clashed : UnQ P' w K mg base 1 (He.fAd K ("Kind", some "clashed")) ["self", "base", "one", "other"] FQ_Kind_clashed) (Df : DefU K "joined" "Kind.joined" s_Kind_joined (He.fAd K ("Kind", some "joined")) ["self", "base", "one", "other"]) : UnQ P' w K mg base 2 (He.fAd K ("Kind", some "joined")) ["self", "base", "one", "other"] FQ_Kind_joined_1 :=
  un_q (s := SQ_Kind_joined_1) 4 Df sc_Kind_joined_1 rfl fun cdv A outer sh H E B hr =>
    (qss_cons (qs_if (qt_pure fun _ _ => (t_w (w_or (t_cmp (op_eq2 hr.units) o_eq (d_var 2) (d_var 3) (nomark _)) (w_or1 (t_cmp (op_eq2 hr.units) o_eq (d_var 3) (d_var 1) (nomark _))))))
    (qss_one (qs_ret (q_tup (qa_cons (q_pure fun _ _ => (d_var 2)) (qa_cons (q_new fun _ _ => (n_list da_nil)) qa_nil)))))
    qss_nil)
    (qss_cons (qs_if (qt_pure fun _ _ => (t_cmp (op_eq2 hr.units) o_eq (d_var 2) (d_var 1) (nomark _)))
    (qss_one (qs_ret (q_tup (qa_cons (q_pure fun _ _ => (d_var 3)) (qa_cons (q_new fun _ _ => (n_list da_nil)) qa_nil)))))
    qss_nil)
    (qss_one (qs_ret (q_meth (fm (q_meth1 (metQ_of h_Kind_clashed T.cls_Chapter T.met_Chapter_clashed) hr (by decide) (takes_of rfl rfl rfl rfl) (q_pure fun _ _ => (d_var 0)) (qa_pure fun _ _ => (da_cons (d_var 1) (da_cons (d_var 2) (da_cons (d_var 3) da_nil)))) rfl rfl rfl) (fm (q_meth1 (metQ_of h_Kind_clashed T.cls_Para T.met_Para_clashed) hr (by decide) (takes_of rfl rfl rfl rfl) (q_pure fun _ _ => (d_var 0)) (qa_pure fun _ _ => (da_cons (d_var 1) (da_cons (d_var 2) (da_cons (d_var 3) da_nil)))) rfl rfl rfl) fn0)))))))
theorem sc_Table_clashed : FnScope ["self", "base", "one", "other", "rows", "words", "at", "row", "column", "cell", "wrong"] ["self", "base", "one", "other"] (defScope s_Table_clashed) := ⟨rfl, rfl, rfl, by decide +kernel, rfl, by decide +kernel, by decide +kernel⟩
theorem c_Table_clashed (T : Tx K mg) (h_Kind_joined_1 : UnQ P' w K mg base 2 (He.fAd K ("Kind", some "joined")) ["self", "base", "one", "other"] FQ_Kind_joined_1) (Df : DefU K "clashed" "Table.clashed" s_Table_clashed (He.fAd K ("Table", some "clashed")) ["self", "base", "one", "other"]) : UnQ P' w K mg base 3 (He.fAd K ("Table", some "clashed")) ["self", "base", "one", "other"] FQ_Table_clashed :=
  un_q (s := SQ_Table_clashed) 11 Df sc_Table_clashed rfl fun cdv A outer sh H E B hr =>
    (qss_cons (qs_if (qt_pure fun _ _ => (t_w (w_or (t_cmp (op_ne2 hr.units) o_ne (d_callB call_len c_len T.f_len (da_cons (d_var 2) da_nil)) (d_callB call_len c_len T.f_len (da_cons (d_var 1) da_nil)) (nomark _)) (w_or1 (t_cmp (op_ne2 hr.units) o_ne (d_callB call_len c_len T.f_len (da_cons (d_var 3) da_nil)) (d_callB call_len c_len T.f_len (da_cons (d_var 1) da_nil)) (nomark _))))))
    (qss_one (qs_ret (q_tup (qa_cons (q_pure fun _ _ => (d_var 1)) (qa_cons (q_new fun _ _ => (n_list (da_cons d_str da_nil))) qa_nil)))))
    qss_nil)
    (qss_cons (qs_if (qt_pure fun _ _ => (t_w (w_or (t_cmp (op_ne2 hr.units) o_ne (d_callB call_len c_len T.f_len (da_cons (d_ix (d_var 2) d_int) da_nil)) (d_callB call_len c_len T.f_len (da_cons (d_ix (d_var 1) d_int) da_nil)) (nomark _)) (w_or1 (t_cmp (op_ne2 hr.units) o_ne (d_callB call_len c_len T.f_len (da_cons (d_ix (d_var 3) d_int) da_nil)) (d_callB call_len c_len T.f_len (da_cons (d_ix (d_var 1) d_int) da_nil)) (nomark _))))))
    (qss_one (qs_ret (q_tup (qa_cons (q_pure fun _ _ => (d_var 1)) (qa_cons (q_new fun _ _ => (n_list (da_cons d_str da_nil))) qa_nil)))))
    qss_nil)
    (qss_cons (qs_set 4 sc_Table_clashed.nd (q_new fun _ _ => (n_list da_nil)))
    (qss_cons (qs_set 5 sc_Table_clashed.nd (q_new fun _ _ => (n_list da_nil)))
    (qss_cons (qs_for (passes_of rfl) rfl (fun _ _ => (di_range1 T.f_range (da_cons (d_callB call_len c_len T.f_len (da_cons (d_var 1) da_nil)) da_nil))) (qg_name 6 sc_Table_clashed.nd)
    (qss_cons (qs_set 7 sc_Table_clashed.nd (q_new fun _ _ => (n_list da_nil)))
    (qss_cons (qs_for (passes_of rfl) rfl (fun _ _ => (di_range1 T.f_range (da_cons (d_callB call_len c_len T.f_len (da_cons (d_ix (d_var 1) d_int) da_nil)) da_nil))) (qg_name 8 sc_Table_clashed.nd)
    (qss_cons (qs_asg (q_meth (fm (q_meth1 (metQ_of h_Kind_joined_1 T.cls_Chapter T.met_Chapter_joined) hr (by decide) (takes_of rfl rfl rfl rfl) (q_pure fun _ _ => (d_new (n_new0 T.new_Para))) (qa_pure fun _ _ => (da_cons (d_ix (d_ix (d_var 1) (d_var 6)) (d_var 8)) (da_cons (d_ix (d_ix (d_var 2) (d_var 6)) (d_var 8)) (da_cons (d_ix (d_ix (d_var 3) (d_var 6)) (d_var 8)) da_nil)))) rfl rfl rfl) (fm (q_meth1 (metQ_of h_Kind_joined_1 T.cls_Para T.met_Para_joined) hr (by decide) (takes_of rfl rfl rfl rfl) (q_pure fun _ _ => (d_new (n_new0 T.new_Para))) (qa_pure fun _ _ => (da_cons (d_ix (d_ix (d_var 1) (d_var 6)) (d_var 8)) (da_cons (d_ix (d_ix (d_var 2) (d_var 6)) (d_var 8)) (da_cons (d_ix (d_ix (d_var 3) (d_var 6)) (d_var 8)) da_nil)))) rfl rfl rfl) (fm (q_meth1 (metQ_of h_Kind_joined_1 T.cls_Table T.met_Table_joined) hr (by decide) (takes_of rfl rfl rfl rfl) (q_pure fun _ _ => (d_new (n_new0 T.new_Para))) (qa_pure fun _ _ => (da_cons (d_ix (d_ix (d_var 1) (d_var 6)) (d_var 8)) (da_cons (d_ix (d_ix (d_var 2) (d_var 6)) (d_var 8)) (da_cons (d_ix (d_ix (d_var 3) (d_var 6)) (d_var 8)) da_nil)))) rfl rfl rfl) fn0)))) (qg_tup rfl (qgs_cons (qg_name 9 sc_Table_clashed.nd) (qgs_cons (qg_name 10 sc_Table_clashed.nd) qgs_nil))))
    (qss_cons (qs_append (q_var 7) (q_var 9))
    (qss_one (qs_if (qt_snap fun _ _ => (t_cmp (op_ne2 hr.units) o_ne (d_var 10) (d_new (n_list da_nil)) (nomark _)))
    (qss_one (qs_append (q_var 5) (q_pure fun _ _ => (d_op op_addD o_add (d_op op_addD o_add (d_op op_addD o_add d_str (d_callTy call_str_int c_str T.f_str (da_cons (d_var 6) da_nil))) d_str) (d_callTy call_str_int c_str T.f_str (da_cons (d_var 8) da_nil))))))
    qss_nil)))))
    (qss_one (qs_append (q_var 4) (q_snap fun _ _ => (d_callTy call_tuple_of c_tuple T.f_tuple (da_cons (d_var 7) da_nil))))))))
    (qss_one (qs_ret (q_tup (qa_cons (q_snap fun _ _ => (d_callTy call_tuple_of c_tuple T.f_tuple (da_cons (d_var 4) da_nil))) (qa_cons (q_var 5) qa_nil))))))))))
theorem sc_Kind_joined : FnScope ["self", "base", "one", "other"] ["self", "base", "one", "other"] (defScope s_Kind_joined) := ⟨rfl, rfl, rfl, by decide +kernel, rfl, by decide +kernel, by decide +kernel⟩
theorem c_Kind_joined (T : Tx K mg) (h_Table_clashed : UnQ P' w K mg base 3 (He.fAd K ("Table", some "clashed")) ["self", "base", "one", "other"] FQ_Table_clashed) (h_Kind_clashed : UnQ P' w K mg base 1 (He.fAd K ("Kind", some "clashed")) ["self", "base", "one", "other"] FQ_Kind_clashed) (Df : DefU K "joined" "Kind.joined" s_Kind_joined (He.fAd K ("Kind", some "joined")) ["self", "base", "one", "other"]) : UnQ P' w K mg base 4 (He.fAd K ("Kind", some "joined")) ["self", "base", "one", "other"] FQ_Kind_joined :=
  un_q (s := SQ_Kind_joined) 4 Df sc_Kind_joined rfl fun cdv A outer sh H E B hr =>
    (qss_cons (qs_if (qt_pure fun _ _ => (t_w (w_or (t_cmp (op_eq2 hr.units) o_eq (d_var 2) (d_var 3) (nomark _)) (w_or1 (t_cmp (op_eq2 hr.units) o_eq (d_var 3) (d_var 1) (nomark _))))))
    (qss_one (qs_ret (q_tup (qa_cons (q_pure fun _ _ => (d_var 2)) (qa_cons (q_new fun _ _ => (n_list da_nil)) qa_nil)))))
    qss_nil)
    (qss_cons (qs_if (qt_pure fun _ _ => (t_cmp (op_eq2 hr.units) o_eq (d_var 2) (d_var 1) (nomark _)))
    (qss_one (qs_ret (q_tup (qa_cons (q_pure fun _ _ => (d_var 3)) (qa_cons (q_new fun _ _ => (n_list da_nil)) qa_nil)))))
    qss_nil)
    (qss_one (qs_ret (q_meth (fm (q_meth1 (metQ_of h_Kind_clashed T.cls_Chapter T.met_Chapter_clashed) hr (by decide) (takes_of rfl rfl rfl rfl) (q_pure fun _ _ => (d_var 0)) (qa_pure fun _ _ => (da_cons (d_var 1) (da_cons (d_var 2) (da_cons (d_var 3) da_nil)))) rfl rfl rfl) (fm (q_meth1 (metQ_of h_Kind_clashed T.cls_Para T.met_Para_clashed) hr (by decide) (takes_of rfl rfl rfl rfl) (q_pure fun _ _ => (d_var 0)) (qa_pure fun _ _ => (da_cons (d_var 1) (da_cons (d_var 2) (da_cons (d_var 3) da_nil)))) rfl rfl rfl) (fm (q_meth1 (metQ_of h_Table_clashed T.cls_Table T.met_Table_clashed) hr (by decide) (takes_of rfl rfl rfl rfl) (q_pure fun _ _ => (d_var 0)) (qa_pure fun _ _ => (da_cons (d_var 1) (da_cons (d_var 2) (da_cons (d_var 3) da_nil)))) rfl rfl rfl) fn0))))))))
theorem sc__law_cell : FnScope ["_law_script", "_law_k"] ["_law_script", "_law_k"] (defScope s__law_cell) := ⟨rfl, rfl, rfl, by decide +kernel, rfl, by decide +kernel, by decide +kernel⟩
theorem c__law_cell (T : Tx K mg) (Df : DefU K "_law_cell" "_law_cell" s__law_cell (He.ga K "_law_cell") ["_law_script", "_law_k"]) : UnF P' w K mg base 1 (He.ga K "_law_cell") ["_law_script", "_law_k"] F__law_cell :=
  un_d (mm := []) (m' := []) (s := S__law_cell) 2 Df sc__law_cell rfl (by decide) fun cdv A outer sh H E F0 hr =>
    (ss_cons (m2 := []) (s_if (t_cmp op_lt2 o_lt (d_var 1) (d_callB call_len c_len T.f_len (da_cons (d_var 0) da_nil)) (nomark _))
    (ss_one (s_ret (d_ix (d_var 0) (d_var 1))))
    ss_nil)
    (ss_one (s_ret (d_op op_mul o_mul (d_op op_addD o_add (d_var 1) d_int) d_int))))
theorem sc__law_same : FnScope ["_law_found", "_law_due"] ["_law_found", "_law_due"] (defScope s__law_same) := ⟨rfl, rfl, rfl, by decide +kernel, rfl, by decide +kernel, by decide +kernel⟩
theorem c__law_same (T : Tx K mg) (Df : DefU K "_law_same" "_law_same" s__law_same (He.ga K "_law_same") ["_law_found", "_law_due"]) : UnF P' w K mg base 1 (He.ga K "_law_same") ["_law_found", "_law_due"] F__law_same :=
  un_d (mm := []) (m' := []) (s := S__law_same) 2 Df sc__law_same rfl (by decide) fun cdv A outer sh H E F0 hr =>
    (ss_cons (m2 := []) (s_if (t_w (w_or (t_not (t_val (d_isinst T.f_isinstance T.f_tuple (d_var 0)))) (w_or (t_cmp (op_ne2 hr.units) o_ne (d_callB call_len c_len T.f_len (da_cons (d_var 0) da_nil)) d_int (nomark _)) (w_or1 (t_not (t_val (d_isinst T.f_isinstance T.f_list (d_ix (d_var 0) d_int))))))))
    (ss_one (s_ret d_bl))
    ss_nil)
    (ss_one (s_ret (d_and (d_cmp (op_eq2 hr.units) o_eq (d_ix (d_var 0) d_int) (d_ix (d_var 1) d_int) (nomark _)) (d_one (d_cmp (op_eq2 hr.units) o_eq (d_ix (d_var 0) d_int) (d_ix (d_var 1) d_int) (nomark _)))))))
theorem sc_is_text : FnScope ["thing", "sign"] ["thing"] (defScope s_is_text) := ⟨rfl, rfl, rfl, by decide +kernel, rfl, by decide +kernel, by decide +kernel⟩
theorem c_is_text (T : Tx K mg) (Df : DefU K "is_text" "is_text" s_is_text (He.ga K "is_text") ["thing"]) : UnF P' w K mg base 1 (He.ga K "is_text") ["thing"] F_is_text :=
  un_d (mm := []) (m' := []) (s := S_is_text) 2 Df sc_is_text rfl (by decide) fun cdv A outer sh H E F0 hr =>
    (ss_cons (m2 := []) (s_if (t_w (w_or (t_not (t_val (d_isinst T.f_isinstance T.f_str (d_var 0)))) (w_or1 (t_cmp op_gt2 o_gt (d_callB call_len c_len T.f_len (da_cons (d_var 0) da_nil)) d_int (nomark _)))))
    (ss_one (s_ret d_bl))
    ss_nil)
    (ss_cons (m2 := []) (s_for (passes_of rfl) rfl (di_seq (d_var 0)) (dg_name 1 sc_is_text.nd)
    (ss_one (s_if (t_w (w_or (t_cmp op_lt2 o_lt (d_var 1) d_str (nomark _)) (w_or (t_cmp op_gt2 o_gt (d_var 1) d_str (nomark _)) (w_or1 (t_cmp (op_eq2 hr.units) o_eq (d_callB call_ord c_ord T.f_ord (da_cons (d_var 1) da_nil)) d_int (nomark _))))))
    (ss_one (s_ret d_bl))
    ss_nil)))
    (ss_one (s_ret d_bl))))
theorem sc_Kind_fits : FnScope ["self", "content"] ["self", "content"] (defScope s_Kind_fits) := ⟨rfl, rfl, rfl, by decide +kernel, rfl, by decide +kernel, by decide +kernel⟩
theorem c_Kind_fits (T : Tx K mg) (h_is_text : UnF P' w K mg base 1 (He.ga K "is_text") ["thing"] F_is_text) (Df : DefU K "fits" "Kind.fits" s_Kind_fits (He.fAd K ("Kind", some "fits")) ["self", "content"]) : UnF P' w K mg base 2 (He.fAd K ("Kind", some "fits")) ["self", "content"] F_Kind_fits :=
  un_d (mm := []) (m' := []) (s := S_Kind_fits) 2 Df sc_Kind_fits rfl (by decide) fun cdv A outer sh H E F0 hr =>
    (ss_one (s_ret (d_c (calF_of h_is_text T.g_is_text) hr (by decide) (takes_of rfl rfl rfl rfl) (da_cons (d_var 1) da_nil))))
theorem sc_is_row : FnScope ["thing", "wide", "cell"] ["thing", "wide"] (defScope s_is_row) := ⟨rfl, rfl, rfl, by decide +kernel, rfl, by decide +kernel, by decide +kernel⟩
theorem c_is_row (T : Tx K mg) (h_is_text : UnF P' w K mg base 1 (He.ga K "is_text") ["thing"] F_is_text) (Df : DefU K "is_row" "is_row" s_is_row (He.ga K "is_row") ["thing", "wide"]) : UnF P' w K mg base 2 (He.ga K "is_row") ["thing", "wide"] F_is_row :=
  un_d (mm := []) (m' := []) (s := S_is_row) 3 Df sc_is_row rfl (by decide) fun cdv A outer sh H E F0 hr =>
    (ss_cons (m2 := []) (s_if (t_w (w_or (t_not (t_val (d_isinst T.f_isinstance T.f_tuple (d_var 0)))) (w_or1 (t_cmp (op_ne2 hr.units) o_ne (d_callB call_len c_len T.f_len (da_cons (d_var 0) da_nil)) (d_var 1) (nomark _)))))
    (ss_one (s_ret d_bl))
    ss_nil)
    (ss_one (s_ret (d_callB (cr_all rfl) c_all T.f_all (da_cons (d_new (n_lc (own := [("cell", 2)]) rfl sc_is_row.nd (di_seq (d_var 0)) (by show blkC ["thing", "wide", "cell"] (defScope s_is_row) _ _ = true; decide +kernel) (fun _ _ _ _ _ => (dg_name 2 sc_is_row.nd)) (fun _ _ _ _ _ => dts_nil) (fun _ _ _ _ _ => (d_c (calF_of h_is_text T.g_is_text) hr (by decide) takes0 (da_cons (d_var 2) da_nil))) (by decide))) da_nil)))))
theorem sc_is_cells : FnScope ["thing"] ["thing"] (defScope s_is_cells) := ⟨rfl, rfl, rfl, by decide +kernel, rfl, by decide +kernel, by decide +kernel⟩
theorem c_is_cells (T : Tx K mg) (h_is_row : UnF P' w K mg base 2 (He.ga K "is_row") ["thing", "wide"] F_is_row) (Df : DefU K "is_cells" "is_cells" s_is_cells (He.ga K "is_cells") ["thing"]) : UnF P' w K mg base 3 (He.ga K "is_cells") ["thing"] F_is_cells :=
  un_d (mm := []) (m' := []) (s := S_is_cells) 1 Df sc_is_cells rfl (by decide) fun cdv A outer sh H E F0 hr =>
    (ss_one (s_ret (d_and (d_isinst T.f_isinstance T.f_tuple (d_var 0)) (d_and (d_chain op_le o_le op_le o_le nx_le d_int (d_callB call_len c_len T.f_len (da_cons (d_var 0) da_nil)) (d_gint (by rfl) T.k_MOST_COLUMNS)) (d_one (d_c (calF_of h_is_row T.g_is_row) hr (by decide) (takes_of rfl rfl rfl rfl) (da_cons (d_var 0) (da_cons (d_callB call_len c_len T.f_len (da_cons (d_var 0) da_nil)) da_nil))))))))
theorem sc_Table_fits : FnScope ["self", "content", "row"] ["self", "content"] (defScope s_Table_fits) := ⟨rfl, rfl, rfl, by decide +kernel, rfl, by decide +kernel, by decide +kernel⟩
theorem c_Table_fits (T : Tx K mg) (h_is_cells : UnF P' w K mg base 3 (He.ga K "is_cells") ["thing"] F_is_cells) (h_is_row : UnF P' w K mg base 2 (He.ga K "is_row") ["thing", "wide"] F_is_row) (Df : DefU K "fits" "Table.fits" s_Table_fits (He.fAd K ("Table", some "fits")) ["self", "content"]) : UnF P' w K mg base 4 (He.fAd K ("Table", some "fits")) ["self", "content"] F_Table_fits :=
  un_d (mm := []) (m' := []) (s := S_Table_fits) 3 Df sc_Table_fits rfl (by decide) fun cdv A outer sh H E F0 hr =>
    (ss_cons (m2 := []) (s_if (t_w (w_or (t_not (t_val (d_isinst T.f_isinstance T.f_tuple (d_var 1)))) (w_or1 (t_not (t_chain op_le o_le op_le o_le nx_le d_int (d_callB call_len c_len T.f_len (da_cons (d_var 1) da_nil)) (d_gint (by rfl) T.k_MOST_ROWS))))))
    (ss_one (s_ret d_bl))
    ss_nil)
    (ss_cons (m2 := []) (s_if (t_not (t_val (d_c (calF_of h_is_cells T.g_is_cells) hr (by decide) (takes_of rfl rfl rfl rfl) (da_cons (d_ix (d_var 1) d_int) da_nil))))
    (ss_one (s_ret d_bl))
    ss_nil)
    (ss_one (s_ret (d_callB (cr_all rfl) c_all T.f_all (da_cons (d_new (n_lc (own := [("row", 2)]) rfl sc_Table_fits.nd (di_seq (d_var 1)) (by show blkC ["self", "content", "row"] (defScope s_Table_fits) _ _ = true; decide +kernel) (fun _ _ _ _ _ => (dg_name 2 sc_Table_fits.nd)) (fun _ _ _ _ _ => dts_nil) (fun _ _ _ _ _ => (d_c (calF_of h_is_row T.g_is_row) hr (by decide) takes0 (da_cons (d_var 2) (da_cons (d_callB call_len c_len T.f_len (da_cons (d_ix (d_var 1) d_int) da_nil)) da_nil)))) (by decide))) da_nil))))))
theorem sc_law : FnScope ["_law_script", "_law_k", "_law_word", "_law_kind", "_law_base", "_law_one", "_law_other", "_law_due", "_law_found"] ["_law_script"] (defScope s_law) := ⟨rfl, rfl, rfl, by decide +kernel, rfl, by decide +kernel, by decide +kernel⟩
theorem law_ok {fa : Addr} {fd : FuncData} (T : Tx K mg) (h_kind_of_word : UnF P' w K mg base 2 (He.ga K "kind_of_word") ["word"] F_kind_of_word) (h__law_content : UnF P' w K mg base 4 (He.ga K "_law_content") ["_law_kind", "_law_cell_here"] F__law_content) (h__law_cell : UnF P' w K mg base 1 (He.ga K "_law_cell") ["_law_script", "_law_k"] F__law_cell) (h__law_made : UnF P' w K mg base 5 (He.ga K "_law_made") ["_law_kind", "_law_base", "_law_cell_here"] F__law_made) (h__law_joined : UnF P' w K mg base 3 (He.ga K "_law_joined") ["_law_kind", "_law_base", "_law_one", "_law_other"] F__law_joined) (h_Kind_joined : UnQ P' w K mg base 4 (He.fAd K ("Kind", some "joined")) ["self", "base", "one", "other"] FQ_Kind_joined) (h__law_same : UnF P' w K mg base 1 (He.ga K "_law_same") ["_law_found", "_law_due"] F__law_same) (h_Table_fits : UnF P' w K mg base 4 (He.fAd K ("Table", some "fits")) ["self", "content"] F_Table_fits) (h_Kind_fits : UnF P' w K mg base 2 (He.fAd K ("Kind", some "fits")) ["self", "content"] F_Kind_fits) (Fn : FunD K "law" "law" (defArgs s_law) (defBody s_law) (defScope s_law) [] [] fa fd) : FnOk P' w K mg base (L2.CX P' w) 6 fa fd ["_law_script"] (spD K FQ_law.down) :=
  FnOk.down (fn_q (s := SQ_law) 9 Fn sc_law rfl fun cdv A outer sh H E B hr =>
    (qss_cons (qs_for (passes_of rfl) rfl (fun _ _ => (di_enum T.f_enumerate (da_cons (d_new (n_list (da_cons d_str (da_cons d_str (da_cons d_str (da_cons d_str da_nil)))))) da_nil))) (qg_tup rfl (qgs_cons (qg_name 1 sc_law.nd) (qgs_cons (qg_name 2 sc_law.nd) qgs_nil)))
    (qss_cons (qs_set 3 sc_law.nd (q_pure fun _ _ => (d_c (calF_of h_kind_of_word T.g_kind_of_word) hr (by decide) (takes_of rfl rfl rfl rfl) (da_cons (d_var 2) da_nil))))
    (qss_cons (qs_set 4 sc_law.nd (q_pure fun _ _ => (d_c (calF_of h__law_content T.g__law_content) hr (by decide) (takes_of rfl rfl rfl rfl) (da_cons (d_var 2) (da_cons (d_c (calF_of h__law_cell T.g__law_cell) hr (by decide) (takes_of rfl rfl rfl rfl) (da_cons (d_var 0) (da_cons (d_op op_mul o_mul d_int (d_var 1)) da_nil))) da_nil)))))
    (qss_cons (qs_set 5 sc_law.nd (q_pure fun _ _ => (d_c (calF_of h__law_made T.g__law_made) hr (by decide) (takes_of rfl rfl rfl rfl) (da_cons (d_var 2) (da_cons (d_var 4) (da_cons (d_c (calF_of h__law_cell T.g__law_cell) hr (by decide) (takes_of rfl rfl rfl rfl) (da_cons (d_var 0) (da_cons (d_op op_addD o_add (d_op op_mul o_mul d_int (d_var 1)) d_int) da_nil))) da_nil))))))
    (qss_cons (qs_set 6 sc_law.nd (q_pure fun _ _ => (d_c (calF_of h__law_made T.g__law_made) hr (by decide) (takes_of rfl rfl rfl rfl) (da_cons (d_var 2) (da_cons (d_var 4) (da_cons (d_c (calF_of h__law_cell T.g__law_cell) hr (by decide) (takes_of rfl rfl rfl rfl) (da_cons (d_var 0) (da_cons (d_op op_addD o_add (d_op op_mul o_mul d_int (d_var 1)) d_int) da_nil))) da_nil))))))
    (qss_cons (qs_set 7 sc_law.nd (q_pure fun _ _ => (d_c (calF_of h__law_joined T.g__law_joined) hr (by decide) (takes_of rfl rfl rfl rfl) (da_cons (d_var 2) (da_cons (d_var 4) (da_cons (d_var 5) (da_cons (d_var 6) da_nil)))))))
    (qss_cons (qs_set 8 sc_law.nd (q_meth (fm (q_meth1 (metQ_of h_Kind_joined T.cls_Chapter T.met_Chapter_joined) hr (by decide) (takes_of rfl rfl rfl rfl) (q_pure fun _ _ => (d_var 3)) (qa_pure fun _ _ => (da_cons (d_var 4) (da_cons (d_var 5) (da_cons (d_var 6) da_nil)))) rfl rfl rfl) (fm (q_meth1 (metQ_of h_Kind_joined T.cls_Para T.met_Para_joined) hr (by decide) (takes_of rfl rfl rfl rfl) (q_pure fun _ _ => (d_var 3)) (qa_pure fun _ _ => (da_cons (d_var 4) (da_cons (d_var 5) (da_cons (d_var 6) da_nil)))) rfl rfl rfl) (fm (q_meth1 (metQ_of h_Kind_joined T.cls_Table T.met_Table_joined) hr (by decide) (takes_of rfl rfl rfl rfl) (q_pure fun _ _ => (d_var 3)) (qa_pure fun _ _ => (da_cons (d_var 4) (da_cons (d_var 5) (da_cons (d_var 6) da_nil)))) rfl rfl rfl) fn0)))))
    (qss_cons (qs_if (qt_snap fun _ _ => (t_w (w_or (t_not (t_val (d_c (calF_of h__law_same T.g__law_same) hr (by decide) (takes_of rfl rfl rfl rfl) (da_cons (d_var 8) (da_cons (d_var 7) da_nil))))) (w_or1 (t_cmp op_notBl o_notT (d_meth (fm (d_meth1 (calM_of h_Kind_fits T.cls_Chapter T.met_Chapter_fits) hr (by decide) (takes_of rfl rfl rfl rfl) (d_var 3) (da_cons (d_ix (d_var 8) d_int) da_nil) rfl rfl rfl) (fm (d_meth1 (calM_of h_Kind_fits T.cls_Para T.met_Para_fits) hr (by decide) (takes_of rfl rfl rfl rfl) (d_var 3) (da_cons (d_ix (d_var 8) d_int) da_nil) rfl rfl rfl) (fm (d_meth1 (calM_of h_Table_fits T.cls_Table T.met_Table_fits) hr (by decide) (takes_of rfl rfl rfl rfl) (d_var 3) (da_cons (d_ix (d_var 8) d_int) da_nil) rfl rfl rfl) fn0)))) d_bl (nomark _))))))
    (qss_one (qs_ret (q_pure fun _ _ => d_bl)))
    qss_nil)
    (qss_cons (qs_append (q_ix (q_var 8) (q_pure fun _ _ => d_int)) (q_pure fun _ _ => d_str))
    (qss_cons (qs_if (qt_pure fun _ _ => (t_w (w_or (t_not (t_val (d_c (calF_of h__law_same T.g__law_same) hr (by decide) (takes_of rfl rfl rfl rfl) (da_cons (d_meth (fm (d_meth1 (calM_of h_Kind_joined.down T.cls_Chapter T.met_Chapter_joined) hr (by decide) (takes_of rfl rfl rfl rfl) (d_var 3) (da_cons (d_var 4) (da_cons (d_var 6) (da_cons (d_var 5) da_nil))) rfl rfl rfl) (fm (d_meth1 (calM_of h_Kind_joined.down T.cls_Para T.met_Para_joined) hr (by decide) (takes_of rfl rfl rfl rfl) (d_var 3) (da_cons (d_var 4) (da_cons (d_var 6) (da_cons (d_var 5) da_nil))) rfl rfl rfl) (fm (d_meth1 (calM_of h_Kind_joined.down T.cls_Table T.met_Table_joined) hr (by decide) (takes_of rfl rfl rfl rfl) (d_var 3) (da_cons (d_var 4) (da_cons (d_var 6) (da_cons (d_var 5) da_nil))) rfl rfl rfl) fn0)))) (da_cons (d_var 7) da_nil))))) (w_or1 (t_not (t_val (d_c (calF_of h__law_same T.g__law_same) hr (by decide) (takes_of rfl rfl rfl rfl) (da_cons (d_meth (fm (d_meth1 (calM_of h_Kind_joined.down T.cls_Chapter T.met_Chapter_joined) hr (by decide) (takes_of rfl rfl rfl rfl) (d_var 3) (da_cons (d_var 4) (da_cons (d_var 5) (da_cons (d_var 6) da_nil))) rfl rfl rfl) (fm (d_meth1 (calM_of h_Kind_joined.down T.cls_Para T.met_Para_joined) hr (by decide) (takes_of rfl rfl rfl rfl) (d_var 3) (da_cons (d_var 4) (da_cons (d_var 5) (da_cons (d_var 6) da_nil))) rfl rfl rfl) (fm (d_meth1 (calM_of h_Kind_joined.down T.cls_Table T.met_Table_joined) hr (by decide) (takes_of rfl rfl rfl rfl) (d_var 3) (da_cons (d_var 4) (da_cons (d_var 5) (da_cons (d_var 6) da_nil))) rfl rfl rfl) fn0)))) (da_cons (d_var 7) da_nil)))))))))
    (qss_one (qs_ret (q_pure fun _ _ => d_bl)))
    qss_nil)
    (qss_one (qs_if (qt_pure fun _ _ => (t_not (t_val (d_c (calF_of h__law_same T.g__law_same) hr (by decide) (takes_of rfl rfl rfl rfl) (da_cons (d_meth (fm (d_meth1 (calM_of h_Kind_joined.down T.cls_Chapter T.met_Chapter_joined) hr (by decide) (takes_of rfl rfl rfl rfl) (d_var 3) (da_cons (d_var 4) (da_cons (d_var 4) (da_cons (d_var 5) da_nil))) rfl rfl rfl) (fm (d_meth1 (calM_of h_Kind_joined.down T.cls_Para T.met_Para_joined) hr (by decide) (takes_of rfl rfl rfl rfl) (d_var 3) (da_cons (d_var 4) (da_cons (d_var 4) (da_cons (d_var 5) da_nil))) rfl rfl rfl) (fm (d_meth1 (calM_of h_Kind_joined.down T.cls_Table T.met_Table_joined) hr (by decide) (takes_of rfl rfl rfl rfl) (d_var 3) (da_cons (d_var 4) (da_cons (d_var 4) (da_cons (d_var 5) da_nil))) rfl rfl rfl) fn0)))) (da_cons (d_tup (da_cons (d_var 5) (da_cons (d_new (n_list da_nil)) da_nil))) da_nil))))))
    (qss_one (qs_ret (q_pure fun _ _ => d_bl)))
    qss_nil))))))))))))
    (qss_one (qs_ret (q_pure fun _ _ => d_bl)))))
end
theorem facts {P' : Program} {w : World} {K : PySem.W.Frag} {h : Heap} {mg : Str → Option Value} {f : Addr} (X : K.In h) (G : h.Ns mainGlobals mg) (hfa : mg ("law" : Str) = some (.ref f)) (c : SaysM fa fn exb K) :
    ∃ fd : FuncData, (∀ (s : Shared) (v : Value), BindsTo s fd ⟨[v], []⟩ [("_law_script", v)]) ∧ ∀ base : Heap, K.In base → base.Ns mainGlobals mg → FnOk P' w K mg base (L2.CX P' w) 6 f fd ["_law_script"] (spD K FQ_law.down) := by
  obtain ⟨fd_Chapter_word, D_Chapter_word⟩ := c.d.def_ 0 (d := d_Chapter_word) rfl
  obtain ⟨fd_Para_word, D_Para_word⟩ := c.d.def_ 1 (d := d_Para_word) rfl
  obtain ⟨fd_Table_word, D_Table_word⟩ := c.d.def_ 2 (d := d_Table_word) rfl
  obtain ⟨fd_kind_of_word, D_kind_of_word⟩ := c.d.def_ 3 (d := d_kind_of_word) rfl
  obtain ⟨fd__law_stream, D__law_stream⟩ := c.d.def_ 4 (d := d__law_stream) rfl
  obtain ⟨fd__law_text, D__law_text⟩ := c.d.def_ 5 (d := d__law_text) rfl
  obtain ⟨fd__law_table, D__law_table⟩ := c.d.def_ 6 (d := d__law_table) rfl
  obtain ⟨fd__law_content, D__law_content⟩ := c.d.def_ 7 (d := d__law_content) rfl
  obtain ⟨fd__law_cells_changed, D__law_cells_changed⟩ := c.d.def_ 8 (d := d__law_cells_changed) rfl
  obtain ⟨fd__law_made, D__law_made⟩ := c.d.def_ 9 (d := d__law_made) rfl
  obtain ⟨fd__law_joined, D__law_joined⟩ := c.d.def_ 10 (d := d__law_joined) rfl
  obtain ⟨fd_Kind_clashed, D_Kind_clashed⟩ := c.d.def_ 11 (d := d_Kind_clashed) rfl
  obtain ⟨fd_Kind_joined, D_Kind_joined⟩ := c.d.def_ 12 (d := d_Kind_joined) rfl
  obtain ⟨fd_Table_clashed, D_Table_clashed⟩ := c.d.def_ 13 (d := d_Table_clashed) rfl
  obtain ⟨fd__law_cell, D__law_cell⟩ := c.d.def_ 14 (d := d__law_cell) rfl
  obtain ⟨fd__law_same, D__law_same⟩ := c.d.def_ 15 (d := d__law_same) rfl
  obtain ⟨fd_is_text, D_is_text⟩ := c.d.def_ 16 (d := d_is_text) rfl
  obtain ⟨fd_Kind_fits, D_Kind_fits⟩ := c.d.def_ 17 (d := d_Kind_fits) rfl
  obtain ⟨fd_is_row, D_is_row⟩ := c.d.def_ 18 (d := d_is_row) rfl
  obtain ⟨fd_is_cells, D_is_cells⟩ := c.d.def_ 19 (d := d_is_cells) rfl
  obtain ⟨fd_Table_fits, D_Table_fits⟩ := c.d.def_ 20 (d := d_Table_fits) rfl
  obtain ⟨fd_law, D_law⟩ := c.d.def_ 21 (d := d_law) rfl
  have t_g_kind_of_word : mg "kind_of_word" = some (.ref (He.ga K "kind_of_word")) := (He.glo_ok X G (c.d.fact 0 (f := .glo "kind_of_word") rfl))
  have t_g__law_stream : mg "_law_stream" = some (.ref (He.ga K "_law_stream")) := (He.glo_ok X G (c.d.fact 1 (f := .glo "_law_stream") rfl))
  have t_g__law_text : mg "_law_text" = some (.ref (He.ga K "_law_text")) := (He.glo_ok X G (c.d.fact 2 (f := .glo "_law_text") rfl))
  have t_g__law_table : mg "_law_table" = some (.ref (He.ga K "_law_table")) := (He.glo_ok X G (c.d.fact 3 (f := .glo "_law_table") rfl))
  have t_g__law_content : mg "_law_content" = some (.ref (He.ga K "_law_content")) := (He.glo_ok X G (c.d.fact 4 (f := .glo "_law_content") rfl))
  have t_g__law_cells_changed : mg "_law_cells_changed" = some (.ref (He.ga K "_law_cells_changed")) := (He.glo_ok X G (c.d.fact 5 (f := .glo "_law_cells_changed") rfl))
  have t_g__law_made : mg "_law_made" = some (.ref (He.ga K "_law_made")) := (He.glo_ok X G (c.d.fact 6 (f := .glo "_law_made") rfl))
  have t_g__law_joined : mg "_law_joined" = some (.ref (He.ga K "_law_joined")) := (He.glo_ok X G (c.d.fact 7 (f := .glo "_law_joined") rfl))
  have t_g__law_cell : mg "_law_cell" = some (.ref (He.ga K "_law_cell")) := (He.glo_ok X G (c.d.fact 8 (f := .glo "_law_cell") rfl))
  have t_g__law_same : mg "_law_same" = some (.ref (He.ga K "_law_same")) := (He.glo_ok X G (c.d.fact 9 (f := .glo "_law_same") rfl))
  have t_g_is_text : mg "is_text" = some (.ref (He.ga K "is_text")) := (He.glo_ok X G (c.d.fact 10 (f := .glo "is_text") rfl))
  have t_g_is_row : mg "is_row" = some (.ref (He.ga K "is_row")) := (He.glo_ok X G (c.d.fact 11 (f := .glo "is_row") rfl))
  have t_g_is_cells : mg "is_cells" = some (.ref (He.ga K "is_cells")) := (He.glo_ok X G (c.d.fact 12 (f := .glo "is_cells") rfl))
  have t_g_law : mg "law" = some (.ref (He.ga K "law")) := (He.glo_ok X G (c.d.fact 13 (f := .glo "law") rfl))
  have t_f_all : mg "all" = none := He.free_ok X G (c.d.fact 14 (f := .free "all") rfl)
  have t_f_enumerate : mg "enumerate" = none := He.free_ok X G (c.d.fact 15 (f := .free "enumerate") rfl)
  have t_f_int : mg "int" = none := He.free_ok X G (c.d.fact 16 (f := .free "int") rfl)
  have t_f_isinstance : mg "isinstance" = none := He.free_ok X G (c.d.fact 17 (f := .free "isinstance") rfl)
  have t_f_len : mg "len" = none := He.free_ok X G (c.d.fact 18 (f := .free "len") rfl)
  have t_f_list : mg "list" = none := He.free_ok X G (c.d.fact 19 (f := .free "list") rfl)
  have t_f_ord : mg "ord" = none := He.free_ok X G (c.d.fact 20 (f := .free "ord") rfl)
  have t_f_range : mg "range" = none := He.free_ok X G (c.d.fact 21 (f := .free "range") rfl)
  have t_f_str : mg "str" = none := He.free_ok X G (c.d.fact 22 (f := .free "str") rfl)
  have t_f_tuple : mg "tuple" = none := He.free_ok X G (c.d.fact 23 (f := .free "tuple") rfl)
  have t_k_MOST_COLUMNS : ∃ t, mg "MOST_COLUMNS" = some (.int 6 t) := He.int_ok X G (c.d.fact 24 (f := .int "MOST_COLUMNS" 6) rfl)
  have t_k_MOST_ROWS : ∃ t, mg "MOST_ROWS" = some (.int 6 t) := He.int_ok X G (c.d.fact 25 (f := .int "MOST_ROWS" 6) rfl)
  have t_cls_Chapter : Cls K (He.ga K "Chapter") := He.cls_ok (c.d.fact 26 (f := .cls "Chapter") rfl)
  have t_cls_Para : Cls K (He.ga K "Para") := He.cls_ok (c.d.fact 27 (f := .cls "Para") rfl)
  have t_cls_Table : Cls K (He.ga K "Table") := He.cls_ok (c.d.fact 28 (f := .cls "Table") rfl)
  have t_met_Chapter_clashed : Meth K (He.ga K "Chapter") "clashed" (He.fAd K ("Kind", some "clashed")) := inh_ok (ex_at c.more 0) (He.meth_ok (c.d.fact 29 (f := .meth "Chapter" "clashed") rfl))
  have t_met_Chapter_fits : Meth K (He.ga K "Chapter") "fits" (He.fAd K ("Kind", some "fits")) := inh_ok (ex_at c.more 1) (He.meth_ok (c.d.fact 30 (f := .meth "Chapter" "fits") rfl))
  have t_met_Chapter_joined : Meth K (He.ga K "Chapter") "joined" (He.fAd K ("Kind", some "joined")) := inh_ok (ex_at c.more 2) (He.meth_ok (c.d.fact 31 (f := .meth "Chapter" "joined") rfl))
  have t_met_Chapter_word : Meth K (He.ga K "Chapter") "word" (He.fAd K ("Chapter", some "word")) := He.meth_ok (c.d.fact 32 (f := .meth "Chapter" "word") rfl)
  have t_met_Para_clashed : Meth K (He.ga K "Para") "clashed" (He.fAd K ("Kind", some "clashed")) := inh_ok (ex_at c.more 3) (He.meth_ok (c.d.fact 33 (f := .meth "Para" "clashed") rfl))
  have t_met_Para_fits : Meth K (He.ga K "Para") "fits" (He.fAd K ("Kind", some "fits")) := inh_ok (ex_at c.more 4) (He.meth_ok (c.d.fact 34 (f := .meth "Para" "fits") rfl))
  have t_met_Para_joined : Meth K (He.ga K "Para") "joined" (He.fAd K ("Kind", some "joined")) := inh_ok (ex_at c.more 5) (He.meth_ok (c.d.fact 35 (f := .meth "Para" "joined") rfl))
  have t_met_Para_word : Meth K (He.ga K "Para") "word" (He.fAd K ("Para", some "word")) := He.meth_ok (c.d.fact 36 (f := .meth "Para" "word") rfl)
  have t_met_Table_clashed : Meth K (He.ga K "Table") "clashed" (He.fAd K ("Table", some "clashed")) := He.meth_ok (c.d.fact 37 (f := .meth "Table" "clashed") rfl)
  have t_met_Table_fits : Meth K (He.ga K "Table") "fits" (He.fAd K ("Table", some "fits")) := He.meth_ok (c.d.fact 38 (f := .meth "Table" "fits") rfl)
  have t_met_Table_joined : Meth K (He.ga K "Table") "joined" (He.fAd K ("Kind", some "joined")) := inh_ok (ex_at c.more 6) (He.meth_ok (c.d.fact 39 (f := .meth "Table" "joined") rfl))
  have t_met_Table_word : Meth K (He.ga K "Table") "word" (He.fAd K ("Table", some "word")) := He.meth_ok (c.d.fact 40 (f := .meth "Table" "word") rfl)
  have t_new_Chapter : NewK K mg "Chapter" := newB_ok (ex_at c.more 7) (He.glo_ok X G (c.d.fact 41 (f := .glo "Chapter") rfl))
  have t_new_Para : NewK K mg "Para" := newB_ok (ex_at c.more 8) (He.glo_ok X G (c.d.fact 42 (f := .glo "Para") rfl))
  have t_new_Table : NewK K mg "Table" := newB_ok (ex_at c.more 9) (He.glo_ok X G (c.d.fact 43 (f := .glo "Table") rfl))
  have T : Tx K mg := ⟨t_g_kind_of_word, t_g__law_stream, t_g__law_text, t_g__law_table, t_g__law_content, t_g__law_cells_changed, t_g__law_made, t_g__law_joined, t_g__law_cell, t_g__law_same, t_g_is_text, t_g_is_row, t_g_is_cells, t_g_law, t_f_all, t_f_enumerate, t_f_int, t_f_isinstance, t_f_len, t_f_list, t_f_ord, t_f_range, t_f_str, t_f_tuple, t_k_MOST_COLUMNS, t_k_MOST_ROWS, t_cls_Chapter, t_cls_Para, t_cls_Table, t_met_Chapter_clashed, t_met_Chapter_fits, t_met_Chapter_joined, t_met_Chapter_word, t_met_Para_clashed, t_met_Para_fits, t_met_Para_joined, t_met_Para_word, t_met_Table_clashed, t_met_Table_fits, t_met_Table_joined, t_met_Table_word, t_new_Chapter, t_new_Para, t_new_Table⟩
  have u_Chapter_word : DefU K "word" "Chapter.word" s_Chapter_word (He.fAd K ("Chapter", some "word")) ["self"] := ⟨fd_Chapter_word, D_Chapter_word, FunD.bindsN D_Chapter_word fun _ _ _ _ _ _ us hl => match us, hl with | [_], _ => rfl⟩
  have u_Para_word : DefU K "word" "Para.word" s_Para_word (He.fAd K ("Para", some "word")) ["self"] := ⟨fd_Para_word, D_Para_word, FunD.bindsN D_Para_word fun _ _ _ _ _ _ us hl => match us, hl with | [_], _ => rfl⟩
  have u_Table_word : DefU K "word" "Table.word" s_Table_word (He.fAd K ("Table", some "word")) ["self"] := ⟨fd_Table_word, D_Table_word, FunD.bindsN D_Table_word fun _ _ _ _ _ _ us hl => match us, hl with | [_], _ => rfl⟩
  have u_kind_of_word : DefU K "kind_of_word" "kind_of_word" s_kind_of_word (He.ga K "kind_of_word") ["word"] := ⟨fd_kind_of_word, D_kind_of_word, FunD.bindsN D_kind_of_word fun _ _ _ _ _ _ us hl => match us, hl with | [_], _ => rfl⟩
  have u__law_stream : DefU K "_law_stream" "_law_stream" s__law_stream (He.ga K "_law_stream") ["_law_cell_here", "_law_many"] := ⟨fd__law_stream, D__law_stream, FunD.bindsN D__law_stream fun _ _ _ _ _ _ us hl => match us, hl with | [_, _], _ => rfl⟩
  have u__law_text : DefU K "_law_text" "_law_text" s__law_text (He.ga K "_law_text") ["_law_cell_here"] := ⟨fd__law_text, D__law_text, FunD.bindsN D__law_text fun _ _ _ _ _ _ us hl => match us, hl with | [_], _ => rfl⟩
  have u__law_table : DefU K "_law_table" "_law_table" s__law_table (He.ga K "_law_table") ["_law_cell_here"] := ⟨fd__law_table, D__law_table, FunD.bindsN D__law_table fun _ _ _ _ _ _ us hl => match us, hl with | [_], _ => rfl⟩
  have u__law_content : DefU K "_law_content" "_law_content" s__law_content (He.ga K "_law_content") ["_law_kind", "_law_cell_here"] := ⟨fd__law_content, D__law_content, FunD.bindsN D__law_content fun _ _ _ _ _ _ us hl => match us, hl with | [_, _], _ => rfl⟩
  have u__law_cells_changed : DefU K "_law_cells_changed" "_law_cells_changed" s__law_cells_changed (He.ga K "_law_cells_changed") ["_law_base", "_law_cell_here"] := ⟨fd__law_cells_changed, D__law_cells_changed, FunD.bindsN D__law_cells_changed fun _ _ _ _ _ _ us hl => match us, hl with | [_, _], _ => rfl⟩
  have u__law_made : DefU K "_law_made" "_law_made" s__law_made (He.ga K "_law_made") ["_law_kind", "_law_base", "_law_cell_here"] := ⟨fd__law_made, D__law_made, FunD.bindsN D__law_made fun _ _ _ _ _ _ us hl => match us, hl with | [_, _, _], _ => rfl⟩
  have u__law_joined : DefU K "_law_joined" "_law_joined" s__law_joined (He.ga K "_law_joined") ["_law_kind", "_law_base", "_law_one", "_law_other"] := ⟨fd__law_joined, D__law_joined, FunD.bindsN D__law_joined fun _ _ _ _ _ _ us hl => match us, hl with | [_, _, _, _], _ => rfl⟩
  have u_Kind_clashed : DefU K "clashed" "Kind.clashed" s_Kind_clashed (He.fAd K ("Kind", some "clashed")) ["self", "base", "one", "other"] := ⟨fd_Kind_clashed, D_Kind_clashed, FunD.bindsN D_Kind_clashed fun _ _ _ _ _ _ us hl => match us, hl with | [_, _, _, _], _ => rfl⟩
  have u_Kind_joined : DefU K "joined" "Kind.joined" s_Kind_joined (He.fAd K ("Kind", some "joined")) ["self", "base", "one", "other"] := ⟨fd_Kind_joined, D_Kind_joined, FunD.bindsN D_Kind_joined fun _ _ _ _ _ _ us hl => match us, hl with | [_, _, _, _], _ => rfl⟩
  have u_Table_clashed : DefU K "clashed" "Table.clashed" s_Table_clashed (He.fAd K ("Table", some "clashed")) ["self", "base", "one", "other"] := ⟨fd_Table_clashed, D_Table_clashed, FunD.bindsN D_Table_clashed fun _ _ _ _ _ _ us hl => match us, hl with | [_, _, _, _], _ => rfl⟩
  have u__law_cell : DefU K "_law_cell" "_law_cell" s__law_cell (He.ga K "_law_cell") ["_law_script", "_law_k"] := ⟨fd__law_cell, D__law_cell, FunD.bindsN D__law_cell fun _ _ _ _ _ _ us hl => match us, hl with | [_, _], _ => rfl⟩
  have u__law_same : DefU K "_law_same" "_law_same" s__law_same (He.ga K "_law_same") ["_law_found", "_law_due"] := ⟨fd__law_same, D__law_same, FunD.bindsN D__law_same fun _ _ _ _ _ _ us hl => match us, hl with | [_, _], _ => rfl⟩
  have u_is_text : DefU K "is_text" "is_text" s_is_text (He.ga K "is_text") ["thing"] := ⟨fd_is_text, D_is_text, FunD.bindsN D_is_text fun _ _ _ _ _ _ us hl => match us, hl with | [_], _ => rfl⟩
  have u_Kind_fits : DefU K "fits" "Kind.fits" s_Kind_fits (He.fAd K ("Kind", some "fits")) ["self", "content"] := ⟨fd_Kind_fits, D_Kind_fits, FunD.bindsN D_Kind_fits fun _ _ _ _ _ _ us hl => match us, hl with | [_, _], _ => rfl⟩
  have u_is_row : DefU K "is_row" "is_row" s_is_row (He.ga K "is_row") ["thing", "wide"] := ⟨fd_is_row, D_is_row, FunD.bindsN D_is_row fun _ _ _ _ _ _ us hl => match us, hl with | [_, _], _ => rfl⟩
  have u_is_cells : DefU K "is_cells" "is_cells" s_is_cells (He.ga K "is_cells") ["thing"] := ⟨fd_is_cells, D_is_cells, FunD.bindsN D_is_cells fun _ _ _ _ _ _ us hl => match us, hl with | [_], _ => rfl⟩
  have u_Table_fits : DefU K "fits" "Table.fits" s_Table_fits (He.fAd K ("Table", some "fits")) ["self", "content"] := ⟨fd_Table_fits, D_Table_fits, FunD.bindsN D_Table_fits fun _ _ _ _ _ _ us hl => match us, hl with | [_, _], _ => rfl⟩
  have e := hfa.symm.trans (He.glo_ok X G (c.d.fact 13 (f := .glo "law") rfl))
  cases e
  have b := FunD.bindsA (ps := ["_law_script"]) D_law fun _ _ _ _ _ _ us hl => match us, hl with | [_], _ => rfl
  refine ⟨fd_law, fun s v => b s [v] rfl, fun base _ _ => ?_⟩
  have h_Chapter_word := c_Chapter_word (P' := P') (w := w) (base := base) T u_Chapter_word
  have h_Para_word := c_Para_word (P' := P') (w := w) (base := base) T u_Para_word
  have h_Table_word := c_Table_word (P' := P') (w := w) (base := base) T u_Table_word
  have h_kind_of_word := c_kind_of_word (P' := P') (w := w) (base := base) T h_Table_word h_Para_word h_Chapter_word u_kind_of_word
  have h__law_stream := c__law_stream (P' := P') (w := w) (base := base) T u__law_stream
  have h__law_text := c__law_text (P' := P') (w := w) (base := base) T h__law_stream u__law_text
  have h__law_table := c__law_table (P' := P') (w := w) (base := base) T h__law_stream h__law_text u__law_table
  have h__law_content := c__law_content (P' := P') (w := w) (base := base) T h__law_table h__law_text u__law_content
  have h__law_cells_changed := c__law_cells_changed (P' := P') (w := w) (base := base) T h__law_stream u__law_cells_changed
  have h__law_made := c__law_made (P' := P') (w := w) (base := base) T h__law_content h__law_cells_changed u__law_made
  have h__law_joined_st := c__law_joined_st (P' := P') (w := w) (base := base) T u__law_joined
  have h__law_joined_1 := c__law_joined_1 (P' := P') (w := w) (base := base) T h__law_joined_st u__law_joined
  have h__law_joined := c__law_joined (P' := P') (w := w) (base := base) T h__law_joined_1 u__law_joined
  have h_Kind_clashed := c_Kind_clashed (P' := P') (w := w) (base := base) T u_Kind_clashed
  have h_Kind_joined_1 := c_Kind_joined_1 (P' := P') (w := w) (base := base) T h_Kind_clashed u_Kind_joined
  have h_Table_clashed := c_Table_clashed (P' := P') (w := w) (base := base) T h_Kind_joined_1 u_Table_clashed
  have h_Kind_joined := c_Kind_joined (P' := P') (w := w) (base := base) T h_Table_clashed h_Kind_clashed u_Kind_joined
  have h__law_cell := c__law_cell (P' := P') (w := w) (base := base) T u__law_cell
  have h__law_same := c__law_same (P' := P') (w := w) (base := base) T u__law_same
  have h_is_text := c_is_text (P' := P') (w := w) (base := base) T u_is_text
  have h_Kind_fits := c_Kind_fits (P' := P') (w := w) (base := base) T h_is_text u_Kind_fits
  have h_is_row := c_is_row (P' := P') (w := w) (base := base) T h_is_text u_is_row
  have h_is_cells := c_is_cells (P' := P') (w := w) (base := base) T h_is_row u_is_cells
  have h_Table_fits := c_Table_fits (P' := P') (w := w) (base := base) T h_is_cells h_is_row u_Table_fits
  exact law_ok T h_kind_of_word h__law_content h__law_cell h__law_made h__law_joined h_Kind_joined h__law_same h_Table_fits h_Kind_fits D_law
end Pd

open PySem PySem.W PySem.Calls PyProof.Rows
theorem Pd.holds_of (hl : ∀ ns : List Int, ns.length ≤ 63 → Pd.FQ_law.down [.list (ns.map Pd.D.int)] = .ok (.bl true)) : PySem.Challenge.rw_manyleaf_k22_contents_joined.Holds := by
  w_on; o_law
  refine HandSHeadRun.head_any (r := OpenLaw.row PySem.Challenge.rw_manyleaf_k22_contents_joined) (q := view (OpenLaw.row PySem.Challenge.rw_manyleaf_k22_contents_joined).prog [23]) (H := Pd.hk) (ob := Pd.ob) (M := 12000) (loose := Pd.loose) (d := HandSHeadRun.topDef (OpenLaw.row PySem.Challenge.rw_manyleaf_k22_contents_joined).prog 23) (kwd := []) Pd.ob_eq
    (by kernel_rfl) (fun s => by kernel_rfl) Pd.run (by kernel_rfl) (by kernel_rfl) (by kernel_rfl) (by rfl) (by first | assumption | decide +kernel) (by decide +kernel) ⟨rfl, rfl, rfl, rfl, rfl, by decide +kernel⟩ ?hw ?hc
  case hw => w_witness2
  case hc =>
    refine Pd.walk_d (l := PySem.Challenge.rw_manyleaf_k22_contents_joined) (n := 63) (k := 6) (x := "_law_script") rfl (by decide) (by kernel_rfl) ⟨rfl, by decide, by decide⟩ hl ?F
    intro w mg fa h Y G hmg0
    obtain ⟨K, KX, c⟩ := Y
    have hmg : mg ("law" : PySem.Str) = some (.ref fa) := by
      have e : (HandSHeadRun.topDef (OpenLaw.row PySem.Challenge.rw_manyleaf_k22_contents_joined).prog 23).name = ("law" : PySem.Str) := by kernel_rfl
      rw [← e]
      exact hmg0
    obtain ⟨fd, hb, hF⟩ := Pd.facts (P' := (PySem.Challenge.rw_manyleaf_k22_contents_joined).prog) (w := w) KX G hmg c
    exact ⟨K, fd, KX, hb, hF⟩

/-! Pe1: functions of data evaluated: rows for simp, loops by rules -/
namespace Pd
open PySem PySem.Spec PyProof.Rows L2
/-- r, then u -/
def S.then (r : S) (u : Rho → S) : S := match r with
  | .nx ρ => u ρ
  | r => r
def S.pick (p : R Bool) (ρ : Rho) (a b : S) : S := match p with
  | .ok k => if k = true then a else b
  | .ex x => .ex x ρ
  | .st => .st
def S.ofR (r : R D) (ρ : Rho) (k : D → S) : S := match r with
  | .ok d => k d
  | .ex x => .ex x ρ
  | .st => .st
def S.ofI (r : R (List D)) (ρ : Rho) (k : List D → S) : S := match r with
  | .ok d => k d
  | .ex x => .ex x ρ
  | .st => .st
section
variable {s u : Rho → S} {ρ : Rho} {p : Rho → R Bool} {g : Rho → R D} {gi : Rho → R (List D)} {τ : D → Rho → R Rho} {b : Rho → S} {k : Rho → D → S} {i : Nat}
theorem e_seq : sSeq s u ρ = (s ρ).then u := rfl
theorem e_thn (ρ1 : Rho) : (S.nx ρ1).then u = u ρ1 := rfl
theorem e_trt (d : D) : (S.rt d).then u = .rt d := rfl
theorem e_trn (d : D) : (S.rn d).then u = .rn d := rfl
theorem e_tex (x : Ex) (ρ1 : Rho) : (S.ex x ρ1).then u = .ex x ρ1 := rfl
theorem e_tbk (ρ1 : Rho) : (S.bk ρ1).then u = .bk ρ1 := rfl
theorem e_tct (ρ1 : Rho) : (S.ct ρ1).then u = .ct ρ1 := rfl
theorem e_if : sIf p s u ρ = S.pick (p ρ) ρ (s ρ) (u ρ) := rfl
theorem e_pick (k : Bool) (a b : S) : S.pick (.ok k) ρ a b = if k = true then a else b := rfl
theorem e_pickx (x : Ex) (a b : S) : S.pick (.ex x) ρ a b = .ex x ρ := rfl
theorem e_E : sE g k ρ = S.ofR (g ρ) ρ (k ρ) := rfl
theorem e_ofR (d : D) (k : D → S) : S.ofR (.ok d) ρ k = k d := rfl
theorem e_ofRx (x : Ex) (k : D → S) : S.ofR (.ex x) ρ k = .ex x ρ := rfl
theorem e_ret : sRet g ρ = S.ofR (g ρ) ρ fun d => .rt d := rfl
theorem e_retN : sRetN g ρ = S.ofR (g ρ) ρ fun d => .rn d := rfl
theorem e_set : sSet i g ρ = S.ofR (g ρ) ρ fun d => .nx (ρ.set i (some d)) := rfl
theorem e_drop : sDrop g ρ = S.ofR (g ρ) ρ fun _ => .nx ρ := rfl
theorem e_for : sFor gi τ b ρ = S.ofI (gi ρ) ρ fun items => forL τ b items ρ := rfl
theorem e_ofI (d : List D) (k : List D → S) : S.ofI (.ok d) ρ k = k d := rfl
theorem e_ofIx (x : Ex) (k : List D → S) : S.ofI (.ex x) ρ k = .ex x ρ := rfl
theorem e_nil : sNil ρ = .nx ρ := rfl
theorem e_asg : sAsg g τ ρ = S.ofR (g ρ) ρ fun d => match τ d ρ with | .ok ρ' => .nx ρ' | _ => .st := rfl
theorem e_append (ds : List D) (h : ρ[i]? = some (some (.list ds))) : sAppend i g ρ = S.ofR (g ρ) ρ fun d => if ds.length < sizeLine then .nx (ρ.set i (some (.list (ds ++ [d])))) else .st := by
  unfold sAppend
  rw [h]
  rfl
theorem e_retO (d : D) (h : ρ[i]? = some (some d)) : sRetO i ρ = .rn d := by
  unfold sRetO
  rw [h]
theorem e_var (d : D) (h : ρ[i]? = some (some d)) : gVar i ρ = .ok d := by
  unfold gVar
  rw [h]
end
theorem endS_rt (d : D) : endS (.rt d) = .ok d := rfl
theorem endS_rn (d : D) : endS (.rn d) = .ok d := rfl
theorem endS_nx (ρ : Rho) : endS (.nx ρ) = .ok .non := rfl
theorem endS_ex (x : Ex) (ρ : Rho) : endS (.ex x ρ) = .ex x := rfl
theorem endN_rn (d : D) : endN (.rn d) = .ok d := rfl
theorem endN_ex (x : Ex) (ρ : Rho) : endN (.ex x ρ) = .ex x := rfl
/-- a for whose turns are judged by what they come to -/
theorem forL_rule {τ : D → Rho → R Rho} {b : Rho → S} (Post : S → Prop) (Inv : Nat → Rho → Prop) : ∀ (items : List D) (k : Nat) (ρ : Rho), Inv k ρ →
    (∀ j d ρ, items[j]? = some d → Inv (k + j) ρ → ∃ ρ1, τ d ρ = .ok ρ1 ∧ match b ρ1 with
      | .nx ρ2 => Inv (k + j + 1) ρ2
      | .ct ρ2 => Inv (k + j + 1) ρ2
      | .bk ρ2 => Post (.nx ρ2)
      | r => Post r) → (∀ ρ, Inv (k + items.length) ρ → Post (.nx ρ)) → Post (forL τ b items ρ)
  | [], k, ρ, h0, _, hd => hd ρ h0
  | d :: ds, k, ρ, h0, hs, hd => by
    have ih := forL_rule (τ := τ) (b := b) Post Inv ds (k + 1)
    obtain ⟨ρ1, e1, h1⟩ := hs 0 d ρ rfl h0
    have go : ∀ ρ2, Inv (k + 1) ρ2 → Post (forL τ b ds ρ2) := fun ρ2 h2 => by
      refine ih ρ2 h2 (fun j d' ρ' e h => ?_) fun ρ' h => hd ρ' ?_
      · have := hs (j + 1) d' ρ' (by simpa using e) (by rw [show k + (j + 1) = k + 1 + j by omega]; exact h)
        rw [show k + (j + 1) + 1 = k + 1 + j + 1 by omega] at this
        exact this
      · rw [List.length_cons, show k + (ds.length + 1) = k + 1 + ds.length by omega]; exact h
    unfold forL
    rw [e1]
    dsimp only
    cases e2 : b ρ1 with
    | nx ρ2 => rw [e2] at h1; exact go ρ2 h1
    | ct ρ2 => rw [e2] at h1; exact go ρ2 h1
    | bk ρ2 => rw [e2] at h1; exact h1
    | rt d => rw [e2] at h1; exact h1
    | rn d => rw [e2] at h1; exact h1
    | rm d ρ2 => rw [e2] at h1; exact h1
    | ex x ρ2 => rw [e2] at h1; exact h1
    | st => rw [e2] at h1; exact h1
theorem set_set {α : Type} (l : List α) (i : Nat) (a b : α) : (l.set i a).set i b = l.set i b := by
  apply List.ext_getElem?
  intro j
  by_cases h : j = i
  · subst h
    by_cases hl : j < l.length
    · rw [List.getElem?_set_self (by simpa using hl), List.getElem?_set_self hl]
    · rw [List.getElem?_eq_none (by simpa using hl), List.getElem?_eq_none (by simpa using hl)]
  · rw [List.getElem?_set_ne (Ne.symm h), List.getElem?_set_ne (Ne.symm h), List.getElem?_set_ne (Ne.symm h)]
/-- a search: each turn goes on, or hands back v -/
theorem forL_all {i : Nat} {b : Rho → S} (P : D → Bool) (v : S) (hv : (∃ d, v = .rt d) ∨ ∃ d, v = .rn d) (ρ : Rho) : ∀ (items : List D) (ρ0 : Rho), (ρ0 = ρ ∨ ∃ d, ρ0 = ρ.set i (some d)) →
    (∀ d ∈ items, b (ρ.set i (some d)) = if P d = true then .nx (ρ.set i (some d)) else v) → ∃ ρ', (ρ' = ρ ∨ ∃ d, ρ' = ρ.set i (some d)) ∧ forL (τName i) b items ρ0 = if items.all P = true then .nx ρ' else v
  | [], ρ0, h0, _ => ⟨ρ0, h0, rfl⟩
  | d :: ds, ρ0, h0, h => by
    have e : ρ0.set i (some d) = ρ.set i (some d) := by
      rcases h0 with rfl | ⟨d', rfl⟩
      · rfl
      · exact set_set _ _ _ _
    have h1 := h d List.mem_cons_self
    unfold forL τName
    dsimp only
    rw [e, h1, List.all_cons]
    by_cases hp : P d = true
    · rw [if_pos hp, hp, Bool.true_and]
      obtain ⟨ρ', a, c⟩ := forL_all P v hv ρ ds (ρ.set i (some d)) (.inr ⟨d, rfl⟩) fun d' hd => h d' (List.mem_cons_of_mem _ hd)
      exact ⟨ρ', a, c⟩
    · rw [if_neg hp]
      refine ⟨ρ, .inl rfl, ?_⟩
      rw [show P d = false by simpa using hp, Bool.false_and, if_neg Bool.false_ne_true]
      rcases hv with ⟨d', rfl⟩ | ⟨d', rfl⟩ <;> rfl
/-- one list made of another -/
theorem lcR_map {i : Nat} {ge : Rho → R D} {ρ : Rho} (f : D → D) : ∀ (items : List D), (∀ d ∈ items, ge (ρ.set i (some d)) = .ok (f d)) → lcR (τName i) bYes ge ρ items = .ok (items.map f)
  | [], _ => rfl
  | d :: ds, h => by
    unfold lcR τName
    rw [ok_bind]
    show (bYes _).bind _ = _
    unfold bYes
    rw [ok_bind, if_pos rfl, h d List.mem_cons_self, ok_bind]
    have ih := lcR_map (i := i) (ge := ge) (ρ := ρ) f ds fun d' hd => h d' (List.mem_cons_of_mem _ hd)
    unfold τName bYes at ih
    rw [ih]
    rfl
theorem lcR_filter {i : Nat} {p : Rho → R Bool} {ge : Rho → R D} {ρ : Rho} (P : D → Bool) (f : D → D) : ∀ (items : List D), (∀ d ∈ items, p (ρ.set i (some d)) = .ok (P d)) → (∀ d ∈ items, P d = true → ge (ρ.set i (some d)) = .ok (f d)) →
    lcR (τName i) p ge ρ items = .ok ((items.filter P).map f)
  | [], _, _ => rfl
  | d :: ds, h, h2 => by
    unfold lcR τName
    rw [ok_bind]
    show (p (ρ.set i (some d))).bind _ = _
    rw [h d List.mem_cons_self, ok_bind]
    have ih := lcR_filter (i := i) (p := p) (ge := ge) (ρ := ρ) P f ds (fun d' hd => h d' (List.mem_cons_of_mem _ hd)) fun d' hd => h2 d' (List.mem_cons_of_mem _ hd)
    unfold τName at ih
    by_cases hp : P d = true
    · rw [if_pos hp, h2 d List.mem_cons_self hp, ok_bind, ih, List.filter_cons_of_pos hp]
      rfl
    · rw [if_neg hp, ih, List.filter_cons_of_neg hp]
/-- where the first targets are drawn from pairs: the turn is told as a whole -/
theorem lcR_gen {τ : D → Rho → R Rho} {p : Rho → R Bool} {ge : Rho → R D} {ρ : Rho} (f : D → Option D) : ∀ (items : List D),
    (∀ d ∈ items, ∃ ρ1, τ d ρ = .ok ρ1 ∧ ((∃ y, p ρ1 = .ok true ∧ ge ρ1 = .ok y ∧ f d = some y) ∨ (p ρ1 = .ok false ∧ f d = none))) → lcR τ p ge ρ items = .ok (items.filterMap f)
  | [], _ => rfl
  | d :: ds, h => by
    obtain ⟨ρ1, e1, h1⟩ := h d List.mem_cons_self
    have ih := lcR_gen (τ := τ) (p := p) (ge := ge) (ρ := ρ) f ds fun d' hd => h d' (List.mem_cons_of_mem _ hd)
    unfold lcR
    rw [e1, ok_bind]
    rcases h1 with ⟨y, e2, e3, e4⟩ | ⟨e2, e4⟩
    · rw [e2, ok_bind, if_pos rfl, e3, ok_bind, ih, List.filterMap_cons, e4]
      rfl
    · rw [e2, ok_bind, if_neg Bool.false_ne_true, ih, List.filterMap_cons, e4]
theorem small_ok {i : Int} (h : -(2 ^ 62) ≤ i) (h' : i < 2 ^ 62) : small62 i = true := by
  unfold small62
  rw [decide_eq_true h, decide_eq_true h']
  rfl
theorem atI_of {α : Type} {xs : List α} {i : Int} (h0 : 0 ≤ i) (h1 : i < xs.length) : ∃ d, atI xs i = some d ∧ xs[i.toNat]? = some d ∧ d ∈ xs := by
  have hl : i.toNat < xs.length := by omega
  refine ⟨xs[i.toNat], ?_, List.getElem?_eq_getElem hl, List.getElem_mem hl⟩
  have e : i = ((i.toNat : Nat) : Int) := by omega
  have := atI_nat (xs := xs) (j := i.toNat) (v := xs[i.toNat]) (List.getElem?_eq_getElem hl)
  rw [← e] at this
  exact this
theorem e_isi_int_non  : isiD "int" (.non) = .ok (.bl false) := rfl
theorem e_isi_int_bl (b : Bool) : isiD "int" (.bl b) = .ok (.bl true) := rfl
theorem e_isi_int_int (i : Int) : isiD "int" (.int i) = .ok (.bl true) := rfl
theorem e_isi_int_str (z : Str) : isiD "int" (.str z) = .ok (.bl false) := rfl
theorem e_isi_int_list (ds : List D) : isiD "int" (.list ds) = .ok (.bl false) := rfl
theorem e_isi_int_tup (ds : List D) : isiD "int" (.tup ds) = .ok (.bl false) := rfl
theorem e_isi_int_dict (ds : List (Key × D)) : isiD "int" (.dict ds) = .ok (.bl false) := rfl
theorem e_isi_int_dictT (ds : List (List Key × D)) : isiD "int" (.dictT ds) = .ok (.bl false) := rfl
theorem e_isi_bool_non  : isiD "bool" (.non) = .ok (.bl false) := rfl
theorem e_isi_bool_bl (b : Bool) : isiD "bool" (.bl b) = .ok (.bl true) := rfl
theorem e_isi_bool_int (i : Int) : isiD "bool" (.int i) = .ok (.bl false) := rfl
theorem e_isi_bool_str (z : Str) : isiD "bool" (.str z) = .ok (.bl false) := rfl
theorem e_isi_bool_list (ds : List D) : isiD "bool" (.list ds) = .ok (.bl false) := rfl
theorem e_isi_bool_tup (ds : List D) : isiD "bool" (.tup ds) = .ok (.bl false) := rfl
theorem e_isi_bool_dict (ds : List (Key × D)) : isiD "bool" (.dict ds) = .ok (.bl false) := rfl
theorem e_isi_bool_dictT (ds : List (List Key × D)) : isiD "bool" (.dictT ds) = .ok (.bl false) := rfl
theorem e_isi_str_non  : isiD "str" (.non) = .ok (.bl false) := rfl
theorem e_isi_str_bl (b : Bool) : isiD "str" (.bl b) = .ok (.bl false) := rfl
theorem e_isi_str_int (i : Int) : isiD "str" (.int i) = .ok (.bl false) := rfl
theorem e_isi_str_str (z : Str) : isiD "str" (.str z) = .ok (.bl true) := rfl
theorem e_isi_str_list (ds : List D) : isiD "str" (.list ds) = .ok (.bl false) := rfl
theorem e_isi_str_tup (ds : List D) : isiD "str" (.tup ds) = .ok (.bl false) := rfl
theorem e_isi_str_dict (ds : List (Key × D)) : isiD "str" (.dict ds) = .ok (.bl false) := rfl
theorem e_isi_str_dictT (ds : List (List Key × D)) : isiD "str" (.dictT ds) = .ok (.bl false) := rfl
theorem e_isi_list_non  : isiD "list" (.non) = .ok (.bl false) := rfl
theorem e_isi_list_bl (b : Bool) : isiD "list" (.bl b) = .ok (.bl false) := rfl
theorem e_isi_list_int (i : Int) : isiD "list" (.int i) = .ok (.bl false) := rfl
theorem e_isi_list_str (z : Str) : isiD "list" (.str z) = .ok (.bl false) := rfl
theorem e_isi_list_list (ds : List D) : isiD "list" (.list ds) = .ok (.bl true) := rfl
theorem e_isi_list_tup (ds : List D) : isiD "list" (.tup ds) = .ok (.bl false) := rfl
theorem e_isi_list_dict (ds : List (Key × D)) : isiD "list" (.dict ds) = .ok (.bl false) := rfl
theorem e_isi_list_dictT (ds : List (List Key × D)) : isiD "list" (.dictT ds) = .ok (.bl false) := rfl
theorem e_isi_tuple_non  : isiD "tuple" (.non) = .ok (.bl false) := rfl
theorem e_isi_tuple_bl (b : Bool) : isiD "tuple" (.bl b) = .ok (.bl false) := rfl
theorem e_isi_tuple_int (i : Int) : isiD "tuple" (.int i) = .ok (.bl false) := rfl
theorem e_isi_tuple_str (z : Str) : isiD "tuple" (.str z) = .ok (.bl false) := rfl
theorem e_isi_tuple_list (ds : List D) : isiD "tuple" (.list ds) = .ok (.bl false) := rfl
theorem e_isi_tuple_tup (ds : List D) : isiD "tuple" (.tup ds) = .ok (.bl true) := rfl
theorem e_isi_tuple_dict (ds : List (Key × D)) : isiD "tuple" (.dict ds) = .ok (.bl false) := rfl
theorem e_isi_tuple_dictT (ds : List (List Key × D)) : isiD "tuple" (.dictT ds) = .ok (.bl false) := rfl
theorem e_isi_dict_non  : isiD "dict" (.non) = .ok (.bl false) := rfl
theorem e_isi_dict_bl (b : Bool) : isiD "dict" (.bl b) = .ok (.bl false) := rfl
theorem e_isi_dict_int (i : Int) : isiD "dict" (.int i) = .ok (.bl false) := rfl
theorem e_isi_dict_str (z : Str) : isiD "dict" (.str z) = .ok (.bl false) := rfl
theorem e_isi_dict_list (ds : List D) : isiD "dict" (.list ds) = .ok (.bl false) := rfl
theorem e_isi_dict_tup (ds : List D) : isiD "dict" (.tup ds) = .ok (.bl false) := rfl
theorem e_isi_dict_dict (ds : List (Key × D)) : isiD "dict" (.dict ds) = .ok (.bl true) := rfl
theorem e_isi_dict_dictT (ds : List (List Key × D)) : isiD "dict" (.dictT ds) = .ok (.bl true) := rfl
theorem e_asB (b : Bool) : asB (.bl b) = .ok b := rfl
theorem e_lt (i j : Int) : ltD (.int i) (.int j) = .ok (.bl (decide (i < j))) := rfl
theorem e_gt (i j : Int) : gtD (.int i) (.int j) = .ok (.bl (decide (j < i))) := rfl
theorem e_le (i j : Int) : leD (.int i) (.int j) = .ok (.bl (decide (i ≤ j))) := rfl
theorem e_ge (i j : Int) : geD (.int i) (.int j) = .ok (.bl (decide (j ≤ i))) := rfl
theorem e_ltS (i j : Str) : ltD (.str i) (.str j) = .ok (.bl (ltS i j)) := rfl
theorem e_gtS (i j : Str) : gtD (.str i) (.str j) = .ok (.bl (ltS j i)) := rfl
theorem e_eqI (i j : Int) : eqD (.int i) (.int j) = .ok (.bl (i == j)) := rfl
theorem e_eqS (i j : Str) : eqD (.str i) (.str j) = .ok (.bl (i == j)) := rfl
theorem e_eqB (i j : Bool) : eqD (.bl i) (.bl j) = .ok (.bl (i == j)) := rfl
theorem e_neI (i j : Int) : neD (.int i) (.int j) = .ok (.bl (!(i == j))) := rfl
theorem e_neS (i j : Str) : neD (.str i) (.str j) = .ok (.bl (!(i == j))) := rfl
theorem e_neB (i j : Bool) : neD (.bl i) (.bl j) = .ok (.bl (!(i == j))) := rfl
theorem e_addI (i j : Int) : addD (.int i) (.int j) = .ok (.int (i + j)) := rfl
theorem e_iaddI (i j : Int) : iaddD (.int i) (.int j) = .ok (.int (i + j)) := rfl
theorem e_subI (i j : Int) : subD (.int i) (.int j) = .ok (.int (i - j)) := rfl
theorem e_negI (i : Int) : negD (.int i) = .ok (.int (-i)) := rfl
theorem e_andI (i j : Int) : andD (.int i) (.int j) = .ok (.int (Builtin.bitAnd i j)) := rfl
theorem e_orI (i j : Int) : orD (.int i) (.int j) = .ok (.int (Builtin.bitOr i j)) := rfl
theorem e_xorI (i j : Int) : xorD (.int i) (.int j) = .ok (.int (Builtin.bitXor i j)) := rfl
theorem e_modI (i j : Int) (h : 0 < j) : modD (.int i) (.int j) = .ok (.int (i % j)) := by
  show (if decide (0 < j) = true then R.ok (D.int (i % j)) else .st) = _
  rw [if_pos (decide_eq_true h)]
theorem e_fdivI (i j : Int) (h : 0 < j) (h' : j < 1073741824) : fdivD (.int i) (.int j) = .ok (.int (i / j)) := by
  show (if (decide (0 < j) && decide (j < 1073741824)) = true then R.ok (D.int (i / j)) else .st) = _
  rw [decide_eq_true h, decide_eq_true h']
  rfl
theorem e_mulI (i j : Int) (h : small64b i = true ∨ small64b j = true) : mulD (.int i) (.int j) = .ok (.int (i * j)) := by
  show (if (small64b i || small64b j) = true then R.ok (D.int (i * j)) else .st) = _
  rw [if_pos (by rw [Bool.or_eq_true]; exact h)]
theorem s64 {i : Int} (h : -(2 ^ 64) < i) (h' : i < 2 ^ 64) : small64b i = true := by
  unfold small64b
  rw [decide_eq_true h, decide_eq_true h']
  rfl
theorem e_shrI (i j : Int) (h : 0 ≤ j) : shrD (.int i) (.int j) = .ok (.int (i / 2 ^ j.toNat)) := by
  show (if decide (0 ≤ j) = true then R.ok (D.int (i / 2 ^ j.toNat)) else .st) = _
  rw [if_pos (decide_eq_true h)]
theorem e_shlI (i j : Int) (h : CPow i j) : shlD (.int i) (.int j) = .ok (.int (i * 2 ^ j.toNat)) := by
  show (if powOk i j = true then R.ok (D.int (i * 2 ^ j.toNat)) else .st) = _
  rw [if_pos (by unfold powOk; rw [decide_eq_true h.1, decide_eq_true h.2.1, decide_eq_true h.2.2]; rfl)]
theorem e_powI (i j : Int) (h : CPow i j) : powD (.int i) (.int j) = .ok (.int (i ^ j.toNat)) := by
  show (if powOk i j = true then R.ok (D.int (i ^ j.toNat)) else .st) = _
  rw [if_pos (by unfold powOk; rw [decide_eq_true h.1, decide_eq_true h.2.1, decide_eq_true h.2.2]; rfl)]
theorem line_small {n : Nat} (h : n ≤ 16777216) : n ≤ sizeLine := by rw [sizeLine_eq]; exact h
theorem e_addS (i j : Str) (h : i.length + j.length ≤ 16777216) : addD (.str i) (.str j) = .ok (.str (i ++ j)) := if_pos (line_small h)
theorem e_iaddS (i j : Str) (h : i.length + j.length ≤ 16777216) : iaddD (.str i) (.str j) = .ok (.str (i ++ j)) := if_pos (line_small h)
theorem e_addL (i j : List D) (h : i.length + j.length ≤ 16777216) : addD (.list i) (.list j) = .ok (.list (i ++ j)) := if_pos (line_small h)
theorem e_addT (i j : List D) (h : i.length + j.length ≤ 16777216) : addD (.tup i) (.tup j) = .ok (.tup (i ++ j)) := if_pos (line_small h)
theorem e_lenL (ds : List D) : lenD [.list ds] = .ok (.int ds.length) := rfl
theorem e_lenT (ds : List D) : lenD [.tup ds] = .ok (.int ds.length) := rfl
theorem e_lenS (z : Str) (h : z.length ≤ 16777216) : lenD [.str z] = .ok (.int z.length) := if_pos (line_small h)
theorem e_ord (c : Nat) : ordD [.str ⟨#[c]⟩] = .ok (.int c) := rfl
theorem e_intB (b : Bool) : intD [.bl b] = .ok (.int (if b then 1 else 0)) := rfl
theorem e_intI (i : Int) : intD [.int i] = .ok (.int i) := rfl
theorem e_lst (ds : List D) (h : ds.length ≤ 16777216) : lstD ds = .ok (.list ds) := if_pos (line_small h)
theorem e_tup (ds : List D) (h : ds.length ≤ 16777216) : tupD ds = .ok (.tup ds) := if_pos (line_small h)
theorem e_ixL (ds : List D) (i : Int) (d : D) (h : atI ds i = some d) : ixD (.list ds) (.int i) = .ok d := by
  show (match atI ds i with | some d => R.ok d | none => .st) = _
  rw [h]
theorem e_ixT (ds : List D) (i : Int) (d : D) (h : atI ds i = some d) : ixD (.tup ds) (.int i) = .ok d := by
  show (match atI ds i with | some d => R.ok d | none => .st) = _
  rw [h]
theorem e_ixS (z : Str) (i : Int) (c : Nat) (hz : z.length ≤ 16777216) (h : atI z.cps.toList i = some c) : ixD (.str z) (.int i) = .ok (.str ⟨#[c]⟩) := by
  show (if z.length ≤ sizeLine then (match atI z.cps.toList i with | some c => R.ok (D.str ⟨#[c]⟩) | none => .st) else .st) = _
  rw [if_pos (line_small hz), h]
theorem e_inS (i j : Str) : inDD (.str i) (.str j) = .ok (.bl (hasSub j i)) := rfl
theorem e_ninS (i j : Str) : notInDD (.str i) (.str j) = .ok (.bl (!hasSub j i)) := rfl
theorem e_inL (d : D) (ds : List D) (h : (flD d && ds.all flD) = true) : inDD d (.list ds) = .ok (.bl (ds.any fun z => eqvD z d)) := by
  have e : inD d (.list ds) = .ok (ds.any fun z => eqvD z d) := by
    have e1 : inD d (.list ds) = (if (flD d && ds.all flD) = true then R.ok (ds.any fun z => eqvD z d) else if (D.sh d && D.sh (.list ds)) = true then .ok (ds.any fun z => eqvD z d) else .st) := by
      cases d <;> rfl
    rw [e1, if_pos h]
  unfold inDD
  rw [e]
  rfl
theorem e_ninL (d : D) (ds : List D) (h : (flD d && ds.all flD) = true) : notInDD d (.list ds) = .ok (.bl (!ds.any fun z => eqvD z d)) := by
  have e : inD d (.list ds) = .ok (ds.any fun z => eqvD z d) := by
    have e1 : inD d (.list ds) = (if (flD d && ds.all flD) = true then R.ok (ds.any fun z => eqvD z d) else if (D.sh d && D.sh (.list ds)) = true then .ok (ds.any fun z => eqvD z d) else .st) := by
      cases d <;> rfl
    rw [e1, if_pos h]
  unfold notInDD
  rw [e]
  rfl
theorem e_inT (d : D) (ds : List D) (h : (flD d && ds.all flD) = true) : inDD d (.tup ds) = .ok (.bl (ds.any fun z => eqvD z d)) := by
  have e : inD d (.tup ds) = .ok (ds.any fun z => eqvD z d) := by
    have e1 : inD d (.tup ds) = (if (flD d && ds.all flD) = true then R.ok (ds.any fun z => eqvD z d) else .st) := by
      cases d <;> rfl
    rw [e1, if_pos h]
  unfold inDD
  rw [e]
  rfl
theorem e_ninT (d : D) (ds : List D) (h : (flD d && ds.all flD) = true) : notInDD d (.tup ds) = .ok (.bl (!ds.any fun z => eqvD z d)) := by
  have e : inD d (.tup ds) = .ok (ds.any fun z => eqvD z d) := by
    have e1 : inD d (.tup ds) = (if (flD d && ds.all flD) = true then R.ok (ds.any fun z => eqvD z d) else .st) := by
      cases d <;> rfl
    rw [e1, if_pos h]
  unfold notInDD
  rw [e]
  rfl
theorem e_seqL (g : Rho → R D) (ρ : Rho) (ds : List D) (h : g ρ = .ok (.list ds)) : iSeq g ρ = .ok ds := by unfold iSeq; rw [h]; rfl
theorem e_itL (ds : List D) : itemsD (.list ds) = .ok ds := rfl
theorem e_itT (ds : List D) : itemsD (.tup ds) = .ok ds := rfl
theorem e_itS (z : Str) : itemsD (.str z) = .ok (signs z) := rfl
theorem e_rng1 (j : Int) (h : small62 j = true) : rangeD1 [.int j] = .ok (rngL 0 j.toNat) := if_pos h
theorem e_rng2 (i j : Int) (h : (small62 i && small62 j) = true) : rangeD2 [.int i, .int j] = .ok (rngL i (j - i).toNat) := if_pos h
theorem e_zip (a b : List D) : zipD [.list a, .list b] = .ok (zipL a b) := rfl
theorem e_enum (a : List D) : enumD [.list a] = .ok (enumL 0 a) := rfl
theorem e_slL (ds : List D) (lo hi : Option Int) : slD (.list ds) lo hi = .ok (.list (cutD ds lo hi)) := rfl
theorem e_slT (ds : List D) (lo hi : Option Int) : slD (.tup ds) lo hi = .ok (.tup (cutD ds lo hi)) := rfl
theorem e_slS (z : Str) (lo hi : Option Int) (h : z.length ≤ 16777216) : slD (.str z) lo hi = .ok (.str (cutS z lo hi)) := if_pos (line_small h)
theorem e_asI (i : Int) : asI (.int i) = .ok (some i) := rfl
theorem e_isN1 : isND .non .non = .ok (.bl true) := rfl
theorem e_isN2 (i : Int) : isND (.int i) .non = .ok (.bl false) := rfl
theorem e_notN1 : notND .non .non = .ok (.bl false) := rfl
theorem e_notN2 (i : Int) : notND (.int i) .non = .ok (.bl true) := rfl
theorem e_truB (b : Bool) : truD (.bl b) = .ok b := rfl
theorem e_truI (i : Int) : truD (.int i) = .ok (i != 0) := rfl
theorem e_truL (ds : List D) : truD (.list ds) = .ok (!ds.isEmpty) := rfl
theorem e_lc (items ys : List D) (gi : Rho → R (List D)) (vs : List Nat) (τ : D → Rho → R Rho) (p : Rho → R Bool) (ge : Rho → R D) (ρ : Rho) (h : gi ρ = .ok items) (hz : items.length ≤ 16777216) (e : lcR τ p ge (wipeR ρ vs) items = .ok ys) : gLc gi vs τ p ge ρ = .ok (.list ys) := by
  unfold gLc
  rw [h, ok_bind, if_pos (line_small hz), e]
  rfl
theorem e_mtS (f : D → List D → R D) (go : Rho → R D) (t : Rho → R (List D)) (ρ : Rho) (z : Str) (h : go ρ = .ok (.str z)) : gMt "str" f go t ρ = (t ρ).bind fun ds => f (.str z) ds := by
  unfold gMt
  rw [h]
  rfl
theorem strs_map (ys : List Str) : strsOf (ys.map D.str) = some ys := by
  induction ys with
  | nil => rfl
  | cons y ys ih =>
    show (strsOf (ys.map D.str)).map (y :: ·) = _
    rw [ih]
    rfl
theorem e_join (a : Str) (ys : List Str) (h : joinOk a ys = true) : joinD (.str a) [.list (ys.map D.str)] = .ok (.str (Txt.join a ys)) := by
  show joinSeq a (ys.map D.str) = _
  unfold joinSeq
  rw [strs_map]
  dsimp only
  rw [if_pos h]
/-! ### ifs -/
theorem e_iteAnd (k x : Bool) : (if k = true then R.ok x else R.ok false) = R.ok (k && x) := by cases k <;> rfl
theorem e_iteOr (k x : Bool) : (if k = true then R.ok true else R.ok x) = R.ok (k || x) := by cases k <;> rfl
theorem e_iteAndD (k x : Bool) : (if k = true then R.ok (D.bl x) else R.ok (D.bl false)) = R.ok (D.bl (k && x)) := by cases k <;> rfl
theorem e_iteOrD (k x : Bool) : (if k = true then R.ok (D.bl true) else R.ok (D.bl x)) = R.ok (D.bl (k || x)) := by cases k <;> rfl
section
variable {c : Prop} [Decidable c]
theorem e_then_ite (a b : S) (u : Rho → S) : (if c then a else b).then u = if c then a.then u else b.then u := by split <;> rfl
theorem e_endS_ite (a b : S) : endS (if c then a else b) = if c then endS a else endS b := by split <;> rfl
theorem e_endN_ite (a b : S) : endN (if c then a else b) = if c then endN a else endN b := by split <;> rfl
theorem e_ofR_ite (a b : R D) (ρ : Rho) (k : D → S) : S.ofR (if c then a else b) ρ k = if c then S.ofR a ρ k else S.ofR b ρ k := by split <;> rfl
theorem e_pick_ite (a b : R Bool) (ρ : Rho) (s u : S) : S.pick (if c then a else b) ρ s u = if c then S.pick a ρ s u else S.pick b ρ s u := by split <;> rfl
theorem e_bind_ite {α β : Type} (a b : R α) (f : α → R β) : (if c then a else b).bind f = if c then a.bind f else b.bind f := by split <;> rfl
end
theorem e_powN (i : Int) (j : Int) (h : powOk i j = true) : powD (.int i) (.int j) = .ok (.int (i ^ j.toNat)) := if_pos h
/-- with what a function of data comes to -/
theorem endS_of (r : R D) (ρ : Rho) : endS (S.ofR r ρ fun d => S.rt d) = r := by cases r <;> rfl
theorem e_mul1 (i j : Int) (h : (-18446744073709551616 < i ∧ i < 18446744073709551616) ∨ (-18446744073709551616 < j ∧ j < 18446744073709551616)) : mulD (.int i) (.int j) = .ok (.int (i * j)) :=
  e_mulI i j (h.imp (fun q => s64 (by have := q.1; omega) (by have := q.2; omega)) fun q => s64 (by have := q.1; omega) (by have := q.2; omega))
theorem e_pow10 (j : Int) (h0 : 0 ≤ j) (h1 : j ≤ 1000000) : powD (.int 10) (.int j) = .ok (.int (10 ^ j.toNat)) := e_powI 10 j ⟨h0, h1, by decide⟩
theorem e_pow2 (j : Int) (h0 : 0 ≤ j) (h1 : j ≤ 1000000) : powD (.int 2) (.int j) = .ok (.int (2 ^ j.toNat)) := e_powI 2 j ⟨h0, h1, by decide⟩
theorem e_shl1 (j : Int) (h0 : 0 ≤ j) (h1 : j ≤ 1000000) : shlD (.int 1) (.int j) = .ok (.int (2 ^ j.toNat)) := by
  rw [e_shlI 1 j ⟨h0, h1, by decide⟩, Int.one_mul]
theorem lcR_ex {i : Nat} {ge : Rho → R D} {ρ : Rho} (P : D → Prop) : ∀ (items : List D), (∀ d ∈ items, ∃ y, ge (ρ.set i (some d)) = .ok y ∧ P y) → ∃ ys, lcR (τName i) bYes ge ρ items = .ok ys ∧ ys.length = items.length ∧ ∀ y ∈ ys, P y
  | [], _ => ⟨[], rfl, rfl, fun _ h => nomatch h⟩
  | d :: ds, h => by
    obtain ⟨y, e, p⟩ := h d List.mem_cons_self
    obtain ⟨ys, e2, l, ps⟩ := lcR_ex (i := i) (ge := ge) (ρ := ρ) P ds fun d' hd => h d' (List.mem_cons_of_mem _ hd)
    refine ⟨y :: ys, ?_, by rw [List.length_cons, List.length_cons, l], fun z hz => ?_⟩
    · unfold lcR τName bYes
      unfold τName bYes at e2
      rw [ok_bind, ok_bind, if_pos rfl, e, ok_bind, e2, ok_bind]
    · rcases List.mem_cons.mp hz with rfl | hz
      · exact p
      · exact ps z hz
theorem strs_ex (Q : Str → Prop) : ∀ (ys : List D), (∀ y ∈ ys, ∃ s, y = .str s ∧ Q s) → ∃ zs : List Str, ys = zs.map D.str ∧ ∀ z ∈ zs, Q z
  | [], _ => ⟨[], rfl, fun _ h => nomatch h⟩
  | y :: ys, h => by
    obtain ⟨s, rfl, q⟩ := h y List.mem_cons_self
    obtain ⟨zs, rfl, qs⟩ := strs_ex Q ys fun y' hy => h y' (List.mem_cons_of_mem _ hy)
    refine ⟨s :: zs, rfl, fun z hz => ?_⟩
    rcases List.mem_cons.mp hz with rfl | hz
    · exact q
    · exact qs z hz
theorem mem_rng {lo : Int} {n : Nat} {d : D} (h : d ∈ rngL lo n) : ∃ k : Nat, k < n ∧ d = .int (lo + k) := by
  unfold rngL at h
  obtain ⟨k, hk, rfl⟩ := List.mem_map.mp h
  exact ⟨k, List.mem_range.mp hk, rfl⟩
theorem rng_len (lo : Int) (n : Nat) : (rngL lo n).length = n := by unfold rngL; simp
theorem len_app (a b : Str) : (a ++ b).length = a.length + b.length := by
  rw [TL.len_tl, TL.len_tl, TL.len_tl, TL.tl_append, List.length_append]
theorem joinL_nil : ∀ l : List (List Nat), TL.joinL [] l = l.flatten
  | [] => rfl
  | [p] => by simp [TL.joinL]
  | p :: q :: r => by
    show p ++ ([] ++ TL.joinL [] (q :: r)) = _
    rw [joinL_nil (q :: r)]
    simp
theorem tl_joinE (zs : List Str) : TL.tl (Txt.join "" zs) = (zs.map TL.tl).flatten := by
  rw [TL.join_eq, TL.tl_join]
  exact joinL_nil _
theorem joinE_len (zs : List Str) : (Txt.join "" zs).length = (zs.map (·.length)).sum := by
  rw [TL.len_tl, tl_joinE, List.length_flatten, List.map_map]
  congr 1
theorem sum_one : ∀ (zs : List Str), (∀ z ∈ zs, z.length = 1) → (zs.map (·.length)).sum = zs.length
  | [], _ => rfl
  | z :: zs, h => by
    rw [List.map_cons, List.sum_cons, h z List.mem_cons_self, sum_one zs fun z' hz => h z' (List.mem_cons_of_mem _ hz), List.length_cons]
    omega
/-- a while, turn by turn -/
theorem whileL_rule {p : Rho → R Bool} {b : Rho → S} (Post : S → Prop) (Inv : Rho → Prop) (μ : Rho → Nat) (hs : ∀ ρ, Inv ρ → (p ρ = .ok false ∧ Post (.nx ρ)) ∨ (p ρ = .ok true ∧ match b ρ with
      | .nx ρ2 => Inv ρ2 ∧ μ ρ2 < μ ρ
      | .ct ρ2 => Inv ρ2 ∧ μ ρ2 < μ ρ
      | .bk ρ2 => Post (.nx ρ2)
      | r => Post r)) : ∀ (n : Nat) (ρ : Rho), μ ρ < n → Inv ρ → Post (whileL p b n ρ)
  | 0, ρ, h, _ => absurd h (Nat.not_lt_zero _)
  | n + 1, ρ, h, i => by
    have ih := whileL_rule Post Inv μ hs n
    unfold whileL
    rcases hs ρ i with ⟨e, q⟩ | ⟨e, q⟩
    · rw [e]
      exact q
    · rw [e]
      dsimp only
      rw [if_pos rfl]
      cases e2 : b ρ with
      | nx ρ2 => rw [e2] at q; exact ih ρ2 (by have := q.2; omega) q.1
      | ct ρ2 => rw [e2] at q; exact ih ρ2 (by have := q.2; omega) q.1
      | bk ρ2 => rw [e2] at q; exact q
      | rt d => rw [e2] at q; exact q
      | rn d => rw [e2] at q; exact q
      | rm d ρ2 => rw [e2] at q; exact q
      | ex x ρ2 => rw [e2] at q; exact q
      | st => rw [e2] at q; exact q
/-- scalars that == may be asked of at any depth -/
def okS : D → Bool
  | .non => true | .bl _ => true | .int _ => true
  | .str s => PyData.strOk s
  | _ => false
theorem okS_sh {d : D} (h : okS d = true) : D.flat d = true ∧ d.py.canLay0 = true ∧ d.py.depth = 0 := by
  cases d with
  | non => exact ⟨rfl, rfl, rfl⟩
  | bl b => exact ⟨rfl, rfl, rfl⟩
  | int b => exact ⟨rfl, rfl, rfl⟩
  | str b => exact ⟨rfl, h, rfl⟩
  | _ => cases h
/-- data of scalars, lists and tuples, so deep at most -/
def shN : Nat → D → Bool
  | _, .non => true | _, .bl _ => true | _, .int _ => true
  | _, .str s => PyData.strOk s
  | n + 1, .list ds => ds.all (shN n)
  | n + 1, .tup ds => ds.all (shN n)
  | _, _ => false
theorem shN_all {n : Nat} (ih : ∀ d, shN n d = true → D.flat d = true ∧ d.py.canLay0 = true ∧ d.py.depth ≤ n) : ∀ ds : List D, ds.all (shN n) = true → D.flatAll ds = true ∧ PyData.canLayAll0 (D.pyAll ds) = true ∧ PyData.depthAll (D.pyAll ds) ≤ n
  | [], _ => ⟨rfl, rfl, Nat.zero_le _⟩
  | d :: ds, h => by
    rw [List.all_cons, Bool.and_eq_true] at h
    obtain ⟨a, b, c⟩ := ih d h.1
    obtain ⟨a2, b2, c2⟩ := shN_all ih ds h.2
    refine ⟨?_, ?_, ?_⟩
    · show (D.flat d && D.flatAll ds) = true
      rw [a, a2]; rfl
    · show (d.py.canLay0 && PyData.canLayAll0 (D.pyAll ds)) = true
      rw [b, b2]; rfl
    · show max d.py.depth (PyData.depthAll (D.pyAll ds)) ≤ n
      omega
theorem shN_ok : ∀ (n : Nat) (d : D), shN n d = true → D.flat d = true ∧ d.py.canLay0 = true ∧ d.py.depth ≤ n
  | n, .non, _ => ⟨rfl, rfl, Nat.zero_le _⟩
  | n, .bl _, _ => ⟨rfl, rfl, Nat.zero_le _⟩
  | n, .int _, _ => ⟨rfl, rfl, Nat.zero_le _⟩
  | n, .str s, h => ⟨rfl, by cases n <;> exact h, Nat.zero_le _⟩
  | 0, .list _, h => by cases h
  | 0, .tup _, h => by cases h
  | n + 1, .list ds, h => by
    obtain ⟨a, b, c⟩ := shN_all (shN_ok n) ds h
    exact ⟨a, b, Nat.succ_le_succ c⟩
  | n + 1, .tup ds, h => by
    obtain ⟨a, b, c⟩ := shN_all (shN_ok n) ds h
    exact ⟨a, b, Nat.succ_le_succ c⟩
  | n, .dict _, h => by cases n <;> cases h
  | n, .dictT _, h => by cases n <;> cases h
  | n, .obj _ _, h => by cases n <;> cases h
  | n, .loc _, h => by cases n <;> cases h
  | n, .adr _, h => by cases n <;> cases h
theorem sh_of (n : Nat) {d : D} (h : shN n d = true) (hn : n ≤ 64 := by decide) : D.sh d = true := by
  obtain ⟨a, b, c⟩ := shN_ok n d h
  unfold D.sh SeqAt.shaped
  rw [a, b, decide_eq_true (by omega)]
  rfl
theorem e_eqSh (d e : D) (h : D.sh d = true) (h' : D.sh e = true) : eqD d e = .ok (.bl (eqvD d e)) := by
  unfold eqD
  by_cases hs : scD d e = true
  · rw [if_pos hs]
  · rw [if_neg hs, h, h']
    rfl
theorem e_neSh (d e : D) (h : D.sh d = true) (h' : D.sh e = true) : neD d e = .ok (.bl (!eqvD d e)) := by
  unfold neD
  by_cases hs : scD d e = true
  · rw [if_pos hs]
  · rw [if_neg hs, h, h']
    rfl
theorem and_bd (x : Int) (y : Nat) : 0 ≤ Builtin.bitAnd x (y : Int) ∧ Builtin.bitAnd x (y : Int) ≤ (y : Int) := by
  unfold Builtin.bitAnd
  have hy : decide (0 ≤ (y : Int)) = true := decide_eq_true (by omega)
  rw [hy]
  by_cases hx : 0 ≤ x
  · rw [decide_eq_true hx]
    have h : x.toNat &&& ((y : Int).toNat) ≤ (y : Int).toNat := Nat.and_le_right
    show 0 ≤ ((x.toNat &&& (y : Int).toNat : Nat) : Int) ∧ ((x.toNat &&& (y : Int).toNat : Nat) : Int) ≤ (y : Int)
    omega
  · rw [decide_eq_false hx]
    have h : (y : Int).toNat &&& (Builtin.bitNot x).toNat ≤ (y : Int).toNat := Nat.and_le_left
    show 0 ≤ (y : Int) - (((y : Int).toNat &&& (Builtin.bitNot x).toNat : Nat) : Int) ∧ (y : Int) - (((y : Int).toNat &&& (Builtin.bitNot x).toNat : Nat) : Int) ≤ (y : Int)
    omega
/-- a for whose every turn goes on -/
theorem forL_nx {τ : D → Rho → R Rho} {b : Rho → S} (Inv : Nat → Rho → Prop) : ∀ (items : List D) (k : Nat) (ρ : Rho), Inv k ρ →
    (∀ j d ρ, items[j]? = some d → Inv (k + j) ρ → ∃ ρ1 ρ2, τ d ρ = .ok ρ1 ∧ b ρ1 = .nx ρ2 ∧ Inv (k + j + 1) ρ2) → ∃ ρ', forL τ b items ρ = .nx ρ' ∧ Inv (k + items.length) ρ'
  | [], k, ρ, h, _ => ⟨ρ, rfl, h⟩
  | d :: ds, k, ρ, h, hs => by
    obtain ⟨ρ1, ρ2, e1, e2, h2⟩ := hs 0 d ρ rfl h
    obtain ⟨ρ', e3, h3⟩ := forL_nx Inv ds (k + 1) ρ2 h2 fun j d' ρ' e i => by
      have := hs (j + 1) d' ρ' (by simpa using e) (by rw [show k + (j + 1) = k + 1 + j by omega]; exact i)
      rw [show k + (j + 1) + 1 = k + 1 + j + 1 by omega] at this
      exact this
    refine ⟨ρ', ?_, ?_⟩
    · unfold forL
      rw [e1]
      dsimp only
      rw [e2]
      exact e3
    · rw [List.length_cons, show k + (ds.length + 1) = k + 1 + ds.length by omega]
      exact h3
end Pd

/-! Pe2: texts by their signs, places of short lists, loops and comprehensions taken out of a goal -/
namespace Pd
open PySem PySem.Spec PyProof.Rows L2
/-! ### texts -/
abbrev cps (s : Str) : List Nat := s.cps.toList
theorem cps_len (s : Str) : s.length = (cps s).length := TL.len_tl s
theorem cps_app (a b : Str) : cps (a ++ b) = cps a ++ cps b := TL.tl_append a b
theorem cps_cut (z : Str) (lo hi : Option Int) : cps (cutS z lo hi) = cutD (cps z) lo hi := by
  unfold cutS cutD cps
  rw [TL.len_tl z]
theorem cutD_pre {α : Type} (xs : List α) (k : Nat) : cutD xs none (some (k : Int)) = xs.take k := by
  unfold cutD
  rw [HT.sIx_none, HT.sIx_nat, List.drop_zero, Nat.sub_zero]
  by_cases h : k ≤ xs.length
  · rw [Nat.min_eq_left h]
  · rw [Nat.min_eq_right (by omega), List.take_length, List.take_of_length_le (by omega)]
theorem cutD_suf {α : Type} (xs : List α) (k : Nat) : cutD xs (some (k : Int)) none = xs.drop k := by
  unfold cutD
  rw [HT.sIx_none, HT.sIx_nat]
  by_cases h : k ≤ xs.length
  · rw [Nat.min_eq_left h, List.take_of_length_le (by rw [List.length_drop]; omega)]
  · rw [Nat.min_eq_right (by omega), List.drop_length, List.drop_of_length_le (by omega), List.take_nil]
theorem cps_join (zs : List Str) : cps (Txt.join "" zs) = (zs.map cps).flatten := tl_joinE zs
/-- all signs of s are signs of g -/
def Sub (g s : Str) : Prop := ∀ c ∈ cps s, c ∈ cps g
theorem Sub.app {g a b : Str} (h : Sub g a) (h' : Sub g b) : Sub g (a ++ b) := fun c hc => by
  rw [cps_app] at hc
  rcases List.mem_append.mp hc with h1 | h1
  · exact h c h1
  · exact h' c h1
theorem Sub.cut {g a : Str} (h : Sub g a) (lo hi : Option Int) : Sub g (cutS a lo hi) := fun c hc => by
  rw [cps_cut] at hc
  exact h c (List.mem_of_mem_drop (List.mem_of_mem_take hc))
theorem Sub.trans {f g a : Str} (h : Sub f g) (h' : Sub g a) : Sub f a := fun c hc => h c (h' c hc)
theorem Sub.join {g : Str} {zs : List Str} (h : ∀ z ∈ zs, Sub g z) : Sub g (Txt.join "" zs) := fun c hc => by
  rw [cps_join] at hc
  obtain ⟨l, hl, hc⟩ := List.mem_flatten.mp hc
  obtain ⟨z, hz, rfl⟩ := List.mem_map.mp hl
  exact h z hz c hc
theorem Sub.refl (g : Str) : Sub g g := fun _ h => h
theorem Sub.emp (g : Str) : Sub g "" := fun c hc => by
  have e : cps "" = [] := by decide +kernel
  rw [e] at hc
  cases hc
theorem ix_sub (z : Str) (i : Int) (hz : z.length ≤ 16777216) (h0 : 0 ≤ i) (h1 : i < (z.length : Int)) : ∃ q : Str, ixD (.str z) (.int i) = .ok (.str q) ∧ q.length = 1 ∧ Sub z q := by
  obtain ⟨c, e, _, m⟩ := atI_of (xs := z.cps.toList) h0 (by rw [← TL.len_tl]; exact h1)
  refine ⟨⟨#[c]⟩, e_ixS z i c hz e, rfl, fun x hx => ?_⟩
  have : x = c := by simpa using hx
  rw [this]
  exact m
theorem len_cut_pre (z : Str) (k : Nat) : (cutS z none (some (k : Int))).length = min k z.length := by
  rw [cps_len, cps_cut, cutD_pre, List.length_take, cps_len]
theorem len_cut_suf (z : Str) (k : Nat) : (cutS z (some (k : Int)) none).length = z.length - k := by
  rw [cps_len, cps_cut, cutD_suf, List.length_drop, cps_len]
theorem strOk_of {s : Str} (h : ∀ c ∈ cps s, c < 1114112) : PyData.strOk s = true := by
  unfold PyData.strOk
  rw [Array.all_eq_true']
  intro c hc
  exact decide_eq_true (h c (Array.mem_toList_iff.mpr hc))
theorem joinE_ok {zs : List Str} (h : (zs.map (·.length)).sum ≤ 16777216) : joinOk "" zs = true := by
  unfold joinOk
  have : (("" : Str).length) = 0 := by decide +kernel
  rw [this, Nat.mul_zero, Nat.add_zero]
  exact decide_eq_true h
/-! ### places of short lists -/
section
variable (a b c d e f g h i : D) (r : List D)
theorem e_ixL0 : ixD (.list (a :: r)) (.int 0) = .ok a := e_ixL _ _ _ (atI_nat (j := 0) rfl)
theorem e_ixL1 : ixD (.list (a :: b :: r)) (.int 1) = .ok b := e_ixL _ _ _ (atI_nat (j := 1) rfl)
theorem e_ixL2 : ixD (.list (a :: b :: c :: r)) (.int 2) = .ok c := e_ixL _ _ _ (atI_nat (j := 2) rfl)
theorem e_ixL3 : ixD (.list (a :: b :: c :: d :: r)) (.int 3) = .ok d := e_ixL _ _ _ (atI_nat (j := 3) rfl)
theorem e_ixL4 : ixD (.list (a :: b :: c :: d :: e :: r)) (.int 4) = .ok e := e_ixL _ _ _ (atI_nat (j := 4) rfl)
theorem e_ixL5 : ixD (.list (a :: b :: c :: d :: e :: f :: r)) (.int 5) = .ok f := e_ixL _ _ _ (atI_nat (j := 5) rfl)
theorem e_ixL6 : ixD (.list (a :: b :: c :: d :: e :: f :: g :: r)) (.int 6) = .ok g := e_ixL _ _ _ (atI_nat (j := 6) rfl)
theorem e_ixL7 : ixD (.list (a :: b :: c :: d :: e :: f :: g :: h :: r)) (.int 7) = .ok h := e_ixL _ _ _ (atI_nat (j := 7) rfl)
theorem e_ixL8 : ixD (.list (a :: b :: c :: d :: e :: f :: g :: h :: i :: r)) (.int 8) = .ok i := e_ixL _ _ _ (atI_nat (j := 8) rfl)
theorem e_ixT0 : ixD (.tup (a :: r)) (.int 0) = .ok a := e_ixT _ _ _ (atI_nat (j := 0) rfl)
theorem e_ixT1 : ixD (.tup (a :: b :: r)) (.int 1) = .ok b := e_ixT _ _ _ (atI_nat (j := 1) rfl)
theorem e_ixT2 : ixD (.tup (a :: b :: c :: r)) (.int 2) = .ok c := e_ixT _ _ _ (atI_nat (j := 2) rfl)
theorem e_ixT3 : ixD (.tup (a :: b :: c :: d :: r)) (.int 3) = .ok d := e_ixT _ _ _ (atI_nat (j := 3) rfl)
theorem e_ixT4 : ixD (.tup (a :: b :: c :: d :: e :: r)) (.int 4) = .ok e := e_ixT _ _ _ (atI_nat (j := 4) rfl)
theorem e_ixT5 : ixD (.tup (a :: b :: c :: d :: e :: f :: r)) (.int 5) = .ok f := e_ixT _ _ _ (atI_nat (j := 5) rfl)
end
theorem e_tupleL (ds : List D) : tupleD [.list ds] = .ok (.tup ds) := rfl
theorem e_listT (ds : List D) : listD [.tup ds] = .ok (.list ds) := rfl
theorem e_tupleT (ds : List D) : tupleD [.tup ds] = .ok (.tup ds) := rfl
theorem e_catL (a b : List D) (h : a.length + b.length ≤ 16777216) : catD (.list a) (.list b) = .ok (.list (a ++ b)) := if_pos (line_small h)
/-- a place of a list that is drawn -/
theorem ix_any {ds : List D} {i : Int} (h0 : 0 ≤ i) (h1 : i < ds.length) : ∃ d, ixD (.list ds) (.int i) = .ok d ∧ d ∈ ds := by
  obtain ⟨d, e, _, m⟩ := atI_of h0 h1
  exact ⟨d, e_ixL _ _ _ e, m⟩
/-! ### loops and comprehensions -/
section
variable {i : Nat} {τ : D → Rho → R Rho} {b : Rho → S} {ρ : Rho} {gi : Rho → R (List D)} {ge : Rho → R D} {p : Rho → R Bool} {vs : List Nat} {items : List D}
theorem forL_out {r : S} (hr : forL τ b items ρ = r) (Inv : Nat → Rho → Prop) (i0 : Inv 0 ρ) (hs : ∀ j d ρ, items[j]? = some d → Inv j ρ → ∃ ρ1, τ d ρ = .ok ρ1 ∧ ∃ ρ2, b ρ1 = .nx ρ2 ∧ Inv (j + 1) ρ2) : ∃ ρ', r = .nx ρ' ∧ Inv items.length ρ' := by
  obtain ⟨ρ', e, h⟩ := forL_nx Inv items 0 ρ i0 fun j d ρ e h => by
    rw [Nat.zero_add] at h ⊢
    obtain ⟨ρ1, a, ρ2, b, c⟩ := hs j d ρ e h
    exact ⟨ρ1, ρ2, a, b, c⟩
  rw [Nat.zero_add] at h
  exact ⟨ρ', hr.symm.trans e, h⟩
theorem gLc_out {r : R D} (hr : gLc gi vs (τName i) bYes ge ρ = r) (P : D → Prop) (hi : gi ρ = .ok items) (hz : items.length ≤ 16777216) (hs : ∀ d ∈ items, ∃ y, ge ((wipeR ρ vs).set i (some d)) = .ok y ∧ P y) :
    ∃ ys, r = .ok (.list ys) ∧ ys.length = items.length ∧ ∀ y ∈ ys, P y := by
  obtain ⟨ys, e, l, h⟩ := lcR_ex (i := i) (ge := ge) (ρ := wipeR ρ vs) P items hs
  exact ⟨ys, hr.symm.trans (e_lc items ys gi vs (τName i) bYes ge ρ hi hz e), l, h⟩
theorem gLc_map {r : R D} (hr : gLc gi vs (τName i) bYes ge ρ = r) (f : D → D) (hi : gi ρ = .ok items) (hz : items.length ≤ 16777216) (hs : ∀ d ∈ items, ge ((wipeR ρ vs).set i (some d)) = .ok (f d)) : r = .ok (.list (items.map f)) := by
  rw [← hr]
  exact e_lc items _ gi vs (τName i) bYes ge ρ hi hz (lcR_map f items hs)
theorem gLc_filter {r : R D} (hr : gLc gi vs (τName i) p ge ρ = r) (P : D → Bool) (f : D → D) (hi : gi ρ = .ok items) (hz : items.length ≤ 16777216) (hp : ∀ d ∈ items, p ((wipeR ρ vs).set i (some d)) = .ok (P d)) (hs : ∀ d ∈ items, P d = true → ge ((wipeR ρ vs).set i (some d)) = .ok (f d)) :
    r = .ok (.list ((items.filter P).map f)) := by
  rw [← hr]
  exact e_lc items _ gi vs (τName i) p ge ρ hi hz (lcR_filter P f items hp hs)
end
theorem len_filter_not {α : Type} (P : α → Bool) : ∀ l : List α, (((l.filter fun x => !P x).length : Int) == 0) = l.all P
  | [] => rfl
  | x :: l => by
    have ih := len_filter_not P l
    rw [List.all_cons]
    cases h : P x with
    | true => rw [List.filter_cons_of_neg (by rw [h]; decide), ih]; rfl
    | false =>
      rw [List.filter_cons_of_pos (by rw [h]; rfl), List.length_cons, Bool.false_and]
      refine beq_eq_false_iff_ne.mpr ?_
      omega
theorem signs_len (s : Str) : (signs s).length = s.length := by
  unfold signs
  rw [List.length_map, cps_len]
theorem bools_map {α : Type} (f : α → Bool) : ∀ l : List α, bools (l.map fun x => D.bl (f x)) = some (l.map f)
  | [] => rfl
  | x :: l => by
    show (bools (l.map fun x => D.bl (f x))).map (f x :: ·) = _
    rw [bools_map f l]
    rfl
theorem e_all {α : Type} (f : α → Bool) (l : List α) : allD [.list (l.map fun x => D.bl (f x))] = .ok (.bl (l.all f)) := by
  show (match bools (l.map fun x => D.bl (f x)) with | some bs => R.ok (D.bl (bs.all id)) | none => .st) = _
  rw [bools_map]
  show R.ok (D.bl ((l.map f).all id)) = _
  rw [List.all_map]
  rfl
/-! ### == with a text -/
/-- data of scalars, lists and tuples, so deep at most, the texts not long -/
def shL : Nat → D → Bool
  | _, .non => true | _, .bl _ => true | _, .int _ => true
  | _, .str s => PyData.strOk s && decide (s.length ≤ 1000)
  | n + 1, .list ds => ds.all (shL n)
  | n + 1, .tup ds => ds.all (shL n)
  | _, _ => false
theorem shL_sh : ∀ {n : Nat} {d : D}, shL n d = true → shN n d = true
  | n, .non, _ => by cases n <;> rfl
  | n, .bl _, _ => by cases n <;> rfl
  | n, .int _, _ => by cases n <;> rfl
  | n, .str s, h => by
    have h' : (PyData.strOk s && decide (s.length ≤ 1000)) = true := by cases n <;> exact h
    rw [Bool.and_eq_true] at h'
    cases n <;> exact h'.1
  | 0, .list _, h => by cases h
  | 0, .tup _, h => by cases h
  | n + 1, .list ds, h => List.all_eq_true.mpr fun d hd => shL_sh (n := n) (List.all_eq_true.mp (show ds.all (shL n) = true from h) d hd)
  | n + 1, .tup ds, h => List.all_eq_true.mpr fun d hd => shL_sh (n := n) (List.all_eq_true.mp (show ds.all (shL n) = true from h) d hd)
  | n, .dict _, h => by cases n <;> cases h
  | n, .dictT _, h => by cases n <;> cases h
  | n, .obj _ _, h => by cases n <;> cases h
  | n, .loc _, h => by cases n <;> cases h
  | n, .adr _, h => by cases n <;> cases h
theorem shL_len {n : Nat} {s : Str} (h : shL n (.str s) = true) : s.length ≤ 1000 := by
  have h' : (PyData.strOk s && decide (s.length ≤ 1000)) = true := by cases n <;> exact h
  rw [Bool.and_eq_true] at h'
  exact of_decide_eq_true h'.2
theorem shL_tup {n : Nat} {ds : List D} (h : shL (n + 1) (.tup ds) = true) : ∀ d ∈ ds, shL n d = true := List.all_eq_true.mp (show ds.all (shL n) = true from h)
/-- scalars, lists, tuples of these; or {} -/
def Th (n : Nat) (d : D) : Prop := shL n d = true ∨ d = .dict []
def isW (d : D) (w : Str) : Bool := match d with
  | .str s => s == w
  | _ => false
theorem eqv_str {d : D} (w : Str) (h : D.flat d = true) : eqvD d (.str w) = isW d w := by
  cases d <;> first | rfl | cases h
theorem eqX_str {n : Nat} {d : D} {w : Str} (h : Th n d) (hw : PyData.strOk w = true) (hn : n ≤ 64) : eqXD d (.str w) = .ok (.bl (isW d w)) := by
  rcases h with h | rfl
  · have h := shL_sh h
    obtain ⟨f, _, _⟩ := shN_ok n d h
    have e1 : isT0 d (.str w) = none := by cases d <;> rfl
    have e2 : isDS d (.str w) = false := by cases d <;> first | rfl | cases f
    unfold eqXD
    rw [e1]
    dsimp only
    rw [e2, if_neg Bool.false_ne_true, e_eqSh d (.str w) (sh_of n h hn) (sh_of 0 (d := .str w) hw), eqv_str w f]
  · rfl
theorem neX_str {n : Nat} {d : D} {w : Str} (h : Th n d) (hw : PyData.strOk w = true) (hn : n ≤ 64) : neXD d (.str w) = .ok (.bl (!isW d w)) := by
  rcases h with h | rfl
  · have h := shL_sh h
    obtain ⟨f, _, _⟩ := shN_ok n d h
    have e1 : isT0 d (.str w) = none := by cases d <;> rfl
    have e2 : isDS' d (.str w) = false := by cases d <;> first | rfl | cases f
    unfold neXD
    rw [e1]
    dsimp only
    rw [e2, if_neg Bool.false_ne_true, e_neSh d (.str w) (sh_of n h hn) (sh_of 0 (d := .str w) hw), eqv_str w f]
  · rfl
theorem eqX_int (i j : Int) : eqXD (.int i) (.int j) = .ok (.bl (i == j)) := rfl
theorem neX_int (i j : Int) : neXD (.int i) (.int j) = .ok (.bl (!(i == j))) := rfl
theorem eqX_t0 (ds : List D) : eqXD (.tup ds) (.tup []) = .ok (.bl ds.isEmpty) := rfl
theorem neX_t0 (ds : List D) : neXD (.tup ds) (.tup []) = .ok (.bl (!ds.isEmpty)) := rfl
theorem eqX_S (s w : Str) : eqXD (.str s) (.str w) = .ok (.bl (s == w)) := rfl
theorem neX_S (s w : Str) : neXD (.str s) (.str w) = .ok (.bl (!(s == w))) := rfl
theorem eqv_same {n : Nat} {d : D} (h : shN n d = true) : eqvD d d = true := by
  obtain ⟨_, c, _⟩ := shN_ok n d h
  exact PySem.SeqAt.eqv_refl d.py c
theorem neX_same {n : Nat} {d : D} (h : shN n d = true) (hn : n ≤ 64) (h0 : isT0 d d = none ∨ d = .tup []) : neXD d d = .ok (.bl false) := by
  rcases h0 with h0 | rfl
  · obtain ⟨f, _, _⟩ := shN_ok n d h
    have e2 : isDS' d d = false := by cases d <;> first | rfl | cases f
    unfold neXD
    rw [h0]
    dsimp only
    rw [e2, if_neg Bool.false_ne_true, e_neSh d d (sh_of n h hn) (sh_of n h hn), eqv_same h]
    rfl
  · rfl
theorem e_setIx {i : Nat} {gi g : Rho → R D} {ρ : Rho} {ds : List D} {d : D} {k : Nat} (h : ρ[i]? = some (some (.list ds))) (hg : g ρ = .ok d) (hk : gi ρ = .ok (.int (k : Int))) (hl : k < ds.length) : sSetIx i gi g ρ = .nx (ρ.set i (some (.list (ds.set k d)))) := by
  unfold sSetIx
  rw [e_E, hg, e_ofR, h]
  show sE gi _ ρ = _
  rw [e_E, hk, e_ofR, h]
  show (match ixN ds.length (k : Int) with | some j => S.nx (ρ.set i (some (.list (ds.set j d)))) | none => .st) = _
  have hx : ixN ds.length (k : Int) = some k := by
    unfold ixN
    rw [if_pos (by omega), if_pos (by omega), Int.toNat_natCast]
  rw [hx]
theorem ixT_nat {ds : List D} {k : Nat} (h : k < ds.length) : ixD (.tup ds) (.int (k : Int)) = .ok ds[k] := e_ixT _ _ _ (atI_nat (List.getElem?_eq_getElem h))
theorem e_mulS (s : Str) (k : Int) (h : (repOk k && (decide (1 ≤ s.length) && (decide (s.length ≤ 1000) && decide ((repS s k).cps.size ≤ sizeLine)))) = true) : mulXD (.str s) (.int k) = .ok (.str (repS s k)) := if_pos h
theorem e_mulT (ds : List D) (k : Int) (h : (repOk k && (!ds.isEmpty && decide (ds.length ≤ 1000))) = true) : mulXD (.tup ds) (.int k) = .ok (.tup (List.replicate k.toNat ds).flatten) := if_pos h
theorem Th.of {n : Nat} {d : D} (h : shL n d = true) : Th n d := .inl h
theorem str_eqv {d : D} (w : Str) (h : D.flat d = true) : eqvD (.str w) d = isW d w := by
  cases d with
  | str s =>
    show (w == s) = (s == w)
    by_cases e : s = w
    · subst e
      rfl
    · rw [beq_eq_false_iff_ne.mpr e, beq_eq_false_iff_ne.mpr (Ne.symm e)]
  | _ => first | rfl | cases h
theorem str_eqX {n : Nat} {d : D} {w : Str} (h : Th n d) (hw : PyData.strOk w = true) (hn : n ≤ 64) : eqXD (.str w) d = .ok (.bl (isW d w)) := by
  rcases h with h | rfl
  · have h := shL_sh h
    obtain ⟨f, _, _⟩ := shN_ok n d h
    have e1 : isT0 (.str w) d = none := by cases d <;> rfl
    have e2 : isDS (.str w) d = false := by cases d <;> first | rfl | cases f
    unfold eqXD
    rw [e1]
    dsimp only
    rw [e2, if_neg Bool.false_ne_true, e_eqSh (.str w) d (sh_of 0 (d := .str w) hw) (sh_of n h hn), str_eqv w f]
  · rfl
theorem ofString_inj {a b : String} (h : Str.ofString a = Str.ofString b) : a = b := by
  have h1 : TL.tl (Str.ofString a) = TL.tl (Str.ofString b) := by rw [h]
  rw [TL.tl_ofString, TL.tl_ofString] at h1
  have h2 : a.toList = b.toList := by
    have inj : ∀ (x y : List Char), x.map Char.toNat = y.map Char.toNat → x = y := by
      intro x
      induction x with
      | nil => intro y e; cases y with
        | nil => rfl
        | cons _ _ => cases e
      | cons c x ih =>
        intro y e
        cases y with
        | nil => cases e
        | cons d y =>
          rw [List.map_cons, List.map_cons] at e
          injection e with e1 e2
          rw [ih y e2, Char.toNat_inj.mp e1]
    exact inj _ _ h1
  exact String.toList_inj.mp h2
theorem e_strLit (a b : String) : (Str.ofString a == Str.ofString b) = (a == b) := by
  by_cases h : a = b
  · subst h
    simp
  · rw [beq_eq_false_iff_ne.mpr h, beq_eq_false_iff_ne.mpr fun e => h (ofString_inj e)]
/-! ### loops over lists that stand there -/
def S.next (r : S) (k : Rho → S) : S := match r with
  | .nx ρ => k ρ
  | .ct ρ => k ρ
  | .bk ρ => .nx ρ
  | r => r
section
variable {i : Nat} {b : Rho → S} {ρ : Rho} {k : Rho → S}
theorem e_forN (d : D) (ds : List D) : forL (τName i) b (d :: ds) ρ = (b (ρ.set i (some d))).next (forL (τName i) b ds) := rfl
theorem e_for0 {τ : D → Rho → R Rho} : forL τ b [] ρ = .nx ρ := rfl
theorem e_nxn (ρ1 : Rho) : (S.nx ρ1).next k = k ρ1 := rfl
theorem e_nct (ρ1 : Rho) : (S.ct ρ1).next k = k ρ1 := rfl
theorem e_nbk (ρ1 : Rho) : (S.bk ρ1).next k = .nx ρ1 := rfl
theorem e_nrt (d : D) : (S.rt d).next k = .rt d := rfl
theorem e_nrn (d : D) : (S.rn d).next k = .rn d := rfl
theorem e_nex (x : Ex) (ρ1 : Rho) : (S.ex x ρ1).next k = .ex x ρ1 := rfl
theorem e_next_ite {c : Prop} [Decidable c] (a b : S) : (if c then a else b).next k = if c then a.next k else b.next k := by split <;> rfl
end
/-! ### the Q layer, where what is asked has no numbers -/
section
variable {s u : SQF} {ρ : RhoQ} {M : Mem}
def SQ.then (r : SQ) (u : SQF) : SQ := match r with
  | .nx ρ M => u ρ M
  | r => r
theorem q_seq : sqSeq s u ρ M = (s ρ M).then u := rfl
theorem q_tnx (ρ1 : RhoQ) (M1 : Mem) : (SQ.nx ρ1 M1).then u = u ρ1 M1 := rfl
theorem q_tex (x : Ex) (ρ1 : RhoQ) (M1 : Mem) : (SQ.ex x ρ1 M1).then u = .ex x ρ1 M1 := rfl
theorem q_trt (p : P) (M1 : Mem) : (SQ.rt p M1).then u = .rt p M1 := rfl
theorem q_then_ite {c : Prop} [Decidable c] (a b : SQ) : (if c then a else b).then u = if c then a.then u else b.then u := by split <;> rfl
def SQ.pick (r : R Bool) (ρ : RhoQ) (M : Mem) (a b : SQ) : SQ := match r with
  | .ok k => if k = true then a else b
  | .ex x => .ex x ρ M
  | .st => .st
theorem q_if (g : Rho → R Bool) : sqIf (qT g) s u ρ M = SQ.pick (g (clR ρ)) ρ M (s ρ M) (u ρ M) := by
  unfold sqIf qT
  cases g (clR ρ) <;> rfl
theorem q_pick (k : Bool) (a b : SQ) : SQ.pick (.ok k) ρ M a b = if k = true then a else b := rfl
theorem q_pickx (x : Ex) (a b : SQ) : SQ.pick (.ex x) ρ M a b = .ex x ρ M := rfl
theorem q_pick_ite {c : Prop} [Decidable c] (p q : R Bool) (a b : SQ) : SQ.pick (if c then p else q) ρ M a b = if c then SQ.pick p ρ M a b else SQ.pick q ρ M a b := by split <;> rfl
theorem q_nil : sqNil ρ M = .nx ρ M := rfl
theorem q_raise (x : Str) : sqRaise x ρ M = .ex ⟨x, []⟩ ρ M := rfl
theorem cl_nil : clR [] = [] := rfl
theorem cl_f (d : D) (ρ : RhoQ) : clR (some (false, d) :: ρ) = some d :: clR ρ := rfl
theorem cl_t (d : D) (ρ : RhoQ) : clR (some (true, d) :: ρ) = none :: clR ρ := rfl
theorem cl_n (ρ : RhoQ) : clR (none :: ρ) = none :: clR ρ := rfl
theorem q_fldOk {cs : List Str} {f : Str} {i k : Nat} {g : Rho → R D} {d : D} {b : Bool} {c : Str} {fs : List (Str × D)} (hi : ρ[i]? = some (some (true, .loc k))) (hg : g (clR ρ) = .ok d) (hM : M[k]? = some (b, .obj c fs)) (hc : cs.contains c = true) (hf : fs.length < 1000) :
    sqFld cs f (qVar i) (qP g) ρ M = .nx ρ (M.set k (b, .obj c (putD f d fs))) := by
  unfold sqFld sqE qP qVar
  rw [hg]
  show (match (match ρ[i]? with | some (some p) => RQ.ok p M | _ => .st) with | .ok p M1 => _ | .ex x M1 => _ | .st => _) = _
  rw [hi]
  show (match M[k]? with | some (b, .obj c fs) => if (cs.contains c && decide (fs.length < 1000)) = true then SQ.nx ρ (M.set k (b || false, .obj c (putD f d fs))) else .st | _ => .st) = _
  rw [hM]
  show (if (cs.contains c && decide (fs.length < 1000)) = true then SQ.nx ρ (M.set k (b || false, .obj c (putD f d fs))) else .st) = _
  rw [hc, decide_eq_true hf, Bool.or_false]
  rfl
end
end Pd

/-! Pe3: data that == tells apart just as they are; the Q layer evaluated -/
namespace Pd
open PySem PySem.Spec PyProof.Rows L2
/-! ### plain data: None, whole numbers, texts, tuples (and lists, where l) of such -/
def cvD (l : Bool) : Nat → D → Bool
  | _, .non => true
  | _, .int _ => true
  | _, .str s => PyData.strOk s && decide (s.length ≤ 1000)
  | n + 1, .list ds => l && ds.all (cvD l n)
  | n + 1, .tup ds => ds.all (cvD l n)
  | _, _ => false
theorem cv_sh {l : Bool} : ∀ {n : Nat} {d : D}, cvD l n d = true → shL n d = true
  | n, .non, _ => by cases n <;> rfl
  | n, .int _, _ => by cases n <;> rfl
  | n, .str s, h => by cases n <;> exact h
  | 0, .list _, h => by cases h
  | n + 1, .list ds, h => List.all_eq_true.mpr fun d hd => cv_sh (List.all_eq_true.mp (Bool.and_eq_true_iff.mp (show (l && ds.all (cvD l n)) = true from h)).2 d hd)
  | 0, .tup _, h => by cases h
  | n + 1, .tup ds, h => List.all_eq_true.mpr fun d hd => cv_sh (List.all_eq_true.mp (show ds.all (cvD l n) = true from h) d hd)
  | 0, .bl _, h => by cases h
  | _ + 1, .bl _, h => by cases h
  | 0, .dict _, h => by cases h
  | _ + 1, .dict _, h => by cases h
  | 0, .dictT _, h => by cases h
  | _ + 1, .dictT _, h => by cases h
  | 0, .obj _ _, h => by cases h
  | _ + 1, .obj _ _, h => by cases h
  | 0, .loc _, h => by cases h
  | _ + 1, .loc _, h => by cases h
  | 0, .adr _, h => by cases h
  | _ + 1, .adr _, h => by cases h
theorem cv_list {l : Bool} {n : Nat} {ds : List D} (h : cvD l (n + 1) (.list ds) = true) : ∀ d ∈ ds, cvD l n d = true := List.all_eq_true.mp (Bool.and_eq_true_iff.mp (show (l && ds.all (cvD l n)) = true from h)).2
theorem cv_tup {l : Bool} {n : Nat} {ds : List D} (h : cvD l (n + 1) (.tup ds) = true) : ∀ d ∈ ds, cvD l n d = true := List.all_eq_true.mp (show ds.all (cvD l n) = true from h)
theorem cv_list0 {l : Bool} {ds : List D} (h : cvD l 0 (.list ds) = true) : False := by cases h
theorem cv_tup0 {l : Bool} {ds : List D} (h : cvD l 0 (.tup ds) = true) : False := by cases h
mutual
theorem eqv_cv {l : Bool} : ∀ (n : Nat) (d e : D), cvD l n d = true → cvD l n e = true → eqvD d e = true → d = e
  | n, .non, e, _, he, q => by
    cases e with
    | non => rfl
    | bl _ => cases n <;> cases he
    | dictT _ => cases n <;> cases he
    | obj _ _ => cases n <;> cases he
    | loc _ => cases n <;> cases he
    | adr _ => cases n <;> cases he
    | int _ => exact absurd (show false = true from q) (by decide)
    | str _ => exact absurd (show false = true from q) (by decide)
    | list _ => exact absurd (show false = true from q) (by decide)
    | tup _ => exact absurd (show false = true from q) (by decide)
    | dict _ => cases n <;> cases he
  | n, .int i, e, _, he, q => by
    cases e with
    | int j => exact congrArg D.int (eq_of_beq (show (i == j) = true from q))
    | bl _ => cases n <;> cases he
    | dictT _ => cases n <;> cases he
    | obj _ _ => cases n <;> cases he
    | loc _ => cases n <;> cases he
    | adr _ => cases n <;> cases he
    | _ => cases q
  | n, .str s, e, _, he, q => by
    cases e with
    | str t => exact congrArg D.str (eq_of_beq (show (s == t) = true from q))
    | bl _ => cases n <;> cases he
    | dictT _ => cases n <;> cases he
    | obj _ _ => cases n <;> cases he
    | loc _ => cases n <;> cases he
    | adr _ => cases n <;> cases he
    | _ => cases q
  | 0, .list ds, _, h, _, _ => (cv_list0 h).elim
  | n + 1, .list ds, e, h, he, q => by
    cases e with
    | list es => exact congrArg D.list (eqvs_cv n ds es (cv_list h) (cv_list he) q)
    | bl _ => cases he
    | dictT _ => cases he
    | obj _ _ => cases he
    | loc _ => cases he
    | adr _ => cases he
    | _ => cases q
  | 0, .tup ds, _, h, _, _ => (cv_tup0 h).elim
  | n + 1, .tup ds, e, h, he, q => by
    cases e with
    | tup es => exact congrArg D.tup (eqvs_cv n ds es (cv_tup h) (cv_tup he) q)
    | bl _ => cases he
    | dictT _ => cases he
    | obj _ _ => cases he
    | loc _ => cases he
    | adr _ => cases he
    | _ => cases q
  | n, .bl _, _, h, _, _ => by cases n <;> cases h
  | n, .dict _, _, h, _, _ => by cases n <;> cases h
  | n, .dictT _, _, h, _, _ => by cases n <;> cases h
  | n, .obj _ _, _, h, _, _ => by cases n <;> cases h
  | n, .loc _, _, h, _, _ => by cases n <;> cases h
  | n, .adr _, _, h, _, _ => by cases n <;> cases h
theorem eqvs_cv {l : Bool} : ∀ (n : Nat) (ds es : List D), (∀ d ∈ ds, cvD l n d = true) → (∀ e ∈ es, cvD l n e = true) → PyData.eqvAll (D.pyAll ds) (D.pyAll es) = true → ds = es
  | n, [], [], _, _, _ => rfl
  | n, [], e :: es, _, _, q => by cases q
  | n, d :: ds, [], _, _, q => by cases q
  | n, d :: ds, e :: es, h, he, q => by
    have q' : (eqvD d e && PyData.eqvAll (D.pyAll ds) (D.pyAll es)) = true := q
    rw [Bool.and_eq_true] at q'
    rw [eqv_cv n d e (h d List.mem_cons_self) (he e List.mem_cons_self) q'.1, eqvs_cv n ds es (fun x hx => h x (List.mem_cons_of_mem _ hx)) (fun x hx => he x (List.mem_cons_of_mem _ hx)) q'.2]
end
open Classical in
noncomputable def eqB (d e : D) : Bool := decide (d = e)
theorem eqB_same (d : D) : eqB d d = true := by unfold eqB; exact @decide_eq_true _ (_) rfl
theorem eqB_iff {d e : D} : eqB d e = true ↔ d = e := by unfold eqB; exact @decide_eq_true_iff _ (_)
theorem eqB_ne {d e : D} (h : d ≠ e) : eqB d e = false := by unfold eqB; exact @decide_eq_false _ (_) h
theorem eqv_B {l : Bool} {n : Nat} {d e : D} (h : cvD l n d = true) (h' : cvD l n e = true) : eqvD d e = eqB d e := by
  by_cases q : d = e
  · subst q
    rw [eqB_same, eqv_same (shL_sh (cv_sh h))]
  · rw [eqB_ne q]
    cases z : eqvD d e with
    | false => rfl
    | true => exact absurd (eqv_cv n d e h h' z) q
theorem cv_eq {l : Bool} {n : Nat} {d e : D} (h : cvD l n d = true) (h' : cvD l n e = true) (hn : n ≤ 64 := by decide) : eqD d e = .ok (.bl (eqB d e)) := by
  rw [e_eqSh d e (sh_of n (shL_sh (cv_sh h)) hn) (sh_of n (shL_sh (cv_sh h')) hn), eqv_B h h']
theorem cv_ne {l : Bool} {n : Nat} {d e : D} (h : cvD l n d = true) (h' : cvD l n e = true) (hn : n ≤ 64 := by decide) : neD d e = .ok (.bl (!eqB d e)) := by
  rw [e_neSh d e (sh_of n (shL_sh (cv_sh h)) hn) (sh_of n (shL_sh (cv_sh h')) hn), eqv_B h h']
/-! ### no numbers in them, no lists -/
mutual
theorem put_cv {l : Bool} {f : Nat → Option D} : ∀ (n : Nat) (d : D), cvD l n d = true → d.put f = some d
  | n, .non, _ => rfl
  | n, .int _, _ => rfl
  | n, .str _, _ => rfl
  | 0, .list _, h => (cv_list0 h).elim
  | n + 1, .list ds, h => by
    show (D.putAll f ds).map D.list = _
    rw [puts_cv n ds (cv_list h)]
    rfl
  | 0, .tup _, h => (cv_tup0 h).elim
  | n + 1, .tup ds, h => by
    show (D.putAll f ds).map D.tup = _
    rw [puts_cv n ds (cv_tup h)]
    rfl
  | n, .bl _, h => by cases n <;> cases h
  | n, .dict _, h => by cases n <;> cases h
  | n, .dictT _, h => by cases n <;> cases h
  | n, .obj _ _, h => by cases n <;> cases h
  | n, .loc _, h => by cases n <;> cases h
  | n, .adr _, h => by cases n <;> cases h
theorem puts_cv {l : Bool} {f : Nat → Option D} : ∀ (n : Nat) (ds : List D), (∀ d ∈ ds, cvD l n d = true) → D.putAll f ds = some ds
  | n, [], _ => rfl
  | n, d :: ds, h => by
    show (D.put f d).bind (fun e => (D.putAll f ds).map (e :: ·)) = _
    rw [put_cv n d (h d List.mem_cons_self), puts_cv n ds fun x hx => h x (List.mem_cons_of_mem _ hx)]
    rfl
end
mutual
theorem off_cv {g : Tg} : ∀ (n : Nat) (d : D), cvD false n d = true → d.off g = true
  | n, .non, _ => rfl
  | n, .int _, _ => rfl
  | n, .str _, _ => rfl
  | n, .list _, h => by cases n <;> cases h
  | 0, .tup _, h => (cv_tup0 h).elim
  | n + 1, .tup ds, h => offs_cv n ds (cv_tup h)
  | n, .bl _, h => by cases n <;> cases h
  | n, .dict _, h => by cases n <;> cases h
  | n, .dictT _, h => by cases n <;> cases h
  | n, .obj _ _, h => by cases n <;> cases h
  | n, .loc _, h => by cases n <;> cases h
  | n, .adr _, h => by cases n <;> cases h
theorem offs_cv {g : Tg} : ∀ (n : Nat) (ds : List D), (∀ d ∈ ds, cvD false n d = true) → D.offAll g ds = true
  | n, [], _ => rfl
  | n, d :: ds, h => by
    show (d.off g && D.offAll g ds) = true
    rw [off_cv n d (h d List.mem_cons_self), offs_cv n ds fun x hx => h x (List.mem_cons_of_mem _ hx)]
    rfl
end
/-! ### the Q layer evaluated -/
section
variable {g go gk : GQ} {t : GQA} {ρ : RhoQ} {M M1 M2 : Mem} {s u : SQF} {gp : Rho → R D}
def SQ.of (r : RQ P) (ρ : RhoQ) (k : P → Mem → SQ) : SQ := match r with
  | .ok p M => k p M
  | .ex x M => .ex x ρ M
  | .st => .st
theorem s_ok (p : P) (k : P → Mem → SQ) : SQ.of (.ok p M) ρ k = k p M := rfl
theorem s_ex (x : Ex) (k : P → Mem → SQ) : SQ.of (.ex x M) ρ k = .ex x ρ M := rfl
theorem e_sqRet : sqRet g ρ M = SQ.of (g ρ M) ρ fun p M => .rt p M := rfl
theorem e_sqSet (i : Nat) : sqSet i g ρ M = SQ.of (g ρ M) ρ fun p M => .nx (ρ.set i (some p)) M := rfl
theorem e_sqExpr : sqExpr g ρ M = SQ.of (g ρ M) ρ fun _ M => .nx ρ M := rfl
def SQ.asg (o : Option RhoQ) (M : Mem) : SQ := match o with
  | some ρ' => .nx ρ' M
  | none => .st
theorem e_sqAsg (τ : TQ) : sqAsg τ g ρ M = SQ.of (g ρ M) ρ fun p M => SQ.asg (τ p ρ) M := rfl
theorem asg_some (ρ' : RhoQ) : SQ.asg (some ρ') M = .nx ρ' M := rfl
theorem e_tqName (i : Nat) (p : P) : tqName i p ρ = some (ρ.set i (some p)) := rfl
theorem e_tqTup2 (i j : Nat) (b : Bool) (d e : D) : tqTup 2 (tqCons (tqName i) (tqCons (tqName j) tqNil)) (b, .tup [d, e]) ρ = some ((ρ.set i (some (b, d))).set j (some (b, e))) := rfl
theorem e_qP : qP gp ρ M = (gp (clR ρ)).up M fun d => (false, d) := rfl
theorem e_upok {α β : Type} (a : α) (f : α → β) : (R.ok a).up M f = .ok (f a) M := rfl
theorem e_upex {α β : Type} (x : Ex) (f : α → β) : (R.ex x : R α).up M f = .ex x M := rfl
def RQ.var (o : Option (Option P)) (M : Mem) : RQ P := match o with
  | some (some p) => .ok p M
  | _ => .st
theorem e_qVar (i : Nat) : qVar i ρ M = RQ.var ρ[i]? M := rfl
theorem e_varok (p : P) : RQ.var (some (some p)) M = .ok p M := rfl
def R.new (r : R D) (M : Mem) : RQ P := match r with
  | .ok d => .ok (true, .loc M.length) (M ++ [(false, d)])
  | .ex x => .ex x M
  | .st => .st
theorem e_qNew : qNew gp ρ M = (gp (clR ρ)).new M := rfl
theorem e_newok (d : D) : (R.ok d).new M = .ok (true, .loc M.length) (M ++ [(false, d)]) := rfl
theorem rq_ok {α β : Type} (a : α) (f : α → Mem → RQ β) : (RQ.ok a M).bind f = f a M := rfl
theorem rq_ex {α β : Type} (x : Ex) (f : α → Mem → RQ β) : (RQ.ex x M : RQ α).bind f = .ex x M := rfl
theorem e_aqN : aqNil ρ M = .ok [] M := rfl
theorem e_aqC : aqCons g t ρ M = (g ρ M).bind fun p M1 => (t ρ M1).bind fun ps M2 => .ok (p :: ps) M2 := rfl
theorem e_qPA (gs : Rho → R (List D)) : qPA gs ρ M = (gs (clR ρ)).up M fun ds => ds.map fun d => (false, d) := rfl
theorem e_qCall (G : GF) : qCall G t ρ M = (t ρ M).bind G := rfl
theorem e_qTup : qTup t ρ M = (t ρ M).bind tupP := rfl
theorem e_tupP2 (p q : P) : tupP [p, q] M = .ok (p.1 || q.1, .tup [p.2, q.2]) M := by
  unfold tupP
  rw [if_pos (by rw [sizeLine_eq, List.length_cons, List.length_cons, List.length_nil]; omega)]
  show RQ.ok (p.1 || (q.1 || false), _) M = _
  rw [Bool.or_false]
  rfl
theorem e_qSn : qSn gp ρ M = upS M (gp (snR M ρ)) := rfl
theorem up_off {d : D} (h : d.off (tagsM M) = true) : upS M (.ok d) = .ok (false, d) M := if_pos h
def RQ.tst (r : R Bool) (M : Mem) : RQ Bool := match r with
  | .ok b => .ok b M
  | .ex x => if D.offF (tagsM M) x.fs = true then .ex x M else .st
  | .st => .st
theorem e_qSnT (p : Rho → R Bool) : qSnT p ρ M = RQ.tst (p (snR M ρ)) M := rfl
theorem e_tok (b : Bool) : RQ.tst (.ok b) M = .ok b M := rfl
def SQ.pk (r : RQ Bool) (ρ : RhoQ) (a b : Mem → SQ) : SQ := match r with
  | .ok k M => if k = true then a M else b M
  | .ex x M => .ex x ρ M
  | .st => .st
theorem q_ifS (p : RhoQ → Mem → RQ Bool) : sqIf p s u ρ M = SQ.pk (p ρ M) ρ (s ρ) (u ρ) := rfl
theorem pk_ok (k : Bool) (a b : Mem → SQ) : SQ.pk (.ok k M) ρ a b = if k = true then a M else b M := rfl
theorem e_qT (p : Rho → R Bool) : qT p ρ M = (p (clR ρ)).up M fun b => b := rfl
theorem e_up_ite {α β : Type} {c : Prop} [Decidable c] (a b : R α) (f : α → β) : (if c then a else b).up M f = if c then a.up M f else b.up M f := by split <;> rfl
theorem pk_ite {c : Prop} [Decidable c] (p q : RQ Bool) (a b : Mem → SQ) : SQ.pk (if c then p else q) ρ a b = if c then SQ.pk p ρ a b else SQ.pk q ρ a b := by split <;> rfl
theorem s_ite {c : Prop} [Decidable c] (p q : RQ P) (k : P → Mem → SQ) : SQ.of (if c then p else q) ρ k = if c then SQ.of p ρ k else SQ.of q ρ k := by split <;> rfl
theorem tst_ite {c : Prop} [Decidable c] (p q : R Bool) : RQ.tst (if c then p else q) M = if c then RQ.tst p M else RQ.tst q M := by split <;> rfl
theorem e_end_ite {c : Prop} [Decidable c] (p q : SQ) : endQ (if c then p else q) = if c then endQ p else endQ q := by split <;> rfl
theorem sn_nil : snR M [] = [] := rfl
theorem sn_s (p : P) (ρ : RhoQ) : snR M (some p :: ρ) = p.full M :: snR M ρ := rfl
theorem sn_n (ρ : RhoQ) : snR M (none :: ρ) = none :: snR M ρ := rfl
theorem fu_f (d : D) : P.full M (false, d) = some d := rfl
theorem fu_t {l : Bool} {n : Nat} {d : D} (h : cvD l n d = true) : P.full M (true, d) = some d := put_cv n d h
theorem fu_loc {l : Bool} {n k : Nat} {b : Bool} {d : D} (hM : M[k]? = some (b, d)) (h : cvD l n d = true) : P.full M (true, .loc k) = some d := by
  have hl : k < M.length := (List.getElem?_eq_some_iff.mp hM).1
  show memD M M.length k = some d
  obtain ⟨m, hm⟩ : ∃ m, M.length = m + 1 := ⟨M.length - 1, by omega⟩
  rw [hm]
  show (match M[k]? with
    | some (false, d) => some d
    | some (true, d) => d.put (memD M m)
    | none => none) = some d
  rw [hM]
  cases b with
  | false => rfl
  | true => exact put_cv n d h
theorem e_qIx : qIx go gk ρ M = (go ρ M).bind fun p M1 => (gk ρ M1).bind fun q M2 => ixP M2 p q := rfl
theorem ixP_tup {b c : Bool} {ds : List D} {i : Int} {d : D} (h : atI ds i = some d) : ixP M (b, .tup ds) (c, .int i) = .ok (b, d) M := by
  show (match seqP M (b, .tup ds) with
    | some (b, ds) => (match atI ds i with
      | some d => RQ.ok (b, d) M
      | none => .st)
    | none => .st) = _
  have e : seqP M (b, .tup ds) = some (b, ds) := by cases b <;> rfl
  rw [e]
  show (match atI ds i with
      | some d => RQ.ok (b, d) M
      | none => .st) = _
  rw [h]
theorem e_qApp {k : Nat} {b b0 : Bool} {ds ds0 : List D} {p : P} (hgo : go ρ M = .ok (true, .loc k) M) (hM : M[k]? = some (b0, .list ds0)) (hg : g ρ M = .ok p M1) (hM1 : M1[k]? = some (b, .list ds)) (hl : ds.length < sizeLine) :
    sqAppend go g ρ M = .nx ρ (M1.set k (b || p.1, .list (ds ++ [p.2]))) := by
  unfold sqAppend sqE
  rw [hgo]
  show (match M[k]? with
    | some (_, .list _) => _
    | _ => SQ.st) = _
  rw [hM]
  show (match g ρ M with
    | .ok p M1 => (match M1[k]? with
      | some (b, .list ds) => if ds.length < sizeLine then SQ.nx ρ (M1.set k (b || p.1, .list (ds ++ [p.2]))) else .st
      | _ => .st)
    | .ex x M1 => .ex x ρ M1
    | .st => .st) = _
  rw [hg]
  show (match M1[k]? with
      | some (b, .list ds) => if ds.length < sizeLine then SQ.nx ρ (M1.set k (b || p.1, .list (ds ++ [p.2]))) else .st
      | _ => .st) = _
  rw [hM1]
  exact if_pos hl
theorem e_sqFor {gi : Rho → R (List D)} {τ : TQ} {b : SQF} {items : List D} (h : gi (clR ρ) = .ok items) : sqFor gi τ b ρ M = forLQ τ b (items.map fun d => (false, d)) ρ M := by
  unfold sqFor
  rw [h]
theorem e_endrt (p : P) : endQ (.rt p M) = .ok p M := rfl
theorem e_endnx (ρ' : RhoQ) : endQ (.nx ρ' M) = .ok (false, .non) M := rfl
theorem e_qMeth {tb : List (Str × GF)} {mn : Str} {c : Str} {fs : List (Str × D)} {b : Bool} {G : GF} {p : P} {ps : List P} (hgo : go ρ M = .ok p M1) (ho : objP M1 p = some (b, c, fs)) (hf : fs.lookup mn = none) (ht : tb.lookup c = some G) (ha : t ρ M1 = .ok ps M2) :
    qMeth tb mn go t ρ M = G (p :: ps) M2 := by
  unfold qMeth
  rw [hgo]
  show metQ tb mn p M1 (fun G => (t ρ M1).bind fun ps M2 => G (p :: ps) M2) = _
  unfold metQ
  rw [ho]
  show (match fs.lookup mn with
    | some _ => RQ.st
    | none => match tb.lookup c with
      | some G => (t ρ M1).bind fun ps M2 => G (p :: ps) M2
      | none => .st) = _
  rw [hf]
  show (match tb.lookup c with
      | some G => (t ρ M1).bind fun ps M2 => G (p :: ps) M2
      | none => RQ.st) = _
  rw [ht, ha]
  rfl
theorem forLQ_nx {τ : TQ} {b : SQF} (Inv : Nat → RhoQ → Mem → Prop) : ∀ (items : List P) (k : Nat) (ρ : RhoQ) (M : Mem), Inv k ρ M →
    (∀ j p ρ M, items[j]? = some p → Inv (k + j) ρ M → ∃ ρ1, τ p ρ = some ρ1 ∧ ∃ ρ2 M2, b ρ1 M = .nx ρ2 M2 ∧ Inv (k + j + 1) ρ2 M2) → ∃ ρ' M', forLQ τ b items ρ M = .nx ρ' M' ∧ Inv (k + items.length) ρ' M'
  | [], k, ρ, M, h, _ => ⟨ρ, M, rfl, h⟩
  | p :: ps, k, ρ, M, h, hs => by
    obtain ⟨ρ1, e1, ρ2, M2, e2, h2⟩ := hs 0 p ρ M rfl h
    obtain ⟨ρ', M', e3, h3⟩ := forLQ_nx Inv ps (k + 1) ρ2 M2 h2 fun j q ρ M hq hi => by
      have := hs (j + 1) q ρ M hq (by rw [show k + (j + 1) = k + 1 + j by omega]; exact hi)
      rw [show k + (j + 1) + 1 = k + 1 + j + 1 by omega] at this
      exact this
    refine ⟨ρ', M', ?_, by rw [List.length_cons, show k + (ps.length + 1) = k + 1 + ps.length by omega]; exact h3⟩
    show (match τ p ρ with
      | some ρ1 => match b ρ1 M with
        | .nx ρ2 M2 => forLQ τ b ps ρ2 M2
        | .ct ρ2 M2 => forLQ τ b ps ρ2 M2
        | .bk ρ2 M2 => .nx ρ2 M2
        | r => r
      | none => .st) = _
    rw [e1]
    show (match b ρ1 M with
        | .nx ρ2 M2 => forLQ τ b ps ρ2 M2
        | .ct ρ2 M2 => forLQ τ b ps ρ2 M2
        | .bk ρ2 M2 => .nx ρ2 M2
        | r => r) = _
    rw [e2]
    exact e3
theorem forLQ_out {r : SQ} {τ : TQ} {b : SQF} {items : List P} (hr : forLQ τ b items ρ M = r) (Inv : Nat → RhoQ → Mem → Prop) (i0 : Inv 0 ρ M)
    (hs : ∀ j p ρ M, items[j]? = some p → Inv j ρ M → ∃ ρ1, τ p ρ = some ρ1 ∧ ∃ ρ2 M2, b ρ1 M = .nx ρ2 M2 ∧ Inv (j + 1) ρ2 M2) : ∃ ρ' M', r = .nx ρ' M' ∧ Inv items.length ρ' M' := by
  obtain ⟨ρ', M', e, h⟩ := forLQ_nx Inv items 0 ρ M i0 fun j p ρ M hp hi => by
    have := hs j p ρ M hp (by rw [show j = 0 + j by omega]; exact hi)
    rw [show 0 + j + 1 = j + 1 by omega]
    exact this
  rw [hr] at e
  rw [Nat.zero_add] at h
  exact ⟨ρ', M', e, h⟩
end
end Pd

set_option maxHeartbeats 4000000
namespace Pd
open PySem PySem.Spec PyProof.Rows L2
local macro_rules | `(tactic| walk_at "pd") => `(tactic| try simp -implicitDefEqProofs only [e_seq, e_thn, e_trt, e_trn, e_tex, e_if, e_pick, e_pickx, e_ret, e_retN, e_set, e_drop, e_for, e_ofR, e_ofRx, e_ofI, e_nil, e_asg, endS_rt, endS_rn, endS_nx, endS_ex, endN_rn, endN_ex, gC, g1, g2, g3, gA, aNil, aCons, gAnd, gOr, gNot, gB, gTru, bAnd, bOr, bNot, gIf, iA, iSeq, gSl, pNone, pSome, ok_bind, ex_bind, st_bind, gVar, List.getElem?_cons_zero, List.getElem?_cons_succ, List.set_cons_zero, List.set_cons_succ, if_true, if_false, Bool.not_true, Bool.not_false, Bool.false_eq_true, ↓reduceIte, e_asB, e_lt, e_gt, e_le, e_ge, e_ltS, e_gtS, e_eqI, e_eqS, e_eqB, e_neI, e_neS, e_neB, e_addI, e_iaddI, e_subI, e_negI, e_andI, e_orI, e_xorI, e_lenL, e_lenT, e_ord, e_intB, e_intI, e_inS, e_ninS, e_itL, e_itT, e_itS, e_zip, e_enum, e_slL, e_slT, e_asI, e_isN1, e_isN2, e_notN1, e_notN2, e_truB, e_truI, e_truL, e_isi_int_non, e_isi_int_bl, e_isi_int_int, e_isi_int_str, e_isi_int_list, e_isi_int_tup, e_isi_int_dict, e_isi_int_dictT, e_isi_bool_non, e_isi_bool_bl, e_isi_bool_int, e_isi_bool_str, e_isi_bool_list, e_isi_bool_tup, e_isi_bool_dict, e_isi_bool_dictT, e_isi_str_non, e_isi_str_bl, e_isi_str_int, e_isi_str_str, e_isi_str_list, e_isi_str_tup, e_isi_str_dict, e_isi_str_dictT, e_isi_list_non, e_isi_list_bl, e_isi_list_int, e_isi_list_str, e_isi_list_list, e_isi_list_tup, e_isi_list_dict, e_isi_list_dictT, e_isi_tuple_non, e_isi_tuple_bl, e_isi_tuple_int, e_isi_tuple_str, e_isi_tuple_list, e_isi_tuple_tup, e_isi_tuple_dict, e_isi_tuple_dictT, e_isi_dict_non, e_isi_dict_bl, e_isi_dict_int, e_isi_dict_str, e_isi_dict_list, e_isi_dict_tup, e_isi_dict_dict, e_isi_dict_dictT, e_iteAnd, e_iteOr, e_iteAndD, e_iteOrD, e_then_ite, e_endS_ite, e_endN_ite, e_ofR_ite, e_pick_ite, e_bind_ite, e_modI, e_fdivI, e_mul1, e_pow10, e_pow2, e_shl1, e_shrI, e_addS, e_iaddS, e_addL, e_addT, e_lenS, e_lst, e_strLit, String.reduceBEq, e_ixL0, e_ixL1, e_ixL2, e_ixL3, e_ixL4, e_ixL5, e_ixL6, e_ixL7, e_ixL8, e_ixT0, e_ixT1, e_ixT2, e_ixT3, e_ixT4, e_ixT5, e_tupleL, e_listT, e_tupleT, eqX_int, neX_int, eqX_S, neX_S, eqX_t0, neX_t0, e_catL, e_tup, e_inT, e_ninT, e_inL, e_ninL, e_slS, Int.reduceLT, Int.reduceLE, Int.reduceMul, Int.reduceAdd, Int.reduceSub, Int.reducePow, Int.reduceNeg, Int.reduceToNat, List.length_cons, List.length_nil, List.length_append, Nat.reduceAdd, Nat.reduceLeDiff, flD, List.all_cons, List.all_nil, Bool.and_true, Bool.true_and, Bool.and_self, decide_true, decide_false, or_true, true_or, and_true, true_and, eq_self])
local macro_rules | `(tactic| walk_at "pdh") => `(tactic| try simp -implicitDefEqProofs only [e_seq, e_thn, e_trt, e_trn, e_tex, e_if, e_pick, e_pickx, e_ret, e_retN, e_set, e_drop, e_for, e_ofR, e_ofRx, e_ofI, e_nil, e_asg, endS_rt, endS_rn, endS_nx, endS_ex, endN_rn, endN_ex, gC, g1, g2, g3, gA, aNil, aCons, gAnd, gOr, gNot, gB, gTru, bAnd, bOr, bNot, gIf, iA, iSeq, gSl, pNone, pSome, ok_bind, ex_bind, st_bind, gVar, List.getElem?_cons_zero, List.getElem?_cons_succ, List.set_cons_zero, List.set_cons_succ, if_true, if_false, Bool.not_true, Bool.not_false, Bool.false_eq_true, ↓reduceIte, e_asB, e_lt, e_gt, e_le, e_ge, e_ltS, e_gtS, e_eqI, e_eqS, e_eqB, e_neI, e_neS, e_neB, e_addI, e_iaddI, e_subI, e_negI, e_andI, e_orI, e_xorI, e_lenL, e_lenT, e_ord, e_intB, e_intI, e_inS, e_ninS, e_itL, e_itT, e_itS, e_zip, e_enum, e_slL, e_slT, e_asI, e_isN1, e_isN2, e_notN1, e_notN2, e_truB, e_truI, e_truL, e_isi_int_non, e_isi_int_bl, e_isi_int_int, e_isi_int_str, e_isi_int_list, e_isi_int_tup, e_isi_int_dict, e_isi_int_dictT, e_isi_bool_non, e_isi_bool_bl, e_isi_bool_int, e_isi_bool_str, e_isi_bool_list, e_isi_bool_tup, e_isi_bool_dict, e_isi_bool_dictT, e_isi_str_non, e_isi_str_bl, e_isi_str_int, e_isi_str_str, e_isi_str_list, e_isi_str_tup, e_isi_str_dict, e_isi_str_dictT, e_isi_list_non, e_isi_list_bl, e_isi_list_int, e_isi_list_str, e_isi_list_list, e_isi_list_tup, e_isi_list_dict, e_isi_list_dictT, e_isi_tuple_non, e_isi_tuple_bl, e_isi_tuple_int, e_isi_tuple_str, e_isi_tuple_list, e_isi_tuple_tup, e_isi_tuple_dict, e_isi_tuple_dictT, e_isi_dict_non, e_isi_dict_bl, e_isi_dict_int, e_isi_dict_str, e_isi_dict_list, e_isi_dict_tup, e_isi_dict_dict, e_isi_dict_dictT, e_iteAnd, e_iteOr, e_iteAndD, e_iteOrD, e_then_ite, e_endS_ite, e_endN_ite, e_ofR_ite, e_pick_ite, e_bind_ite, e_modI, e_fdivI, e_mul1, e_pow10, e_pow2, e_shl1, e_shrI, e_addS, e_iaddS, e_addL, e_addT, e_lenS, e_lst, e_strLit, String.reduceBEq, e_ixL0, e_ixL1, e_ixL2, e_ixL3, e_ixL4, e_ixL5, e_ixL6, e_ixL7, e_ixL8, e_ixT0, e_ixT1, e_ixT2, e_ixT3, e_ixT4, e_ixT5, e_tupleL, e_listT, e_tupleT, eqX_int, neX_int, eqX_S, neX_S, eqX_t0, neX_t0, e_catL, e_tup, e_inT, e_ninT, e_inL, e_ninL, e_slS, Int.reduceLT, Int.reduceLE, Int.reduceMul, Int.reduceAdd, Int.reduceSub, Int.reducePow, Int.reduceNeg, Int.reduceToNat, List.length_cons, List.length_nil, List.length_append, Nat.reduceAdd, Nat.reduceLeDiff, flD, List.all_cons, List.all_nil, Bool.and_true, Bool.true_and, Bool.and_self, decide_true, decide_false, or_true, true_or, and_true, true_and, eq_self, *])
local macro_rules | `(tactic| walk_at "pdu") => `(tactic| try simp -implicitDefEqProofs only [e_seq, e_forN, e_for0, e_nxn, e_nct, e_nbk, e_nrt, e_nrn, e_nex, e_next_ite, e_thn, e_trt, e_trn, e_tex, e_if, e_pick, e_pickx, e_ret, e_retN, e_set, e_drop, e_for, e_ofR, e_ofRx, e_ofI, e_nil, e_asg, endS_rt, endS_rn, endS_nx, endS_ex, endN_rn, endN_ex, gC, g1, g2, g3, gA, aNil, aCons, gAnd, gOr, gNot, gB, gTru, bAnd, bOr, bNot, gIf, iA, iSeq, gSl, pNone, pSome, ok_bind, ex_bind, st_bind, gVar, List.getElem?_cons_zero, List.getElem?_cons_succ, List.set_cons_zero, List.set_cons_succ, if_true, if_false, Bool.not_true, Bool.not_false, Bool.false_eq_true, ↓reduceIte, e_asB, e_lt, e_gt, e_le, e_ge, e_ltS, e_gtS, e_eqI, e_eqS, e_eqB, e_neI, e_neS, e_neB, e_addI, e_iaddI, e_subI, e_negI, e_andI, e_orI, e_xorI, e_lenL, e_lenT, e_ord, e_intB, e_intI, e_inS, e_ninS, e_itL, e_itT, e_itS, e_zip, e_enum, e_slL, e_slT, e_asI, e_isN1, e_isN2, e_notN1, e_notN2, e_truB, e_truI, e_truL, e_isi_int_non, e_isi_int_bl, e_isi_int_int, e_isi_int_str, e_isi_int_list, e_isi_int_tup, e_isi_int_dict, e_isi_int_dictT, e_isi_bool_non, e_isi_bool_bl, e_isi_bool_int, e_isi_bool_str, e_isi_bool_list, e_isi_bool_tup, e_isi_bool_dict, e_isi_bool_dictT, e_isi_str_non, e_isi_str_bl, e_isi_str_int, e_isi_str_str, e_isi_str_list, e_isi_str_tup, e_isi_str_dict, e_isi_str_dictT, e_isi_list_non, e_isi_list_bl, e_isi_list_int, e_isi_list_str, e_isi_list_list, e_isi_list_tup, e_isi_list_dict, e_isi_list_dictT, e_isi_tuple_non, e_isi_tuple_bl, e_isi_tuple_int, e_isi_tuple_str, e_isi_tuple_list, e_isi_tuple_tup, e_isi_tuple_dict, e_isi_tuple_dictT, e_isi_dict_non, e_isi_dict_bl, e_isi_dict_int, e_isi_dict_str, e_isi_dict_list, e_isi_dict_tup, e_isi_dict_dict, e_isi_dict_dictT, e_iteAnd, e_iteOr, e_iteAndD, e_iteOrD, e_then_ite, e_endS_ite, e_endN_ite, e_ofR_ite, e_pick_ite, e_bind_ite, e_modI, e_fdivI, e_mul1, e_pow10, e_pow2, e_shl1, e_shrI, e_addS, e_iaddS, e_addL, e_addT, e_lenS, e_lst, e_strLit, String.reduceBEq, e_ixL0, e_ixL1, e_ixL2, e_ixL3, e_ixL4, e_ixL5, e_ixL6, e_ixL7, e_ixL8, e_ixT0, e_ixT1, e_ixT2, e_ixT3, e_ixT4, e_ixT5, e_tupleL, e_listT, e_tupleT, eqX_int, neX_int, eqX_S, neX_S, eqX_t0, neX_t0, e_catL, e_tup, e_inT, e_ninT, e_inL, e_ninL, e_slS, Int.reduceLT, Int.reduceLE, Int.reduceMul, Int.reduceAdd, Int.reduceSub, Int.reducePow, Int.reduceNeg, Int.reduceToNat, List.length_cons, List.length_nil, List.length_append, Nat.reduceAdd, Nat.reduceLeDiff, flD, List.all_cons, List.all_nil, Bool.and_true, Bool.true_and, Bool.and_self, decide_true, decide_false, or_true, true_or, and_true, true_and, eq_self])
local macro_rules | `(tactic| walk_at "pdq") => `(tactic| try simp -implicitDefEqProofs only [e_seq, q_seq, q_tnx, q_tex, q_trt, q_then_ite, q_if, q_pick, q_pickx, q_pick_ite, q_nil, q_raise, cl_nil, cl_f, cl_t, cl_n, e_thn, e_trt, e_trn, e_tex, e_if, e_pick, e_pickx, e_ret, e_retN, e_set, e_drop, e_for, e_ofR, e_ofRx, e_ofI, e_nil, e_asg, endS_rt, endS_rn, endS_nx, endS_ex, endN_rn, endN_ex, gC, g1, g2, g3, gA, aNil, aCons, gAnd, gOr, gNot, gB, gTru, bAnd, bOr, bNot, gIf, iA, iSeq, gSl, pNone, pSome, ok_bind, ex_bind, st_bind, gVar, List.getElem?_cons_zero, List.getElem?_cons_succ, List.set_cons_zero, List.set_cons_succ, if_true, if_false, Bool.not_true, Bool.not_false, Bool.false_eq_true, ↓reduceIte, e_asB, e_lt, e_gt, e_le, e_ge, e_ltS, e_gtS, e_eqI, e_eqS, e_eqB, e_neI, e_neS, e_neB, e_addI, e_iaddI, e_subI, e_negI, e_andI, e_orI, e_xorI, e_lenL, e_lenT, e_ord, e_intB, e_intI, e_inS, e_ninS, e_itL, e_itT, e_itS, e_zip, e_enum, e_slL, e_slT, e_asI, e_isN1, e_isN2, e_notN1, e_notN2, e_truB, e_truI, e_truL, e_isi_int_non, e_isi_int_bl, e_isi_int_int, e_isi_int_str, e_isi_int_list, e_isi_int_tup, e_isi_int_dict, e_isi_int_dictT, e_isi_bool_non, e_isi_bool_bl, e_isi_bool_int, e_isi_bool_str, e_isi_bool_list, e_isi_bool_tup, e_isi_bool_dict, e_isi_bool_dictT, e_isi_str_non, e_isi_str_bl, e_isi_str_int, e_isi_str_str, e_isi_str_list, e_isi_str_tup, e_isi_str_dict, e_isi_str_dictT, e_isi_list_non, e_isi_list_bl, e_isi_list_int, e_isi_list_str, e_isi_list_list, e_isi_list_tup, e_isi_list_dict, e_isi_list_dictT, e_isi_tuple_non, e_isi_tuple_bl, e_isi_tuple_int, e_isi_tuple_str, e_isi_tuple_list, e_isi_tuple_tup, e_isi_tuple_dict, e_isi_tuple_dictT, e_isi_dict_non, e_isi_dict_bl, e_isi_dict_int, e_isi_dict_str, e_isi_dict_list, e_isi_dict_tup, e_isi_dict_dict, e_isi_dict_dictT, e_iteAnd, e_iteOr, e_iteAndD, e_iteOrD, e_then_ite, e_endS_ite, e_endN_ite, e_ofR_ite, e_pick_ite, e_bind_ite, e_modI, e_fdivI, e_mul1, e_pow10, e_pow2, e_shl1, e_shrI, e_addS, e_iaddS, e_addL, e_addT, e_lenS, e_lst, e_strLit, String.reduceBEq, e_ixL0, e_ixL1, e_ixL2, e_ixL3, e_ixL4, e_ixL5, e_ixL6, e_ixL7, e_ixL8, e_ixT0, e_ixT1, e_ixT2, e_ixT3, e_ixT4, e_ixT5, e_tupleL, e_listT, e_tupleT, eqX_int, neX_int, eqX_S, neX_S, eqX_t0, neX_t0, e_catL, e_tup, e_inT, e_ninT, e_inL, e_ninL, e_slS, Int.reduceLT, Int.reduceLE, Int.reduceMul, Int.reduceAdd, Int.reduceSub, Int.reducePow, Int.reduceNeg, Int.reduceToNat, List.length_cons, List.length_nil, List.length_append, Nat.reduceAdd, Nat.reduceLeDiff, flD, List.all_cons, List.all_nil, Bool.and_true, Bool.true_and, Bool.and_self, decide_true, decide_false, or_true, true_or, and_true, true_and, eq_self])
local macro_rules | `(tactic| walk_at "pdr") => `(tactic| try simp -implicitDefEqProofs only [e_seq, q_seq, q_tnx, q_tex, q_trt, q_then_ite, q_nil, q_raise, cl_nil, cl_f, cl_t, cl_n, s_ok, s_ex, e_sqRet, e_sqSet, e_sqExpr, e_sqAsg, asg_some, e_tqName, e_tqTup2, e_qP, e_upok, e_upex, e_qVar, e_varok, e_qNew, e_newok, rq_ok, rq_ex, e_aqN, e_aqC, e_qPA, e_qCall, e_qTup, e_tupP2, e_qSn, e_qSnT, e_tok, e_qT, e_up_ite, pk_ite, s_ite, tst_ite, e_end_ite, q_ifS, pk_ok, sn_nil, sn_s, sn_n, fu_f, e_qIx, e_endrt, e_endnx, List.map_cons, List.map_nil, Bool.or_false, Bool.or_true, Bool.true_or, Bool.false_or, e_thn, e_trt, e_trn, e_tex, e_if, e_pick, e_pickx, e_ret, e_retN, e_set, e_drop, e_for, e_ofR, e_ofRx, e_ofI, e_nil, e_asg, endS_rt, endS_rn, endS_nx, endS_ex, endN_rn, endN_ex, gC, g1, g2, g3, gA, aNil, aCons, gAnd, gOr, gNot, gB, gTru, bAnd, bOr, bNot, gIf, iA, iSeq, gSl, pNone, pSome, ok_bind, ex_bind, st_bind, gVar, List.getElem?_cons_zero, List.getElem?_cons_succ, List.set_cons_zero, List.set_cons_succ, if_true, if_false, Bool.not_true, Bool.not_false, Bool.false_eq_true, ↓reduceIte, e_asB, e_lt, e_gt, e_le, e_ge, e_ltS, e_gtS, e_eqI, e_eqS, e_eqB, e_neI, e_neS, e_neB, e_addI, e_iaddI, e_subI, e_negI, e_andI, e_orI, e_xorI, e_lenL, e_lenT, e_ord, e_intB, e_intI, e_inS, e_ninS, e_itL, e_itT, e_itS, e_zip, e_enum, e_slL, e_slT, e_asI, e_isN1, e_isN2, e_notN1, e_notN2, e_truB, e_truI, e_truL, e_isi_int_non, e_isi_int_bl, e_isi_int_int, e_isi_int_str, e_isi_int_list, e_isi_int_tup, e_isi_int_dict, e_isi_int_dictT, e_isi_bool_non, e_isi_bool_bl, e_isi_bool_int, e_isi_bool_str, e_isi_bool_list, e_isi_bool_tup, e_isi_bool_dict, e_isi_bool_dictT, e_isi_str_non, e_isi_str_bl, e_isi_str_int, e_isi_str_str, e_isi_str_list, e_isi_str_tup, e_isi_str_dict, e_isi_str_dictT, e_isi_list_non, e_isi_list_bl, e_isi_list_int, e_isi_list_str, e_isi_list_list, e_isi_list_tup, e_isi_list_dict, e_isi_list_dictT, e_isi_tuple_non, e_isi_tuple_bl, e_isi_tuple_int, e_isi_tuple_str, e_isi_tuple_list, e_isi_tuple_tup, e_isi_tuple_dict, e_isi_tuple_dictT, e_isi_dict_non, e_isi_dict_bl, e_isi_dict_int, e_isi_dict_str, e_isi_dict_list, e_isi_dict_tup, e_isi_dict_dict, e_isi_dict_dictT, e_iteAnd, e_iteOr, e_iteAndD, e_iteOrD, e_then_ite, e_endS_ite, e_endN_ite, e_ofR_ite, e_pick_ite, e_bind_ite, e_modI, e_fdivI, e_mul1, e_pow10, e_pow2, e_shl1, e_shrI, e_addS, e_iaddS, e_addL, e_addT, e_lenS, e_lst, e_strLit, String.reduceBEq, e_ixL0, e_ixL1, e_ixL2, e_ixL3, e_ixL4, e_ixL5, e_ixL6, e_ixL7, e_ixL8, e_ixT0, e_ixT1, e_ixT2, e_ixT3, e_ixT4, e_ixT5, e_tupleL, e_listT, e_tupleT, eqX_int, neX_int, eqX_S, neX_S, eqX_t0, neX_t0, e_catL, e_tup, e_inT, e_ninT, e_inL, e_ninL, e_slS, Int.reduceLT, Int.reduceLE, Int.reduceMul, Int.reduceAdd, Int.reduceSub, Int.reducePow, Int.reduceNeg, Int.reduceToNat, List.length_cons, List.length_nil, List.length_append, Nat.reduceAdd, Nat.reduceLeDiff, flD, List.all_cons, List.all_nil, Bool.and_true, Bool.true_and, Bool.and_self, decide_true, decide_false, or_true, true_or, and_true, true_and, eq_self])
local macro_rules | `(tactic| walk_at "pdv") => `(tactic| try simp -implicitDefEqProofs only [e_seq, Int.reduceBEq, Int.cast_ofNat_Int, e_thn, e_trt, e_trn, e_tex, e_if, e_pick, e_pickx, e_ret, e_retN, e_set, e_drop, e_for, e_ofR, e_ofRx, e_ofI, e_nil, e_asg, endS_rt, endS_rn, endS_nx, endS_ex, endN_rn, endN_ex, gC, g1, g2, g3, gA, aNil, aCons, gAnd, gOr, gNot, gB, gTru, bAnd, bOr, bNot, gIf, iA, iSeq, gSl, pNone, pSome, ok_bind, ex_bind, st_bind, gVar, List.getElem?_cons_zero, List.getElem?_cons_succ, List.set_cons_zero, List.set_cons_succ, if_true, if_false, Bool.not_true, Bool.not_false, Bool.false_eq_true, ↓reduceIte, e_asB, e_lt, e_gt, e_le, e_ge, e_ltS, e_gtS, e_eqI, e_eqS, e_eqB, e_neI, e_neS, e_neB, e_addI, e_iaddI, e_subI, e_negI, e_andI, e_orI, e_xorI, e_lenL, e_lenT, e_ord, e_intB, e_intI, e_inS, e_ninS, e_itL, e_itT, e_itS, e_zip, e_enum, e_slL, e_slT, e_asI, e_isN1, e_isN2, e_notN1, e_notN2, e_truB, e_truI, e_truL, e_isi_int_non, e_isi_int_bl, e_isi_int_int, e_isi_int_str, e_isi_int_list, e_isi_int_tup, e_isi_int_dict, e_isi_int_dictT, e_isi_bool_non, e_isi_bool_bl, e_isi_bool_int, e_isi_bool_str, e_isi_bool_list, e_isi_bool_tup, e_isi_bool_dict, e_isi_bool_dictT, e_isi_str_non, e_isi_str_bl, e_isi_str_int, e_isi_str_str, e_isi_str_list, e_isi_str_tup, e_isi_str_dict, e_isi_str_dictT, e_isi_list_non, e_isi_list_bl, e_isi_list_int, e_isi_list_str, e_isi_list_list, e_isi_list_tup, e_isi_list_dict, e_isi_list_dictT, e_isi_tuple_non, e_isi_tuple_bl, e_isi_tuple_int, e_isi_tuple_str, e_isi_tuple_list, e_isi_tuple_tup, e_isi_tuple_dict, e_isi_tuple_dictT, e_isi_dict_non, e_isi_dict_bl, e_isi_dict_int, e_isi_dict_str, e_isi_dict_list, e_isi_dict_tup, e_isi_dict_dict, e_isi_dict_dictT, e_iteAnd, e_iteOr, e_iteAndD, e_iteOrD, e_then_ite, e_endS_ite, e_endN_ite, e_ofR_ite, e_pick_ite, e_bind_ite, e_modI, e_fdivI, e_mul1, e_pow10, e_pow2, e_shl1, e_shrI, e_addS, e_iaddS, e_addL, e_addT, e_lenS, e_lst, e_strLit, String.reduceBEq, e_ixL0, e_ixL1, e_ixL2, e_ixL3, e_ixL4, e_ixL5, e_ixL6, e_ixL7, e_ixL8, e_ixT0, e_ixT1, e_ixT2, e_ixT3, e_ixT4, e_ixT5, e_tupleL, e_listT, e_tupleT, eqX_int, neX_int, eqX_S, neX_S, eqX_t0, neX_t0, e_catL, e_tup, e_inT, e_ninT, e_inL, e_ninL, e_slS, Int.reduceLT, Int.reduceLE, Int.reduceMul, Int.reduceAdd, Int.reduceSub, Int.reducePow, Int.reduceNeg, Int.reduceToNat, List.length_cons, List.length_nil, List.length_append, Nat.reduceAdd, Nat.reduceLeDiff, flD, List.all_cons, List.all_nil, Bool.and_true, Bool.true_and, Bool.and_self, decide_true, decide_false, or_true, true_or, and_true, true_and, eq_self])
theorem signs_all (s : Str) (P : D → Bool) : (signs s).all P = s.cps.toList.all fun c => P (.str ⟨#[c]⟩) := by
  unfold signs
  rw [List.all_map]
  rfl
theorem mem_signs {s : Str} {d : D} (h : d ∈ signs s) : ∃ c, c ∈ s.cps.toList ∧ d = .str ⟨#[c]⟩ := by
  unfold signs at h
  obtain ⟨c, hc, rfl⟩ := List.mem_map.mp h
  exact ⟨c, hc, rfl⟩
def ofS (s g : Str) (lo hi : Int) : Bool := (decide (lo ≤ (s.length : Int)) && decide ((s.length : Int) ≤ hi)) && s.cps.toList.all fun c => decide (c ∈ g.cps.toList)
def inStr (g : Str) : D → Bool
  | .str z => hasSub g z
  | _ => false
theorem inStr_all (s g : Str) : (signs s).all (inStr g) = s.cps.toList.all fun c => decide (c ∈ g.cps.toList) := by
  rw [signs_all]
  congr 1
  funext c
  exact hasSub_one g c
/-- what is no text -/
def other : D → Bool
  | .non => true | .bl _ => true | .int _ => true | .list _ => true | .tup _ => true | .dict _ => true
  | _ => false
def allSigns : Str := " !\"#$&'()*+,-./0123456789:;<=>?@ABCDEFGHIJKLMNOPQRSTUVWXYZ[\\]^_`abcdefghijklmnopqrstuvwxyz{|}~"
theorem sign_in (c : Nat) : decide (c ∈ allSigns.cps.toList) = !(decide (c < 32) || (decide (126 < c) || decide ((c : Int) = 37))) := by
  by_cases h : c < 127
  · have key : ∀ c : Nat, c < 127 → decide (c ∈ allSigns.cps.toList) = !(decide (c < 32) || (decide (126 < c) || decide ((c : Int) = 37))) := by decide +kernel
    exact key c h
  · have h1 : ¬ c ∈ allSigns.cps.toList := fun z => by
      have key : ∀ x ∈ allSigns.cps.toList, x < 127 := by decide +kernel
      exact h (key c z)
    rw [decide_eq_false h1, decide_eq_true (show 126 < c by omega)]
    simp
theorem lt_one (c n : Nat) : decide (([c] : List Nat) < [n]) = decide (c < n) := by
  rw [decide_eq_decide]
  rw [List.cons_lt_cons_iff]
  constructor
  · rintro (h | ⟨_, h⟩)
    · exact h
    · exact absurd h (by decide)
  · exact fun h => .inl h
theorem is_text_str (s : Str) (hs : s.length ≤ 16777216) : F_is_text [.str s] = .ok (.bl (ofS s allSigns 0 60)) := by
  show endS (S_is_text [some (.str s), none]) = _
  unfold S_is_text ofS
  walk_at "pd"
  rw [e_lenS s hs]
  walk_at "pd"
  rw [decide_eq_true (show (0 : Int) ≤ (s.length : Int) by omega), Bool.true_and]
  by_cases h2 : (s.length : Int) ≤ 60
  · rw [decide_eq_true h2, decide_eq_false (show ¬ (60 : Int) < (s.length : Int) by omega)]
    walk_at "pd"
    obtain ⟨ρ', hρ, e⟩ := forL_all (i := 1) (b := B_is_text_0) (inStr allSigns) (.rt (.bl false)) (.inl ⟨_, rfl⟩) [some (.str s), none] (signs s) _ (.inl rfl) (fun d hd => by
      obtain ⟨c, hc, rfl⟩ := mem_signs hd
      unfold B_is_text_0
      walk_at "pd"
      have e1 : ltS ⟨#[c]⟩ " " = decide (c < 32) := lt_one c 32
      have e2 : ltS "~" ⟨#[c]⟩ = decide (126 < c) := lt_one 126 c
      have e3 : ((c : Int) == 37) = decide ((c : Int) = 37) := rfl
      have e4 : inStr allSigns (.str ⟨#[c]⟩) = decide (c ∈ allSigns.cps.toList) := hasSub_one allSigns c
      rw [e1, e2, e3, e4, sign_in c]
      cases decide (c < 32) <;> cases decide (126 < c) <;> cases decide ((c : Int) = 37) <;> rfl)
    rw [e, inStr_all]
    cases hb : s.cps.toList.all fun c => decide (c ∈ allSigns.cps.toList) <;> rfl
  · rw [decide_eq_false h2, decide_eq_true (show (60 : Int) < (s.length : Int) by omega)]
    rfl
theorem is_text_other (d : D) (h : other d = true) : F_is_text [d] = .ok (.bl false) := by
  cases d <;> first | rfl | cases h
def ofB (d : D) (g : Str) (lo hi : Int) : Bool := match d with
  | .str s => ofS s g lo hi
  | _ => false
def good : D → Bool
  | .str s => decide (s.length ≤ 16777216)
  | d => other d
theorem good_cases {d : D} (h : good d = true) : (∃ s, d = .str s ∧ s.length ≤ 16777216) ∨ other d = true := by
  cases d with
  | str s => exact .inl ⟨s, rfl, of_decide_eq_true h⟩
  | _ => exact .inr h
theorem ofB_other {d : D} (g : Str) (lo hi : Int) (h : other d = true) : ofB d g lo hi = false := by
  cases d <;> first | rfl | cases h
theorem f_text {d : D} (h : good d = true) : F_is_text [d] = .ok (.bl (ofB d allSigns 0 60)) := by
  rcases good_cases h with ⟨s, rfl, hs⟩ | h'
  · exact is_text_str s hs
  · rw [is_text_other d h', ofB_other _ 0 60 h']
/-! ### the numbers drawn -/
def intsD (ks : List Nat) : List D := ks.map fun (k : Nat) => D.int (k : Int)
theorem intsD_app (ks : List Nat) (k : Nat) : intsD ks ++ [D.int (k : Int)] = intsD (ks ++ [k]) := by
  unfold intsD
  rw [List.map_append]
  rfl
theorem intsD_len (ks : List Nat) : (intsD ks).length = ks.length := by unfold intsD; simp
/-- a drawn number -/
def Dr (x : Nat) : Prop := (x : Int) < 268435456
def StreamInv (c n : Int) (j : Nat) (ρ : Rho) : Prop := ∃ (xs : List Nat) (left : Int) (num : Nat) (o : Option D), ρ = [some (.int c), some (.int n), some (.list (intsD xs)), some (.int left), some (.int (num : Int)), o] ∧ xs.length = j ∧ (∀ x ∈ xs, Dr x) ∧ (num : Int) < 4294967296
theorem stream_step (c n : Int) (xs : List Nat) (left : Int) (num k : Nat) (hnum : (num : Int) < 4294967296) (hk : k < 1000) (hl : xs.length ≤ 1000) :
    ∃ (x : Nat) (left' : Int) (num' : Nat), B__law_stream_0 [some (.int c), some (.int n), some (.list (intsD xs)), some (.int left), some (.int (num : Int)), some (.int (0 + (k : Int)))] =
      .nx [some (.int c), some (.int n), some (.list (intsD (xs ++ [x]))), some (.int left'), some (.int (num' : Int)), some (.int (0 + (k : Int)))] ∧ Dr x ∧ (num' : Int) < 4294967296 := by
  have hz : (intsD xs).length < sizeLine := by rw [intsD_len, sizeLine_eq]; omega
  have hm : 0 ≤ ((num : Int) * 48271 + 7919 * (0 + (k : Int)) + 1) % 2147483647 ∧ ((num : Int) * 48271 + 7919 * (0 + (k : Int)) + 1) % 2147483647 < 2147483647 := ⟨Int.emod_nonneg _ (by decide), Int.emod_lt_of_pos _ (by decide)⟩
  generalize hq : ((num : Int) * 48271 + 7919 * (0 + (k : Int)) + 1) % 2147483647 = q at hm
  have e1 : ∀ r : S, (∀ ρ', ρ' = [some (.int c), some (.int n), some (.list (intsD xs)), some (.int left), some (.int q), some (.int (0 + (k : Int)))] → (if (c % 2 == 1 && (!left == 0 && !left == -1)) = true then (sSeq (sAppend 2 (g2 modD (gVar 3) (gC (.int 268435456)))) (sSet 3 (g2 fdivD (gVar 3) (gC (.int 268435456))))) ρ' else (sAppend 2 (g2 fdivD (g2 modD (g2 addD (g2 mulD (g2 modD (g2 mulD (gVar 4) (gVar 4)) (gC (.int 2147483629))) (gC (.int 16807))) (gVar 5)) (gC (.int 2147483587))) (gC (.int 8)))) ρ') = r) →
      B__law_stream_0 [some (.int c), some (.int n), some (.list (intsD xs)), some (.int left), some (.int (num : Int)), some (.int (0 + (k : Int)))] = r := fun r h => by
    have := h _ rfl
    unfold B__law_stream_0
    walk_at "pd"
    rw [hq]
    walk_at "pd"
    exact this
  by_cases hc : (c % 2 == 1 && (!left == 0 && !left == -1)) = true
  · refine ⟨(left % 268435456).toNat, left / 268435456, q.toNat, e1 _ fun ρ' hρ => ?_, ?_, ?_⟩
    · subst hρ
      rw [if_pos hc]
      walk_at "pd"
      rw [e_append (intsD xs) rfl]
      walk_at "pd"
      rw [if_pos hz]
      walk_at "pd"
      have f1 : ((left % 268435456).toNat : Int) = left % 268435456 := by omega
      have f2 : (q.toNat : Int) = q := by omega
      rw [← intsD_app, f1, f2]
    · show ((left % 268435456).toNat : Int) < 268435456
      omega
    · omega
  · have g1 : 0 ≤ q * q % 2147483629 ∧ q * q % 2147483629 < 2147483629 := ⟨Int.emod_nonneg _ (by decide), Int.emod_lt_of_pos _ (by decide)⟩
    have g2 : 0 ≤ (q * q % 2147483629 * 16807 + (0 + (k : Int))) % 2147483587 ∧ (q * q % 2147483629 * 16807 + (0 + (k : Int))) % 2147483587 < 2147483587 := ⟨Int.emod_nonneg _ (by decide), Int.emod_lt_of_pos _ (by decide)⟩
    generalize hr : (q * q % 2147483629 * 16807 + (0 + (k : Int))) % 2147483587 = r at g2
    refine ⟨(r / 8).toNat, left, q.toNat, e1 _ fun ρ' hρ => ?_, ?_, ?_⟩
    · subst hρ
      rw [if_neg hc, e_append (intsD xs) rfl]
      walk_at "pd"
      rw [e_mul1 q q (.inl ⟨by omega, by omega⟩)]
      walk_at "pd"
      rw [hr]
      walk_at "pd"
      rw [if_pos hz]
      have f1 : ((r / 8).toNat : Int) = r / 8 := by omega
      have f2 : (q.toNat : Int) = q := by omega
      rw [← intsD_app, f1, f2]
    · show ((r / 8).toNat : Int) < 268435456
      omega
    · omega
theorem stream_at (c : Int) (n : Nat) (hn : n ≤ 1000) : ∃ xs : List Nat, F__law_stream [.int c, .int (n : Int)] = .ok (.list (intsD xs)) ∧ xs.length = n ∧ ∀ x ∈ xs, Dr x := by
  show ∃ xs : List Nat, endS (S__law_stream [some (.int c), some (.int (n : Int)), none, none, none, none]) = .ok (.list (intsD xs)) ∧ xs.length = n ∧ ∀ x ∈ xs, Dr x
  unfold S__law_stream
  walk_at "pd"
  rw [e_rng1 (n : Int) (small_ok (by omega) (by omega)), Int.toNat_natCast]
  walk_at "pd"
  have i0 : 0 ≤ n ∧ StreamInv c n 0 [some (.int c), some (.int (n : Int)), some (.list []), some (.int (c / 2)), some (.int (c % 2147483629 + 17)), none] := by
    refine ⟨Nat.zero_le _, [], c / 2, (c % 2147483629 + 17).toNat, none, ?_, rfl, (fun x hx => by simp at hx), ?_⟩
    · have : ((c % 2147483629 + 17).toNat : Int) = c % 2147483629 + 17 := by omega
      rw [this]
      rfl
    · omega
  have key := forL_nx (τ := τName 5) (b := B__law_stream_0) (fun j ρ => j ≤ n ∧ StreamInv c n j ρ) (rngL 0 n) 0 _ i0 (by
    rintro j d ρ hd ⟨hj, xs, left, num, o, rfl, hl, hx, hnum⟩
    obtain ⟨k, hk, rfl⟩ := mem_rng (List.mem_of_getElem? hd)
    have hj2 : j < n := by
      have := (List.getElem?_eq_some_iff.mp hd).1
      rw [rng_len] at this
      exact this
    obtain ⟨x, left', num', eb, hx', hn'⟩ := stream_step c n xs left num k hnum (by omega) (by omega)
    exact ⟨_, _, rfl, eb, by omega, xs ++ [x], left', num', _, rfl, by rw [List.length_append, hl]; rfl, fun y hy => by
      rcases List.mem_append.mp hy with h | h
      · exact hx y h
      · simp at h
        rw [h]
        exact hx', hn'⟩)
  obtain ⟨ρ', ef, _, xs, left, num, o, rfl, hl, hx, hnum⟩ := key
  refine ⟨xs, ?_, ?_, hx⟩
  · rw [ef]
    walk_at "pd"
    rw [e_retO (.list (intsD xs)) rfl]
    rfl
  · rw [hl, rng_len]
    omega

end Pd

set_option maxHeartbeats 4000000
namespace Pd
open PySem PySem.Spec PyProof.Rows L2
local macro_rules | `(tactic| walk_at "pd") => `(tactic| try simp -implicitDefEqProofs only [e_seq, e_thn, e_trt, e_trn, e_tex, e_if, e_pick, e_pickx, e_ret, e_retN, e_set, e_drop, e_for, e_ofR, e_ofRx, e_ofI, e_nil, e_asg, endS_rt, endS_rn, endS_nx, endS_ex, endN_rn, endN_ex, gC, g1, g2, g3, gA, aNil, aCons, gAnd, gOr, gNot, gB, gTru, bAnd, bOr, bNot, gIf, iA, iSeq, gSl, pNone, pSome, ok_bind, ex_bind, st_bind, gVar, List.getElem?_cons_zero, List.getElem?_cons_succ, List.set_cons_zero, List.set_cons_succ, if_true, if_false, Bool.not_true, Bool.not_false, Bool.false_eq_true, ↓reduceIte, e_asB, e_lt, e_gt, e_le, e_ge, e_ltS, e_gtS, e_eqI, e_eqS, e_eqB, e_neI, e_neS, e_neB, e_addI, e_iaddI, e_subI, e_negI, e_andI, e_orI, e_xorI, e_lenL, e_lenT, e_ord, e_intB, e_intI, e_inS, e_ninS, e_itL, e_itT, e_itS, e_zip, e_enum, e_slL, e_slT, e_asI, e_isN1, e_isN2, e_notN1, e_notN2, e_truB, e_truI, e_truL, e_isi_int_non, e_isi_int_bl, e_isi_int_int, e_isi_int_str, e_isi_int_list, e_isi_int_tup, e_isi_int_dict, e_isi_int_dictT, e_isi_bool_non, e_isi_bool_bl, e_isi_bool_int, e_isi_bool_str, e_isi_bool_list, e_isi_bool_tup, e_isi_bool_dict, e_isi_bool_dictT, e_isi_str_non, e_isi_str_bl, e_isi_str_int, e_isi_str_str, e_isi_str_list, e_isi_str_tup, e_isi_str_dict, e_isi_str_dictT, e_isi_list_non, e_isi_list_bl, e_isi_list_int, e_isi_list_str, e_isi_list_list, e_isi_list_tup, e_isi_list_dict, e_isi_list_dictT, e_isi_tuple_non, e_isi_tuple_bl, e_isi_tuple_int, e_isi_tuple_str, e_isi_tuple_list, e_isi_tuple_tup, e_isi_tuple_dict, e_isi_tuple_dictT, e_isi_dict_non, e_isi_dict_bl, e_isi_dict_int, e_isi_dict_str, e_isi_dict_list, e_isi_dict_tup, e_isi_dict_dict, e_isi_dict_dictT, e_iteAnd, e_iteOr, e_iteAndD, e_iteOrD, e_then_ite, e_endS_ite, e_endN_ite, e_ofR_ite, e_pick_ite, e_bind_ite, e_modI, e_fdivI, e_mul1, e_pow10, e_pow2, e_shl1, e_shrI, e_addS, e_iaddS, e_addL, e_addT, e_lenS, e_lst, e_strLit, String.reduceBEq, e_ixL0, e_ixL1, e_ixL2, e_ixL3, e_ixL4, e_ixL5, e_ixL6, e_ixL7, e_ixL8, e_ixT0, e_ixT1, e_ixT2, e_ixT3, e_ixT4, e_ixT5, e_tupleL, e_listT, e_tupleT, eqX_int, neX_int, eqX_S, neX_S, eqX_t0, neX_t0, e_catL, e_tup, e_inT, e_ninT, e_inL, e_ninL, e_slS, Int.reduceLT, Int.reduceLE, Int.reduceMul, Int.reduceAdd, Int.reduceSub, Int.reducePow, Int.reduceNeg, Int.reduceToNat, List.length_cons, List.length_nil, List.length_append, Nat.reduceAdd, Nat.reduceLeDiff, flD, List.all_cons, List.all_nil, Bool.and_true, Bool.true_and, Bool.and_self, decide_true, decide_false, or_true, true_or, and_true, true_and, eq_self])
local macro_rules | `(tactic| walk_at "pdh") => `(tactic| try simp -implicitDefEqProofs only [e_seq, e_thn, e_trt, e_trn, e_tex, e_if, e_pick, e_pickx, e_ret, e_retN, e_set, e_drop, e_for, e_ofR, e_ofRx, e_ofI, e_nil, e_asg, endS_rt, endS_rn, endS_nx, endS_ex, endN_rn, endN_ex, gC, g1, g2, g3, gA, aNil, aCons, gAnd, gOr, gNot, gB, gTru, bAnd, bOr, bNot, gIf, iA, iSeq, gSl, pNone, pSome, ok_bind, ex_bind, st_bind, gVar, List.getElem?_cons_zero, List.getElem?_cons_succ, List.set_cons_zero, List.set_cons_succ, if_true, if_false, Bool.not_true, Bool.not_false, Bool.false_eq_true, ↓reduceIte, e_asB, e_lt, e_gt, e_le, e_ge, e_ltS, e_gtS, e_eqI, e_eqS, e_eqB, e_neI, e_neS, e_neB, e_addI, e_iaddI, e_subI, e_negI, e_andI, e_orI, e_xorI, e_lenL, e_lenT, e_ord, e_intB, e_intI, e_inS, e_ninS, e_itL, e_itT, e_itS, e_zip, e_enum, e_slL, e_slT, e_asI, e_isN1, e_isN2, e_notN1, e_notN2, e_truB, e_truI, e_truL, e_isi_int_non, e_isi_int_bl, e_isi_int_int, e_isi_int_str, e_isi_int_list, e_isi_int_tup, e_isi_int_dict, e_isi_int_dictT, e_isi_bool_non, e_isi_bool_bl, e_isi_bool_int, e_isi_bool_str, e_isi_bool_list, e_isi_bool_tup, e_isi_bool_dict, e_isi_bool_dictT, e_isi_str_non, e_isi_str_bl, e_isi_str_int, e_isi_str_str, e_isi_str_list, e_isi_str_tup, e_isi_str_dict, e_isi_str_dictT, e_isi_list_non, e_isi_list_bl, e_isi_list_int, e_isi_list_str, e_isi_list_list, e_isi_list_tup, e_isi_list_dict, e_isi_list_dictT, e_isi_tuple_non, e_isi_tuple_bl, e_isi_tuple_int, e_isi_tuple_str, e_isi_tuple_list, e_isi_tuple_tup, e_isi_tuple_dict, e_isi_tuple_dictT, e_isi_dict_non, e_isi_dict_bl, e_isi_dict_int, e_isi_dict_str, e_isi_dict_list, e_isi_dict_tup, e_isi_dict_dict, e_isi_dict_dictT, e_iteAnd, e_iteOr, e_iteAndD, e_iteOrD, e_then_ite, e_endS_ite, e_endN_ite, e_ofR_ite, e_pick_ite, e_bind_ite, e_modI, e_fdivI, e_mul1, e_pow10, e_pow2, e_shl1, e_shrI, e_addS, e_iaddS, e_addL, e_addT, e_lenS, e_lst, e_strLit, String.reduceBEq, e_ixL0, e_ixL1, e_ixL2, e_ixL3, e_ixL4, e_ixL5, e_ixL6, e_ixL7, e_ixL8, e_ixT0, e_ixT1, e_ixT2, e_ixT3, e_ixT4, e_ixT5, e_tupleL, e_listT, e_tupleT, eqX_int, neX_int, eqX_S, neX_S, eqX_t0, neX_t0, e_catL, e_tup, e_inT, e_ninT, e_inL, e_ninL, e_slS, Int.reduceLT, Int.reduceLE, Int.reduceMul, Int.reduceAdd, Int.reduceSub, Int.reducePow, Int.reduceNeg, Int.reduceToNat, List.length_cons, List.length_nil, List.length_append, Nat.reduceAdd, Nat.reduceLeDiff, flD, List.all_cons, List.all_nil, Bool.and_true, Bool.true_and, Bool.and_self, decide_true, decide_false, or_true, true_or, and_true, true_and, eq_self, *])
local macro_rules | `(tactic| walk_at "pdu") => `(tactic| try simp -implicitDefEqProofs only [e_seq, e_forN, e_for0, e_nxn, e_nct, e_nbk, e_nrt, e_nrn, e_nex, e_next_ite, e_thn, e_trt, e_trn, e_tex, e_if, e_pick, e_pickx, e_ret, e_retN, e_set, e_drop, e_for, e_ofR, e_ofRx, e_ofI, e_nil, e_asg, endS_rt, endS_rn, endS_nx, endS_ex, endN_rn, endN_ex, gC, g1, g2, g3, gA, aNil, aCons, gAnd, gOr, gNot, gB, gTru, bAnd, bOr, bNot, gIf, iA, iSeq, gSl, pNone, pSome, ok_bind, ex_bind, st_bind, gVar, List.getElem?_cons_zero, List.getElem?_cons_succ, List.set_cons_zero, List.set_cons_succ, if_true, if_false, Bool.not_true, Bool.not_false, Bool.false_eq_true, ↓reduceIte, e_asB, e_lt, e_gt, e_le, e_ge, e_ltS, e_gtS, e_eqI, e_eqS, e_eqB, e_neI, e_neS, e_neB, e_addI, e_iaddI, e_subI, e_negI, e_andI, e_orI, e_xorI, e_lenL, e_lenT, e_ord, e_intB, e_intI, e_inS, e_ninS, e_itL, e_itT, e_itS, e_zip, e_enum, e_slL, e_slT, e_asI, e_isN1, e_isN2, e_notN1, e_notN2, e_truB, e_truI, e_truL, e_isi_int_non, e_isi_int_bl, e_isi_int_int, e_isi_int_str, e_isi_int_list, e_isi_int_tup, e_isi_int_dict, e_isi_int_dictT, e_isi_bool_non, e_isi_bool_bl, e_isi_bool_int, e_isi_bool_str, e_isi_bool_list, e_isi_bool_tup, e_isi_bool_dict, e_isi_bool_dictT, e_isi_str_non, e_isi_str_bl, e_isi_str_int, e_isi_str_str, e_isi_str_list, e_isi_str_tup, e_isi_str_dict, e_isi_str_dictT, e_isi_list_non, e_isi_list_bl, e_isi_list_int, e_isi_list_str, e_isi_list_list, e_isi_list_tup, e_isi_list_dict, e_isi_list_dictT, e_isi_tuple_non, e_isi_tuple_bl, e_isi_tuple_int, e_isi_tuple_str, e_isi_tuple_list, e_isi_tuple_tup, e_isi_tuple_dict, e_isi_tuple_dictT, e_isi_dict_non, e_isi_dict_bl, e_isi_dict_int, e_isi_dict_str, e_isi_dict_list, e_isi_dict_tup, e_isi_dict_dict, e_isi_dict_dictT, e_iteAnd, e_iteOr, e_iteAndD, e_iteOrD, e_then_ite, e_endS_ite, e_endN_ite, e_ofR_ite, e_pick_ite, e_bind_ite, e_modI, e_fdivI, e_mul1, e_pow10, e_pow2, e_shl1, e_shrI, e_addS, e_iaddS, e_addL, e_addT, e_lenS, e_lst, e_strLit, String.reduceBEq, e_ixL0, e_ixL1, e_ixL2, e_ixL3, e_ixL4, e_ixL5, e_ixL6, e_ixL7, e_ixL8, e_ixT0, e_ixT1, e_ixT2, e_ixT3, e_ixT4, e_ixT5, e_tupleL, e_listT, e_tupleT, eqX_int, neX_int, eqX_S, neX_S, eqX_t0, neX_t0, e_catL, e_tup, e_inT, e_ninT, e_inL, e_ninL, e_slS, Int.reduceLT, Int.reduceLE, Int.reduceMul, Int.reduceAdd, Int.reduceSub, Int.reducePow, Int.reduceNeg, Int.reduceToNat, List.length_cons, List.length_nil, List.length_append, Nat.reduceAdd, Nat.reduceLeDiff, flD, List.all_cons, List.all_nil, Bool.and_true, Bool.true_and, Bool.and_self, decide_true, decide_false, or_true, true_or, and_true, true_and, eq_self])
local macro_rules | `(tactic| walk_at "pdq") => `(tactic| try simp -implicitDefEqProofs only [e_seq, q_seq, q_tnx, q_tex, q_trt, q_then_ite, q_if, q_pick, q_pickx, q_pick_ite, q_nil, q_raise, cl_nil, cl_f, cl_t, cl_n, e_thn, e_trt, e_trn, e_tex, e_if, e_pick, e_pickx, e_ret, e_retN, e_set, e_drop, e_for, e_ofR, e_ofRx, e_ofI, e_nil, e_asg, endS_rt, endS_rn, endS_nx, endS_ex, endN_rn, endN_ex, gC, g1, g2, g3, gA, aNil, aCons, gAnd, gOr, gNot, gB, gTru, bAnd, bOr, bNot, gIf, iA, iSeq, gSl, pNone, pSome, ok_bind, ex_bind, st_bind, gVar, List.getElem?_cons_zero, List.getElem?_cons_succ, List.set_cons_zero, List.set_cons_succ, if_true, if_false, Bool.not_true, Bool.not_false, Bool.false_eq_true, ↓reduceIte, e_asB, e_lt, e_gt, e_le, e_ge, e_ltS, e_gtS, e_eqI, e_eqS, e_eqB, e_neI, e_neS, e_neB, e_addI, e_iaddI, e_subI, e_negI, e_andI, e_orI, e_xorI, e_lenL, e_lenT, e_ord, e_intB, e_intI, e_inS, e_ninS, e_itL, e_itT, e_itS, e_zip, e_enum, e_slL, e_slT, e_asI, e_isN1, e_isN2, e_notN1, e_notN2, e_truB, e_truI, e_truL, e_isi_int_non, e_isi_int_bl, e_isi_int_int, e_isi_int_str, e_isi_int_list, e_isi_int_tup, e_isi_int_dict, e_isi_int_dictT, e_isi_bool_non, e_isi_bool_bl, e_isi_bool_int, e_isi_bool_str, e_isi_bool_list, e_isi_bool_tup, e_isi_bool_dict, e_isi_bool_dictT, e_isi_str_non, e_isi_str_bl, e_isi_str_int, e_isi_str_str, e_isi_str_list, e_isi_str_tup, e_isi_str_dict, e_isi_str_dictT, e_isi_list_non, e_isi_list_bl, e_isi_list_int, e_isi_list_str, e_isi_list_list, e_isi_list_tup, e_isi_list_dict, e_isi_list_dictT, e_isi_tuple_non, e_isi_tuple_bl, e_isi_tuple_int, e_isi_tuple_str, e_isi_tuple_list, e_isi_tuple_tup, e_isi_tuple_dict, e_isi_tuple_dictT, e_isi_dict_non, e_isi_dict_bl, e_isi_dict_int, e_isi_dict_str, e_isi_dict_list, e_isi_dict_tup, e_isi_dict_dict, e_isi_dict_dictT, e_iteAnd, e_iteOr, e_iteAndD, e_iteOrD, e_then_ite, e_endS_ite, e_endN_ite, e_ofR_ite, e_pick_ite, e_bind_ite, e_modI, e_fdivI, e_mul1, e_pow10, e_pow2, e_shl1, e_shrI, e_addS, e_iaddS, e_addL, e_addT, e_lenS, e_lst, e_strLit, String.reduceBEq, e_ixL0, e_ixL1, e_ixL2, e_ixL3, e_ixL4, e_ixL5, e_ixL6, e_ixL7, e_ixL8, e_ixT0, e_ixT1, e_ixT2, e_ixT3, e_ixT4, e_ixT5, e_tupleL, e_listT, e_tupleT, eqX_int, neX_int, eqX_S, neX_S, eqX_t0, neX_t0, e_catL, e_tup, e_inT, e_ninT, e_inL, e_ninL, e_slS, Int.reduceLT, Int.reduceLE, Int.reduceMul, Int.reduceAdd, Int.reduceSub, Int.reducePow, Int.reduceNeg, Int.reduceToNat, List.length_cons, List.length_nil, List.length_append, Nat.reduceAdd, Nat.reduceLeDiff, flD, List.all_cons, List.all_nil, Bool.and_true, Bool.true_and, Bool.and_self, decide_true, decide_false, or_true, true_or, and_true, true_and, eq_self])
local macro_rules | `(tactic| walk_at "pdr") => `(tactic| try simp -implicitDefEqProofs only [e_seq, q_seq, q_tnx, q_tex, q_trt, q_then_ite, q_nil, q_raise, cl_nil, cl_f, cl_t, cl_n, s_ok, s_ex, e_sqRet, e_sqSet, e_sqExpr, e_sqAsg, asg_some, e_tqName, e_tqTup2, e_qP, e_upok, e_upex, e_qVar, e_varok, e_qNew, e_newok, rq_ok, rq_ex, e_aqN, e_aqC, e_qPA, e_qCall, e_qTup, e_tupP2, e_qSn, e_qSnT, e_tok, e_qT, e_up_ite, pk_ite, s_ite, tst_ite, e_end_ite, q_ifS, pk_ok, sn_nil, sn_s, sn_n, fu_f, e_qIx, e_endrt, e_endnx, List.map_cons, List.map_nil, Bool.or_false, Bool.or_true, Bool.true_or, Bool.false_or, e_thn, e_trt, e_trn, e_tex, e_if, e_pick, e_pickx, e_ret, e_retN, e_set, e_drop, e_for, e_ofR, e_ofRx, e_ofI, e_nil, e_asg, endS_rt, endS_rn, endS_nx, endS_ex, endN_rn, endN_ex, gC, g1, g2, g3, gA, aNil, aCons, gAnd, gOr, gNot, gB, gTru, bAnd, bOr, bNot, gIf, iA, iSeq, gSl, pNone, pSome, ok_bind, ex_bind, st_bind, gVar, List.getElem?_cons_zero, List.getElem?_cons_succ, List.set_cons_zero, List.set_cons_succ, if_true, if_false, Bool.not_true, Bool.not_false, Bool.false_eq_true, ↓reduceIte, e_asB, e_lt, e_gt, e_le, e_ge, e_ltS, e_gtS, e_eqI, e_eqS, e_eqB, e_neI, e_neS, e_neB, e_addI, e_iaddI, e_subI, e_negI, e_andI, e_orI, e_xorI, e_lenL, e_lenT, e_ord, e_intB, e_intI, e_inS, e_ninS, e_itL, e_itT, e_itS, e_zip, e_enum, e_slL, e_slT, e_asI, e_isN1, e_isN2, e_notN1, e_notN2, e_truB, e_truI, e_truL, e_isi_int_non, e_isi_int_bl, e_isi_int_int, e_isi_int_str, e_isi_int_list, e_isi_int_tup, e_isi_int_dict, e_isi_int_dictT, e_isi_bool_non, e_isi_bool_bl, e_isi_bool_int, e_isi_bool_str, e_isi_bool_list, e_isi_bool_tup, e_isi_bool_dict, e_isi_bool_dictT, e_isi_str_non, e_isi_str_bl, e_isi_str_int, e_isi_str_str, e_isi_str_list, e_isi_str_tup, e_isi_str_dict, e_isi_str_dictT, e_isi_list_non, e_isi_list_bl, e_isi_list_int, e_isi_list_str, e_isi_list_list, e_isi_list_tup, e_isi_list_dict, e_isi_list_dictT, e_isi_tuple_non, e_isi_tuple_bl, e_isi_tuple_int, e_isi_tuple_str, e_isi_tuple_list, e_isi_tuple_tup, e_isi_tuple_dict, e_isi_tuple_dictT, e_isi_dict_non, e_isi_dict_bl, e_isi_dict_int, e_isi_dict_str, e_isi_dict_list, e_isi_dict_tup, e_isi_dict_dict, e_isi_dict_dictT, e_iteAnd, e_iteOr, e_iteAndD, e_iteOrD, e_then_ite, e_endS_ite, e_endN_ite, e_ofR_ite, e_pick_ite, e_bind_ite, e_modI, e_fdivI, e_mul1, e_pow10, e_pow2, e_shl1, e_shrI, e_addS, e_iaddS, e_addL, e_addT, e_lenS, e_lst, e_strLit, String.reduceBEq, e_ixL0, e_ixL1, e_ixL2, e_ixL3, e_ixL4, e_ixL5, e_ixL6, e_ixL7, e_ixL8, e_ixT0, e_ixT1, e_ixT2, e_ixT3, e_ixT4, e_ixT5, e_tupleL, e_listT, e_tupleT, eqX_int, neX_int, eqX_S, neX_S, eqX_t0, neX_t0, e_catL, e_tup, e_inT, e_ninT, e_inL, e_ninL, e_slS, Int.reduceLT, Int.reduceLE, Int.reduceMul, Int.reduceAdd, Int.reduceSub, Int.reducePow, Int.reduceNeg, Int.reduceToNat, List.length_cons, List.length_nil, List.length_append, Nat.reduceAdd, Nat.reduceLeDiff, flD, List.all_cons, List.all_nil, Bool.and_true, Bool.true_and, Bool.and_self, decide_true, decide_false, or_true, true_or, and_true, true_and, eq_self])
local macro_rules | `(tactic| walk_at "pdv") => `(tactic| try simp -implicitDefEqProofs only [e_seq, Int.reduceBEq, Int.cast_ofNat_Int, e_thn, e_trt, e_trn, e_tex, e_if, e_pick, e_pickx, e_ret, e_retN, e_set, e_drop, e_for, e_ofR, e_ofRx, e_ofI, e_nil, e_asg, endS_rt, endS_rn, endS_nx, endS_ex, endN_rn, endN_ex, gC, g1, g2, g3, gA, aNil, aCons, gAnd, gOr, gNot, gB, gTru, bAnd, bOr, bNot, gIf, iA, iSeq, gSl, pNone, pSome, ok_bind, ex_bind, st_bind, gVar, List.getElem?_cons_zero, List.getElem?_cons_succ, List.set_cons_zero, List.set_cons_succ, if_true, if_false, Bool.not_true, Bool.not_false, Bool.false_eq_true, ↓reduceIte, e_asB, e_lt, e_gt, e_le, e_ge, e_ltS, e_gtS, e_eqI, e_eqS, e_eqB, e_neI, e_neS, e_neB, e_addI, e_iaddI, e_subI, e_negI, e_andI, e_orI, e_xorI, e_lenL, e_lenT, e_ord, e_intB, e_intI, e_inS, e_ninS, e_itL, e_itT, e_itS, e_zip, e_enum, e_slL, e_slT, e_asI, e_isN1, e_isN2, e_notN1, e_notN2, e_truB, e_truI, e_truL, e_isi_int_non, e_isi_int_bl, e_isi_int_int, e_isi_int_str, e_isi_int_list, e_isi_int_tup, e_isi_int_dict, e_isi_int_dictT, e_isi_bool_non, e_isi_bool_bl, e_isi_bool_int, e_isi_bool_str, e_isi_bool_list, e_isi_bool_tup, e_isi_bool_dict, e_isi_bool_dictT, e_isi_str_non, e_isi_str_bl, e_isi_str_int, e_isi_str_str, e_isi_str_list, e_isi_str_tup, e_isi_str_dict, e_isi_str_dictT, e_isi_list_non, e_isi_list_bl, e_isi_list_int, e_isi_list_str, e_isi_list_list, e_isi_list_tup, e_isi_list_dict, e_isi_list_dictT, e_isi_tuple_non, e_isi_tuple_bl, e_isi_tuple_int, e_isi_tuple_str, e_isi_tuple_list, e_isi_tuple_tup, e_isi_tuple_dict, e_isi_tuple_dictT, e_isi_dict_non, e_isi_dict_bl, e_isi_dict_int, e_isi_dict_str, e_isi_dict_list, e_isi_dict_tup, e_isi_dict_dict, e_isi_dict_dictT, e_iteAnd, e_iteOr, e_iteAndD, e_iteOrD, e_then_ite, e_endS_ite, e_endN_ite, e_ofR_ite, e_pick_ite, e_bind_ite, e_modI, e_fdivI, e_mul1, e_pow10, e_pow2, e_shl1, e_shrI, e_addS, e_iaddS, e_addL, e_addT, e_lenS, e_lst, e_strLit, String.reduceBEq, e_ixL0, e_ixL1, e_ixL2, e_ixL3, e_ixL4, e_ixL5, e_ixL6, e_ixL7, e_ixL8, e_ixT0, e_ixT1, e_ixT2, e_ixT3, e_ixT4, e_ixT5, e_tupleL, e_listT, e_tupleT, eqX_int, neX_int, eqX_S, neX_S, eqX_t0, neX_t0, e_catL, e_tup, e_inT, e_ninT, e_inL, e_ninL, e_slS, Int.reduceLT, Int.reduceLE, Int.reduceMul, Int.reduceAdd, Int.reduceSub, Int.reducePow, Int.reduceNeg, Int.reduceToNat, List.length_cons, List.length_nil, List.length_append, Nat.reduceAdd, Nat.reduceLeDiff, flD, List.all_cons, List.all_nil, Bool.and_true, Bool.true_and, Bool.and_self, decide_true, decide_false, or_true, true_or, and_true, true_and, eq_self])
def lawSigns : Str := " !#$&'()*+,-./0123456789:;<=>?@ABCDEFGHIJKLMNOPQRSTUVWXYZ[\\]^_`abcdefghijklmnopqrstuvwxyz{|}~\""
theorem law_signs : addD (.str " !#$&'()*+,-./0123456789:;<=>?@ABCDEFGHIJKLMNOPQRSTUVWXYZ[\\]^_`abcdefghijklmnopqrstuvwxyz{|}~") (.str "\"") = .ok (.str lawSigns) := by
  rw [e_addS _ _ (by decide +kernel)]
  exact congrArg (fun z => R.ok (D.str z)) (by decide +kernel)
theorem lawSigns_len : lawSigns.length = 94 := by decide +kernel
theorem lawSigns_sub : Sub allSigns lawSigns := by
  have : ∀ c ∈ cps lawSigns, c ∈ cps allSigns := by decide +kernel
  exact this
theorem five_len : (Str.ofString "|/\\a ").length = 5 := by decide +kernel
theorem five_sub : Sub allSigns (Str.ofString "|/\\a ") := by
  have : ∀ c ∈ cps (Str.ofString "|/\\a "), c ∈ cps allSigns := by decide +kernel
  exact this
def TextOk (s : Str) : Prop := s.length ≤ 60 ∧ Sub allSigns s
theorem TextOk.b {s : Str} (h : TextOk s) : ofS s allSigns 0 60 = true := by
  unfold ofS
  rw [decide_eq_true (show (0 : Int) ≤ (s.length : Int) by omega), decide_eq_true (show (s.length : Int) ≤ 60 by have := h.1; omega)]
  rw [List.all_eq_true.mpr fun c hc => decide_eq_true (h.2 c hc)]
  rfl
theorem all_lt : ∀ c ∈ cps allSigns, c < 1114112 := by decide +kernel
theorem TextOk.sh {s : Str} (h : TextOk s) (n : Nat) : shL n (.str s) = true := by
  have : (PyData.strOk s && decide (s.length ≤ 1000)) = true := by
    rw [strOk_of fun c hc => all_lt c (h.2 c hc), decide_eq_true (show s.length ≤ 1000 by have := h.1; omega)]
    rfl
  cases n <;> exact this
theorem four {xs : List Nat} (h : xs.length = 4) : ∃ a b c d, xs = [a, b, c, d] := by
  match xs, h with
  | [a, b, c, d], _ => exact ⟨a, b, c, d, rfl⟩
theorem text_at (c : Int) : ∃ s, F__law_text [.int c] = .ok (.str s) ∧ TextOk s := by
  show ∃ s, endS (S__law_text [some (.int c), none, none, none, none, none]) = .ok (.str s) ∧ TextOk s
  unfold S__law_text
  obtain ⟨xs, e1, l1, h1⟩ := stream_at c 4 (by decide)
  obtain ⟨x0, x1, x2, x3, rfl⟩ := four l1
  walk_at "pd"
  rw [law_signs]
  walk_at "pd"
  rw [show (F__law_stream [.int c, .int 4]) = .ok (.list (intsD [x0, x1, x2, x3])) from e1]
  have ei : intsD [x0, x1, x2, x3] = [.int x0, .int x1, .int x2, .int x3] := rfl
  rw [ei]
  walk_at "pd"
  try simp only [e_ixL0, e_ixL1, e_ixL2, e_ixL3]
  walk_at "pd"
  obtain ⟨d, e2, m2⟩ := ix_any (ds := [.int 0, .int ((x1 : Int) % 4), .int ((x1 : Int) % 12), .int ((x1 : Int) % 61)]) (i := (x0 : Int) % 4) (by omega) (by show _ < ((4 : Nat) : Int); omega)
  rw [e2]
  obtain ⟨n, rfl, hn⟩ : ∃ n : Nat, d = .int (n : Int) ∧ n ≤ 60 := by
    simp only [List.mem_cons, List.not_mem_nil, or_false] at m2
    rcases m2 with rfl | rfl | rfl | rfl
    · exact ⟨0, rfl, by decide⟩
    · exact ⟨x1 % 4, by rw [Int.natCast_emod]; rfl, by omega⟩
    · exact ⟨x1 % 12, by rw [Int.natCast_emod]; rfl, by omega⟩
    · exact ⟨x1 % 61, by rw [Int.natCast_emod]; rfl, by omega⟩
  walk_at "pd"
  obtain ⟨ys, e3, l3, h3⟩ := stream_at (c + 1) n (by omega)
  rw [e3]
  walk_at "pd"
  generalize hr : forL _ _ _ _ = r
  obtain ⟨ρ', rfl, s, o, rfl, hs, hq⟩ := forL_out hr (fun j ρ => ∃ s o, ρ = [some (.int c), some (.str lawSigns), some (.list [.int x0, .int x1, .int x2, .int x3]), some (.int (n : Int)), some (.str s), o] ∧ s.length = j ∧ Sub allSigns s) ⟨_, none, rfl, by decide +kernel, Sub.emp _⟩ (by
    rintro j d ρ hd ⟨s, o, rfl, hs, hq⟩
    have hj : j < (intsD ys).length := (List.getElem?_eq_some_iff.mp hd).1
    rw [intsD_len, l3] at hj
    obtain ⟨x, hx, rfl⟩ := List.mem_map.mp (List.mem_of_getElem? hd)
    refine ⟨_, rfl, ?_⟩
    obtain ⟨q, eq, lq, sq⟩ := ix_sub (Str.ofString "|/\\a ") ((x : Int) % 5) (by decide +kernel) (by omega) (by rw [five_len]; omega)
    obtain ⟨q2, eq2, lq2, sq2⟩ := ix_sub lawSigns ((x : Int) % 94) (by decide +kernel) (by omega) (by rw [lawSigns_len]; omega)
    unfold B__law_text_0
    walk_at "pd"
    try simp only [e_ixL2]
    walk_at "pd"
    rw [eq, eq2]
    walk_at "pd"
    rw [e_addS _ _ (by omega), e_addS _ _ (by omega)]
    walk_at "pd"
    by_cases hc : ((x2 : Int) % 2 == 0) = true
    · rw [if_pos hc]
      exact ⟨_, rfl, s ++ q, _, rfl, by rw [len_app]; omega, hq.app (five_sub.trans sq)⟩
    · rw [if_neg hc]
      exact ⟨_, rfl, s ++ q2, _, rfl, by rw [len_app]; omega, hq.app (lawSigns_sub.trans sq2)⟩)
  walk_at "pd"
  refine ⟨_, rfl, ?_, hq⟩
  rw [hs, intsD_len, l3]
  exact hn
/-! ### tables -/
def textsOk (ds : List D) : Prop := ∀ d ∈ ds, ∃ s, d = .str s ∧ TextOk s
def RowOk (n : Nat) (d : D) : Prop := ∃ ds, d = .tup ds ∧ ds.length = n ∧ textsOk ds
def TableOk (d : D) : Prop := ∃ rows n, d = .tup rows ∧ 1 ≤ rows.length ∧ rows.length ≤ 6 ∧ 1 ≤ n ∧ n ≤ 6 ∧ ∀ r ∈ rows, RowOk n r
theorem three {xs : List Nat} (h : xs.length = 3) : ∃ a b c, xs = [a, b, c] := by
  match xs, h with
  | [a, b, c], _ => exact ⟨a, b, c, rfl⟩
theorem pick6 {x : Nat} {d : D} (m : d ∈ [.int (1 + (x : Int) / 3 % 3), .int (1 + (x : Int) / 3 % 6), (.int 6 : D)]) : ∃ n : Nat, d = .int (n : Int) ∧ 1 ≤ n ∧ n ≤ 6 := by
  simp only [List.mem_cons, List.not_mem_nil, or_false] at m
  rcases m with rfl | rfl | rfl
  · exact ⟨1 + x / 3 % 3, by congr 1, by omega, by omega⟩
  · exact ⟨1 + x / 3 % 6, by congr 1, by omega, by omega⟩
  · exact ⟨6, rfl, by omega, by omega⟩
theorem table_at (c : Int) : ∃ d, F__law_table [.int c] = .ok d ∧ TableOk d := by
  show ∃ d, endS (S__law_table [some (.int c), none, none, none, none, none, none]) = .ok d ∧ TableOk d
  unfold S__law_table
  obtain ⟨xs, e1, l1, h1⟩ := stream_at c 3 (by decide)
  obtain ⟨x0, x1, x2, rfl⟩ := three l1
  have ei : intsD [x0, x1, x2] = [.int x0, .int x1, .int x2] := rfl
  walk_at "pd"
  rw [show (F__law_stream [.int c, .int 3]) = .ok (.list (intsD [x0, x1, x2])) from e1, ei]
  walk_at "pd"
  try simp only [e_ixL0, e_ixL1]
  walk_at "pd"
  obtain ⟨d, e2, m2⟩ := ix_any (ds := [.int (1 + (x0 : Int) / 3 % 3), .int (1 + (x0 : Int) / 3 % 6), .int 6]) (i := (x0 : Int) % 3) (by omega) (by show _ < ((3 : Nat) : Int); omega)
  rw [e2]
  obtain ⟨m, rfl, m0, m1⟩ := pick6 m2
  walk_at "pd"
  try simp only [e_ixL0, e_ixL1]
  walk_at "pd"
  obtain ⟨d, e3, m3⟩ := ix_any (ds := [.int (1 + (x1 : Int) / 3 % 3), .int (1 + (x1 : Int) / 3 % 6), .int 6]) (i := (x1 : Int) % 3) (by omega) (by show _ < ((3 : Nat) : Int); omega)
  rw [e3]
  obtain ⟨w, rfl, w0, w1⟩ := pick6 m3
  walk_at "pd"
  rw [e_rng1 (m : Int) (small_ok (by omega) (by omega)), Int.toNat_natCast]
  walk_at "pd"
  generalize hr : forL _ _ _ _ = r
  obtain ⟨ρ', rfl, rows, o, rfl, hl, hq⟩ := forL_out hr (fun j ρ => ∃ rows o, ρ = [some (.int c), some (.list [.int x0, .int x1, .int x2]), some (.int (m : Int)), some (.int (w : Int)), some (.list rows), o, none] ∧ rows.length = j ∧ ∀ r ∈ rows, RowOk w r) ⟨[], none, rfl, rfl, fun r h => nomatch h⟩ (by
    rintro j d ρ hd ⟨rows, o, rfl, hl, hq⟩
    have hj : j < (rngL 0 m).length := (List.getElem?_eq_some_iff.mp hd).1
    rw [rng_len] at hj
    obtain ⟨k, hk, rfl⟩ := mem_rng (List.mem_of_getElem? hd)
    refine ⟨_, rfl, ?_⟩
    unfold B__law_table_0
    have hz : rows.length < sizeLine := by rw [sizeLine_eq]; omega
    walk_at "pd"
    rw [e_append rows rfl]
    walk_at "pd"
    generalize hG : gLc _ _ _ _ _ _ = G
    obtain ⟨ys, rfl, ly, hy⟩ := gLc_out hG (fun y => ∃ s, y = .str s ∧ TextOk s) (items := rngL 0 w) (by
      walk_at "pd"
      rw [e_rng1 (w : Int) (small_ok (by omega) (by omega)), Int.toNat_natCast]) (by rw [rng_len]; omega) (by
      intro d hd
      obtain ⟨i, hi, rfl⟩ := mem_rng hd
      show ∃ y, gA _ _ [some (.int c), some (.list [.int x0, .int x1, .int x2]), some (.int (m : Int)), some (.int (w : Int)), some (.list rows), some (.int (0 + (k : Int))), some (.int (0 + (i : Int)))] = .ok y ∧ _
      walk_at "pd"
      obtain ⟨s, es, hs⟩ := text_at (c + 101 * (0 + (k : Int)) + 1009 * (0 + (i : Int)) + 7)
      exact ⟨_, es, s, rfl, hs⟩)
    walk_at "pd"
    rw [if_pos hz]
    refine ⟨_, rfl, rows ++ [.tup ys], _, rfl, by rw [List.length_append, hl]; rfl, fun r hr => ?_⟩
    rcases List.mem_append.mp hr with h | h
    · exact hq r h
    · simp only [List.mem_cons, List.not_mem_nil, or_false] at h
      exact ⟨ys, h, ly.trans (rng_len _ _), hy⟩)
  walk_at "pd"
  rw [rng_len] at hl
  exact ⟨_, rfl, rows, w, rfl, by omega, by omega, w0, w1, hq⟩

end Pd

set_option maxHeartbeats 4000000
namespace Pd
open PySem PySem.Spec PyProof.Rows L2
local macro_rules | `(tactic| walk_at "pd") => `(tactic| try simp -implicitDefEqProofs only [e_seq, e_thn, e_trt, e_trn, e_tex, e_if, e_pick, e_pickx, e_ret, e_retN, e_set, e_drop, e_for, e_ofR, e_ofRx, e_ofI, e_nil, e_asg, endS_rt, endS_rn, endS_nx, endS_ex, endN_rn, endN_ex, gC, g1, g2, g3, gA, aNil, aCons, gAnd, gOr, gNot, gB, gTru, bAnd, bOr, bNot, gIf, iA, iSeq, gSl, pNone, pSome, ok_bind, ex_bind, st_bind, gVar, List.getElem?_cons_zero, List.getElem?_cons_succ, List.set_cons_zero, List.set_cons_succ, if_true, if_false, Bool.not_true, Bool.not_false, Bool.false_eq_true, ↓reduceIte, e_asB, e_lt, e_gt, e_le, e_ge, e_ltS, e_gtS, e_eqI, e_eqS, e_eqB, e_neI, e_neS, e_neB, e_addI, e_iaddI, e_subI, e_negI, e_andI, e_orI, e_xorI, e_lenL, e_lenT, e_ord, e_intB, e_intI, e_inS, e_ninS, e_itL, e_itT, e_itS, e_zip, e_enum, e_slL, e_slT, e_asI, e_isN1, e_isN2, e_notN1, e_notN2, e_truB, e_truI, e_truL, e_isi_int_non, e_isi_int_bl, e_isi_int_int, e_isi_int_str, e_isi_int_list, e_isi_int_tup, e_isi_int_dict, e_isi_int_dictT, e_isi_bool_non, e_isi_bool_bl, e_isi_bool_int, e_isi_bool_str, e_isi_bool_list, e_isi_bool_tup, e_isi_bool_dict, e_isi_bool_dictT, e_isi_str_non, e_isi_str_bl, e_isi_str_int, e_isi_str_str, e_isi_str_list, e_isi_str_tup, e_isi_str_dict, e_isi_str_dictT, e_isi_list_non, e_isi_list_bl, e_isi_list_int, e_isi_list_str, e_isi_list_list, e_isi_list_tup, e_isi_list_dict, e_isi_list_dictT, e_isi_tuple_non, e_isi_tuple_bl, e_isi_tuple_int, e_isi_tuple_str, e_isi_tuple_list, e_isi_tuple_tup, e_isi_tuple_dict, e_isi_tuple_dictT, e_isi_dict_non, e_isi_dict_bl, e_isi_dict_int, e_isi_dict_str, e_isi_dict_list, e_isi_dict_tup, e_isi_dict_dict, e_isi_dict_dictT, e_iteAnd, e_iteOr, e_iteAndD, e_iteOrD, e_then_ite, e_endS_ite, e_endN_ite, e_ofR_ite, e_pick_ite, e_bind_ite, e_modI, e_fdivI, e_mul1, e_pow10, e_pow2, e_shl1, e_shrI, e_addS, e_iaddS, e_addL, e_addT, e_lenS, e_lst, e_strLit, String.reduceBEq, e_ixL0, e_ixL1, e_ixL2, e_ixL3, e_ixL4, e_ixL5, e_ixL6, e_ixL7, e_ixL8, e_ixT0, e_ixT1, e_ixT2, e_ixT3, e_ixT4, e_ixT5, e_tupleL, e_listT, e_tupleT, eqX_int, neX_int, eqX_S, neX_S, eqX_t0, neX_t0, e_catL, e_tup, e_inT, e_ninT, e_inL, e_ninL, e_slS, Int.reduceLT, Int.reduceLE, Int.reduceMul, Int.reduceAdd, Int.reduceSub, Int.reducePow, Int.reduceNeg, Int.reduceToNat, List.length_cons, List.length_nil, List.length_append, Nat.reduceAdd, Nat.reduceLeDiff, flD, List.all_cons, List.all_nil, Bool.and_true, Bool.true_and, Bool.and_self, decide_true, decide_false, or_true, true_or, and_true, true_and, eq_self])
local macro_rules | `(tactic| walk_at "pdh") => `(tactic| try simp -implicitDefEqProofs only [e_seq, e_thn, e_trt, e_trn, e_tex, e_if, e_pick, e_pickx, e_ret, e_retN, e_set, e_drop, e_for, e_ofR, e_ofRx, e_ofI, e_nil, e_asg, endS_rt, endS_rn, endS_nx, endS_ex, endN_rn, endN_ex, gC, g1, g2, g3, gA, aNil, aCons, gAnd, gOr, gNot, gB, gTru, bAnd, bOr, bNot, gIf, iA, iSeq, gSl, pNone, pSome, ok_bind, ex_bind, st_bind, gVar, List.getElem?_cons_zero, List.getElem?_cons_succ, List.set_cons_zero, List.set_cons_succ, if_true, if_false, Bool.not_true, Bool.not_false, Bool.false_eq_true, ↓reduceIte, e_asB, e_lt, e_gt, e_le, e_ge, e_ltS, e_gtS, e_eqI, e_eqS, e_eqB, e_neI, e_neS, e_neB, e_addI, e_iaddI, e_subI, e_negI, e_andI, e_orI, e_xorI, e_lenL, e_lenT, e_ord, e_intB, e_intI, e_inS, e_ninS, e_itL, e_itT, e_itS, e_zip, e_enum, e_slL, e_slT, e_asI, e_isN1, e_isN2, e_notN1, e_notN2, e_truB, e_truI, e_truL, e_isi_int_non, e_isi_int_bl, e_isi_int_int, e_isi_int_str, e_isi_int_list, e_isi_int_tup, e_isi_int_dict, e_isi_int_dictT, e_isi_bool_non, e_isi_bool_bl, e_isi_bool_int, e_isi_bool_str, e_isi_bool_list, e_isi_bool_tup, e_isi_bool_dict, e_isi_bool_dictT, e_isi_str_non, e_isi_str_bl, e_isi_str_int, e_isi_str_str, e_isi_str_list, e_isi_str_tup, e_isi_str_dict, e_isi_str_dictT, e_isi_list_non, e_isi_list_bl, e_isi_list_int, e_isi_list_str, e_isi_list_list, e_isi_list_tup, e_isi_list_dict, e_isi_list_dictT, e_isi_tuple_non, e_isi_tuple_bl, e_isi_tuple_int, e_isi_tuple_str, e_isi_tuple_list, e_isi_tuple_tup, e_isi_tuple_dict, e_isi_tuple_dictT, e_isi_dict_non, e_isi_dict_bl, e_isi_dict_int, e_isi_dict_str, e_isi_dict_list, e_isi_dict_tup, e_isi_dict_dict, e_isi_dict_dictT, e_iteAnd, e_iteOr, e_iteAndD, e_iteOrD, e_then_ite, e_endS_ite, e_endN_ite, e_ofR_ite, e_pick_ite, e_bind_ite, e_modI, e_fdivI, e_mul1, e_pow10, e_pow2, e_shl1, e_shrI, e_addS, e_iaddS, e_addL, e_addT, e_lenS, e_lst, e_strLit, String.reduceBEq, e_ixL0, e_ixL1, e_ixL2, e_ixL3, e_ixL4, e_ixL5, e_ixL6, e_ixL7, e_ixL8, e_ixT0, e_ixT1, e_ixT2, e_ixT3, e_ixT4, e_ixT5, e_tupleL, e_listT, e_tupleT, eqX_int, neX_int, eqX_S, neX_S, eqX_t0, neX_t0, e_catL, e_tup, e_inT, e_ninT, e_inL, e_ninL, e_slS, Int.reduceLT, Int.reduceLE, Int.reduceMul, Int.reduceAdd, Int.reduceSub, Int.reducePow, Int.reduceNeg, Int.reduceToNat, List.length_cons, List.length_nil, List.length_append, Nat.reduceAdd, Nat.reduceLeDiff, flD, List.all_cons, List.all_nil, Bool.and_true, Bool.true_and, Bool.and_self, decide_true, decide_false, or_true, true_or, and_true, true_and, eq_self, *])
local macro_rules | `(tactic| walk_at "pdu") => `(tactic| try simp -implicitDefEqProofs only [e_seq, e_forN, e_for0, e_nxn, e_nct, e_nbk, e_nrt, e_nrn, e_nex, e_next_ite, e_thn, e_trt, e_trn, e_tex, e_if, e_pick, e_pickx, e_ret, e_retN, e_set, e_drop, e_for, e_ofR, e_ofRx, e_ofI, e_nil, e_asg, endS_rt, endS_rn, endS_nx, endS_ex, endN_rn, endN_ex, gC, g1, g2, g3, gA, aNil, aCons, gAnd, gOr, gNot, gB, gTru, bAnd, bOr, bNot, gIf, iA, iSeq, gSl, pNone, pSome, ok_bind, ex_bind, st_bind, gVar, List.getElem?_cons_zero, List.getElem?_cons_succ, List.set_cons_zero, List.set_cons_succ, if_true, if_false, Bool.not_true, Bool.not_false, Bool.false_eq_true, ↓reduceIte, e_asB, e_lt, e_gt, e_le, e_ge, e_ltS, e_gtS, e_eqI, e_eqS, e_eqB, e_neI, e_neS, e_neB, e_addI, e_iaddI, e_subI, e_negI, e_andI, e_orI, e_xorI, e_lenL, e_lenT, e_ord, e_intB, e_intI, e_inS, e_ninS, e_itL, e_itT, e_itS, e_zip, e_enum, e_slL, e_slT, e_asI, e_isN1, e_isN2, e_notN1, e_notN2, e_truB, e_truI, e_truL, e_isi_int_non, e_isi_int_bl, e_isi_int_int, e_isi_int_str, e_isi_int_list, e_isi_int_tup, e_isi_int_dict, e_isi_int_dictT, e_isi_bool_non, e_isi_bool_bl, e_isi_bool_int, e_isi_bool_str, e_isi_bool_list, e_isi_bool_tup, e_isi_bool_dict, e_isi_bool_dictT, e_isi_str_non, e_isi_str_bl, e_isi_str_int, e_isi_str_str, e_isi_str_list, e_isi_str_tup, e_isi_str_dict, e_isi_str_dictT, e_isi_list_non, e_isi_list_bl, e_isi_list_int, e_isi_list_str, e_isi_list_list, e_isi_list_tup, e_isi_list_dict, e_isi_list_dictT, e_isi_tuple_non, e_isi_tuple_bl, e_isi_tuple_int, e_isi_tuple_str, e_isi_tuple_list, e_isi_tuple_tup, e_isi_tuple_dict, e_isi_tuple_dictT, e_isi_dict_non, e_isi_dict_bl, e_isi_dict_int, e_isi_dict_str, e_isi_dict_list, e_isi_dict_tup, e_isi_dict_dict, e_isi_dict_dictT, e_iteAnd, e_iteOr, e_iteAndD, e_iteOrD, e_then_ite, e_endS_ite, e_endN_ite, e_ofR_ite, e_pick_ite, e_bind_ite, e_modI, e_fdivI, e_mul1, e_pow10, e_pow2, e_shl1, e_shrI, e_addS, e_iaddS, e_addL, e_addT, e_lenS, e_lst, e_strLit, String.reduceBEq, e_ixL0, e_ixL1, e_ixL2, e_ixL3, e_ixL4, e_ixL5, e_ixL6, e_ixL7, e_ixL8, e_ixT0, e_ixT1, e_ixT2, e_ixT3, e_ixT4, e_ixT5, e_tupleL, e_listT, e_tupleT, eqX_int, neX_int, eqX_S, neX_S, eqX_t0, neX_t0, e_catL, e_tup, e_inT, e_ninT, e_inL, e_ninL, e_slS, Int.reduceLT, Int.reduceLE, Int.reduceMul, Int.reduceAdd, Int.reduceSub, Int.reducePow, Int.reduceNeg, Int.reduceToNat, List.length_cons, List.length_nil, List.length_append, Nat.reduceAdd, Nat.reduceLeDiff, flD, List.all_cons, List.all_nil, Bool.and_true, Bool.true_and, Bool.and_self, decide_true, decide_false, or_true, true_or, and_true, true_and, eq_self])
local macro_rules | `(tactic| walk_at "pdq") => `(tactic| try simp -implicitDefEqProofs only [e_seq, q_seq, q_tnx, q_tex, q_trt, q_then_ite, q_if, q_pick, q_pickx, q_pick_ite, q_nil, q_raise, cl_nil, cl_f, cl_t, cl_n, e_thn, e_trt, e_trn, e_tex, e_if, e_pick, e_pickx, e_ret, e_retN, e_set, e_drop, e_for, e_ofR, e_ofRx, e_ofI, e_nil, e_asg, endS_rt, endS_rn, endS_nx, endS_ex, endN_rn, endN_ex, gC, g1, g2, g3, gA, aNil, aCons, gAnd, gOr, gNot, gB, gTru, bAnd, bOr, bNot, gIf, iA, iSeq, gSl, pNone, pSome, ok_bind, ex_bind, st_bind, gVar, List.getElem?_cons_zero, List.getElem?_cons_succ, List.set_cons_zero, List.set_cons_succ, if_true, if_false, Bool.not_true, Bool.not_false, Bool.false_eq_true, ↓reduceIte, e_asB, e_lt, e_gt, e_le, e_ge, e_ltS, e_gtS, e_eqI, e_eqS, e_eqB, e_neI, e_neS, e_neB, e_addI, e_iaddI, e_subI, e_negI, e_andI, e_orI, e_xorI, e_lenL, e_lenT, e_ord, e_intB, e_intI, e_inS, e_ninS, e_itL, e_itT, e_itS, e_zip, e_enum, e_slL, e_slT, e_asI, e_isN1, e_isN2, e_notN1, e_notN2, e_truB, e_truI, e_truL, e_isi_int_non, e_isi_int_bl, e_isi_int_int, e_isi_int_str, e_isi_int_list, e_isi_int_tup, e_isi_int_dict, e_isi_int_dictT, e_isi_bool_non, e_isi_bool_bl, e_isi_bool_int, e_isi_bool_str, e_isi_bool_list, e_isi_bool_tup, e_isi_bool_dict, e_isi_bool_dictT, e_isi_str_non, e_isi_str_bl, e_isi_str_int, e_isi_str_str, e_isi_str_list, e_isi_str_tup, e_isi_str_dict, e_isi_str_dictT, e_isi_list_non, e_isi_list_bl, e_isi_list_int, e_isi_list_str, e_isi_list_list, e_isi_list_tup, e_isi_list_dict, e_isi_list_dictT, e_isi_tuple_non, e_isi_tuple_bl, e_isi_tuple_int, e_isi_tuple_str, e_isi_tuple_list, e_isi_tuple_tup, e_isi_tuple_dict, e_isi_tuple_dictT, e_isi_dict_non, e_isi_dict_bl, e_isi_dict_int, e_isi_dict_str, e_isi_dict_list, e_isi_dict_tup, e_isi_dict_dict, e_isi_dict_dictT, e_iteAnd, e_iteOr, e_iteAndD, e_iteOrD, e_then_ite, e_endS_ite, e_endN_ite, e_ofR_ite, e_pick_ite, e_bind_ite, e_modI, e_fdivI, e_mul1, e_pow10, e_pow2, e_shl1, e_shrI, e_addS, e_iaddS, e_addL, e_addT, e_lenS, e_lst, e_strLit, String.reduceBEq, e_ixL0, e_ixL1, e_ixL2, e_ixL3, e_ixL4, e_ixL5, e_ixL6, e_ixL7, e_ixL8, e_ixT0, e_ixT1, e_ixT2, e_ixT3, e_ixT4, e_ixT5, e_tupleL, e_listT, e_tupleT, eqX_int, neX_int, eqX_S, neX_S, eqX_t0, neX_t0, e_catL, e_tup, e_inT, e_ninT, e_inL, e_ninL, e_slS, Int.reduceLT, Int.reduceLE, Int.reduceMul, Int.reduceAdd, Int.reduceSub, Int.reducePow, Int.reduceNeg, Int.reduceToNat, List.length_cons, List.length_nil, List.length_append, Nat.reduceAdd, Nat.reduceLeDiff, flD, List.all_cons, List.all_nil, Bool.and_true, Bool.true_and, Bool.and_self, decide_true, decide_false, or_true, true_or, and_true, true_and, eq_self])
local macro_rules | `(tactic| walk_at "pdr") => `(tactic| try simp -implicitDefEqProofs only [e_seq, q_seq, q_tnx, q_tex, q_trt, q_then_ite, q_nil, q_raise, cl_nil, cl_f, cl_t, cl_n, s_ok, s_ex, e_sqRet, e_sqSet, e_sqExpr, e_sqAsg, asg_some, e_tqName, e_tqTup2, e_qP, e_upok, e_upex, e_qVar, e_varok, e_qNew, e_newok, rq_ok, rq_ex, e_aqN, e_aqC, e_qPA, e_qCall, e_qTup, e_tupP2, e_qSn, e_qSnT, e_tok, e_qT, e_up_ite, pk_ite, s_ite, tst_ite, e_end_ite, q_ifS, pk_ok, sn_nil, sn_s, sn_n, fu_f, e_qIx, e_endrt, e_endnx, List.map_cons, List.map_nil, Bool.or_false, Bool.or_true, Bool.true_or, Bool.false_or, e_thn, e_trt, e_trn, e_tex, e_if, e_pick, e_pickx, e_ret, e_retN, e_set, e_drop, e_for, e_ofR, e_ofRx, e_ofI, e_nil, e_asg, endS_rt, endS_rn, endS_nx, endS_ex, endN_rn, endN_ex, gC, g1, g2, g3, gA, aNil, aCons, gAnd, gOr, gNot, gB, gTru, bAnd, bOr, bNot, gIf, iA, iSeq, gSl, pNone, pSome, ok_bind, ex_bind, st_bind, gVar, List.getElem?_cons_zero, List.getElem?_cons_succ, List.set_cons_zero, List.set_cons_succ, if_true, if_false, Bool.not_true, Bool.not_false, Bool.false_eq_true, ↓reduceIte, e_asB, e_lt, e_gt, e_le, e_ge, e_ltS, e_gtS, e_eqI, e_eqS, e_eqB, e_neI, e_neS, e_neB, e_addI, e_iaddI, e_subI, e_negI, e_andI, e_orI, e_xorI, e_lenL, e_lenT, e_ord, e_intB, e_intI, e_inS, e_ninS, e_itL, e_itT, e_itS, e_zip, e_enum, e_slL, e_slT, e_asI, e_isN1, e_isN2, e_notN1, e_notN2, e_truB, e_truI, e_truL, e_isi_int_non, e_isi_int_bl, e_isi_int_int, e_isi_int_str, e_isi_int_list, e_isi_int_tup, e_isi_int_dict, e_isi_int_dictT, e_isi_bool_non, e_isi_bool_bl, e_isi_bool_int, e_isi_bool_str, e_isi_bool_list, e_isi_bool_tup, e_isi_bool_dict, e_isi_bool_dictT, e_isi_str_non, e_isi_str_bl, e_isi_str_int, e_isi_str_str, e_isi_str_list, e_isi_str_tup, e_isi_str_dict, e_isi_str_dictT, e_isi_list_non, e_isi_list_bl, e_isi_list_int, e_isi_list_str, e_isi_list_list, e_isi_list_tup, e_isi_list_dict, e_isi_list_dictT, e_isi_tuple_non, e_isi_tuple_bl, e_isi_tuple_int, e_isi_tuple_str, e_isi_tuple_list, e_isi_tuple_tup, e_isi_tuple_dict, e_isi_tuple_dictT, e_isi_dict_non, e_isi_dict_bl, e_isi_dict_int, e_isi_dict_str, e_isi_dict_list, e_isi_dict_tup, e_isi_dict_dict, e_isi_dict_dictT, e_iteAnd, e_iteOr, e_iteAndD, e_iteOrD, e_then_ite, e_endS_ite, e_endN_ite, e_ofR_ite, e_pick_ite, e_bind_ite, e_modI, e_fdivI, e_mul1, e_pow10, e_pow2, e_shl1, e_shrI, e_addS, e_iaddS, e_addL, e_addT, e_lenS, e_lst, e_strLit, String.reduceBEq, e_ixL0, e_ixL1, e_ixL2, e_ixL3, e_ixL4, e_ixL5, e_ixL6, e_ixL7, e_ixL8, e_ixT0, e_ixT1, e_ixT2, e_ixT3, e_ixT4, e_ixT5, e_tupleL, e_listT, e_tupleT, eqX_int, neX_int, eqX_S, neX_S, eqX_t0, neX_t0, e_catL, e_tup, e_inT, e_ninT, e_inL, e_ninL, e_slS, Int.reduceLT, Int.reduceLE, Int.reduceMul, Int.reduceAdd, Int.reduceSub, Int.reducePow, Int.reduceNeg, Int.reduceToNat, List.length_cons, List.length_nil, List.length_append, Nat.reduceAdd, Nat.reduceLeDiff, flD, List.all_cons, List.all_nil, Bool.and_true, Bool.true_and, Bool.and_self, decide_true, decide_false, or_true, true_or, and_true, true_and, eq_self])
local macro_rules | `(tactic| walk_at "pdv") => `(tactic| try simp -implicitDefEqProofs only [e_seq, Int.reduceBEq, Int.cast_ofNat_Int, e_thn, e_trt, e_trn, e_tex, e_if, e_pick, e_pickx, e_ret, e_retN, e_set, e_drop, e_for, e_ofR, e_ofRx, e_ofI, e_nil, e_asg, endS_rt, endS_rn, endS_nx, endS_ex, endN_rn, endN_ex, gC, g1, g2, g3, gA, aNil, aCons, gAnd, gOr, gNot, gB, gTru, bAnd, bOr, bNot, gIf, iA, iSeq, gSl, pNone, pSome, ok_bind, ex_bind, st_bind, gVar, List.getElem?_cons_zero, List.getElem?_cons_succ, List.set_cons_zero, List.set_cons_succ, if_true, if_false, Bool.not_true, Bool.not_false, Bool.false_eq_true, ↓reduceIte, e_asB, e_lt, e_gt, e_le, e_ge, e_ltS, e_gtS, e_eqI, e_eqS, e_eqB, e_neI, e_neS, e_neB, e_addI, e_iaddI, e_subI, e_negI, e_andI, e_orI, e_xorI, e_lenL, e_lenT, e_ord, e_intB, e_intI, e_inS, e_ninS, e_itL, e_itT, e_itS, e_zip, e_enum, e_slL, e_slT, e_asI, e_isN1, e_isN2, e_notN1, e_notN2, e_truB, e_truI, e_truL, e_isi_int_non, e_isi_int_bl, e_isi_int_int, e_isi_int_str, e_isi_int_list, e_isi_int_tup, e_isi_int_dict, e_isi_int_dictT, e_isi_bool_non, e_isi_bool_bl, e_isi_bool_int, e_isi_bool_str, e_isi_bool_list, e_isi_bool_tup, e_isi_bool_dict, e_isi_bool_dictT, e_isi_str_non, e_isi_str_bl, e_isi_str_int, e_isi_str_str, e_isi_str_list, e_isi_str_tup, e_isi_str_dict, e_isi_str_dictT, e_isi_list_non, e_isi_list_bl, e_isi_list_int, e_isi_list_str, e_isi_list_list, e_isi_list_tup, e_isi_list_dict, e_isi_list_dictT, e_isi_tuple_non, e_isi_tuple_bl, e_isi_tuple_int, e_isi_tuple_str, e_isi_tuple_list, e_isi_tuple_tup, e_isi_tuple_dict, e_isi_tuple_dictT, e_isi_dict_non, e_isi_dict_bl, e_isi_dict_int, e_isi_dict_str, e_isi_dict_list, e_isi_dict_tup, e_isi_dict_dict, e_isi_dict_dictT, e_iteAnd, e_iteOr, e_iteAndD, e_iteOrD, e_then_ite, e_endS_ite, e_endN_ite, e_ofR_ite, e_pick_ite, e_bind_ite, e_modI, e_fdivI, e_mul1, e_pow10, e_pow2, e_shl1, e_shrI, e_addS, e_iaddS, e_addL, e_addT, e_lenS, e_lst, e_strLit, String.reduceBEq, e_ixL0, e_ixL1, e_ixL2, e_ixL3, e_ixL4, e_ixL5, e_ixL6, e_ixL7, e_ixL8, e_ixT0, e_ixT1, e_ixT2, e_ixT3, e_ixT4, e_ixT5, e_tupleL, e_listT, e_tupleT, eqX_int, neX_int, eqX_S, neX_S, eqX_t0, neX_t0, e_catL, e_tup, e_inT, e_ninT, e_inL, e_ninL, e_slS, Int.reduceLT, Int.reduceLE, Int.reduceMul, Int.reduceAdd, Int.reduceSub, Int.reducePow, Int.reduceNeg, Int.reduceToNat, List.length_cons, List.length_nil, List.length_append, Nat.reduceAdd, Nat.reduceLeDiff, flD, List.all_cons, List.all_nil, Bool.and_true, Bool.true_and, Bool.and_self, decide_true, decide_false, or_true, true_or, and_true, true_and, eq_self])
def textB (d : D) : Bool := ofB d allSigns 0 60
def few (n : Nat) : Bool := decide (1 ≤ (n : Int)) && decide ((n : Int) ≤ 6)
def cellsB : D → Bool
  | .tup ds => few ds.length && ds.all textB
  | _ => false
def rowB (n : Nat) : D → Bool
  | .tup ds => ((ds.length : Int) == (n : Int)) && ds.all textB
  | _ => false
def firstLen : List D → Nat
  | .tup ds :: _ => ds.length
  | _ => 0
def tableB : D → Bool
  | .tup rows => few rows.length && ((rows.head?.map cellsB).getD false && rows.all (rowB (firstLen rows)))
  | _ => false
theorem few_of {n : Nat} (h : 1 ≤ n) (h' : n ≤ 6) : few n = true := by
  unfold few
  rw [decide_eq_true (by omega), decide_eq_true (by omega)]
  rfl
theorem textsOk.all {ds : List D} (h : textsOk ds) : ds.all textB = true := List.all_eq_true.mpr fun d hd => by
  obtain ⟨s, rfl, hs⟩ := h d hd
  exact hs.b
theorem textsOk.sh {ds : List D} (h : textsOk ds) (n : Nat) : ds.all (shL n) = true := List.all_eq_true.mpr fun d hd => by
  obtain ⟨s, rfl, hs⟩ := h d hd
  exact hs.sh n
theorem RowOk.sh {n : Nat} {d : D} (h : RowOk n d) (k : Nat) : shL (k + 1) d = true := by
  obtain ⟨ds, rfl, _, h⟩ := h
  exact h.sh k
theorem TableOk.sh {d : D} (h : TableOk d) (k : Nat) : shL (k + 2) d = true := by
  obtain ⟨rows, n, rfl, _, _, _, _, h⟩ := h
  exact List.all_eq_true.mpr fun r hr => (h r hr).sh k
theorem TableOk.b {d : D} (h : TableOk d) : tableB d = true := by
  obtain ⟨rows, n, rfl, h1, h2, h3, h4, h⟩ := h
  cases rows with
  | nil => exact absurd h1 (by decide)
  | cons r rows =>
    obtain ⟨ds, rfl, l, t⟩ := h r List.mem_cons_self
    have e1 : cellsB (.tup ds) = true := by
      show (few ds.length && ds.all textB) = true
      rw [few_of (by omega) (by omega), t.all]
      rfl
    have e2 : (D.tup ds :: rows).all (rowB ds.length) = true := List.all_eq_true.mpr fun r hr => by
      obtain ⟨es, rfl, l', t'⟩ := h r hr
      show (((es.length : Int) == (ds.length : Int)) && es.all textB) = true
      rw [t'.all, l, l', beq_self_eq_true]
      rfl
    show (few (D.tup ds :: rows).length && (cellsB (.tup ds) && (D.tup ds :: rows).all (rowB ds.length))) = true
    rw [few_of h1 h2, e1, e2]
    rfl
theorem th_good {n : Nat} {d : D} (h : Th n d) : good d = true := by
  rcases h with h | rfl
  · cases d with
    | str s => exact decide_eq_true (by have := shL_len h; omega)
    | dictT _ => cases n <;> cases h
    | obj _ _ => cases n <;> cases h
    | loc _ => cases n <;> cases h
    | adr _ => cases n <;> cases h
    | _ => rfl
  · rfl
theorem f_txt {n : Nat} {d : D} (h : Th n d) : F_is_text [d] = .ok (.bl (textB d)) := f_text (th_good h)
theorem row_tup {m : Nat} {ds : List D} (n : Nat) (h : ∀ d ∈ ds, Th m d) (hn : n ≤ 16777216) : F_is_row [.tup ds, .int (n : Int)] = .ok (.bl (rowB n (.tup ds))) := by
  show endS (S_is_row [some (.tup ds), some (.int (n : Int)), none]) = .ok (.bl (((ds.length : Int) == (n : Int)) && ds.all textB))
  unfold S_is_row
  walk_at "pd"
  by_cases hl : ((ds.length : Int) == (n : Int)) = true
  · rw [hl]
    have hl' : ds.length = n := by have := eq_of_beq hl; omega
    walk_at "pd"
    generalize hG : gLc _ _ _ _ _ _ = G
    have e := gLc_map hG (fun d => .bl (textB d)) (items := ds) (by walk_at "pd") (by omega) (fun d hd => by
      show gA _ _ [some (.tup ds), some (.int (n : Int)), some d] = _
      walk_at "pd"
      rw [f_txt (h d hd)])
    rw [e]
    walk_at "pd"
    rw [e_all]
    rfl
  · rw [show ((ds.length : Int) == (n : Int)) = false by simpa using hl]
    rfl
theorem row_other {m : Nat} {d : D} (n : Nat) (h : Th m d) (ht : ∀ ds, d ≠ .tup ds) : F_is_row [d, .int (n : Int)] = .ok (.bl false) := by
  rcases h with h | rfl
  · cases d with
    | tup ds => exact absurd rfl (ht ds)
    | dictT _ => cases m <;> cases h
    | obj _ _ => cases m <;> cases h
    | loc _ => cases m <;> cases h
    | adr _ => cases m <;> cases h
    | _ => rfl
  · rfl
theorem f_row {m : Nat} {d : D} (n : Nat) (h : shL (m + 1) d = true) (hn : n ≤ 16777216) : F_is_row [d, .int (n : Int)] = .ok (.bl (rowB n d)) := by
  by_cases ht : ∃ ds, d = .tup ds
  · obtain ⟨ds, rfl⟩ := ht
    exact row_tup n (fun x hx => .of (shL_tup h x hx)) hn
  · rw [row_other n (.of h) fun ds e => ht ⟨ds, e⟩]
    cases d <;> first | rfl | exact absurd ⟨_, rfl⟩ ht
theorem beq_nat (n : Nat) : ((n : Int) == (n : Int)) = true := by simp
theorem few_iff {n : Nat} (h : few n = true) : 1 ≤ n ∧ n ≤ 6 := by
  unfold few at h
  rw [Bool.and_eq_true, decide_eq_true_eq, decide_eq_true_eq] at h
  omega
theorem f_cells {m : Nat} {d : D} (h : Th (m + 1) d) : F_is_cells [d] = .ok (.bl (cellsB d)) := by
  by_cases ht : ∃ ds, d = .tup ds
  · obtain ⟨ds, rfl⟩ := ht
    have h' : shL (m + 1) (.tup ds) = true := h.resolve_right fun z => by cases z
    show endS (S_is_cells [some (.tup ds)]) = .ok (.bl (few ds.length && ds.all textB))
    unfold S_is_cells
    walk_at "pd"
    show (if few ds.length = true then endS (S.ofR (F_is_row [.tup ds, .int (ds.length : Int)]) _ _) else R.ok (.bl false)) = _
    by_cases hf : few ds.length = true
    · have := few_iff hf
      rw [if_pos hf, row_tup _ (fun x hx => Th.of (shL_tup h' x hx)) (by omega), hf]
      show R.ok (D.bl (((ds.length : Int) == (ds.length : Int)) && ds.all textB)) = _
      rw [beq_nat]
    · rw [if_neg hf, show few ds.length = false by simpa using hf]
      rfl
  · rcases h with h | rfl
    · cases d with
      | tup ds => exact absurd ⟨_, rfl⟩ ht
      | dictT _ => cases h
      | obj _ _ => cases h
      | loc _ => cases h
      | adr _ => cases h
      | _ => rfl
    · rfl
theorem f_chapter (c : D) : F_Kind_fits [.obj "Chapter" [], c] = F_is_text [c] := by
  show endS (S_Kind_fits [some (.obj "Chapter" []), some c]) = _
  unfold S_Kind_fits
  walk_at "pd"
  exact endS_of _ _
theorem f_para (c : D) : F_Kind_fits [.obj "Para" [], c] = F_is_text [c] := by
  show endS (S_Kind_fits [some (.obj "Para" []), some c]) = _
  unfold S_Kind_fits
  walk_at "pd"
  exact endS_of _ _
theorem cells_tup {d : D} (h : cellsB d = true) : ∃ ds, d = .tup ds ∧ few ds.length = true ∧ ds.all textB = true := by
  cases d with
  | tup ds =>
    have h' : (few ds.length && ds.all textB) = true := h
    rw [Bool.and_eq_true] at h'
    exact ⟨ds, rfl, h'.1, h'.2⟩
  | _ => cases h
theorem f_table {m : Nat} {o d : D} (h : Th (m + 2) d) : F_Table_fits [o, d] = .ok (.bl (tableB d)) := by
  by_cases ht : ∃ ds, d = .tup ds
  · obtain ⟨rows, rfl⟩ := ht
    have h' : shL (m + 2) (.tup rows) = true := h.resolve_right fun z => by cases z
    show endS (S_Table_fits [some o, some (.tup rows), none]) = .ok (.bl (few rows.length && ((rows.head?.map cellsB).getD false && rows.all (rowB (firstLen rows)))))
    unfold S_Table_fits
    walk_at "pd"
    show (if (!few rows.length) = true then _ else _) = _
    by_cases hf : few rows.length = true
    · have := few_iff hf
      rw [hf]
      cases rows with
      | nil => exact absurd this.1 (by decide)
      | cons r rows =>
        have hr : Th (m + 1) r := .of (shL_tup h' r List.mem_cons_self)
        walk_at "pd"
        rw [f_cells hr]
        walk_at "pd"
        show (if (!cellsB r) = true then _ else _) = R.ok (D.bl (cellsB r && _))
        by_cases hc : cellsB r = true
        · obtain ⟨ds, rfl, hd, _⟩ := cells_tup hc
          have hd' := few_iff hd
          rw [hc]
          walk_at "pd"
          generalize hG : gLc _ _ _ _ _ _ = G
          have e := gLc_map hG (fun x => .bl (rowB ds.length x)) (items := .tup ds :: rows) (by walk_at "pd") (by omega) (fun x hx => by
            show gA _ _ [some o, some (.tup (.tup ds :: rows)), some x] = _
            walk_at "pd"
            rw [f_row ds.length (shL_tup h' x hx) (by omega)])
          rw [e]
          walk_at "pd"
          rw [e_all]
          rfl
        · rw [show cellsB r = false by simpa using hc]
          rfl
    · rw [show few rows.length = false by simpa using hf]
      rfl
  · rcases h with h | rfl
    · cases d with
      | tup ds => exact absurd ⟨_, rfl⟩ ht
      | dictT _ => cases h
      | obj _ _ => cases h
      | loc _ => cases h
      | adr _ => cases h
      | _ => rfl
    · rfl

end Pd

set_option maxHeartbeats 4000000
namespace Pd
open PySem PySem.Spec PyProof.Rows L2
local macro_rules | `(tactic| walk_at "pd") => `(tactic| try simp -implicitDefEqProofs only [e_seq, e_thn, e_trt, e_trn, e_tex, e_if, e_pick, e_pickx, e_ret, e_retN, e_set, e_drop, e_for, e_ofR, e_ofRx, e_ofI, e_nil, e_asg, endS_rt, endS_rn, endS_nx, endS_ex, endN_rn, endN_ex, gC, g1, g2, g3, gA, aNil, aCons, gAnd, gOr, gNot, gB, gTru, bAnd, bOr, bNot, gIf, iA, iSeq, gSl, pNone, pSome, ok_bind, ex_bind, st_bind, gVar, List.getElem?_cons_zero, List.getElem?_cons_succ, List.set_cons_zero, List.set_cons_succ, if_true, if_false, Bool.not_true, Bool.not_false, Bool.false_eq_true, ↓reduceIte, e_asB, e_lt, e_gt, e_le, e_ge, e_ltS, e_gtS, e_eqI, e_eqS, e_eqB, e_neI, e_neS, e_neB, e_addI, e_iaddI, e_subI, e_negI, e_andI, e_orI, e_xorI, e_lenL, e_lenT, e_ord, e_intB, e_intI, e_inS, e_ninS, e_itL, e_itT, e_itS, e_zip, e_enum, e_slL, e_slT, e_asI, e_isN1, e_isN2, e_notN1, e_notN2, e_truB, e_truI, e_truL, e_isi_int_non, e_isi_int_bl, e_isi_int_int, e_isi_int_str, e_isi_int_list, e_isi_int_tup, e_isi_int_dict, e_isi_int_dictT, e_isi_bool_non, e_isi_bool_bl, e_isi_bool_int, e_isi_bool_str, e_isi_bool_list, e_isi_bool_tup, e_isi_bool_dict, e_isi_bool_dictT, e_isi_str_non, e_isi_str_bl, e_isi_str_int, e_isi_str_str, e_isi_str_list, e_isi_str_tup, e_isi_str_dict, e_isi_str_dictT, e_isi_list_non, e_isi_list_bl, e_isi_list_int, e_isi_list_str, e_isi_list_list, e_isi_list_tup, e_isi_list_dict, e_isi_list_dictT, e_isi_tuple_non, e_isi_tuple_bl, e_isi_tuple_int, e_isi_tuple_str, e_isi_tuple_list, e_isi_tuple_tup, e_isi_tuple_dict, e_isi_tuple_dictT, e_isi_dict_non, e_isi_dict_bl, e_isi_dict_int, e_isi_dict_str, e_isi_dict_list, e_isi_dict_tup, e_isi_dict_dict, e_isi_dict_dictT, e_iteAnd, e_iteOr, e_iteAndD, e_iteOrD, e_then_ite, e_endS_ite, e_endN_ite, e_ofR_ite, e_pick_ite, e_bind_ite, e_modI, e_fdivI, e_mul1, e_pow10, e_pow2, e_shl1, e_shrI, e_addS, e_iaddS, e_addL, e_addT, e_lenS, e_lst, e_strLit, String.reduceBEq, e_ixL0, e_ixL1, e_ixL2, e_ixL3, e_ixL4, e_ixL5, e_ixL6, e_ixL7, e_ixL8, e_ixT0, e_ixT1, e_ixT2, e_ixT3, e_ixT4, e_ixT5, e_tupleL, e_listT, e_tupleT, eqX_int, neX_int, eqX_S, neX_S, eqX_t0, neX_t0, e_catL, e_tup, e_inT, e_ninT, e_inL, e_ninL, e_slS, Int.reduceLT, Int.reduceLE, Int.reduceMul, Int.reduceAdd, Int.reduceSub, Int.reducePow, Int.reduceNeg, Int.reduceToNat, List.length_cons, List.length_nil, List.length_append, Nat.reduceAdd, Nat.reduceLeDiff, flD, List.all_cons, List.all_nil, Bool.and_true, Bool.true_and, Bool.and_self, decide_true, decide_false, or_true, true_or, and_true, true_and, eq_self])
local macro_rules | `(tactic| walk_at "pdh") => `(tactic| try simp -implicitDefEqProofs only [e_seq, e_thn, e_trt, e_trn, e_tex, e_if, e_pick, e_pickx, e_ret, e_retN, e_set, e_drop, e_for, e_ofR, e_ofRx, e_ofI, e_nil, e_asg, endS_rt, endS_rn, endS_nx, endS_ex, endN_rn, endN_ex, gC, g1, g2, g3, gA, aNil, aCons, gAnd, gOr, gNot, gB, gTru, bAnd, bOr, bNot, gIf, iA, iSeq, gSl, pNone, pSome, ok_bind, ex_bind, st_bind, gVar, List.getElem?_cons_zero, List.getElem?_cons_succ, List.set_cons_zero, List.set_cons_succ, if_true, if_false, Bool.not_true, Bool.not_false, Bool.false_eq_true, ↓reduceIte, e_asB, e_lt, e_gt, e_le, e_ge, e_ltS, e_gtS, e_eqI, e_eqS, e_eqB, e_neI, e_neS, e_neB, e_addI, e_iaddI, e_subI, e_negI, e_andI, e_orI, e_xorI, e_lenL, e_lenT, e_ord, e_intB, e_intI, e_inS, e_ninS, e_itL, e_itT, e_itS, e_zip, e_enum, e_slL, e_slT, e_asI, e_isN1, e_isN2, e_notN1, e_notN2, e_truB, e_truI, e_truL, e_isi_int_non, e_isi_int_bl, e_isi_int_int, e_isi_int_str, e_isi_int_list, e_isi_int_tup, e_isi_int_dict, e_isi_int_dictT, e_isi_bool_non, e_isi_bool_bl, e_isi_bool_int, e_isi_bool_str, e_isi_bool_list, e_isi_bool_tup, e_isi_bool_dict, e_isi_bool_dictT, e_isi_str_non, e_isi_str_bl, e_isi_str_int, e_isi_str_str, e_isi_str_list, e_isi_str_tup, e_isi_str_dict, e_isi_str_dictT, e_isi_list_non, e_isi_list_bl, e_isi_list_int, e_isi_list_str, e_isi_list_list, e_isi_list_tup, e_isi_list_dict, e_isi_list_dictT, e_isi_tuple_non, e_isi_tuple_bl, e_isi_tuple_int, e_isi_tuple_str, e_isi_tuple_list, e_isi_tuple_tup, e_isi_tuple_dict, e_isi_tuple_dictT, e_isi_dict_non, e_isi_dict_bl, e_isi_dict_int, e_isi_dict_str, e_isi_dict_list, e_isi_dict_tup, e_isi_dict_dict, e_isi_dict_dictT, e_iteAnd, e_iteOr, e_iteAndD, e_iteOrD, e_then_ite, e_endS_ite, e_endN_ite, e_ofR_ite, e_pick_ite, e_bind_ite, e_modI, e_fdivI, e_mul1, e_pow10, e_pow2, e_shl1, e_shrI, e_addS, e_iaddS, e_addL, e_addT, e_lenS, e_lst, e_strLit, String.reduceBEq, e_ixL0, e_ixL1, e_ixL2, e_ixL3, e_ixL4, e_ixL5, e_ixL6, e_ixL7, e_ixL8, e_ixT0, e_ixT1, e_ixT2, e_ixT3, e_ixT4, e_ixT5, e_tupleL, e_listT, e_tupleT, eqX_int, neX_int, eqX_S, neX_S, eqX_t0, neX_t0, e_catL, e_tup, e_inT, e_ninT, e_inL, e_ninL, e_slS, Int.reduceLT, Int.reduceLE, Int.reduceMul, Int.reduceAdd, Int.reduceSub, Int.reducePow, Int.reduceNeg, Int.reduceToNat, List.length_cons, List.length_nil, List.length_append, Nat.reduceAdd, Nat.reduceLeDiff, flD, List.all_cons, List.all_nil, Bool.and_true, Bool.true_and, Bool.and_self, decide_true, decide_false, or_true, true_or, and_true, true_and, eq_self, *])
local macro_rules | `(tactic| walk_at "pdu") => `(tactic| try simp -implicitDefEqProofs only [e_seq, e_forN, e_for0, e_nxn, e_nct, e_nbk, e_nrt, e_nrn, e_nex, e_next_ite, e_thn, e_trt, e_trn, e_tex, e_if, e_pick, e_pickx, e_ret, e_retN, e_set, e_drop, e_for, e_ofR, e_ofRx, e_ofI, e_nil, e_asg, endS_rt, endS_rn, endS_nx, endS_ex, endN_rn, endN_ex, gC, g1, g2, g3, gA, aNil, aCons, gAnd, gOr, gNot, gB, gTru, bAnd, bOr, bNot, gIf, iA, iSeq, gSl, pNone, pSome, ok_bind, ex_bind, st_bind, gVar, List.getElem?_cons_zero, List.getElem?_cons_succ, List.set_cons_zero, List.set_cons_succ, if_true, if_false, Bool.not_true, Bool.not_false, Bool.false_eq_true, ↓reduceIte, e_asB, e_lt, e_gt, e_le, e_ge, e_ltS, e_gtS, e_eqI, e_eqS, e_eqB, e_neI, e_neS, e_neB, e_addI, e_iaddI, e_subI, e_negI, e_andI, e_orI, e_xorI, e_lenL, e_lenT, e_ord, e_intB, e_intI, e_inS, e_ninS, e_itL, e_itT, e_itS, e_zip, e_enum, e_slL, e_slT, e_asI, e_isN1, e_isN2, e_notN1, e_notN2, e_truB, e_truI, e_truL, e_isi_int_non, e_isi_int_bl, e_isi_int_int, e_isi_int_str, e_isi_int_list, e_isi_int_tup, e_isi_int_dict, e_isi_int_dictT, e_isi_bool_non, e_isi_bool_bl, e_isi_bool_int, e_isi_bool_str, e_isi_bool_list, e_isi_bool_tup, e_isi_bool_dict, e_isi_bool_dictT, e_isi_str_non, e_isi_str_bl, e_isi_str_int, e_isi_str_str, e_isi_str_list, e_isi_str_tup, e_isi_str_dict, e_isi_str_dictT, e_isi_list_non, e_isi_list_bl, e_isi_list_int, e_isi_list_str, e_isi_list_list, e_isi_list_tup, e_isi_list_dict, e_isi_list_dictT, e_isi_tuple_non, e_isi_tuple_bl, e_isi_tuple_int, e_isi_tuple_str, e_isi_tuple_list, e_isi_tuple_tup, e_isi_tuple_dict, e_isi_tuple_dictT, e_isi_dict_non, e_isi_dict_bl, e_isi_dict_int, e_isi_dict_str, e_isi_dict_list, e_isi_dict_tup, e_isi_dict_dict, e_isi_dict_dictT, e_iteAnd, e_iteOr, e_iteAndD, e_iteOrD, e_then_ite, e_endS_ite, e_endN_ite, e_ofR_ite, e_pick_ite, e_bind_ite, e_modI, e_fdivI, e_mul1, e_pow10, e_pow2, e_shl1, e_shrI, e_addS, e_iaddS, e_addL, e_addT, e_lenS, e_lst, e_strLit, String.reduceBEq, e_ixL0, e_ixL1, e_ixL2, e_ixL3, e_ixL4, e_ixL5, e_ixL6, e_ixL7, e_ixL8, e_ixT0, e_ixT1, e_ixT2, e_ixT3, e_ixT4, e_ixT5, e_tupleL, e_listT, e_tupleT, eqX_int, neX_int, eqX_S, neX_S, eqX_t0, neX_t0, e_catL, e_tup, e_inT, e_ninT, e_inL, e_ninL, e_slS, Int.reduceLT, Int.reduceLE, Int.reduceMul, Int.reduceAdd, Int.reduceSub, Int.reducePow, Int.reduceNeg, Int.reduceToNat, List.length_cons, List.length_nil, List.length_append, Nat.reduceAdd, Nat.reduceLeDiff, flD, List.all_cons, List.all_nil, Bool.and_true, Bool.true_and, Bool.and_self, decide_true, decide_false, or_true, true_or, and_true, true_and, eq_self])
local macro_rules | `(tactic| walk_at "pdq") => `(tactic| try simp -implicitDefEqProofs only [e_seq, q_seq, q_tnx, q_tex, q_trt, q_then_ite, q_if, q_pick, q_pickx, q_pick_ite, q_nil, q_raise, cl_nil, cl_f, cl_t, cl_n, e_thn, e_trt, e_trn, e_tex, e_if, e_pick, e_pickx, e_ret, e_retN, e_set, e_drop, e_for, e_ofR, e_ofRx, e_ofI, e_nil, e_asg, endS_rt, endS_rn, endS_nx, endS_ex, endN_rn, endN_ex, gC, g1, g2, g3, gA, aNil, aCons, gAnd, gOr, gNot, gB, gTru, bAnd, bOr, bNot, gIf, iA, iSeq, gSl, pNone, pSome, ok_bind, ex_bind, st_bind, gVar, List.getElem?_cons_zero, List.getElem?_cons_succ, List.set_cons_zero, List.set_cons_succ, if_true, if_false, Bool.not_true, Bool.not_false, Bool.false_eq_true, ↓reduceIte, e_asB, e_lt, e_gt, e_le, e_ge, e_ltS, e_gtS, e_eqI, e_eqS, e_eqB, e_neI, e_neS, e_neB, e_addI, e_iaddI, e_subI, e_negI, e_andI, e_orI, e_xorI, e_lenL, e_lenT, e_ord, e_intB, e_intI, e_inS, e_ninS, e_itL, e_itT, e_itS, e_zip, e_enum, e_slL, e_slT, e_asI, e_isN1, e_isN2, e_notN1, e_notN2, e_truB, e_truI, e_truL, e_isi_int_non, e_isi_int_bl, e_isi_int_int, e_isi_int_str, e_isi_int_list, e_isi_int_tup, e_isi_int_dict, e_isi_int_dictT, e_isi_bool_non, e_isi_bool_bl, e_isi_bool_int, e_isi_bool_str, e_isi_bool_list, e_isi_bool_tup, e_isi_bool_dict, e_isi_bool_dictT, e_isi_str_non, e_isi_str_bl, e_isi_str_int, e_isi_str_str, e_isi_str_list, e_isi_str_tup, e_isi_str_dict, e_isi_str_dictT, e_isi_list_non, e_isi_list_bl, e_isi_list_int, e_isi_list_str, e_isi_list_list, e_isi_list_tup, e_isi_list_dict, e_isi_list_dictT, e_isi_tuple_non, e_isi_tuple_bl, e_isi_tuple_int, e_isi_tuple_str, e_isi_tuple_list, e_isi_tuple_tup, e_isi_tuple_dict, e_isi_tuple_dictT, e_isi_dict_non, e_isi_dict_bl, e_isi_dict_int, e_isi_dict_str, e_isi_dict_list, e_isi_dict_tup, e_isi_dict_dict, e_isi_dict_dictT, e_iteAnd, e_iteOr, e_iteAndD, e_iteOrD, e_then_ite, e_endS_ite, e_endN_ite, e_ofR_ite, e_pick_ite, e_bind_ite, e_modI, e_fdivI, e_mul1, e_pow10, e_pow2, e_shl1, e_shrI, e_addS, e_iaddS, e_addL, e_addT, e_lenS, e_lst, e_strLit, String.reduceBEq, e_ixL0, e_ixL1, e_ixL2, e_ixL3, e_ixL4, e_ixL5, e_ixL6, e_ixL7, e_ixL8, e_ixT0, e_ixT1, e_ixT2, e_ixT3, e_ixT4, e_ixT5, e_tupleL, e_listT, e_tupleT, eqX_int, neX_int, eqX_S, neX_S, eqX_t0, neX_t0, e_catL, e_tup, e_inT, e_ninT, e_inL, e_ninL, e_slS, Int.reduceLT, Int.reduceLE, Int.reduceMul, Int.reduceAdd, Int.reduceSub, Int.reducePow, Int.reduceNeg, Int.reduceToNat, List.length_cons, List.length_nil, List.length_append, Nat.reduceAdd, Nat.reduceLeDiff, flD, List.all_cons, List.all_nil, Bool.and_true, Bool.true_and, Bool.and_self, decide_true, decide_false, or_true, true_or, and_true, true_and, eq_self])
local macro_rules | `(tactic| walk_at "pdr") => `(tactic| try simp -implicitDefEqProofs only [e_seq, q_seq, q_tnx, q_tex, q_trt, q_then_ite, q_nil, q_raise, cl_nil, cl_f, cl_t, cl_n, s_ok, s_ex, e_sqRet, e_sqSet, e_sqExpr, e_sqAsg, asg_some, e_tqName, e_tqTup2, e_qP, e_upok, e_upex, e_qVar, e_varok, e_qNew, e_newok, rq_ok, rq_ex, e_aqN, e_aqC, e_qPA, e_qCall, e_qTup, e_tupP2, e_qSn, e_qSnT, e_tok, e_qT, e_up_ite, pk_ite, s_ite, tst_ite, e_end_ite, q_ifS, pk_ok, sn_nil, sn_s, sn_n, fu_f, e_qIx, e_endrt, e_endnx, List.map_cons, List.map_nil, Bool.or_false, Bool.or_true, Bool.true_or, Bool.false_or, e_thn, e_trt, e_trn, e_tex, e_if, e_pick, e_pickx, e_ret, e_retN, e_set, e_drop, e_for, e_ofR, e_ofRx, e_ofI, e_nil, e_asg, endS_rt, endS_rn, endS_nx, endS_ex, endN_rn, endN_ex, gC, g1, g2, g3, gA, aNil, aCons, gAnd, gOr, gNot, gB, gTru, bAnd, bOr, bNot, gIf, iA, iSeq, gSl, pNone, pSome, ok_bind, ex_bind, st_bind, gVar, List.getElem?_cons_zero, List.getElem?_cons_succ, List.set_cons_zero, List.set_cons_succ, if_true, if_false, Bool.not_true, Bool.not_false, Bool.false_eq_true, ↓reduceIte, e_asB, e_lt, e_gt, e_le, e_ge, e_ltS, e_gtS, e_eqI, e_eqS, e_eqB, e_neI, e_neS, e_neB, e_addI, e_iaddI, e_subI, e_negI, e_andI, e_orI, e_xorI, e_lenL, e_lenT, e_ord, e_intB, e_intI, e_inS, e_ninS, e_itL, e_itT, e_itS, e_zip, e_enum, e_slL, e_slT, e_asI, e_isN1, e_isN2, e_notN1, e_notN2, e_truB, e_truI, e_truL, e_isi_int_non, e_isi_int_bl, e_isi_int_int, e_isi_int_str, e_isi_int_list, e_isi_int_tup, e_isi_int_dict, e_isi_int_dictT, e_isi_bool_non, e_isi_bool_bl, e_isi_bool_int, e_isi_bool_str, e_isi_bool_list, e_isi_bool_tup, e_isi_bool_dict, e_isi_bool_dictT, e_isi_str_non, e_isi_str_bl, e_isi_str_int, e_isi_str_str, e_isi_str_list, e_isi_str_tup, e_isi_str_dict, e_isi_str_dictT, e_isi_list_non, e_isi_list_bl, e_isi_list_int, e_isi_list_str, e_isi_list_list, e_isi_list_tup, e_isi_list_dict, e_isi_list_dictT, e_isi_tuple_non, e_isi_tuple_bl, e_isi_tuple_int, e_isi_tuple_str, e_isi_tuple_list, e_isi_tuple_tup, e_isi_tuple_dict, e_isi_tuple_dictT, e_isi_dict_non, e_isi_dict_bl, e_isi_dict_int, e_isi_dict_str, e_isi_dict_list, e_isi_dict_tup, e_isi_dict_dict, e_isi_dict_dictT, e_iteAnd, e_iteOr, e_iteAndD, e_iteOrD, e_then_ite, e_endS_ite, e_endN_ite, e_ofR_ite, e_pick_ite, e_bind_ite, e_modI, e_fdivI, e_mul1, e_pow10, e_pow2, e_shl1, e_shrI, e_addS, e_iaddS, e_addL, e_addT, e_lenS, e_lst, e_strLit, String.reduceBEq, e_ixL0, e_ixL1, e_ixL2, e_ixL3, e_ixL4, e_ixL5, e_ixL6, e_ixL7, e_ixL8, e_ixT0, e_ixT1, e_ixT2, e_ixT3, e_ixT4, e_ixT5, e_tupleL, e_listT, e_tupleT, eqX_int, neX_int, eqX_S, neX_S, eqX_t0, neX_t0, e_catL, e_tup, e_inT, e_ninT, e_inL, e_ninL, e_slS, Int.reduceLT, Int.reduceLE, Int.reduceMul, Int.reduceAdd, Int.reduceSub, Int.reducePow, Int.reduceNeg, Int.reduceToNat, List.length_cons, List.length_nil, List.length_append, Nat.reduceAdd, Nat.reduceLeDiff, flD, List.all_cons, List.all_nil, Bool.and_true, Bool.true_and, Bool.and_self, decide_true, decide_false, or_true, true_or, and_true, true_and, eq_self])
local macro_rules | `(tactic| walk_at "pdv") => `(tactic| try simp -implicitDefEqProofs only [e_seq, Int.reduceBEq, Int.cast_ofNat_Int, e_thn, e_trt, e_trn, e_tex, e_if, e_pick, e_pickx, e_ret, e_retN, e_set, e_drop, e_for, e_ofR, e_ofRx, e_ofI, e_nil, e_asg, endS_rt, endS_rn, endS_nx, endS_ex, endN_rn, endN_ex, gC, g1, g2, g3, gA, aNil, aCons, gAnd, gOr, gNot, gB, gTru, bAnd, bOr, bNot, gIf, iA, iSeq, gSl, pNone, pSome, ok_bind, ex_bind, st_bind, gVar, List.getElem?_cons_zero, List.getElem?_cons_succ, List.set_cons_zero, List.set_cons_succ, if_true, if_false, Bool.not_true, Bool.not_false, Bool.false_eq_true, ↓reduceIte, e_asB, e_lt, e_gt, e_le, e_ge, e_ltS, e_gtS, e_eqI, e_eqS, e_eqB, e_neI, e_neS, e_neB, e_addI, e_iaddI, e_subI, e_negI, e_andI, e_orI, e_xorI, e_lenL, e_lenT, e_ord, e_intB, e_intI, e_inS, e_ninS, e_itL, e_itT, e_itS, e_zip, e_enum, e_slL, e_slT, e_asI, e_isN1, e_isN2, e_notN1, e_notN2, e_truB, e_truI, e_truL, e_isi_int_non, e_isi_int_bl, e_isi_int_int, e_isi_int_str, e_isi_int_list, e_isi_int_tup, e_isi_int_dict, e_isi_int_dictT, e_isi_bool_non, e_isi_bool_bl, e_isi_bool_int, e_isi_bool_str, e_isi_bool_list, e_isi_bool_tup, e_isi_bool_dict, e_isi_bool_dictT, e_isi_str_non, e_isi_str_bl, e_isi_str_int, e_isi_str_str, e_isi_str_list, e_isi_str_tup, e_isi_str_dict, e_isi_str_dictT, e_isi_list_non, e_isi_list_bl, e_isi_list_int, e_isi_list_str, e_isi_list_list, e_isi_list_tup, e_isi_list_dict, e_isi_list_dictT, e_isi_tuple_non, e_isi_tuple_bl, e_isi_tuple_int, e_isi_tuple_str, e_isi_tuple_list, e_isi_tuple_tup, e_isi_tuple_dict, e_isi_tuple_dictT, e_isi_dict_non, e_isi_dict_bl, e_isi_dict_int, e_isi_dict_str, e_isi_dict_list, e_isi_dict_tup, e_isi_dict_dict, e_isi_dict_dictT, e_iteAnd, e_iteOr, e_iteAndD, e_iteOrD, e_then_ite, e_endS_ite, e_endN_ite, e_ofR_ite, e_pick_ite, e_bind_ite, e_modI, e_fdivI, e_mul1, e_pow10, e_pow2, e_shl1, e_shrI, e_addS, e_iaddS, e_addL, e_addT, e_lenS, e_lst, e_strLit, String.reduceBEq, e_ixL0, e_ixL1, e_ixL2, e_ixL3, e_ixL4, e_ixL5, e_ixL6, e_ixL7, e_ixL8, e_ixT0, e_ixT1, e_ixT2, e_ixT3, e_ixT4, e_ixT5, e_tupleL, e_listT, e_tupleT, eqX_int, neX_int, eqX_S, neX_S, eqX_t0, neX_t0, e_catL, e_tup, e_inT, e_ninT, e_inL, e_ninL, e_slS, Int.reduceLT, Int.reduceLE, Int.reduceMul, Int.reduceAdd, Int.reduceSub, Int.reducePow, Int.reduceNeg, Int.reduceToNat, List.length_cons, List.length_nil, List.length_append, Nat.reduceAdd, Nat.reduceLeDiff, flD, List.all_cons, List.all_nil, Bool.and_true, Bool.true_and, Bool.and_self, decide_true, decide_false, or_true, true_or, and_true, true_and, eq_self])
/-! ### contents -/
def ContOk (t : Bool) (d : D) : Prop := match t with
  | true => TableOk d
  | false => ∃ s, d = .str s ∧ TextOk s
inductive KindOf : Str → Bool → Prop
  | chapter : KindOf "chapter" false
  | para : KindOf "para" false
  | table : KindOf "table" true
theorem content_at {k : Str} {t : Bool} (h : KindOf k t) (c : Int) : ∃ d, F__law_content [.str k, .int c] = .ok d ∧ ContOk t d := by
  show ∃ d, endS (S__law_content [some (.str k), some (.int c)]) = .ok d ∧ _
  unfold S__law_content
  obtain ⟨s, es, hs⟩ := text_at c
  obtain ⟨d, et, ht⟩ := table_at c
  walk_at "pd"
  rw [es, et]
  cases h with
  | chapter => walk_at "pd"; exact ⟨_, rfl, s, rfl, hs⟩
  | para => walk_at "pd"; exact ⟨_, rfl, s, rfl, hs⟩
  | table => walk_at "pd"; exact ⟨_, rfl, ht⟩
theorem ix_ints {ys : List Nat} {n i : Nat} (h : ys.length = n) (hi : i < n) : ∃ x : Nat, ixD (.list (intsD ys)) (.int (i : Int)) = .ok (.int (x : Int)) := by
  obtain ⟨d, e, m⟩ := ix_any (ds := intsD ys) (i := (i : Int)) (by omega) (by rw [intsD_len]; omega)
  obtain ⟨x, _, rfl⟩ := List.mem_map.mp m
  exact ⟨x, e⟩
theorem e_str01 (i : Int) (h : i = 0 ∨ i = 1) : ∃ z : Str, strD [.int i] = .ok (.str z) ∧ z.length = 1 ∧ Sub allSigns z := by
  rcases h with rfl | rfl
  · exact ⟨"0", rfl, by decide +kernel, by
      have : ∀ c ∈ cps "0", c ∈ cps allSigns := by decide +kernel
      exact this⟩
  · exact ⟨"1", rfl, by decide +kernel, by
      have : ∀ c ∈ cps "1", c ∈ cps allSigns := by decide +kernel
      exact this⟩
theorem sub_lit {z : Str} (h : (cps z).all (fun c => decide (c ∈ cps allSigns)) = true) : Sub allSigns z := fun c hc => of_decide_eq_true (List.all_eq_true.mp h c hc)
theorem cc_inner {rows ys : List D} {zs : List Nat} {acc row cs : List D} {j k : Nat} {s : Str} (c : D) (o : Option D) (hz : zs.length = 38) (hj : j < rows.length) (hj5 : j ≤ 5) (hrow : rows[j] = .tup cs) (hk : k < cs.length) (hk5 : k ≤ 5) (hs : cs[k] = .str s) (ht : TextOk s) (hl : row.length ≤ 10) :
    ∃ s' x, B__law_cells_changed_0 [some (.tup rows), some c, some (.list (intsD zs)), some (.list acc), some (.int (j : Int)), some (.list row), some (.int (k : Int)), o] =
      .nx [some (.tup rows), some c, some (.list (intsD zs)), some (.list acc), some (.int (j : Int)), some (.list (row ++ [.str s'])), some (.int (k : Int)), some x] ∧ TextOk s' := by
  obtain ⟨x, ex⟩ := ix_ints (i := 2 + 6 * j + k) hz (by omega)
  have ex' : ixD (.list (intsD zs)) (.int (2 + 6 * (j : Int) + (k : Int))) = .ok (.int (x : Int)) := by
    rw [← ex]
    congr 2
  have e1 : ixD (.tup rows) (.int (j : Int)) = .ok (.tup cs) := (ixT_nat hj).trans (by rw [hrow])
  have e2 : ixD (.tup cs) (.int (k : Int)) = .ok (.str s) := (ixT_nat hk).trans (by rw [hs])
  obtain ⟨z, ez, lz, sz⟩ := e_str01 ((x : Int) / 4 % 2) (by omega)
  have l1 := ht.1
  have lc := len_cut_pre s 59
  unfold B__law_cells_changed_0
  walk_at "pd"
  rw [ex']
  walk_at "pd"
  rw [e_append row rfl]
  walk_at "pd"
  rw [e1]
  walk_at "pd"
  rw [e2]
  walk_at "pd"
  rw [ez]
  walk_at "pd"
  rw [e_addS "x" z (by rw [lz, show (Str.ofString "x").length = 1 by decide +kernel]; omega)]
  walk_at "pd"
  rw [show (59 : Int) = ((59 : Nat) : Int) from rfl, e_slS s _ _ (by omega)]
  walk_at "pd"
  rw [e_addS _ "y" (by rw [show (Str.ofString "y").length = 1 by decide +kernel]; omega)]
  walk_at "pd"
  obtain ⟨d, ed, md⟩ := ix_any (ds := [.str s, .str s, .str (Str.ofString "x" ++ z), .str (cutS s none (some ((59 : Nat) : Int)) ++ Str.ofString "y")]) (i := (x : Int) % 4) (by omega) (by show _ < ((4 : Nat) : Int); omega)
  rw [ed]
  walk_at "pd"
  rw [if_pos (by rw [sizeLine_eq]; omega)]
  simp only [List.mem_cons, List.not_mem_nil, or_false] at md
  rcases md with rfl | rfl | rfl | rfl
  · exact ⟨s, _, rfl, ht⟩
  · exact ⟨s, _, rfl, ht⟩
  · refine ⟨_, _, rfl, ?_, (sub_lit (by decide +kernel)).app sz⟩
    rw [len_app, lz, show (Str.ofString "x").length = 1 by decide +kernel]
    omega
  · refine ⟨_, _, rfl, ?_, (ht.2.cut _ _).app (sub_lit (by decide +kernel))⟩
    rw [len_app, show (Str.ofString "y").length = 1 by decide +kernel]
    omega
theorem textsOk.snoc {ds : List D} {s : Str} (h : textsOk ds) (hs : TextOk s) : textsOk (ds ++ [.str s]) := fun d hd => by
  rcases List.mem_append.mp hd with q | q
  · exact h d q
  · simp only [List.mem_cons, List.not_mem_nil, or_false] at q
    exact ⟨s, q, hs⟩
theorem changed_at {b : D} (h : TableOk b) (c : Int) : ∃ d, F__law_cells_changed [b, .int c] = .ok d ∧ TableOk d := by
  obtain ⟨rows, n, rfl, h1, h2, h3, h4, hr⟩ := h
  show ∃ d, endS (S__law_cells_changed [some (.tup rows), some (.int c), none, none, none, none, none, none]) = .ok d ∧ TableOk d
  unfold S__law_cells_changed
  obtain ⟨zs, ez, lz, _⟩ := stream_at c 38 (by decide)
  walk_at "pd"
  rw [show F__law_stream [.int c, .int 38] = .ok (.list (intsD zs)) from ez]
  walk_at "pd"
  rw [e_rng1 (rows.length : Int) (small_ok (by omega) (by omega)), Int.toNat_natCast]
  walk_at "pd"
  generalize hL : forL _ _ _ _ = r
  obtain ⟨ρ', rfl, acc, o1, o2, o3, o4, rfl, hl, hq⟩ := forL_out hL (fun j ρ => ∃ acc o1 o2 o3 o4, ρ = [some (.tup rows), some (.int c), some (.list (intsD zs)), some (.list acc), o1, o2, o3, o4] ∧ acc.length = j ∧ ∀ r ∈ acc, RowOk n r) ⟨[], none, none, none, none, rfl, rfl, fun r h => nomatch h⟩ (by
    rintro j d ρ hd ⟨acc, o1, o2, o3, o4, rfl, hl, hq⟩
    have hj : j < (rngL 0 rows.length).length := (List.getElem?_eq_some_iff.mp hd).1
    rw [rng_len] at hj
    obtain ⟨k, hk, rfl⟩ := mem_rng (List.mem_of_getElem? hd)
    refine ⟨_, rfl, ?_⟩
    show ∃ ρ2, B__law_cells_changed_1 [some (.tup rows), some (.int c), some (.list (intsD zs)), some (.list acc), some (.int (0 + (k : Int))), o2, o3, o4] = .nx ρ2 ∧ _
    rw [Int.zero_add]
    unfold B__law_cells_changed_1
    have e0 : ixD (.tup rows) (.int 0) = .ok rows[0] := ixT_nat (k := 0) (by omega)
    obtain ⟨cs0, er0, lr0, _⟩ := hr rows[0] (List.getElem_mem _)
    obtain ⟨cs, er, lr, tr⟩ := hr rows[k] (List.getElem_mem _)
    walk_at "pd"
    rw [e0, er0]
    walk_at "pd"
    rw [e_rng1 (cs0.length : Int) (small_ok (by omega) (by omega)), Int.toNat_natCast]
    walk_at "pd"
    generalize hM : forL _ _ _ _ = q
    obtain ⟨ρ', rfl, row, p1, p2, rfl, lrow, trow⟩ := forL_out hM (fun i ρ => ∃ row p1 p2, ρ = [some (.tup rows), some (.int c), some (.list (intsD zs)), some (.list acc), some (.int (k : Int)), some (.list row), p1, p2] ∧ row.length = i ∧ textsOk row) ⟨[], o3, o4, rfl, rfl, fun r h => nomatch h⟩ (by
      rintro i d ρ hd ⟨row, p1, p2, rfl, lrow, trow⟩
      have hi : i < (rngL 0 cs0.length).length := (List.getElem?_eq_some_iff.mp hd).1
      rw [rng_len] at hi
      obtain ⟨m, hm, rfl⟩ := mem_rng (List.mem_of_getElem? hd)
      refine ⟨_, rfl, ?_⟩
      show ∃ ρ2, B__law_cells_changed_0 [some (.tup rows), some (.int c), some (.list (intsD zs)), some (.list acc), some (.int (k : Int)), some (.list row), some (.int (0 + (m : Int))), p2] = .nx ρ2 ∧ _
      rw [Int.zero_add]
      have hmc : m < cs.length := by omega
      obtain ⟨s, es, ts⟩ := tr cs[m] (List.getElem_mem _)
      obtain ⟨s', x, e, ts'⟩ := cc_inner (ys := []) (acc := acc) (row := row) (.int c) p2 lz hk (by omega) er hmc (by omega) es ts (by omega)
      exact ⟨_, e, _, _, _, rfl, by rw [List.length_append, lrow]; rfl, trow.snoc ts'⟩)
    rw [rng_len] at lrow
    walk_at "pd"
    rw [e_append acc rfl]
    walk_at "pd"
    rw [if_pos (by rw [sizeLine_eq]; omega)]
    refine ⟨_, rfl, acc ++ [.tup row], _, _, _, _, rfl, by rw [List.length_append, hl]; rfl, fun r hr' => ?_⟩
    rcases List.mem_append.mp hr' with z | z
    · exact hq r z
    · simp only [List.mem_cons, List.not_mem_nil, or_false] at z
      exact ⟨row, z, by omega, trow⟩)
  walk_at "pd"
  rw [rng_len] at hl
  exact ⟨_, rfl, acc, n, rfl, by omega, by omega, h3, h4, hq⟩
theorem made_at {k : Str} {t : Bool} (hk : KindOf k t) {b : D} (h : ContOk t b) (c : Int) : ∃ d, F__law_made [.str k, b, .int c] = .ok d ∧ ContOk t d := by
  show ∃ d, endS (S__law_made [some (.str k), some b, some (.int c), none]) = .ok d ∧ ContOk t d
  unfold S__law_made
  obtain ⟨x, ex, hx⟩ := content_at hk (c / 6)
  walk_at "pd"
  by_cases q0 : (c % 6 == 0) = true
  · rw [if_pos q0]
    exact ⟨_, rfl, h⟩
  rw [if_neg q0]
  rw [ex]
  cases t with
  | false =>
    obtain ⟨s, rfl, hs⟩ := h
    have hk' : (k == Str.ofString "table") = false := by cases hk <;> decide +kernel
    rw [hk']
    walk_at "pd"
    have l1 := hs.1
    have lc := len_cut_pre s 59
    rw [show (59 : Int) = ((59 : Nat) : Int) from rfl, e_slS s _ _ (by omega)]
    obtain ⟨d, ed, md⟩ := ix_any (ds := [.str "x", .str "y"]) (i := c / 6 % 2) (by omega) (by show _ < ((2 : Nat) : Int); omega)
    rw [ed]
    obtain ⟨z, rfl, lz, sz⟩ : ∃ z : Str, d = .str z ∧ z.length = 1 ∧ Sub allSigns z := by
      simp only [List.mem_cons, List.not_mem_nil, or_false] at md
      rcases md with rfl | rfl
      · exact ⟨_, rfl, by decide +kernel, sub_lit (by decide +kernel)⟩
      · exact ⟨_, rfl, by decide +kernel, sub_lit (by decide +kernel)⟩
    walk_at "pd"
    rw [e_addS _ z (by omega)]
    walk_at "pd"
    repeat' split
    · exact ⟨_, rfl, hx⟩
    · exact ⟨_, rfl, _, rfl, by rw [len_app]; omega, (hs.2.cut _ _).app sz⟩
  | true =>
    have hk' : (k == Str.ofString "table") = true := by cases hk; decide +kernel
    rw [hk']
    walk_at "pd"
    obtain ⟨y, ey, hy⟩ := changed_at h (c / 6)
    rw [ey]
    obtain ⟨rows, n, rfl, h1, h2, h3, h4, hr⟩ := h
    walk_at "pd"
    have e0 : ixD (.tup rows) (.int 0) = .ok rows[0] := ixT_nat (k := 0) (by omega)
    rw [e0]
    walk_at "pd"
    rw [e_addT rows [rows[0]] (by simp only [List.length_cons, List.length_nil]; omega)]
    walk_at "pd"
    simp only [ey, e_ofR, endS_rt]
    have A : (1 : Int) < (rows.length : Int) → ContOk true (.tup (cutD rows (some 1) none)) := fun l1 => by
      rw [show (1 : Int) = ((1 : Nat) : Int) from rfl, cutD_suf]
      exact ⟨_, n, rfl, by rw [List.length_drop]; omega, by rw [List.length_drop]; omega, h3, h4, fun r hr' => hr r (List.mem_of_mem_drop hr')⟩
    have B : (rows.length : Int) < 6 → ContOk true (.tup (rows ++ [rows[0]])) := fun l1 => by
      refine ⟨_, n, rfl, ?_, ?_, h3, h4, fun r hr' => ?_⟩
      · simp only [List.length_append, List.length_cons, List.length_nil]; omega
      · simp only [List.length_append, List.length_cons, List.length_nil]; omega
      · rcases List.mem_append.mp hr' with z | z
        · exact hr r z
        · simp only [List.mem_cons, List.not_mem_nil, or_false] at z
          rw [z]
          exact hr _ (List.getElem_mem _)
    repeat' split
    all_goals first
      | exact ⟨_, rfl, hx⟩
      | exact ⟨_, rfl, hy⟩
      | exact ⟨_, rfl, A (of_decide_eq_true (by assumption))⟩
      | exact ⟨_, rfl, B (of_decide_eq_true (by assumption))⟩
      | exact ⟨_, rfl, B (of_decide_eq_true (Bool.and_eq_true_iff.mp (by assumption)).2)⟩

end Pd

set_option maxHeartbeats 4000000
namespace Pd
open PySem PySem.Spec PyProof.Rows L2
local macro_rules | `(tactic| walk_at "pd") => `(tactic| try simp -implicitDefEqProofs only [e_seq, e_thn, e_trt, e_trn, e_tex, e_if, e_pick, e_pickx, e_ret, e_retN, e_set, e_drop, e_for, e_ofR, e_ofRx, e_ofI, e_nil, e_asg, endS_rt, endS_rn, endS_nx, endS_ex, endN_rn, endN_ex, gC, g1, g2, g3, gA, aNil, aCons, gAnd, gOr, gNot, gB, gTru, bAnd, bOr, bNot, gIf, iA, iSeq, gSl, pNone, pSome, ok_bind, ex_bind, st_bind, gVar, List.getElem?_cons_zero, List.getElem?_cons_succ, List.set_cons_zero, List.set_cons_succ, if_true, if_false, Bool.not_true, Bool.not_false, Bool.false_eq_true, ↓reduceIte, e_asB, e_lt, e_gt, e_le, e_ge, e_ltS, e_gtS, e_eqI, e_eqS, e_eqB, e_neI, e_neS, e_neB, e_addI, e_iaddI, e_subI, e_negI, e_andI, e_orI, e_xorI, e_lenL, e_lenT, e_ord, e_intB, e_intI, e_inS, e_ninS, e_itL, e_itT, e_itS, e_zip, e_enum, e_slL, e_slT, e_asI, e_isN1, e_isN2, e_notN1, e_notN2, e_truB, e_truI, e_truL, e_isi_int_non, e_isi_int_bl, e_isi_int_int, e_isi_int_str, e_isi_int_list, e_isi_int_tup, e_isi_int_dict, e_isi_int_dictT, e_isi_bool_non, e_isi_bool_bl, e_isi_bool_int, e_isi_bool_str, e_isi_bool_list, e_isi_bool_tup, e_isi_bool_dict, e_isi_bool_dictT, e_isi_str_non, e_isi_str_bl, e_isi_str_int, e_isi_str_str, e_isi_str_list, e_isi_str_tup, e_isi_str_dict, e_isi_str_dictT, e_isi_list_non, e_isi_list_bl, e_isi_list_int, e_isi_list_str, e_isi_list_list, e_isi_list_tup, e_isi_list_dict, e_isi_list_dictT, e_isi_tuple_non, e_isi_tuple_bl, e_isi_tuple_int, e_isi_tuple_str, e_isi_tuple_list, e_isi_tuple_tup, e_isi_tuple_dict, e_isi_tuple_dictT, e_isi_dict_non, e_isi_dict_bl, e_isi_dict_int, e_isi_dict_str, e_isi_dict_list, e_isi_dict_tup, e_isi_dict_dict, e_isi_dict_dictT, e_iteAnd, e_iteOr, e_iteAndD, e_iteOrD, e_then_ite, e_endS_ite, e_endN_ite, e_ofR_ite, e_pick_ite, e_bind_ite, e_modI, e_fdivI, e_mul1, e_pow10, e_pow2, e_shl1, e_shrI, e_addS, e_iaddS, e_addL, e_addT, e_lenS, e_lst, e_strLit, String.reduceBEq, e_ixL0, e_ixL1, e_ixL2, e_ixL3, e_ixL4, e_ixL5, e_ixL6, e_ixL7, e_ixL8, e_ixT0, e_ixT1, e_ixT2, e_ixT3, e_ixT4, e_ixT5, e_tupleL, e_listT, e_tupleT, eqX_int, neX_int, eqX_S, neX_S, eqX_t0, neX_t0, e_catL, e_tup, e_inT, e_ninT, e_inL, e_ninL, e_slS, Int.reduceLT, Int.reduceLE, Int.reduceMul, Int.reduceAdd, Int.reduceSub, Int.reducePow, Int.reduceNeg, Int.reduceToNat, List.length_cons, List.length_nil, List.length_append, Nat.reduceAdd, Nat.reduceLeDiff, flD, List.all_cons, List.all_nil, Bool.and_true, Bool.true_and, Bool.and_self, decide_true, decide_false, or_true, true_or, and_true, true_and, eq_self])
local macro_rules | `(tactic| walk_at "pdh") => `(tactic| try simp -implicitDefEqProofs only [e_seq, e_thn, e_trt, e_trn, e_tex, e_if, e_pick, e_pickx, e_ret, e_retN, e_set, e_drop, e_for, e_ofR, e_ofRx, e_ofI, e_nil, e_asg, endS_rt, endS_rn, endS_nx, endS_ex, endN_rn, endN_ex, gC, g1, g2, g3, gA, aNil, aCons, gAnd, gOr, gNot, gB, gTru, bAnd, bOr, bNot, gIf, iA, iSeq, gSl, pNone, pSome, ok_bind, ex_bind, st_bind, gVar, List.getElem?_cons_zero, List.getElem?_cons_succ, List.set_cons_zero, List.set_cons_succ, if_true, if_false, Bool.not_true, Bool.not_false, Bool.false_eq_true, ↓reduceIte, e_asB, e_lt, e_gt, e_le, e_ge, e_ltS, e_gtS, e_eqI, e_eqS, e_eqB, e_neI, e_neS, e_neB, e_addI, e_iaddI, e_subI, e_negI, e_andI, e_orI, e_xorI, e_lenL, e_lenT, e_ord, e_intB, e_intI, e_inS, e_ninS, e_itL, e_itT, e_itS, e_zip, e_enum, e_slL, e_slT, e_asI, e_isN1, e_isN2, e_notN1, e_notN2, e_truB, e_truI, e_truL, e_isi_int_non, e_isi_int_bl, e_isi_int_int, e_isi_int_str, e_isi_int_list, e_isi_int_tup, e_isi_int_dict, e_isi_int_dictT, e_isi_bool_non, e_isi_bool_bl, e_isi_bool_int, e_isi_bool_str, e_isi_bool_list, e_isi_bool_tup, e_isi_bool_dict, e_isi_bool_dictT, e_isi_str_non, e_isi_str_bl, e_isi_str_int, e_isi_str_str, e_isi_str_list, e_isi_str_tup, e_isi_str_dict, e_isi_str_dictT, e_isi_list_non, e_isi_list_bl, e_isi_list_int, e_isi_list_str, e_isi_list_list, e_isi_list_tup, e_isi_list_dict, e_isi_list_dictT, e_isi_tuple_non, e_isi_tuple_bl, e_isi_tuple_int, e_isi_tuple_str, e_isi_tuple_list, e_isi_tuple_tup, e_isi_tuple_dict, e_isi_tuple_dictT, e_isi_dict_non, e_isi_dict_bl, e_isi_dict_int, e_isi_dict_str, e_isi_dict_list, e_isi_dict_tup, e_isi_dict_dict, e_isi_dict_dictT, e_iteAnd, e_iteOr, e_iteAndD, e_iteOrD, e_then_ite, e_endS_ite, e_endN_ite, e_ofR_ite, e_pick_ite, e_bind_ite, e_modI, e_fdivI, e_mul1, e_pow10, e_pow2, e_shl1, e_shrI, e_addS, e_iaddS, e_addL, e_addT, e_lenS, e_lst, e_strLit, String.reduceBEq, e_ixL0, e_ixL1, e_ixL2, e_ixL3, e_ixL4, e_ixL5, e_ixL6, e_ixL7, e_ixL8, e_ixT0, e_ixT1, e_ixT2, e_ixT3, e_ixT4, e_ixT5, e_tupleL, e_listT, e_tupleT, eqX_int, neX_int, eqX_S, neX_S, eqX_t0, neX_t0, e_catL, e_tup, e_inT, e_ninT, e_inL, e_ninL, e_slS, Int.reduceLT, Int.reduceLE, Int.reduceMul, Int.reduceAdd, Int.reduceSub, Int.reducePow, Int.reduceNeg, Int.reduceToNat, List.length_cons, List.length_nil, List.length_append, Nat.reduceAdd, Nat.reduceLeDiff, flD, List.all_cons, List.all_nil, Bool.and_true, Bool.true_and, Bool.and_self, decide_true, decide_false, or_true, true_or, and_true, true_and, eq_self, *])
local macro_rules | `(tactic| walk_at "pdu") => `(tactic| try simp -implicitDefEqProofs only [e_seq, e_forN, e_for0, e_nxn, e_nct, e_nbk, e_nrt, e_nrn, e_nex, e_next_ite, e_thn, e_trt, e_trn, e_tex, e_if, e_pick, e_pickx, e_ret, e_retN, e_set, e_drop, e_for, e_ofR, e_ofRx, e_ofI, e_nil, e_asg, endS_rt, endS_rn, endS_nx, endS_ex, endN_rn, endN_ex, gC, g1, g2, g3, gA, aNil, aCons, gAnd, gOr, gNot, gB, gTru, bAnd, bOr, bNot, gIf, iA, iSeq, gSl, pNone, pSome, ok_bind, ex_bind, st_bind, gVar, List.getElem?_cons_zero, List.getElem?_cons_succ, List.set_cons_zero, List.set_cons_succ, if_true, if_false, Bool.not_true, Bool.not_false, Bool.false_eq_true, ↓reduceIte, e_asB, e_lt, e_gt, e_le, e_ge, e_ltS, e_gtS, e_eqI, e_eqS, e_eqB, e_neI, e_neS, e_neB, e_addI, e_iaddI, e_subI, e_negI, e_andI, e_orI, e_xorI, e_lenL, e_lenT, e_ord, e_intB, e_intI, e_inS, e_ninS, e_itL, e_itT, e_itS, e_zip, e_enum, e_slL, e_slT, e_asI, e_isN1, e_isN2, e_notN1, e_notN2, e_truB, e_truI, e_truL, e_isi_int_non, e_isi_int_bl, e_isi_int_int, e_isi_int_str, e_isi_int_list, e_isi_int_tup, e_isi_int_dict, e_isi_int_dictT, e_isi_bool_non, e_isi_bool_bl, e_isi_bool_int, e_isi_bool_str, e_isi_bool_list, e_isi_bool_tup, e_isi_bool_dict, e_isi_bool_dictT, e_isi_str_non, e_isi_str_bl, e_isi_str_int, e_isi_str_str, e_isi_str_list, e_isi_str_tup, e_isi_str_dict, e_isi_str_dictT, e_isi_list_non, e_isi_list_bl, e_isi_list_int, e_isi_list_str, e_isi_list_list, e_isi_list_tup, e_isi_list_dict, e_isi_list_dictT, e_isi_tuple_non, e_isi_tuple_bl, e_isi_tuple_int, e_isi_tuple_str, e_isi_tuple_list, e_isi_tuple_tup, e_isi_tuple_dict, e_isi_tuple_dictT, e_isi_dict_non, e_isi_dict_bl, e_isi_dict_int, e_isi_dict_str, e_isi_dict_list, e_isi_dict_tup, e_isi_dict_dict, e_isi_dict_dictT, e_iteAnd, e_iteOr, e_iteAndD, e_iteOrD, e_then_ite, e_endS_ite, e_endN_ite, e_ofR_ite, e_pick_ite, e_bind_ite, e_modI, e_fdivI, e_mul1, e_pow10, e_pow2, e_shl1, e_shrI, e_addS, e_iaddS, e_addL, e_addT, e_lenS, e_lst, e_strLit, String.reduceBEq, e_ixL0, e_ixL1, e_ixL2, e_ixL3, e_ixL4, e_ixL5, e_ixL6, e_ixL7, e_ixL8, e_ixT0, e_ixT1, e_ixT2, e_ixT3, e_ixT4, e_ixT5, e_tupleL, e_listT, e_tupleT, eqX_int, neX_int, eqX_S, neX_S, eqX_t0, neX_t0, e_catL, e_tup, e_inT, e_ninT, e_inL, e_ninL, e_slS, Int.reduceLT, Int.reduceLE, Int.reduceMul, Int.reduceAdd, Int.reduceSub, Int.reducePow, Int.reduceNeg, Int.reduceToNat, List.length_cons, List.length_nil, List.length_append, Nat.reduceAdd, Nat.reduceLeDiff, flD, List.all_cons, List.all_nil, Bool.and_true, Bool.true_and, Bool.and_self, decide_true, decide_false, or_true, true_or, and_true, true_and, eq_self])
local macro_rules | `(tactic| walk_at "pdq") => `(tactic| try simp -implicitDefEqProofs only [e_seq, q_seq, q_tnx, q_tex, q_trt, q_then_ite, q_if, q_pick, q_pickx, q_pick_ite, q_nil, q_raise, cl_nil, cl_f, cl_t, cl_n, e_thn, e_trt, e_trn, e_tex, e_if, e_pick, e_pickx, e_ret, e_retN, e_set, e_drop, e_for, e_ofR, e_ofRx, e_ofI, e_nil, e_asg, endS_rt, endS_rn, endS_nx, endS_ex, endN_rn, endN_ex, gC, g1, g2, g3, gA, aNil, aCons, gAnd, gOr, gNot, gB, gTru, bAnd, bOr, bNot, gIf, iA, iSeq, gSl, pNone, pSome, ok_bind, ex_bind, st_bind, gVar, List.getElem?_cons_zero, List.getElem?_cons_succ, List.set_cons_zero, List.set_cons_succ, if_true, if_false, Bool.not_true, Bool.not_false, Bool.false_eq_true, ↓reduceIte, e_asB, e_lt, e_gt, e_le, e_ge, e_ltS, e_gtS, e_eqI, e_eqS, e_eqB, e_neI, e_neS, e_neB, e_addI, e_iaddI, e_subI, e_negI, e_andI, e_orI, e_xorI, e_lenL, e_lenT, e_ord, e_intB, e_intI, e_inS, e_ninS, e_itL, e_itT, e_itS, e_zip, e_enum, e_slL, e_slT, e_asI, e_isN1, e_isN2, e_notN1, e_notN2, e_truB, e_truI, e_truL, e_isi_int_non, e_isi_int_bl, e_isi_int_int, e_isi_int_str, e_isi_int_list, e_isi_int_tup, e_isi_int_dict, e_isi_int_dictT, e_isi_bool_non, e_isi_bool_bl, e_isi_bool_int, e_isi_bool_str, e_isi_bool_list, e_isi_bool_tup, e_isi_bool_dict, e_isi_bool_dictT, e_isi_str_non, e_isi_str_bl, e_isi_str_int, e_isi_str_str, e_isi_str_list, e_isi_str_tup, e_isi_str_dict, e_isi_str_dictT, e_isi_list_non, e_isi_list_bl, e_isi_list_int, e_isi_list_str, e_isi_list_list, e_isi_list_tup, e_isi_list_dict, e_isi_list_dictT, e_isi_tuple_non, e_isi_tuple_bl, e_isi_tuple_int, e_isi_tuple_str, e_isi_tuple_list, e_isi_tuple_tup, e_isi_tuple_dict, e_isi_tuple_dictT, e_isi_dict_non, e_isi_dict_bl, e_isi_dict_int, e_isi_dict_str, e_isi_dict_list, e_isi_dict_tup, e_isi_dict_dict, e_isi_dict_dictT, e_iteAnd, e_iteOr, e_iteAndD, e_iteOrD, e_then_ite, e_endS_ite, e_endN_ite, e_ofR_ite, e_pick_ite, e_bind_ite, e_modI, e_fdivI, e_mul1, e_pow10, e_pow2, e_shl1, e_shrI, e_addS, e_iaddS, e_addL, e_addT, e_lenS, e_lst, e_strLit, String.reduceBEq, e_ixL0, e_ixL1, e_ixL2, e_ixL3, e_ixL4, e_ixL5, e_ixL6, e_ixL7, e_ixL8, e_ixT0, e_ixT1, e_ixT2, e_ixT3, e_ixT4, e_ixT5, e_tupleL, e_listT, e_tupleT, eqX_int, neX_int, eqX_S, neX_S, eqX_t0, neX_t0, e_catL, e_tup, e_inT, e_ninT, e_inL, e_ninL, e_slS, Int.reduceLT, Int.reduceLE, Int.reduceMul, Int.reduceAdd, Int.reduceSub, Int.reducePow, Int.reduceNeg, Int.reduceToNat, List.length_cons, List.length_nil, List.length_append, Nat.reduceAdd, Nat.reduceLeDiff, flD, List.all_cons, List.all_nil, Bool.and_true, Bool.true_and, Bool.and_self, decide_true, decide_false, or_true, true_or, and_true, true_and, eq_self])
local macro_rules | `(tactic| walk_at "pdr") => `(tactic| try simp -implicitDefEqProofs only [e_seq, q_seq, q_tnx, q_tex, q_trt, q_then_ite, q_nil, q_raise, cl_nil, cl_f, cl_t, cl_n, s_ok, s_ex, e_sqRet, e_sqSet, e_sqExpr, e_sqAsg, asg_some, e_tqName, e_tqTup2, e_qP, e_upok, e_upex, e_qVar, e_varok, e_qNew, e_newok, rq_ok, rq_ex, e_aqN, e_aqC, e_qPA, e_qCall, e_qTup, e_tupP2, e_qSn, e_qSnT, e_tok, e_qT, e_up_ite, pk_ite, s_ite, tst_ite, e_end_ite, q_ifS, pk_ok, sn_nil, sn_s, sn_n, fu_f, e_qIx, e_endrt, e_endnx, List.map_cons, List.map_nil, Bool.or_false, Bool.or_true, Bool.true_or, Bool.false_or, e_thn, e_trt, e_trn, e_tex, e_if, e_pick, e_pickx, e_ret, e_retN, e_set, e_drop, e_for, e_ofR, e_ofRx, e_ofI, e_nil, e_asg, endS_rt, endS_rn, endS_nx, endS_ex, endN_rn, endN_ex, gC, g1, g2, g3, gA, aNil, aCons, gAnd, gOr, gNot, gB, gTru, bAnd, bOr, bNot, gIf, iA, iSeq, gSl, pNone, pSome, ok_bind, ex_bind, st_bind, gVar, List.getElem?_cons_zero, List.getElem?_cons_succ, List.set_cons_zero, List.set_cons_succ, if_true, if_false, Bool.not_true, Bool.not_false, Bool.false_eq_true, ↓reduceIte, e_asB, e_lt, e_gt, e_le, e_ge, e_ltS, e_gtS, e_eqI, e_eqS, e_eqB, e_neI, e_neS, e_neB, e_addI, e_iaddI, e_subI, e_negI, e_andI, e_orI, e_xorI, e_lenL, e_lenT, e_ord, e_intB, e_intI, e_inS, e_ninS, e_itL, e_itT, e_itS, e_zip, e_enum, e_slL, e_slT, e_asI, e_isN1, e_isN2, e_notN1, e_notN2, e_truB, e_truI, e_truL, e_isi_int_non, e_isi_int_bl, e_isi_int_int, e_isi_int_str, e_isi_int_list, e_isi_int_tup, e_isi_int_dict, e_isi_int_dictT, e_isi_bool_non, e_isi_bool_bl, e_isi_bool_int, e_isi_bool_str, e_isi_bool_list, e_isi_bool_tup, e_isi_bool_dict, e_isi_bool_dictT, e_isi_str_non, e_isi_str_bl, e_isi_str_int, e_isi_str_str, e_isi_str_list, e_isi_str_tup, e_isi_str_dict, e_isi_str_dictT, e_isi_list_non, e_isi_list_bl, e_isi_list_int, e_isi_list_str, e_isi_list_list, e_isi_list_tup, e_isi_list_dict, e_isi_list_dictT, e_isi_tuple_non, e_isi_tuple_bl, e_isi_tuple_int, e_isi_tuple_str, e_isi_tuple_list, e_isi_tuple_tup, e_isi_tuple_dict, e_isi_tuple_dictT, e_isi_dict_non, e_isi_dict_bl, e_isi_dict_int, e_isi_dict_str, e_isi_dict_list, e_isi_dict_tup, e_isi_dict_dict, e_isi_dict_dictT, e_iteAnd, e_iteOr, e_iteAndD, e_iteOrD, e_then_ite, e_endS_ite, e_endN_ite, e_ofR_ite, e_pick_ite, e_bind_ite, e_modI, e_fdivI, e_mul1, e_pow10, e_pow2, e_shl1, e_shrI, e_addS, e_iaddS, e_addL, e_addT, e_lenS, e_lst, e_strLit, String.reduceBEq, e_ixL0, e_ixL1, e_ixL2, e_ixL3, e_ixL4, e_ixL5, e_ixL6, e_ixL7, e_ixL8, e_ixT0, e_ixT1, e_ixT2, e_ixT3, e_ixT4, e_ixT5, e_tupleL, e_listT, e_tupleT, eqX_int, neX_int, eqX_S, neX_S, eqX_t0, neX_t0, e_catL, e_tup, e_inT, e_ninT, e_inL, e_ninL, e_slS, Int.reduceLT, Int.reduceLE, Int.reduceMul, Int.reduceAdd, Int.reduceSub, Int.reducePow, Int.reduceNeg, Int.reduceToNat, List.length_cons, List.length_nil, List.length_append, Nat.reduceAdd, Nat.reduceLeDiff, flD, List.all_cons, List.all_nil, Bool.and_true, Bool.true_and, Bool.and_self, decide_true, decide_false, or_true, true_or, and_true, true_and, eq_self])
local macro_rules | `(tactic| walk_at "pdv") => `(tactic| try simp -implicitDefEqProofs only [e_seq, Int.reduceBEq, Int.cast_ofNat_Int, e_thn, e_trt, e_trn, e_tex, e_if, e_pick, e_pickx, e_ret, e_retN, e_set, e_drop, e_for, e_ofR, e_ofRx, e_ofI, e_nil, e_asg, endS_rt, endS_rn, endS_nx, endS_ex, endN_rn, endN_ex, gC, g1, g2, g3, gA, aNil, aCons, gAnd, gOr, gNot, gB, gTru, bAnd, bOr, bNot, gIf, iA, iSeq, gSl, pNone, pSome, ok_bind, ex_bind, st_bind, gVar, List.getElem?_cons_zero, List.getElem?_cons_succ, List.set_cons_zero, List.set_cons_succ, if_true, if_false, Bool.not_true, Bool.not_false, Bool.false_eq_true, ↓reduceIte, e_asB, e_lt, e_gt, e_le, e_ge, e_ltS, e_gtS, e_eqI, e_eqS, e_eqB, e_neI, e_neS, e_neB, e_addI, e_iaddI, e_subI, e_negI, e_andI, e_orI, e_xorI, e_lenL, e_lenT, e_ord, e_intB, e_intI, e_inS, e_ninS, e_itL, e_itT, e_itS, e_zip, e_enum, e_slL, e_slT, e_asI, e_isN1, e_isN2, e_notN1, e_notN2, e_truB, e_truI, e_truL, e_isi_int_non, e_isi_int_bl, e_isi_int_int, e_isi_int_str, e_isi_int_list, e_isi_int_tup, e_isi_int_dict, e_isi_int_dictT, e_isi_bool_non, e_isi_bool_bl, e_isi_bool_int, e_isi_bool_str, e_isi_bool_list, e_isi_bool_tup, e_isi_bool_dict, e_isi_bool_dictT, e_isi_str_non, e_isi_str_bl, e_isi_str_int, e_isi_str_str, e_isi_str_list, e_isi_str_tup, e_isi_str_dict, e_isi_str_dictT, e_isi_list_non, e_isi_list_bl, e_isi_list_int, e_isi_list_str, e_isi_list_list, e_isi_list_tup, e_isi_list_dict, e_isi_list_dictT, e_isi_tuple_non, e_isi_tuple_bl, e_isi_tuple_int, e_isi_tuple_str, e_isi_tuple_list, e_isi_tuple_tup, e_isi_tuple_dict, e_isi_tuple_dictT, e_isi_dict_non, e_isi_dict_bl, e_isi_dict_int, e_isi_dict_str, e_isi_dict_list, e_isi_dict_tup, e_isi_dict_dict, e_isi_dict_dictT, e_iteAnd, e_iteOr, e_iteAndD, e_iteOrD, e_then_ite, e_endS_ite, e_endN_ite, e_ofR_ite, e_pick_ite, e_bind_ite, e_modI, e_fdivI, e_mul1, e_pow10, e_pow2, e_shl1, e_shrI, e_addS, e_iaddS, e_addL, e_addT, e_lenS, e_lst, e_strLit, String.reduceBEq, e_ixL0, e_ixL1, e_ixL2, e_ixL3, e_ixL4, e_ixL5, e_ixL6, e_ixL7, e_ixL8, e_ixT0, e_ixT1, e_ixT2, e_ixT3, e_ixT4, e_ixT5, e_tupleL, e_listT, e_tupleT, eqX_int, neX_int, eqX_S, neX_S, eqX_t0, neX_t0, e_catL, e_tup, e_inT, e_ninT, e_inL, e_ninL, e_slS, Int.reduceLT, Int.reduceLE, Int.reduceMul, Int.reduceAdd, Int.reduceSub, Int.reducePow, Int.reduceNeg, Int.reduceToNat, List.length_cons, List.length_nil, List.length_append, Nat.reduceAdd, Nat.reduceLeDiff, flD, List.all_cons, List.all_nil, Bool.and_true, Bool.true_and, Bool.and_self, decide_true, decide_false, or_true, true_or, and_true, true_and, eq_self])
/-! ### joined, by hand -/
noncomputable def cJ (b o e : D) : D := if eqB o e = true then o else if eqB o b = true then e else if eqB e b = true then o else b
noncomputable def cW (b o e : D) : Bool := !(eqB o e || (eqB o b || eqB e b))
theorem cJ_comm (b o e : D) : cJ b o e = cJ b e o := by
  unfold cJ
  by_cases h : o = e
  · subst h
    rw [eqB_same]
  · rw [eqB_ne h, eqB_ne (Ne.symm h)]
    by_cases h1 : o = b
    · subst h1
      rw [eqB_same, eqB_ne (Ne.symm h)]
      rfl
    · rw [eqB_ne h1]
      by_cases h2 : e = b
      · subst h2
        rw [eqB_same]
        rfl
      · rw [eqB_ne h2]
        rfl
theorem cW_comm (b o e : D) : cW b o e = cW b e o := by
  unfold cW
  rw [Bool.or_comm (eqB o b)]
  congr 2
  by_cases h : o = e
  · subst h
    rfl
  · rw [eqB_ne h, eqB_ne (Ne.symm h)]
def cellAt (rows : List D) (j k : Nat) : D := match rows[j]? with
  | some (.tup cs) => cs.getD k .non
  | _ => .non
def Rws (rows : List D) (m n : Nat) : Prop := rows.length = m ∧ ∀ r ∈ rows, RowOk n r
theorem cell_is {rows : List D} {m n j k : Nat} (h : Rws rows m n) (hj : j < m) (hk : k < n) : ∃ cs s, ixD (.tup rows) (.int (j : Int)) = .ok (.tup cs) ∧ ixD (.tup cs) (.int (k : Int)) = .ok (.str s) ∧ TextOk s ∧ cellAt rows j k = .str s := by
  have hj' : j < rows.length := by rw [h.1]; exact hj
  obtain ⟨cs, er, lr, tr⟩ := h.2 rows[j] (List.getElem_mem _)
  have hk' : k < cs.length := by omega
  obtain ⟨s, es, ts⟩ := tr cs[k] (List.getElem_mem _)
  refine ⟨cs, s, (ixT_nat hj').trans (by rw [er]), (ixT_nat hk').trans (by rw [es]), ts, ?_⟩
  unfold cellAt
  rw [List.getElem?_eq_getElem hj', er]
  show cs.getD k .non = .str s
  rw [List.getD_eq_getElem?_getD, List.getElem?_eq_getElem hk', es]
  rfl
noncomputable def rowJ (rb ro re : List D) (n j : Nat) : List D := (List.range n).map fun k => cJ (cellAt rb j k) (cellAt ro j k) (cellAt re j k)
def nS (j : Nat) : Str := toString (j : Int)
def wordOf (j k : Nat) : Str := Str.ofString "cell " ++ nS j ++ Str.ofString " " ++ nS k
noncomputable def wordsRow (rb ro re : List D) (n j : Nat) : List D := ((List.range n).filter fun k => cW (cellAt rb j k) (cellAt ro j k) (cellAt re j k)).map fun k => .str (wordOf j k)
noncomputable def rowsJ (rb ro re : List D) (m n : Nat) : List D := (List.range m).map fun j => .tup (rowJ rb ro re n j)
noncomputable def wordsJ (rb ro re : List D) (m n : Nat) : List D := ((List.range m).map (wordsRow rb ro re n)).flatten
theorem rowJ_succ (rb ro re : List D) (n j : Nat) : rowJ rb ro re (n + 1) j = rowJ rb ro re n j ++ [cJ (cellAt rb j n) (cellAt ro j n) (cellAt re j n)] := by
  unfold rowJ
  rw [List.range_succ, List.map_append]
  rfl
theorem rowJ_len (rb ro re : List D) (n j : Nat) : (rowJ rb ro re n j).length = n := by unfold rowJ; simp
theorem rowsJ_succ (rb ro re : List D) (m n : Nat) : rowsJ rb ro re (m + 1) n = rowsJ rb ro re m n ++ [.tup (rowJ rb ro re n m)] := by
  unfold rowsJ
  rw [List.range_succ, List.map_append]
  rfl
theorem rowsJ_len (rb ro re : List D) (m n : Nat) : (rowsJ rb ro re m n).length = m := by unfold rowsJ; simp
theorem wordsRow_succ (rb ro re : List D) (n j : Nat) : wordsRow rb ro re (n + 1) j = wordsRow rb ro re n j ++ if cW (cellAt rb j n) (cellAt ro j n) (cellAt re j n) = true then [.str (wordOf j n)] else [] := by
  unfold wordsRow
  rw [List.range_succ, List.filter_append, List.map_append]
  congr 1
  rw [List.filter_cons]
  split <;> rfl
theorem wordsRow_len (rb ro re : List D) (n j : Nat) : (wordsRow rb ro re n j).length ≤ n := by
  unfold wordsRow
  rw [List.length_map]
  refine Nat.le_trans (List.length_filter_le _ _) ?_
  rw [List.length_range]
  exact Nat.le_refl _
theorem wordsJ_succ (rb ro re : List D) (m n : Nat) : wordsJ rb ro re (m + 1) n = wordsJ rb ro re m n ++ wordsRow rb ro re n m := by
  unfold wordsJ
  rw [List.range_succ, List.map_append, List.flatten_append]
  simp
theorem wordsJ_len (rb ro re : List D) (n : Nat) : ∀ m, (wordsJ rb ro re m n).length ≤ m * n
  | 0 => by unfold wordsJ; simp
  | m + 1 => by
    rw [wordsJ_succ, List.length_append]
    have h1 := wordsJ_len rb ro re n m
    have h2 := wordsRow_len rb ro re n m
    rw [Nat.add_mul]
    omega
theorem rowJ_comm (rb ro re : List D) (n j : Nat) : rowJ rb ro re n j = rowJ rb re ro n j := by
  unfold rowJ
  congr 1
  funext k
  exact cJ_comm _ _ _
theorem rowsJ_comm (rb ro re : List D) (m n : Nat) : rowsJ rb ro re m n = rowsJ rb re ro m n := by
  unfold rowsJ
  congr 1
  funext j
  rw [rowJ_comm]
theorem wordsJ_comm (rb ro re : List D) (m n : Nat) : wordsJ rb ro re m n = wordsJ rb re ro m n := by
  unfold wordsJ
  congr 2
  funext j
  unfold wordsRow
  congr 2
  funext k
  exact cW_comm _ _ _
theorem nS_len : ∀ j : Nat, j < 6 → (nS j).length = 1 ∧ (nS j).cps.toList.all (fun c => decide (c < 1114112)) = true ∧ ((j : Int).natAbs.log2 < 1920) := by decide +kernel
theorem nS_at {j : Nat} (h : j < 6) : strD [.int (j : Int)] = .ok (.str (nS j)) := if_pos (nS_len j h).2.2
theorem word_at {j k : Nat} (hj : j < 6) (hk : k < 6) : ∀ (ρ : Rho) (x y : Nat), ρ[x]? = some (some (.int (j : Int))) → ρ[y]? = some (some (.int (k : Int))) →
    g2 addD (g2 addD (g2 addD (gC (.str "cell ")) (gA strD (aCons (gVar x) aNil))) (gC (.str " "))) (gA strD (aCons (gVar y) aNil)) ρ = .ok (.str (wordOf j k)) := fun ρ x y hx hy => by
  have gx : ∀ z d, ρ[z]? = some (some d) → gVar z ρ = .ok d := fun z d h => by unfold gVar; rw [h]
  have c5 : (Str.ofString "cell ").length = 5 := by decide +kernel
  have c1 : (Str.ofString " ").length = 1 := by decide +kernel
  have lj := (nS_len j hj).1
  have lk := (nS_len k hk).1
  have e1 : g2 addD (gC (.str "cell ")) (gA strD (aCons (gVar x) aNil)) ρ = .ok (.str (Str.ofString "cell " ++ nS j)) := by
    walk_at "pd"
    rw [hx]
    walk_at "pd"
    rw [nS_at hj]
    walk_at "pd"
    rw [e_addS _ _ (by omega)]
  have e2 : g2 addD (g2 addD (gC (.str "cell ")) (gA strD (aCons (gVar x) aNil))) (gC (.str " ")) ρ = .ok (.str (Str.ofString "cell " ++ nS j ++ Str.ofString " ")) := by
    show ((g2 addD (gC (.str "cell ")) (gA strD (aCons (gVar x) aNil)) ρ).bind fun d => (gC (.str " ") ρ).bind fun e => addD d e) = _
    rw [e1]
    walk_at "pd"
    rw [e_addS _ _ (by rw [len_app]; omega)]
  show ((g2 addD (g2 addD (gC (.str "cell ")) (gA strD (aCons (gVar x) aNil))) (gC (.str " ")) ρ).bind fun d => (gA strD (aCons (gVar y) aNil) ρ).bind fun e => addD d e) = _
  rw [e2]
  walk_at "pd"
  rw [hy]
  walk_at "pd"
  rw [nS_at hk]
  walk_at "pd"
  rw [e_addS _ _ (by rw [len_app, len_app]; omega)]
  rfl
theorem text_cv {s : Str} (h : TextOk s) (n : Nat) : cvD false n (.str s) = true := by
  have : (PyData.strOk s && decide (s.length ≤ 1000)) = true := by
    rw [strOk_of fun c hc => all_lt c (h.2 c hc), decide_eq_true (show s.length ≤ 1000 by have := h.1; omega)]
    rfl
  cases n <;> exact this
theorem cv_mono : ∀ {n : Nat} {d : D}, cvD false n d = true → cvD true n d = true
  | n, .non, _ => by cases n <;> rfl
  | n, .int _, _ => by cases n <;> rfl
  | n, .str _, h => by cases n <;> exact h
  | n, .list _, h => by cases n <;> cases h
  | 0, .tup _, h => (cv_tup0 h).elim
  | n + 1, .tup ds, h => List.all_eq_true.mpr fun d hd => cv_mono (cv_tup h d hd)
  | n, .bl _, h => by cases n <;> cases h
  | n, .dict _, h => by cases n <;> cases h
  | n, .dictT _, h => by cases n <;> cases h
  | n, .obj _ _, h => by cases n <;> cases h
  | n, .loc _, h => by cases n <;> cases h
  | n, .adr _, h => by cases n <;> cases h
theorem row_cv {n k : Nat} {d : D} (h : RowOk n d) : cvD false (k + 1) d = true := by
  obtain ⟨ds, rfl, _, ht⟩ := h
  exact List.all_eq_true.mpr fun d hd => by
    obtain ⟨s, rfl, ts⟩ := ht d hd
    exact text_cv ts k
theorem table_cv {d : D} (h : TableOk d) (k : Nat) : cvD false (k + 2) d = true := by
  obtain ⟨rows, n, rfl, _, _, _, _, hr⟩ := h
  exact List.all_eq_true.mpr fun r hr' => row_cv (hr r hr')
theorem cont_cv {t : Bool} {d : D} (h : ContOk t d) : cvD false 3 d = true := by
  cases t with
  | true => exact table_cv h 1
  | false =>
    obtain ⟨s, rfl, hs⟩ := h
    exact text_cv hs 3
/-- what both come to, and its words -/
noncomputable def clC (t : Bool) (b o e : D) : D × List D := match t, b, o, e with
  | true, .tup rb, .tup ro, .tup re => if ro.length = rb.length ∧ re.length = rb.length ∧ firstLen ro = firstLen rb ∧ firstLen re = firstLen rb then (.tup (rowsJ rb ro re rb.length (firstLen rb)), wordsJ rb ro re rb.length (firstLen rb)) else (.tup rb, [.str "content"])
  | _, b, _, _ => (b, [.str "content"])
noncomputable def JJ (t : Bool) (b o e : D) : D × List D := if eqB o e = true then (o, []) else if eqB o b = true then (e, []) else if eqB e b = true then (o, []) else clC t b o e
theorem clC_comm (t : Bool) (b o e : D) : clC t b o e = clC t b e o := by
  cases t with
  | false => rfl
  | true =>
    cases b <;> cases o <;> cases e <;> try rfl
    rename_i rb ro re
    unfold clC
    dsimp only
    by_cases h : ro.length = rb.length ∧ re.length = rb.length ∧ firstLen ro = firstLen rb ∧ firstLen re = firstLen rb
    · rw [if_pos h, if_pos ⟨h.2.1, h.1, h.2.2.2, h.2.2.1⟩, rowsJ_comm, wordsJ_comm]
    · rw [if_neg h, if_neg fun z => h ⟨z.2.1, z.1, z.2.2.2, z.2.2.1⟩]
theorem JJ_comm (t : Bool) (b o e : D) : JJ t b o e = JJ t b e o := by
  unfold JJ
  by_cases h : o = e
  · subst h
    rw [eqB_same]
  · rw [eqB_ne h, eqB_ne (Ne.symm h)]
    by_cases h1 : o = b
    · subst h1
      rw [eqB_same, eqB_ne (Ne.symm h)]
      rfl
    · rw [eqB_ne h1]
      by_cases h2 : e = b
      · subst h2
        rw [eqB_same]
        rfl
      · rw [eqB_ne h2, clC_comm]
        rfl
theorem JJ_base (t : Bool) (b o : D) : JJ t b b o = (o, []) := by
  unfold JJ
  by_cases h : b = o
  · subst h
    rw [eqB_same]
    rfl
  · rw [eqB_ne h, eqB_same]
    rfl

end Pd

set_option maxHeartbeats 4000000
namespace Pd
open PySem PySem.Spec PyProof.Rows L2
local macro_rules | `(tactic| walk_at "pd") => `(tactic| try simp -implicitDefEqProofs only [e_seq, e_thn, e_trt, e_trn, e_tex, e_if, e_pick, e_pickx, e_ret, e_retN, e_set, e_drop, e_for, e_ofR, e_ofRx, e_ofI, e_nil, e_asg, endS_rt, endS_rn, endS_nx, endS_ex, endN_rn, endN_ex, gC, g1, g2, g3, gA, aNil, aCons, gAnd, gOr, gNot, gB, gTru, bAnd, bOr, bNot, gIf, iA, iSeq, gSl, pNone, pSome, ok_bind, ex_bind, st_bind, gVar, List.getElem?_cons_zero, List.getElem?_cons_succ, List.set_cons_zero, List.set_cons_succ, if_true, if_false, Bool.not_true, Bool.not_false, Bool.false_eq_true, ↓reduceIte, e_asB, e_lt, e_gt, e_le, e_ge, e_ltS, e_gtS, e_eqI, e_eqS, e_eqB, e_neI, e_neS, e_neB, e_addI, e_iaddI, e_subI, e_negI, e_andI, e_orI, e_xorI, e_lenL, e_lenT, e_ord, e_intB, e_intI, e_inS, e_ninS, e_itL, e_itT, e_itS, e_zip, e_enum, e_slL, e_slT, e_asI, e_isN1, e_isN2, e_notN1, e_notN2, e_truB, e_truI, e_truL, e_isi_int_non, e_isi_int_bl, e_isi_int_int, e_isi_int_str, e_isi_int_list, e_isi_int_tup, e_isi_int_dict, e_isi_int_dictT, e_isi_bool_non, e_isi_bool_bl, e_isi_bool_int, e_isi_bool_str, e_isi_bool_list, e_isi_bool_tup, e_isi_bool_dict, e_isi_bool_dictT, e_isi_str_non, e_isi_str_bl, e_isi_str_int, e_isi_str_str, e_isi_str_list, e_isi_str_tup, e_isi_str_dict, e_isi_str_dictT, e_isi_list_non, e_isi_list_bl, e_isi_list_int, e_isi_list_str, e_isi_list_list, e_isi_list_tup, e_isi_list_dict, e_isi_list_dictT, e_isi_tuple_non, e_isi_tuple_bl, e_isi_tuple_int, e_isi_tuple_str, e_isi_tuple_list, e_isi_tuple_tup, e_isi_tuple_dict, e_isi_tuple_dictT, e_isi_dict_non, e_isi_dict_bl, e_isi_dict_int, e_isi_dict_str, e_isi_dict_list, e_isi_dict_tup, e_isi_dict_dict, e_isi_dict_dictT, e_iteAnd, e_iteOr, e_iteAndD, e_iteOrD, e_then_ite, e_endS_ite, e_endN_ite, e_ofR_ite, e_pick_ite, e_bind_ite, e_modI, e_fdivI, e_mul1, e_pow10, e_pow2, e_shl1, e_shrI, e_addS, e_iaddS, e_addL, e_addT, e_lenS, e_lst, e_strLit, String.reduceBEq, e_ixL0, e_ixL1, e_ixL2, e_ixL3, e_ixL4, e_ixL5, e_ixL6, e_ixL7, e_ixL8, e_ixT0, e_ixT1, e_ixT2, e_ixT3, e_ixT4, e_ixT5, e_tupleL, e_listT, e_tupleT, eqX_int, neX_int, eqX_S, neX_S, eqX_t0, neX_t0, e_catL, e_tup, e_inT, e_ninT, e_inL, e_ninL, e_slS, Int.reduceLT, Int.reduceLE, Int.reduceMul, Int.reduceAdd, Int.reduceSub, Int.reducePow, Int.reduceNeg, Int.reduceToNat, List.length_cons, List.length_nil, List.length_append, Nat.reduceAdd, Nat.reduceLeDiff, flD, List.all_cons, List.all_nil, Bool.and_true, Bool.true_and, Bool.and_self, decide_true, decide_false, or_true, true_or, and_true, true_and, eq_self])
local macro_rules | `(tactic| walk_at "pdh") => `(tactic| try simp -implicitDefEqProofs only [e_seq, e_thn, e_trt, e_trn, e_tex, e_if, e_pick, e_pickx, e_ret, e_retN, e_set, e_drop, e_for, e_ofR, e_ofRx, e_ofI, e_nil, e_asg, endS_rt, endS_rn, endS_nx, endS_ex, endN_rn, endN_ex, gC, g1, g2, g3, gA, aNil, aCons, gAnd, gOr, gNot, gB, gTru, bAnd, bOr, bNot, gIf, iA, iSeq, gSl, pNone, pSome, ok_bind, ex_bind, st_bind, gVar, List.getElem?_cons_zero, List.getElem?_cons_succ, List.set_cons_zero, List.set_cons_succ, if_true, if_false, Bool.not_true, Bool.not_false, Bool.false_eq_true, ↓reduceIte, e_asB, e_lt, e_gt, e_le, e_ge, e_ltS, e_gtS, e_eqI, e_eqS, e_eqB, e_neI, e_neS, e_neB, e_addI, e_iaddI, e_subI, e_negI, e_andI, e_orI, e_xorI, e_lenL, e_lenT, e_ord, e_intB, e_intI, e_inS, e_ninS, e_itL, e_itT, e_itS, e_zip, e_enum, e_slL, e_slT, e_asI, e_isN1, e_isN2, e_notN1, e_notN2, e_truB, e_truI, e_truL, e_isi_int_non, e_isi_int_bl, e_isi_int_int, e_isi_int_str, e_isi_int_list, e_isi_int_tup, e_isi_int_dict, e_isi_int_dictT, e_isi_bool_non, e_isi_bool_bl, e_isi_bool_int, e_isi_bool_str, e_isi_bool_list, e_isi_bool_tup, e_isi_bool_dict, e_isi_bool_dictT, e_isi_str_non, e_isi_str_bl, e_isi_str_int, e_isi_str_str, e_isi_str_list, e_isi_str_tup, e_isi_str_dict, e_isi_str_dictT, e_isi_list_non, e_isi_list_bl, e_isi_list_int, e_isi_list_str, e_isi_list_list, e_isi_list_tup, e_isi_list_dict, e_isi_list_dictT, e_isi_tuple_non, e_isi_tuple_bl, e_isi_tuple_int, e_isi_tuple_str, e_isi_tuple_list, e_isi_tuple_tup, e_isi_tuple_dict, e_isi_tuple_dictT, e_isi_dict_non, e_isi_dict_bl, e_isi_dict_int, e_isi_dict_str, e_isi_dict_list, e_isi_dict_tup, e_isi_dict_dict, e_isi_dict_dictT, e_iteAnd, e_iteOr, e_iteAndD, e_iteOrD, e_then_ite, e_endS_ite, e_endN_ite, e_ofR_ite, e_pick_ite, e_bind_ite, e_modI, e_fdivI, e_mul1, e_pow10, e_pow2, e_shl1, e_shrI, e_addS, e_iaddS, e_addL, e_addT, e_lenS, e_lst, e_strLit, String.reduceBEq, e_ixL0, e_ixL1, e_ixL2, e_ixL3, e_ixL4, e_ixL5, e_ixL6, e_ixL7, e_ixL8, e_ixT0, e_ixT1, e_ixT2, e_ixT3, e_ixT4, e_ixT5, e_tupleL, e_listT, e_tupleT, eqX_int, neX_int, eqX_S, neX_S, eqX_t0, neX_t0, e_catL, e_tup, e_inT, e_ninT, e_inL, e_ninL, e_slS, Int.reduceLT, Int.reduceLE, Int.reduceMul, Int.reduceAdd, Int.reduceSub, Int.reducePow, Int.reduceNeg, Int.reduceToNat, List.length_cons, List.length_nil, List.length_append, Nat.reduceAdd, Nat.reduceLeDiff, flD, List.all_cons, List.all_nil, Bool.and_true, Bool.true_and, Bool.and_self, decide_true, decide_false, or_true, true_or, and_true, true_and, eq_self, *])
local macro_rules | `(tactic| walk_at "pdu") => `(tactic| try simp -implicitDefEqProofs only [e_seq, e_forN, e_for0, e_nxn, e_nct, e_nbk, e_nrt, e_nrn, e_nex, e_next_ite, e_thn, e_trt, e_trn, e_tex, e_if, e_pick, e_pickx, e_ret, e_retN, e_set, e_drop, e_for, e_ofR, e_ofRx, e_ofI, e_nil, e_asg, endS_rt, endS_rn, endS_nx, endS_ex, endN_rn, endN_ex, gC, g1, g2, g3, gA, aNil, aCons, gAnd, gOr, gNot, gB, gTru, bAnd, bOr, bNot, gIf, iA, iSeq, gSl, pNone, pSome, ok_bind, ex_bind, st_bind, gVar, List.getElem?_cons_zero, List.getElem?_cons_succ, List.set_cons_zero, List.set_cons_succ, if_true, if_false, Bool.not_true, Bool.not_false, Bool.false_eq_true, ↓reduceIte, e_asB, e_lt, e_gt, e_le, e_ge, e_ltS, e_gtS, e_eqI, e_eqS, e_eqB, e_neI, e_neS, e_neB, e_addI, e_iaddI, e_subI, e_negI, e_andI, e_orI, e_xorI, e_lenL, e_lenT, e_ord, e_intB, e_intI, e_inS, e_ninS, e_itL, e_itT, e_itS, e_zip, e_enum, e_slL, e_slT, e_asI, e_isN1, e_isN2, e_notN1, e_notN2, e_truB, e_truI, e_truL, e_isi_int_non, e_isi_int_bl, e_isi_int_int, e_isi_int_str, e_isi_int_list, e_isi_int_tup, e_isi_int_dict, e_isi_int_dictT, e_isi_bool_non, e_isi_bool_bl, e_isi_bool_int, e_isi_bool_str, e_isi_bool_list, e_isi_bool_tup, e_isi_bool_dict, e_isi_bool_dictT, e_isi_str_non, e_isi_str_bl, e_isi_str_int, e_isi_str_str, e_isi_str_list, e_isi_str_tup, e_isi_str_dict, e_isi_str_dictT, e_isi_list_non, e_isi_list_bl, e_isi_list_int, e_isi_list_str, e_isi_list_list, e_isi_list_tup, e_isi_list_dict, e_isi_list_dictT, e_isi_tuple_non, e_isi_tuple_bl, e_isi_tuple_int, e_isi_tuple_str, e_isi_tuple_list, e_isi_tuple_tup, e_isi_tuple_dict, e_isi_tuple_dictT, e_isi_dict_non, e_isi_dict_bl, e_isi_dict_int, e_isi_dict_str, e_isi_dict_list, e_isi_dict_tup, e_isi_dict_dict, e_isi_dict_dictT, e_iteAnd, e_iteOr, e_iteAndD, e_iteOrD, e_then_ite, e_endS_ite, e_endN_ite, e_ofR_ite, e_pick_ite, e_bind_ite, e_modI, e_fdivI, e_mul1, e_pow10, e_pow2, e_shl1, e_shrI, e_addS, e_iaddS, e_addL, e_addT, e_lenS, e_lst, e_strLit, String.reduceBEq, e_ixL0, e_ixL1, e_ixL2, e_ixL3, e_ixL4, e_ixL5, e_ixL6, e_ixL7, e_ixL8, e_ixT0, e_ixT1, e_ixT2, e_ixT3, e_ixT4, e_ixT5, e_tupleL, e_listT, e_tupleT, eqX_int, neX_int, eqX_S, neX_S, eqX_t0, neX_t0, e_catL, e_tup, e_inT, e_ninT, e_inL, e_ninL, e_slS, Int.reduceLT, Int.reduceLE, Int.reduceMul, Int.reduceAdd, Int.reduceSub, Int.reducePow, Int.reduceNeg, Int.reduceToNat, List.length_cons, List.length_nil, List.length_append, Nat.reduceAdd, Nat.reduceLeDiff, flD, List.all_cons, List.all_nil, Bool.and_true, Bool.true_and, Bool.and_self, decide_true, decide_false, or_true, true_or, and_true, true_and, eq_self])
local macro_rules | `(tactic| walk_at "pdq") => `(tactic| try simp -implicitDefEqProofs only [e_seq, q_seq, q_tnx, q_tex, q_trt, q_then_ite, q_if, q_pick, q_pickx, q_pick_ite, q_nil, q_raise, cl_nil, cl_f, cl_t, cl_n, e_thn, e_trt, e_trn, e_tex, e_if, e_pick, e_pickx, e_ret, e_retN, e_set, e_drop, e_for, e_ofR, e_ofRx, e_ofI, e_nil, e_asg, endS_rt, endS_rn, endS_nx, endS_ex, endN_rn, endN_ex, gC, g1, g2, g3, gA, aNil, aCons, gAnd, gOr, gNot, gB, gTru, bAnd, bOr, bNot, gIf, iA, iSeq, gSl, pNone, pSome, ok_bind, ex_bind, st_bind, gVar, List.getElem?_cons_zero, List.getElem?_cons_succ, List.set_cons_zero, List.set_cons_succ, if_true, if_false, Bool.not_true, Bool.not_false, Bool.false_eq_true, ↓reduceIte, e_asB, e_lt, e_gt, e_le, e_ge, e_ltS, e_gtS, e_eqI, e_eqS, e_eqB, e_neI, e_neS, e_neB, e_addI, e_iaddI, e_subI, e_negI, e_andI, e_orI, e_xorI, e_lenL, e_lenT, e_ord, e_intB, e_intI, e_inS, e_ninS, e_itL, e_itT, e_itS, e_zip, e_enum, e_slL, e_slT, e_asI, e_isN1, e_isN2, e_notN1, e_notN2, e_truB, e_truI, e_truL, e_isi_int_non, e_isi_int_bl, e_isi_int_int, e_isi_int_str, e_isi_int_list, e_isi_int_tup, e_isi_int_dict, e_isi_int_dictT, e_isi_bool_non, e_isi_bool_bl, e_isi_bool_int, e_isi_bool_str, e_isi_bool_list, e_isi_bool_tup, e_isi_bool_dict, e_isi_bool_dictT, e_isi_str_non, e_isi_str_bl, e_isi_str_int, e_isi_str_str, e_isi_str_list, e_isi_str_tup, e_isi_str_dict, e_isi_str_dictT, e_isi_list_non, e_isi_list_bl, e_isi_list_int, e_isi_list_str, e_isi_list_list, e_isi_list_tup, e_isi_list_dict, e_isi_list_dictT, e_isi_tuple_non, e_isi_tuple_bl, e_isi_tuple_int, e_isi_tuple_str, e_isi_tuple_list, e_isi_tuple_tup, e_isi_tuple_dict, e_isi_tuple_dictT, e_isi_dict_non, e_isi_dict_bl, e_isi_dict_int, e_isi_dict_str, e_isi_dict_list, e_isi_dict_tup, e_isi_dict_dict, e_isi_dict_dictT, e_iteAnd, e_iteOr, e_iteAndD, e_iteOrD, e_then_ite, e_endS_ite, e_endN_ite, e_ofR_ite, e_pick_ite, e_bind_ite, e_modI, e_fdivI, e_mul1, e_pow10, e_pow2, e_shl1, e_shrI, e_addS, e_iaddS, e_addL, e_addT, e_lenS, e_lst, e_strLit, String.reduceBEq, e_ixL0, e_ixL1, e_ixL2, e_ixL3, e_ixL4, e_ixL5, e_ixL6, e_ixL7, e_ixL8, e_ixT0, e_ixT1, e_ixT2, e_ixT3, e_ixT4, e_ixT5, e_tupleL, e_listT, e_tupleT, eqX_int, neX_int, eqX_S, neX_S, eqX_t0, neX_t0, e_catL, e_tup, e_inT, e_ninT, e_inL, e_ninL, e_slS, Int.reduceLT, Int.reduceLE, Int.reduceMul, Int.reduceAdd, Int.reduceSub, Int.reducePow, Int.reduceNeg, Int.reduceToNat, List.length_cons, List.length_nil, List.length_append, Nat.reduceAdd, Nat.reduceLeDiff, flD, List.all_cons, List.all_nil, Bool.and_true, Bool.true_and, Bool.and_self, decide_true, decide_false, or_true, true_or, and_true, true_and, eq_self])
local macro_rules | `(tactic| walk_at "pdr") => `(tactic| try simp -implicitDefEqProofs only [e_seq, q_seq, q_tnx, q_tex, q_trt, q_then_ite, q_nil, q_raise, cl_nil, cl_f, cl_t, cl_n, s_ok, s_ex, e_sqRet, e_sqSet, e_sqExpr, e_sqAsg, asg_some, e_tqName, e_tqTup2, e_qP, e_upok, e_upex, e_qVar, e_varok, e_qNew, e_newok, rq_ok, rq_ex, e_aqN, e_aqC, e_qPA, e_qCall, e_qTup, e_tupP2, e_qSn, e_qSnT, e_tok, e_qT, e_up_ite, pk_ite, s_ite, tst_ite, e_end_ite, q_ifS, pk_ok, sn_nil, sn_s, sn_n, fu_f, e_qIx, e_endrt, e_endnx, List.map_cons, List.map_nil, Bool.or_false, Bool.or_true, Bool.true_or, Bool.false_or, e_thn, e_trt, e_trn, e_tex, e_if, e_pick, e_pickx, e_ret, e_retN, e_set, e_drop, e_for, e_ofR, e_ofRx, e_ofI, e_nil, e_asg, endS_rt, endS_rn, endS_nx, endS_ex, endN_rn, endN_ex, gC, g1, g2, g3, gA, aNil, aCons, gAnd, gOr, gNot, gB, gTru, bAnd, bOr, bNot, gIf, iA, iSeq, gSl, pNone, pSome, ok_bind, ex_bind, st_bind, gVar, List.getElem?_cons_zero, List.getElem?_cons_succ, List.set_cons_zero, List.set_cons_succ, if_true, if_false, Bool.not_true, Bool.not_false, Bool.false_eq_true, ↓reduceIte, e_asB, e_lt, e_gt, e_le, e_ge, e_ltS, e_gtS, e_eqI, e_eqS, e_eqB, e_neI, e_neS, e_neB, e_addI, e_iaddI, e_subI, e_negI, e_andI, e_orI, e_xorI, e_lenL, e_lenT, e_ord, e_intB, e_intI, e_inS, e_ninS, e_itL, e_itT, e_itS, e_zip, e_enum, e_slL, e_slT, e_asI, e_isN1, e_isN2, e_notN1, e_notN2, e_truB, e_truI, e_truL, e_isi_int_non, e_isi_int_bl, e_isi_int_int, e_isi_int_str, e_isi_int_list, e_isi_int_tup, e_isi_int_dict, e_isi_int_dictT, e_isi_bool_non, e_isi_bool_bl, e_isi_bool_int, e_isi_bool_str, e_isi_bool_list, e_isi_bool_tup, e_isi_bool_dict, e_isi_bool_dictT, e_isi_str_non, e_isi_str_bl, e_isi_str_int, e_isi_str_str, e_isi_str_list, e_isi_str_tup, e_isi_str_dict, e_isi_str_dictT, e_isi_list_non, e_isi_list_bl, e_isi_list_int, e_isi_list_str, e_isi_list_list, e_isi_list_tup, e_isi_list_dict, e_isi_list_dictT, e_isi_tuple_non, e_isi_tuple_bl, e_isi_tuple_int, e_isi_tuple_str, e_isi_tuple_list, e_isi_tuple_tup, e_isi_tuple_dict, e_isi_tuple_dictT, e_isi_dict_non, e_isi_dict_bl, e_isi_dict_int, e_isi_dict_str, e_isi_dict_list, e_isi_dict_tup, e_isi_dict_dict, e_isi_dict_dictT, e_iteAnd, e_iteOr, e_iteAndD, e_iteOrD, e_then_ite, e_endS_ite, e_endN_ite, e_ofR_ite, e_pick_ite, e_bind_ite, e_modI, e_fdivI, e_mul1, e_pow10, e_pow2, e_shl1, e_shrI, e_addS, e_iaddS, e_addL, e_addT, e_lenS, e_lst, e_strLit, String.reduceBEq, e_ixL0, e_ixL1, e_ixL2, e_ixL3, e_ixL4, e_ixL5, e_ixL6, e_ixL7, e_ixL8, e_ixT0, e_ixT1, e_ixT2, e_ixT3, e_ixT4, e_ixT5, e_tupleL, e_listT, e_tupleT, eqX_int, neX_int, eqX_S, neX_S, eqX_t0, neX_t0, e_catL, e_tup, e_inT, e_ninT, e_inL, e_ninL, e_slS, Int.reduceLT, Int.reduceLE, Int.reduceMul, Int.reduceAdd, Int.reduceSub, Int.reducePow, Int.reduceNeg, Int.reduceToNat, List.length_cons, List.length_nil, List.length_append, Nat.reduceAdd, Nat.reduceLeDiff, flD, List.all_cons, List.all_nil, Bool.and_true, Bool.true_and, Bool.and_self, decide_true, decide_false, or_true, true_or, and_true, true_and, eq_self])
local macro_rules | `(tactic| walk_at "pdv") => `(tactic| try simp -implicitDefEqProofs only [e_seq, Int.reduceBEq, Int.cast_ofNat_Int, e_thn, e_trt, e_trn, e_tex, e_if, e_pick, e_pickx, e_ret, e_retN, e_set, e_drop, e_for, e_ofR, e_ofRx, e_ofI, e_nil, e_asg, endS_rt, endS_rn, endS_nx, endS_ex, endN_rn, endN_ex, gC, g1, g2, g3, gA, aNil, aCons, gAnd, gOr, gNot, gB, gTru, bAnd, bOr, bNot, gIf, iA, iSeq, gSl, pNone, pSome, ok_bind, ex_bind, st_bind, gVar, List.getElem?_cons_zero, List.getElem?_cons_succ, List.set_cons_zero, List.set_cons_succ, if_true, if_false, Bool.not_true, Bool.not_false, Bool.false_eq_true, ↓reduceIte, e_asB, e_lt, e_gt, e_le, e_ge, e_ltS, e_gtS, e_eqI, e_eqS, e_eqB, e_neI, e_neS, e_neB, e_addI, e_iaddI, e_subI, e_negI, e_andI, e_orI, e_xorI, e_lenL, e_lenT, e_ord, e_intB, e_intI, e_inS, e_ninS, e_itL, e_itT, e_itS, e_zip, e_enum, e_slL, e_slT, e_asI, e_isN1, e_isN2, e_notN1, e_notN2, e_truB, e_truI, e_truL, e_isi_int_non, e_isi_int_bl, e_isi_int_int, e_isi_int_str, e_isi_int_list, e_isi_int_tup, e_isi_int_dict, e_isi_int_dictT, e_isi_bool_non, e_isi_bool_bl, e_isi_bool_int, e_isi_bool_str, e_isi_bool_list, e_isi_bool_tup, e_isi_bool_dict, e_isi_bool_dictT, e_isi_str_non, e_isi_str_bl, e_isi_str_int, e_isi_str_str, e_isi_str_list, e_isi_str_tup, e_isi_str_dict, e_isi_str_dictT, e_isi_list_non, e_isi_list_bl, e_isi_list_int, e_isi_list_str, e_isi_list_list, e_isi_list_tup, e_isi_list_dict, e_isi_list_dictT, e_isi_tuple_non, e_isi_tuple_bl, e_isi_tuple_int, e_isi_tuple_str, e_isi_tuple_list, e_isi_tuple_tup, e_isi_tuple_dict, e_isi_tuple_dictT, e_isi_dict_non, e_isi_dict_bl, e_isi_dict_int, e_isi_dict_str, e_isi_dict_list, e_isi_dict_tup, e_isi_dict_dict, e_isi_dict_dictT, e_iteAnd, e_iteOr, e_iteAndD, e_iteOrD, e_then_ite, e_endS_ite, e_endN_ite, e_ofR_ite, e_pick_ite, e_bind_ite, e_modI, e_fdivI, e_mul1, e_pow10, e_pow2, e_shl1, e_shrI, e_addS, e_iaddS, e_addL, e_addT, e_lenS, e_lst, e_strLit, String.reduceBEq, e_ixL0, e_ixL1, e_ixL2, e_ixL3, e_ixL4, e_ixL5, e_ixL6, e_ixL7, e_ixL8, e_ixT0, e_ixT1, e_ixT2, e_ixT3, e_ixT4, e_ixT5, e_tupleL, e_listT, e_tupleT, eqX_int, neX_int, eqX_S, neX_S, eqX_t0, neX_t0, e_catL, e_tup, e_inT, e_ninT, e_inL, e_ninL, e_slS, Int.reduceLT, Int.reduceLE, Int.reduceMul, Int.reduceAdd, Int.reduceSub, Int.reducePow, Int.reduceNeg, Int.reduceToNat, List.length_cons, List.length_nil, List.length_append, Nat.reduceAdd, Nat.reduceLeDiff, flD, List.all_cons, List.all_nil, Bool.and_true, Bool.true_and, Bool.and_self, decide_true, decide_false, or_true, true_or, and_true, true_and, eq_self])
/-! ### the law's joined -/
theorem lj_head (u : Rho → S) (k : D) {b o e : D} (r : Rho) (hb : cvD false 3 b = true) (ho : cvD false 3 o = true) (he : cvD false 3 e = true) :
    endS ((sSeq (sIf (gB (g2 eqD (gVar 2) (gVar 3))) (sRet (gA tupD (aCons (gVar 2) (aCons (gA lstD aNil) aNil)))) sNil)
      (sSeq (sIf (bOr (gB (g2 eqD (gVar 2) (gVar 1))) (gB (g2 eqD (gVar 3) (gVar 1)))) (sRet (gA tupD (aCons (g2 ixD (gA lstD (aCons (gVar 2) (aCons (gVar 3) aNil))) (gA intD (aCons (g2 eqD (gVar 2) (gVar 1)) aNil))) (aCons (gA lstD aNil) aNil)))) sNil) u)) (some k :: some b :: some o :: some e :: r)) =
      if eqB o e = true then .ok (.tup [o, .list []]) else if (eqB o b || eqB e b) = true then .ok (.tup [if eqB o b = true then e else o, .list []]) else endS (u (some k :: some b :: some o :: some e :: r)) := by
  walk_at "pd"
  rw [cv_eq ho he]
  walk_at "pd"
  rw [cv_eq ho hb, cv_eq he hb]
  walk_at "pd"
  cases eqB o e with
  | true => rfl
  | false =>
    walk_at "pd"
    cases eqB o b with
    | true => walk_at "pd"
    | false =>
      cases eqB e b with
      | true => walk_at "pd"
      | false => walk_at "pd"
theorem eq_nil : eqD (.list []) (.list []) = .ok (.bl true) := rfl
theorem lj_cell {b o e : Str} (hb : TextOk b) (ho : TextOk o) (he : TextOk e) : F__law_joined_1 [.str "cell", .str b, .str o, .str e] = .ok (.tup [cJ (.str b) (.str o) (.str e), .list (if cW (.str b) (.str o) (.str e) = true then [.str "content"] else [])]) := by
  show endS (S__law_joined_1 (some (.str "cell") :: some (.str b) :: some (.str o) :: some (.str e) :: [none, none, none, none, none, none, none, none])) = _
  unfold S__law_joined_1
  rw [lj_head _ _ _ (text_cv hb 3) (text_cv ho 3) (text_cv he 3)]
  unfold cJ cW
  cases eqB (.str o) (.str e) with
  | true => rfl
  | false =>
    cases eqB (.str o) (.str b) with
    | true => rfl
    | false =>
      cases eqB (.str e) (.str b) with
      | true => rfl
      | false =>
        walk_at "pd"
        generalize hG : gLc _ _ _ _ _ _ = G
        have eG := gLc_filter hG (fun _ => false) id (items := [.str b, .str o, .str e]) (by walk_at "pd") (by simp) (fun d _ => by
          walk_at "pd"
          rfl) (fun d _ h => by cases h)
        rw [eG]
        walk_at "pd"
        rw [show (List.filter (fun _ => false) [D.str b, D.str o, D.str e]).map id = [] from rfl, eq_nil]
        walk_at "pd"
        rfl
theorem firstLen_rws {rows : List D} {m n : Nat} (h : Rws rows m n) (hm : 1 ≤ m) : firstLen rows = n ∧ ∃ cs, ixD (.tup rows) (.int 0) = .ok (.tup cs) ∧ cs.length = n := by
  have hl := h.1
  cases rows with
  | nil => rw [List.length_nil] at hl; omega
  | cons r rows =>
    obtain ⟨cs, rfl, lr, tr⟩ := h.2 r List.mem_cons_self
    refine ⟨lr, cs, ixT_nat (k := 0) (by rw [List.length_cons]; omega), lr⟩
theorem eqv_pr (i j k l : Int) : eqvD (.tup [.int i, .int j]) (.tup [.int k, .int l]) = (i == k && j == l) := by
  show ((i == k) && ((j == l) && true)) = _
  rw [Bool.and_true]
theorem ne_content : neD (.list [.str "content"]) (.list []) = .ok (.bl true) := by
  rw [e_neSh _ _ (by decide +kernel) (by decide +kernel)]
  rfl
/-- one cell more -/
theorem lj_inner {rb ro re : List D} {m n j k : Nat} (hb : Rws rb m n) (ho : Rws ro m n) (he : Rws re m n) (hj : j < m) (hk : k < n) (hm : m ≤ 6) (hn : n ≤ 6) (K Sz : Option D) (acc wd cs : List D) (x y : Option D) (hw : wd.length ≤ 100) (hc : cs.length ≤ 100) :
    B__law_joined_0 [K, some (.tup rb), some (.tup ro), some (.tup re), Sz, some (.list acc), some (.list wd), some (.int (j : Int)), some (.list cs), some (.int (k : Int)), x, y] =
      .nx [K, some (.tup rb), some (.tup ro), some (.tup re), Sz, some (.list acc), some (.list (wd ++ if cW (cellAt rb j k) (cellAt ro j k) (cellAt re j k) = true then [.str (wordOf j k)] else [])), some (.int (j : Int)), some (.list (cs ++ [cJ (cellAt rb j k) (cellAt ro j k) (cellAt re j k)])), some (.int (k : Int)),
        some (cJ (cellAt rb j k) (cellAt ro j k) (cellAt re j k)), some (.list (if cW (cellAt rb j k) (cellAt ro j k) (cellAt re j k) = true then [.str "content"] else []))] := by
  obtain ⟨c1, s1, a1, b1, t1, q1⟩ := cell_is hb hj hk
  obtain ⟨c2, s2, a2, b2, t2, q2⟩ := cell_is ho hj hk
  obtain ⟨c3, s3, a3, b3, t3, q3⟩ := cell_is he hj hk
  rw [q1, q2, q3]
  have z : 100 < sizeLine := by rw [sizeLine_eq]; decide
  unfold B__law_joined_0
  walk_at "pd"
  rw [a1]
  walk_at "pd"
  rw [b1]
  walk_at "pd"
  rw [a2]
  walk_at "pd"
  rw [b2]
  walk_at "pd"
  rw [a3]
  walk_at "pd"
  rw [b3]
  walk_at "pd"
  rw [lj_cell t1 t2 t3]
  walk_at "pd"
  rw [show ∀ (a b : D) (ρ : Rho), τTup 2 (τCons (τName 10) (τCons (τName 11) τNil)) (.tup [a, b]) ρ = .ok ((ρ.set 10 (some a)).set 11 (some b)) from fun _ _ _ => rfl]
  walk_at "pd"
  rw [e_append cs rfl]
  walk_at "pd"
  rw [if_pos (show cs.length < sizeLine by omega)]
  walk_at "pd"
  cases cW (.str s1) (.str s2) (.str s3) with
  | true =>
    rw [if_pos rfl]
    rw [ne_content]
    walk_at "pd"
    rw [e_append wd rfl, word_at (j := j) (k := k) (by omega) (by omega) _ 7 9 rfl rfl]
    walk_at "pd"
    rw [if_pos (show wd.length < sizeLine by omega)]
  | false =>
    rw [if_neg (by decide)]
    rw [show neD (.list []) (.list []) = .ok (.bl false) from rfl]
    walk_at "pd"
    rw [List.append_nil]
theorem lj_loop {rb ro re : List D} {m n j : Nat} (hb : Rws rb m n) (ho : Rws ro m n) (he : Rws re m n) (hj : j < m) (hm : m ≤ 6) (hn : n ≤ 6) (h1 : 1 ≤ m) (K Sz : Option D) (acc wd : List D) (w x y z : Option D) (hw : wd.length ≤ 50) (ha : acc.length ≤ 100) :
    ∃ w' x' y' z', B__law_joined_1 [K, some (.tup rb), some (.tup ro), some (.tup re), Sz, some (.list acc), some (.list wd), some (.int (j : Int)), w, x, y, z] =
      .nx [K, some (.tup rb), some (.tup ro), some (.tup re), Sz, some (.list (acc ++ [.tup (rowJ rb ro re n j)])), some (.list (wd ++ wordsRow rb ro re n j)), some (.int (j : Int)), w', x', y', z'] := by
  unfold B__law_joined_1
  obtain ⟨_, cs0, e0, l0⟩ := firstLen_rws hb h1
  walk_at "pd"
  rw [e0]
  walk_at "pd"
  rw [e_rng1 (cs0.length : Int) (small_ok (by omega) (by omega)), Int.toNat_natCast]
  walk_at "pd"
  generalize hM : forL _ _ _ _ = q
  obtain ⟨ρ', rfl, p1, p2, p3, rfl⟩ := forL_out hM (fun i ρ => ∃ p1 p2 p3, ρ = [K, some (.tup rb), some (.tup ro), some (.tup re), Sz, some (.list acc), some (.list (wd ++ wordsRow rb ro re i j)), some (.int (j : Int)), some (.list (rowJ rb ro re i j)), p1, p2, p3]) ⟨x, y, z, by
    rw [show wordsRow rb ro re 0 j = [] from rfl, List.append_nil]
    rfl⟩ (by
    rintro i d ρ hd ⟨p1, p2, p3, rfl⟩
    have hi : i < (rngL 0 cs0.length).length := (List.getElem?_eq_some_iff.mp hd).1
    rw [rng_len] at hi
    have hd' := hd
    unfold rngL at hd'
    rw [List.getElem?_map, List.getElem?_range hi] at hd'
    cases hd'
    refine ⟨_, rfl, ?_⟩
    show ∃ ρ2, B__law_joined_0 [K, some (.tup rb), some (.tup ro), some (.tup re), Sz, some (.list acc), some (.list (wd ++ wordsRow rb ro re i j)), some (.int (j : Int)), some (.list (rowJ rb ro re i j)), some (.int (0 + (i : Int))), p2, p3] = .nx ρ2 ∧ _
    rw [Int.zero_add]
    have lw := wordsRow_len rb ro re i j
    rw [wordsRow_succ, rowJ_succ, ← List.append_assoc]
    exact ⟨_, lj_inner hb ho he hj (by omega) hm hn K Sz acc (wd ++ wordsRow rb ro re i j) (rowJ rb ro re i j) p2 p3 (by rw [List.length_append]; omega) (by rw [rowJ_len]; omega), _, _, _, rfl⟩)
  rw [rng_len, l0]
  walk_at "pd"
  rw [e_append acc rfl]
  walk_at "pd"
  rw [if_pos (by rw [sizeLine_eq]; omega)]
  exact ⟨_, _, _, _, rfl⟩
theorem TableOk.rws {d : D} (h : TableOk d) : ∃ rows, d = .tup rows ∧ Rws rows rows.length (firstLen rows) ∧ 1 ≤ rows.length ∧ rows.length ≤ 6 ∧ 1 ≤ firstLen rows ∧ firstLen rows ≤ 6 := by
  obtain ⟨rows, n, rfl, h1, h2, h3, h4, hr⟩ := h
  have e := (firstLen_rws (rows := rows) (m := rows.length) ⟨rfl, hr⟩ h1).1
  exact ⟨rows, rfl, ⟨rfl, by rw [e]; exact hr⟩, h1, h2, by omega, by omega⟩
def szD : D → D
  | .tup rows => .tup [.int (rows.length : Int), .int (firstLen rows : Int)]
  | _ => .non
theorem e_mtL {f : D → List D → R D} {go : Rho → R D} {t : Rho → R (List D)} {ρ : Rho} {ds : List D} (h : go ρ = .ok (.list ds)) : gMt "list" f go t ρ = (t ρ).bind fun as => f (.list ds) as := by
  unfold gMt
  rw [h]
  rfl
theorem e_count {ds : List D} {d : D} (h : D.sh d = true) (h' : D.sh (.list ds) = true) : countD (.list ds) [d] = .ok (.int ((ds.countP fun z => eqvD z d : Nat) : Int)) := if_pos (by rw [h, h']; rfl)
theorem cnt3 {a b c : D} (h : eqvD a a = true) : [a, b, c].countP (fun z => eqvD z a) = 1 + (if eqvD b a = true then 1 else 0) + (if eqvD c a = true then 1 else 0) := by
  rw [List.countP_cons, List.countP_cons, List.countP_cons, List.countP_nil, h, if_pos rfl]
  omega
theorem lj_table {b o e : D} (hb : TableOk b) (ho : TableOk o) (he : TableOk e) : F__law_joined [.str "table", b, o, e] = .ok (.tup [(JJ true b o e).1, .list (JJ true b o e).2]) := by
  show endS (S__law_joined (some (.str "table") :: some b :: some o :: some e :: [none, none, none, none, none, none, none, none])) = _
  unfold S__law_joined
  rw [lj_head _ _ _ (table_cv hb 1) (table_cv ho 1) (table_cv he 1)]
  unfold JJ
  cases eqB o e with
  | true => rfl
  | false =>
    cases eqB o b with
    | true => rfl
    | false =>
      cases eqB e b with
      | true => rfl
      | false =>
        rw [if_neg (by decide), if_neg (by decide), if_neg (by decide), if_neg (by decide), if_neg (by decide)]
        obtain ⟨rb, rfl, hb', b1, b2, b3, b4⟩ := hb.rws
        obtain ⟨ro, rfl, ho', o1, o2, o3, o4⟩ := ho.rws
        obtain ⟨re, rfl, he', e1, e2, e3, e4⟩ := he.rws
        have szs : ∀ rows, Rws rows rows.length (firstLen rows) → 1 ≤ rows.length → ∀ ρ : Rho, ρ[5]? = some (some (.tup rows)) → gA tupD (aCons (gA lenD (aCons (gVar 5) aNil)) (aCons (gA lenD (aCons (g2 ixD (gVar 5) (gC (.int 0))) aNil)) aNil)) ρ = .ok (szD (.tup rows)) := fun rows h h1 ρ hρ => by
          obtain ⟨_, cs, e0, l0⟩ := firstLen_rws h h1
          walk_at "pd"
          rw [hρ]
          walk_at "pd"
          rw [e0]
          walk_at "pd"
          rw [l0]
          rfl
        walk_at "pd"
        generalize hG : gLc _ _ _ _ _ _ = G
        have eG := gLc_filter hG (fun _ => true) szD (items := [.tup rb, .tup ro, .tup re]) (by walk_at "pd") (by simp) (fun d _ => by
          walk_at "pd"
          rfl) (fun d hd _ => by
          simp only [List.mem_cons, List.not_mem_nil, or_false] at hd
          rcases hd with rfl | rfl | rfl
          · exact szs rb hb' b1 _ rfl
          · exact szs ro ho' o1 _ rfl
          · exact szs re he' e1 _ rfl)
        rw [eG, show (List.filter (fun _ => true) [D.tup rb, D.tup ro, D.tup re]).map szD = [szD (.tup rb), szD (.tup ro), szD (.tup re)] from rfl]
        walk_at "pd"
        rw [show eqD (.list [szD (.tup rb), szD (.tup ro), szD (.tup re)]) (.list []) = .ok (.bl false) from by
          rw [e_eqSh _ _ (sh_of 2 (shL_sh rfl)) (sh_of 2 (shL_sh rfl))]
          rfl]
        walk_at "pd"
        rw [e_mtL (ds := [szD (.tup rb), szD (.tup ro), szD (.tup re)]) rfl]
        walk_at "pd"
        rw [e_count (sh_of 2 (shL_sh rfl)) (sh_of 2 (shL_sh rfl)), cnt3 (eqv_same (n := 2) (shL_sh rfl))]
        rw [show eqvD (szD (.tup ro)) (szD (.tup rb)) = ((ro.length : Int) == (rb.length : Int) && (firstLen ro : Int) == (firstLen rb : Int)) from eqv_pr _ _ _ _, show eqvD (szD (.tup re)) (szD (.tup rb)) = ((re.length : Int) == (rb.length : Int) && (firstLen re : Int) == (firstLen rb : Int)) from eqv_pr _ _ _ _]
        walk_at "pd"
        unfold clC
        dsimp only
        by_cases h : ro.length = rb.length ∧ re.length = rb.length ∧ firstLen ro = firstLen rb ∧ firstLen re = firstLen rb
        · obtain ⟨h1, h2, h3, h4⟩ := h
          have hc : ro.length = rb.length ∧ re.length = rb.length ∧ firstLen ro = firstLen rb ∧ firstLen re = firstLen rb := ⟨h1, h2, h3, h4⟩
          rw [if_pos hc, h1, h2, h3, h4, beq_nat, beq_nat]
          rw [h1, h3] at ho'
          rw [h2, h4] at he'
          rw [if_neg (by decide)]
          walk_at "pd"
          rw [e_rng1 (rb.length : Int) (small_ok (by omega) (by omega)), Int.toNat_natCast]
          walk_at "pd"
          generalize hL : forL _ _ _ _ = r
          obtain ⟨ρ', rfl, p1, p2, p3, p4, p5, rfl⟩ := forL_out hL (fun i ρ => ∃ p1 p2 p3 p4 p5, ρ = [some (.str "table"), some (.tup rb), some (.tup ro), some (.tup re), some (.list [szD (.tup rb), szD (.tup ro), szD (.tup re)]), some (.list (rowsJ rb ro re i (firstLen rb))), some (.list (wordsJ rb ro re i (firstLen rb))), p1, p2, p3, p4, p5]) ⟨_, _, _, _, _, rfl⟩ (by
            rintro i d ρ hd ⟨p1, p2, p3, p4, p5, rfl⟩
            have hi : i < (rngL 0 rb.length).length := (List.getElem?_eq_some_iff.mp hd).1
            rw [rng_len] at hi
            have hd' := hd
            unfold rngL at hd'
            rw [List.getElem?_map, List.getElem?_range hi] at hd'
            cases hd'
            refine ⟨_, rfl, ?_⟩
            show ∃ ρ2, B__law_joined_1 [some (.str "table"), some (.tup rb), some (.tup ro), some (.tup re), some (.list [szD (.tup rb), szD (.tup ro), szD (.tup re)]), some (.list (rowsJ rb ro re i (firstLen rb))), some (.list (wordsJ rb ro re i (firstLen rb))), some (.int (0 + (i : Int))), p2, p3, p4, p5] = .nx ρ2 ∧ _
            rw [Int.zero_add, wordsJ_succ, rowsJ_succ]
            have lw := wordsJ_len rb ro re (firstLen rb) i
            have lm : i * firstLen rb ≤ 6 * 6 := Nat.mul_le_mul (by omega) b4
            obtain ⟨w', x', y', z', e⟩ := lj_loop hb' ho' he' hi b2 b4 b1 (some (.str "table")) (some (.list [szD (.tup rb), szD (.tup ro), szD (.tup re)])) (rowsJ rb ro re i (firstLen rb)) (wordsJ rb ro re i (firstLen rb)) p2 p3 p4 p5 (by omega) (by rw [rowsJ_len]; omega)
            exact ⟨_, e, _, _, _, _, _, rfl⟩)
          rw [rng_len]
          walk_at "pd"
        · rw [if_neg h]
          have hc : ∀ a b : Bool, (a && b) = false → decide (((1 + (if a = true then 1 else 0) + (if b = true then 1 else 0) : Nat) : Int) < 3) = true := by decide
          rw [if_pos (hc _ _ ?_)]
          refine Bool.eq_false_iff.mpr fun z => h ?_
          simp only [Bool.and_eq_true, beq_iff_eq] at z
          omega
theorem lj_at {k : Str} {t : Bool} (hk : KindOf k t) {b o e : D} (hb : ContOk t b) (ho : ContOk t o) (he : ContOk t e) : F__law_joined [.str k, b, o, e] = .ok (.tup [(JJ t b o e).1, .list (JJ t b o e).2]) := by
  cases t with
  | true =>
    cases hk
    exact lj_table hb ho he
  | false =>
    show endS (S__law_joined (some (.str k) :: some b :: some o :: some e :: [none, none, none, none, none, none, none, none])) = _
    unfold S__law_joined
    rw [lj_head _ _ _ (cont_cv hb) (cont_cv ho) (cont_cv he)]
    unfold JJ
    have hk' : (k == Str.ofString "table") = false := by cases hk <;> decide +kernel
    cases eqB o e with
    | true => rfl
    | false =>
      cases eqB o b with
      | true => rfl
      | false =>
        cases eqB e b with
        | true => rfl
        | false =>
          walk_at "pd"
          generalize hG : gLc _ _ _ _ _ _ = G
          have eG := gLc_filter hG (fun _ => false) id (items := [b, o, e]) (by walk_at "pd") (by simp) (fun d _ => by
            show gB (g2 eqD (gVar 0) (gC (.str "table"))) [some (.str k), some b, some o, some e, none, some d, none, none, none, none, none, none] = _
            walk_at "pd"
            rw [hk']) (fun d _ h => by cases h)
          rw [eG]
          walk_at "pd"
          rw [show (List.filter (fun _ => false) [b, o, e]).map id = [] from rfl, eq_nil]
          walk_at "pd"
          rfl

end Pd

set_option maxHeartbeats 4000000
namespace Pd
open PySem PySem.Spec PyProof.Rows L2
local macro_rules | `(tactic| walk_at "pd") => `(tactic| try simp -implicitDefEqProofs only [e_seq, e_thn, e_trt, e_trn, e_tex, e_if, e_pick, e_pickx, e_ret, e_retN, e_set, e_drop, e_for, e_ofR, e_ofRx, e_ofI, e_nil, e_asg, endS_rt, endS_rn, endS_nx, endS_ex, endN_rn, endN_ex, gC, g1, g2, g3, gA, aNil, aCons, gAnd, gOr, gNot, gB, gTru, bAnd, bOr, bNot, gIf, iA, iSeq, gSl, pNone, pSome, ok_bind, ex_bind, st_bind, gVar, List.getElem?_cons_zero, List.getElem?_cons_succ, List.set_cons_zero, List.set_cons_succ, if_true, if_false, Bool.not_true, Bool.not_false, Bool.false_eq_true, ↓reduceIte, e_asB, e_lt, e_gt, e_le, e_ge, e_ltS, e_gtS, e_eqI, e_eqS, e_eqB, e_neI, e_neS, e_neB, e_addI, e_iaddI, e_subI, e_negI, e_andI, e_orI, e_xorI, e_lenL, e_lenT, e_ord, e_intB, e_intI, e_inS, e_ninS, e_itL, e_itT, e_itS, e_zip, e_enum, e_slL, e_slT, e_asI, e_isN1, e_isN2, e_notN1, e_notN2, e_truB, e_truI, e_truL, e_isi_int_non, e_isi_int_bl, e_isi_int_int, e_isi_int_str, e_isi_int_list, e_isi_int_tup, e_isi_int_dict, e_isi_int_dictT, e_isi_bool_non, e_isi_bool_bl, e_isi_bool_int, e_isi_bool_str, e_isi_bool_list, e_isi_bool_tup, e_isi_bool_dict, e_isi_bool_dictT, e_isi_str_non, e_isi_str_bl, e_isi_str_int, e_isi_str_str, e_isi_str_list, e_isi_str_tup, e_isi_str_dict, e_isi_str_dictT, e_isi_list_non, e_isi_list_bl, e_isi_list_int, e_isi_list_str, e_isi_list_list, e_isi_list_tup, e_isi_list_dict, e_isi_list_dictT, e_isi_tuple_non, e_isi_tuple_bl, e_isi_tuple_int, e_isi_tuple_str, e_isi_tuple_list, e_isi_tuple_tup, e_isi_tuple_dict, e_isi_tuple_dictT, e_isi_dict_non, e_isi_dict_bl, e_isi_dict_int, e_isi_dict_str, e_isi_dict_list, e_isi_dict_tup, e_isi_dict_dict, e_isi_dict_dictT, e_iteAnd, e_iteOr, e_iteAndD, e_iteOrD, e_then_ite, e_endS_ite, e_endN_ite, e_ofR_ite, e_pick_ite, e_bind_ite, e_modI, e_fdivI, e_mul1, e_pow10, e_pow2, e_shl1, e_shrI, e_addS, e_iaddS, e_addL, e_addT, e_lenS, e_lst, e_strLit, String.reduceBEq, e_ixL0, e_ixL1, e_ixL2, e_ixL3, e_ixL4, e_ixL5, e_ixL6, e_ixL7, e_ixL8, e_ixT0, e_ixT1, e_ixT2, e_ixT3, e_ixT4, e_ixT5, e_tupleL, e_listT, e_tupleT, eqX_int, neX_int, eqX_S, neX_S, eqX_t0, neX_t0, e_catL, e_tup, e_inT, e_ninT, e_inL, e_ninL, e_slS, Int.reduceLT, Int.reduceLE, Int.reduceMul, Int.reduceAdd, Int.reduceSub, Int.reducePow, Int.reduceNeg, Int.reduceToNat, List.length_cons, List.length_nil, List.length_append, Nat.reduceAdd, Nat.reduceLeDiff, flD, List.all_cons, List.all_nil, Bool.and_true, Bool.true_and, Bool.and_self, decide_true, decide_false, or_true, true_or, and_true, true_and, eq_self])
local macro_rules | `(tactic| walk_at "pdh") => `(tactic| try simp -implicitDefEqProofs only [e_seq, e_thn, e_trt, e_trn, e_tex, e_if, e_pick, e_pickx, e_ret, e_retN, e_set, e_drop, e_for, e_ofR, e_ofRx, e_ofI, e_nil, e_asg, endS_rt, endS_rn, endS_nx, endS_ex, endN_rn, endN_ex, gC, g1, g2, g3, gA, aNil, aCons, gAnd, gOr, gNot, gB, gTru, bAnd, bOr, bNot, gIf, iA, iSeq, gSl, pNone, pSome, ok_bind, ex_bind, st_bind, gVar, List.getElem?_cons_zero, List.getElem?_cons_succ, List.set_cons_zero, List.set_cons_succ, if_true, if_false, Bool.not_true, Bool.not_false, Bool.false_eq_true, ↓reduceIte, e_asB, e_lt, e_gt, e_le, e_ge, e_ltS, e_gtS, e_eqI, e_eqS, e_eqB, e_neI, e_neS, e_neB, e_addI, e_iaddI, e_subI, e_negI, e_andI, e_orI, e_xorI, e_lenL, e_lenT, e_ord, e_intB, e_intI, e_inS, e_ninS, e_itL, e_itT, e_itS, e_zip, e_enum, e_slL, e_slT, e_asI, e_isN1, e_isN2, e_notN1, e_notN2, e_truB, e_truI, e_truL, e_isi_int_non, e_isi_int_bl, e_isi_int_int, e_isi_int_str, e_isi_int_list, e_isi_int_tup, e_isi_int_dict, e_isi_int_dictT, e_isi_bool_non, e_isi_bool_bl, e_isi_bool_int, e_isi_bool_str, e_isi_bool_list, e_isi_bool_tup, e_isi_bool_dict, e_isi_bool_dictT, e_isi_str_non, e_isi_str_bl, e_isi_str_int, e_isi_str_str, e_isi_str_list, e_isi_str_tup, e_isi_str_dict, e_isi_str_dictT, e_isi_list_non, e_isi_list_bl, e_isi_list_int, e_isi_list_str, e_isi_list_list, e_isi_list_tup, e_isi_list_dict, e_isi_list_dictT, e_isi_tuple_non, e_isi_tuple_bl, e_isi_tuple_int, e_isi_tuple_str, e_isi_tuple_list, e_isi_tuple_tup, e_isi_tuple_dict, e_isi_tuple_dictT, e_isi_dict_non, e_isi_dict_bl, e_isi_dict_int, e_isi_dict_str, e_isi_dict_list, e_isi_dict_tup, e_isi_dict_dict, e_isi_dict_dictT, e_iteAnd, e_iteOr, e_iteAndD, e_iteOrD, e_then_ite, e_endS_ite, e_endN_ite, e_ofR_ite, e_pick_ite, e_bind_ite, e_modI, e_fdivI, e_mul1, e_pow10, e_pow2, e_shl1, e_shrI, e_addS, e_iaddS, e_addL, e_addT, e_lenS, e_lst, e_strLit, String.reduceBEq, e_ixL0, e_ixL1, e_ixL2, e_ixL3, e_ixL4, e_ixL5, e_ixL6, e_ixL7, e_ixL8, e_ixT0, e_ixT1, e_ixT2, e_ixT3, e_ixT4, e_ixT5, e_tupleL, e_listT, e_tupleT, eqX_int, neX_int, eqX_S, neX_S, eqX_t0, neX_t0, e_catL, e_tup, e_inT, e_ninT, e_inL, e_ninL, e_slS, Int.reduceLT, Int.reduceLE, Int.reduceMul, Int.reduceAdd, Int.reduceSub, Int.reducePow, Int.reduceNeg, Int.reduceToNat, List.length_cons, List.length_nil, List.length_append, Nat.reduceAdd, Nat.reduceLeDiff, flD, List.all_cons, List.all_nil, Bool.and_true, Bool.true_and, Bool.and_self, decide_true, decide_false, or_true, true_or, and_true, true_and, eq_self, *])
local macro_rules | `(tactic| walk_at "pdu") => `(tactic| try simp -implicitDefEqProofs only [e_seq, e_forN, e_for0, e_nxn, e_nct, e_nbk, e_nrt, e_nrn, e_nex, e_next_ite, e_thn, e_trt, e_trn, e_tex, e_if, e_pick, e_pickx, e_ret, e_retN, e_set, e_drop, e_for, e_ofR, e_ofRx, e_ofI, e_nil, e_asg, endS_rt, endS_rn, endS_nx, endS_ex, endN_rn, endN_ex, gC, g1, g2, g3, gA, aNil, aCons, gAnd, gOr, gNot, gB, gTru, bAnd, bOr, bNot, gIf, iA, iSeq, gSl, pNone, pSome, ok_bind, ex_bind, st_bind, gVar, List.getElem?_cons_zero, List.getElem?_cons_succ, List.set_cons_zero, List.set_cons_succ, if_true, if_false, Bool.not_true, Bool.not_false, Bool.false_eq_true, ↓reduceIte, e_asB, e_lt, e_gt, e_le, e_ge, e_ltS, e_gtS, e_eqI, e_eqS, e_eqB, e_neI, e_neS, e_neB, e_addI, e_iaddI, e_subI, e_negI, e_andI, e_orI, e_xorI, e_lenL, e_lenT, e_ord, e_intB, e_intI, e_inS, e_ninS, e_itL, e_itT, e_itS, e_zip, e_enum, e_slL, e_slT, e_asI, e_isN1, e_isN2, e_notN1, e_notN2, e_truB, e_truI, e_truL, e_isi_int_non, e_isi_int_bl, e_isi_int_int, e_isi_int_str, e_isi_int_list, e_isi_int_tup, e_isi_int_dict, e_isi_int_dictT, e_isi_bool_non, e_isi_bool_bl, e_isi_bool_int, e_isi_bool_str, e_isi_bool_list, e_isi_bool_tup, e_isi_bool_dict, e_isi_bool_dictT, e_isi_str_non, e_isi_str_bl, e_isi_str_int, e_isi_str_str, e_isi_str_list, e_isi_str_tup, e_isi_str_dict, e_isi_str_dictT, e_isi_list_non, e_isi_list_bl, e_isi_list_int, e_isi_list_str, e_isi_list_list, e_isi_list_tup, e_isi_list_dict, e_isi_list_dictT, e_isi_tuple_non, e_isi_tuple_bl, e_isi_tuple_int, e_isi_tuple_str, e_isi_tuple_list, e_isi_tuple_tup, e_isi_tuple_dict, e_isi_tuple_dictT, e_isi_dict_non, e_isi_dict_bl, e_isi_dict_int, e_isi_dict_str, e_isi_dict_list, e_isi_dict_tup, e_isi_dict_dict, e_isi_dict_dictT, e_iteAnd, e_iteOr, e_iteAndD, e_iteOrD, e_then_ite, e_endS_ite, e_endN_ite, e_ofR_ite, e_pick_ite, e_bind_ite, e_modI, e_fdivI, e_mul1, e_pow10, e_pow2, e_shl1, e_shrI, e_addS, e_iaddS, e_addL, e_addT, e_lenS, e_lst, e_strLit, String.reduceBEq, e_ixL0, e_ixL1, e_ixL2, e_ixL3, e_ixL4, e_ixL5, e_ixL6, e_ixL7, e_ixL8, e_ixT0, e_ixT1, e_ixT2, e_ixT3, e_ixT4, e_ixT5, e_tupleL, e_listT, e_tupleT, eqX_int, neX_int, eqX_S, neX_S, eqX_t0, neX_t0, e_catL, e_tup, e_inT, e_ninT, e_inL, e_ninL, e_slS, Int.reduceLT, Int.reduceLE, Int.reduceMul, Int.reduceAdd, Int.reduceSub, Int.reducePow, Int.reduceNeg, Int.reduceToNat, List.length_cons, List.length_nil, List.length_append, Nat.reduceAdd, Nat.reduceLeDiff, flD, List.all_cons, List.all_nil, Bool.and_true, Bool.true_and, Bool.and_self, decide_true, decide_false, or_true, true_or, and_true, true_and, eq_self])
local macro_rules | `(tactic| walk_at "pdq") => `(tactic| try simp -implicitDefEqProofs only [e_seq, q_seq, q_tnx, q_tex, q_trt, q_then_ite, q_if, q_pick, q_pickx, q_pick_ite, q_nil, q_raise, cl_nil, cl_f, cl_t, cl_n, e_thn, e_trt, e_trn, e_tex, e_if, e_pick, e_pickx, e_ret, e_retN, e_set, e_drop, e_for, e_ofR, e_ofRx, e_ofI, e_nil, e_asg, endS_rt, endS_rn, endS_nx, endS_ex, endN_rn, endN_ex, gC, g1, g2, g3, gA, aNil, aCons, gAnd, gOr, gNot, gB, gTru, bAnd, bOr, bNot, gIf, iA, iSeq, gSl, pNone, pSome, ok_bind, ex_bind, st_bind, gVar, List.getElem?_cons_zero, List.getElem?_cons_succ, List.set_cons_zero, List.set_cons_succ, if_true, if_false, Bool.not_true, Bool.not_false, Bool.false_eq_true, ↓reduceIte, e_asB, e_lt, e_gt, e_le, e_ge, e_ltS, e_gtS, e_eqI, e_eqS, e_eqB, e_neI, e_neS, e_neB, e_addI, e_iaddI, e_subI, e_negI, e_andI, e_orI, e_xorI, e_lenL, e_lenT, e_ord, e_intB, e_intI, e_inS, e_ninS, e_itL, e_itT, e_itS, e_zip, e_enum, e_slL, e_slT, e_asI, e_isN1, e_isN2, e_notN1, e_notN2, e_truB, e_truI, e_truL, e_isi_int_non, e_isi_int_bl, e_isi_int_int, e_isi_int_str, e_isi_int_list, e_isi_int_tup, e_isi_int_dict, e_isi_int_dictT, e_isi_bool_non, e_isi_bool_bl, e_isi_bool_int, e_isi_bool_str, e_isi_bool_list, e_isi_bool_tup, e_isi_bool_dict, e_isi_bool_dictT, e_isi_str_non, e_isi_str_bl, e_isi_str_int, e_isi_str_str, e_isi_str_list, e_isi_str_tup, e_isi_str_dict, e_isi_str_dictT, e_isi_list_non, e_isi_list_bl, e_isi_list_int, e_isi_list_str, e_isi_list_list, e_isi_list_tup, e_isi_list_dict, e_isi_list_dictT, e_isi_tuple_non, e_isi_tuple_bl, e_isi_tuple_int, e_isi_tuple_str, e_isi_tuple_list, e_isi_tuple_tup, e_isi_tuple_dict, e_isi_tuple_dictT, e_isi_dict_non, e_isi_dict_bl, e_isi_dict_int, e_isi_dict_str, e_isi_dict_list, e_isi_dict_tup, e_isi_dict_dict, e_isi_dict_dictT, e_iteAnd, e_iteOr, e_iteAndD, e_iteOrD, e_then_ite, e_endS_ite, e_endN_ite, e_ofR_ite, e_pick_ite, e_bind_ite, e_modI, e_fdivI, e_mul1, e_pow10, e_pow2, e_shl1, e_shrI, e_addS, e_iaddS, e_addL, e_addT, e_lenS, e_lst, e_strLit, String.reduceBEq, e_ixL0, e_ixL1, e_ixL2, e_ixL3, e_ixL4, e_ixL5, e_ixL6, e_ixL7, e_ixL8, e_ixT0, e_ixT1, e_ixT2, e_ixT3, e_ixT4, e_ixT5, e_tupleL, e_listT, e_tupleT, eqX_int, neX_int, eqX_S, neX_S, eqX_t0, neX_t0, e_catL, e_tup, e_inT, e_ninT, e_inL, e_ninL, e_slS, Int.reduceLT, Int.reduceLE, Int.reduceMul, Int.reduceAdd, Int.reduceSub, Int.reducePow, Int.reduceNeg, Int.reduceToNat, List.length_cons, List.length_nil, List.length_append, Nat.reduceAdd, Nat.reduceLeDiff, flD, List.all_cons, List.all_nil, Bool.and_true, Bool.true_and, Bool.and_self, decide_true, decide_false, or_true, true_or, and_true, true_and, eq_self])
local macro_rules | `(tactic| walk_at "pdr") => `(tactic| try simp -implicitDefEqProofs only [e_seq, q_seq, q_tnx, q_tex, q_trt, q_then_ite, q_nil, q_raise, cl_nil, cl_f, cl_t, cl_n, s_ok, s_ex, e_sqRet, e_sqSet, e_sqExpr, e_sqAsg, asg_some, e_tqName, e_tqTup2, e_qP, e_upok, e_upex, e_qVar, e_varok, e_qNew, e_newok, rq_ok, rq_ex, e_aqN, e_aqC, e_qPA, e_qCall, e_qTup, e_tupP2, e_qSn, e_qSnT, e_tok, e_qT, e_up_ite, pk_ite, s_ite, tst_ite, e_end_ite, q_ifS, pk_ok, sn_nil, sn_s, sn_n, fu_f, e_qIx, e_endrt, e_endnx, List.map_cons, List.map_nil, Bool.or_false, Bool.or_true, Bool.true_or, Bool.false_or, e_thn, e_trt, e_trn, e_tex, e_if, e_pick, e_pickx, e_ret, e_retN, e_set, e_drop, e_for, e_ofR, e_ofRx, e_ofI, e_nil, e_asg, endS_rt, endS_rn, endS_nx, endS_ex, endN_rn, endN_ex, gC, g1, g2, g3, gA, aNil, aCons, gAnd, gOr, gNot, gB, gTru, bAnd, bOr, bNot, gIf, iA, iSeq, gSl, pNone, pSome, ok_bind, ex_bind, st_bind, gVar, List.getElem?_cons_zero, List.getElem?_cons_succ, List.set_cons_zero, List.set_cons_succ, if_true, if_false, Bool.not_true, Bool.not_false, Bool.false_eq_true, ↓reduceIte, e_asB, e_lt, e_gt, e_le, e_ge, e_ltS, e_gtS, e_eqI, e_eqS, e_eqB, e_neI, e_neS, e_neB, e_addI, e_iaddI, e_subI, e_negI, e_andI, e_orI, e_xorI, e_lenL, e_lenT, e_ord, e_intB, e_intI, e_inS, e_ninS, e_itL, e_itT, e_itS, e_zip, e_enum, e_slL, e_slT, e_asI, e_isN1, e_isN2, e_notN1, e_notN2, e_truB, e_truI, e_truL, e_isi_int_non, e_isi_int_bl, e_isi_int_int, e_isi_int_str, e_isi_int_list, e_isi_int_tup, e_isi_int_dict, e_isi_int_dictT, e_isi_bool_non, e_isi_bool_bl, e_isi_bool_int, e_isi_bool_str, e_isi_bool_list, e_isi_bool_tup, e_isi_bool_dict, e_isi_bool_dictT, e_isi_str_non, e_isi_str_bl, e_isi_str_int, e_isi_str_str, e_isi_str_list, e_isi_str_tup, e_isi_str_dict, e_isi_str_dictT, e_isi_list_non, e_isi_list_bl, e_isi_list_int, e_isi_list_str, e_isi_list_list, e_isi_list_tup, e_isi_list_dict, e_isi_list_dictT, e_isi_tuple_non, e_isi_tuple_bl, e_isi_tuple_int, e_isi_tuple_str, e_isi_tuple_list, e_isi_tuple_tup, e_isi_tuple_dict, e_isi_tuple_dictT, e_isi_dict_non, e_isi_dict_bl, e_isi_dict_int, e_isi_dict_str, e_isi_dict_list, e_isi_dict_tup, e_isi_dict_dict, e_isi_dict_dictT, e_iteAnd, e_iteOr, e_iteAndD, e_iteOrD, e_then_ite, e_endS_ite, e_endN_ite, e_ofR_ite, e_pick_ite, e_bind_ite, e_modI, e_fdivI, e_mul1, e_pow10, e_pow2, e_shl1, e_shrI, e_addS, e_iaddS, e_addL, e_addT, e_lenS, e_lst, e_strLit, String.reduceBEq, e_ixL0, e_ixL1, e_ixL2, e_ixL3, e_ixL4, e_ixL5, e_ixL6, e_ixL7, e_ixL8, e_ixT0, e_ixT1, e_ixT2, e_ixT3, e_ixT4, e_ixT5, e_tupleL, e_listT, e_tupleT, eqX_int, neX_int, eqX_S, neX_S, eqX_t0, neX_t0, e_catL, e_tup, e_inT, e_ninT, e_inL, e_ninL, e_slS, Int.reduceLT, Int.reduceLE, Int.reduceMul, Int.reduceAdd, Int.reduceSub, Int.reducePow, Int.reduceNeg, Int.reduceToNat, List.length_cons, List.length_nil, List.length_append, Nat.reduceAdd, Nat.reduceLeDiff, flD, List.all_cons, List.all_nil, Bool.and_true, Bool.true_and, Bool.and_self, decide_true, decide_false, or_true, true_or, and_true, true_and, eq_self])
local macro_rules | `(tactic| walk_at "pdv") => `(tactic| try simp -implicitDefEqProofs only [e_seq, Int.reduceBEq, Int.cast_ofNat_Int, e_thn, e_trt, e_trn, e_tex, e_if, e_pick, e_pickx, e_ret, e_retN, e_set, e_drop, e_for, e_ofR, e_ofRx, e_ofI, e_nil, e_asg, endS_rt, endS_rn, endS_nx, endS_ex, endN_rn, endN_ex, gC, g1, g2, g3, gA, aNil, aCons, gAnd, gOr, gNot, gB, gTru, bAnd, bOr, bNot, gIf, iA, iSeq, gSl, pNone, pSome, ok_bind, ex_bind, st_bind, gVar, List.getElem?_cons_zero, List.getElem?_cons_succ, List.set_cons_zero, List.set_cons_succ, if_true, if_false, Bool.not_true, Bool.not_false, Bool.false_eq_true, ↓reduceIte, e_asB, e_lt, e_gt, e_le, e_ge, e_ltS, e_gtS, e_eqI, e_eqS, e_eqB, e_neI, e_neS, e_neB, e_addI, e_iaddI, e_subI, e_negI, e_andI, e_orI, e_xorI, e_lenL, e_lenT, e_ord, e_intB, e_intI, e_inS, e_ninS, e_itL, e_itT, e_itS, e_zip, e_enum, e_slL, e_slT, e_asI, e_isN1, e_isN2, e_notN1, e_notN2, e_truB, e_truI, e_truL, e_isi_int_non, e_isi_int_bl, e_isi_int_int, e_isi_int_str, e_isi_int_list, e_isi_int_tup, e_isi_int_dict, e_isi_int_dictT, e_isi_bool_non, e_isi_bool_bl, e_isi_bool_int, e_isi_bool_str, e_isi_bool_list, e_isi_bool_tup, e_isi_bool_dict, e_isi_bool_dictT, e_isi_str_non, e_isi_str_bl, e_isi_str_int, e_isi_str_str, e_isi_str_list, e_isi_str_tup, e_isi_str_dict, e_isi_str_dictT, e_isi_list_non, e_isi_list_bl, e_isi_list_int, e_isi_list_str, e_isi_list_list, e_isi_list_tup, e_isi_list_dict, e_isi_list_dictT, e_isi_tuple_non, e_isi_tuple_bl, e_isi_tuple_int, e_isi_tuple_str, e_isi_tuple_list, e_isi_tuple_tup, e_isi_tuple_dict, e_isi_tuple_dictT, e_isi_dict_non, e_isi_dict_bl, e_isi_dict_int, e_isi_dict_str, e_isi_dict_list, e_isi_dict_tup, e_isi_dict_dict, e_isi_dict_dictT, e_iteAnd, e_iteOr, e_iteAndD, e_iteOrD, e_then_ite, e_endS_ite, e_endN_ite, e_ofR_ite, e_pick_ite, e_bind_ite, e_modI, e_fdivI, e_mul1, e_pow10, e_pow2, e_shl1, e_shrI, e_addS, e_iaddS, e_addL, e_addT, e_lenS, e_lst, e_strLit, String.reduceBEq, e_ixL0, e_ixL1, e_ixL2, e_ixL3, e_ixL4, e_ixL5, e_ixL6, e_ixL7, e_ixL8, e_ixT0, e_ixT1, e_ixT2, e_ixT3, e_ixT4, e_ixT5, e_tupleL, e_listT, e_tupleT, eqX_int, neX_int, eqX_S, neX_S, eqX_t0, neX_t0, e_catL, e_tup, e_inT, e_ninT, e_inL, e_ninL, e_slS, Int.reduceLT, Int.reduceLE, Int.reduceMul, Int.reduceAdd, Int.reduceSub, Int.reducePow, Int.reduceNeg, Int.reduceToNat, List.length_cons, List.length_nil, List.length_append, Nat.reduceAdd, Nat.reduceLeDiff, flD, List.all_cons, List.all_nil, Bool.and_true, Bool.true_and, Bool.and_self, decide_true, decide_false, or_true, true_or, and_true, true_and, eq_self])
/-! ### the program's joined -/
theorem kc_at (K b o e : D) (M : Mem) : FQ_Kind_clashed [(false, K), (false, b), (false, o), (false, e)] M = .ok (true, .tup [b, .loc M.length]) (M ++ [(false, .list [.str "content"])]) := by
  show endQ (SQ_Kind_clashed [some (false, K), some (false, b), some (false, o), some (false, e)] M) = _
  unfold SQ_Kind_clashed
  walk_at "pdr"
theorem kj_head (u : SQF) (K : D) {b o e : D} (M : Mem) (hb : cvD false 3 b = true) (ho : cvD false 3 o = true) (he : cvD false 3 e = true) :
    endQ ((sqSeq (sqIf (qT (bOr (gB (g2 eqD (gVar 2) (gVar 3))) (gB (g2 eqD (gVar 3) (gVar 1))))) (sqRet (qTup (aqCons (qP (gVar 2)) (aqCons (qNew (gA lstD aNil)) aqNil)))) sqNil)
      (sqSeq (sqIf (qT (gB (g2 eqD (gVar 2) (gVar 1)))) (sqRet (qTup (aqCons (qP (gVar 3)) (aqCons (qNew (gA lstD aNil)) aqNil)))) sqNil) u)) [some (false, K), some (false, b), some (false, o), some (false, e)] M) =
      if (eqB o e || eqB e b) = true then .ok (true, .tup [o, .loc M.length]) (M ++ [(false, .list [])]) else if eqB o b = true then .ok (true, .tup [e, .loc M.length]) (M ++ [(false, .list [])]) else endQ (u [some (false, K), some (false, b), some (false, o), some (false, e)] M) := by
  walk_at "pdr"
  rw [cv_eq ho he]
  walk_at "pdr"
  rw [cv_eq he hb]
  walk_at "pdr"
  rw [cv_eq ho hb]
  cases eqB o e with
  | true => walk_at "pdr"
  | false =>
    cases eqB e b with
    | true => walk_at "pdr"
    | false =>
      cases eqB o b with
      | true => walk_at "pdr"
      | false => walk_at "pdr"
theorem obj_lit (c : Str) (M : Mem) : objP M (false, .obj c []) = some (false, c, []) := rfl
theorem kj_cell {b o e : D} (M : Mem) (hb : cvD false 3 b = true) (ho : cvD false 3 o = true) (he : cvD false 3 e = true) :
    FQ_Kind_joined_1 [(false, .obj "Para" []), (false, b), (false, o), (false, e)] M = .ok (true, .tup [cJ b o e, .loc M.length]) (M ++ [(false, .list (if cW b o e = true then [.str "content"] else []))]) := by
  show endQ (SQ_Kind_joined_1 [some (false, .obj "Para" []), some (false, b), some (false, o), some (false, e)] M) = _
  unfold SQ_Kind_joined_1
  rw [kj_head _ _ _ hb ho he]
  unfold cJ cW
  cases h1 : eqB o e with
  | true => rfl
  | false =>
    cases h2 : eqB e b with
    | true =>
      have h3 : eqB o b = false := by
        cases h3 : eqB o b with
        | false => rfl
        | true =>
          rw [eqB_iff] at h2 h3
          rw [h3, h2, eqB_same] at h1
          cases h1
      rw [h3]
      rfl
    | false =>
      cases eqB o b with
      | true => rfl
      | false =>
        rw [if_neg (by decide), if_neg (by decide), if_neg (by decide), if_neg (by decide), if_neg (by decide)]
        rw [e_sqRet, e_qMeth (p := (false, .obj "Para" [])) (M1 := M) (M2 := M) (c := "Para") (fs := []) (b := false) (G := FQ_Kind_clashed) (ps := [(false, b), (false, o), (false, e)]) rfl rfl rfl rfl rfl, kc_at]
        rfl
theorem set_ne {M : Mem} {i j : Nat} {x : P} (h : i ≠ j) : (M.set i x)[j]? = M[j]? := by
  rw [List.getElem?_set]
  exact if_neg h
theorem set_eq {M : Mem} {i : Nat} {x : P} (h : i < M.length) : (M.set i x)[i]? = some x := by
  rw [List.getElem?_set, if_pos rfl, if_pos h]
theorem app_l {M : Mem} {i : Nat} {x q : P} (h : M[i]? = some x) : (M ++ [q])[i]? = some x := by
  rw [List.getElem?_append_left (List.getElem?_eq_some_iff.mp h).1, h]
theorem app_n {M : Mem} {q : P} : (M ++ [q])[M.length]? = some q := by
  rw [List.getElem?_append_right (Nat.le_refl _), Nat.sub_self]
  rfl
theorem lt_of {M : Mem} {i : Nat} {x : P} (h : M[i]? = some x) : i < M.length := (List.getElem?_eq_some_iff.mp h).1
theorem wr_cv (b : Bool) : cvD true 1 (.list (if b = true then [.str "content"] else [])) = true := by cases b <;> decide +kernel
theorem tc_inner {rb ro re : List D} {m n j k : Nat} (hb : Rws rb m n) (ho : Rws ro m n) (he : Rws re m n) (hj : j < m) (hk : k < n) (hm : m ≤ 6) (hn : n ≤ 6) (K : D) {M : Mem} {p r : Nat} {f0 fr : Bool} {acc wd cs : List D} (x y : Option P)
    (h0 : M[p]? = some (f0, .list acc)) (h1 : M[p + 1]? = some (false, .list wd)) (h2 : M[r]? = some (fr, .list cs)) (hr : p + 2 ≤ r) (hw : wd.length ≤ 100) (hc : cs.length ≤ 100) :
    ∃ M' x' y', B_Table_clashed_0 [some (false, K), some (false, .tup rb), some (false, .tup ro), some (false, .tup re), some (true, .loc p), some (true, .loc (p + 1)), some (false, .int (j : Int)), some (true, .loc r), some (false, .int (k : Int)), x, y] M =
      .nx [some (false, K), some (false, .tup rb), some (false, .tup ro), some (false, .tup re), some (true, .loc p), some (true, .loc (p + 1)), some (false, .int (j : Int)), some (true, .loc r), some (false, .int (k : Int)), x', y'] M' ∧
      M'[p]? = some (f0, .list acc) ∧ M'[p + 1]? = some (false, .list (wd ++ if cW (cellAt rb j k) (cellAt ro j k) (cellAt re j k) = true then [.str (wordOf j k)] else [])) ∧ M'[r]? = some (true, .list (cs ++ [cJ (cellAt rb j k) (cellAt ro j k) (cellAt re j k)])) := by
  obtain ⟨c1, s1, a1, b1, t1, q1⟩ := cell_is hb hj hk
  obtain ⟨c2, s2, a2, b2, t2, q2⟩ := cell_is ho hj hk
  obtain ⟨c3, s3, a3, b3, t3, q3⟩ := cell_is he hj hk
  rw [q1, q2, q3]
  have z : 100 < sizeLine := by rw [sizeLine_eq]; decide
  have ht : qPA (aCons (g2 ixD (g2 ixD (gVar 1) (gVar 6)) (gVar 8)) (aCons (g2 ixD (g2 ixD (gVar 2) (gVar 6)) (gVar 8)) (aCons (g2 ixD (g2 ixD (gVar 3) (gVar 6)) (gVar 8)) aNil))) [some (false, K), some (false, .tup rb), some (false, .tup ro), some (false, .tup re), some (true, .loc p), some (true, .loc (p + 1)), some (false, .int (j : Int)), some (true, .loc r), some (false, .int (k : Int)), x, y] M = .ok [(false, .str s1), (false, .str s2), (false, .str s3)] M := by
    walk_at "pdr"
    rw [a1]
    walk_at "pdr"
    rw [b1]
    walk_at "pdr"
    rw [a2]
    walk_at "pdr"
    rw [b2]
    walk_at "pdr"
    rw [a3]
    walk_at "pdr"
    rw [b3]
    walk_at "pdr"
  have hJ := kj_cell M (text_cv t1 3) (text_cv t2 3) (text_cv t3 3)
  generalize hC : cJ (.str s1) (.str s2) (.str s3) = C at hJ ⊢
  generalize hW : cW (.str s1) (.str s2) (.str s3) = Wb at hJ ⊢
  have hr' := lt_of h2
  have n0 : (M ++ [(false, D.list (if Wb = true then [.str "content"] else []))]).length = M.length + 1 := by rw [List.length_append]; rfl
  unfold B_Table_clashed_0
  rw [q_seq, e_sqAsg, e_qMeth (p := (false, .obj "Para" [])) (M1 := M) (M2 := M) (c := "Para") (fs := []) (b := false) (G := FQ_Kind_joined_1) rfl rfl rfl rfl ht, hJ, s_ok, e_tqTup2, asg_some, q_tnx]
  walk_at "pdr"
  rw [e_qApp (k := r) (b := fr) (b0 := fr) (ds := cs) (ds0 := cs) (p := (true, C)) (M1 := M ++ [(false, D.list (if Wb = true then [.str "content"] else []))]) rfl (app_l h2) rfl (app_l h2) (by omega)]
  walk_at "pdr"
  have g3 : ((M ++ [(false, D.list (if Wb = true then [.str "content"] else []))]).set r (true, .list (cs ++ [C])))[M.length]? = some (false, D.list (if Wb = true then [.str "content"] else [])) := (set_ne (by omega)).trans app_n
  have g0 : ((M ++ [(false, D.list (if Wb = true then [.str "content"] else []))]).set r (true, .list (cs ++ [C])))[p]? = some (f0, .list acc) := (set_ne (by omega)).trans (app_l h0)
  have g1 : ((M ++ [(false, D.list (if Wb = true then [.str "content"] else []))]).set r (true, .list (cs ++ [C])))[p + 1]? = some (false, .list wd) := (set_ne (by omega)).trans (app_l h1)
  have g2' : ((M ++ [(false, D.list (if Wb = true then [.str "content"] else []))]).set r (true, .list (cs ++ [C])))[r]? = some (true, .list (cs ++ [C])) := set_eq (by omega)
  generalize ((M ++ [(false, D.list (if Wb = true then [.str "content"] else []))]).set r (true, .list (cs ++ [C]))) = M3 at *
  rw [fu_loc g3 (wr_cv Wb)]
  have nlt : p + 1 < M3.length := lt_of g1
  cases Wb with
  | true =>
    rw [show (if true = true then [D.str "content"] else []) = [D.str "content"] from rfl, show (if true = true then [D.str (wordOf j k)] else []) = [D.str (wordOf j k)] from rfl]
    walk_at "pdr"
    rw [ne_content]
    walk_at "pdr"
    rw [e_qApp (k := p + 1) (b := false) (b0 := false) (ds := wd) (ds0 := wd) (p := (false, .str (wordOf j k))) (M1 := M3) rfl g1 (by
      rw [e_qP, word_at (j := j) (k := k) (by omega) (by omega) _ 6 8 rfl rfl]
      rfl) g1 (by omega)]
    exact ⟨_, _, _, rfl, (set_ne (by omega)).trans g0, set_eq nlt, (set_ne (by omega)).trans g2'⟩
  | false =>
    rw [show (if false = true then [D.str "content"] else []) = [] from rfl, show (if false = true then [D.str (wordOf j k)] else []) = [] from rfl]
    walk_at "pdr"
    rw [show neD (.list []) (.list []) = .ok (.bl false) from rfl]
    walk_at "pdr"
    refine ⟨_, _, _, rfl, g0, ?_, g2'⟩
    rw [List.append_nil]
    exact g1
theorem rng_items {n : Nat} {i : Nat} {q : P} (h : ((rngL 0 n).map fun d => (false, d))[i]? = some q) : i < n ∧ q = (false, .int (i : Int)) := by
  have hi : i < ((rngL 0 n).map fun d => ((false, d) : P)).length := (List.getElem?_eq_some_iff.mp h).1
  rw [List.length_map, rng_len] at hi
  refine ⟨hi, ?_⟩
  unfold rngL at h
  rw [List.getElem?_map, List.getElem?_map, List.getElem?_range hi] at h
  have := Option.some.inj h
  rw [← this]
  show ((false, D.int (0 + (i : Int))) : P) = _
  rw [Int.zero_add]
theorem row_cv' {rb ro re : List D} {m n j : Nat} (hb : Rws rb m n) (ho : Rws ro m n) (he : Rws re m n) (hj : j < m) : textsOk (rowJ rb ro re n j) := fun d hd => by
  unfold rowJ at hd
  obtain ⟨k, hk, rfl⟩ := List.mem_map.mp hd
  have hk := List.mem_range.mp hk
  obtain ⟨_, s1, _, _, t1, q1⟩ := cell_is hb hj hk
  obtain ⟨_, s2, _, _, t2, q2⟩ := cell_is ho hj hk
  obtain ⟨_, s3, _, _, t3, q3⟩ := cell_is he hj hk
  rw [q1, q2, q3]
  unfold cJ
  repeat' split
  · exact ⟨_, rfl, t2⟩
  · exact ⟨_, rfl, t3⟩
  · exact ⟨_, rfl, t2⟩
  · exact ⟨_, rfl, t1⟩
theorem texts_cv {ds : List D} (h : textsOk ds) (n : Nat) : ∀ d ∈ ds, cvD false n d = true := fun d hd => by
  obtain ⟨s, rfl, hs⟩ := h d hd
  exact text_cv hs n
theorem tc_loop {rb ro re : List D} {m n j : Nat} (hb : Rws rb m n) (ho : Rws ro m n) (he : Rws re m n) (hj : j < m) (hm : m ≤ 6) (hn : n ≤ 6) (h1 : 1 ≤ m) (K : D) {M : Mem} {p : Nat} {acc wd : List D} (u v x y : Option P)
    (g0 : M[p]? = some (false, .list acc)) (g1 : M[p + 1]? = some (false, .list wd)) (hw : wd.length ≤ 50) (ha : acc.length ≤ 100) :
    ∃ M' u' v' x' y', B_Table_clashed_1 [some (false, K), some (false, .tup rb), some (false, .tup ro), some (false, .tup re), some (true, .loc p), some (true, .loc (p + 1)), some (false, .int (j : Int)), u, v, x, y] M =
      .nx [some (false, K), some (false, .tup rb), some (false, .tup ro), some (false, .tup re), some (true, .loc p), some (true, .loc (p + 1)), some (false, .int (j : Int)), u', v', x', y'] M' ∧
      M'[p]? = some (false, .list (acc ++ [.tup (rowJ rb ro re n j)])) ∧ M'[p + 1]? = some (false, .list (wd ++ wordsRow rb ro re n j)) := by
  unfold B_Table_clashed_1
  obtain ⟨_, cs0, e0, l0⟩ := firstLen_rws hb h1
  have z : 100 < sizeLine := by rw [sizeLine_eq]; decide
  walk_at "pdr"
  rw [e_sqFor (items := rngL 0 n) (by
    walk_at "pdr"
    rw [e0]
    walk_at "pdr"
    rw [e_rng1 (cs0.length : Int) (small_ok (by omega) (by omega)), Int.toNat_natCast, l0])]
  generalize hM : forLQ _ _ _ _ _ = q
  obtain ⟨ρ', M', rfl, ⟨fr, p1, p2, p3, rfl, k0, k1, k2⟩⟩ := forLQ_out hM (fun i ρ M' => ∃ fr p1 p2 p3, ρ = [some (false, K), some (false, .tup rb), some (false, .tup ro), some (false, .tup re), some (true, .loc p), some (true, .loc (p + 1)), some (false, .int (j : Int)), some (true, .loc M.length), p1, p2, p3] ∧
      M'[p]? = some (false, .list acc) ∧ M'[p + 1]? = some (false, .list (wd ++ wordsRow rb ro re i j)) ∧ M'[M.length]? = some (fr, .list (rowJ rb ro re i j))) ⟨false, v, x, y, rfl, app_l g0, by
        rw [show wordsRow rb ro re 0 j = [] from rfl, List.append_nil]
        exact app_l g1, app_n⟩ (by
    rintro i q ρ M2 hq ⟨fr, p1, p2, p3, rfl, k0, k1, k2⟩
    obtain ⟨hi, rfl⟩ := rng_items hq
    refine ⟨_, rfl, ?_⟩
    have lw := wordsRow_len rb ro re i j
    have hl := lt_of g1
    obtain ⟨M3, x', y', e, m0, m1, m2⟩ := tc_inner hb ho he hj hi hm hn K p2 p3 k0 k1 k2 (by omega) (by rw [List.length_append]; omega) (by rw [rowJ_len]; omega)
    refine ⟨_, _, e, true, _, _, _, rfl, m0, ?_, ?_⟩
    · rw [wordsRow_succ, ← List.append_assoc]
      exact m1
    · rw [rowJ_succ]
      exact m2)
  rw [List.length_map, rng_len] at k1 k2
  walk_at "pdr"
  have hrow : cvD true 1 (.list (rowJ rb ro re n j)) = true := by
    show (true && (rowJ rb ro re n j).all (cvD true 0)) = true
    rw [Bool.true_and]
    exact List.all_eq_true.mpr fun d hd => cv_mono (texts_cv (row_cv' hb ho he hj) 0 d hd)
  rw [e_qApp (k := p) (b := false) (b0 := false) (ds := acc) (ds0 := acc) (p := (false, .tup (rowJ rb ro re n j))) (M1 := M') rfl k0 (by
    rw [e_qSn]
    walk_at "pdr"
    rw [fu_loc k2 hrow]
    walk_at "pdr"
    exact up_off (offs_cv 0 _ (texts_cv (row_cv' hb ho he hj) 0))) k0 (by omega)]
  exact ⟨_, _, _, _, _, rfl, set_eq (lt_of k0), (set_ne (by omega)).trans k1⟩

end Pd

set_option maxHeartbeats 4000000
namespace Pd
open PySem PySem.Spec PyProof.Rows L2
local macro_rules | `(tactic| walk_at "pd") => `(tactic| try simp -implicitDefEqProofs only [e_seq, e_thn, e_trt, e_trn, e_tex, e_if, e_pick, e_pickx, e_ret, e_retN, e_set, e_drop, e_for, e_ofR, e_ofRx, e_ofI, e_nil, e_asg, endS_rt, endS_rn, endS_nx, endS_ex, endN_rn, endN_ex, gC, g1, g2, g3, gA, aNil, aCons, gAnd, gOr, gNot, gB, gTru, bAnd, bOr, bNot, gIf, iA, iSeq, gSl, pNone, pSome, ok_bind, ex_bind, st_bind, gVar, List.getElem?_cons_zero, List.getElem?_cons_succ, List.set_cons_zero, List.set_cons_succ, if_true, if_false, Bool.not_true, Bool.not_false, Bool.false_eq_true, ↓reduceIte, e_asB, e_lt, e_gt, e_le, e_ge, e_ltS, e_gtS, e_eqI, e_eqS, e_eqB, e_neI, e_neS, e_neB, e_addI, e_iaddI, e_subI, e_negI, e_andI, e_orI, e_xorI, e_lenL, e_lenT, e_ord, e_intB, e_intI, e_inS, e_ninS, e_itL, e_itT, e_itS, e_zip, e_enum, e_slL, e_slT, e_asI, e_isN1, e_isN2, e_notN1, e_notN2, e_truB, e_truI, e_truL, e_isi_int_non, e_isi_int_bl, e_isi_int_int, e_isi_int_str, e_isi_int_list, e_isi_int_tup, e_isi_int_dict, e_isi_int_dictT, e_isi_bool_non, e_isi_bool_bl, e_isi_bool_int, e_isi_bool_str, e_isi_bool_list, e_isi_bool_tup, e_isi_bool_dict, e_isi_bool_dictT, e_isi_str_non, e_isi_str_bl, e_isi_str_int, e_isi_str_str, e_isi_str_list, e_isi_str_tup, e_isi_str_dict, e_isi_str_dictT, e_isi_list_non, e_isi_list_bl, e_isi_list_int, e_isi_list_str, e_isi_list_list, e_isi_list_tup, e_isi_list_dict, e_isi_list_dictT, e_isi_tuple_non, e_isi_tuple_bl, e_isi_tuple_int, e_isi_tuple_str, e_isi_tuple_list, e_isi_tuple_tup, e_isi_tuple_dict, e_isi_tuple_dictT, e_isi_dict_non, e_isi_dict_bl, e_isi_dict_int, e_isi_dict_str, e_isi_dict_list, e_isi_dict_tup, e_isi_dict_dict, e_isi_dict_dictT, e_iteAnd, e_iteOr, e_iteAndD, e_iteOrD, e_then_ite, e_endS_ite, e_endN_ite, e_ofR_ite, e_pick_ite, e_bind_ite, e_modI, e_fdivI, e_mul1, e_pow10, e_pow2, e_shl1, e_shrI, e_addS, e_iaddS, e_addL, e_addT, e_lenS, e_lst, e_strLit, String.reduceBEq, e_ixL0, e_ixL1, e_ixL2, e_ixL3, e_ixL4, e_ixL5, e_ixL6, e_ixL7, e_ixL8, e_ixT0, e_ixT1, e_ixT2, e_ixT3, e_ixT4, e_ixT5, e_tupleL, e_listT, e_tupleT, eqX_int, neX_int, eqX_S, neX_S, eqX_t0, neX_t0, e_catL, e_tup, e_inT, e_ninT, e_inL, e_ninL, e_slS, Int.reduceLT, Int.reduceLE, Int.reduceMul, Int.reduceAdd, Int.reduceSub, Int.reducePow, Int.reduceNeg, Int.reduceToNat, List.length_cons, List.length_nil, List.length_append, Nat.reduceAdd, Nat.reduceLeDiff, flD, List.all_cons, List.all_nil, Bool.and_true, Bool.true_and, Bool.and_self, decide_true, decide_false, or_true, true_or, and_true, true_and, eq_self])
local macro_rules | `(tactic| walk_at "pdh") => `(tactic| try simp -implicitDefEqProofs only [e_seq, e_thn, e_trt, e_trn, e_tex, e_if, e_pick, e_pickx, e_ret, e_retN, e_set, e_drop, e_for, e_ofR, e_ofRx, e_ofI, e_nil, e_asg, endS_rt, endS_rn, endS_nx, endS_ex, endN_rn, endN_ex, gC, g1, g2, g3, gA, aNil, aCons, gAnd, gOr, gNot, gB, gTru, bAnd, bOr, bNot, gIf, iA, iSeq, gSl, pNone, pSome, ok_bind, ex_bind, st_bind, gVar, List.getElem?_cons_zero, List.getElem?_cons_succ, List.set_cons_zero, List.set_cons_succ, if_true, if_false, Bool.not_true, Bool.not_false, Bool.false_eq_true, ↓reduceIte, e_asB, e_lt, e_gt, e_le, e_ge, e_ltS, e_gtS, e_eqI, e_eqS, e_eqB, e_neI, e_neS, e_neB, e_addI, e_iaddI, e_subI, e_negI, e_andI, e_orI, e_xorI, e_lenL, e_lenT, e_ord, e_intB, e_intI, e_inS, e_ninS, e_itL, e_itT, e_itS, e_zip, e_enum, e_slL, e_slT, e_asI, e_isN1, e_isN2, e_notN1, e_notN2, e_truB, e_truI, e_truL, e_isi_int_non, e_isi_int_bl, e_isi_int_int, e_isi_int_str, e_isi_int_list, e_isi_int_tup, e_isi_int_dict, e_isi_int_dictT, e_isi_bool_non, e_isi_bool_bl, e_isi_bool_int, e_isi_bool_str, e_isi_bool_list, e_isi_bool_tup, e_isi_bool_dict, e_isi_bool_dictT, e_isi_str_non, e_isi_str_bl, e_isi_str_int, e_isi_str_str, e_isi_str_list, e_isi_str_tup, e_isi_str_dict, e_isi_str_dictT, e_isi_list_non, e_isi_list_bl, e_isi_list_int, e_isi_list_str, e_isi_list_list, e_isi_list_tup, e_isi_list_dict, e_isi_list_dictT, e_isi_tuple_non, e_isi_tuple_bl, e_isi_tuple_int, e_isi_tuple_str, e_isi_tuple_list, e_isi_tuple_tup, e_isi_tuple_dict, e_isi_tuple_dictT, e_isi_dict_non, e_isi_dict_bl, e_isi_dict_int, e_isi_dict_str, e_isi_dict_list, e_isi_dict_tup, e_isi_dict_dict, e_isi_dict_dictT, e_iteAnd, e_iteOr, e_iteAndD, e_iteOrD, e_then_ite, e_endS_ite, e_endN_ite, e_ofR_ite, e_pick_ite, e_bind_ite, e_modI, e_fdivI, e_mul1, e_pow10, e_pow2, e_shl1, e_shrI, e_addS, e_iaddS, e_addL, e_addT, e_lenS, e_lst, e_strLit, String.reduceBEq, e_ixL0, e_ixL1, e_ixL2, e_ixL3, e_ixL4, e_ixL5, e_ixL6, e_ixL7, e_ixL8, e_ixT0, e_ixT1, e_ixT2, e_ixT3, e_ixT4, e_ixT5, e_tupleL, e_listT, e_tupleT, eqX_int, neX_int, eqX_S, neX_S, eqX_t0, neX_t0, e_catL, e_tup, e_inT, e_ninT, e_inL, e_ninL, e_slS, Int.reduceLT, Int.reduceLE, Int.reduceMul, Int.reduceAdd, Int.reduceSub, Int.reducePow, Int.reduceNeg, Int.reduceToNat, List.length_cons, List.length_nil, List.length_append, Nat.reduceAdd, Nat.reduceLeDiff, flD, List.all_cons, List.all_nil, Bool.and_true, Bool.true_and, Bool.and_self, decide_true, decide_false, or_true, true_or, and_true, true_and, eq_self, *])
local macro_rules | `(tactic| walk_at "pdu") => `(tactic| try simp -implicitDefEqProofs only [e_seq, e_forN, e_for0, e_nxn, e_nct, e_nbk, e_nrt, e_nrn, e_nex, e_next_ite, e_thn, e_trt, e_trn, e_tex, e_if, e_pick, e_pickx, e_ret, e_retN, e_set, e_drop, e_for, e_ofR, e_ofRx, e_ofI, e_nil, e_asg, endS_rt, endS_rn, endS_nx, endS_ex, endN_rn, endN_ex, gC, g1, g2, g3, gA, aNil, aCons, gAnd, gOr, gNot, gB, gTru, bAnd, bOr, bNot, gIf, iA, iSeq, gSl, pNone, pSome, ok_bind, ex_bind, st_bind, gVar, List.getElem?_cons_zero, List.getElem?_cons_succ, List.set_cons_zero, List.set_cons_succ, if_true, if_false, Bool.not_true, Bool.not_false, Bool.false_eq_true, ↓reduceIte, e_asB, e_lt, e_gt, e_le, e_ge, e_ltS, e_gtS, e_eqI, e_eqS, e_eqB, e_neI, e_neS, e_neB, e_addI, e_iaddI, e_subI, e_negI, e_andI, e_orI, e_xorI, e_lenL, e_lenT, e_ord, e_intB, e_intI, e_inS, e_ninS, e_itL, e_itT, e_itS, e_zip, e_enum, e_slL, e_slT, e_asI, e_isN1, e_isN2, e_notN1, e_notN2, e_truB, e_truI, e_truL, e_isi_int_non, e_isi_int_bl, e_isi_int_int, e_isi_int_str, e_isi_int_list, e_isi_int_tup, e_isi_int_dict, e_isi_int_dictT, e_isi_bool_non, e_isi_bool_bl, e_isi_bool_int, e_isi_bool_str, e_isi_bool_list, e_isi_bool_tup, e_isi_bool_dict, e_isi_bool_dictT, e_isi_str_non, e_isi_str_bl, e_isi_str_int, e_isi_str_str, e_isi_str_list, e_isi_str_tup, e_isi_str_dict, e_isi_str_dictT, e_isi_list_non, e_isi_list_bl, e_isi_list_int, e_isi_list_str, e_isi_list_list, e_isi_list_tup, e_isi_list_dict, e_isi_list_dictT, e_isi_tuple_non, e_isi_tuple_bl, e_isi_tuple_int, e_isi_tuple_str, e_isi_tuple_list, e_isi_tuple_tup, e_isi_tuple_dict, e_isi_tuple_dictT, e_isi_dict_non, e_isi_dict_bl, e_isi_dict_int, e_isi_dict_str, e_isi_dict_list, e_isi_dict_tup, e_isi_dict_dict, e_isi_dict_dictT, e_iteAnd, e_iteOr, e_iteAndD, e_iteOrD, e_then_ite, e_endS_ite, e_endN_ite, e_ofR_ite, e_pick_ite, e_bind_ite, e_modI, e_fdivI, e_mul1, e_pow10, e_pow2, e_shl1, e_shrI, e_addS, e_iaddS, e_addL, e_addT, e_lenS, e_lst, e_strLit, String.reduceBEq, e_ixL0, e_ixL1, e_ixL2, e_ixL3, e_ixL4, e_ixL5, e_ixL6, e_ixL7, e_ixL8, e_ixT0, e_ixT1, e_ixT2, e_ixT3, e_ixT4, e_ixT5, e_tupleL, e_listT, e_tupleT, eqX_int, neX_int, eqX_S, neX_S, eqX_t0, neX_t0, e_catL, e_tup, e_inT, e_ninT, e_inL, e_ninL, e_slS, Int.reduceLT, Int.reduceLE, Int.reduceMul, Int.reduceAdd, Int.reduceSub, Int.reducePow, Int.reduceNeg, Int.reduceToNat, List.length_cons, List.length_nil, List.length_append, Nat.reduceAdd, Nat.reduceLeDiff, flD, List.all_cons, List.all_nil, Bool.and_true, Bool.true_and, Bool.and_self, decide_true, decide_false, or_true, true_or, and_true, true_and, eq_self])
local macro_rules | `(tactic| walk_at "pdq") => `(tactic| try simp -implicitDefEqProofs only [e_seq, q_seq, q_tnx, q_tex, q_trt, q_then_ite, q_if, q_pick, q_pickx, q_pick_ite, q_nil, q_raise, cl_nil, cl_f, cl_t, cl_n, e_thn, e_trt, e_trn, e_tex, e_if, e_pick, e_pickx, e_ret, e_retN, e_set, e_drop, e_for, e_ofR, e_ofRx, e_ofI, e_nil, e_asg, endS_rt, endS_rn, endS_nx, endS_ex, endN_rn, endN_ex, gC, g1, g2, g3, gA, aNil, aCons, gAnd, gOr, gNot, gB, gTru, bAnd, bOr, bNot, gIf, iA, iSeq, gSl, pNone, pSome, ok_bind, ex_bind, st_bind, gVar, List.getElem?_cons_zero, List.getElem?_cons_succ, List.set_cons_zero, List.set_cons_succ, if_true, if_false, Bool.not_true, Bool.not_false, Bool.false_eq_true, ↓reduceIte, e_asB, e_lt, e_gt, e_le, e_ge, e_ltS, e_gtS, e_eqI, e_eqS, e_eqB, e_neI, e_neS, e_neB, e_addI, e_iaddI, e_subI, e_negI, e_andI, e_orI, e_xorI, e_lenL, e_lenT, e_ord, e_intB, e_intI, e_inS, e_ninS, e_itL, e_itT, e_itS, e_zip, e_enum, e_slL, e_slT, e_asI, e_isN1, e_isN2, e_notN1, e_notN2, e_truB, e_truI, e_truL, e_isi_int_non, e_isi_int_bl, e_isi_int_int, e_isi_int_str, e_isi_int_list, e_isi_int_tup, e_isi_int_dict, e_isi_int_dictT, e_isi_bool_non, e_isi_bool_bl, e_isi_bool_int, e_isi_bool_str, e_isi_bool_list, e_isi_bool_tup, e_isi_bool_dict, e_isi_bool_dictT, e_isi_str_non, e_isi_str_bl, e_isi_str_int, e_isi_str_str, e_isi_str_list, e_isi_str_tup, e_isi_str_dict, e_isi_str_dictT, e_isi_list_non, e_isi_list_bl, e_isi_list_int, e_isi_list_str, e_isi_list_list, e_isi_list_tup, e_isi_list_dict, e_isi_list_dictT, e_isi_tuple_non, e_isi_tuple_bl, e_isi_tuple_int, e_isi_tuple_str, e_isi_tuple_list, e_isi_tuple_tup, e_isi_tuple_dict, e_isi_tuple_dictT, e_isi_dict_non, e_isi_dict_bl, e_isi_dict_int, e_isi_dict_str, e_isi_dict_list, e_isi_dict_tup, e_isi_dict_dict, e_isi_dict_dictT, e_iteAnd, e_iteOr, e_iteAndD, e_iteOrD, e_then_ite, e_endS_ite, e_endN_ite, e_ofR_ite, e_pick_ite, e_bind_ite, e_modI, e_fdivI, e_mul1, e_pow10, e_pow2, e_shl1, e_shrI, e_addS, e_iaddS, e_addL, e_addT, e_lenS, e_lst, e_strLit, String.reduceBEq, e_ixL0, e_ixL1, e_ixL2, e_ixL3, e_ixL4, e_ixL5, e_ixL6, e_ixL7, e_ixL8, e_ixT0, e_ixT1, e_ixT2, e_ixT3, e_ixT4, e_ixT5, e_tupleL, e_listT, e_tupleT, eqX_int, neX_int, eqX_S, neX_S, eqX_t0, neX_t0, e_catL, e_tup, e_inT, e_ninT, e_inL, e_ninL, e_slS, Int.reduceLT, Int.reduceLE, Int.reduceMul, Int.reduceAdd, Int.reduceSub, Int.reducePow, Int.reduceNeg, Int.reduceToNat, List.length_cons, List.length_nil, List.length_append, Nat.reduceAdd, Nat.reduceLeDiff, flD, List.all_cons, List.all_nil, Bool.and_true, Bool.true_and, Bool.and_self, decide_true, decide_false, or_true, true_or, and_true, true_and, eq_self])
local macro_rules | `(tactic| walk_at "pdr") => `(tactic| try simp -implicitDefEqProofs only [e_seq, q_seq, q_tnx, q_tex, q_trt, q_then_ite, q_nil, q_raise, cl_nil, cl_f, cl_t, cl_n, s_ok, s_ex, e_sqRet, e_sqSet, e_sqExpr, e_sqAsg, asg_some, e_tqName, e_tqTup2, e_qP, e_upok, e_upex, e_qVar, e_varok, e_qNew, e_newok, rq_ok, rq_ex, e_aqN, e_aqC, e_qPA, e_qCall, e_qTup, e_tupP2, e_qSn, e_qSnT, e_tok, e_qT, e_up_ite, pk_ite, s_ite, tst_ite, e_end_ite, q_ifS, pk_ok, sn_nil, sn_s, sn_n, fu_f, e_qIx, e_endrt, e_endnx, List.map_cons, List.map_nil, Bool.or_false, Bool.or_true, Bool.true_or, Bool.false_or, e_thn, e_trt, e_trn, e_tex, e_if, e_pick, e_pickx, e_ret, e_retN, e_set, e_drop, e_for, e_ofR, e_ofRx, e_ofI, e_nil, e_asg, endS_rt, endS_rn, endS_nx, endS_ex, endN_rn, endN_ex, gC, g1, g2, g3, gA, aNil, aCons, gAnd, gOr, gNot, gB, gTru, bAnd, bOr, bNot, gIf, iA, iSeq, gSl, pNone, pSome, ok_bind, ex_bind, st_bind, gVar, List.getElem?_cons_zero, List.getElem?_cons_succ, List.set_cons_zero, List.set_cons_succ, if_true, if_false, Bool.not_true, Bool.not_false, Bool.false_eq_true, ↓reduceIte, e_asB, e_lt, e_gt, e_le, e_ge, e_ltS, e_gtS, e_eqI, e_eqS, e_eqB, e_neI, e_neS, e_neB, e_addI, e_iaddI, e_subI, e_negI, e_andI, e_orI, e_xorI, e_lenL, e_lenT, e_ord, e_intB, e_intI, e_inS, e_ninS, e_itL, e_itT, e_itS, e_zip, e_enum, e_slL, e_slT, e_asI, e_isN1, e_isN2, e_notN1, e_notN2, e_truB, e_truI, e_truL, e_isi_int_non, e_isi_int_bl, e_isi_int_int, e_isi_int_str, e_isi_int_list, e_isi_int_tup, e_isi_int_dict, e_isi_int_dictT, e_isi_bool_non, e_isi_bool_bl, e_isi_bool_int, e_isi_bool_str, e_isi_bool_list, e_isi_bool_tup, e_isi_bool_dict, e_isi_bool_dictT, e_isi_str_non, e_isi_str_bl, e_isi_str_int, e_isi_str_str, e_isi_str_list, e_isi_str_tup, e_isi_str_dict, e_isi_str_dictT, e_isi_list_non, e_isi_list_bl, e_isi_list_int, e_isi_list_str, e_isi_list_list, e_isi_list_tup, e_isi_list_dict, e_isi_list_dictT, e_isi_tuple_non, e_isi_tuple_bl, e_isi_tuple_int, e_isi_tuple_str, e_isi_tuple_list, e_isi_tuple_tup, e_isi_tuple_dict, e_isi_tuple_dictT, e_isi_dict_non, e_isi_dict_bl, e_isi_dict_int, e_isi_dict_str, e_isi_dict_list, e_isi_dict_tup, e_isi_dict_dict, e_isi_dict_dictT, e_iteAnd, e_iteOr, e_iteAndD, e_iteOrD, e_then_ite, e_endS_ite, e_endN_ite, e_ofR_ite, e_pick_ite, e_bind_ite, e_modI, e_fdivI, e_mul1, e_pow10, e_pow2, e_shl1, e_shrI, e_addS, e_iaddS, e_addL, e_addT, e_lenS, e_lst, e_strLit, String.reduceBEq, e_ixL0, e_ixL1, e_ixL2, e_ixL3, e_ixL4, e_ixL5, e_ixL6, e_ixL7, e_ixL8, e_ixT0, e_ixT1, e_ixT2, e_ixT3, e_ixT4, e_ixT5, e_tupleL, e_listT, e_tupleT, eqX_int, neX_int, eqX_S, neX_S, eqX_t0, neX_t0, e_catL, e_tup, e_inT, e_ninT, e_inL, e_ninL, e_slS, Int.reduceLT, Int.reduceLE, Int.reduceMul, Int.reduceAdd, Int.reduceSub, Int.reducePow, Int.reduceNeg, Int.reduceToNat, List.length_cons, List.length_nil, List.length_append, Nat.reduceAdd, Nat.reduceLeDiff, flD, List.all_cons, List.all_nil, Bool.and_true, Bool.true_and, Bool.and_self, decide_true, decide_false, or_true, true_or, and_true, true_and, eq_self])
local macro_rules | `(tactic| walk_at "pdv") => `(tactic| try simp -implicitDefEqProofs only [e_seq, Int.reduceBEq, Int.cast_ofNat_Int, e_thn, e_trt, e_trn, e_tex, e_if, e_pick, e_pickx, e_ret, e_retN, e_set, e_drop, e_for, e_ofR, e_ofRx, e_ofI, e_nil, e_asg, endS_rt, endS_rn, endS_nx, endS_ex, endN_rn, endN_ex, gC, g1, g2, g3, gA, aNil, aCons, gAnd, gOr, gNot, gB, gTru, bAnd, bOr, bNot, gIf, iA, iSeq, gSl, pNone, pSome, ok_bind, ex_bind, st_bind, gVar, List.getElem?_cons_zero, List.getElem?_cons_succ, List.set_cons_zero, List.set_cons_succ, if_true, if_false, Bool.not_true, Bool.not_false, Bool.false_eq_true, ↓reduceIte, e_asB, e_lt, e_gt, e_le, e_ge, e_ltS, e_gtS, e_eqI, e_eqS, e_eqB, e_neI, e_neS, e_neB, e_addI, e_iaddI, e_subI, e_negI, e_andI, e_orI, e_xorI, e_lenL, e_lenT, e_ord, e_intB, e_intI, e_inS, e_ninS, e_itL, e_itT, e_itS, e_zip, e_enum, e_slL, e_slT, e_asI, e_isN1, e_isN2, e_notN1, e_notN2, e_truB, e_truI, e_truL, e_isi_int_non, e_isi_int_bl, e_isi_int_int, e_isi_int_str, e_isi_int_list, e_isi_int_tup, e_isi_int_dict, e_isi_int_dictT, e_isi_bool_non, e_isi_bool_bl, e_isi_bool_int, e_isi_bool_str, e_isi_bool_list, e_isi_bool_tup, e_isi_bool_dict, e_isi_bool_dictT, e_isi_str_non, e_isi_str_bl, e_isi_str_int, e_isi_str_str, e_isi_str_list, e_isi_str_tup, e_isi_str_dict, e_isi_str_dictT, e_isi_list_non, e_isi_list_bl, e_isi_list_int, e_isi_list_str, e_isi_list_list, e_isi_list_tup, e_isi_list_dict, e_isi_list_dictT, e_isi_tuple_non, e_isi_tuple_bl, e_isi_tuple_int, e_isi_tuple_str, e_isi_tuple_list, e_isi_tuple_tup, e_isi_tuple_dict, e_isi_tuple_dictT, e_isi_dict_non, e_isi_dict_bl, e_isi_dict_int, e_isi_dict_str, e_isi_dict_list, e_isi_dict_tup, e_isi_dict_dict, e_isi_dict_dictT, e_iteAnd, e_iteOr, e_iteAndD, e_iteOrD, e_then_ite, e_endS_ite, e_endN_ite, e_ofR_ite, e_pick_ite, e_bind_ite, e_modI, e_fdivI, e_mul1, e_pow10, e_pow2, e_shl1, e_shrI, e_addS, e_iaddS, e_addL, e_addT, e_lenS, e_lst, e_strLit, String.reduceBEq, e_ixL0, e_ixL1, e_ixL2, e_ixL3, e_ixL4, e_ixL5, e_ixL6, e_ixL7, e_ixL8, e_ixT0, e_ixT1, e_ixT2, e_ixT3, e_ixT4, e_ixT5, e_tupleL, e_listT, e_tupleT, eqX_int, neX_int, eqX_S, neX_S, eqX_t0, neX_t0, e_catL, e_tup, e_inT, e_ninT, e_inL, e_ninL, e_slS, Int.reduceLT, Int.reduceLE, Int.reduceMul, Int.reduceAdd, Int.reduceSub, Int.reducePow, Int.reduceNeg, Int.reduceToNat, List.length_cons, List.length_nil, List.length_append, Nat.reduceAdd, Nat.reduceLeDiff, flD, List.all_cons, List.all_nil, Bool.and_true, Bool.true_and, Bool.and_self, decide_true, decide_false, or_true, true_or, and_true, true_and, eq_self])
theorem neI_nat (a b : Nat) : (!((a : Int) == (b : Int))) = !decide (a = b) := by
  congr 1
  by_cases h : a = b
  · subst h
    rw [decide_eq_true rfl, beq_nat]
  · rw [decide_eq_false h]
    exact beq_eq_false_iff_ne.mpr fun z => h (by omega)
theorem tc_at {b o e : D} (hb : TableOk b) (ho : TableOk o) (he : TableOk e) (K : D) (M : Mem) : ∃ q M', FQ_Table_clashed [(false, K), (false, b), (false, o), (false, e)] M = .ok (true, .tup [(clC true b o e).1, .loc q]) M' ∧ M'[q]? = some (false, .list (clC true b o e).2) := by
  obtain ⟨rb, rfl, hb', b1, b2, b3, b4⟩ := hb.rws
  obtain ⟨ro, rfl, ho', o1, o2, o3, o4⟩ := ho.rws
  obtain ⟨re, rfl, he', e1, e2, e3, e4⟩ := he.rws
  show ∃ q M', endQ (SQ_Table_clashed [some (false, K), some (false, .tup rb), some (false, .tup ro), some (false, .tup re), none, none, none, none, none, none, none] M) = _ ∧ _
  unfold SQ_Table_clashed clC
  dsimp only
  obtain ⟨_, cb, xb, lb⟩ := firstLen_rws hb' b1
  obtain ⟨_, co, xo, lo⟩ := firstLen_rws ho' o1
  obtain ⟨_, ce, xe, le⟩ := firstLen_rws he' e1
  walk_at "pdr"
  rw [neI_nat, neI_nat]
  by_cases h : ro.length = rb.length ∧ re.length = rb.length ∧ firstLen ro = firstLen rb ∧ firstLen re = firstLen rb
  · obtain ⟨h1, h2, h3, h4⟩ := h
    have hc : ro.length = rb.length ∧ re.length = rb.length ∧ firstLen ro = firstLen rb ∧ firstLen re = firstLen rb := ⟨h1, h2, h3, h4⟩
    rw [if_pos hc, decide_eq_true h1, decide_eq_true h2]
    walk_at "pdr"
    rw [xo, xb]
    walk_at "pdr"
    rw [xe, lo, lb]
    walk_at "pdr"
    rw [le, neI_nat, neI_nat, decide_eq_true h3, decide_eq_true h4]
    walk_at "pdr"
    rw [h1, h3] at ho'
    rw [h2, h4] at he'
    rw [e_sqFor (items := rngL 0 rb.length) (by
      walk_at "pdr"
      rw [e_rng1 (rb.length : Int) (small_ok (by omega) (by omega)), Int.toNat_natCast])]
    generalize hM : forLQ _ _ _ _ _ = q
    obtain ⟨ρ', M', rfl, ⟨p1, p2, p3, p4, p5, rfl, k0, k1⟩⟩ := forLQ_out hM (fun i ρ M' => ∃ p1 p2 p3 p4 p5, ρ = [some (false, K), some (false, .tup rb), some (false, .tup ro), some (false, .tup re), some (true, .loc M.length), some (true, .loc (M.length + 1)), p1, p2, p3, p4, p5] ∧
        M'[M.length]? = some (false, .list (rowsJ rb ro re i (firstLen rb))) ∧ M'[M.length + 1]? = some (false, .list (wordsJ rb ro re i (firstLen rb)))) ⟨none, none, none, none, none, rfl, app_l app_n, by
          have : (M ++ [((false, .list []) : P)]).length = M.length + 1 := by rw [List.length_append]; rfl
          rw [← this]
          exact app_n⟩ (by
      rintro i q ρ M2 hq ⟨p1, p2, p3, p4, p5, rfl, k0, k1⟩
      obtain ⟨hi, rfl⟩ := rng_items hq
      refine ⟨_, rfl, ?_⟩
      have lw := wordsJ_len rb ro re (firstLen rb) i
      have lm : i * firstLen rb ≤ 6 * 6 := Nat.mul_le_mul (by omega) b4
      obtain ⟨M3, u', v', x', y', e, m0, m1⟩ := tc_loop hb' ho' he' hi b2 b4 b1 K p2 p3 p4 p5 k0 k1 (by omega) (by rw [rowsJ_len]; omega)
      rw [wordsJ_succ, rowsJ_succ]
      exact ⟨_, _, e, _, _, _, _, _, rfl, m0, m1⟩)
    rw [List.length_map, rng_len] at k0 k1
    have hrows : ∀ d ∈ rowsJ rb ro re rb.length (firstLen rb), cvD false 1 d = true := fun d hd => by
      unfold rowsJ at hd
      obtain ⟨j, hj, rfl⟩ := List.mem_map.mp hd
      exact List.all_eq_true.mpr fun x hx => texts_cv (row_cv' hb' ho' he' (List.mem_range.mp hj)) 0 x hx
    have hrow : cvD true 2 (.list (rowsJ rb ro re rb.length (firstLen rb))) = true := by
      show (true && (rowsJ rb ro re rb.length (firstLen rb)).all (cvD true 1)) = true
      rw [Bool.true_and]
      exact List.all_eq_true.mpr fun d hd => cv_mono (hrows d hd)
    walk_at "pdr"
    rw [fu_loc k0 hrow]
    walk_at "pdr"
    rw [up_off (d := .tup (rowsJ rb ro re rb.length (firstLen rb))) (offs_cv 1 _ hrows)]
    walk_at "pdr"
    exact ⟨_, _, rfl, k1⟩
  · rw [if_neg h]
    refine ⟨M.length, M ++ [(false, .list [.str "content"])], ?_, app_n⟩
    by_cases h1 : ro.length = rb.length
    · rw [decide_eq_true h1]
      walk_at "pdr"
      by_cases h2 : re.length = rb.length
      · rw [decide_eq_true h2]
        walk_at "pdr"
        rw [xo, xb]
        walk_at "pdr"
        rw [xe, lo, lb]
        walk_at "pdr"
        rw [le, neI_nat, neI_nat]
        by_cases h3 : firstLen ro = firstLen rb
        · have h4 : ¬ firstLen re = firstLen rb := fun z => h ⟨h1, h2, h3, z⟩
          rw [decide_eq_true h3, decide_eq_false h4]
          walk_at "pdr"
        · rw [decide_eq_false h3]
          walk_at "pdr"
      · rw [decide_eq_false h2]
        walk_at "pdr"
    · rw [decide_eq_false h1]
      walk_at "pdr"
def kindO : Str → D := fun k => if k = "chapter" then .obj "Chapter" [] else if k = "para" then .obj "Para" [] else .obj "Table" []
theorem kj_at {k : Str} {t : Bool} (hk : KindOf k t) {b o e : D} (hb : ContOk t b) (ho : ContOk t o) (he : ContOk t e) {K : D} (hK : K = .obj "Chapter" [] ∧ k = "chapter" ∨ K = .obj "Para" [] ∧ k = "para" ∨ K = .obj "Table" [] ∧ k = "table") (M : Mem) :
    ∃ q M', FQ_Kind_joined [(false, K), (false, b), (false, o), (false, e)] M = .ok (true, .tup [(JJ t b o e).1, .loc q]) M' ∧ M'[q]? = some (false, .list (JJ t b o e).2) := by
  show ∃ q M', endQ (SQ_Kind_joined [some (false, K), some (false, b), some (false, o), some (false, e)] M) = _ ∧ _
  unfold SQ_Kind_joined
  rw [kj_head _ _ _ (cont_cv hb) (cont_cv ho) (cont_cv he)]
  unfold JJ
  cases h1 : eqB o e with
  | true => exact ⟨M.length, _, rfl, app_n⟩
  | false =>
    cases h2 : eqB e b with
    | true =>
      have h3 : eqB o b = false := by
        cases h3 : eqB o b with
        | false => rfl
        | true =>
          rw [eqB_iff] at h2 h3
          rw [h3, h2, eqB_same] at h1
          cases h1
      rw [h3]
      exact ⟨M.length, _, rfl, app_n⟩
    | false =>
      cases eqB o b with
      | true => exact ⟨M.length, _, rfl, app_n⟩
      | false =>
        rw [if_neg (by decide), if_neg (by decide), if_neg (by decide), if_neg (by decide), if_neg (by decide)]
        rcases hK with ⟨rfl, rfl⟩ | ⟨rfl, rfl⟩ | ⟨rfl, rfl⟩
        · cases hk
          rw [e_sqRet, e_qMeth (p := (false, .obj "Chapter" [])) (M1 := M) (M2 := M) (c := "Chapter") (fs := []) (b := false) (G := FQ_Kind_clashed) (ps := [(false, b), (false, o), (false, e)]) rfl rfl rfl rfl rfl, kc_at]
          exact ⟨M.length, _, rfl, app_n⟩
        · cases hk
          rw [e_sqRet, e_qMeth (p := (false, .obj "Para" [])) (M1 := M) (M2 := M) (c := "Para") (fs := []) (b := false) (G := FQ_Kind_clashed) (ps := [(false, b), (false, o), (false, e)]) rfl rfl rfl rfl rfl, kc_at]
          exact ⟨M.length, _, rfl, app_n⟩
        · cases hk
          obtain ⟨q, M', e1, e2⟩ := tc_at hb ho he (.obj "Table" []) M
          rw [e_sqRet, e_qMeth (p := (false, .obj "Table" [])) (M1 := M) (M2 := M) (c := "Table") (fs := []) (b := false) (G := FQ_Table_clashed) (ps := [(false, b), (false, o), (false, e)]) rfl rfl rfl rfl rfl, e1]
          exact ⟨q, M', rfl, e2⟩

end Pd

set_option maxHeartbeats 4000000
namespace Pd
open PySem PySem.Spec PyProof.Rows L2
local macro_rules | `(tactic| walk_at "pd") => `(tactic| try simp -implicitDefEqProofs only [e_seq, e_thn, e_trt, e_trn, e_tex, e_if, e_pick, e_pickx, e_ret, e_retN, e_set, e_drop, e_for, e_ofR, e_ofRx, e_ofI, e_nil, e_asg, endS_rt, endS_rn, endS_nx, endS_ex, endN_rn, endN_ex, gC, g1, g2, g3, gA, aNil, aCons, gAnd, gOr, gNot, gB, gTru, bAnd, bOr, bNot, gIf, iA, iSeq, gSl, pNone, pSome, ok_bind, ex_bind, st_bind, gVar, List.getElem?_cons_zero, List.getElem?_cons_succ, List.set_cons_zero, List.set_cons_succ, if_true, if_false, Bool.not_true, Bool.not_false, Bool.false_eq_true, ↓reduceIte, e_asB, e_lt, e_gt, e_le, e_ge, e_ltS, e_gtS, e_eqI, e_eqS, e_eqB, e_neI, e_neS, e_neB, e_addI, e_iaddI, e_subI, e_negI, e_andI, e_orI, e_xorI, e_lenL, e_lenT, e_ord, e_intB, e_intI, e_inS, e_ninS, e_itL, e_itT, e_itS, e_zip, e_enum, e_slL, e_slT, e_asI, e_isN1, e_isN2, e_notN1, e_notN2, e_truB, e_truI, e_truL, e_isi_int_non, e_isi_int_bl, e_isi_int_int, e_isi_int_str, e_isi_int_list, e_isi_int_tup, e_isi_int_dict, e_isi_int_dictT, e_isi_bool_non, e_isi_bool_bl, e_isi_bool_int, e_isi_bool_str, e_isi_bool_list, e_isi_bool_tup, e_isi_bool_dict, e_isi_bool_dictT, e_isi_str_non, e_isi_str_bl, e_isi_str_int, e_isi_str_str, e_isi_str_list, e_isi_str_tup, e_isi_str_dict, e_isi_str_dictT, e_isi_list_non, e_isi_list_bl, e_isi_list_int, e_isi_list_str, e_isi_list_list, e_isi_list_tup, e_isi_list_dict, e_isi_list_dictT, e_isi_tuple_non, e_isi_tuple_bl, e_isi_tuple_int, e_isi_tuple_str, e_isi_tuple_list, e_isi_tuple_tup, e_isi_tuple_dict, e_isi_tuple_dictT, e_isi_dict_non, e_isi_dict_bl, e_isi_dict_int, e_isi_dict_str, e_isi_dict_list, e_isi_dict_tup, e_isi_dict_dict, e_isi_dict_dictT, e_iteAnd, e_iteOr, e_iteAndD, e_iteOrD, e_then_ite, e_endS_ite, e_endN_ite, e_ofR_ite, e_pick_ite, e_bind_ite, e_modI, e_fdivI, e_mul1, e_pow10, e_pow2, e_shl1, e_shrI, e_addS, e_iaddS, e_addL, e_addT, e_lenS, e_lst, e_strLit, String.reduceBEq, e_ixL0, e_ixL1, e_ixL2, e_ixL3, e_ixL4, e_ixL5, e_ixL6, e_ixL7, e_ixL8, e_ixT0, e_ixT1, e_ixT2, e_ixT3, e_ixT4, e_ixT5, e_tupleL, e_listT, e_tupleT, eqX_int, neX_int, eqX_S, neX_S, eqX_t0, neX_t0, e_catL, e_tup, e_inT, e_ninT, e_inL, e_ninL, e_slS, Int.reduceLT, Int.reduceLE, Int.reduceMul, Int.reduceAdd, Int.reduceSub, Int.reducePow, Int.reduceNeg, Int.reduceToNat, List.length_cons, List.length_nil, List.length_append, Nat.reduceAdd, Nat.reduceLeDiff, flD, List.all_cons, List.all_nil, Bool.and_true, Bool.true_and, Bool.and_self, decide_true, decide_false, or_true, true_or, and_true, true_and, eq_self])
local macro_rules | `(tactic| walk_at "pdh") => `(tactic| try simp -implicitDefEqProofs only [e_seq, e_thn, e_trt, e_trn, e_tex, e_if, e_pick, e_pickx, e_ret, e_retN, e_set, e_drop, e_for, e_ofR, e_ofRx, e_ofI, e_nil, e_asg, endS_rt, endS_rn, endS_nx, endS_ex, endN_rn, endN_ex, gC, g1, g2, g3, gA, aNil, aCons, gAnd, gOr, gNot, gB, gTru, bAnd, bOr, bNot, gIf, iA, iSeq, gSl, pNone, pSome, ok_bind, ex_bind, st_bind, gVar, List.getElem?_cons_zero, List.getElem?_cons_succ, List.set_cons_zero, List.set_cons_succ, if_true, if_false, Bool.not_true, Bool.not_false, Bool.false_eq_true, ↓reduceIte, e_asB, e_lt, e_gt, e_le, e_ge, e_ltS, e_gtS, e_eqI, e_eqS, e_eqB, e_neI, e_neS, e_neB, e_addI, e_iaddI, e_subI, e_negI, e_andI, e_orI, e_xorI, e_lenL, e_lenT, e_ord, e_intB, e_intI, e_inS, e_ninS, e_itL, e_itT, e_itS, e_zip, e_enum, e_slL, e_slT, e_asI, e_isN1, e_isN2, e_notN1, e_notN2, e_truB, e_truI, e_truL, e_isi_int_non, e_isi_int_bl, e_isi_int_int, e_isi_int_str, e_isi_int_list, e_isi_int_tup, e_isi_int_dict, e_isi_int_dictT, e_isi_bool_non, e_isi_bool_bl, e_isi_bool_int, e_isi_bool_str, e_isi_bool_list, e_isi_bool_tup, e_isi_bool_dict, e_isi_bool_dictT, e_isi_str_non, e_isi_str_bl, e_isi_str_int, e_isi_str_str, e_isi_str_list, e_isi_str_tup, e_isi_str_dict, e_isi_str_dictT, e_isi_list_non, e_isi_list_bl, e_isi_list_int, e_isi_list_str, e_isi_list_list, e_isi_list_tup, e_isi_list_dict, e_isi_list_dictT, e_isi_tuple_non, e_isi_tuple_bl, e_isi_tuple_int, e_isi_tuple_str, e_isi_tuple_list, e_isi_tuple_tup, e_isi_tuple_dict, e_isi_tuple_dictT, e_isi_dict_non, e_isi_dict_bl, e_isi_dict_int, e_isi_dict_str, e_isi_dict_list, e_isi_dict_tup, e_isi_dict_dict, e_isi_dict_dictT, e_iteAnd, e_iteOr, e_iteAndD, e_iteOrD, e_then_ite, e_endS_ite, e_endN_ite, e_ofR_ite, e_pick_ite, e_bind_ite, e_modI, e_fdivI, e_mul1, e_pow10, e_pow2, e_shl1, e_shrI, e_addS, e_iaddS, e_addL, e_addT, e_lenS, e_lst, e_strLit, String.reduceBEq, e_ixL0, e_ixL1, e_ixL2, e_ixL3, e_ixL4, e_ixL5, e_ixL6, e_ixL7, e_ixL8, e_ixT0, e_ixT1, e_ixT2, e_ixT3, e_ixT4, e_ixT5, e_tupleL, e_listT, e_tupleT, eqX_int, neX_int, eqX_S, neX_S, eqX_t0, neX_t0, e_catL, e_tup, e_inT, e_ninT, e_inL, e_ninL, e_slS, Int.reduceLT, Int.reduceLE, Int.reduceMul, Int.reduceAdd, Int.reduceSub, Int.reducePow, Int.reduceNeg, Int.reduceToNat, List.length_cons, List.length_nil, List.length_append, Nat.reduceAdd, Nat.reduceLeDiff, flD, List.all_cons, List.all_nil, Bool.and_true, Bool.true_and, Bool.and_self, decide_true, decide_false, or_true, true_or, and_true, true_and, eq_self, *])
local macro_rules | `(tactic| walk_at "pdu") => `(tactic| try simp -implicitDefEqProofs only [e_seq, e_forN, e_for0, e_nxn, e_nct, e_nbk, e_nrt, e_nrn, e_nex, e_next_ite, e_thn, e_trt, e_trn, e_tex, e_if, e_pick, e_pickx, e_ret, e_retN, e_set, e_drop, e_for, e_ofR, e_ofRx, e_ofI, e_nil, e_asg, endS_rt, endS_rn, endS_nx, endS_ex, endN_rn, endN_ex, gC, g1, g2, g3, gA, aNil, aCons, gAnd, gOr, gNot, gB, gTru, bAnd, bOr, bNot, gIf, iA, iSeq, gSl, pNone, pSome, ok_bind, ex_bind, st_bind, gVar, List.getElem?_cons_zero, List.getElem?_cons_succ, List.set_cons_zero, List.set_cons_succ, if_true, if_false, Bool.not_true, Bool.not_false, Bool.false_eq_true, ↓reduceIte, e_asB, e_lt, e_gt, e_le, e_ge, e_ltS, e_gtS, e_eqI, e_eqS, e_eqB, e_neI, e_neS, e_neB, e_addI, e_iaddI, e_subI, e_negI, e_andI, e_orI, e_xorI, e_lenL, e_lenT, e_ord, e_intB, e_intI, e_inS, e_ninS, e_itL, e_itT, e_itS, e_zip, e_enum, e_slL, e_slT, e_asI, e_isN1, e_isN2, e_notN1, e_notN2, e_truB, e_truI, e_truL, e_isi_int_non, e_isi_int_bl, e_isi_int_int, e_isi_int_str, e_isi_int_list, e_isi_int_tup, e_isi_int_dict, e_isi_int_dictT, e_isi_bool_non, e_isi_bool_bl, e_isi_bool_int, e_isi_bool_str, e_isi_bool_list, e_isi_bool_tup, e_isi_bool_dict, e_isi_bool_dictT, e_isi_str_non, e_isi_str_bl, e_isi_str_int, e_isi_str_str, e_isi_str_list, e_isi_str_tup, e_isi_str_dict, e_isi_str_dictT, e_isi_list_non, e_isi_list_bl, e_isi_list_int, e_isi_list_str, e_isi_list_list, e_isi_list_tup, e_isi_list_dict, e_isi_list_dictT, e_isi_tuple_non, e_isi_tuple_bl, e_isi_tuple_int, e_isi_tuple_str, e_isi_tuple_list, e_isi_tuple_tup, e_isi_tuple_dict, e_isi_tuple_dictT, e_isi_dict_non, e_isi_dict_bl, e_isi_dict_int, e_isi_dict_str, e_isi_dict_list, e_isi_dict_tup, e_isi_dict_dict, e_isi_dict_dictT, e_iteAnd, e_iteOr, e_iteAndD, e_iteOrD, e_then_ite, e_endS_ite, e_endN_ite, e_ofR_ite, e_pick_ite, e_bind_ite, e_modI, e_fdivI, e_mul1, e_pow10, e_pow2, e_shl1, e_shrI, e_addS, e_iaddS, e_addL, e_addT, e_lenS, e_lst, e_strLit, String.reduceBEq, e_ixL0, e_ixL1, e_ixL2, e_ixL3, e_ixL4, e_ixL5, e_ixL6, e_ixL7, e_ixL8, e_ixT0, e_ixT1, e_ixT2, e_ixT3, e_ixT4, e_ixT5, e_tupleL, e_listT, e_tupleT, eqX_int, neX_int, eqX_S, neX_S, eqX_t0, neX_t0, e_catL, e_tup, e_inT, e_ninT, e_inL, e_ninL, e_slS, Int.reduceLT, Int.reduceLE, Int.reduceMul, Int.reduceAdd, Int.reduceSub, Int.reducePow, Int.reduceNeg, Int.reduceToNat, List.length_cons, List.length_nil, List.length_append, Nat.reduceAdd, Nat.reduceLeDiff, flD, List.all_cons, List.all_nil, Bool.and_true, Bool.true_and, Bool.and_self, decide_true, decide_false, or_true, true_or, and_true, true_and, eq_self])
local macro_rules | `(tactic| walk_at "pdq") => `(tactic| try simp -implicitDefEqProofs only [e_seq, q_seq, q_tnx, q_tex, q_trt, q_then_ite, q_if, q_pick, q_pickx, q_pick_ite, q_nil, q_raise, cl_nil, cl_f, cl_t, cl_n, e_thn, e_trt, e_trn, e_tex, e_if, e_pick, e_pickx, e_ret, e_retN, e_set, e_drop, e_for, e_ofR, e_ofRx, e_ofI, e_nil, e_asg, endS_rt, endS_rn, endS_nx, endS_ex, endN_rn, endN_ex, gC, g1, g2, g3, gA, aNil, aCons, gAnd, gOr, gNot, gB, gTru, bAnd, bOr, bNot, gIf, iA, iSeq, gSl, pNone, pSome, ok_bind, ex_bind, st_bind, gVar, List.getElem?_cons_zero, List.getElem?_cons_succ, List.set_cons_zero, List.set_cons_succ, if_true, if_false, Bool.not_true, Bool.not_false, Bool.false_eq_true, ↓reduceIte, e_asB, e_lt, e_gt, e_le, e_ge, e_ltS, e_gtS, e_eqI, e_eqS, e_eqB, e_neI, e_neS, e_neB, e_addI, e_iaddI, e_subI, e_negI, e_andI, e_orI, e_xorI, e_lenL, e_lenT, e_ord, e_intB, e_intI, e_inS, e_ninS, e_itL, e_itT, e_itS, e_zip, e_enum, e_slL, e_slT, e_asI, e_isN1, e_isN2, e_notN1, e_notN2, e_truB, e_truI, e_truL, e_isi_int_non, e_isi_int_bl, e_isi_int_int, e_isi_int_str, e_isi_int_list, e_isi_int_tup, e_isi_int_dict, e_isi_int_dictT, e_isi_bool_non, e_isi_bool_bl, e_isi_bool_int, e_isi_bool_str, e_isi_bool_list, e_isi_bool_tup, e_isi_bool_dict, e_isi_bool_dictT, e_isi_str_non, e_isi_str_bl, e_isi_str_int, e_isi_str_str, e_isi_str_list, e_isi_str_tup, e_isi_str_dict, e_isi_str_dictT, e_isi_list_non, e_isi_list_bl, e_isi_list_int, e_isi_list_str, e_isi_list_list, e_isi_list_tup, e_isi_list_dict, e_isi_list_dictT, e_isi_tuple_non, e_isi_tuple_bl, e_isi_tuple_int, e_isi_tuple_str, e_isi_tuple_list, e_isi_tuple_tup, e_isi_tuple_dict, e_isi_tuple_dictT, e_isi_dict_non, e_isi_dict_bl, e_isi_dict_int, e_isi_dict_str, e_isi_dict_list, e_isi_dict_tup, e_isi_dict_dict, e_isi_dict_dictT, e_iteAnd, e_iteOr, e_iteAndD, e_iteOrD, e_then_ite, e_endS_ite, e_endN_ite, e_ofR_ite, e_pick_ite, e_bind_ite, e_modI, e_fdivI, e_mul1, e_pow10, e_pow2, e_shl1, e_shrI, e_addS, e_iaddS, e_addL, e_addT, e_lenS, e_lst, e_strLit, String.reduceBEq, e_ixL0, e_ixL1, e_ixL2, e_ixL3, e_ixL4, e_ixL5, e_ixL6, e_ixL7, e_ixL8, e_ixT0, e_ixT1, e_ixT2, e_ixT3, e_ixT4, e_ixT5, e_tupleL, e_listT, e_tupleT, eqX_int, neX_int, eqX_S, neX_S, eqX_t0, neX_t0, e_catL, e_tup, e_inT, e_ninT, e_inL, e_ninL, e_slS, Int.reduceLT, Int.reduceLE, Int.reduceMul, Int.reduceAdd, Int.reduceSub, Int.reducePow, Int.reduceNeg, Int.reduceToNat, List.length_cons, List.length_nil, List.length_append, Nat.reduceAdd, Nat.reduceLeDiff, flD, List.all_cons, List.all_nil, Bool.and_true, Bool.true_and, Bool.and_self, decide_true, decide_false, or_true, true_or, and_true, true_and, eq_self])
local macro_rules | `(tactic| walk_at "pdr") => `(tactic| try simp -implicitDefEqProofs only [e_seq, q_seq, q_tnx, q_tex, q_trt, q_then_ite, q_nil, q_raise, cl_nil, cl_f, cl_t, cl_n, s_ok, s_ex, e_sqRet, e_sqSet, e_sqExpr, e_sqAsg, asg_some, e_tqName, e_tqTup2, e_qP, e_upok, e_upex, e_qVar, e_varok, e_qNew, e_newok, rq_ok, rq_ex, e_aqN, e_aqC, e_qPA, e_qCall, e_qTup, e_tupP2, e_qSn, e_qSnT, e_tok, e_qT, e_up_ite, pk_ite, s_ite, tst_ite, e_end_ite, q_ifS, pk_ok, sn_nil, sn_s, sn_n, fu_f, e_qIx, e_endrt, e_endnx, List.map_cons, List.map_nil, Bool.or_false, Bool.or_true, Bool.true_or, Bool.false_or, e_thn, e_trt, e_trn, e_tex, e_if, e_pick, e_pickx, e_ret, e_retN, e_set, e_drop, e_for, e_ofR, e_ofRx, e_ofI, e_nil, e_asg, endS_rt, endS_rn, endS_nx, endS_ex, endN_rn, endN_ex, gC, g1, g2, g3, gA, aNil, aCons, gAnd, gOr, gNot, gB, gTru, bAnd, bOr, bNot, gIf, iA, iSeq, gSl, pNone, pSome, ok_bind, ex_bind, st_bind, gVar, List.getElem?_cons_zero, List.getElem?_cons_succ, List.set_cons_zero, List.set_cons_succ, if_true, if_false, Bool.not_true, Bool.not_false, Bool.false_eq_true, ↓reduceIte, e_asB, e_lt, e_gt, e_le, e_ge, e_ltS, e_gtS, e_eqI, e_eqS, e_eqB, e_neI, e_neS, e_neB, e_addI, e_iaddI, e_subI, e_negI, e_andI, e_orI, e_xorI, e_lenL, e_lenT, e_ord, e_intB, e_intI, e_inS, e_ninS, e_itL, e_itT, e_itS, e_zip, e_enum, e_slL, e_slT, e_asI, e_isN1, e_isN2, e_notN1, e_notN2, e_truB, e_truI, e_truL, e_isi_int_non, e_isi_int_bl, e_isi_int_int, e_isi_int_str, e_isi_int_list, e_isi_int_tup, e_isi_int_dict, e_isi_int_dictT, e_isi_bool_non, e_isi_bool_bl, e_isi_bool_int, e_isi_bool_str, e_isi_bool_list, e_isi_bool_tup, e_isi_bool_dict, e_isi_bool_dictT, e_isi_str_non, e_isi_str_bl, e_isi_str_int, e_isi_str_str, e_isi_str_list, e_isi_str_tup, e_isi_str_dict, e_isi_str_dictT, e_isi_list_non, e_isi_list_bl, e_isi_list_int, e_isi_list_str, e_isi_list_list, e_isi_list_tup, e_isi_list_dict, e_isi_list_dictT, e_isi_tuple_non, e_isi_tuple_bl, e_isi_tuple_int, e_isi_tuple_str, e_isi_tuple_list, e_isi_tuple_tup, e_isi_tuple_dict, e_isi_tuple_dictT, e_isi_dict_non, e_isi_dict_bl, e_isi_dict_int, e_isi_dict_str, e_isi_dict_list, e_isi_dict_tup, e_isi_dict_dict, e_isi_dict_dictT, e_iteAnd, e_iteOr, e_iteAndD, e_iteOrD, e_then_ite, e_endS_ite, e_endN_ite, e_ofR_ite, e_pick_ite, e_bind_ite, e_modI, e_fdivI, e_mul1, e_pow10, e_pow2, e_shl1, e_shrI, e_addS, e_iaddS, e_addL, e_addT, e_lenS, e_lst, e_strLit, String.reduceBEq, e_ixL0, e_ixL1, e_ixL2, e_ixL3, e_ixL4, e_ixL5, e_ixL6, e_ixL7, e_ixL8, e_ixT0, e_ixT1, e_ixT2, e_ixT3, e_ixT4, e_ixT5, e_tupleL, e_listT, e_tupleT, eqX_int, neX_int, eqX_S, neX_S, eqX_t0, neX_t0, e_catL, e_tup, e_inT, e_ninT, e_inL, e_ninL, e_slS, Int.reduceLT, Int.reduceLE, Int.reduceMul, Int.reduceAdd, Int.reduceSub, Int.reducePow, Int.reduceNeg, Int.reduceToNat, List.length_cons, List.length_nil, List.length_append, Nat.reduceAdd, Nat.reduceLeDiff, flD, List.all_cons, List.all_nil, Bool.and_true, Bool.true_and, Bool.and_self, decide_true, decide_false, or_true, true_or, and_true, true_and, eq_self])
local macro_rules | `(tactic| walk_at "pdv") => `(tactic| try simp -implicitDefEqProofs only [e_seq, Int.reduceBEq, Int.cast_ofNat_Int, e_thn, e_trt, e_trn, e_tex, e_if, e_pick, e_pickx, e_ret, e_retN, e_set, e_drop, e_for, e_ofR, e_ofRx, e_ofI, e_nil, e_asg, endS_rt, endS_rn, endS_nx, endS_ex, endN_rn, endN_ex, gC, g1, g2, g3, gA, aNil, aCons, gAnd, gOr, gNot, gB, gTru, bAnd, bOr, bNot, gIf, iA, iSeq, gSl, pNone, pSome, ok_bind, ex_bind, st_bind, gVar, List.getElem?_cons_zero, List.getElem?_cons_succ, List.set_cons_zero, List.set_cons_succ, if_true, if_false, Bool.not_true, Bool.not_false, Bool.false_eq_true, ↓reduceIte, e_asB, e_lt, e_gt, e_le, e_ge, e_ltS, e_gtS, e_eqI, e_eqS, e_eqB, e_neI, e_neS, e_neB, e_addI, e_iaddI, e_subI, e_negI, e_andI, e_orI, e_xorI, e_lenL, e_lenT, e_ord, e_intB, e_intI, e_inS, e_ninS, e_itL, e_itT, e_itS, e_zip, e_enum, e_slL, e_slT, e_asI, e_isN1, e_isN2, e_notN1, e_notN2, e_truB, e_truI, e_truL, e_isi_int_non, e_isi_int_bl, e_isi_int_int, e_isi_int_str, e_isi_int_list, e_isi_int_tup, e_isi_int_dict, e_isi_int_dictT, e_isi_bool_non, e_isi_bool_bl, e_isi_bool_int, e_isi_bool_str, e_isi_bool_list, e_isi_bool_tup, e_isi_bool_dict, e_isi_bool_dictT, e_isi_str_non, e_isi_str_bl, e_isi_str_int, e_isi_str_str, e_isi_str_list, e_isi_str_tup, e_isi_str_dict, e_isi_str_dictT, e_isi_list_non, e_isi_list_bl, e_isi_list_int, e_isi_list_str, e_isi_list_list, e_isi_list_tup, e_isi_list_dict, e_isi_list_dictT, e_isi_tuple_non, e_isi_tuple_bl, e_isi_tuple_int, e_isi_tuple_str, e_isi_tuple_list, e_isi_tuple_tup, e_isi_tuple_dict, e_isi_tuple_dictT, e_isi_dict_non, e_isi_dict_bl, e_isi_dict_int, e_isi_dict_str, e_isi_dict_list, e_isi_dict_tup, e_isi_dict_dict, e_isi_dict_dictT, e_iteAnd, e_iteOr, e_iteAndD, e_iteOrD, e_then_ite, e_endS_ite, e_endN_ite, e_ofR_ite, e_pick_ite, e_bind_ite, e_modI, e_fdivI, e_mul1, e_pow10, e_pow2, e_shl1, e_shrI, e_addS, e_iaddS, e_addL, e_addT, e_lenS, e_lst, e_strLit, String.reduceBEq, e_ixL0, e_ixL1, e_ixL2, e_ixL3, e_ixL4, e_ixL5, e_ixL6, e_ixL7, e_ixL8, e_ixT0, e_ixT1, e_ixT2, e_ixT3, e_ixT4, e_ixT5, e_tupleL, e_listT, e_tupleT, eqX_int, neX_int, eqX_S, neX_S, eqX_t0, neX_t0, e_catL, e_tup, e_inT, e_ninT, e_inL, e_ninL, e_slS, Int.reduceLT, Int.reduceLE, Int.reduceMul, Int.reduceAdd, Int.reduceSub, Int.reducePow, Int.reduceNeg, Int.reduceToNat, List.length_cons, List.length_nil, List.length_append, Nat.reduceAdd, Nat.reduceLeDiff, flD, List.all_cons, List.all_nil, Bool.and_true, Bool.true_and, Bool.and_self, decide_true, decide_false, or_true, true_or, and_true, true_and, eq_self])
/-! ### the law -/
theorem text_okB {s : Str} (h : TextOk s) : textB (.str s) = true := h.b
theorem f_fits_ok {t : Bool} {c : D} (h : ContOk t c) : (t = false → F_Kind_fits [.obj "Chapter" [], c] = .ok (.bl true) ∧ F_Kind_fits [.obj "Para" [], c] = .ok (.bl true)) ∧ (t = true → ∀ o, F_Table_fits [o, c] = .ok (.bl true)) := by
  refine ⟨?_, ?_⟩
  · rintro rfl
    obtain ⟨s, rfl, hs⟩ := h
    have e : F_is_text [.str s] = .ok (.bl true) := (f_txt (n := 0) (.of (cv_sh (text_cv hs 0)))).trans (by rw [text_okB hs])
    exact ⟨(f_chapter _).trans e, (f_para _).trans e⟩
  · rintro rfl o
    exact (f_table (m := 1) (.of (TableOk.sh h 1))).trans (by rw [TableOk.b h])
inductive KO : Str → Bool → D → Prop
  | chapter : KO "chapter" false (.obj "Chapter" [])
  | para : KO "para" false (.obj "Para" [])
  | table : KO "table" true (.obj "Table" [])
theorem KO.kind {k : Str} {t : Bool} {K : D} (h : KO k t K) : KindOf k t := by cases h <;> constructor
theorem kow_at {k : Str} {t : Bool} {K : D} (h : KO k t K) : F_kind_of_word [.str k] = .ok K := by
  cases h <;> rfl
theorem fits_at {k : Str} {t : Bool} {K c : D} (h : KO k t K) (hc : ContOk t c) {go : Rho → R D} {as : Rho → R (List D)} {ρ : Rho} (h1 : go ρ = .ok K) (h2 : as ρ = .ok [c]) : gMeth [("Chapter", F_Kind_fits), ("Para", F_Kind_fits), ("Table", F_Table_fits)] "fits" go as ρ = .ok (.bl true) := by
  have e1 : gMeth [("Chapter", F_Kind_fits), ("Para", F_Kind_fits), ("Table", F_Table_fits)] "fits" go as ρ = metD [("Chapter", F_Kind_fits), ("Para", F_Kind_fits), ("Table", F_Table_fits)] "fits" K fun G => G [c] := by
    unfold gMeth
    rw [h1, ok_bind, h2]
    rfl
  rw [e1]
  cases h with
  | chapter => exact ((f_fits_ok hc).1 rfl).1
  | para => exact ((f_fits_ok hc).1 rfl).2
  | table => exact (f_fits_ok hc).2 rfl _
theorem full_tup {M : Mem} {C : D} {W : List D} {q : Nat} (hC : cvD false 3 C = true) (hq : M[q]? = some (false, .list W)) (hW : cvD true 1 (.list W) = true) : P.full M (true, .tup [C, .loc q]) = some (.tup [C, .list W]) := by
  have e := fu_loc hq hW
  show ((D.put (memD M M.length) C).bind fun e => ((D.put (memD M M.length) (.loc q)).bind fun e => (some ([] : List D)).map (e :: ·)).map (e :: ·)).map D.tup = _
  rw [put_cv 3 C hC]
  have e' : D.put (memD M M.length) (.loc q) = some (.list W) := e
  rw [e']
  rfl
theorem JJ_cont {t : Bool} {b o e : D} (hb : ContOk t b) (ho : ContOk t o) (he : ContOk t e) : ContOk t (JJ t b o e).1 := by
  unfold JJ
  split
  · exact ho
  split
  · exact he
  split
  · exact ho
  cases t with
  | false => exact hb
  | true =>
    obtain ⟨rb, rfl, hb', b1, b2, b3, b4⟩ := TableOk.rws hb
    obtain ⟨ro, rfl, ho', o1, o2, o3, o4⟩ := TableOk.rws ho
    obtain ⟨re, rfl, he', e1, e2, e3, e4⟩ := TableOk.rws he
    unfold clC
    dsimp only
    split
    · rename_i h
      rw [h.1, h.2.2.1] at ho'
      rw [h.2.1, h.2.2.2] at he'
      refine ⟨_, firstLen rb, rfl, by rw [rowsJ_len]; omega, by rw [rowsJ_len]; omega, b3, b4, fun r hr => ?_⟩
      unfold rowsJ at hr
      obtain ⟨j, hj, rfl⟩ := List.mem_map.mp hr
      exact ⟨_, rfl, rowJ_len _ _ _ _ _, row_cv' hb' ho' he' (List.mem_range.mp hj)⟩
    · exact hb
theorem word_cv {j k : Nat} (hj : j < 6) (hk : k < 6) : cvD true 0 (.str (wordOf j k)) = true := by
  obtain ⟨l1, a1, _⟩ := nS_len j hj
  obtain ⟨l2, a2, _⟩ := nS_len k hk
  have c5 : (Str.ofString "cell ").length = 5 := by decide +kernel
  have c1 : (Str.ofString " ").length = 1 := by decide +kernel
  have k5 : ∀ c ∈ cps (Str.ofString "cell "), c < 1114112 := by decide +kernel
  have k1 : ∀ c ∈ cps (Str.ofString " "), c < 1114112 := by decide +kernel
  show (PyData.strOk (wordOf j k) && decide ((wordOf j k).length ≤ 1000)) = true
  rw [strOk_of fun c hc => ?_, decide_eq_true (by unfold wordOf; rw [len_app, len_app, len_app]; omega)]
  · rfl
  · unfold wordOf at hc
    rw [cps_app, cps_app, cps_app] at hc
    simp only [List.mem_append] at hc
    rcases hc with ((h | h) | h) | h
    · exact k5 c h
    · exact of_decide_eq_true (List.all_eq_true.mp a1 c h)
    · exact k1 c h
    · exact of_decide_eq_true (List.all_eq_true.mp a2 c h)
theorem JJ_words {t : Bool} {b o e : D} (hb : ContOk t b) (ho : ContOk t o) (he : ContOk t e) : cvD true 1 (.list (JJ t b o e).2) = true := by
  have nl : cvD true 1 (.list []) = true := rfl
  have ct : cvD true 1 (.list [.str "content"]) = true := by decide +kernel
  unfold JJ
  split
  · exact nl
  split
  · exact nl
  split
  · exact nl
  cases t with
  | false => exact ct
  | true =>
    obtain ⟨rb, rfl, hb', b1, b2, b3, b4⟩ := TableOk.rws hb
    obtain ⟨ro, rfl, _⟩ := TableOk.rws ho
    obtain ⟨re, rfl, _⟩ := TableOk.rws he
    unfold clC
    dsimp only
    split
    · refine List.all_eq_true.mpr fun d hd => ?_
      unfold wordsJ at hd
      obtain ⟨l, hl, hd⟩ := List.mem_flatten.mp hd
      obtain ⟨j, hj, rfl⟩ := List.mem_map.mp hl
      unfold wordsRow at hd
      obtain ⟨k, hk, rfl⟩ := List.mem_map.mp hd
      have hj := List.mem_range.mp hj
      have hk := List.mem_range.mp (List.mem_filter.mp hk).1
      exact word_cv (by omega) (by omega)
    · exact ct
theorem same_at {C : D} {W : List D} (hC : cvD false 3 C = true) (hW : cvD true 1 (.list W) = true) : F__law_same [.tup [C, .list W], .tup [C, .list W]] = .ok (.bl true) := by
  show endS (S__law_same [some (.tup [C, .list W]), some (.tup [C, .list W])]) = _
  unfold S__law_same
  walk_at "pdv"
  rw [cv_eq hC hC, cv_eq hW hW, eqB_same, eqB_same]
  walk_at "pd"
theorem JJ_wlen {t : Bool} {b o e : D} (hb : ContOk t b) (ho : ContOk t o) (he : ContOk t e) : (JJ t b o e).2.length ≤ 36 := by
  unfold JJ
  split
  · exact Nat.zero_le _
  split
  · exact Nat.zero_le _
  split
  · exact Nat.zero_le _
  cases t with
  | false => show (1 : Nat) ≤ 36; decide
  | true =>
    obtain ⟨rb, rfl, hb', b1, b2, b3, b4⟩ := TableOk.rws hb
    obtain ⟨ro, rfl, _⟩ := TableOk.rws ho
    obtain ⟨re, rfl, _⟩ := TableOk.rws he
    unfold clC
    dsimp only
    split
    · have lw := wordsJ_len rb ro re (firstLen rb) rb.length
      have lm : rb.length * firstLen rb ≤ 6 * 6 := Nat.mul_le_mul b2 b4
      show (wordsJ rb ro re rb.length (firstLen rb)).length ≤ 36
      omega
    · show (1 : Nat) ≤ 36; decide
theorem jm_at {k : Str} {t : Bool} {K b o e : D} (h : KO k t K) (hb : ContOk t b) (ho : ContOk t o) (he : ContOk t e) {go : Rho → R D} {as : Rho → R (List D)} {ρ : Rho} (h1 : go ρ = .ok K) (h2 : as ρ = .ok [b, o, e]) :
    gMeth [("Chapter", FQ_Kind_joined.down), ("Para", FQ_Kind_joined.down), ("Table", FQ_Kind_joined.down)] "joined" go as ρ = .ok (.tup [(JJ t b o e).1, .list (JJ t b o e).2]) := by
  have e1 : gMeth [("Chapter", FQ_Kind_joined.down), ("Para", FQ_Kind_joined.down), ("Table", FQ_Kind_joined.down)] "joined" go as ρ = metD [("Chapter", FQ_Kind_joined.down), ("Para", FQ_Kind_joined.down), ("Table", FQ_Kind_joined.down)] "joined" K fun G => G [b, o, e] := by
    unfold gMeth
    rw [h1, ok_bind, h2]
    rfl
  have e2 : metD [("Chapter", FQ_Kind_joined.down), ("Para", FQ_Kind_joined.down), ("Table", FQ_Kind_joined.down)] "joined" K (fun G => G [b, o, e]) = (FQ_Kind_joined [(false, K), (false, b), (false, o), (false, e)] []).down := by
    cases h <;> rfl
  obtain ⟨q, M', e3, e4⟩ := kj_at h.kind hb ho he (K := K) (by cases h <;> simp) []
  rw [e1, e2, e3]
  show (match P.full M' (true, .tup [(JJ t b o e).1, .loc q]) with
    | some d => R.ok d
    | none => .st) = _
  rw [full_tup (cont_cv (JJ_cont hb ho he)) e4 (JJ_words hb ho he)]
theorem cell_at (ns : List Int) (k : Nat) : ∃ v : Int, F__law_cell [.list (ns.map D.int), .int (k : Int)] = .ok (.int v) := by
  show ∃ v : Int, endS (S__law_cell [some (.list (ns.map D.int)), some (.int (k : Int))]) = .ok (.int v)
  unfold S__law_cell
  walk_at "pd"
  rw [List.length_map]
  by_cases h : (k : Int) < (ns.length : Int)
  · rw [decide_eq_true h]
    walk_at "pd"
    obtain ⟨d, e, m⟩ := ix_any (ds := ns.map D.int) (i := (k : Int)) (by omega) (by rw [List.length_map]; exact h)
    obtain ⟨v, _, rfl⟩ := List.mem_map.mp m
    rw [e]
    exact ⟨v, rfl⟩
  · rw [decide_eq_false h]
    walk_at "pd"
    exact ⟨_, rfl⟩
theorem law_step (ns : List Int) {w : Str} {t : Bool} {K : D} (h : KO w t K) (i : Nat) (hi : i ≤ 3) (x3 x4 x5 x6 x7 x8 : Option P) (M : Mem) : ∃ y3 y4 y5 y6 y7 y8 M', B_law_0 [some (false, .list (ns.map D.int)), some (false, .int (i : Int)), some (false, .str w), x3, x4, x5, x6, x7, x8] M =
    .nx [some (false, .list (ns.map D.int)), some (false, .int (i : Int)), some (false, .str w), y3, y4, y5, y6, y7, y8] M' := by
  obtain ⟨v0, c0⟩ := cell_at ns (3 * i)
  obtain ⟨v1, c1⟩ := cell_at ns (3 * i + 1)
  obtain ⟨v2, c2⟩ := cell_at ns (3 * i + 2)
  obtain ⟨b, eb, hb⟩ := content_at h.kind v0
  obtain ⟨o, eo, ho⟩ := made_at h.kind hb v1
  obtain ⟨e, ee, he⟩ := made_at h.kind hb v2
  have c0' : F__law_cell [.list (ns.map D.int), .int (3 * (i : Int))] = .ok (.int v0) := c0
  have c1' : F__law_cell [.list (ns.map D.int), .int (3 * (i : Int) + 1)] = .ok (.int v1) := c1
  have c2' : F__law_cell [.list (ns.map D.int), .int (3 * (i : Int) + 2)] = .ok (.int v2) := c2
  obtain ⟨q, M', ej, hq⟩ := kj_at h.kind hb ho he (K := K) (by cases h <;> simp) M
  have hJ := JJ_cont hb ho he
  have hW := JJ_words hb ho he
  have hcv := cont_cv hJ
  have hs := same_at hcv hW
  have hfull := full_tup hcv hq hW
  unfold B_law_0
  walk_at "pdr"
  rw [kow_at h]
  walk_at "pdr"
  rw [c0']
  walk_at "pdr"
  rw [eb]
  walk_at "pdr"
  rw [c1']
  walk_at "pdr"
  rw [eo]
  walk_at "pdr"
  rw [c2']
  walk_at "pdr"
  rw [ee]
  walk_at "pdr"
  rw [lj_at h.kind hb ho he]
  walk_at "pdr"
  rw [show ∀ ρ : RhoQ, ρ = [some (false, .list (ns.map D.int)), some (false, .int (i : Int)), some (false, .str w), some (false, K), some (false, b), some (false, o), some (false, e), some (false, .tup [(JJ t b o e).1, .list (JJ t b o e).2]), x8] → qMeth [("Chapter", FQ_Kind_joined), ("Para", FQ_Kind_joined), ("Table", FQ_Kind_joined)] "joined" (qP (gVar 3)) (qPA (aCons (gVar 4) (aCons (gVar 5) (aCons (gVar 6) aNil)))) ρ M = .ok (true, .tup [(JJ t b o e).1, .loc q]) M' by
    rintro ρ rfl
    rw [← ej]
    cases h <;> rfl] <;> try rfl
  have hwl := JJ_wlen hb ho he
  have j1 : ∀ (go : Rho → R D) (as : Rho → R (List D)) (ρ : Rho), go ρ = .ok K → as ρ = .ok [b, e, o] → gMeth [("Chapter", FQ_Kind_joined.down), ("Para", FQ_Kind_joined.down), ("Table", FQ_Kind_joined.down)] "joined" go as ρ = .ok (.tup [(JJ t b o e).1, .list (JJ t b o e).2]) := fun go as ρ h1 h2 => by
    rw [JJ_comm]
    exact jm_at h hb he ho h1 h2
  have j2 : ∀ (go : Rho → R D) (as : Rho → R (List D)) (ρ : Rho), go ρ = .ok K → as ρ = .ok [b, o, e] → gMeth [("Chapter", FQ_Kind_joined.down), ("Para", FQ_Kind_joined.down), ("Table", FQ_Kind_joined.down)] "joined" go as ρ = .ok (.tup [(JJ t b o e).1, .list (JJ t b o e).2]) := fun go as ρ h1 h2 => jm_at h hb ho he h1 h2
  have j3 : ∀ (go : Rho → R D) (as : Rho → R (List D)) (ρ : Rho), go ρ = .ok K → as ρ = .ok [b, b, o] → gMeth [("Chapter", FQ_Kind_joined.down), ("Para", FQ_Kind_joined.down), ("Table", FQ_Kind_joined.down)] "joined" go as ρ = .ok (.tup [o, .list []]) := fun go as ρ h1 h2 => by
    have := jm_at h hb hb ho h1 h2
    rw [JJ_base] at this
    exact this
  have so := same_at (C := o) (W := []) (cont_cv ho) rfl
  clear ej
  generalize JJ t b o e = J at *
  rw [s_ok]
  walk_at "pdr"
  rw [hfull]
  walk_at "pdr"
  rw [hs]
  walk_at "pdr"
  rw [fits_at h hJ rfl (by walk_at "pd")]
  walk_at "pdr"
  rw [show notTD (.bl true) (.bl true) = .ok (.bl false) from rfl]
  walk_at "pdr"
  rw [e_qApp (k := q) (b := false) (b0 := false) (ds := J.2) (ds0 := J.2) (p := (false, .str "more")) (M1 := M') (by
    walk_at "pdr"
    exact ixP_tup (atI_nat (j := 1) rfl)) hq rfl hq (by rw [sizeLine_eq]; omega)]
  walk_at "pdr"
  rw [j1 _ _ _ rfl rfl]
  walk_at "pdr"
  rw [hs]
  walk_at "pdr"
  rw [j2 _ _ _ rfl rfl]
  walk_at "pdr"
  rw [hs]
  walk_at "pdr"
  rw [j3 _ _ _ rfl rfl]
  walk_at "pdr"
  rw [so]
  walk_at "pdr"
  exact ⟨_, _, _, _, _, _, _, rfl⟩
theorem law_true (ns : List Int) (hn : ns.length ≤ 63) : FQ_law.down [.list (ns.map D.int)] = .ok (.bl true) := by
  show (endQ (SQ_law [some (false, .list (ns.map D.int)), none, none, none, none, none, none, none, none] [])).down = _
  unfold SQ_law
  rw [q_seq, e_sqFor (items := [.tup [.int (0 : Nat), .str "chapter"], .tup [.int (1 : Nat), .str "para"], .tup [.int (2 : Nat), .str "table"], .tup [.int (3 : Nat), .str "table"]]) (by
    walk_at "pdr"
    rfl)]
  generalize hM : forLQ _ _ _ _ _ = q
  obtain ⟨ρ', M', rfl, ⟨p1, p2, p3, p4, p5, p6, p7, p8, rfl⟩⟩ := forLQ_out hM (fun i ρ M' => ∃ p1 p2 p3 p4 p5 p6 p7 p8, ρ = [some (false, .list (ns.map D.int)), p1, p2, p3, p4, p5, p6, p7, p8]) ⟨_, _, _, _, _, _, _, _, rfl⟩ (by
    rintro i q ρ M2 hq ⟨p1, p2, p3, p4, p5, p6, p7, p8, rfl⟩
    obtain ⟨j, w, t, K, hj, h, rfl⟩ : ∃ (j : Nat) (w : Str) (t : Bool) (K : D), j ≤ 3 ∧ KO w t K ∧ q = (false, .tup [.int (j : Int), .str w]) := by
      have hm := List.mem_of_getElem? hq
      simp only [List.map_cons, List.map_nil, List.mem_cons, List.not_mem_nil, or_false] at hm
      rcases hm with rfl | rfl | rfl | rfl
      · exact ⟨0, _, _, _, by decide, .chapter, rfl⟩
      · exact ⟨1, _, _, _, by decide, .para, rfl⟩
      · exact ⟨2, _, _, _, by decide, .table, rfl⟩
      · exact ⟨3, _, _, _, by decide, .table, rfl⟩
    refine ⟨_, rfl, ?_⟩
    obtain ⟨y3, y4, y5, y6, y7, y8, M', e⟩ := law_step ns h j hj p3 p4 p5 p6 p7 p8 M2
    exact ⟨_, _, e, _, _, _, _, _, _, _, _, rfl⟩)
  walk_at "pdr"
  rfl

end Pd

theorem PySem.Challenge.cw_manyleaf_k22_contents_joined_holds : PySem.Challenge.rw_manyleaf_k22_contents_joined.Holds := by
  exact Pd.holds_of Pd.law_true
